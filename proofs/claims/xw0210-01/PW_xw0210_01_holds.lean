import PyProof.Rows.All
import Wide.All
import OpenK.AllK
import Wide.FinOn
import Lean
import PySem.Challenge.RW_xw0210_01
set_option Elab.async false
set_option maxRecDepth 100000
set_option maxHeartbeats 8000000
set_option compiler.extract_closed false
set_option linter.all false

-- HdT
section
open PySem PySem.W PyProof.Rows
namespace Mine
/-- the top's run over a tree of objects -/
def topT (tb : String → Option Builtin) (p : Program) (w : World) (n₀ : Nat) (ann : Option Value) : Nat → SharedT → Thread → Option SharedT
  | 0, _, _ => none
  | n + 1, s, t => match through t with
    | true => some s
    | false => match stepOk n₀ ann t with
      | false => none
      | true => match stepT (denote tb) p w s t with
        | some (s', t') => topT tb p w n₀ ann n s' t'
        | none => none
theorem topT_of {tb : String → Option Builtin} {p : Program} {w : World} {n₀ : Nat} {ann : Option Value} : ∀ {n : Nat} {s s' : SharedT} {t : Thread}, topT tb p w n₀ ann n s t = some s' → topRun tb p w n₀ ann n s.abs t = some s'.abs
  | 0, _, _, _, h => by cases h
  | n + 1, s, s', t, h => by
    unfold topT at h
    unfold topRun
    cases ht : through t with
    | true => rw [ht] at h; cases h; rfl
    | false =>
      rw [ht] at h
      cases hk : stepOk n₀ ann t with
      | false => rw [hk] at h; cases h
      | true =>
        rw [hk] at h
        cases hs : stepT (denote tb) p w s t with
        | none => rw [hs] at h; cases h
        | some q =>
          obtain ⟨s₂, t₂⟩ := q
          rw [hs] at h
          have e := stepT_spec hs
          show (match step (denote tb) p w s.abs t with | .go s' t' => topRun tb p w n₀ ann n s' t' | .halt _ _ => none) = _
          rw [e]
          exact topT_of h
/-- the same run by the library's quick twins -/
noncomputable def topQ (tb : String → Option Builtin) (p : Program) (w : World) (n₀ : Nat) (ann : Option Value) : Nat → SharedT → Thread → Option SharedT
  | 0, _, _ => none
  | n + 1, s, t => match through t with
    | true => some s
    | false => match PySem.W.Fast.tw6613529449190102663 n₀ ann t with
      | false => none
      | true => match PySem.W.Fast.tw10156331382660048174 (PySem.W.Fast.tw11892475500146522536 tb) p w s t with
        | some (s', t') => topQ tb p w n₀ ann n s' t'
        | none => none
theorem topQ_eq {tb : String → Option Builtin} {p : Program} {w : World} {n₀ : Nat} {ann : Option Value} : ∀ (n : Nat) (s : SharedT) (t : Thread), topT tb p w n₀ ann n s t = topQ tb p w n₀ ann n s t
  | 0, _, _ => rfl
  | n + 1, s, t => by
    unfold topT topQ
    rw [← PySem.W.Fast.te6613529449190102663, ← PySem.W.Fast.te10156331382660048174, ← PySem.W.Fast.te11892475500146522536]
    simp only [topQ_eq n]
    try rfl
theorem left_of_tree {p q : Program} {loose : List Str} {Xt : Shared → Bool} {α : Type} {Yf : Shared → α} {Ya : World → α} {N m₀ : Nat} {T₀ : Params → BT} {life : Params → Life} {ann : Option Value}
    (e : opening p = plainProg p.main.scope.names) (hN : Nat.ble 600 N = true) (f : ∀ s, fenceModules? p s = some s) (hT : ∀ P, boot_heap P = absHeap (T₀ P) m₀ (life P))
    (size : ∀ w : World, ((boot_heap w.params).isNs mainGlobals, (boot_heap w.params).objs.size, (boot_heap w.params).nsMap mainGlobals "__annotations__") = (true, m₀, ann))
    (run1 : ∀ w : World, (fun os => (topQ PySem.W.Fast.tw14364793385576792824 p w m₀ ann N ⟨T₀ w.params, m₀, life w.params, #[], boot_drawn, boot_toks, os⟩ (topStub p)).map (fun s =>
      staticsOk (PySem.W.Fast.tw5923862056798008813 p.main.body) (boot_heap w.params) s.abs.heap && namesBound p s.abs.heap && gensDone s.abs && laidKept (boot_heap w.params) s.abs.heap)) = fun _ => some true)
    (run2 : ∀ w : World, (fun os => (topQ PySem.W.Fast.tw14364793385576792824 p w m₀ ann N ⟨T₀ w.params, m₀, life w.params, #[], boot_drawn, boot_toks, os⟩ (topStub p)).map (fun s =>
      PySem.W.Fast.tw4187177175401517315 q loose (PySem.W.Fast.tw5923862056798008813 p.main.body) Xt true s.abs)) = fun _ => some (openGood q loose))
    (run3 : ∀ w : World, (fun os => (topQ PySem.W.Fast.tw14364793385576792824 p w m₀ ann N ⟨T₀ w.params, m₀, life w.params, #[], boot_drawn, boot_toks, os⟩ (topStub p)).map (fun s => Yf s.abs)) = fun _ => some (Ya w)) : LeftO p q loose Xt Yf Ya N := fun w => by
  obtain ⟨⟨h, gs, d, k, os⟩, e1, e2⟩ := Option.map_eq_some_iff.mp (boot_open (N := N) e hN f w)
  obtain ⟨rfl, rfl, rfl, rfl⟩ : h = boot_heap w.params ∧ gs = #[] ∧ d = boot_drawn ∧ k = boot_toks := by simpa using e2
  have r1 := run1 w
  have r2 := run2 w
  rw [← PySem.W.Fast.te14364793385576792824, ← PySem.W.Fast.te5923862056798008813] at r1
  rw [← PySem.W.Fast.te14364793385576792824, ← PySem.W.Fast.te4187177175401517315, ← PySem.W.Fast.te5923862056798008813] at r2
  have r3 := run3 w
  rw [← PySem.W.Fast.te14364793385576792824] at r3
  obtain ⟨s, h1, l1⟩ := Option.map_eq_some_iff.mp (congrFun r1 os)
  have e2 := congrFun r2 os
  have e3 := congrFun r3 os
  rw [h1] at e2 e3
  have l2 := Option.some.inj e2
  have l3 := Option.some.inj e3
  dsimp only at l2 l3
  rw [← topQ_eq] at h1
  obtain ⟨z1, z2, z3⟩ : _ ∧ _ ∧ _ := by simpa only [Prod.mk.injEq] using size w
  have r := topT_of h1
  have hs : (⟨T₀ w.params, m₀, life w.params, #[], boot_drawn, boot_toks, os⟩ : SharedT).abs = ⟨boot_heap w.params, #[], boot_drawn, boot_toks, os⟩ := by unfold SharedT.abs; rw [hT w.params]
  rw [hs] at r
  unfold openEnds
  rw [e1]
  show (topFrom treeTable p w N ⟨boot_heap w.params, #[], boot_drawn, boot_toks, os⟩).map _ = _
  unfold topFrom
  simp only [z1, Bool.true_and]
  show ((topRun treeTable p w (boot_heap w.params).objs.size ((boot_heap w.params).nsMap mainGlobals "__annotations__") N ⟨boot_heap w.params, #[], boot_drawn, boot_toks, os⟩ (topStub p)).bind _).map _ = _
  rw [z2, z3, r]
  show (match (staticsOk (importedModules p.main.body) (boot_heap w.params) s.abs.heap && namesBound p s.abs.heap && gensDone s.abs && laidKept (boot_heap w.params) s.abs.heap) with | true => some s.abs | false => none).map _ = _
  rw [l1]
  show some (_, _) = _
  rw [l2, l3]
/-- the object at a, looked up in the tree -/
def getT (s : SharedT) (a : Addr) : Option Obj := match Nat.blt a s.n with
  | true => match (s.tree.get a).getD default with
    | ⟨_, _, .freed, _⟩ => none
    | o => some o
  | false => none
theorem getT_eq (s : SharedT) (a : Addr) : s.abs.heap.get? a = getT s a := by
  unfold Heap.get? getT SharedT.abs
  dsimp only
  rw [absHeap_at]
  by_cases h : a < s.n
  · rw [if_pos h, show Nat.blt a s.n = true from Nat.ble_eq_true_of_le h]
    generalize (s.tree.get a).getD default = o
    obtain ⟨c, d, dt, sl⟩ := o
    cases dt <;> rfl
  · rw [if_neg h, show Nat.blt a s.n = false from by rw [Bool.eq_false_iff]; exact fun z => h (Nat.le_of_ble_eq_true z)]
/-- the parts of a look, so that each is a check of its own -/
def part1 {α β : Type} : α × β → α | (a, _) => a
def part2 {α β γ δ ε : Type} : α × β × γ × δ × ε → β × γ × δ | (_, b, c, d, _) => (b, c, d)
def part3 {α β γ δ ε : Type} : α × β × γ × δ × ε → ε | (_, _, _, _, e) => e
theorem parts_whole {S α β γ δ ε : Type} {x : Option S} {f : S → α × β × γ × δ × ε} {a : α} {b : β} {c : γ} {d : δ} {e : ε} (h1 : x.map (fun s => part1 (f s)) = some a) (h2 : x.map (fun s => part2 (f s)) = some (b, c, d)) (h3 : x.map (fun s => part3 (f s)) = some e) : x.map f = some (a, b, c, d, e) := by
  cases x with
  | none => cases h1
  | some s =>
    simp only [Option.map_some, Option.some.injEq] at h1 h2 h3 ⊢
    generalize f s = y at *
    obtain ⟨a', b', c', d', e'⟩ := y
    simp only [part1, part2, part3, Prod.mk.injEq] at h1 h2 h3 ⊢
    exact ⟨h1, h2.1, h2.2.1, h2.2.2, h3⟩
end Mine
end

-- HdM
section
open PySem PySem.W PyProof.Rows
namespace Mine
/-- the text's statements but for the five assignments of __name__ -/
noncomputable def keepAt (l : List Stmt) : List Stmt := l.take 1 ++ ((l.drop 2).take 11 ++ ((l.drop 14).take 2 ++ ((l.drop 17).take 5 ++ ((l.drop 23).take 1 ++ l.drop 25))))
noncomputable def view : Program := { PySem.Challenge.pw_xw0210_01 with main := { PySem.Challenge.pw_xw0210_01.main with body := keepAt PySem.Challenge.pw_xw0210_01.main.body } }
/-- the objects that stand ahead of the text, as a tree -/
noncomputable def bootT (P : Params) : BT := .node (boot_o_0 P) (.node (boot_o_1 P) (.node (boot_o_3 P) (.node (boot_o_7 P) .nil .nil) .nil) (.node (boot_o_5 P) (.node (boot_o_9 P) .nil .nil) .nil)) (.node (boot_o_2 P) (.node (boot_o_4 P) (.node (boot_o_8 P) .nil .nil) .nil) (.node (boot_o_6 P) (.node (boot_o_10 P) .nil .nil) .nil))
/-- the law's own words are well said -/
theorem law_said : PySem.Challenge.rw_xw0210_01.wellSaid = true := (congrFun PySem.W.Fast.te9446332074065402090 _).trans (by kernel_rfl)
/-- the top runs, and keeps what stood -/
theorem run_kept (w : World) : (fun os => (topQ PySem.W.Fast.tw14364793385576792824 PySem.Challenge.rw_xw0210_01.row.prog w 11 (some (.ref 6)) 4276 ⟨bootT w.params, 11, (boot_heap w.params).life, #[], boot_drawn, boot_toks, os⟩ (topStub PySem.Challenge.rw_xw0210_01.row.prog)).map (fun s =>
    staticsOk (PySem.W.Fast.tw5923862056798008813 PySem.Challenge.rw_xw0210_01.row.prog.main.body) (boot_heap w.params) s.abs.heap && namesBound PySem.Challenge.rw_xw0210_01.row.prog s.abs.heap && gensDone s.abs && laidKept (boot_heap w.params) s.abs.heap)) = fun _ => some true := by kernel_rfl
/-- what it leaves is what the look wants -/
theorem run_good1 (w : World) : (fun os => (topQ PySem.W.Fast.tw14364793385576792824 PySem.Challenge.rw_xw0210_01.row.prog w 11 (some (.ref 6)) 4276 ⟨bootT w.params, 11, (boot_heap w.params).life, #[], boot_drawn, boot_toks, os⟩ (topStub PySem.Challenge.rw_xw0210_01.row.prog)).map (fun s => part1 (PySem.W.Fast.tw4187177175401517315 Mine.view [Str.ofString "SyntaxFault"] (PySem.W.Fast.tw5923862056798008813 PySem.Challenge.rw_xw0210_01.row.prog.main.body) (fun s => xlAt Mine.view [] s && recOk (RowW.records (OpenRow.toRowW PySem.Challenge.rw_xw0210_01.row)) s) true s.abs))) = fun _ => some (expectedOf Mine.view) := by kernel_rfl
theorem run_good2 (w : World) : (fun os => (topQ PySem.W.Fast.tw14364793385576792824 PySem.Challenge.rw_xw0210_01.row.prog w 11 (some (.ref 6)) 4276 ⟨bootT w.params, 11, (boot_heap w.params).life, #[], boot_drawn, boot_toks, os⟩ (topStub PySem.Challenge.rw_xw0210_01.row.prog)).map (fun s => part2 (PySem.W.Fast.tw4187177175401517315 Mine.view [Str.ofString "SyntaxFault"] (PySem.W.Fast.tw5923862056798008813 PySem.Challenge.rw_xw0210_01.row.prog.main.body) (fun s => xlAt Mine.view [] s && recOk (RowW.records (OpenRow.toRowW PySem.Challenge.rw_xw0210_01.row)) s) true s.abs))) = fun _ => some ((bltViewBooted, true, true)) := by kernel_rfl
theorem run_good3 (w : World) : (fun os => (topQ PySem.W.Fast.tw14364793385576792824 PySem.Challenge.rw_xw0210_01.row.prog w 11 (some (.ref 6)) 4276 ⟨bootT w.params, 11, (boot_heap w.params).life, #[], boot_drawn, boot_toks, os⟩ (topStub PySem.Challenge.rw_xw0210_01.row.prog)).map (fun s => part3 (PySem.W.Fast.tw4187177175401517315 Mine.view [Str.ofString "SyntaxFault"] (PySem.W.Fast.tw5923862056798008813 PySem.Challenge.rw_xw0210_01.row.prog.main.body) (fun s => xlAt Mine.view [] s && recOk (RowW.records (OpenRow.toRowW PySem.Challenge.rw_xw0210_01.row)) s) true s.abs))) = fun _ => some ((pinGoodD (drecsOf Mine.view), plainGoodE Mine.view (looseW Mine.view [Str.ofString "SyntaxFault"]), plainGoodD Mine.view [Str.ofString "SyntaxFault"], wideGood Mine.view, clsGoodW Mine.view [Str.ofString "SyntaxFault"])) := by kernel_rfl
theorem run_good (w : World) : (fun os => (topQ PySem.W.Fast.tw14364793385576792824 PySem.Challenge.rw_xw0210_01.row.prog w 11 (some (.ref 6)) 4276 ⟨bootT w.params, 11, (boot_heap w.params).life, #[], boot_drawn, boot_toks, os⟩ (topStub PySem.Challenge.rw_xw0210_01.row.prog)).map (fun s => PySem.W.Fast.tw4187177175401517315 Mine.view [Str.ofString "SyntaxFault"] (PySem.W.Fast.tw5923862056798008813 PySem.Challenge.rw_xw0210_01.row.prog.main.body) (fun s => xlAt Mine.view [] s && recOk (RowW.records (OpenRow.toRowW PySem.Challenge.rw_xw0210_01.row)) s) true s.abs)) = fun _ => some (openGood Mine.view [Str.ofString "SyntaxFault"]) :=
  funext fun os => parts_whole (congrFun (run_good1 w) os) (congrFun (run_good2 w) os) (congrFun (run_good3 w) os)
/-- what the head wants of the top -/
theorem head_of {H : Hook} {K : Params → Frag} {as : List Addr} {e : ∀ P, as = (K P).map (·.1)} (hH : H = kHook K as e) {d : DefRec} {kwd : List (Str × Expr)} (k1 : PySem.Challenge.rw_xw0210_01.row.wellSaid = true) (hdef : defOf Mine.view PySem.Challenge.rw_xw0210_01.row.name = some (d, kwd)) (hp : PySem.Challenge.rw_xw0210_01.row.prog.theDef PySem.Challenge.rw_xw0210_01.row.name = some (d.params, d.body, d.scope)) (hk : kwWritten? d.params.kwonlyargs d.params.kw_defaults = some kwd)
    (run : ∀ w : World, (fun os => (topQ PySem.W.Fast.tw14364793385576792824 PySem.Challenge.rw_xw0210_01.row.prog w 11 (some (.ref 6)) 4276 ⟨bootT w.params, 11, (boot_heap w.params).life, #[], boot_drawn, boot_toks, os⟩ (topStub PySem.Challenge.rw_xw0210_01.row.prog)).map (fun s => as.map (getT s))) = fun _ => some ((K w.params).map fun p => some p.2))
    (hw : PySem.Challenge.rw_xw0210_01.row.toRowW.promised) (hc : WalkO Mine.view [Str.ofString "SyntaxFault"] (XL Mine.view []) H.says PySem.Challenge.rw_xw0210_01.row.toRowW d kwd fun f vs => PySem.call f vs) : PySem.Challenge.rw_xw0210_01.row.Holds := by
  subst hH
  exact holds_open (q := Mine.view) (loose := [Str.ofString "SyntaxFault"]) (Xt := fun s => xlAt Mine.view [] s && recOk (RowW.records (OpenRow.toRowW PySem.Challenge.rw_xw0210_01.row)) s) (XP := XL Mine.view []) (Yf := (kHook K as e).obs) (Ya := (kHook K as e).val) (YP := (kHook K as e).says) (N := 4276)
    (left_of_tree (T₀ := bootT) (m₀ := 11) (life := fun P => (boot_heap P).life) (ann := some (.ref 6)) (by kernel_rfl) (by kernel_rfl) (by intro s; kernel_rfl) (by intro P; kernel_rfl) (by intro w; kernel_rfl) run_kept run_good (fun w => by
      have r := run w
      have z : (fun s : SharedT => (kHook K as e).obs s.abs) = fun s => as.map (getT s) := funext fun s => List.map_congr_left fun a _ => getT_eq s a
      rw [z]
      exact r))
    (kHook K as e).of (kHook K as e).keeps (fun s e => xl_of s (Bool.and_eq_true_iff.mp e).1) XL.keeps hdef hp hk (fun s e => recFacts_of (Bool.and_eq_true_iff.mp e).2) (by rfl) k1 (by decide +kernel) ⟨rfl, rfl, rfl, rfl, rfl, by decide +kernel⟩ hw hc
-- the head, with the table of built-in names written out too, over the tree and at once
local macro_rules | `(tactic| k_head) => `(tactic| x_head)
local macro_rules | `(tactic| o_law) => `(tactic| refine holds_law law_said fun said => ?_)
local macro_rules | `(tactic| o_head $h) => `(tactic| (refine head_of (H := $h) rfl (by assumption) (by rfl) (by rfl) (by rfl) ?hl ?hw ?hc; (case hl => intro w; kernel_rfl)))
open_top hd for PySem.Challenge.rw_xw0210_01
end Mine
end

-- Base
section
open PySem PySem.W PyProof.Rows
namespace Mine
abbrev prog : Program := PySem.Challenge.rw_xw0210_01.row.prog
noncomputable abbrev KF (w : World) : Frag := hd.heap_1 w.params
abbrev TopH (mean : ExcName → Option Value) (mg mb : Str → Option Value) (h : Heap) : Prop := Top view (looseW view [Str.ofString "SyntaxFault"]) mean mg mb h
/-- a cursor's dict: its text, its place -/
abbrev curD (h1 h2 : Int) (t1 t2 tx tk : Tok) (x : Str) (k : Int) : Obj := dictOf [⟨h1, .str (Str.ofString "text") t1, .str x tx⟩, ⟨h2, .str (Str.ofString "at") t2, .int k tk⟩] 2
end Mine
end

-- Exc1
section
open PySem PySem.W PyProof.Rows
namespace Mine
/-- the dict of the object at e is de -/
def DictAt (e de : Addr) (h : Heap) : Prop := ∃ o, h.objs[e]? = some o ∧ o.dict = some de
theorem DictAt.push {e de : Addr} {h : Heap} (o : Obj) (x : DictAt e de h) : DictAt e de (h.push o) := by
  obtain ⟨o', ho, hd⟩ := x
  refine ⟨o', ?_, hd⟩
  have : e ≠ h.objs.size := fun q => by rw [q, Array.getElem?_eq_none (Nat.le_refl _)] at ho; cases ho
  cases h; simpa [Heap.push, Array.getElem?_push, this] using ho
theorem DictAt.update {e de : Addr} {h : Heap} {a : Addr} {f : Obj → Obj} (hf : ∀ o, (f o).dict = o.dict) (x : DictAt e de h) : DictAt e de (h.update a f) := by
  obtain ⟨o', ho, hd⟩ := x
  cases h with
  | mk objs l =>
    by_cases q : a = e
    · exact ⟨f o', by simp only [Heap.update, Array.getElem?_modify, q, if_true]; simp only at ho; rw [ho]; rfl, (hf o').trans hd⟩
    · exact ⟨o', by simp only [Heap.update, Array.getElem?_modify, q, if_false]; exact ho, hd⟩
theorem DictAt.of_get {e de : Addr} {h : Heap} {o : Obj} (ho : h.get? e = some o) (hd : o.dict = some de) : DictAt e de h := ⟨o, (Heap.get?_some_iff.mp ho).1, hd⟩
theorem DictAt.get {e de : Addr} {h : Heap} {o : Obj} (x : DictAt e de h) (ho : h.get? e = some o) : o.dict = some de := by
  obtain ⟨o', h1, hd⟩ := x
  rw [(Heap.get?_some_iff.mp ho).1] at h1
  cases h1; exact hd
theorem dict_mapFields (g : Array Value → Array Value) (o : Obj) : (Obj.mapFields g o).dict = o.dict := by
  obtain ⟨c, d, dt, sl⟩ := o
  cases dt <;> rfl

structure KeepsD {α : Type} (t : Sem α) : Prop where
  out : ∀ (M : Model) (Γ : Ctx) (e de : Addr) (P : α → Pos → Shared → Prop) (Ee : Value → Pos → Shared → Prop) (p : Pos) (s : Shared),
    Sem.wp M Γ t P Ee p s → DictAt e de s.heap → Sem.wp M Γ t (fun a p' s' => P a p' s' ∧ DictAt e de s'.heap) Ee p s
namespace KeepsD
variable {α β : Type}
theorem pure (a : α) : KeepsD (Pure.pure a : Sem α) := ⟨fun _ _ _ _ _ _ _ _ h x => ⟨h, x⟩⟩
theorem unsupported (w : String) : KeepsD (PySem.unsupported w : Sem α) := ⟨fun _ _ _ _ _ _ _ _ h _ => h⟩
theorem bind {m : Sem α} {f : α → Sem β} (hm : KeepsD m) (hf : ∀ a, KeepsD (f a)) : KeepsD (m >>= f) := ⟨fun M Γ e de P Ee p s h x => by
  rw [Sem.wp_bind'] at h ⊢
  exact Sem.wp_mono M Γ m (fun a p' s' h' => (hf a).out M Γ e de P Ee p' s' h'.1 h'.2) (fun _ _ _ x => x) p s (hm.out M Γ e de _ Ee p s h x)⟩
theorem ite {c : Prop} [Decidable c] {t u : Sem α} (ht : KeepsD t) (hu : KeepsD u) : KeepsD (if c then t else u) := by split <;> assumption
theorem load (a : Addr) : KeepsD (PySem.load a) := ⟨fun M Γ e de P Ee p s h x => by
  unfold PySem.load at h ⊢
  rw [Sem.wp_load] at h ⊢
  obtain ⟨o, ho, h⟩ := h
  exact ⟨o, ho, h, x⟩⟩
theorem update (a : Addr) (f : Obj → Obj) (hf : ∀ o, (f o).dict = o.dict) : KeepsD (PySem.update a f) := ⟨fun _ _ _ _ _ _ _ _ h x => ⟨h.1, h.2, x.update hf⟩⟩
theorem stack : KeepsD PySem.stack := ⟨fun _ _ _ _ _ _ _ _ h x => by
  unfold PySem.stack at h ⊢
  rw [Sem.wp_stack] at h ⊢
  exact ⟨h, x⟩⟩
theorem alloc (o : Obj) : KeepsD (PySem.alloc o) := ⟨fun _ _ _ _ _ _ _ _ h x => by
  unfold PySem.alloc at h ⊢
  rw [Sem.wp_alloc] at h ⊢
  exact ⟨h, x.push o⟩⟩
theorem field (v : Value) (i : Nat) : KeepsD (PySem.field v i) := ⟨fun _ Γ _ _ P Ee p s h x => by
  rw [wp_field_iff] at h ⊢
  obtain ⟨a, o, vs, y, e1, e2, e3, e4, h⟩ := h
  exact ⟨a, o, vs, y, e1, e2, e3, e4, h, x⟩⟩
theorem setField (v : Value) (i : Nat) (y : Value) : KeepsD (PySem.setField v i y) := ⟨fun _ Γ _ _ P Ee p s h x => by
  rw [wp_setField_iff] at h ⊢
  obtain ⟨a, o, vs, e1, e2, e3, e4, h⟩ := h
  exact ⟨a, o, vs, e1, e2, e3, e4, h, x.update (dict_mapFields _)⟩⟩
theorem newEntry (a b c d e : Value) (pl : List Value) : KeepsD (EntryCells.newEntry a b c d e pl) := by
  unfold EntryCells.newEntry newFields newObj newObjAsIs
  dsimp only
  refine ite (unsupported _) ?_
  exact bind (alloc _) fun _ => pure _
end KeepsD

theorem keepsD_behindIsImport (env : Env) (outer : List Env) : KeepsD (behindIsImport env outer) := by
  unfold behindIsImport
  refine KeepsD.ite (KeepsD.pure _) ?_
  refine KeepsD.ite (KeepsD.pure _) ?_
  exact KeepsD.bind (KeepsD.field _ _) fun _ => KeepsD.pure _
theorem keepsD_underTheClaimsCaller : KeepsD underTheClaimsCaller := by
  unfold underTheClaimsCaller
  exact KeepsD.bind KeepsD.stack fun _ => KeepsD.pure _
theorem keepsD_keptBack (env : Env) (i : Bool) (l : List Env) : KeepsD (keptBack env i l) := by
  cases l with
  | nil =>
    unfold keptBack
    exact KeepsD.ite (KeepsD.pure _) (KeepsD.bind keepsD_underTheClaimsCaller fun _ => KeepsD.pure _)
  | cons => exact KeepsD.pure _
theorem keepsD_readyFrames : ∀ l : List Env, KeepsD (readyFrames l)
  | [] => KeepsD.pure _
  | env :: outer => by
    have ih := keepsD_readyFrames outer
    unfold readyFrames
    split
    · refine KeepsD.bind (KeepsD.load _) fun o => ?_
      refine KeepsD.ite (KeepsD.pure _) ?_
      refine KeepsD.bind (keepsD_behindIsImport _ _) fun _ => ?_
      refine KeepsD.bind (keepsD_keptBack _ _ _) fun _ => ?_
      exact KeepsD.bind (KeepsD.update _ _ (fun _ => rfl)) fun _ => ih
    · exact KeepsD.unsupported _
theorem keepsD_frameObject (l : List Env) : KeepsD (frameObject l) := by
  cases l with
  | nil => exact KeepsD.pure _
  | cons env outer =>
    unfold frameObject
    exact KeepsD.bind (keepsD_readyFrames _) fun _ => KeepsD.pure _
theorem keepsD_frameOf (env : Env) : KeepsD (PySem.frameOf env) := by
  unfold PySem.frameOf frameEnvs
  refine KeepsD.bind (KeepsD.bind KeepsD.stack fun _ => KeepsD.pure _) fun _ => ?_
  refine KeepsD.bind (keepsD_frameObject _) fun o => ?_
  cases o with
  | none => exact KeepsD.unsupported _
  | some f => exact KeepsD.pure _
theorem keepsD_entryPlaceOf (f : Addr) (b : Bool) : KeepsD (entryPlaceOf f b) := by
  unfold entryPlaceOf
  refine KeepsD.bind KeepsD.stack fun acts => ?_
  split
  · exact KeepsD.pure _
  · exact KeepsD.pure _
theorem keepsD_noteFrame (e : Value) (env : Env) : KeepsD (noteFrame e env) := by
  have tail : ∀ head : Value, ∀ f : Addr, KeepsD (do setField e 1 (← EntryCells.newEntry head (← PySem.frameOf env) .none (rawInt f) .none (← entryPlaceOf f (head != .none)))) := fun head f =>
    KeepsD.bind (keepsD_frameOf _) fun _ => KeepsD.bind (keepsD_entryPlaceOf _ _) fun _ => KeepsD.bind (KeepsD.newEntry _ _ _ _ _ _) fun _ => KeepsD.setField _ _ _
  unfold noteFrame
  split
  · refine KeepsD.bind (KeepsD.field _ _) fun head => ?_
    dsimp only
    refine KeepsD.ite ?_ (tail _ _)
    refine KeepsD.bind (KeepsD.field _ _) fun _ => ?_
    refine KeepsD.ite (KeepsD.pure _) ?_
    exact KeepsD.bind (KeepsD.setField _ _ _) fun _ => tail _ _
  · exact KeepsD.unsupported _
theorem keepsD_setFlight (e : Value) (f : Option Addr) : KeepsD (setFlight e f) := by
  unfold setFlight
  refine KeepsD.bind (KeepsD.field _ _) fun _ => ?_
  exact KeepsD.ite (KeepsD.setField _ _ _) (KeepsD.pure _)
theorem keepsD_leaving (env : Env) (e : Value) : KeepsD (leaving env e) := KeepsD.bind (keepsD_noteFrame _ _) fun _ => keepsD_setFlight _ _

theorem wpAny_keepD {α : Type} {M : Model} {A : Around} {t : Sem α} {Q Q' : α → Shared → Prop} {E : Value → Shared → Prop} {s : Shared} {e de : Addr} (k : KeepsD t) (x : DictAt e de s.heap)
    (h : wpAny M A t Q E s) (hQ : ∀ a s', Q a s' → DictAt e de s'.heap → Q' a s') : wpAny M A t Q' E s := fun Γ p hΓ =>
  Sem.wp_mono M Γ t (fun a _ s' h' => hQ a s' h'.1 h'.2) (fun _ _ _ x => x) p s (k.out M Γ e de _ _ p s (h Γ p hΓ) x)

/-- a fault's dict: its message, its place -/
def FaultD (p : Int) (o : Obj) : Prop := ∃ h1 h2 t1 t2 mg tm tp, o = dictOf [⟨h1, .str (Str.ofString "message") t1, .str mg tm⟩, ⟨h2, .str (Str.ofString "place") t2, .int p tp⟩] 2
/-- a SyntaxFault that flies, its place p; rest: what stays of the ledger -/
def RaisedX (base G : Heap) (l : List Env) (e : Addr) (p : Int) (rest : List (Addr × Obj)) (h : Heap) : Prop :=
  ∃ de t vs o, FaultD p o ∧ RaisedS base G l e (.ref 122) t vs ((de, o) :: rest) h ∧ DictAt e de h
theorem RaisedX.sub {base G : Heap} {l : List Env} {e : Addr} {p : Int} {rest rest' : List (Addr × Obj)} {h : Heap} (x : RaisedX base G l e p rest h) (k : ∀ q ∈ rest', q ∈ rest) : RaisedX base G l e p rest' h := by
  obtain ⟨de, t, vs, o, f, ⟨⟨B, b1, b2, b3, b4, b5⟩, tt⟩, d⟩ := x
  exact ⟨de, t, vs, o, f, ⟨⟨B, b1, b2, (fun q hq => by
    rcases List.mem_cons.mp hq with rfl | hq
    · exact b3 _ (.head _)
    · exact b3 _ (.tail _ (k q hq))), b4, b5⟩, tt⟩, d⟩

section
variable {M : Model} {A : Around} {E : Value → Shared → Prop} {s' : Shared} {base g g₂ h : Heap} {outer : List Env} {L a e : Addr} {m : Str → Option Value} {name : Str} {scope : Scope} {cd : Value} {Q : Unit → Shared → Prop} {rest : List (Addr × Obj)} {p : Int}
theorem leave_X (K : Below A base outer g) (F : Fr g L g₂ m) (R : RaisedX base g₂ (envOf name scope L a cd :: outer) e p rest s'.heap) (hsm : g₂.UpToSlots s'.heap)
    (hQ : ∀ h', RaisedX base g outer e p rest h' → g.UpToSlots h' → Q () { s' with heap := h' }) :
    wpAny M (A.deeper (envOf name scope L a cd)) (leaving (envOf name scope L a cd) (.ref e)) Q E s' := by
  obtain ⟨de, t, vs, o, f, R, d⟩ := R
  refine wpAny_keepD (keepsD_leaving _ _) d (leave_onS K F R hsm (Q := fun _ s'' => ∃ h', RaisedS base g outer e (.ref 122) t vs ((de, o) :: rest) h' ∧ g.UpToSlots h' ∧ s'' = { s' with heap := h' }) fun h' x1 _ x3 => ⟨h', x1, x3, rfl⟩) ?_
  rintro _ _ ⟨h', x1, x2, rfl⟩ d'
  exact hQ h' ⟨de, t, vs, o, f, x1, d'⟩ x2

/-- what the making of a fault leaves -/
structure MadeX (h h' : Heap) (e de : Addr) (p : Int) : Prop where
  keep : ∀ b o, h.get? b = some o → h'.get? b = some o
  e0 : h.get? e = none
  de0 : h.get? de = none
  parts : ∃ t vs n o so sl, h'.get? e = some ⟨.ref 122, some de, .fields #[.ref t, .none, .none, .none, .bool false, .none], so⟩ ∧ h.get? t = none ∧ h'.get? t = some ⟨.type "tuple", none, .seq vs n, sl⟩ ∧ FaultD p o ∧ h'.get? de = some o

theorem raise_X {de : Addr} (K : Below A base outer g) (hx : MadeX h s'.heap e de p) (F : Fr g L h m) (N : News g L h rest)
    (hQ : ∀ h', RaisedX base g outer e p rest h' → g.UpToSlots h' → Q () { s' with heap := h' }) (hk : scope.kind = .function := by rfl) :
    wpAny M (A.deeper (envOf name scope L a cd)) (leaving (envOf name scope L a cd) (.ref e)) Q E s' := by
  obtain ⟨t, vs, n, o, so, sl, he, t0, ht, hf, hde⟩ := hx.parts
  have K' := K.push (name := name) (a := a) (cd := cd) F hk
  have fr_sub : ∀ b, b ∈ (envOf name scope L a cd :: outer).filterMap (·.frame) → ∃ o, h.get? b = some o := fun b hb => by
    obtain ⟨o, ho, _⟩ := (K'.frames.mem hb).2
    exact ⟨o, ho⟩
  have hin : ∀ env ∈ (envOf name scope L a cd :: outer), ∀ b, env.frame = some b → b ∈ e :: t :: (envOf name scope L a cd :: outer).filterMap (·.frame) :=
    fun env he b hb => .tail _ (.tail _ (List.mem_filterMap.mpr ⟨env, he, hb⟩))
  have out_of : ∀ b o, h.get? b = some o → b ∉ (envOf name scope L a cd :: outer).filterMap (·.frame) → (hideAll s'.heap (e :: t :: (envOf name scope L a cd :: outer).filterMap (·.frame))).get? b = some o := fun b o q nm =>
    hideAll_get _ (hx.keep b o q) fun hm => by
      rcases List.mem_cons.mp hm with z | hm
      · rw [z, hx.e0] at q; cases q
      rcases List.mem_cons.mp hm with z | hm
      · rw [z, t0] at q; cases q
      · exact nm hm
  have st : base.StaysIn (hideAll s'.heap (e :: t :: (envOf name scope L a cd :: outer).filterMap (·.frame))) := fun b o q => out_of b o (K'.stays b o q) fun hm => by
    rw [(K'.frames.mem hm).1] at q; cases q
  have sg : ∀ b o, g.get? b = some o → b ∉ outer.filterMap (·.frame) → (hideAll s'.heap (e :: t :: (envOf name scope L a cd :: outer).filterMap (·.frame))).get? b = some o := fun b o q nm => out_of b o (F.keep b o q) fun hm => by
    rcases kts_mem hm with z | z
    · rw [z, kts_self F] at q; cases q
    · exact nm z
  have det : de ≠ t := fun z => by
    rw [z, ht] at hde
    obtain ⟨_, _, _, _, _, _, _, rfl⟩ := hf
    have := congrArg (fun x : Option Obj => x.map (·.cls)) hde
    simp [dictOf] at this
  have dee : de ≠ e := fun z => by
    rw [z, he] at hde
    obtain ⟨_, _, _, _, _, _, _, rfl⟩ := hf
    have := congrArg (fun x : Option Obj => x.map (·.cls)) hde
    simp [dictOf] at this
  have hl : ∀ q ∈ (de, o) :: rest, (hideAll s'.heap (e :: t :: (envOf name scope L a cd :: outer).filterMap (·.frame))).get? q.1 = some q.2 ∧ g.get? q.1 = none ∧ base.get? q.1 = none := fun q hq => by
    rcases List.mem_cons.mp hq with rfl | hq
    · have ng : g.get? de = none := kts_none F.keep hx.de0
      refine ⟨hideAll_get _ hde fun hm => ?_, ng, fresh_of_stays K.stays ng⟩
      rcases List.mem_cons.mp hm with z | hm
      · exact dee z
      rcases List.mem_cons.mp hm with z | hm
      · exact det z
      · obtain ⟨o, ho⟩ := fr_sub _ hm
        rw [hx.de0] at ho; cases ho
    · refine ⟨out_of _ _ (N q hq).1 fun hm => ?_, (N q hq).2.2, fresh_of_stays K.stays (N q hq).2.2⟩
      rcases kts_mem hm with z | z
      · exact (N q hq).2.1 z
      · obtain ⟨o, ho, _⟩ := (K.frames.mem z).2
        rw [(N q hq).2.2] at ho; cases ho
  have d0 : DictAt e de s'.heap := DictAt.of_get he rfl
  refine wpAny_keepD (keepsD_leaving _ _) d0 (wpAny_leaving_firstW (a0 := .ref t) K'.stack (funFrames_hide (K'.frames.of_keeps fun b o hb _ => ⟨o, hx.keep b o hb, rfl⟩) hin) rfl he (fun b o q => of_hideAll _ q)
    (hideAll_none _ (.head _)) rfl rfl rfl (Q := fun _ s'' => ∃ h', Heap.LeftW (hideAll s'.heap (e :: t :: (envOf name scope L a cd :: outer).filterMap (·.frame))) (envOf name scope L a cd :: outer) e (.ref 122) (.ref t) s'.heap h' ∧ s'' = { s' with heap := h' })
    fun h' x => ⟨h', x, rfl⟩) ?_
  rintro _ _ ⟨h', ⟨k1, ⟨_, _, k2⟩, k3, k4⟩, rfl⟩ d'
  have tt : h'.TupAt t vs.toList := by
    obtain ⟨sl', hs⟩ := k4 _ _ ht (fun vs q => by cases q)
    exact ⟨_, n, hs, rfl, by simp⟩
  exact hQ h' ⟨de, t, vs.toList, o, hf, ⟨⟨_, st, sg, hl, ⟨k1, hideAll_none _ (.head _), k2, k3⟩, hideAll_none _ (.tail _ (.head _))⟩, tt⟩, d'⟩
    ((Heap.UpToSlots.of_keeps F.keep).trans ((Heap.UpToSlots.of_keeps hx.keep).trans k4))
end
end Mine
end

-- Exc2
section
open PySem PySem.W PyProof.Rows PySem.Calls
namespace Mine
section
variable {prog : Program} {w : World} {A₀ : Around} {E : Value → Shared → Prop} {s' : Shared} {base g G : Heap} {outer : List Env} {L a e : Addr} {m : Str → Option Value} {name : Str} {scope : Scope} {cd : Value}
  {n : Str} {b₀ : Stmt} {suite : List Stmt} {pos np : Pos} {hs : List ExceptHandler} {Q : Flow → Shared → Prop} {rest : List (Addr × Obj)} {KF : Frag} {pl : Int}
  {p : Program} {loose : List Str} {mean : ExcName → Option Value} {mg mb : Str → Option Value} {x : Str}
theorem caught_X (R : RaisedX base G (envOf name scope L a cd :: outer) e pl rest s'.heap) (F : Fr g L G m) (K : Below A₀ base outer g) (hsm : G.UpToSlots s'.heap) (XB : KF.In base) (TB : Top p loose mean mg mb base)
    (D : KtsDicts (outer.filterMap (·.frame)) g) (ex : nsIn KF mainGlobals x = some (some (.ref 122))) (q : ktsIn KF 122 "BaseException" = true)
    (k : ∀ h' g' tk de ws so o, KtsTurn (outer.filterMap (·.frame)) g g' → Fr g' L h' (fun y => if y = n then some (.ref e) else m y) → FaultD pl o →
      News g' L h' ((e, ⟨.ref 122, some de, .fields ws, so⟩) :: (de, o) :: rest) → Below A₀ base outer g' → KF.In g' → Top p loose mean mg mb g' → KtsDicts (outer.filterMap (·.frame)) g' →
      wpAny (model prog w) ((A₀.deeper (envOf name scope L a cd)).mark (some (.ref e))) (execs (b₀ :: suite) (envOf name scope L a cd))
        (fun f s₄ => wpAny (model prog w) (A₀.deeper (envOf name scope L a cd)) (do bindName (envOf name scope L a cd) n .none; unbindBehindTheSuite (envOf name scope L a cd) n pos) (fun _ s₅ => Q f s₅) E s₄)
        (AsSuiteRaised (model prog w) ((A₀.deeper (envOf name scope L a cd)).mark (some (.ref e))) (envOf name scope L a cd) n pos (notedBy (model prog w) ((A₀.deeper (envOf name scope L a cd)).mark (some (.ref e))) (envOf name scope L a cd) (cameBackBy (model prog w) (A₀.deeper (envOf name scope L a cd)) (envOf name scope L a cd) E)))
        { s' with heap := h', toks := tk })
    (hk : scope.kind = .function := by rfl) (hlo : (envOf name scope L a cd).kindOf n = some .local := by rfl) (hx : (envOf name scope L a cd).kindOf x = some .globalImplicit := by rfl) (hd : (x == ("__debug__" : Str)) = false := by decide) :
    wpAny (model prog w) (A₀.deeper (envOf name scope L a cd)) (noteFrame (.ref e) (envOf name scope L a cd))
      (fun _ s₂ => wpAny (model prog w) (A₀.deeper (envOf name scope L a cd)) (setFlight (.ref e) none) (fun _ s₃ =>
        wpAny (model prog w) (A₀.deeper (envOf name scope L a cd)) (handleBy (.ref e) (envOf name scope L a cd) (.ExceptHandler (some (.Name x np)) (some n) (b₀ :: suite) pos :: hs)) Q E s₃) E s₂) E s' := by
  obtain ⟨de, t, vs, od, hf, ⟨⟨B, hB, hBG, hl, hfl, hnew⟩, htup⟩, dk⟩ := R
  have hL : B.get? L = none := by
    obtain ⟨_, ⟨L', _, hf, hn', _⟩, _⟩ := hfl.2.2.1
    obtain rfl : L = L' := Option.some.inj hf
    exact hn'
  refine wpAny_keepD (keepsD_noteFrame _ _) dk (wpAny_looks_onW (Around.frames_deeper K.stack) rfl hfl (Q := fun _ s'' => ∃ h₄, Heap.HeldW B (envOf name scope L a cd :: outer) e (.ref 122) (.ref t) L h₄ ∧ s'.heap.UpToSlots h₄ ∧ s'' = { s' with heap := h₄ }) fun h₄ y1 y2 => ⟨h₄, y1, y2, rfl⟩) ?_
  rintro _ _ ⟨h₄, hheld₄, hsm₄, rfl⟩ dk₄
  refine wpAny_keepD (s := { s' with heap := h₄ }) (keepsD_setFlight _ _) dk₄ (wpAny_landsW hheld₄ (Q := fun _ s'' => ∃ h₅, Heap.FlyingW B (envOf name scope L a cd :: outer) e (.ref 122) (.ref t) h₅ ∧ h₄.UpToSlots h₅ ∧ s'' = { s' with heap := h₅ }) fun h₅ y1 y2 => ⟨h₅, y1, y2, rfl⟩) ?_
  rintro _ _ ⟨h₅, hheld, hsm₅', rfl⟩ dk₅
  have hsm₅ := hsm₄.trans hsm₅'
  obtain ⟨g₅, T₅, F₅, K₅⟩ := kts_ground K F hBG hheld.1 (hsm.trans hsm₅)
  have X₅ : KF.In g₅ := XB.keeps K₅.stays
  have P₅ : TopRead p loose mg mb g₅ := topRead_of (TB.keeps K₅.stays)
  obtain ⟨ob, hob, hobc⟩ := hheld.there
  obtain ⟨nm, q', N, bs, bm, hdct, sn, sub, ab, col, dd, k0, k1, k2, k3, k5, newId, hC, hbase, hbT⟩ := kts_cls X₅ q
  have hC₅ := F₅.keep _ _ hC
  refine wpAny_handleBy_cons (codeAny_handlers_test (name_K F₅ X₅ P₅ ex ?_ hk hx hd)) (by intro q; cases q)
  refine wpAny_excMatches_sub_self hC₅ hob hobc hbase (codeAny_handlers_suite_as ?_)
  refine wpAny_keepD (s := { s' with heap := h₅ }) (keepsD_setFlight _ _) dk₅ (lands_againW hheld (Q := fun _ s'' => ∃ h₆, Heap.FlyingW B (envOf name scope L a cd :: outer) e (.ref 122) (.ref t) h₆ ∧ h₅.UpToSlots h₆ ∧ s'' = { s' with heap := h₆ }) fun h₆ y1 y2 => ⟨h₆, y1, y2, rfl⟩) ?_
  rintro _ _ ⟨h₆, hfl₆, hsm₆, rfl⟩ dk₆
  obtain ⟨g₆, T₆, F₆, K₆⟩ := kts_ground K F hBG hfl₆.1 ((hsm.trans hsm₅).trans hsm₆)
  obtain ⟨⟨oc, odd, oda, osl⟩, ws, hoe, hoec, hoed, hoe0⟩ := hfl₆.first
  have hdk := dk₆.get hoe
  simp only at hoec hoed hdk
  subst hoec hoed hdk
  have ne₆ : g₆.get? e = none := T₆.none_ _ (kts_fresh F hBG hfl₆.2.1 fun o ho m => by
    obtain ⟨_, o', ho', hd⟩ := K.frames.mem m
    rw [ho] at ho'
    cases ho'
    obtain ⟨sl, hs⟩ := ((hsm.trans hsm₅).trans hsm₆) _ _ (F.keep _ _ ho) hd
    have z := congrArg (fun x : Option Obj => x.map (·.data)) (hoe.symm.trans hs)
    simp only [Option.map_some, Option.some.injEq] at z
    exact hd _ z.symm)
  have N₆ := News.more F₆ News.nil hoe (fun es n q => by cases q) ne₆
  have Nl : News g₆ L h₆ ((de, od) :: rest) := fun q hq => ⟨hfl₆.1 _ _ (hl q hq).1, (fun z => by have := (hl q hq).1; rw [z, hL] at this; cases this), T₆.none_ _ (kts_none F.keep (hl q hq).2.1)⟩
  have X₆ : KF.In g₆ := XB.keeps K₆.stays
  have P₆ : Top p loose mean mg mb g₆ := TB.keeps K₆.stays
  have D₆ : KtsDicts (outer.filterMap (·.frame)) g₆ := D.turn T₆
  refine stN F₆ (news := _ ++ (de, od) :: rest) (fun q hq => (List.mem_append.mp hq).elim (N₆ q) (Nl q)) (fun h₇ F₇ N₇ => ?_) hk hlo
  exact k h₇ g₆ _ de ws osl od T₆ F₇ hf N₇ K₆ X₆ P₆ D₆
end
end Mine
end

-- Xs
section
open PySem PySem.W PySem.W.X PyProof.Rows PySem.Calls Builtin Builtin.ObjectAttr
namespace Mine
theorem cd122 (w : World) : ∃ cd, clsIn (hd.heap_1 w.params) 122 = some cd ∧ cd.mro = [.ref 122, .ref 101, .type "Exception", .type "BaseException", .type "object"] ∧ cd.hasDict = true := ⟨_, rfl, rfl, rfl⟩
theorem sa122 (w : World) : findIn (hd.heap_1 w.params) (.ref 122) "__setattr__" = some (some (.builtin "object.__setattr__")) := by rfl
section
variable {w : World} {A : Around} {E : Value → Shared → Prop} {s : Shared} {h₀ : Heap} {L x : Addr} {m : Str → Option Value} {news news' : List (Addr × Obj)} {ox od : Obj} {name : Str} {v : Value}
/-- a store on the fault comes to a store in its dict -/
theorem set_x {oo : Option Obj} {Q : Unit → Shared → Prop} (X : (hd.heap_1 w.params).In s.heap) (I : InstAt s.heap x ox 122 oo) (hn : findIn (hd.heap_1 w.params) (.ref 122) name = some none)
    (h : wpAny (model prog w) A.in1 (storeInOwnDict (.ref x) (.ref 122) (.str name s.toks) name v false) (fun fin s' => fin = .done (.ret .none) ∧ Q () s') E { s with toks := s.toks + 1 }) :
    wpAny (model prog w) A (setAttr (.ref x) name v) Q E s := by
  refine set_plain X I (sa122 w) ?_
  have SF := PySem.F.store_Exception
  obtain ⟨cd, hc, hm, -⟩ := cd122 w
  have sub : Looks (model prog w) s.heap (isInstance (.ref x) (.type "object")) true := I.type.andThen (looks_mroIn X (by unfold mroIn; rw [hc, Option.bind_some, hm]; rfl))
  have lm : Looks (model prog w) s.heap (mroOf (.ref 122)) cd.mro := (looks_clsIn X hc).andThen .now
  have ty := I.type (M := model prog w)
  have fd := looks_findIn (M := model prog w) X hn
  obtain ⟨hp, g, d, tk, os⟩ := s
  dsimp only at sub lm ty fd
  refine codeAny_call_builtin SF.slot.plain SF.entry (@check_slot (model prog w) _ _ ⟨hp, g, d, tk + 1, os⟩ "object.__setattr__" "object" "__setattr__" (.ref x) [.str name tk, v] [] _ SF.kind SF.split sub (SF.args (.ref x) (.str name tk) v) ?_)
  rw [osa_eq, refuse_eq]
  refine wpAny_bind (wpAny_bind (ty.at (wpAny_bind (lm.at ?_))))
  rw [hm, refuseLoop_ref, refuseLoop_ref, SF.passes]
  refine wpAny_pure (wpAny_bind (ty.at (wpAny_bind (fd.at (wpAny_bind (wpAny_pure ?_))))))
  refine wpAny_mono h (fun fin s' z => ?_) fun _ _ z => z
  obtain ⟨rfl, z⟩ := z
  exact z
/-- the fault's object, of a dict or none -/
abbrev excO (de : Option Addr) (t : Addr) (sl : Array (Option Value)) : Obj := ⟨.ref 122, de, .fields #[.ref t, .none, .none, .none, .bool false, .none], sl⟩
theorem set_x0 {t0 : Addr} {sl : Array (Option Value)} {g : Obj → List (Addr × Obj)} {Q : Unit → Shared → Prop} (X : (hd.heap_1 w.params).In h₀) (F : Fr h₀ L s.heap m) (N : News h₀ L s.heap news) (U : UpdF x (excO none t0 sl) news g) (hn : findIn (hd.heap_1 w.params) (.ref 122) name = some none)
    (h : ∀ D h', Fr h₀ L h' m → News h₀ L h' ((D, dictOf [⟨PyData.keyHash w.params name, .str name (s.toks + 1), v⟩] 1) :: g (excO (some D) t0 sl)) → (∀ p ∈ news, p.1 < D) → Q () { s with heap := h', toks := s.toks + 2 }) :
    wpAny (model prog w) A (setAttr (.ref x) name v) Q E s := by
  obtain ⟨pre, post, e1, e2, n1, n2⟩ := U.split
  have he : s.heap.get? x = some (excO none t0 sl) := (N (x, excO none t0 sl) (by rw [e1]; simp)).1
  have X' := X.keeps F.keep
  refine set_x (oo := none) X' ⟨he, rfl, rfl, trivial⟩ hn ?_
  obtain ⟨cd, hc, -, hd'⟩ := cd122 w
  have lc := looks_clsIn (M := model prog w) X' hc
  obtain ⟨hp, g', d, tk, os⟩ := s
  dsimp only at lc he
  refine wpAny_bind (wpAny_pure (wpAny_bind (wpAny_bind (wpAny_loadPart he (wpAny_bind (lc.at ?_))))))
  rw [hd']
  have ND := News.push F N ({ cls := .type "dict", data := .dict #[] } : Obj)
  rw [e1] at ND
  have hlt : x < hp.objs.size := Heap.lt_size he
  have he₁ : (hp.push { cls := .type "dict", data := .dict #[] }).get? x = some (excO none t0 sl) := Heap.get?_push_of_some _ he
  obtain ⟨F2, N2⟩ := news_upd (pre := (hp.objs.size, { cls := .type "dict", data := .dict #[] }) :: pre) (o := excO none t0 sl) (o' := excO (some hp.objs.size) t0 sl) (f := fun o => { cls := o.cls, dict := some hp.objs.size, data := o.data, slots := o.slots }) (F.push _) ND
    (fun p hq => by
      rcases List.mem_cons.mp hq with rfl | hq
      · exact Nat.ne_of_gt hlt
      · exact n1 p hq) n2 rfl rfl
  show wpAny _ _ (do
    let d ← alloc { cls := Value.type "dict", data := Data.dict #[] }
    update x fun o => { cls := o.cls, dict := some d, data := o.data, slots := o.slots }
    dictMade (excO none t0 sl).cls x d) _ _ _
  refine wpAny_bind (wpAny_alloc' (wpAny_bind (wpAny_update' he₁ ?_)))
  refine wpAny_pure (a := some hp.objs.size) ?_
  obtain ⟨F3, N3⟩ := news_upd (pre := []) (post := pre ++ (x, excO (some hp.objs.size) t0 sl) :: post) (o := { cls := .type "dict", data := .dict #[] }) (o' := dictOf [⟨PyData.keyHash w.params name, .str name (tk + 1), v⟩] 1) (f := Obj.putName name (PyData.keyHash w.params name) (.str name (tk + 1)) v) F2 N2
    (fun p hq => nomatch hq) (fun p hq => by
      rcases List.mem_append.mp hq with hq | hq
      · exact Nat.ne_of_lt (Heap.lt_size (N p (by rw [e1]; exact List.mem_append_left _ hq)).1)
      rcases List.mem_cons.mp hq with rfl | hq
      · exact Nat.ne_of_lt hlt
      · exact Nat.ne_of_lt (Heap.lt_size (N p (by rw [e1]; exact List.mem_append_right _ (.tail _ hq))).1)) (putName_dict name _ _ v [] 0) rfl
  have D := (N2 _ (.head _)).1
  have D' := (N3 _ (.head _)).1
  refine wpAny_bind (wpAny_pure (wpAny_bind ?_))
  unfold nsSet
  refine wpAny_bind (wpAny_bind (wpAny_askSetting (wpAny_pure (wpAny_bind (wpAny_mkText (wpAny_bind (wpAny_loadPart D ?_)))))))
  show wpAny _ _ (if aRefKeyMayBeTheName name #[] = true then _ else updatePart hp.objs.size (some (Value.str name 0)) (Obj.putName name (PyData.keyHash w.params name) (.str name (tk + 1)) v)) _ _ _
  rw [aRefKeyMayBeTheName_at, if_neg (by simp)]
  refine wpAny_updatePart D ?_
  refine wpAny_bind (wpAny_lookBehind D' (pastItsLine_dict (by rw [sizeLine_eq]; exact Nat.le_of_ble_eq_true rfl)) ?_)
  exact wpAny_pure ⟨rfl, h hp.objs.size _ F3 (by rw [e2]; exact N3) (fun p hq => Heap.lt_size (N p hq).1)⟩
/-- a store beside what the fault's dict holds -/
theorem set_x1 {dx : Addr} {es : List DictEntry} {n : Nat} {es' : List DictEntry} {n' : Nat} {t0 : Addr} {sl : Array (Option Value)} {Q : Unit → Shared → Prop} (X : (hd.heap_1 w.params).In h₀) (F : Fr h₀ L s.heap m) (N : News h₀ L s.heap news) (hm : (x, excO (some dx) t0 sl) ∈ news) (hn : findIn (hd.heap_1 w.params) (.ref 122) name = some none)
    (hk : (!es.any (·.key.isStr name) && es.any (·.refKey)) = false) (e : (putL name (PyData.keyHash w.params name) (.str name (s.toks + 1)) v es, putN name es n) = (es', n')) (U : Upd dx (dictOf es n) (dictOf es' n') news news') (hz : es'.length ≤ 1000)
    (h : ∀ h', Fr h₀ L h' m → News h₀ L h' news' → Q () { s with heap := h', toks := s.toks + 2 }) :
    wpAny (model prog w) A (setAttr (.ref x) name v) Q E s := by
  obtain ⟨pre, post, e1, e2, n1, n2⟩ := U.split
  obtain ⟨z1, z2⟩ := Prod.mk.inj e
  have he : s.heap.get? x = some (excO (some dx) t0 sl) := (N _ hm).1
  have D : s.heap.get? dx = some (dictOf es n) := (N _ (by rw [e1]; exact List.mem_append_right _ (.head _))).1
  have X' := X.keeps F.keep
  refine set_x (oo := some (dictOf es n)) X' ⟨he, rfl, rfl, D⟩ hn ?_
  obtain ⟨cd, hc, -, hd'⟩ := cd122 w
  have lc := looks_clsIn (M := model prog w) X' hc
  rw [e1] at N
  obtain ⟨hp, g', d, tk, os⟩ := s
  dsimp only at lc he D z1
  obtain ⟨F3, N3⟩ := news_upd (o' := dictOf es' n') (f := Obj.putName name (PyData.keyHash w.params name) (.str name (tk + 1)) v) F N n1 n2 (by rw [putName_dict, z1, z2]) rfl
  have D' := (N3 (dx, dictOf es' n') (List.mem_append_right _ (.head _))).1
  refine wpAny_bind (wpAny_pure (wpAny_bind (wpAny_bind (wpAny_loadPart he (wpAny_bind (lc.at ?_))))))
  rw [hd']
  refine wpAny_pure (a := some dx) (wpAny_bind (wpAny_pure (wpAny_bind ?_)))
  unfold nsSet
  refine wpAny_bind (wpAny_bind (wpAny_askSetting (wpAny_pure (wpAny_bind (wpAny_mkText (wpAny_bind (wpAny_loadPart D ?_)))))))
  show wpAny _ _ (if aRefKeyMayBeTheName name es.toArray = true then _ else updatePart dx (some (Value.str name 0)) (Obj.putName name (PyData.keyHash w.params name) (.str name (tk + 1)) v)) _ _ _
  rw [aRefKeyMayBeTheName_at, if_neg (by rw [Array.any_toList, Array.any_toList] at *; simpa using hk)]
  refine wpAny_updatePart D ?_
  refine wpAny_bind (wpAny_lookBehind D' (pastItsLine_dict (by rw [List.size_toArray, sizeLine_eq]; omega)) ?_)
  exact wpAny_pure ⟨rfl, h _ F3 (by rw [e2]; exact N3)⟩
end
end Mine
end

-- Xm
section
open PySem PySem.W PySem.W.X PyProof.Rows PySem.Calls
namespace Mine
abbrev bm122 : List Value := [.ref 101, .type "Exception", .type "BaseException", .type "object"]
/-- the object of the fault's class -/
def Cls122 (h : Heap) : Prop := ∃ nm q N bs hdct sn sub ab col dd k0 k1 k2 k3 k5, h.get? 122 = some (excClassObj nm q 122 N bs bm122 hdct sn sub ab col dd k0 k1 k2 k3 k5 "Exception.__new__")
theorem cls122 {w : World} {h : Heap} (X : (hd.heap_1 w.params).In h) : Cls122 h := ⟨_, _, _, _, _, _, _, _, _, _, _, _, _, _, _, X 122 _ rfl⟩
section
variable {w : World} {A : Around} {E : Value → Shared → Prop} {h : Heap} {g : Array GenState} {d : Drawn} {t : Nat} {os : OsState} {rest : List Value}
theorem check_new_x {M : Model} {Q : Unit → Shared → Prop} (C : Cls122 h) (hq : Q () ⟨h, g, d, t, os⟩) : wpAny M A (checkBuiltinCall "Exception.__new__" ⟨.ref 122 :: rest, []⟩) Q E ⟨h, g, d, t, os⟩ := by
  obtain ⟨nm, q, N, bs, hdct, sn, sub, ab, col, dd, k0, k1, k2, k3, k5, hC⟩ := C
  have F := PySem.F.excBase_Exception
  have hin : (Value.ref 122 :: bm122).contains (.type "Exception") = true := by decide
  have hstar := F.noStar
  simp only [checkBuiltinCall, F.newKind, F.newSplit, F.newRow]
  repeat (first | (refine wpAny_isSubtype_exc hC ?_; rw [hin]) | refine wpAny_staticBase_exc hC ?_ | refine wpAny_madeBy_exc hC ?_ | refine wpAny_loadPart_at hC ?_ | simp only [bne_self_eq_false, Bool.false_eq_true, if_false] | wp_step)
  exact hq
theorem new_x {R : Result → Shared → Prop} (C : Cls122 h) (hr : rest.length ≤ 10)
    (hq : R (.ok (.ret (.ref (h.objs.size + 1)))) ⟨(h.push { cls := .type "tuple", data := .seq rest.toArray }).push (excO none h.objs.size #[]), g, d, t, os⟩) :
    codeAny (model prog w) A (.builtin "Exception.__new__" ⟨.ref 122 :: rest, []⟩) R ⟨h, g, d, t, os⟩ := by
  obtain ⟨nm, q, N, bs, hdct, sn, sub, ab, col, dd, k0, k1, k2, k3, k5, hC⟩ := C
  have F := PySem.F.excBase_Exception
  have hends := F.ends
  have hrest : rest.length ≤ sizeLine := by rw [sizeLine_eq]; omega
  have h1 : (Value.ref 122 :: bm122).contains (.type "Exception") = true := by decide
  have h2 : (Value.ref 122 :: bm122).contains (.type "AttributeError") = false := by decide
  have h3 : (Value.ref 122 :: bm122).contains (.type "NameError") = false := by decide
  refine codeAny_builtinAt F.entry ?_
  unfold Builtin.«BaseException.__new__»
  refine PySem.wpAt_bind ?_
  show PySem.wpAt _ _ _ (stack >>= _) _ _ _
  refine PySem.wpAt_bind (PySem.wpAt_stack fun p below => PySem.wpAt_of_wpAny ?_)
  wp_walk
  refine PySem.wpAt_of_wpAny ?_
  rw [F.owner]
  repeat (first | with_reducible refine wpAny_madeHere_exc F.canon hC ?_ | with_reducible refine wpAny_loadPart_at hC ?_ | (with_reducible refine wpAny_isSubtype_exc hC ?_; first | rw [h1] | rw [h2] | rw [h3]) | wp_step)
  show R _ _
  rw [Heap.size_push]
  exact hq
end
section
variable {w : World} {A : Around} {s : Shared} {h₀ : Heap} {L : Addr} {m : Str → Option Value} {news : List (Addr × Obj)} {R : Result → Shared → Prop} {rest : List Value}
/-- the fault's class called: the new object, then its __init__ -/
theorem make_x (X : (hd.heap_1 w.params).In h₀) (F : Fr h₀ L s.heap m) (N : News h₀ L s.heap news) (hr : rest.length ≤ 10)
    (h : ∀ x t0 h', Fr h₀ L h' m → News h₀ L h' ((x, excO none t0 #[]) :: (t0, ({ cls := .type "tuple", data := .seq rest.toArray } : Obj)) :: news) → (∀ p ∈ news, p.1 < t0) → @LT.lt Nat _ t0 x →
      codeAny (model prog w) (A.under (.builtin "type.__call__" ⟨.ref 122 :: rest, []⟩)) (.call (.ref 119) ⟨.ref x :: rest, []⟩) (InitBack x R) { s with heap := h' }) :
    codeAny (model prog w) A (.call (.ref 122) ⟨rest, []⟩) R s := by
  have X' := X.keeps F.keep
  have C := cls122 X'
  have C' := C
  obtain ⟨nm, q, N', bs, hdct, sn, sub, ab, col, dd, k0, k1, k2, k3, k5, hC⟩ := C
  obtain ⟨hp, g, d, t, os⟩ := s
  have f1 := tc_lookup
  have f2 := tc_bind (.ref 122)
  have hT : (⟨hp, g, d, t, os⟩ : Shared).TypeIs (.ref 122) "type" := ⟨_, hC, rfl⟩
  refine codeAny_of_tree ?_
  show wpAny _ _ (callAny (.ref 122) _) _ _ _
  repeat (any_goals (first | assumption | with_reducible refine wpAny_loadPart_at hC ?_ | wp_step))
  refine ⟨rfl, ?_⟩
  refine codeAny_call_builtin_at (Code.quiet_builtin _ (by decide +kernel)) entry_typeCall (wpAny_check_type_call_sub hC ?_)
  repeat (first | with_reducible refine wpAny_loadPart_at hC ?_ | with_reducible refine wpAny_madeBy_exc hC ?_ | wp_step)
  refine codeAny_call_builtin_code (Code.quiet_builtin _ PySem.F.excBase_Exception.quiet) (check_new_x C' ?_)
  refine new_x C' hr ?_
  have NX := (N.push F ({ cls := .type "tuple", data := .seq rest.toArray } : Obj)).push (F.push _) (excO none hp.objs.size #[])
  rw [Heap.size_push] at NX
  have FX := (F.push ({ cls := .type "tuple", data := .seq rest.toArray } : Obj)).push (excO none hp.objs.size #[])
  have X1 := X.keeps FX.keep
  have hx := (NX _ (.head _)).1
  have t1 : Looks (model prog w) _ (typeOf (.ref (hp.objs.size + 1))) (.ref 122) := (Looks.ld hx).andThen .now
  have s1 := looks_mroIn (M := model prog w) X1 (show mroIn (hd.heap_1 w.params) 122 (.ref 122) = some true by rfl)
  have i1 := looks_findIn (M := model prog w) X1 (show findIn (hd.heap_1 w.params) (.ref 122) "__init__" = some (some (.ref 119)) by rfl)
  have b1 := bind_fn (M := model prog w) X1 (.ref (hp.objs.size + 1)) (show typeIn (hd.heap_1 w.params) (.ref 119) = some (.type "function") by rfl)
  have z := h _ hp.objs.size _ FX NX (fun p hp => Heap.lt_size (N p hp).1) (Nat.lt_succ_self _)
  show wpAny _ _ _ _ _ ⟨(hp.push { cls := .type "tuple", data := .seq rest.toArray }).push (excO none hp.objs.size #[]), g, d, t, os⟩
  unfold isInstance callSpecial? specialOf
  repeat (first | with_reducible refine wpAny_call ?_ | lk)
  refine codeAny_mono z fun r s' z => ?_
  rcases r with e | (v | _ | _ | _) <;> first | exact z | exact z.elim | skip
  obtain ⟨rfl, z⟩ := z
  exact wpAny_pure (wpAny_pure z)
end
end Mine
end

-- Xi
section
open PySem PySem.W PySem.W.X PyProof.Rows PySem.Calls
namespace Mine
theorem kts122e (w : World) : ktsIn (hd.heap_1 w.params) 122 "Exception" = true := by rfl
theorem check_init {M : Model} {A : Around} {E : Value → Shared → Prop} {Q : Unit → Shared → Prop} {s : Shared} {e : Addr} {oe : Obj} {rest : List Value} {nm q : Str} {C N : Addr} {bs bm : List Value} {hdct : Bool} {sn : List Str} {sub : List Value} {ab : Bool} {col : Option Bool} {dd : Option Addr} {k0 k1 k2 k3 k5 : Option Value} {newId : String}
    (hC : s.heap.get? C = some (excClassObj nm q C N bs bm hdct sn sub ab col dd k0 k1 k2 k3 k5 newId)) (hB : bm.contains (.type "Exception") = true) (he : s.heap.get? e = some oe) (hc : oe.cls = .ref C) (h : Q () s) :
    wpAny M A (checkBuiltinCall "Exception.__init__" ⟨.ref e :: rest, []⟩) Q E s := by
  have F := PySem.F.excBase_Exception
  have hcB : (Value.ref C :: bm).contains (.type "Exception") = true := by rw [List.contains_cons, hB, Bool.or_true]
  obtain ⟨hp, g, d, tk, os⟩ := s
  simp only [checkBuiltinCall, F.initKind, F.initSplit, F.initRow]
  repeat (first | (with_reducible refine wpAny_loadPart_at he ?_; rw [hc]) | with_reducible refine wpAny_loadPart_at hC ?_ | (with_reducible refine wpAny_isSubtype_exc hC ?_; rw [hcB]) | wp_step)
  refine wpAny_onRaise ?_
  exact wpAny_of_eq (check_star_args _ _ _ _ _ _) h
section
variable {w : World} {A : Around} {E Q : Value → Shared → Prop} {s : Shared} {h₀ : Heap} {L : Addr} {m : Str → Option Value} {news : List (Addr × Obj)}
theorem exc_init {e t0 : Addr} {sl : Array (Option Value)} {rest : List Value} {g : Obj → List (Addr × Obj)} (X : (hd.heap_1 w.params).In h₀) (F : Fr h₀ L s.heap m) (N : News h₀ L s.heap news) (U : UpdF e (excO none t0 sl) news g) (hr : rest.length ≤ 10)
    (h : ∀ D h', Fr h₀ L h' m → News h₀ L h' ((D, ({ cls := .type "tuple", data := .seq rest.toArray } : Obj)) :: g (excO none D sl)) → (∀ p ∈ news, p.1 < D) → Q .none { s with heap := h' }) :
    wpAny (model prog w) A (call (.builtin "Exception.__init__") (.ref e :: rest)) Q E s := by
  have F0 := PySem.F.excBase_Exception
  obtain ⟨nm, q', N', bs, bm, hdct, sn, sub, ab, col, dd, k0, k1, k2, k3, k5, newId, hC, hbase, hbT⟩ := kts_cls (X.keeps F.keep) (kts122e w)
  obtain ⟨pre, post, e1, e2, n1, n2⟩ := U.split
  have he : s.heap.get? e = some (excO none t0 sl) := (N (e, excO none t0 sl) (by rw [e1]; simp)).1
  obtain ⟨hp, g', d, tk, os⟩ := s
  refine wpAny_call (codeAny_call_builtin F0.init.plain F0.initEntry (check_init hC hbT he rfl ?_))
  wp_walk
  rw [if_neg (by rw [sizeLine_eq]; simp; omega)]
  wp_walk
  have hlt : e < hp.objs.size := Heap.lt_size he
  have ND := News.push F N ({ cls := .type "tuple", data := .seq rest.toArray } : Obj)
  rw [e1] at ND
  obtain ⟨F2, N2⟩ := news_upd (pre := (hp.objs.size, { cls := .type "tuple", data := .seq rest.toArray }) :: pre) (o := excO none t0 sl) (o' := excO none hp.objs.size sl) (f := Obj.mapFields fun x => x.setIfInBounds 0 (Value.ref hp.objs.size)) (F.push _) ND
    (fun p hq => by
      rcases List.mem_cons.mp hq with rfl | hq
      · exact Nat.ne_of_gt hlt
      · exact n1 p hq) n2 rfl rfl
  exact h _ _ F2 (by rw [e2]; exact N2) (fun p hq => Heap.lt_size (N p hq).1)
end
end Mine
end

-- Xc
example : True ∧ True := by
  first | walk1 | constructor
  all_goals trivial
section
open PySem PySem.W PySem.W.X PyProof.Rows PySem.Calls
namespace Mine
/-- the heap without the object at a -/
def wipe (a : Addr) (h : Heap) : Heap := h.update a fun _ => ⟨.none, none, .freed, #[]⟩
theorem wipe_self (a : Addr) (h : Heap) : (wipe a h).get? a = none := by
  obtain ⟨objs, l⟩ := h
  unfold wipe Heap.update Heap.get?
  simp only [Array.getElem?_modify, if_true]
  cases objs[a]? <;> rfl
theorem wipe_ne {a b : Addr} (h : Heap) (n : b ≠ a) : (wipe a h).get? b = h.get? b := Heap.get?_update_ne _ _ _ _ n
theorem wiped {h₀ h : Heap} {L x : Addr} {m : Str → Option Value} {news : List (Addr × Obj)} (F : Fr h₀ L h m) (N : News h₀ L h news) (hx : x ≠ L) (h0 : h₀.get? x = none) (n : ∀ p ∈ news, p.1 ≠ x) :
    Fr h₀ L (wipe x h) m ∧ News h₀ L (wipe x h) news ∧ (∀ b o, (wipe x h).get? b = some o → h.get? b = some o) ∧ (wipe x h).get? x = none := by
  refine ⟨⟨?_, fun b o e => ?_, F.above⟩, fun p hp => ?_, fun b o e => ?_, wipe_self x h⟩
  · obtain ⟨o, es, ep, e, r⟩ := F.ns
    exact ⟨o, es, ep, (wipe_ne h (Ne.symm hx)).trans e, r⟩
  · exact (wipe_ne h (fun z => by rw [z, h0] at e; cases e)).trans (F.keep b o e)
  · exact ⟨(wipe_ne h (n p hp)).trans (N p hp).1, (N p hp).2⟩
  · have z : b ≠ x := fun z => by rw [z, wipe_self] at e; cases e
    exact (wipe_ne h z).symm.trans e
theorem unmade {h₀ h : Heap} {L x de t : Addr} {m : Str → Option Value} {ox od ot : Obj} {news : List (Addr × Obj)} (F : Fr h₀ L h m) (N : News h₀ L h ((de, od) :: (t, ot) :: (x, ox) :: news)) (n1 : ∀ p ∈ news, p.1 ≠ x) (n2 : ∀ p ∈ news, p.1 ≠ de) (n3 : ∀ p ∈ news, p.1 ≠ t) :
    ∃ h₁, Fr h₀ L h₁ m ∧ News h₀ L h₁ news ∧ (∀ b o, h₁.get? b = some o → h.get? b = some o) ∧ h₁.get? x = none ∧ h₁.get? de = none ∧ h₁.get? t = none := by
  have Nn : News h₀ L h news := fun q hq => N q (.tail _ (.tail _ (.tail _ hq)))
  obtain ⟨F1, N1, k1, e1⟩ := wiped F Nn (N (de, od) (.head _)).2.1 (N (de, od) (.head _)).2.2 n2
  obtain ⟨F2, N2, k2, e2⟩ := wiped F1 N1 (N (t, ot) (.tail _ (.head _))).2.1 (N (t, ot) (.tail _ (.head _))).2.2 n3
  obtain ⟨F3, N3, k3, e3⟩ := wiped F2 N2 (N (x, ox) (.tail _ (.tail _ (.head _)))).2.1 (N (x, ox) (.tail _ (.tail _ (.head _)))).2.2 n1
  have none_of : ∀ {g g' : Heap} {b : Addr}, (∀ b o, g.get? b = some o → g'.get? b = some o) → g'.get? b = none → g.get? b = none := fun {g g' b} k e => by
    cases q : g.get? b with
    | none => rfl
    | some o => rw [k _ _ q] at e; cases e
  exact ⟨_, F3, N3, fun b o e => k1 _ _ (k2 _ _ (k3 _ _ e)), e3, none_of k3 (none_of k2 e1), none_of k3 e2⟩
set_option hygiene false
section
variable {w : World} {A₀ : Around} {E Q : Value → Shared → Prop} {s : Shared} {base h₀ : Heap} {outer : List Env} {L a : Addr} {m : Str → Option Value} {mg mb : Str → Option Value} {mean : ExcName → Option Value} {dp un : Nat} {gd : Option (List Code)} {cn : Str} {cs : Scope} {ccd : Value} {cl : List (Str × Addr)} {news : List (Addr × Obj)}
local macro_rules | `(tactic| k_all) => `(tactic| assumption)
local macro_rules | `(tactic| k_room) => `(tactic| ktr_room)
local macro_rules | `(tactic| walk_at "getMethod type:Exception") => `(tactic| (refine' method_type ?F ?X ?m (by decide +kernel) ?e ?h ?_; (case F => k_asm); (case X => k_asm); (case m => kernel_rfl); (case e => k_dflt k_is); (case h => k_handed)))
theorem c_make {msg : Str} {t u : Tok} {p : Int}
 (B : Below A₀ base outer h₀) (F : Fr h₀ L s.heap m) (X : (hd.heap_1 w.params).In h₀) (T : TopH mean mg mb h₀) (hck : cs.kind = .function)
 (N : News h₀ L s.heap news) (hdp : dp ≤ 700) (hun : un ≤ 100)
 (hQ : ∀ e de h' tk' h₁, Fr h₀ L h₁ m → News h₀ L h₁ news → MadeX h₁ h' e de p → Q (.ref e) {s with heap := h', toks := tk'})
 : wpAny (model prog w) (ktrTop dp un gd cn cs L a ccd cl outer) (call (.ref 122) [.str msg t, .int p u]) Q E s := by
  w_top off
  refine wpAny_call (make_x X F N (by exact Nat.le_of_ble_eq_true rfl) ?_)
  intro x t0 h1 F1 N0 l1 l2
  have N1 : News h₀ L h1 ((x, excO none t0 #[]) :: news) := fun q hq => by
    rcases List.mem_cons.mp hq with rfl | hq
    · exact N0 _ (.head _)
    · exact N0 _ (.tail _ (.tail _ hq))
  clear N0
  have hnx : ∀ p ∈ news, p.1 ≠ x := fun p hp => Nat.ne_of_lt (Nat.lt_trans (l1 p hp) l2)
  clear l1 l2
  k_dflt (refine' code_def ?k1 ?k2 ?k3 ?k4 ?k5 ?kA ?kF ?kK ?k6 ?k7 ?k8 ?k9 ?kB ?_ ?c2 ?c3 ?c4 ?c5; (case kA => exact rfl); (case kF => exact rfl); (case kK => assumption); (case k1 => k_asm); (case k2 => k_asm); (case k3 => k_asm); (case k4 => k_asm); (case k5 => k_asm); (case k6 => k_is); (case k7 => k_is); (case k8 => ktr_room); (case k9 => exact binds_K (by k_in) rfl (by k_is) rfl rfl rfl); (case c5 => decide); (case kB => exact locs rfl); (case c2 => exact rfl); (case c3 => exact rfl); (case c4 => exact rfl); k_whole)
  intro g9 L9 h9 FG9 F9 N9 B9 X9 T9
  (try dsimp only); (try k_lift B9); (try k_fold)
  k_steps
  refine exc_init (by k_asm) (by k_asm) (by k_asm) (by k_updF) (by exact Nat.le_of_ble_eq_true rfl) ?_
  intro D' h' F' N' l1
  (try k_lt l1)
  k_steps
  refine set_x0 (by k_asm) (by k_asm) (by k_asm) (by k_updF) (by rfl) ?_
  intro D2 h2 F2 N2 l3
  (try k_lt l3)
  k_steps
  refine set_x1 (by k_asm) (by k_asm) (by k_asm) (by k_mem) (by rfl) ?hk (by rfl) (by k_upd) ?hz ?_
  case hk => rfl
  case hz => exact Nat.le_of_ble_eq_true rfl
  intro h3 F3 N3
  k_steps
  obtain ⟨h₁, F₁, N₁, k₁, q1, q2, q3⟩ := unmade (h₀ := h₀) (L := L) (by assumption) (by assumption) hnx (tbn_neAll l3.2.2) (tbn_neAll l1.2)
  exact hQ _ D2 _ _ h₁ F₁ N₁ ⟨k₁, q1, q2, D', _, _, _, _, _, (N3 _ (.tail _ (.tail _ (.head _)))).1, q3, (N3 _ (.tail _ (.head _))).1, ⟨_, _, _, _, _, _, _, rfl⟩, (N3 _ (.head _)).1⟩
end
end Mine
end

-- Ctr
section
open PySem PySem.W PyProof.Rows PySem.Calls
namespace Mine
/-- a place where the walk is to stop -/
structure Halt (P : Prop) : Prop where
  out : P
theorem halt {P : Prop} (h : Halt P) : P := h.out
theorem While_at {prog : Program} {w : World} {A : Around} {E : Value → Shared → Prop} {Q : Flow → Shared → Prop} {s : Shared} {env : Env} {h₀ : Heap} {L : Addr} {test : Expr} {body : List Stmt} {pos : Pos} {m : Str → Option Value} {news : List (Addr × Obj)} (J : Nat → List (Addr × Obj) → Prop) {n₀ : Nat}
    (F : Fr h₀ L s.heap m) (N : News h₀ L s.heap news) (hJ : J n₀ news)
    (turn : ∀ n news₁ h₁ tk₁, Fr h₀ L h₁ m → News h₀ L h₁ news₁ → J n news₁ →
      wpAny (model prog w) A (isTrue test env (eval test env)) (fun b s₂ =>
        if b = true then wpAny (model prog w) A (execs body env) (WhileStep2 h₀ L s (fun n m₁ ns => m₁ = m ∧ J n ns) Q n) E s₂ else Q .next s₂) E { s with heap := h₁, toks := tk₁ })
    (hE : PassesOwn (model prog w) A env E := by passes_own) :
    wpAny (model prog w) A (exec (.While test body [] pos) env) Q E s :=
  While_inv2 (fun n m₁ ns => m₁ = m ∧ J n ns) F N ⟨rfl, hJ⟩ (fun n m₁ ns h₁ tk₁ F₁ N₁ J₁ => by obtain ⟨rfl, J₁⟩ := J₁; exact turn n ns h₁ tk₁ F₁ N₁ J₁) hE
/-- the ledger of a method: the cursor's dict and the cursor ahead -/
structure Led (h₀ : Heap) (L d c : Addr) (od oc : Obj) (news rest : List (Addr × Obj)) : Prop where
  same : ∀ h' W, News h₀ L h' W → (d, od) ∈ W → (c, oc) ∈ W → (∀ q ∈ rest, q ∈ W) → News h₀ L h' news
  upd : ∀ h' od' W news', News h₀ L h' W → (d, od') ∈ W → (c, oc) ∈ W → (∀ q ∈ rest, q ∈ W) → Upd d od od' news news' → News h₀ L h' news'
  lt : ∀ D : Addr, (@LT.lt Nat _ d D ∧ @LT.lt Nat _ c D ∧ AllLt D rest) → ∀ p ∈ news, p.1 < D
  ex : ∀ W : List (Addr × Obj), (c, oc) ∈ W → (∀ q ∈ rest, q ∈ W) → ∀ q ∈ news.filter (fun q => q.1 != d), q ∈ W.filter (fun q => q.1 != d)
theorem allLt_mem {D : Addr} : ∀ {l : List (Addr × Obj)}, AllLt D l → ∀ p ∈ l, p.1 < D
  | [], _ => fun _ h => nomatch h
  | _ :: _, h => fun q hq => by
    rcases List.mem_cons.mp hq with rfl | hq
    · exact h.1
    · exact allLt_mem h.2 q hq
theorem news_cons {h₀ h : Heap} {L : Addr} {p : Addr × Obj} {W news : List (Addr × Obj)} (N : News h₀ L h W) (hp : p ∈ W) (N' : News h₀ L h news) : News h₀ L h (p :: news) := fun q hq => by
  rcases List.mem_cons.mp hq with rfl | hq
  · exact N _ hp
  · exact N' _ hq
/-- a tuple of two -/
abbrev tup2 (a b : Value) : Obj := { cls := .type "tuple", data := .seq #[a, b] }
abbrev tup3 (a b c : Value) : Obj := { cls := .type "tuple", data := .seq #[a, b, c] }
theorem led_use {P : Prop} {h₀ h : Heap} {L d c : Addr} {od oc : Obj} {news : List (Addr × Obj)} (N : News h₀ L h news) (hd : (d, od) ∈ news) (hc : (c, oc) ∈ news) (hne : od.cls ≠ oc.cls)
    (k : ∀ rest, Led h₀ L d c od oc news rest → News h₀ L h ((d, od) :: (c, oc) :: rest) → (∀ p ∈ rest, p.1 ≠ d) → (∀ p ∈ (d, od) :: (c, oc) :: rest, p ∈ news) → @Ne Nat c d → P) : P := by
  have dc : c ≠ d := fun z => by
    have e1 := (N _ hd).1
    have e2 := (N _ hc).1
    simp only at e1 e2
    rw [z, e1] at e2
    exact hne (congrArg Obj.cls (Option.some.inj e2))
  have fc : ∀ q ∈ news, q.1 = c → q = (c, oc) := fun q hq z => by
    have e1 := (N _ hq).1
    have e2 := (N _ hc).1
    simp only at e1 e2
    rw [z, e2] at e1
    obtain ⟨a, o⟩ := q
    simp only at z e1
    rw [z, Option.some.inj e1]
  have fd : ∀ q ∈ news, q.1 = d → q = (d, od) := fun q hq z => by
    have e1 := (N _ hq).1
    have e2 := (N _ hd).1
    simp only at e1 e2
    rw [z, e2] at e1
    obtain ⟨a, o⟩ := q
    simp only at z e1
    rw [z, Option.some.inj e1]
  have me : ∀ q, q ∈ news.filter (fun q => q.1 != d && q.1 != c) ↔ q ∈ news ∧ q.1 ≠ d ∧ q.1 ≠ c := fun q => by
    simp [List.mem_filter]
  refine k (news.filter (fun q => q.1 != d && q.1 != c)) ⟨?_, ?_, ?_, ?_⟩ ?_ ?_ ?_ dc
  · intro h' W NW h1 h2 h3 q hq
    by_cases z1 : q.1 = d
    · rw [fd q hq z1]; exact NW _ h1
    by_cases z2 : q.1 = c
    · rw [fc q hq z2]; exact NW _ h2
    · exact NW _ (h3 q ((me q).mpr ⟨hq, z1, z2⟩))
  · intro h' od' W news' NW h1 h2 h3 U q hq
    obtain ⟨pre, post, e1, e2, n1, n2⟩ := U.split
    rw [e2] at hq
    have out : ∀ q, q ∈ news → q.1 ≠ d → h'.get? q.1 = some q.2 ∧ q.1 ≠ L ∧ h₀.get? q.1 = none := fun q hq z1 => by
      by_cases z2 : q.1 = c
      · rw [fc q hq z2]; exact NW _ h2
      · exact NW _ (h3 q ((me q).mpr ⟨hq, z1, z2⟩))
    rcases List.mem_append.mp hq with hq | hq
    · exact out q (by rw [e1]; exact List.mem_append_left _ hq) (n1 q hq)
    rcases List.mem_cons.mp hq with rfl | hq
    · exact NW _ h1
    · exact out q (by rw [e1]; exact List.mem_append_right _ (.tail _ hq)) (n2 q hq)
  · intro D ⟨h1, h2, h3⟩ q hq
    by_cases z1 : q.1 = d
    · rw [z1]; exact h1
    by_cases z2 : q.1 = c
    · rw [z2]; exact h2
    · exact allLt_mem h3 q ((me q).mpr ⟨hq, z1, z2⟩)
  · intro W h1 h2 q hq
    obtain ⟨hq, z⟩ := List.mem_filter.mp hq
    refine List.mem_filter.mpr ⟨?_, z⟩
    have z1 : q.1 ≠ d := by simpa using z
    by_cases z2 : q.1 = c
    · rw [fc q hq z2]; exact h1
    · exact h2 q ((me q).mpr ⟨hq, z1, z2⟩)
  · intro q hq
    rcases List.mem_cons.mp hq with rfl | hq
    · exact N _ hd
    rcases List.mem_cons.mp hq with rfl | hq
    · exact N _ hc
    · exact N _ ((me q).mp hq).1
  · exact fun q hq => ((me q).mp hq).2.1
  · intro q hq
    rcases List.mem_cons.mp hq with rfl | hq
    · exact hd
    rcases List.mem_cons.mp hq with rfl | hq
    · exact hc
    · exact ((me q).mp hq).1
/-- what a caller must make of a fault told at p -/
def ExP (E : Value → Shared → Prop) (base h₀ : Heap) (L : Addr) (m : Str → Option Value) (l : List Env) (news : List (Addr × Obj)) (d : Addr) (s : Shared) (p : Int) : Prop :=
  ∀ e G h' tk', Fr h₀ L G m → G.UpToSlots h' → RaisedX base G l e p (news.filter (fun q => q.1 != d)) h' → E (.ref e) {s with heap := h', toks := tk'}

/-- what the value of a raise must be -/
def RaiseDue (E : Value → Shared → Prop) (v : Value) (s : Shared) : Prop :=
  ∃ e de t so nm q C N bs bm hdct sn sub ab col dd k0 k1 k2 k3 k5 newId, v = .ref e ∧ s.heap.get? C = some (excClassObj nm q C N bs bm hdct sn sub ab col dd k0 k1 k2 k3 k5 newId) ∧ bm.contains (.type "BaseException") = true ∧
    s.heap.get? e = some { cls := .ref C, dict := some de, data := .fields #[.ref t, .none, .none, .none, .bool false, .none], slots := so } ∧ E (.ref e) s
theorem wpAny_raise_due {M : Model} {A : Around} {E : Value → Shared → Prop} {env : Env} {s : Shared} {x : Sem Value} {Q : Flow → Shared → Prop} (hh : A.handled = none)
    (h : wpAny M A x (RaiseDue E) E s) : wpAny M A (raiseStmt env (some x) none) Q E s := by
  unfold raiseStmt
  refine wpAny_bind (wpAny_mono h (fun v s₁ h₁ => ?_) fun _ _ x => x)
  obtain ⟨e, de, t, so, nm, q, C, N, bs, bm, hdct, sn, sub, ab, col, dd, k0, k1, k2, k3, k5, newId, rfl, hC, hbase, he, hE⟩ := h₁
  have hcB : (Value.ref C :: bm).contains (.type "BaseException") = true := by rw [List.contains_cons, hbase, Bool.or_true]
  obtain ⟨hp, g, d, tk, os⟩ := s₁
  repeat (first | with_reducible refine wpAny_loadPart_at he ?_ | with_reducible refine wpAny_loadPart_at hC ?_ | (with_reducible refine wpAny_isSubtype_exc hC ?_; rw [hcB]) | wp_step)
  exact wpAny_raiseNew_none hh hE
theorem ex_raise {M : Model} {A : Around} {E : Value → Shared → Prop} {env : Env} {s : Shared} {x : Expr} {pos : Pos} {Q : Flow → Shared → Prop} (hh : A.handled = none)
    (h : wpAny M A (eval x env) (RaiseDue E) E s) : wpAny M A (exec (.Raise (some x) none pos) env) Q E s := by
  rw [arm_exec_Raise]
  show wpAny M A (do standAt pos; raiseStmt env (some (do let v ← eval x env; standAt pos; pure v)) none) Q E s
  exact wpAny_bind (wpAny_standAt (wpAny_raise_due hh (wpAny_bind (wpAny_mono h (fun v s₁ h₁ => wpAny_bind (wpAny_standAt (wpAny_pure h₁))) fun _ _ x => x))))
theorem kts122 (w : World) : ktsIn (hd.heap_1 w.params) 122 "BaseException" = true := by rfl
section
variable {M : Model} {A : Around} {E : Value → Shared → Prop} {s : Shared} {base g h₀ h : Heap} {outer : List Env} {L L' a a' d c e de : Addr} {m m' : Str → Option Value} {name : Str} {scope : Scope} {cd : Value} {env : Env} {news rest W : List (Addr × Obj)} {p : Int} {od oc : Obj}
/-- a fault made in a method goes out to its caller -/
theorem out_raise {hX : Heap} {tk : Tok} (MX : MadeX h hX e de p) (B' : Below A base (env :: outer) g) (F' : Fr g L' h m') (N' : News g L' h W) (FG : Fr h₀ L g m) (hk : scope.kind = .function)
    (hs : ∀ q ∈ news.filter (fun q => q.1 != d), q ∈ W) (hE : ExP E base h₀ L m (env :: outer) news d s p) :
    wpAny M (A.deeper (envOf name scope L' a' cd)) (leaving (envOf name scope L' a' cd) (.ref e)) (fun _ s'' => E (.ref e) s'') (fun e' s'' => E e' s'') { s with heap := hX, toks := tk } :=
  raise_X (s' := { s with heap := hX, toks := tk }) B' MX F' N' (fun h' R U => hE e g h' tk FG U (R.sub hs)) hk
/-- a fault of what a method calls goes out to its caller -/
theorem exp_pass {s' : Shared} (B' : Below A base (env :: outer) g) (FG : Fr h₀ L g m) (hE : ExP E base h₀ L m (env :: outer) news d s p) (hs : ∀ q ∈ news.filter (fun q => q.1 != d), q ∈ W.filter (fun q => q.1 != d))
    (h1 : s'.gens = s.gens) (h2 : s'.drawn = s.drawn) (h3 : s'.os = s.os) :
    ExP (fun e s' => wpAny M (A.deeper (envOf name scope L' a' cd)) (leaving (envOf name scope L' a' cd) e) (fun _ s'' => E e s'') (fun e' s'' => E e' s'') s') base g L' m' (envOf name scope L' a' cd :: env :: outer) W d s' p := fun e G h' tk' F' U R => by
  refine leave_X (s' := { s' with heap := h', toks := tk' }) B' F' R U fun h'' R' U' => ?_
  have z := hE e g h'' tk' FG U' (R'.sub hs)
  obtain ⟨_, _, _, _, _⟩ := s'
  simp only at h1 h2 h3
  subst h1 h2 h3
  exact z
end
/-- the made fault is what the raise is due -/
theorem due_made {KF : Frag} {E : Value → Shared → Prop} {s : Shared} {h : Heap} {e de : Addr} {p : Int} (X : KF.In h) (q : ktsIn KF 122 "BaseException" = true) (M : MadeX h s.heap e de p) (hE : E (.ref e) s) : RaiseDue E (.ref e) s := by
  obtain ⟨t, vs, n, o, so, sl, he, t0, ht, hf, hde⟩ := M.parts
  obtain ⟨nm, q', N, bs, bm, hdct, sn, sub, ab, col, dd, k0, k1, k2, k3, k5, newId, hC, hbase, hbT⟩ := kts_cls (X.keeps M.keep) q
  exact ⟨e, de, t, so, nm, q', 122, N, bs, bm, hdct, sn, sub, ab, col, dd, k0, k1, k2, k3, k5, newId, rfl, hC, hbase, he, hE⟩
end Mine
end

-- lines that every text below wants
open PySem PySem.W PySem.W.X PyProof.Rows PySem.Calls
local macro_rules | `(tactic| k_all) => `(tactic| assumption)
local macro_rules | `(tactic| k_room) => `(tactic| ktr_room)
local macro_rules | `(tactic| walk_at "exec Raise some none") => `(tactic| with_reducible refine Mine.ex_raise rfl ?_)
local macro_rules | `(tactic| walk_at "exec While BoolOp") => `(tactic| ((with_reducible show wpAny _ _ (exec (Stmt.While _ _ [] _) _) _ _ _); refine Mine.halt ?_))

-- Fault
example : True ∧ True := by
  first | walk1 | constructor
  all_goals trivial
section
open PySem PySem.W PyProof.Rows PySem.Calls
namespace Mine
local macro_rules | `(tactic| walk_at "call ref") => `(tactic| (k_dflt (refine c_make (by k_asm) (by k_asm) (by k_asm) (by k_asm) (by exact rfl) (by k_asm) (by ktr_room) (by ktr_units) ?_); intro eX deX hX tkX h1X F1X N1X MX))
theorem c_fault {w : World} {A₀ : Around} {E Q : Value → Shared → Prop} {s : Shared} {base h₀ : Heap} {outer : List Env} {L a : Addr} {m : Str → Option Value} {mg mb : Str → Option Value} {mean : ExcName → Option Value} {dp un : Nat} {gd : Option (List Code)} {cn : Str} {cs : Scope} {ccd : Value} {cl : List (Str × Addr)} {d c : Addr} {news : List (Addr × Obj)} {h1 h2 : Int} {t1 t2 tx tk : Tok} {x : Str} {k : Int} {msg : Str} {mt : Tok}
 (B : Below A₀ base outer h₀) (F : Fr h₀ L s.heap m) (X : (hd.heap_1 w.params).In h₀) (T : TopH mean mg mb h₀) (hck : cs.kind = .function)
 (N : News h₀ L s.heap news) (hcd : (d, curD h1 h2 t1 t2 tx tk x k) ∈ news) (hci : (c, instObj 277 d) ∈ news) (hdp : dp ≤ 680) (hun : un ≤ 80)
 (hE : ExP E base h₀ L m (envX cn cs L a ccd cl :: outer) news d s k)
 : wpAny (model prog w) (ktrTop dp un gd cn cs L a ccd cl outer) (call (.ref 203) [.ref c, .str msg mt]) Q E s := by
  refine led_use N hcd hci (by simp) fun rest hL N hrd hsub hne => ?_
  w_top off
  refine wpAny_call ?_
  k_dflt cell_enter
  k_steps
  refine due_made (Frag.In.keeps (by k_asm) (Fr.keep (by k_asm))) (kts122 w) (by assumption) ?_
  refine out_raise (by assumption) (by assumption) (by assumption) (by assumption) (by assumption) rfl ?_ hE
  exact fun q hq => (List.mem_filter.mp (hL.ex _ (by k_mem) (fun q hq => .tail _ (.tail _ hq)) q hq)).1
end Mine
end

-- Chars
example : True ∧ True := by
  first | walk1 | constructor
  all_goals trivial
section
open PySem PySem.W PySem.W.X PyProof.Rows PySem.Calls
namespace Mine
set_option hygiene false
section
variable {w : World} {A₀ : Around} {E Q : Value → Shared → Prop} {s : Shared} {base h₀ : Heap} {outer : List Env} {L a : Addr} {m : Str → Option Value} {mg mb : Str → Option Value} {mean : ExcName → Option Value} {dp un : Nat} {gd : Option (List Code)} {cn : Str} {cs : Scope} {ccd : Value} {cl : List (Str × Addr)} {news : List (Addr × Obj)}

theorem fr_keep {h₀ h h' : Heap} {L : Addr} {m : Str → Option Value} (F : Fr h₀ L h m) (k : ∀ b o, h.get? b = some o → h'.get? b = some o) : Fr h₀ L h' m := by
  obtain ⟨oL, a1, a2, hL, a3⟩ := F.ns
  exact ⟨⟨oL, a1, a2, k _ _ hL, a3⟩, fun b o e => k b o (F.keep b o e), F.above⟩
theorem news_keep {h₀ h h' : Heap} {L : Addr} {news : List (Addr × Obj)} (N : News h₀ L h news) {m : Str → Option Value} (_F : Fr h₀ L h m) (k : ∀ b o, h.get? b = some o → h'.get? b = some o) : News h₀ L h' news := fun p hp => ⟨k _ _ (N p hp).1, (N p hp).2⟩

def isSp (c : Nat) : Bool := decide (c = 32 ∨ c = 9 ∨ c = 10 ∨ c = 13)
def isNs (c : Nat) : Bool := decide ((97 ≤ c ∧ c ≤ 122) ∨ (65 ≤ c ∧ c ≤ 90) ∨ c = 95 ∨ c = 58)
def isNc (c : Nat) : Bool := decide ((97 ≤ c ∧ c ≤ 122) ∨ (65 ≤ c ∧ c ≤ 90) ∨ c = 95 ∨ c = 58 ∨ (48 ≤ c ∧ c ≤ 57) ∨ c = 45 ∨ c = 46)
def isCh (c : Nat) : Bool := decide (32 ≤ c ∨ c = 9 ∨ c = 10 ∨ c = 13)
theorem occ_sp : ∀ c < 128, (!(Builtin.Str.occurrences (Str.ofString " \t\n\r") ⟨#[c]⟩ 0 (Str.ofString " \t\n\r").length 1).isEmpty) = isSp c := by decide +kernel
theorem occ_sp' : ∀ c < 128, (Builtin.Str.occurrences (Str.ofString " \t\n\r") ⟨#[c]⟩ 0 (Str.ofString " \t\n\r").length 1).isEmpty = !isSp c := by decide +kernel
theorem lt11 (a b : Nat) : ([a] < [b]) ↔ a < b := by
  first
    | (rw [List.cons_lt_cons_iff]; simp; done)
    | exact ⟨fun h => by cases h with
        | rel h => exact h
        | cons h => cases h, fun h => List.Lex.rel h⟩
theorem cps1 (c : Nat) : (Str.mk #[c]).cps.toList = [c] := rfl
theorem ofA : (Str.ofString "A").cps.toList = [65] := rfl
theorem ofZ : (Str.ofString "Z").cps.toList = [90] := rfl
theorem ofa : (Str.ofString "a").cps.toList = [97] := rfl
theorem ofz : (Str.ofString "z").cps.toList = [122] := rfl
theorem of0 : (Str.ofString "0").cps.toList = [48] := rfl
theorem of9 : (Str.ofString "9").cps.toList = [57] := rfl
theorem beq1 (a b : Nat) : ((Str.mk #[a]) == (Str.mk #[b])) = decide (a = b) := by
  by_cases h : a = b
  · subst h; simp
  · rw [decide_eq_false h]
    refine beq_eq_false_iff_ne.mpr fun z => h ?_
    injection z with z
    simpa using z
theorem ne0 (a : Nat) : ((Str.mk #[a]) != Str.ofString "") = true := by
  have : ((Str.mk #[a]) == Str.ofString "") = false := by
    refine beq_eq_false_iff_ne.mpr fun z => ?_
    have z' : Str.mk #[a] = ⟨#[]⟩ := z
    injection z' with z'
    simp at z'
  show (!_) = true
  rw [this]; rfl
theorem of_ : Str.ofString "_" = ⟨#[95]⟩ := rfl
theorem ofc : Str.ofString ":" = ⟨#[58]⟩ := rfl
theorem ofm : Str.ofString "-" = ⟨#[45]⟩ := rfl
theorem ofd : Str.ofString "." = ⟨#[46]⟩ := rfl
theorem bnot (p : Prop) [Decidable p] : (!decide p) = decide (¬ p) := by by_cases h : p <;> simp [h]
theorem bool_end {s : Shared} {Q : Value → Shared → Prop} {a b : Bool} (h : Q (.bool b) s) (e : a = b) : Q (.bool a) s := e ▸ h
theorem c_space {ch : Nat} {wt : Tok} (hch : ch < 128)
 (B : Below A₀ base outer h₀) (F : Fr h₀ L s.heap m) (X : (hd.heap_1 w.params).In h₀) (T : TopH mean mg mb h₀) (hck : cs.kind = .function)
 (N : News h₀ L s.heap news) (hdp : dp ≤ 690) (hun : un ≤ 90)
 (hQ : ∀ h' tk', Fr h₀ L h' m → News h₀ L h' news → Q (.bool (isSp ch)) {s with heap := h', toks := tk'})
 : wpAny (model prog w) (ktrTop dp un gd cn cs L a ccd cl outer) (call (.ref 56) [.str ⟨#[ch]⟩ wt]) Q E s := by
  w_top off
  refine wpAny_call ?_
  k_dflt cell_enter
  k_steps
  all_goals refine bool_end (hQ _ _ (by assumption) (by assumption)) ?_
  · exact occ_sp ch hch
  · simp only [occ_sp' ch hch, Bool.not_eq_false'] at *
    rw [ne0]
    exact (by assumption : isSp ch = true).symm
theorem c_nstart {ch : Nat} {wt : Tok} (hch : ch < 128)
 (B : Below A₀ base outer h₀) (F : Fr h₀ L s.heap m) (X : (hd.heap_1 w.params).In h₀) (T : TopH mean mg mb h₀) (hck : cs.kind = .function)
 (N : News h₀ L s.heap news) (hdp : dp ≤ 690) (hun : un ≤ 90)
 (hQ : ∀ h' tk', Fr h₀ L h' m → News h₀ L h' news → Q (.bool (isNs ch)) {s with heap := h', toks := tk'})
 : wpAny (model prog w) (ktrTop dp un gd cn cs L a ccd cl outer) (call (.ref 77) [.str ⟨#[ch]⟩ wt]) Q E s := by
  w_top off
  refine wpAny_call ?_
  k_dflt cell_enter
  k_steps
  all_goals refine bool_end (hQ _ _ (by assumption) (by assumption)) ?_
  all_goals simp only [lt11, cps1, ofA, ofZ, ofa, ofz, of0, of9, of_, ofc, ofm, ofd, beq1, bnot, decide_eq_true_eq, decide_eq_false_iff_not] at *
  all_goals unfold isNs
  all_goals first | exact decide_eq_decide.mpr (by omega) | exact (decide_eq_true (by omega)).symm | exact (decide_eq_false (by omega)).symm
theorem c_nchar {ch : Nat} {wt : Tok} (hch : ch < 128)
 (B : Below A₀ base outer h₀) (F : Fr h₀ L s.heap m) (X : (hd.heap_1 w.params).In h₀) (T : TopH mean mg mb h₀) (hck : cs.kind = .function)
 (N : News h₀ L s.heap news) (hdp : dp ≤ 690) (hun : un ≤ 90)
 (hQ : ∀ h' tk', Fr h₀ L h' m → News h₀ L h' news → Q (.bool (isNc ch)) {s with heap := h', toks := tk'})
 : wpAny (model prog w) (ktrTop dp un gd cn cs L a ccd cl outer) (call (.ref 84) [.str ⟨#[ch]⟩ wt]) Q E s := by
  w_top off
  refine wpAny_call ?_
  k_dflt cell_enter
  k_steps
  all_goals refine bool_end (hQ _ _ (by assumption) (by assumption)) ?_
  all_goals simp only [lt11, cps1, ofA, ofZ, ofa, ofz, of0, of9, of_, ofc, ofm, ofd, beq1, bnot, decide_eq_true_eq, decide_eq_false_iff_not] at *
  all_goals unfold isNc
  all_goals first | exact decide_eq_decide.mpr (by omega) | exact (decide_eq_true (by omega)).symm | exact (decide_eq_false (by omega)).symm

local macro_rules | `(tactic| walk_at "exec For Tuple Name cons nil") => `(tactic| ((rename Fr _ _ _ _ => lF'); (with_unfolding_all refine For_turns lF' ?_)))
theorem c_ranges {cd : Nat} {u : Tok} (hl : 32 ≤ cd) (hh : cd < 128)
 (B : Below A₀ base outer h₀) (F : Fr h₀ L s.heap m) (X : (hd.heap_1 w.params).In h₀) (T : TopH mean mg mb h₀) (hck : cs.kind = .function)
 (N : News h₀ L s.heap news) (hdp : dp ≤ 700) (hun : un ≤ 100)
 (hQ : ∀ h' tk', Fr h₀ L h' m → News h₀ L h' news → Q (.bool (true)) {s with heap := h', toks := tk'})
 : wpAny (model prog w) (ktrTop dp un gd cn cs L a ccd cl outer) (call (.ref 49) [.int (cd : Int) u, .ref 25]) Q E s := by
  w_top off
  refine wpAny_call ?_
  k_dflt cell_enter
  k_steps
  have NN := (by assumption : News h₀ L _ (_ :: news))
  exact hQ _ _ (by k_asm) (fun q hq => NN q (.tail _ hq))
local macro_rules | `(tactic| walk_at "call ref") => `(tactic| (k_dflt (refine' c_ranges ?k0 hch ?k1 ?k2 ?k3 ?k4 ?k5 ?k6 ?k7 ?k8 ?kQ; (case k0 => omega); (case k1 => k_asm); (case k2 => k_asm); (case k3 => k_asm); (case k4 => k_asm); (case k5 => exact rfl); (case k6 => k_asm); (case k7 => ktr_room); (case k8 => ktr_units)); intro hR tkR FR NR; (try dsimp only)))
theorem c_char {ch : Nat} {wt : Tok} (hch : ch < 128)
 (B : Below A₀ base outer h₀) (F : Fr h₀ L s.heap m) (X : (hd.heap_1 w.params).In h₀) (T : TopH mean mg mb h₀) (hck : cs.kind = .function)
 (N : News h₀ L s.heap news) (hdp : dp ≤ 690) (hun : un ≤ 90)
 (hQ : ∀ h' tk', Fr h₀ L h' m → News h₀ L h' news → Q (.bool (isCh ch)) {s with heap := h', toks := tk'})
 : wpAny (model prog w) (ktrTop dp un gd cn cs L a ccd cl outer) (call (.ref 63) [.str ⟨#[ch]⟩ wt]) Q E s := by
  w_top off
  refine wpAny_call ?_
  k_dflt cell_enter
  k_steps
  all_goals refine bool_end (hQ _ _ (by assumption) (by assumption)) ?_
  · rw [occ_sp ch hch]
    unfold isSp isCh
    exact decide_eq_decide.mpr (by omega)
  · unfold isCh
    exact (decide_eq_true (by omega)).symm

end
end Mine
end

-- Spaces
example : True ∧ True := by
  first | walk1 | constructor
  all_goals trivial
section
open PySem PySem.W PySem.W.X PyProof.Rows PySem.Calls
namespace Mine
set_option hygiene false
section
variable {w : World} {A₀ : Around} {E Q : Value → Shared → Prop} {s : Shared} {base h₀ : Heap} {outer : List Env} {L a : Addr} {m : Str → Option Value} {mg mb : Str → Option Value} {mean : ExcName → Option Value} {dp un : Nat} {gd : Option (List Code)} {cn : Str} {cs : Scope} {ccd : Value} {cl : List (Str × Addr)} {news : List (Addr × Obj)}

def Asc (x : Str) : Prop := ∀ c ∈ x.cps.toList, c < 128
def chAt (x : Str) (k : Int) : Nat := (x.cps[k.toNat]?).getD 0
def remT (x : Str) (k : Int) : List Nat := x.cps.toList.drop k.toNat
theorem len_cps (x : Str) : x.length = x.cps.toList.length := by show x.cps.size = _; simp
theorem remT_cons {x : Str} {k : Int} (h0 : 0 ≤ k) (h1 : k < (x.length : Int)) : remT x k = chAt x k :: remT x (k + 1) := by
  unfold remT chAt
  rw [len_cps] at h1
  have hl : k.toNat < x.cps.toList.length := by omega
  rw [List.drop_eq_getElem_cons hl, show (k + 1).toNat = k.toNat + 1 by omega]
  congr 1
  have hz : k.toNat < x.cps.size := by simpa using hl
  simp [Array.getElem?_eq_getElem hz]
theorem remT_nil {x : Str} {k : Int} (h1 : (x.length : Int) ≤ k) : remT x k = [] := by
  unfold remT
  rw [len_cps] at h1
  exact List.drop_eq_nil_of_le (by omega)
theorem chAt_lt {x : Str} {k : Int} (ha : Asc x) (h0 : 0 ≤ k) (h1 : k < (x.length : Int)) : chAt x k < 128 := by
  have := remT_cons h0 h1
  refine ha _ ?_
  have m : chAt x k ∈ remT x k := by rw [this]; exact .head _
  exact List.mem_of_mem_drop m
def spN (x : Str) (k : Int) : Nat := ((remT x k).takeWhile isSp).length
def ncN (x : Str) (k : Int) : Nat := ((remT x k).takeWhile isNc).length
theorem spN_t {x : Str} {k : Int} (h0 : 0 ≤ k) (h1 : k < (x.length : Int)) (h : isSp (chAt x k) = true) : spN x k = spN x (k + 1) + 1 := by
  unfold spN; rw [remT_cons h0 h1, List.takeWhile_cons, if_pos h]; rfl
theorem spN_f {x : Str} {k : Int} (h0 : 0 ≤ k) (h1 : k < (x.length : Int)) (h : isSp (chAt x k) = false) : spN x k = 0 := by
  unfold spN; rw [remT_cons h0 h1, List.takeWhile_cons, if_neg (by simp [h])]; rfl
theorem spN_e {x : Str} {k : Int} (h1 : (x.length : Int) ≤ k) : spN x k = 0 := by unfold spN; rw [remT_nil h1]; rfl
theorem ncN_t {x : Str} {k : Int} (h0 : 0 ≤ k) (h1 : k < (x.length : Int)) (h : isNc (chAt x k) = true) : ncN x k = ncN x (k + 1) + 1 := by
  unfold ncN; rw [remT_cons h0 h1, List.takeWhile_cons, if_pos h]; rfl
theorem ncN_f {x : Str} {k : Int} (h0 : 0 ≤ k) (h1 : k < (x.length : Int)) (h : isNc (chAt x k) = false) : ncN x k = 0 := by
  unfold ncN; rw [remT_cons h0 h1, List.takeWhile_cons, if_neg (by simp [h])]; rfl
theorem ncN_e {x : Str} {k : Int} (h1 : (x.length : Int) ≤ k) : ncN x k = 0 := by unfold ncN; rw [remT_nil h1]; rfl
theorem item_chAt {x : Str} {k : Int} (h0 : 0 ≤ k) (h1 : k < (x.length : Int)) : Txt.item x k = ⟨#[chAt x k]⟩ := by
  unfold Txt.item Txt.charAt chAt
  have : seqIndex? k x.length = some k.toNat := by
    unfold seqIndex?
    simp only [show ¬ k < 0 by omega, if_false]
    first | (simp; omega) | simp [h0, h1] | (split <;> simp_all <;> omega)
  rw [this]; rfl
theorem item_at {A : Around} {s : Shared} {Q E : Value → Shared → Prop} {value slice : Expr} {x : Str} {t u : Tok} {i : Int} {w : World} (h0 : 0 ≤ i) (h1 : i < (x.length : Int)) (hx : x.length ≤ 100000)
    (h : Q (.str ⟨#[chAt x i]⟩ s.toks) { s with toks := s.toks + 1 })
    (hs : subscripted slice false (.str x t) (.int i u) = operate [.str x t, .int i u] (getItem (.str x t) (.int i u)))
    (ht : ∀ r, letTemporaryGo value (.str x t) r = pure ()) :
    wpAny (model prog w) A (subscriptTail value slice (.str x t) (.int i u)) Q E s :=
  item_str (by simp only [fitsSsize]; simp; omega) (by omega) h1 (fun _ => by rw [item_chAt h0 h1]; exact h) hs ht
local macro_rules | `(tactic| walk_at "subscriptTail") => `(tactic| ((with_reducible show wpAny _ _ (subscriptTail _ _ (Value.str _ _) (Value.int _ _)) _ _ _); refine item_at (by omega) (by omega) hx ?_ (by with_unfolding_all rfl) (by intro _; with_unfolding_all rfl)))
local macro_rules | `(tactic| walk_at "call ref") => `(tactic| ((with_reducible show wpAny _ _ (call (Value.ref 56) _) _ _ _); k_dflt (refine c_space (chAt_lt hal (by omega) (by omega)) (by k_asm) (by k_asm) (by k_asm) (by k_asm) (by exact rfl) (by k_asm) (by ktr_room) (by ktr_units) ?_); intro hR tkR FR NR; (try dsimp only)))
theorem c_spaces {d c : Addr} {h1 h2 : Int} {t1 t2 tx tk : Tok} {x : Str} {k : Int}
 (B : Below A₀ base outer h₀) (F : Fr h₀ L s.heap m) (X : (hd.heap_1 w.params).In h₀) (T : TopH mean mg mb h₀) (hck : cs.kind = .function)
 (N : News h₀ L s.heap news) (hdp : dp ≤ 670) (hun : un ≤ 70)
 (hcd : (d, curD h1 h2 t1 t2 tx tk x k) ∈ news) (hci : (c, instObj 277 d) ∈ news) (hx : x.length ≤ 100000) (hk0 : 0 ≤ k) (hk1 : k ≤ (x.length : Int))
 (hal : Asc x)
 (hQ : ∀ h' tk' t tk₂, Fr h₀ L h' m → (∀ news', Upd d (curD h1 h2 t1 t2 tx tk x k) (curD h1 h2 t1 t2 tx tk₂ x (k + (spN x k : Int))) news news' → News h₀ L h' news') → Q (.int (spN x k : Int) t) {s with heap := h', toks := tk'})
 : wpAny (model prog w) (ktrTop dp un gd cn cs L a ccd cl outer) (call (.ref 246) [.ref c]) Q E s := by
  refine led_use N hcd hci (by simp) fun rest hL N hrd hsub hne => ?_
  w_top off
  refine wpAny_call ?_
  k_dflt cell_enter
  k_steps
  refine ⟨?_⟩
  refine' While_at (fun n news₁ => ∃ (k' : Int) (tk' : Tok), news₁ = (d, curD h1 h2 t1 t2 tx tk' x k') :: (c, instObj 277 d) :: rest ∧ k ≤ k' ∧ k' ≤ (x.length:Int) ∧ k' + (spN x k' : Int) = k + (spN x k : Int) ∧ n = ((x.length:Int) - k').toNat) ?F ?N ?J ?turn
  case F => k_asm
  case N => k_asm
  case J => exact ⟨k, _, rfl, Int.le_refl _, hk1, rfl, rfl⟩
  case turn =>
    rintro n news₁ hw₁ tk₁ F₁ N₁ ⟨k', tk', rfl, hk0', hk1', hsp, hn⟩
    try dsimp only
    k_steps
    · refine ⟨_, _, _, _, ((x.length : Int) - (k' + 1)).toNat, rfl, by k_asm, by k_asm, by omega, rfl, k' + 1, _, rfl, by omega, by omega, ?_, rfl⟩
      rw [spN_t (by omega) (by omega) (by assumption)] at hsp
      omega
    · rw [spN_f (by omega) (by omega) (by assumption)] at hsp
      have e : k' = k + (spN x k : Int) := by omega
      subst e
      rw [show k + (spN x k : Int) - k = (spN x k : Int) by omega]
      exact hQ _ _ _ _ (by k_asm) (fun news' U => hL.upd _ _ _ _ (by k_asm) (by k_mem) (by k_mem) (fun q hq => .tail _ (.tail _ hq)) U)
    · rw [spN_e (by omega)] at hsp
      have e : k' = k + (spN x k : Int) := by omega
      subst e
      rw [show k + (spN x k : Int) - k = (spN x k : Int) by omega]
      exact hQ _ _ _ _ (by k_asm) (fun news' U => hL.upd _ _ _ _ (by k_asm) (by k_mem) (by k_mem) (fun q hq => .tail _ (.tail _ hq)) U)

end
end Mine
end

-- Name
example : True ∧ True := by
  first | walk1 | constructor
  all_goals trivial
section
open PySem PySem.W PySem.W.X PyProof.Rows PySem.Calls
namespace Mine
set_option hygiene false
section
variable {w : World} {A₀ : Around} {E Q : Value → Shared → Prop} {s : Shared} {base h₀ : Heap} {outer : List Env} {L a : Addr} {m : Str → Option Value} {mg mb : Str → Option Value} {mean : ExcName → Option Value} {dp un : Nat} {gd : Option (List Code)} {cn : Str} {cs : Scope} {ccd : Value} {cl : List (Str × Addr)} {news : List (Addr × Obj)}
def okN (x : Str) (k : Int) : Prop := k < (x.length : Int) ∧ isNs (chAt x k) = true
local macro_rules | `(tactic| walk_at "subscriptTail") => `(tactic| ((with_reducible show wpAny _ _ (subscriptTail _ _ (Value.str _ _) (Value.int _ _)) _ _ _); refine item_at (by omega) (by omega) hx ?_ (by with_unfolding_all rfl) (by intro _; with_unfolding_all rfl)))
local macro_rules | `(tactic| walk_at "call ref") => `(tactic| ((with_reducible show wpAny _ _ (call (Value.ref 77) _) _ _ _); k_dflt (refine c_nstart (chAt_lt hal (by omega) (by omega)) (by k_asm) (by k_asm) (by k_asm) (by k_asm) (by exact rfl) (by k_asm) (by ktr_room) (by ktr_units) ?_); intro hR tkR FR NR; (try dsimp only)))
local macro_rules | `(tactic| walk_at "call ref") => `(tactic| ((with_reducible show wpAny _ _ (call (Value.ref 84) _) _ _ _); k_dflt (refine c_nchar (chAt_lt hal (by omega) (by omega)) (by k_asm) (by k_asm) (by k_asm) (by k_asm) (by exact rfl) (by k_asm) (by ktr_room) (by ktr_units) ?_); intro hR tkR FR NR; (try dsimp only)))
local macro_rules | `(tactic| walk_at "call ref") => `(tactic| ((with_reducible show wpAny _ _ (call (Value.ref 203) _) _ _ _); refine halt ?_))
theorem c_name {d c : Addr} {h1 h2 : Int} {t1 t2 tx tk : Tok} {x : Str} {k : Int}
 (B : Below A₀ base outer h₀) (F : Fr h₀ L s.heap m) (X : (hd.heap_1 w.params).In h₀) (T : TopH mean mg mb h₀) (hck : cs.kind = .function)
 (N : News h₀ L s.heap news) (hdp : dp ≤ 660) (hun : un ≤ 60)
 (hcd : (d, curD h1 h2 t1 t2 tx tk x k) ∈ news) (hci : (c, instObj 277 d) ∈ news) (hx : x.length ≤ 100000) (hk0 : 0 ≤ k) (hk1 : k ≤ (x.length : Int))
 (hal : Asc x)
 (hQ : okN x k → ∀ h' tk' t tk₂, Fr h₀ L h' m → (∀ news', Upd d (curD h1 h2 t1 t2 tx tk x k) (curD h1 h2 t1 t2 tx tk₂ x (k + 1 + (ncN x (k + 1) : Int))) news news' → News h₀ L h' news') → Q (.str (Txt.slice x (some k) (some (k + 1 + (ncN x (k + 1) : Int)))) t) {s with heap := h', toks := tk'})
 (hE : ¬ okN x k → ExP E base h₀ L m (envX cn cs L a ccd cl :: outer) news d s (k))
 : wpAny (model prog w) (ktrTop dp un gd cn cs L a ccd cl outer) (call (.ref 260) [.ref c]) Q E s := by
  refine led_use N hcd hci (by simp) fun rest hL N hrd hsub hne => ?_
  w_top off
  refine wpAny_call ?_
  k_dflt cell_enter
  k_steps
  · (refine ⟨?_⟩; refine c_fault (by k_asm) (by k_asm) (by k_asm) (by k_asm) rfl (by k_asm) (by k_mem) (by k_mem) (by ktr_room) (by ktr_units) ?_; exact exp_pass (by k_asm) (by k_asm) (hE (by unfold okN; omega)) (fun q hq => hL.ex _ (by k_mem) (fun q hq => .tail _ (.tail _ hq)) q hq) rfl rfl rfl)
  · refine ⟨?_⟩
    refine' While_at (fun n news₁ => ∃ (k' : Int) (tk' : Tok), news₁ = (d, curD h1 h2 t1 t2 tx tk' x k') :: (c, instObj 277 d) :: rest ∧ k + 1 ≤ k' ∧ k' ≤ (x.length:Int) ∧ k' + (ncN x k' : Int) = k + 1 + (ncN x (k + 1) : Int) ∧ n = ((x.length:Int) - k').toNat) ?F ?N ?J ?turn
    case F => k_asm
    case N => k_asm
    case J => exact ⟨k + 1, _, rfl, Int.le_refl _, by omega, rfl, rfl⟩
    case turn =>
      rintro n news₁ hw₁ tk₁ F₁ N₁ ⟨k', tk', rfl, hk0', hk1', hsp, hn⟩
      try dsimp only
      k_steps
      · refine ⟨_, _, _, _, ((x.length : Int) - (k' + 1)).toNat, rfl, by k_asm, by k_asm, by omega, rfl, k' + 1, _, rfl, by omega, by omega, ?_, rfl⟩
        rw [ncN_t (by omega) (by omega) (by assumption)] at hsp
        omega
      · rw [ncN_f (by omega) (by omega) (by assumption)] at hsp
        have e : k' = k + 1 + (ncN x (k + 1) : Int) := by omega
        subst e
        exact hQ ⟨by omega, by assumption⟩ _ _ _ _ (by k_asm) (fun news' U => hL.upd _ _ _ _ (by k_asm) (by k_mem) (by k_mem) (fun q hq => .tail _ (.tail _ hq)) U)
      · rw [ncN_e (by omega)] at hsp
        have e : k' = k + 1 + (ncN x (k + 1) : Int) := by omega
        subst e
        exact hQ ⟨by omega, by assumption⟩ _ _ _ _ (by k_asm) (fun news' U => hL.upd _ _ _ _ (by k_asm) (by k_mem) (by k_mem) (fun q hq => .tail _ (.tail _ hq)) U)
  · (refine ⟨?_⟩; refine c_fault (by k_asm) (by k_asm) (by k_asm) (by k_asm) rfl (by k_asm) (by k_mem) (by k_mem) (by ktr_room) (by ktr_units) ?_; exact exp_pass (by k_asm) (by k_asm) (hE (by unfold okN; simp_all)) (fun q hq => hL.ex _ (by k_mem) (fun q hq => .tail _ (.tail _ hq)) q hq) rfl rfl rfl)

end
end Mine
end

-- Skip
example : True ∧ True := by
  first | walk1 | constructor
  all_goals trivial
section
open PySem PySem.W PySem.W.X PyProof.Rows PySem.Calls
namespace Mine
set_option hygiene false
section
variable {w : World} {A₀ : Around} {E Q : Value → Shared → Prop} {s : Shared} {base h₀ : Heap} {outer : List Env} {L a : Addr} {m : Str → Option Value} {mg mb : Str → Option Value} {mean : ExcName → Option Value} {dp un : Nat} {gd : Option (List Code)} {cn : Str} {cs : Scope} {ccd : Value} {cl : List (Str × Addr)} {news : List (Addr × Obj)}
local macro_rules | `(tactic| walk_at "subscriptTail") => `(tactic| ((with_reducible show wpAny _ _ (subscriptTail _ _ (Value.str _ _) (Value.int _ _)) _ _ _); refine item_at (by omega) (by omega) hx ?_ (by with_unfolding_all rfl) (by intro _; with_unfolding_all rfl)))
local macro_rules | `(tactic| walk_at "call ref") => `(tactic| ((with_reducible show wpAny _ _ (call (Value.ref 203) _) _ _ _); refine halt ?_))
theorem c_skip {wd : Str} {wt : Tok} {d c : Addr} {h1 h2 : Int} {t1 t2 tx tk : Tok} {x : Str} {k : Int}
 (B : Below A₀ base outer h₀) (F : Fr h₀ L s.heap m) (X : (hd.heap_1 w.params).In h₀) (T : TopH mean mg mb h₀) (hck : cs.kind = .function)
 (N : News h₀ L s.heap news) (hdp : dp ≤ 660) (hun : un ≤ 60)
 (hcd : (d, curD h1 h2 t1 t2 tx tk x k) ∈ news) (hci : (c, instObj 277 d) ∈ news) (hx : x.length ≤ 100000) (hk0 : 0 ≤ k) (hk1 : k ≤ (x.length : Int))
 (hal : Asc x) (hwd : wd.length ≤ 10)
 (hQ : Txt.startswith3 x wd k = true → ∀ h' tk' (t tk₂ : Tok), Fr h₀ L h' m → (∀ news', Upd d (curD h1 h2 t1 t2 tx tk x k) (curD h1 h2 t1 t2 tx tk₂ x (k + (wd.length : Int))) news news' → News h₀ L h' news') → Q (.bool true) {s with heap := h', toks := tk'})
 (hQ2 : Txt.startswith3 x wd k = false → ∀ h' tk', Fr h₀ L h' m → News h₀ L h' news → Q (.bool false) {s with heap := h', toks := tk'})
 : wpAny (model prog w) (ktrTop dp un gd cn cs L a ccd cl outer) (call (.ref 218) [.ref c, .str wd wt]) Q E s := by
  refine led_use N hcd hci (by simp) fun rest hL N hrd hsub hne => ?_
  w_top off
  refine wpAny_call ?_
  k_dflt cell_enter
  k_steps
  · exact hQ (by assumption) _ _ 0 _ (by k_asm) (fun news' U => hL.upd _ _ _ _ (by k_asm) (by k_mem) (by k_mem) (fun q hq => .tail _ (.tail _ hq)) U)
  · exact hQ2 (by assumption) _ _ (by k_asm) (hL.same _ _ (by k_asm) (by k_mem) (by k_mem) (fun q hq => .tail _ (.tail _ hq)))
theorem c_until {wd : Str} {wt : Tok} {d c : Addr} {h1 h2 : Int} {t1 t2 tx tk : Tok} {x : Str} {k : Int}
 (B : Below A₀ base outer h₀) (F : Fr h₀ L s.heap m) (X : (hd.heap_1 w.params).In h₀) (T : TopH mean mg mb h₀) (hck : cs.kind = .function)
 (N : News h₀ L s.heap news) (hdp : dp ≤ 660) (hun : un ≤ 60)
 (hcd : (d, curD h1 h2 t1 t2 tx tk x k) ∈ news) (hci : (c, instObj 277 d) ∈ news) (hx : x.length ≤ 100000) (hk0 : 0 ≤ k) (hk1 : k ≤ (x.length : Int))
 (hal : Asc x) (hwd : wd.length ≤ 10)
 (hQ : ¬ Txt.find3 x wd k < 0 → ∀ h' tk' (t tk₂ : Tok), Fr h₀ L h' m → (∀ news', Upd d (curD h1 h2 t1 t2 tx tk x k) (curD h1 h2 t1 t2 tx tk₂ x (Txt.find3 x wd k + (wd.length : Int))) news news' → News h₀ L h' news') → Q (.str (Txt.slice x (some k) (some (Txt.find3 x wd k))) t) {s with heap := h', toks := tk'})
 (hE : Txt.find3 x wd k < 0 → ExP E base h₀ L m (envX cn cs L a ccd cl :: outer) news d s (k))
 : wpAny (model prog w) (ktrTop dp un gd cn cs L a ccd cl outer) (call (.ref 232) [.ref c, .str wd wt]) Q E s := by
  refine led_use N hcd hci (by simp) fun rest hL N hrd hsub hne => ?_
  w_top off
  refine wpAny_call ?_
  k_dflt cell_enter
  k_steps
  · (refine ⟨?_⟩; refine c_fault (by k_asm) (by k_asm) (by k_asm) (by k_asm) rfl (by k_asm) (by k_mem) (by k_mem) (by ktr_room) (by ktr_units) ?_; exact exp_pass (by k_asm) (by k_asm) (hE (by assumption)) (fun q hq => hL.ex _ (by k_mem) (fun q hq => .tail _ (.tail _ hq)) q hq) rfl rfl rfl)
  · exact hQ (by assumption) _ _ _ _ (by k_asm) (fun news' U => hL.upd _ _ _ _ (by k_asm) (by k_mem) (by k_mem) (fun q hq => .tail _ (.tail _ hq)) U)
local macro_rules | `(tactic| walk_at "call ref") => `(tactic| ((with_reducible show wpAny _ _ (call (Value.ref 218) _) _ _ _); k_dflt (refine c_skip (by k_asm) (by k_asm) (by k_asm) (by k_asm) (by exact rfl) (by k_asm) (by ktr_room) (by ktr_units) (by k_mem) (by k_mem) hx (by omega) (by omega) hal (by first | assumption | decide) ?_ ?_); rotate_left; (intro sw hR tkR FR NR; (try dsimp only)); rotate_left; (intro sw hR tkR t0 tk0 FR NR0; (have NR := NR0 _ (by k_upd)); clear NR0; (try dsimp only))))
theorem c_expect {wd : Str} {wt : Tok} {d c : Addr} {h1 h2 : Int} {t1 t2 tx tk : Tok} {x : Str} {k : Int}
 (B : Below A₀ base outer h₀) (F : Fr h₀ L s.heap m) (X : (hd.heap_1 w.params).In h₀) (T : TopH mean mg mb h₀) (hck : cs.kind = .function)
 (N : News h₀ L s.heap news) (hdp : dp ≤ 660) (hun : un ≤ 60)
 (hcd : (d, curD h1 h2 t1 t2 tx tk x k) ∈ news) (hci : (c, instObj 277 d) ∈ news) (hx : x.length ≤ 100000) (hk0 : 0 ≤ k) (hk1 : k ≤ (x.length : Int))
 (hal : Asc x) (hwd : wd.length ≤ 10)
 (hQ : Txt.startswith3 x wd k = true → ∀ h' tk' (t tk₂ : Tok), Fr h₀ L h' m → (∀ news', Upd d (curD h1 h2 t1 t2 tx tk x k) (curD h1 h2 t1 t2 tx tk₂ x (k + (wd.length : Int))) news news' → News h₀ L h' news') → Q (.none) {s with heap := h', toks := tk'})
 (hE : Txt.startswith3 x wd k = false → ExP E base h₀ L m (envX cn cs L a ccd cl :: outer) news d s (k))
 : wpAny (model prog w) (ktrTop dp un gd cn cs L a ccd cl outer) (call (.ref 225) [.ref c, .str wd wt]) Q E s := by
  refine led_use N hcd hci (by simp) fun rest hL N hrd hsub hne => ?_
  w_top off
  refine wpAny_call ?_
  k_dflt cell_enter
  k_steps
  · exact hQ (by assumption) _ _ 0 _ (by k_asm) (fun news' U => hL.upd _ _ _ _ (by k_asm) (by k_mem) (by k_mem) (fun q hq => .tail _ (.tail _ hq)) U)
  · (refine ⟨?_⟩; refine c_fault (by k_asm) (by k_asm) (by k_asm) (by k_asm) rfl (by k_asm) (by k_mem) (by k_mem) (by ktr_room) (by ktr_units) ?_; exact exp_pass (by k_asm) (by k_asm) (hE (by assumption)) (fun q hq => hL.ex _ (by k_mem) (fun q hq => .tail _ (.tail _ hq)) q hq) rfl rfl rfl)

end
end Mine
end

-- TxtL
section
open PySem PySem.W PySem.W.X PyProof.Rows PySem.Calls PySem.Builtin PySem.Builtin.Str
namespace Mine
theorem slice_cut {x : Str} {i j : Int} (h : 0 ≤ i ∧ i ≤ j ∧ j ≤ (x.length : Int)) : Txt.slice x (some i) (some j) = ⟨((remT x i).take (j - i).toNat).toArray⟩ :=
  eq_of_beq (slice_closes (by rw [len_cps] at h; exact h))
theorem sliceIdx_beyond (len : Nat) {i j : Int} (h0 : (len : Int) ≤ i) (h : (len : Int) ≤ j) : strSliceIndices (some i) (some j) 1 len = strSliceIndices (some (len : Int)) (some (len : Int)) 1 len := by
  have a1 : ¬ i < 0 := by omega
  have a2 : ¬ j < 0 := by omega
  have a3 : ¬ ((len : Int) < 0) := by omega
  have e1 : max (0 : Int) (min i (len : Int)) = len := by omega
  have e2 : max (0 : Int) (min j (len : Int)) = len := by omega
  have e3 : max (0 : Int) (min (len : Int) (len : Int)) = len := by omega
  simp [strSliceIndices, a1, a2, a3, e1, e2, e3]
theorem slice_end {x : Str} {i j : Int} (h0 : (x.length : Int) ≤ i) (h : (x.length : Int) ≤ j) : Txt.slice x (some i) (some j) = ⟨#[]⟩ := by
  have e : Txt.slice x (some i) (some j) = Txt.slice x (some (x.length : Int)) (some (x.length : Int)) := by
    unfold Txt.slice
    rw [sliceIdx_beyond x.length h0 h]
  rw [e, slice_cut ⟨by omega, by omega, by omega⟩, remT_nil (by omega), List.take_nil]
theorem slice_one {x : Str} {k : Int} (h0 : 0 ≤ k) (h1 : k < (x.length : Int)) : Txt.slice x (some k) (some (k + 1)) = ⟨#[chAt x k]⟩ := by
  rw [slice_cut ⟨h0, by omega, by omega⟩, remT_cons h0 h1, show (k + 1 - k).toNat = 1 by omega]
  rfl
end Mine
end

-- Quoted
example : True ∧ True := by
  first | walk1 | constructor
  all_goals trivial
section
open PySem PySem.W PySem.W.X PyProof.Rows PySem.Calls
namespace Mine
set_option hygiene false
section
variable {w : World} {A₀ : Around} {E Q : Value → Shared → Prop} {s : Shared} {base h₀ : Heap} {outer : List Env} {L a : Addr} {m : Str → Option Value} {mg mb : Str → Option Value} {mean : ExcName → Option Value} {dp un : Nat} {gd : Option (List Code)} {cn : Str} {cs : Scope} {ccd : Value} {cl : List (Str × Addr)} {news : List (Addr × Obj)}
def okQ (x : Str) (k : Int) : Prop := k < (x.length : Int) ∧ (chAt x k = 34 ∨ chAt x k = 39)
theorem ofdq : Str.ofString "\"" = ⟨#[34]⟩ := rfl
theorem ofsq : Str.ofString "'" = ⟨#[39]⟩ := rfl
theorem bne1 (a b : Nat) : ((Str.mk #[a]) != (Str.mk #[b])) = decide (a ≠ b) := by
  show (!((Str.mk #[a]) == (Str.mk #[b]))) = _
  rw [beq1, bnot]
theorem bne0 (b : Nat) : ((Str.mk #[]) != (Str.mk #[b])) = true := by
  have : ((Str.mk #[]) == (Str.mk #[b])) = false := by
    refine beq_eq_false_iff_ne.mpr fun z => ?_
    injection z with z
    simp at z
  show (!_) = true
  rw [this]; rfl
local macro_rules | `(tactic| walk_at "subscriptTail") => `(tactic| ((with_reducible show wpAny _ _ (subscriptTail _ _ (Value.str _ _) (Value.int _ _)) _ _ _); refine item_at (by omega) (by omega) hx ?_ (by with_unfolding_all rfl) (by intro _; with_unfolding_all rfl)))
local macro_rules | `(tactic| walk_at "call ref") => `(tactic| ((with_reducible show wpAny _ _ (call (Value.ref 203) _) _ _ _); refine halt ?_))
local macro_rules | `(tactic| walk_at "call ref") => `(tactic| ((with_reducible show wpAny _ _ (call (Value.ref 232) _) _ _ _); refine halt ?_))
theorem c_quoted {d c : Addr} {h1 h2 : Int} {t1 t2 tx tk : Tok} {x : Str} {k : Int}
 (B : Below A₀ base outer h₀) (F : Fr h₀ L s.heap m) (X : (hd.heap_1 w.params).In h₀) (T : TopH mean mg mb h₀) (hck : cs.kind = .function)
 (N : News h₀ L s.heap news) (hdp : dp ≤ 655) (hun : un ≤ 55)
 (hcd : (d, curD h1 h2 t1 t2 tx tk x k) ∈ news) (hci : (c, instObj 277 d) ∈ news) (hx : x.length ≤ 100000) (hk0 : 0 ≤ k) (hk1 : k ≤ (x.length : Int))
 (hal : Asc x)
 (hQ : okQ x k → ¬ Txt.find3 x ⟨#[chAt x k]⟩ (k + 1) < 0 → ∀ h' tk' D (tR tp tk₂ : Tok), Fr h₀ L h' m → (∀ news', Upd d (curD h1 h2 t1 t2 tx tk x k) (curD h1 h2 t1 t2 tx tk₂ x (Txt.find3 x ⟨#[chAt x k]⟩ (k + 1) + 1)) news news' → News h₀ L h' ((D, tup2 (.str (Txt.slice x (some (k + 1)) (some (Txt.find3 x ⟨#[chAt x k]⟩ (k + 1)))) tR) (.int (k + 1) tp)) :: news')) →
   (∀ p ∈ news, p.1 < D) → Q (.ref D) {s with heap := h', toks := tk'})
 (hE : ¬ okQ x k → ExP E base h₀ L m (envX cn cs L a ccd cl :: outer) news d s (k))
 (hE2 : okQ x k → Txt.find3 x ⟨#[chAt x k]⟩ (k + 1) < 0 → ExP E base h₀ L m (envX cn cs L a ccd cl :: outer) news d s (k + 1))
 : wpAny (model prog w) (ktrTop dp un gd cn cs L a ccd cl outer) (call (.ref 267) [.ref c]) Q E s := by
  by_cases hkl : k < (x.length : Int)
  · have hsl := slice_one hk0 hkl
    refine led_use N hcd hci (by simp) fun rest hL N hrd hsub hne => ?_
    w_top off
    refine wpAny_call ?_
    k_dflt cell_enter

    k_steps
    all_goals try simp only [hsl, ofdq, ofsq, bne1, decide_eq_true_eq, decide_eq_false_iff_not, ne_eq, Decidable.not_not] at *
    · (refine ⟨?_⟩; refine c_fault (by k_asm) (by k_asm) (by k_asm) (by k_asm) rfl (by k_asm) (by k_mem) (by k_mem) (by ktr_room) (by ktr_units) ?_; exact exp_pass (by k_asm) (by k_asm) (hE (by unfold okQ; omega)) (fun q hq => hL.ex _ (by k_mem) (fun q hq => .tail _ (.tail _ hq)) q hq) rfl rfl rfl)
    · (refine ⟨?_⟩; refine c_until (by k_asm) (by k_asm) (by k_asm) (by k_asm) (by exact rfl) (by k_asm) (by ktr_room) (by ktr_units) (by k_mem) (by k_mem) hx (by omega) (by omega) hal ?_ ?_ ?_)
      · exact (show 1 ≤ 10 by decide)
      · intro hf hR tkR tR tk₂ FR NR0
        have NR := NR0 _ (by k_upd)
        clear NR0
        k_steps
        exact hQ ⟨hkl, by omega⟩ hf _ _ _ _ _ _ (by k_asm) (fun news' U => news_cons (by k_asm) (.head _) (hL.upd _ _ _ _ (by k_asm) (by k_mem) (by k_mem) (fun q hq => .tail _ (.tail _ (.tail _ hq))) U)) (hL.lt _ (by assumption))
      · intro hf
        exact exp_pass (by k_asm) (by k_asm) (hE2 ⟨hkl, by omega⟩ hf) (fun q hq => hL.ex _ (by k_mem) (fun q hq => .tail _ (.tail _ hq)) q hq) rfl rfl rfl

    · (refine ⟨?_⟩; refine c_until (by k_asm) (by k_asm) (by k_asm) (by k_asm) (by exact rfl) (by k_asm) (by ktr_room) (by ktr_units) (by k_mem) (by k_mem) hx (by omega) (by omega) hal ?_ ?_ ?_)
      · exact (show 1 ≤ 10 by decide)
      · intro hf hR tkR tR tk₂ FR NR0
        have NR := NR0 _ (by k_upd)
        clear NR0
        k_steps
        exact hQ ⟨hkl, by omega⟩ hf _ _ _ _ _ _ (by k_asm) (fun news' U => news_cons (by k_asm) (.head _) (hL.upd _ _ _ _ (by k_asm) (by k_mem) (by k_mem) (fun q hq => .tail _ (.tail _ (.tail _ hq))) U)) (hL.lt _ (by assumption))
      · intro hf
        exact exp_pass (by k_asm) (by k_asm) (hE2 ⟨hkl, by omega⟩ hf) (fun q hq => hL.ex _ (by k_mem) (fun q hq => .tail _ (.tail _ hq)) q hq) rfl rfl rfl

  · have hsl := slice_end (x := x) (i := k) (j := k + 1) (by omega) (by omega)
    refine led_use N hcd hci (by simp) fun rest hL N hrd hsub hne => ?_
    w_top off
    refine wpAny_call ?_
    k_dflt cell_enter

    k_steps
    all_goals try simp only [hsl, ofdq, ofsq, bne0] at *
    · (refine ⟨?_⟩; refine c_fault (by k_asm) (by k_asm) (by k_asm) (by k_asm) rfl (by k_asm) (by k_mem) (by k_mem) (by ktr_room) (by ktr_units) ?_; exact exp_pass (by k_asm) (by k_asm) (hE (by unfold okQ; omega)) (fun q hq => hL.ex _ (by k_mem) (fun q hq => .tail _ (.tail _ hq)) q hq) rfl rfl rfl)
    all_goals exact absurd (by assumption : true = false) (by decide)

end
end Mine
end

-- TxtM
section
open PySem PySem.W PySem.W.X PyProof.Rows PySem.Calls PySem.Builtin PySem.Builtin.Str
namespace Mine
theorem occ_keep (s sub : Str) (hi : Nat) : ∀ (l : List Nat) (st : Array Nat × Nat), 1 ≤ st.fst.size → (forIn l st (StrLaws.occBody s sub hi 1)).run.fst = st.fst
  | [], st, h => rfl
  | a :: l, st, h => by
    rw [List.forIn_cons]
    unfold StrLaws.occBody
    rw [if_neg (by omega)]
    exact occ_keep s sub hi l _ h
def hitAt (s sub : Str) (hi : Nat) (i : Nat) : Bool := decide (i + sub.length ≤ hi) && subAt s sub i
theorem occ_first (s sub : Str) (hi : Nat) : ∀ (l : List Nat) (free : Nat), (∀ i ∈ l, free ≤ i) →
    (forIn l ((#[] : Array Nat), free) (StrLaws.occBody s sub hi 1)).run.fst.toList = (l.find? (hitAt s sub hi)).toList
  | [], free, _ => rfl
  | a :: l, free, hf => by
    rw [List.forIn_cons, List.find?_cons]
    unfold StrLaws.occBody
    have ha : free ≤ a := hf a (List.mem_cons_self ..)
    by_cases hc : a + sub.length ≤ hi ∧ subAt s sub a = true
    · have c1 : (((#[] : Array Nat), free).fst.size < 1 ∧ ((#[] : Array Nat), free).snd ≤ a) ∧ a + sub.length ≤ hi := ⟨⟨by simp, ha⟩, hc.1⟩
      rw [if_pos ⟨c1, hc.2⟩]
      have e : hitAt s sub hi a = true := by unfold hitAt; simp [hc.1, hc.2]
      rw [e]
      have := occ_keep s sub hi l ((#[] : Array Nat).push a, a + sub.length) (by simp)
      exact (congrArg Array.toList this).trans rfl
    · have c2 : ¬ (((((#[] : Array Nat), free).fst.size < 1 ∧ ((#[] : Array Nat), free).snd ≤ a) ∧ a + sub.length ≤ hi) ∧ subAt s sub a = true) := fun h => hc ⟨h.1.2, h.2⟩
      rw [if_neg c2]
      have e : hitAt s sub hi a = false := by
        unfold hitAt
        apply Bool.eq_false_iff.mpr
        intro h
        simp only [Bool.and_eq_true, decide_eq_true_eq] at h
        exact hc h
      rw [e]
      exact occ_first s sub hi l free (fun i hi' => hf i (List.mem_cons_of_mem _ hi'))
theorem fromIndex_in {n : Nat} {k : Int} (h0 : 0 ≤ k) : fromIndex n k = k.toNat := by
  unfold fromIndex
  rw [if_neg (by omega)]
  omega
theorem find3_eq {x y : Str} {k : Int} (h0 : 0 ≤ k) : Txt.find3 x y k = match (List.range' k.toNat (x.length + 1 - k.toNat)).find? (hitAt x y x.length) with | some i => (i : Int) | none => -1 := by
  unfold Txt.find3
  rw [fromIndex_in h0, StrLaws.occ_eq, occ_first _ _ _ _ _ (fun i hi => (List.mem_range'_1.mp hi).1)]
  cases (List.range' k.toNat (x.length + 1 - k.toNat)).find? (hitAt x y x.length) <;> rfl
theorem find3_in {x y : Str} {k : Int} (h0 : 0 ≤ k) (h : ¬ Txt.find3 x y k < 0) : k ≤ Txt.find3 x y k ∧ Txt.find3 x y k + (y.length : Int) ≤ (x.length : Int) := by
  rw [find3_eq h0] at h ⊢
  cases e : (List.range' k.toNat (x.length + 1 - k.toNat)).find? (hitAt x y x.length) with
  | none => rw [e] at h; simp at h
  | some i =>
    have m := List.mem_range'_1.mp (List.mem_of_find?_eq_some e)
    have p := List.find?_some e
    unfold hitAt at p
    simp only [Bool.and_eq_true, decide_eq_true_eq] at p
    simp only
    omega
theorem sw_in {x y : Str} {k : Int} (h0 : 0 ≤ k) (h : Txt.startswith3 x y k = true) : k + (y.length : Int) ≤ (x.length : Int) := by
  unfold Txt.startswith3 at h
  rw [fromIndex_in h0] at h
  simp only [Bool.and_eq_true, decide_eq_true_eq] at h
  omega
theorem tw_le (p : Nat → Bool) : ∀ l : List Nat, (l.takeWhile p).length ≤ l.length := fun l => (List.takeWhile_sublist p).length_le
theorem remT_len {x : Str} {k : Int} (h0 : 0 ≤ k) (h1 : k ≤ (x.length : Int)) : (k + ((remT x k).length : Int)) = (x.length : Int) := by
  unfold remT
  rw [len_cps] at *
  rw [List.length_drop]
  omega
theorem spN_le {x : Str} {k : Int} (h0 : 0 ≤ k) (h1 : k ≤ (x.length : Int)) : k + (spN x k : Int) ≤ (x.length : Int) := by
  have := remT_len h0 h1
  have := tw_le isSp (remT x k)
  unfold spN; omega
theorem ncN_le {x : Str} {k : Int} (h0 : 0 ≤ k) (h1 : k ≤ (x.length : Int)) : k + (ncN x k : Int) ≤ (x.length : Int) := by
  have := remT_len h0 h1
  have := tw_le isNc (remT x k)
  unfold ncN; omega
/-- how many signs stand ahead of the first q -/
def toQ (x : Str) (q : Nat) (k : Int) : Nat := ((remT x k).takeWhile (· != q)).length
theorem hit_one {x : Str} {q i : Nat} (h : i < x.length) : hitAt x ⟨#[q]⟩ x.length i = decide (chAt x (i : Int) = q) := by
  unfold hitAt
  have e := StrLaws.subAt_one x q i
  have c : x.cps.toList[i]? = some (chAt x (i : Int)) := by
    unfold chAt
    have hz : i < x.cps.size := h
    simp [hz]
  rw [c] at e
  rw [Bool.eq_iff_iff]
  simp only [Bool.and_eq_true, decide_eq_true_eq]
  exact e.trans ⟨fun h => Option.some.inj h, fun h => congrArg some h⟩
theorem find_one (x : Str) (q : Nat) : ∀ n k : Nat, k + n = x.length → (List.range' k (n + 1)).find? (hitAt x ⟨#[q]⟩ x.length) = if k + toQ x q (k : Int) < x.length then some (k + toQ x q (k : Int)) else none
  | 0, k, h => by
    have e : hitAt x ⟨#[q]⟩ x.length k = false := by
      unfold hitAt
      have : ¬ (k + (⟨#[q]⟩ : Str).length ≤ x.length) := by show ¬ (k + 1 ≤ x.length); omega
      simp [this]
    rw [List.range'_succ, List.find?_cons, e]
    rw [if_neg (by omega)]
    rfl
  | n + 1, k, h => by
    have ih := find_one x q n (k + 1) (by omega)
    have hk : (k : Int) < (x.length : Int) := by omega
    rw [List.range'_succ, List.find?_cons, hit_one (by omega)]
    have hr := remT_cons (x := x) (k := (k : Int)) (by omega) hk
    by_cases hc : chAt x (k : Int) = q
    · have t : toQ x q (k : Int) = 0 := by unfold toQ; rw [hr, List.takeWhile_cons, if_neg (by simp [hc])]; rfl
      rw [t]
      simp only [hc, decide_true]
      rw [if_pos (by omega)]; rfl
    · have t : toQ x q (k : Int) = toQ x q ((k + 1 : Nat) : Int) + 1 := by unfold toQ; rw [hr, List.takeWhile_cons, if_pos (by simp [hc])]; rfl
      simp only [hc, decide_false]
      rw [ih, t]
      by_cases g : k + 1 + toQ x q ((k + 1 : Nat) : Int) < x.length
      · rw [if_pos g, if_pos (by omega)]
        congr 1; omega
      · rw [if_neg g, if_neg (by omega)]
/-- a find of one sign: at the first one, or below nought -/
theorem find3_one {x : Str} {q : Nat} {k : Int} (h0 : 0 ≤ k) (h1 : k ≤ (x.length : Int)) : Txt.find3 x ⟨#[q]⟩ k = if k + (toQ x q k : Int) < (x.length : Int) then k + (toQ x q k : Int) else -1 := by
  rw [find3_eq h0]
  have e : ((k.toNat : Nat) : Int) = k := Int.toNat_of_nonneg h0
  have f := find_one x q (x.length - k.toNat) k.toNat (by omega)
  rw [e] at f
  rw [show x.length + 1 - k.toNat = x.length - k.toNat + 1 by omega, f]
  by_cases g : k + (toQ x q k : Int) < (x.length : Int)
  · rw [if_pos g, if_pos (by omega)]
    simp only
    omega
  · rw [if_neg g, if_neg (by omega)]
end Mine
end

-- Use
section
open PySem PySem.W PySem.W.X PyProof.Rows PySem.Calls
namespace Mine
set_option hygiene false
section
variable {w : World} {A₀ : Around} {E Q : Value → Shared → Prop} {s : Shared} {base h₀ : Heap} {outer : List Env} {L a : Addr} {m : Str → Option Value} {mg mb : Str → Option Value} {mean : ExcName → Option Value} {dp un : Nat} {gd : Option (List Code)} {cn : Str} {cs : Scope} {ccd : Value} {cl : List (Str × Addr)} {news : List (Addr × Obj)}
theorem u_spaces {d c : Addr} {h1 h2 : Int} {t1 t2 tx tk : Tok} {x : Str} {k : Int}
 (B : Below A₀ base outer h₀) (F : Fr h₀ L s.heap m) (X : (hd.heap_1 w.params).In h₀) (T : TopH mean mg mb h₀) (hck : cs.kind = .function)
 (N : News h₀ L s.heap news) (hdp : dp ≤ 655) (hun : un ≤ 55)
 (hcd : (d, curD h1 h2 t1 t2 tx tk x k) ∈ news) (hci : (c, instObj 277 d) ∈ news) (hx : x.length ≤ 100000) (hk0 : 0 ≤ k) (hk1 : k ≤ (x.length : Int))
 (hal : Asc x)
 (hQ : ∀ h' tk' (t tk₂ : Tok), Fr h₀ L h' m → (∀ news', Upd d (curD h1 h2 t1 t2 tx tk x k) (curD h1 h2 t1 t2 tx tk₂ x (k + (spN x k : Int))) news news' → News h₀ L h' news') → k + (spN x k : Int) ≤ (x.length : Int) → Q (.int (spN x k : Int) t) {s with heap := h', toks := tk'})
 : wpAny (model prog w) (ktrTop dp un gd cn cs L a ccd cl outer) (call (.ref 246) [.ref c]) Q E s :=
  c_spaces B F X T hck N (by omega) (by omega) hcd hci hx hk0 hk1 hal (fun h' tk' t tk₂ F N => hQ h' tk' t tk₂ F N (spN_le hk0 hk1))
theorem u_name {d c : Addr} {h1 h2 : Int} {t1 t2 tx tk : Tok} {x : Str} {k : Int}
 (B : Below A₀ base outer h₀) (F : Fr h₀ L s.heap m) (X : (hd.heap_1 w.params).In h₀) (T : TopH mean mg mb h₀) (hck : cs.kind = .function)
 (N : News h₀ L s.heap news) (hdp : dp ≤ 655) (hun : un ≤ 55)
 (hcd : (d, curD h1 h2 t1 t2 tx tk x k) ∈ news) (hci : (c, instObj 277 d) ∈ news) (hx : x.length ≤ 100000) (hk0 : 0 ≤ k) (hk1 : k ≤ (x.length : Int))
 (hal : Asc x)
 (hQ : okN x k → ∀ h' tk' (t tk₂ : Tok), Fr h₀ L h' m → (∀ news', Upd d (curD h1 h2 t1 t2 tx tk x k) (curD h1 h2 t1 t2 tx tk₂ x (k + 1 + (ncN x (k + 1) : Int))) news news' → News h₀ L h' news') → (k + 1 + (ncN x (k + 1) : Int) ≤ (x.length : Int) ∧ (Txt.slice x (some k) (some (k + 1 + (ncN x (k + 1) : Int)))).length ≤ 100000) → Q (.str (Txt.slice x (some k) (some (k + 1 + (ncN x (k + 1) : Int)))) t) {s with heap := h', toks := tk'})
 (hE : ¬ okN x k → ExP E base h₀ L m (envX cn cs L a ccd cl :: outer) news d s (k))
 : wpAny (model prog w) (ktrTop dp un gd cn cs L a ccd cl outer) (call (.ref 260) [.ref c]) Q E s :=
  c_name B F X T hck N (by omega) (by omega) hcd hci hx hk0 hk1 hal (fun ho h' tk' t tk₂ F N => hQ ho h' tk' t tk₂ F N ⟨ncN_le (by omega) (by have := ho.1; omega), Nat.le_trans (Txt.slice_le _ _ _) hx⟩) hE
theorem u_expect {wd : Str} {wt : Tok} {d c : Addr} {h1 h2 : Int} {t1 t2 tx tk : Tok} {x : Str} {k : Int}
 (B : Below A₀ base outer h₀) (F : Fr h₀ L s.heap m) (X : (hd.heap_1 w.params).In h₀) (T : TopH mean mg mb h₀) (hck : cs.kind = .function)
 (N : News h₀ L s.heap news) (hdp : dp ≤ 655) (hun : un ≤ 55)
 (hcd : (d, curD h1 h2 t1 t2 tx tk x k) ∈ news) (hci : (c, instObj 277 d) ∈ news) (hx : x.length ≤ 100000) (hk0 : 0 ≤ k) (hk1 : k ≤ (x.length : Int))
 (hal : Asc x) (hwd : wd.length ≤ 10)
 (hQ : Txt.startswith3 x wd k = true → ∀ h' tk' (t tk₂ : Tok), Fr h₀ L h' m → (∀ news', Upd d (curD h1 h2 t1 t2 tx tk x k) (curD h1 h2 t1 t2 tx tk₂ x (k + (wd.length : Int))) news news' → News h₀ L h' news') → k + (wd.length : Int) ≤ (x.length : Int) → Q (.none) {s with heap := h', toks := tk'})
 (hE : Txt.startswith3 x wd k = false → ExP E base h₀ L m (envX cn cs L a ccd cl :: outer) news d s (k))
 : wpAny (model prog w) (ktrTop dp un gd cn cs L a ccd cl outer) (call (.ref 225) [.ref c, .str wd wt]) Q E s :=
  c_expect B F X T hck N (by omega) (by omega) hcd hci hx hk0 hk1 hal hwd (fun ho h' tk' t tk₂ F N => hQ ho h' tk' t tk₂ F N (sw_in hk0 ho)) hE
theorem u_skip {wd : Str} {wt : Tok} {d c : Addr} {h1 h2 : Int} {t1 t2 tx tk : Tok} {x : Str} {k : Int}
 (B : Below A₀ base outer h₀) (F : Fr h₀ L s.heap m) (X : (hd.heap_1 w.params).In h₀) (T : TopH mean mg mb h₀) (hck : cs.kind = .function)
 (N : News h₀ L s.heap news) (hdp : dp ≤ 655) (hun : un ≤ 55)
 (hcd : (d, curD h1 h2 t1 t2 tx tk x k) ∈ news) (hci : (c, instObj 277 d) ∈ news) (hx : x.length ≤ 100000) (hk0 : 0 ≤ k) (hk1 : k ≤ (x.length : Int))
 (hal : Asc x) (hwd : wd.length ≤ 10)
 (hQ : Txt.startswith3 x wd k = true → ∀ h' tk' (t tk₂ : Tok), Fr h₀ L h' m → (∀ news', Upd d (curD h1 h2 t1 t2 tx tk x k) (curD h1 h2 t1 t2 tx tk₂ x (k + (wd.length : Int))) news news' → News h₀ L h' news') → k + (wd.length : Int) ≤ (x.length : Int) → Q (.bool true) {s with heap := h', toks := tk'})
 (hQ2 : Txt.startswith3 x wd k = false → ∀ h' tk', Fr h₀ L h' m → News h₀ L h' news → Q (.bool false) {s with heap := h', toks := tk'})
 : wpAny (model prog w) (ktrTop dp un gd cn cs L a ccd cl outer) (call (.ref 218) [.ref c, .str wd wt]) Q E s :=
  c_skip B F X T hck N (by omega) (by omega) hcd hci hx hk0 hk1 hal hwd (fun ho h' tk' t tk₂ F N => hQ ho h' tk' t tk₂ F N (sw_in hk0 ho)) hQ2
theorem u_quoted {d c : Addr} {h1 h2 : Int} {t1 t2 tx tk : Tok} {x : Str} {k : Int}
 (B : Below A₀ base outer h₀) (F : Fr h₀ L s.heap m) (X : (hd.heap_1 w.params).In h₀) (T : TopH mean mg mb h₀) (hck : cs.kind = .function)
 (N : News h₀ L s.heap news) (hdp : dp ≤ 655) (hun : un ≤ 55)
 (hcd : (d, curD h1 h2 t1 t2 tx tk x k) ∈ news) (hci : (c, instObj 277 d) ∈ news) (hx : x.length ≤ 100000) (hk0 : 0 ≤ k) (hk1 : k ≤ (x.length : Int))
 (hal : Asc x)
 (hQ : okQ x k → ¬ Txt.find3 x ⟨#[chAt x k]⟩ (k + 1) < 0 → ∀ h' tk' D (tR tp tk₂ : Tok), Fr h₀ L h' m → (∀ news', Upd d (curD h1 h2 t1 t2 tx tk x k) (curD h1 h2 t1 t2 tx tk₂ x (Txt.find3 x ⟨#[chAt x k]⟩ (k + 1) + 1)) news news' → News h₀ L h' ((D, tup2 (.str (Txt.slice x (some (k + 1)) (some (Txt.find3 x ⟨#[chAt x k]⟩ (k + 1)))) tR) (.int (k + 1) tp)) :: news')) →
   (k + 1 ≤ Txt.find3 x ⟨#[chAt x k]⟩ (k + 1) ∧ Txt.find3 x ⟨#[chAt x k]⟩ (k + 1) + 1 ≤ (x.length : Int) ∧ (Txt.slice x (some (k + 1)) (some (Txt.find3 x ⟨#[chAt x k]⟩ (k + 1)))).length ≤ 100000) → (∀ p ∈ news, p.1 < D) → Q (.ref D) {s with heap := h', toks := tk'})
 (hE : ¬ okQ x k → ExP E base h₀ L m (envX cn cs L a ccd cl :: outer) news d s (k))
 (hE2 : okQ x k → Txt.find3 x ⟨#[chAt x k]⟩ (k + 1) < 0 → ExP E base h₀ L m (envX cn cs L a ccd cl :: outer) news d s (k + 1))
 : wpAny (model prog w) (ktrTop dp un gd cn cs L a ccd cl outer) (call (.ref 267) [.ref c]) Q E s :=
  c_quoted B F X T hck N (by omega) (by omega) hcd hci hx hk0 hk1 hal (fun ho hf h' tk' D tR tp tk₂ F N l => hQ ho hf h' tk' D tR tp tk₂ F N (by
    have := find3_in (by omega) hf
    refine ⟨by omega, ?_, Nat.le_trans (Txt.slice_le _ _ _) hx⟩
    have h2 := this.2
    exact h2) l) hE hE2

end
end Mine
end

-- Reads
example : True ∧ True := by
  first | walk1 | constructor
  all_goals trivial
section
open PySem PySem.W PySem.W.X PyProof.Rows PySem.Calls
namespace Mine
set_option hygiene false
section
variable {w : World} {A₀ : Around} {E Q : Value → Shared → Prop} {s : Shared} {base h₀ : Heap} {outer : List Env} {L a : Addr} {m : Str → Option Value} {mg mb : Str → Option Value} {mean : ExcName → Option Value} {dp un : Nat} {gd : Option (List Code)} {cn : Str} {cs : Scope} {ccd : Value} {cl : List (Str × Addr)} {news : List (Addr × Obj)}
theorem le_ : ((Str.ofString "=").length : Int) = 1 := rfl
theorem lo_ : ((Str.ofString "</").length : Int) = 2 := rfl
theorem lg_ : ((Str.ofString ">").length : Int) = 1 := rfl
theorem ll_ : ((Str.ofString "<").length : Int) = 1 := rfl
theorem ls_ : ((Str.ofString "/>").length : Int) = 2 := rfl
/-- behind a name that begins at k -/
def nEnd (x : Str) (k : Int) : Int := k + 1 + (ncN x (k + 1) : Int)
/-- behind spaces -/
def sEnd (x : Str) (k : Int) : Int := k + (spN x k : Int)
local macro_rules | `(tactic| walk_at "call ref") => `(tactic| ((with_reducible show wpAny _ _ (call (Value.ref 246) _) _ _ _); k_dflt (refine u_spaces (by k_asm) (by k_asm) (by k_asm) (by k_asm) (by exact rfl) (by k_asm) (by ktr_room) (by ktr_units) (by k_mem) (by k_mem) hx (by omega) (by omega) hal ?_); intro hR tkR tR tkc FR NR0 bR; (have NR := NR0 _ (by k_upd)); clear NR0; (try dsimp only)))
local macro_rules | `(tactic| walk_at "call ref") => `(tactic| ((with_reducible show wpAny _ _ (call (Value.ref 225) _) _ _ _); refine halt ?_))
local macro_rules | `(tactic| walk_at "call ref") => `(tactic| ((with_reducible show wpAny _ _ (call (Value.ref 260) _) _ _ _); refine halt ?_))
local macro_rules | `(tactic| walk_at "call ref") => `(tactic| ((with_reducible show wpAny _ _ (call (Value.ref 267) _) _ _ _); refine halt ?_))
local macro_rules | `(tactic| walk_at "call ref") => `(tactic| ((with_reducible show wpAny _ _ (call (Value.ref 218) _) _ _ _); refine halt ?_))
theorem c_equals {d c : Addr} {h1 h2 : Int} {t1 t2 tx tk : Tok} {x : Str} {k : Int}
 (B : Below A₀ base outer h₀) (F : Fr h₀ L s.heap m) (X : (hd.heap_1 w.params).In h₀) (T : TopH mean mg mb h₀) (hck : cs.kind = .function)
 (N : News h₀ L s.heap news) (hdp : dp ≤ 650) (hun : un ≤ 50)
 (hcd : (d, curD h1 h2 t1 t2 tx tk x k) ∈ news) (hci : (c, instObj 277 d) ∈ news) (hx : x.length ≤ 100000) (hk0 : 0 ≤ k) (hk1 : k ≤ (x.length : Int))
 (hal : Asc x)
 (hQ : Txt.startswith3 x (Str.ofString "=") (sEnd x k) = true → ∀ h' tk' (t tk₂ : Tok), Fr h₀ L h' m → (∀ news', Upd d (curD h1 h2 t1 t2 tx tk x k) (curD h1 h2 t1 t2 tx tk₂ x (sEnd x (sEnd x k + 1))) news news' → News h₀ L h' news') → Q (.none) {s with heap := h', toks := tk'})
 (hE : Txt.startswith3 x (Str.ofString "=") (sEnd x k) = false → ExP E base h₀ L m (envX cn cs L a ccd cl :: outer) news d s (sEnd x k))
 : wpAny (model prog w) (ktrTop dp un gd cn cs L a ccd cl outer) (call (.ref 145) [.ref c]) Q E s := by
  refine led_use N hcd hci (by simp) fun rest hL N hrd hsub hne => ?_
  w_top off
  refine wpAny_call ?_
  k_dflt cell_enter
  k_steps
  refine ⟨?_⟩
  refine u_expect (by k_asm) (by k_asm) (by k_asm) (by k_asm) (by exact rfl) (by k_asm) (by ktr_room) (by ktr_units) (by k_mem) (by k_mem) hx (by omega) (by omega) hal (by decide) ?_ ?_
  rotate_left
  · exact fun z => exp_pass (by k_asm) (by k_asm) (hE z) (fun q hq => hL.ex _ (by k_mem) (fun q hq => .tail _ (.tail _ hq)) q hq) rfl rfl rfl
  intro sw hR tkR tR tkc FR NR0 bR
  have NR := NR0 _ (by k_upd)
  clear NR0
  k_steps
  exact hQ sw _ _ 0 _ (by k_asm) (fun news' U => hL.upd _ _ _ _ (by k_asm) (by k_mem) (by k_mem) (fun q hq => .tail _ (.tail _ hq)) U)
theorem c_end {d c : Addr} {h1 h2 : Int} {t1 t2 tx tk : Tok} {x : Str} {k : Int}
 (B : Below A₀ base outer h₀) (F : Fr h₀ L s.heap m) (X : (hd.heap_1 w.params).In h₀) (T : TopH mean mg mb h₀) (hck : cs.kind = .function)
 (N : News h₀ L s.heap news) (hdp : dp ≤ 650) (hun : un ≤ 50)
 (hcd : (d, curD h1 h2 t1 t2 tx tk x k) ∈ news) (hci : (c, instObj 277 d) ∈ news) (hx : x.length ≤ 100000) (hk0 : 0 ≤ k) (hk1 : k ≤ (x.length : Int))
 (hal : Asc x)
 (hQ : Txt.startswith3 x (Str.ofString "</") k = true → okN x (k + 2) → Txt.startswith3 x (Str.ofString ">") (sEnd x (nEnd x (k + 2))) = true → ∀ h' tk' (t tk₂ : Tok), Fr h₀ L h' m → (∀ news', Upd d (curD h1 h2 t1 t2 tx tk x k) (curD h1 h2 t1 t2 tx tk₂ x (sEnd x (nEnd x (k + 2)) + 1)) news news' → News h₀ L h' news') → Q (.str (Txt.slice x (some (k + 2)) (some (nEnd x (k + 2)))) t) {s with heap := h', toks := tk'})
 (hE : Txt.startswith3 x (Str.ofString "</") k = false → ExP E base h₀ L m (envX cn cs L a ccd cl :: outer) news d s (k))
 (hE2 : Txt.startswith3 x (Str.ofString "</") k = true → ¬ okN x (k + 2) → ExP E base h₀ L m (envX cn cs L a ccd cl :: outer) news d s (k + 2))
 (hE3 : Txt.startswith3 x (Str.ofString "</") k = true → okN x (k + 2) → Txt.startswith3 x (Str.ofString ">") (sEnd x (nEnd x (k + 2))) = false → ExP E base h₀ L m (envX cn cs L a ccd cl :: outer) news d s (sEnd x (nEnd x (k + 2))))
 : wpAny (model prog w) (ktrTop dp un gd cn cs L a ccd cl outer) (call (.ref 159) [.ref c]) Q E s := by
  refine led_use N hcd hci (by simp) fun rest hL N hrd hsub hne => ?_
  w_top off
  refine wpAny_call ?_
  k_dflt cell_enter
  k_steps
  refine ⟨?_⟩
  refine u_expect (by k_asm) (by k_asm) (by k_asm) (by k_asm) (by exact rfl) (by k_asm) (by ktr_room) (by ktr_units) (by k_mem) (by k_mem) hx (by omega) (by omega) hal (by decide) ?_ ?_
  rotate_left
  · exact fun z => exp_pass (by k_asm) (by k_asm) (hE z) (fun q hq => hL.ex _ (by k_mem) (fun q hq => .tail _ (.tail _ hq)) q hq) rfl rfl rfl
  intro sw hR tkR tR tkc FR NR0 bR
  have NR := NR0 _ (by k_upd)
  clear NR0
  k_steps
  refine ⟨?_⟩
  refine u_name (by k_asm) (by k_asm) (by k_asm) (by k_asm) (by exact rfl) (by k_asm) (by ktr_room) (by ktr_units) (by k_mem) (by k_mem) hx (by omega) (by omega) hal ?_ ?_
  rotate_left
  · exact fun z => exp_pass (by k_asm) (by k_asm) (hE2 sw z) (fun q hq => hL.ex _ (by k_mem) (fun q hq => .tail _ (.tail _ hq)) q hq) rfl rfl rfl
  intro oN hR tkR tR tkc FR NR0 bR
  have NR := NR0 _ (by k_upd)
  clear NR0
  k_steps
  refine ⟨?_⟩
  refine u_expect (by k_asm) (by k_asm) (by k_asm) (by k_asm) (by exact rfl) (by k_asm) (by ktr_room) (by ktr_units) (by k_mem) (by k_mem) hx (by omega) (by omega) hal (by decide) ?_ ?_
  rotate_left
  · exact fun z => exp_pass (by k_asm) (by k_asm) (hE3 sw oN z) (fun q hq => hL.ex _ (by k_mem) (fun q hq => .tail _ (.tail _ hq)) q hq) rfl rfl rfl
  intro sw2 hR tkR tR tkc FR NR0 bR
  have NR := NR0 _ (by k_upd)
  clear NR0
  k_steps
  exact hQ sw oN (by assumption) _ _ _ _ (by k_asm) (fun news' U => hL.upd _ _ _ _ (by k_asm) (by k_mem) (by k_mem) (fun q hq => .tail _ (.tail _ hq)) U)

end
end Mine
end

-- Loop
section
open PySem PySem.W PyProof.Rows PySem.Calls
namespace Mine
section
variable {prog : Program} {w : World} {A : Around} {E : Value → Shared → Prop} {Q : Flow → Shared → Prop} {s : Shared} {env : Env} {h₀ : Heap} {x : Str} {body : List Stmt}
/-- what a turn must leave -/
def TurnJ (h₀ : Heap) (L I : Addr) (o : Obj) (s : Shared) (Jn : (Str → Option Value) → List (Addr × Obj) → Prop) (Q : Flow → Shared → Prop) (f : Flow) (s' : Shared) : Prop :=
  match f with
  | .ret v => Q (.ret v) s'
  | .brk => Q .next s'
  | _ => ∃ h' tk' m₂ news₂, s' = { s with heap := h', toks := tk' } ∧ Fr h₀ L h' m₂ ∧ News h₀ L h' ((I, o) :: news₂) ∧ (∀ p ∈ news₂, p.1 ≠ I) ∧ Jn m₂ news₂
theorem range_J {r : Addr} {a₀ b₀ : Int} {t₀ u₀ v₀ : Tok} {n : Nat} {m₀ : Str → Option Value} {news : List (Addr × Obj)} (J : Nat → (Str → Option Value) → List (Addr × Obj) → Prop)
    (hh : A.handled = none) (hr : IsRange s.heap r a₀ b₀ 1 t₀ u₀ v₀) (hsmall : Builtin.Range.small a₀ b₀ 1 = true) (hn : Builtin.Range.rangeSize a₀ b₀ 1 = (n : Int)) (F : Fr h₀ env.locals s.heap m₀) (N : News h₀ env.locals s.heap news) (h0 : J 0 m₀ news)
    (turn : ∀ (i : Nat) t m₁ news₁ h tk o, (∀ p ∈ news, p.1 < s.heap.objs.size) → i < n → J i m₁ news₁ → (∀ p ∈ news₁, p.1 ≠ s.heap.objs.size) → Fr h₀ env.locals h (fun y => if y = x then some (.int (a₀ + (i : Int)) t) else m₁ y) → News h₀ env.locals h ((s.heap.objs.size, o) :: news₁) →
      wpAny (model prog w) A (execs body env) (TurnJ h₀ env.locals s.heap.objs.size o s (J (i + 1)) Q) E { s with heap := h, toks := tk })
    (done : ∀ h tk m₂ news₂, Fr h₀ env.locals h m₂ → News h₀ env.locals h news₂ → J n m₂ news₂ → Q .next { s with heap := h, toks := tk }) :
    wpAny (model prog w) A (pyIter (.ref r)) (fun it s₂ => LoopAtV prog w A h₀ env x body Q E it s₂) E s := by
  refine wpAny_pyIter_range hr hsmall ?_
  have W : Walks prog w A s.heap.objs.size [s.heap.objs.size] [s.heap.objs.size] n (fun i v => ∃ t, v = .int (a₀ + i * 1) t)
      (fun i h => IsRangeIter h s.heap.objs.size (a₀ + (i : Nat) * 1) ((n : Int) - (i : Nat)) 1) := Walks.range hh _ a₀ 1 n
  have nw : ∀ b ∈ [s.heap.objs.size], h₀.get? b = none := fun b hb => by
    rw [List.mem_singleton.mp hb]
    exact next_is_new F
  refine ⟨s.heap.objs.size, _, _, n, _, _, m₀, news, J, rfl, W, fun hm => absurd F.ns.lt ((List.mem_singleton.mp hm) ▸ Nat.lt_irrefl _), nw, fun p hp hI => absurd (Heap.lt_size (N p hp).1) ((List.mem_singleton.mp hI) ▸ Nat.lt_irrefl _), by show IsRangeIter _ _ _ _ _; rw [hn]; simpa using Heap.get?_push_size _ rfl,
    F.push _, fun p hp => ⟨Heap.get?_push_of_some _ (N p hp).1, (N p hp).2⟩, h0, ?_, ?_⟩
  · rintro i v m₁ news₁ s₁ own ⟨h, tk, rfl⟩ hi ⟨t, rfl⟩ hJ hw ho1 ho2 ho3 hst F₁ N₁
    obtain ⟨o, hIo⟩ : ∃ o, h.get? s.heap.objs.size = some o := ⟨_, hst⟩
    have mem := ho3 _ (.head _) (nw _ (.head _)) o hIo
    have ne1 : ∀ p ∈ news₁, p.1 ≠ s.heap.objs.size := fun p hp z => hw p hp (by rw [z]; exact .head _)
    rw [Int.mul_one] at F₁
    refine wpAny_mono (turn i t m₁ news₁ h tk o (fun p hp => Heap.lt_size (N p hp).1) hi hJ ne1 F₁ (fun p hp => by
      rcases List.mem_cons.mp hp with rfl | hp
      · exact N₁ _ (List.mem_append_left _ mem)
      · exact N₁ _ (List.mem_append_right _ hp))) (fun f s₃ h₃ => ?_) fun _ _ e => e
    have nxt : (∃ h' tk' m₂ news₂, s₃ = { s with heap := h', toks := tk' } ∧ Fr h₀ env.locals h' m₂ ∧ News h₀ env.locals h' ((s.heap.objs.size, o) :: news₂) ∧ (∀ p ∈ news₂, p.1 ≠ s.heap.objs.size) ∧ J (i + 1) m₂ news₂) →
      ∃ h' tk m₂ news₂, s₃ = { ({ s with heap := h, toks := tk } : Shared) with heap := h', toks := tk } ∧ Fr h₀ env.locals h' m₂ ∧ News h₀ env.locals h' (own ++ news₂) ∧ (∀ p ∈ news₂, p.1 ∉ [s.heap.objs.size]) ∧ J (i + 1) m₂ news₂ := by
      rintro ⟨h', tk', m₂, news₂, rfl, F₃, N₃, hne, hJ₃⟩
      refine ⟨h', tk', m₂, news₂, rfl, F₃, fun p hp => ?_, fun p hp z => hne p hp (List.mem_singleton.mp z), hJ₃⟩
      rcases List.mem_append.mp hp with hp | hp
      · have e1 : p.1 = s.heap.objs.size := List.mem_singleton.mp (ho1 p hp)
        have e2 := ho2 p hp
        rw [e1] at e2
        have e2' : h.get? s.heap.objs.size = some p.2 := e2
        rw [hIo] at e2'
        have z := N₃ _ (.head _)
        rw [e1, ← Option.some.inj e2']
        exact z
      · exact N₃ _ (.tail _ hp)
    cases f with
    | ret v => exact h₃
    | brk => exact h₃
    | cont => exact ⟨rfl, nxt h₃⟩
    | next => exact ⟨rfl, nxt h₃⟩
  · exact fun h' tk m' news' F' N' _ hJ => done h' tk m' news' F' N' hJ
theorem range_K {r : Addr} {a₀ b₀ : Int} {t₀ u₀ v₀ : Tok} {n : Nat} {m₀ : Str → Option Value} {news : List (Addr × Obj)} (J : Nat → List (Addr × Obj) → Prop)
    (hh : A.handled = none) (hr : IsRange s.heap r a₀ b₀ 1 t₀ u₀ v₀) (hsmall : Builtin.Range.small a₀ b₀ 1 = true) (hn : Builtin.Range.rangeSize a₀ b₀ 1 = (n : Int)) (F : Fr h₀ env.locals s.heap m₀) (N : News h₀ env.locals s.heap news) (h0 : J 0 news)
    (turn : ∀ (i : Nat) t news₁ h tk o, (∀ p ∈ news, p.1 < s.heap.objs.size) → i < n → J i news₁ → (∀ p ∈ news₁, p.1 ≠ s.heap.objs.size) → Fr h₀ env.locals h (fun y => if y = x then some (.int (a₀ + (i : Int)) t) else m₀ y) → News h₀ env.locals h ((s.heap.objs.size, o) :: news₁) →
      wpAny (model prog w) A (execs body env) (TurnJ h₀ env.locals s.heap.objs.size o s (fun m₂ ns => (∀ y, y ≠ x → m₂ y = m₀ y) ∧ J (i + 1) ns) Q) E { s with heap := h, toks := tk })
    (done : ∀ (u : Str → Option Value) h tk news₂, Fr h₀ env.locals h (fun y => if y = x then u y else m₀ y) → News h₀ env.locals h news₂ → J n news₂ → Q .next { s with heap := h, toks := tk }) :
    wpAny (model prog w) A (pyIter (.ref r)) (fun it s₂ => LoopAtV prog w A h₀ env x body Q E it s₂) E s := by
  refine range_J (fun i m₁ ns => (∀ y, y ≠ x → m₁ y = m₀ y) ∧ J i ns) hh hr hsmall hn F N ⟨fun _ _ => rfl, h0⟩ ?_ ?_
  · rintro i t m₁ news₁ h tk o hl hi ⟨hm, hJ⟩ hw F₁ N₁
    have e : (fun y => if y = x then some (.int (a₀ + (i : Int)) t) else m₁ y) = (fun y => if y = x then some (.int (a₀ + (i : Int)) t) else m₀ y) := by
      funext y
      by_cases q : y = x
      · rw [if_pos q, if_pos q]
      · rw [if_neg q, if_neg q, hm y q]
    rw [e] at F₁
    exact turn i t news₁ h tk o hl hi hJ hw F₁ N₁
  · rintro h tk m₂ news₂ F₂ N₂ ⟨hm, hJ⟩
    have e : m₂ = (fun y => if y = x then m₂ y else m₀ y) := by
      funext y
      by_cases q : y = x
      · rw [if_pos q]
      · rw [if_neg q, hm y q]
    rw [e] at F₂
    exact done m₂ h tk news₂ F₂ N₂ hJ
theorem While_st {test : Expr} {pos : Pos} {m₀ : Str → Option Value} {L : Addr} {news : List (Addr × Obj)} (names : List Str) (J : Nat → List (Addr × Obj) → Prop) {n₀ : Nat}
    (F : Fr h₀ L s.heap m₀) (N : News h₀ L s.heap news) (hJ : J n₀ news)
    (turn : ∀ n news₁ h₁ tk₁ (u : Str → Option Value), Fr h₀ L h₁ (fun y => if names.contains y then u y else m₀ y) → News h₀ L h₁ news₁ → J n news₁ →
      wpAny (model prog w) A (isTrue test env (eval test env)) (fun b s₂ =>
        if b = true then wpAny (model prog w) A (execs body env) (WhileStep2 h₀ L s (fun n m₁ ns => (∀ y, names.contains y = false → m₁ y = m₀ y) ∧ J n ns) Q n) E s₂ else Q .next s₂) E { s with heap := h₁, toks := tk₁ })
    (hE : PassesOwn (model prog w) A env E := by passes_own) :
    wpAny (model prog w) A (exec (.While test body [] pos) env) Q E s :=
  While_inv2 (fun n m₁ ns => (∀ y, names.contains y = false → m₁ y = m₀ y) ∧ J n ns) F N ⟨fun _ _ => rfl, hJ⟩ (fun n m₁ ns h₁ tk₁ F₁ N₁ J₁ => by
    have e : m₁ = (fun y => if names.contains y then m₁ y else m₀ y) := by
      funext y
      by_cases q : names.contains y = true
      · rw [if_pos q]
      · rw [if_neg q, J₁.1 y (by simpa using q)]
    rw [e] at F₁
    exact turn n ns h₁ tk₁ m₁ F₁ N₁ J₁.2) hE
end
theorem tupleOf {prog : Program} {w : World} {A : Around} {E : Value → Shared → Prop} {s : Shared} {h₀ : Heap} {L l : Addr} {m : Str → Option Value} {news : List (Addr × Obj)} {items : Array Value} {Q : Value → Shared → Prop} (F : Fr h₀ L s.heap m) (N : News h₀ L s.heap news) (hl : s.heap.IsList l items) (hz : items.size ≤ 100000)
    (h : ∀ D h', Fr h₀ L h' m → News h₀ L h' ((D, ({ cls := .type "tuple", data := .seq items } : Obj)) :: news) → (∀ p ∈ news, p.1 < D) → Q (.ref D) { s with heap := h' }) : wpAny (model prog w) A (call (.type "tuple") [.ref l]) Q E s := by
  refine call_tuple_list hl (fun h' hk => ?_) (by rw [sizeLine_eq]; omega)
  have F' : Fr h₀ L h' m := F.keeps hk
  have N' : News h₀ L h' news := fun p hp => ⟨hk _ _ (N p hp).1, (N p hp).2⟩
  exact h _ _ (F'.push _) (N'.push F' _) fun p hp => Heap.lt_size (N' p hp).1
theorem news_sub {h₀ h : Heap} {L : Addr} {W W' : List (Addr × Obj)} (N : News h₀ L h W) (k : ∀ q ∈ W', q ∈ W) : News h₀ L h W' := fun q hq => N q (k q hq)
theorem news_app {h₀ h : Heap} {L : Addr} {W W' news : List (Addr × Obj)} (N : News h₀ L h W) (k : ∀ q ∈ W', q ∈ W) (N' : News h₀ L h news) : News h₀ L h (W' ++ news) := fun q hq => (List.mem_append.mp hq).elim (fun z => N q (k q z)) (N' q)
/-- v stands for d by the ledger -/
def RdIn (news : List (Addr × Obj)) (v : Value) (d : PyData) : Prop := ∀ (h₀ : Heap) (L : Addr) (h : Heap), News h₀ L h news → ∃ as, Reads h v d as
def RdAll (news : List (Addr × Obj)) (vs : List Value) (ds : List PyData) : Prop := ∀ (h₀ : Heap) (L : Addr) (h : Heap), News h₀ L h news → ∃ as, ReadsAll h vs ds as
theorem RdIn.mono {n₁ n₂ : List (Addr × Obj)} {v : Value} {d : PyData} (x : RdIn n₁ v d) (k : ∀ q ∈ n₁, q ∈ n₂) : RdIn n₂ v d := fun h₀ L h N => x h₀ L h fun q hq => N q (k q hq)
theorem RdAll.mono {n₁ n₂ : List (Addr × Obj)} {v : List Value} {d : List PyData} (x : RdAll n₁ v d) (k : ∀ q ∈ n₁, q ∈ n₂) : RdAll n₂ v d := fun h₀ L h N => x h₀ L h fun q hq => N q (k q hq)
theorem RdIn.str {n : List (Addr × Obj)} (x : Str) (t : Tok) : RdIn n (.str x t) (.str x) := fun _ _ _ _ => ⟨_, Reads.str x t⟩
theorem RdIn.int {n : List (Addr × Obj)} (x : Int) (t : Tok) : RdIn n (.int x t) (.int x) := fun _ _ _ _ => ⟨_, Reads.int x t⟩
theorem RdIn.bool {n : List (Addr × Obj)} (x : Bool) : RdIn n (.bool x) (.bool x) := fun _ _ _ _ => ⟨_, Reads.bool x⟩
theorem RdAll.nil {n : List (Addr × Obj)} : RdAll n [] [] := fun _ _ _ _ => ⟨_, ReadsAll.nil⟩
theorem RdAll.cons {n : List (Addr × Obj)} {v : Value} {d : PyData} {vs : List Value} {ds : List PyData} (x : RdIn n v d) (y : RdAll n vs ds) : RdAll n (v :: vs) (d :: ds) := fun h₀ L h N => by
  obtain ⟨as, r⟩ := x h₀ L h N
  obtain ⟨bs, q⟩ := y h₀ L h N
  exact ⟨_, ReadsAll.cons r q⟩
theorem readsAll_snoc {h : Heap} {v : Value} {d : PyData} {bs : List Addr} (r : Reads h v d bs) : ∀ {vs : List Value} {ds : List PyData} {as : List Addr}, ReadsAll h vs ds as → ∃ cs, ReadsAll h (vs ++ [v]) (ds ++ [d]) cs
  | [], [], _, .nil => ⟨_, .cons r .nil⟩
  | _ :: _, _ :: _, _, .cons x y => by
    obtain ⟨cs, z⟩ := readsAll_snoc r y
    exact ⟨_, .cons x z⟩
theorem RdAll.snoc {n : List (Addr × Obj)} {v : Value} {d : PyData} {vs : List Value} {ds : List PyData} (y : RdAll n vs ds) (x : RdIn n v d) : RdAll n (vs ++ [v]) (ds ++ [d]) := fun h₀ L h N => by
  obtain ⟨as, r⟩ := y h₀ L h N
  obtain ⟨bs, q⟩ := x h₀ L h N
  exact readsAll_snoc q r
theorem RdIn.tuple {n : List (Addr × Obj)} {a : Addr} {vs : List Value} {ds : List PyData} {k : Nat} {sl : Array (Option Value)} (hm : (a, (⟨.type "tuple", none, .seq vs.toArray k, sl⟩ : Obj)) ∈ n) (y : RdAll n vs ds) : RdIn n (.ref a) (.tuple ds) := fun h₀ L h N => by
  obtain ⟨bs, q⟩ := y h₀ L h N
  exact ⟨_, reads_tuple_at (N.get hm) rfl rfl (by simpa using q)⟩
theorem RdIn.tupleA {n : List (Addr × Obj)} {a : Addr} {vs : Array Value} {ds : List PyData} {k : Nat} {sl : Array (Option Value)} (hm : (a, (⟨.type "tuple", none, .seq vs k, sl⟩ : Obj)) ∈ n) (y : RdAll n vs.toList ds) : RdIn n (.ref a) (.tuple ds) := fun h₀ L h N => by
  obtain ⟨bs, q⟩ := y h₀ L h N
  exact ⟨_, reads_tuple_at (N.get hm) rfl rfl q⟩
end Mine
end

-- Chk
example : True ∧ True := by
  first | walk1 | constructor
  all_goals trivial
section
open PySem PySem.W PySem.W.X PyProof.Rows PySem.Calls
namespace Mine
set_option hygiene false
section
variable {w : World} {A₀ : Around} {E Q : Value → Shared → Prop} {s : Shared} {base h₀ : Heap} {outer : List Env} {L a : Addr} {m : Str → Option Value} {mg mb : Str → Option Value} {mean : ExcName → Option Value} {dp un : Nat} {gd : Option (List Code)} {cn : Str} {cs : Scope} {ccd : Value} {cl : List (Str × Addr)} {news : List (Addr × Obj)}
local macro_rules | `(tactic| walk_at "exec For Name Call cons nil") => `(tactic| ((rename Fr _ _ _ _ => lF'); (with_unfolding_all refine For_invVF lF' (by exact rfl) (by exact rfl) ?_)))
local macro_rules | `(tactic| walk_at "pyIter ref") => `(tactic| ((with_reducible show wpAny _ _ (pyIter (Value.ref _)) (fun it s₂ => LoopAtV _ _ _ _ _ _ _ _ _ it s₂) _ _); refine halt ?_))
local macro_rules | `(tactic| walk_at "call ref") => `(tactic| ((with_reducible show wpAny _ _ (call (Value.ref 122) _) _ _ _); k_dflt (refine c_make (by k_asm) (by k_asm) (by k_asm) (by k_asm) (by exact rfl) (by k_asm) (by ktr_room) (by ktr_units) ?_); intro eX deX hX tkX h1X F1X N1X MX; refine halt ?_))
local macro_rules | `(tactic| walk_at "subscriptTail") => `(tactic| ((with_reducible show wpAny _ _ (subscriptTail _ _ (Value.str _ _) (Value.int _ _)) _ _ _); refine item_at (by omega) (by omega) hx ?_ (by with_unfolding_all rfl) (by intro _; with_unfolding_all rfl)))
local macro_rules | `(tactic| walk_at "subscriptTail Name Name str int") => `(tactic| ((with_reducible show wpAny _ _ (subscriptTail _ _ (Value.str _ _) (Value.int _ _)) _ _ _); refine item_at (by omega) (by omega) hx ?_ (by with_unfolding_all rfl) (by intro _; with_unfolding_all rfl)))
local macro_rules | `(tactic| walk_at "call ref") => `(tactic| ((with_reducible show wpAny _ _ (call (Value.ref 63) _) _ _ _); k_dflt (refine c_char (chAt_lt hal (by omega) (by omega)) (by k_asm) (by k_asm) (by k_asm) (by k_asm) (by exact rfl) (by k_asm) (by ktr_room) (by ktr_units) ?_); intro hR tkR FR NR; (try dsimp only)))
theorem c_check {d : Addr} {r : Str} {rt pt : Tok} {p : Int} (hal : Asc r) (hx : r.length ≤ 100000)
 (B : Below A₀ base outer h₀) (F : Fr h₀ L s.heap m) (X : (hd.heap_1 w.params).In h₀) (T : TopH mean mg mb h₀) (hck : cs.kind = .function)
 (N : News h₀ L s.heap news) (hdp : dp ≤ 650) (hun : un ≤ 50)
 (hQ : (∀ i : Int, 0 ≤ i → i < (r.length : Int) → isCh (chAt r i) = true) → ∀ h' tk', Fr h₀ L h' m → News h₀ L h' news → Q .none {s with heap := h', toks := tk'})
 (hE : ∀ i : Int, 0 ≤ i → i < (r.length : Int) → (∀ j : Int, 0 ≤ j → j < i → isCh (chAt r j) = true) → isCh (chAt r i) = false → ExP E base h₀ L m (envX cn cs L a ccd cl :: outer) news d s (p + i))
 : wpAny (model prog w) (ktrTop dp un gd cn cs L a ccd cl outer) (call (.ref 131) [.str r rt, .int p pt]) Q E s := by
  w_top off
  refine wpAny_call ?_
  k_dflt cell_enter
  k_steps
  refine ⟨?_⟩
  refine range_K (n := r.length) (fun i ns => ns = news ∧ ∀ j : Int, 0 ≤ j → j < (i : Int) → isCh (chAt r j) = true) rfl (by assumption) (small_one (by omega) (by omega) (by omega) (by omega)) ?sz (by k_asm) (by k_asm) ⟨rfl, fun j h1 h2 => absurd h1 (by omega)⟩ ?turn ?done
  case sz => rw [rangeSize_nat]; omega
  case turn =>
    rintro i t ns hw tkw ow lw hi ⟨rfl, hok⟩ nw Fw Nw
    try dsimp only at Fw Nw
    k_steps
    · refine ⟨_, _, _, ns, rfl, by k_asm, by k_asm, nw, fun y hy => if_neg hy, rfl, fun j h1 h2 => ?_⟩
      by_cases q : j < (i : Int)
      · exact hok j h1 q
      · rw [show j = 0 + (i : Int) by omega]; assumption
    · refine ⟨due_made (Frag.In.keeps (by k_asm) (Fr.keep (by k_asm))) (kts122 w) (by assumption) ?_⟩
      refine out_raise (by assumption) (by assumption) (by assumption) (by assumption) (by assumption) rfl ?_ (hE (0 + (i : Int)) (by omega) (by omega) (fun j h1 h2 => hok j h1 (by omega)) (by assumption))
      exact fun q hq => .tail _ (List.mem_filter.mp hq).1
  case done =>
    rintro u hw tkw ns Fw Nw ⟨rfl, hok⟩
    k_steps
    exact hQ (fun i h0 h1 => hok i h0 (by omega)) _ _ (by k_asm) (by k_asm)

end
end Mine
end

-- Attr
example : True ∧ True := by
  first | walk1 | constructor
  all_goals trivial
section
open PySem PySem.W PySem.W.X PyProof.Rows PySem.Calls
namespace Mine
set_option hygiene false
section
variable {w : World} {A₀ : Around} {E Q : Value → Shared → Prop} {s : Shared} {base h₀ : Heap} {outer : List Env} {L a : Addr} {m : Str → Option Value} {mg mb : Str → Option Value} {mean : ExcName → Option Value} {dp un : Nat} {gd : Option (List Code)} {cn : Str} {cs : Scope} {ccd : Value} {cl : List (Str × Addr)} {news : List (Addr × Obj)}
theorem asc_slice {x : Str} {l u : Option Int} (h : Asc x) : Asc (Txt.slice x l u) := by
  intro c hc
  unfold Txt.slice at hc
  split at hc
  · exact h c hc
  · simp only [List.mem_filterMap] at hc
    obtain ⟨i, _, hi⟩ := hc
    exact h c (by
      obtain ⟨hl, he⟩ := Array.getElem?_eq_some_iff.mp hi
      rw [← he]
      simp)
theorem equals_in {x : Str} {k : Int} (h0 : 0 ≤ k) (h1 : k ≤ (x.length : Int)) (h : Txt.startswith3 x (Str.ofString "=") (sEnd x k) = true) : k + 1 ≤ sEnd x (sEnd x k + 1) ∧ sEnd x (sEnd x k + 1) ≤ (x.length : Int) := by
  have b1 := spN_le h0 h1
  have b2 := sw_in (by unfold sEnd; omega) h
  rw [le_] at b2
  have b3 := spN_le (x := x) (k := sEnd x k + 1) (by unfold sEnd; omega) b2
  have e : k ≤ sEnd x k := by unfold sEnd; omega
  have e2 : sEnd x k + 1 ≤ sEnd x (sEnd x k + 1) := by show sEnd x k + 1 ≤ (sEnd x k + 1) + _; omega
  exact ⟨by omega, b3⟩
def aQ (x : Str) (k : Int) : Int := sEnd x (sEnd x (nEnd x k) + 1)
def aF (x : Str) (k : Int) : Int := Txt.find3 x ⟨#[chAt x (aQ x k)]⟩ (aQ x k + 1)
def aRaw (x : Str) (k : Int) : Str := Txt.slice x (some (aQ x k + 1)) (some (aF x k))
def aName (x : Str) (k : Int) : Str := Txt.slice x (some k) (some (nEnd x k))
def AttrOk (x : Str) (k : Int) : Prop := okN x k ∧ Txt.startswith3 x (Str.ofString "=") (sEnd x (nEnd x k)) = true ∧ okQ x (aQ x k) ∧ ¬ aF x k < 0 ∧ Txt.find (aRaw x k) (Str.ofString "<") < 0 ∧ ∀ i : Int, 0 ≤ i → i < ((aRaw x k).length : Int) → isCh (chAt (aRaw x k) i) = true
inductive AttrErr (x : Str) (k : Int) : Int → Prop
  | n : ¬ okN x k → AttrErr x k k
  | e : okN x k → Txt.startswith3 x (Str.ofString "=") (sEnd x (nEnd x k)) = false → AttrErr x k (sEnd x (nEnd x k))
  | q : okN x k → Txt.startswith3 x (Str.ofString "=") (sEnd x (nEnd x k)) = true → ¬ okQ x (aQ x k) → AttrErr x k (aQ x k)
  | f : okN x k → Txt.startswith3 x (Str.ofString "=") (sEnd x (nEnd x k)) = true → okQ x (aQ x k) → aF x k < 0 → AttrErr x k (aQ x k + 1)
  | l : okN x k → Txt.startswith3 x (Str.ofString "=") (sEnd x (nEnd x k)) = true → okQ x (aQ x k) → ¬ aF x k < 0 → ¬ Txt.find (aRaw x k) (Str.ofString "<") < 0 → AttrErr x k (aQ x k + 1 + Txt.find (aRaw x k) (Str.ofString "<"))
  | c (i : Int) : okN x k → Txt.startswith3 x (Str.ofString "=") (sEnd x (nEnd x k)) = true → okQ x (aQ x k) → ¬ aF x k < 0 → Txt.find (aRaw x k) (Str.ofString "<") < 0 → 0 ≤ i → i < ((aRaw x k).length : Int) → (∀ j : Int, 0 ≤ j → j < i → isCh (chAt (aRaw x k) j) = true) → isCh (chAt (aRaw x k) i) = false → AttrErr x k (aQ x k + 1 + i)
local macro_rules | `(tactic| walk_at "call ref") => `(tactic| ((with_reducible show wpAny _ _ (call (Value.ref 246) _) _ _ _); k_dflt (refine u_spaces (by k_asm) (by k_asm) (by k_asm) (by k_asm) (by exact rfl) (by k_asm) (by ktr_room) (by ktr_units) (by k_mem) (by k_mem) hx (by omega) (by omega) hal ?_); intro hR tkR tR tkc FR NR0 bR; (have NR := NR0 _ (by k_upd)); clear NR0; (try dsimp only)))
local macro_rules | `(tactic| walk_at "call ref") => `(tactic| ((with_reducible show wpAny _ _ (call (Value.ref 225) _) _ _ _); refine halt ?_))
local macro_rules | `(tactic| walk_at "call ref") => `(tactic| ((with_reducible show wpAny _ _ (call (Value.ref 260) _) _ _ _); refine halt ?_))
local macro_rules | `(tactic| walk_at "call ref") => `(tactic| ((with_reducible show wpAny _ _ (call (Value.ref 267) _) _ _ _); refine halt ?_))
local macro_rules | `(tactic| walk_at "call ref") => `(tactic| ((with_reducible show wpAny _ _ (call (Value.ref 218) _) _ _ _); refine halt ?_))
local macro_rules | `(tactic| walk_at "call ref") => `(tactic| ((with_reducible show wpAny _ _ (call (Value.ref 122) _) _ _ _); k_dflt (refine c_make (by k_asm) (by k_asm) (by k_asm) (by k_asm) (by exact rfl) (by k_asm) (by ktr_room) (by ktr_units) ?_); intro eX deX hX tkX h1X F1X N1X MX; refine halt ?_))
local macro_rules | `(tactic| walk_at "call ref") => `(tactic| ((with_reducible show wpAny _ _ (call (Value.ref 145) _) _ _ _); refine halt ?_))
local macro_rules | `(tactic| walk_at "call ref") => `(tactic| ((with_reducible show wpAny _ _ (call (Value.ref 131) _) _ _ _); refine halt ?_))
theorem c_attr {d c : Addr} {h1 h2 : Int} {t1 t2 tx tk : Tok} {x : Str} {k : Int}
 (B : Below A₀ base outer h₀) (F : Fr h₀ L s.heap m) (X : (hd.heap_1 w.params).In h₀) (T : TopH mean mg mb h₀) (hck : cs.kind = .function)
 (N : News h₀ L s.heap news) (hdp : dp ≤ 645) (hun : un ≤ 45)
 (hcd : (d, curD h1 h2 t1 t2 tx tk x k) ∈ news) (hci : (c, instObj 277 d) ∈ news) (hx : x.length ≤ 100000) (hk0 : 0 ≤ k) (hk1 : k ≤ (x.length : Int))
 (hal : Asc x)
 (hQ : AttrOk x k → ∀ h' tk' D₁ D₂ (tn tR tp tk₂ : Tok), Fr h₀ L h' m → (∀ news', Upd d (curD h1 h2 t1 t2 tx tk x k) (curD h1 h2 t1 t2 tx tk₂ x (aF x k + 1)) news news' → News h₀ L h' ((D₂, tup2 (.str (aName x k) tn) (.ref D₁)) :: (D₁, tup2 (.str (aRaw x k) tR) (.int (aQ x k + 1) tp)) :: news')) →
   (k < aF x k ∧ aF x k + 1 ≤ (x.length : Int)) → (∀ p ∈ news, p.1 < D₁) → @LT.lt Nat _ D₁ D₂ → Q (.ref D₂) {s with heap := h', toks := tk'})
 (hE : ∀ p, AttrErr x k p → ExP E base h₀ L m (envX cn cs L a ccd cl :: outer) news d s p)
 : wpAny (model prog w) (ktrTop dp un gd cn cs L a ccd cl outer) (call (.ref 152) [.ref c, .ref 309]) Q E s := by
  refine led_use N hcd hci (by simp) fun rest hL N hrd hsub hne => ?_
  w_top off
  refine wpAny_call ?_
  k_dflt cell_enter
  k_steps
  refine ⟨?_⟩
  refine u_name (by k_asm) (by k_asm) (by k_asm) (by k_asm) (by exact rfl) (by k_asm) (by ktr_room) (by ktr_units) (by k_mem) (by k_mem) hx (by omega) (by omega) hal ?_ ?_
  rotate_left
  · exact fun z => exp_pass (by k_asm) (by k_asm) (hE _ (.n z)) (fun q hq => hL.ex _ (by k_mem) (fun q hq => .tail _ (.tail _ hq)) q hq) rfl rfl rfl
  intro oN hR tkR tR tkc FR NR0 bR
  have NR := NR0 _ (by k_upd)
  clear NR0
  k_steps
  refine ⟨?_⟩
  refine c_equals (by k_asm) (by k_asm) (by k_asm) (by k_asm) (by exact rfl) (by k_asm) (by ktr_room) (by ktr_units) (by k_mem) (by k_mem) hx (by omega) (by omega) hal ?_ ?_
  rotate_left
  · exact fun z => exp_pass (by k_asm) (by k_asm) (hE _ (.e oN z)) (fun q hq => hL.ex _ (by k_mem) (fun q hq => .tail _ (.tail _ hq)) q hq) rfl rfl rfl
  intro sw hR2 tkR2 tR2 tkc2 FR2 NR0
  have NR2 := NR0 _ (by k_upd)
  clear NR0
  have bq := equals_in (by omega) (by omega) sw
  k_steps
  refine ⟨?_⟩
  refine u_quoted (by k_asm) (by k_asm) (by k_asm) (by k_asm) (by exact rfl) (by k_asm) (by ktr_room) (by ktr_units) (by k_mem) (by k_mem) hx (by omega) (by omega) hal ?_ ?_ ?_
  rotate_left
  · exact fun z => exp_pass (by k_asm) (by k_asm) (hE _ (.q oN sw z)) (fun q hq => hL.ex _ (by k_mem) (fun q hq => .tail _ (.tail _ hq)) q hq) rfl rfl rfl
  · exact fun o z => exp_pass (by k_asm) (by k_asm) (hE _ (.f oN sw o z)) (fun q hq => hL.ex _ (by k_mem) (fun q hq => .tail _ (.tail _ hq)) q hq) rfl rfl rfl
  intro oQ hf hR3 tkR3 D3 tR3 tp3 tkc3 FR3 NR0 bR3 l3
  have NR3 := NR0 _ (by k_upd)
  clear NR0
  k_lt l3
  k_steps
  · refine ⟨due_made (Frag.In.keeps (by k_asm) (Fr.keep (by k_asm))) (kts122 w) (by assumption) ?_⟩
    exact out_raise (by assumption) (by assumption) (by assumption) (by assumption) (by assumption) rfl (fun q hq => (List.mem_filter.mp (hL.ex _ (by k_mem) (by intro q hq; repeat (first | exact hq | apply List.Mem.tail)) q hq)).1) (hE _ (.l oN sw oQ hf (by show ¬ _; simp only [Int.not_lt]; assumption)))
  · refine ⟨?_⟩
    refine c_check (d := d) (asc_slice hal) bR3.2.2 (by k_asm) (by k_asm) (by k_asm) (by k_asm) (by exact rfl) (by k_asm) (by ktr_room) (by ktr_units) ?_ ?_
    rotate_left
    · exact fun i a1 a2 a3 a4 => exp_pass (by k_asm) (by k_asm) (hE _ (.c i oN sw oQ hf (by show _ < _; exact Int.not_le.mp (by assumption)) a1 a2 a3 a4)) (fun q hq => hL.ex _ (by k_mem) (by intro q hq; repeat (first | exact hq | apply List.Mem.tail)) q hq) rfl rfl rfl
    intro hok hR4 tkR4 FR4 NR4
    k_steps
    refine hQ ⟨oN, sw, oQ, hf, Int.not_le.mp (by assumption), hok⟩ _ _ _ _ _ _ _ _ (by k_asm) (fun news' U => news_cons (by k_asm) (.head _) (news_cons (by k_asm) (.tail _ (.head _)) (hL.upd _ _ _ _ (by k_asm) (by k_mem) (by k_mem) (by intro q hq; repeat (first | exact hq | apply List.Mem.tail)) U))) ⟨?_, bR3.2.1⟩ ?_ ?_
    · have := bR3.1
      have z : k < sEnd x (sEnd x (k + 1 + ↑(ncN x (k + 1))) + 1) := by omega
      show k < Txt.find3 x _ _
      exact Int.lt_of_lt_of_le (Int.lt_of_lt_of_le z (by omega)) bR3.1
    · exact hL.lt _ (by first | assumption | exact And.right (by assumption))
    · omega


end
end Mine
end

-- Start
example : True ∧ True := by
  first | walk1 | constructor
  all_goals trivial
section
open PySem PySem.W PySem.W.X PyProof.Rows PySem.Calls
namespace Mine
set_option hygiene false
section
variable {w : World} {A₀ : Around} {E Q : Value → Shared → Prop} {s : Shared} {base h₀ : Heap} {outer : List Env} {L a : Addr} {m : Str → Option Value} {mg mb : Str → Option Value} {mean : ExcName → Option Value} {dp un : Nat} {gd : Option (List Code)} {cn : Str} {cs : Scope} {ccd : Value} {cl : List (Str × Addr)} {news : List (Addr × Obj)}
/-- what is told of an attribute that begins at t -/
def attrD (x : Str) (t : Int) : PyData := .tuple [.str (aName x t), .tuple [.str (aRaw x t), .int (aQ x t + 1)]]
def swS (x : Str) (j : Int) : Bool := Txt.startswith3 x (Str.ofString "/>") (sEnd x j)
def swG (x : Str) (j : Int) : Bool := Txt.startswith3 x (Str.ofString ">") (sEnd x j)
inductive TagRun (x : Str) : Int → List Int → List Int → Bool → Int → Prop
  | slash {j ss} : swS x j = true → TagRun x j ss ss true (sEnd x j + 2)
  | angle {j ss} : swS x j = false → swG x j = true → TagRun x j ss ss false (sEnd x j + 1)
  | more {j ss rs b e} : swS x j = false → swG x j = false → 0 < spN x j → AttrOk x (sEnd x j) → (∀ t ∈ ss, aName x t ≠ aName x (sEnd x j)) → TagRun x (aF x (sEnd x j) + 1) (ss ++ [sEnd x j]) rs b e → TagRun x j ss rs b e
inductive TagErr (x : Str) : Int → List Int → Int → Prop
  | gap {j ss} : swS x j = false → swG x j = false → spN x j = 0 → TagErr x j ss (sEnd x j)
  | attr {j ss p} : swS x j = false → swG x j = false → 0 < spN x j → AttrErr x (sEnd x j) p → TagErr x j ss p
  | twice {j ss} : swS x j = false → swG x j = false → 0 < spN x j → AttrOk x (sEnd x j) → (∃ t ∈ ss, aName x t = aName x (sEnd x j)) → TagErr x j ss (sEnd x j)
  | more {j ss p} : swS x j = false → swG x j = false → 0 < spN x j → AttrOk x (sEnd x j) → (∀ t ∈ ss, aName x t ≠ aName x (sEnd x j)) → TagErr x (aF x (sEnd x j) + 1) (ss ++ [sEnd x j]) p → TagErr x j ss p
def keysOf (x : Str) (ss : List Int) : List (PyData × PyData) := ss.map fun t => (PyData.str (aName x t), PyData.bool true)
theorem lookup_keys (x : Str) (a : Str) : ∀ ss : List Int, (Spec.lookup (PyData.str a) (keysOf x ss)).isSome = true ↔ ∃ t ∈ ss, aName x t = a
  | [] => by simp [keysOf, Spec.lookup]
  | t :: ss => by
    have ih := lookup_keys x a ss
    show (Spec.lookup (PyData.str a) ((PyData.str (aName x t), PyData.bool true) :: keysOf x ss)).isSome = true ↔ _
    unfold Spec.lookup
    rw [PyProof.V.same_str]
    by_cases q : aName x t = a
    · simp [q]
    · simp only [q, decide_false, Bool.false_eq_true, if_false, ih, List.mem_cons, exists_eq_or_imp, false_or]
theorem putD_keys {x : Str} {ss : List Int} {t : Int} (h : (Spec.lookup (PyData.str (aName x t)) (keysOf x ss)).isSome = false) : PyProof.V.putD (PyData.str (aName x t)) (PyData.bool true) (keysOf x ss) = keysOf x (ss ++ [t]) := by
  have n : ¬ ∃ u ∈ ss, aName x u = aName x t := fun q => by
    rw [(lookup_keys x _ ss).mpr q] at h; cases h
  unfold PyProof.V.putD
  rw [if_neg]
  · simp [keysOf]
  · intro q
    obtain ⟨p, hp, hs⟩ := List.any_eq_true.mp q
    obtain ⟨u, hu, rfl⟩ := List.mem_map.mp hp
    rw [PyProof.V.same_str] at hs
    exact n ⟨u, hu, of_decide_eq_true hs⟩
/-- what holds at the head of the loop -/
structure LoopJ (w : World) (x : Str) (j₀ : Int) (rest : List (Addr × Obj)) (d c lf dk : Addr) (j : Int) (ss : List Int) (od : Obj) (kvs : List (Str × Value)) (vs : Array Value) (extra : List (Addr × Obj)) : Prop where
  j0 : 0 ≤ j
  j1 : j ≤ (x.length : Int)
  isd : od.IsDictOf (strKind prog w) kvs
  flat : PyProof.V.FlatPairs PyData.str kvs (keysOf x ss)
  rd : RdAll extra vs.toList (ss.map (attrD x))
  few : (ss.length : Int) ≤ j
  vsz : vs.size = ss.length
  ed : ∀ p ∈ extra ++ rest, p.1 ≠ d
  el : ∀ p ∈ extra ++ rest, p.1 ≠ lf
  ek : ∀ p ∈ extra ++ rest, p.1 ≠ dk
  run : ∀ rs b e, TagRun x j ss rs b e → TagRun x j₀ [] rs b e
  err : ∀ p, TagErr x j ss p → TagErr x j₀ [] p
def StartErr (x : Str) (k p : Int) : Prop := (Txt.startswith3 x (Str.ofString "<") k = false ∧ p = k) ∨ (Txt.startswith3 x (Str.ofString "<") k = true ∧ ¬ okN x (k + 1) ∧ p = k + 1) ∨ (Txt.startswith3 x (Str.ofString "<") k = true ∧ okN x (k + 1) ∧ TagErr x (nEnd x (k + 1)) [] p)
local macro_rules | `(tactic| walk_at "call ref") => `(tactic| ((with_reducible show wpAny _ _ (call (Value.ref 246) _) _ _ _); k_dflt (refine u_spaces (by k_asm) (by k_asm) (by k_asm) (by k_asm) (by exact rfl) (by k_asm) (by ktr_room) (by ktr_units) (by k_mem) (by k_mem) hx (by omega) (by omega) hal ?_); intro hR tkR tR tkc FR NR0 bR; (have NR := NR0 _ (by k_upd)); clear NR0; (try dsimp only)))
local macro_rules | `(tactic| walk_at "call ref") => `(tactic| ((with_reducible show wpAny _ _ (call (Value.ref 225) _) _ _ _); refine halt ?_))
local macro_rules | `(tactic| walk_at "call ref") => `(tactic| ((with_reducible show wpAny _ _ (call (Value.ref 260) _) _ _ _); refine halt ?_))
local macro_rules | `(tactic| walk_at "call ref") => `(tactic| ((with_reducible show wpAny _ _ (call (Value.ref 267) _) _ _ _); refine halt ?_))
local macro_rules | `(tactic| walk_at "call ref") => `(tactic| ((with_reducible show wpAny _ _ (call (Value.ref 218) _) _ _ _); refine halt ?_))
local macro_rules | `(tactic| walk_at "call ref") => `(tactic| ((with_reducible show wpAny _ _ (call (Value.ref 122) _) _ _ _); k_dflt (refine c_make (by k_asm) (by k_asm) (by k_asm) (by k_asm) (by exact rfl) (by k_asm) (by ktr_room) (by ktr_units) ?_); intro eX deX hX tkX h1X F1X N1X MX; refine halt ?_))
local macro_rules | `(tactic| walk_at "call ref") => `(tactic| ((with_reducible show wpAny _ _ (call (Value.ref 152) _) _ _ _); refine halt ?_))
local macro_rules | `(tactic| walk_at "call ref") => `(tactic| ((with_reducible show wpAny _ _ (call (Value.ref 203) _) _ _ _); refine halt ?_))
local macro_rules | `(tactic| walk_at "exec While Constant") => `(tactic| ((with_reducible show wpAny _ _ (exec (Stmt.While _ _ [] _) _) _ _ _); refine halt ?_))
local macro_rules | `(tactic| walk_at "call type:tuple") => `(tactic| ((with_reducible show wpAny _ _ (call (Value.type _) [Value.ref _]) _ _ _); k_dflt (refine tupleOf (by k_asm) (by k_asm) (News.isList (by k_asm) (by k_mem)) (by omega) ?_); intro D' h' F' N' l1; (try k_lt l1)))
local macro_rules | `(tactic| walk_at "setItem ref str") => `(tactic| (k_dflt (refine' setItem_K PyProof.V.same_str (strKind_is _ _ _ _) ?v ?F ?N ?U ?d ?f ?_ ?z; (case F => k_asm); (case N => k_asm); (case U => k_updF); (case d => k_asm); (case f => k_asm); (case z => (show (keysOf _ _).length ≤ sizeLine; unfold keysOf; rw [List.length_map, sizeLine_eq]; omega)); (case v => k_flat)); intro h' o' F' N' hd' hf'; (try dsimp only at N')))
theorem c_start {d c : Addr} {h1 h2 : Int} {t1 t2 tx tk : Tok} {x : Str} {k : Int}
 (B : Below A₀ base outer h₀) (F : Fr h₀ L s.heap m) (X : (hd.heap_1 w.params).In h₀) (T : TopH mean mg mb h₀) (hck : cs.kind = .function)
 (N : News h₀ L s.heap news) (hdp : dp ≤ 640) (hun : un ≤ 40)
 (hcd : (d, curD h1 h2 t1 t2 tx tk x k) ∈ news) (hci : (c, instObj 277 d) ∈ news) (hx : x.length ≤ 100000) (hk0 : 0 ≤ k) (hk1 : k ≤ (x.length : Int))
 (hal : Asc x)
 (hQ : ∀ rs b e, Txt.startswith3 x (Str.ofString "<") k = true → okN x (k + 1) → TagRun x (nEnd x (k + 1)) [] rs b e → ∀ h' tk' (v : Value) extra (tk₂ : Tok), Fr h₀ L h' m → (∀ news', Upd d (curD h1 h2 t1 t2 tx tk x k) (curD h1 h2 t1 t2 tx tk₂ x e) news news' → News h₀ L h' (extra ++ news')) → RdIn extra v (.tuple [.str (aName x (k + 1)), .tuple (rs.map (attrD x)), .bool b]) → (∃ a, v = .ref a) → Q v {s with heap := h', toks := tk'})
 (hE : ∀ p, StartErr x k p → ExP E base h₀ L m (envX cn cs L a ccd cl :: outer) news d s p)
 : wpAny (model prog w) (ktrTop dp un gd cn cs L a ccd cl outer) (call (.ref 138) [.ref c, .ref 309]) Q E s := by
  refine led_use N hcd hci (by simp) fun rest hL N hrd hsub hne => ?_
  w_top off
  refine wpAny_call ?_
  k_dflt cell_enter
  k_steps
  refine ⟨?_⟩
  refine u_expect (by k_asm) (by k_asm) (by k_asm) (by k_asm) (by exact rfl) (by k_asm) (by ktr_room) (by ktr_units) (by k_mem) (by k_mem) hx (by omega) (by omega) hal (by decide) ?_ ?_
  rotate_left
  · exact fun z => exp_pass (by k_asm) (by k_asm) (hE _ (.inl ⟨z, rfl⟩)) (fun q hq => hL.ex _ (by k_mem) (fun q hq => .tail _ (.tail _ hq)) q hq) rfl rfl rfl
  intro sw hR tkR tR tkc FR NR0 bR
  have NR := NR0 _ (by k_upd)
  clear NR0
  k_steps
  refine ⟨?_⟩
  refine u_name (by k_asm) (by k_asm) (by k_asm) (by k_asm) (by exact rfl) (by k_asm) (by ktr_room) (by ktr_units) (by k_mem) (by k_mem) hx (by omega) (by omega) hal ?_ ?_
  rotate_left
  · exact fun z => exp_pass (by k_asm) (by k_asm) (hE _ (.inr (.inl ⟨sw, z, rfl⟩))) (fun q hq => hL.ex _ (by k_mem) (fun q hq => .tail _ (.tail _ hq)) q hq) rfl rfl rfl
  intro oN hR tkR tR tkc FR NR0 bR
  have NR := NR0 _ (by k_upd)
  clear NR0
  k_steps
  refine ⟨?_⟩
  simp only [ll_] at *
  rename_i lf0 _ _ _ lk0 dk0 _ _ _ _ _ _ _ _ _ _
  refine While_st (n₀ := ((x.length : Int) - nEnd x (k + 1)).toNat) [Str.ofString "spaced", Str.ofString "place", Str.ofString "attribute", Str.ofString "value"] (fun n ns => ∃ (j : Int) (tkj : Tok) (ss : List Int) (od : Obj) (kvs : List (Str × Value)) (vs : Array Value) (cap : Nat) (extra : List (Addr × Obj)), ns = (lk0, od) :: (lf0, W.listOf vs cap) :: (d, curD h1 h2 t1 t2 tx tkj x j) :: (c, instObj 277 d) :: (extra ++ rest) ∧ LoopJ w x (nEnd x (k + 1)) rest d c lf0 lk0 j ss od kvs vs extra ∧ n = ((x.length : Int) - j).toNat) (by k_asm) (by k_asm) ?ini ?_
  case ini =>
    refine ⟨nEnd x (k + 1), _, [], _, [], #[], 0, [], rfl, ⟨?_, bR.1, by assumption, by assumption, RdAll.nil, ?_, rfl, hrd, ?_, ?_, fun _ _ _ r => r, fun _ r => r⟩, rfl⟩
    · show 0 ≤ k + 1 + 1 + _; omega
    · show (0 : Int) ≤ k + 1 + 1 + _; omega
    · intro p hp; exact Nat.ne_of_lt (allLt_mem (by first | assumption | exact And.right (And.right (by assumption))) p hp)
    · intro p hp; exact Nat.ne_of_lt (allLt_mem (by first | assumption | exact And.right (And.right (And.right (by assumption)))) p hp)
  rintro n ns hw tkw u Fw Nw ⟨j, tkj, ss, od, kvs, vs, cap, extra, rfl, J, hn⟩
  have Jj0 := J.j0
  have Jj1 := J.j1
  have Jisd := J.isd
  have Jflat := J.flat
  have Jed := J.ed
  have Jel := J.el
  have Jek := J.ek
  have Jfew := J.few
  have Jvsz := J.vsz
  k_steps
  refine ⟨?_⟩
  refine u_skip (by k_asm) (by k_asm) (by k_asm) (by k_asm) (by exact rfl) (by k_asm) (by ktr_room) (by ktr_units) (by k_mem) (by k_mem) hx (by omega) (by omega) hal (by decide) ?_ ?_
  · intro sS hR2 tkR2 tR2 tkc2 FR2 NR0 bS
    have NR2 := NR0 _ (by k_upd)
    clear NR0
    k_steps
    dsimp only [WhileStep2]
    k_steps
    exact hQ _ _ _ sw oN (J.run _ _ _ (.slash sS)) _ _ _ ((_, tup3 (.str (aName x (k + 1)) _) (.ref _) (.bool true)) :: (_, { cls := .type "tuple", data := .seq vs }) :: extra) _ (by k_asm)
      (fun news' U => news_app (by k_asm) (by intro q hq; rcases List.mem_cons.mp hq with rfl | hq; exact .head _; rcases List.mem_cons.mp hq with rfl | hq; exact .tail _ (.head _); repeat (first | exact List.mem_append_left _ hq | apply List.Mem.tail)) (hL.upd _ _ _ _ (by k_asm) (by k_mem) (by k_mem) (by intro q hq; repeat (first | exact hq | exact List.mem_append_right _ hq | apply List.Mem.tail)) U))
      (RdIn.tuple (vs := [_, _, _]) (.head _) (.cons (.str _ _) (.cons (RdIn.tupleA (.tail _ (.head _)) (J.rd.mono (fun q hq => .tail _ (.tail _ hq)))) (.cons (.bool _) .nil)))) ⟨_, rfl⟩
  intro nS hR2 tkR2 FR2 NR2
  k_steps
  refine ⟨?_⟩
  refine u_skip (by k_asm) (by k_asm) (by k_asm) (by k_asm) (by exact rfl) (by k_asm) (by ktr_room) (by ktr_units) (by k_mem) (by k_mem) hx (by omega) (by omega) hal (by decide) ?_ ?_
  · intro sG hR3 tkR3 tR3 tkc3 FR3 NR0 bG
    have NR3 := NR0 _ (by k_upd)
    clear NR0
    k_steps
    dsimp only [WhileStep2]
    k_steps
    exact hQ _ _ _ sw oN (J.run _ _ _ (.angle nS sG)) _ _ _ ((_, tup3 (.str (aName x (k + 1)) _) (.ref _) (.bool false)) :: (_, { cls := .type "tuple", data := .seq vs }) :: extra) _ (by k_asm)
      (fun news' U => news_app (by k_asm) (by intro q hq; rcases List.mem_cons.mp hq with rfl | hq; exact .head _; rcases List.mem_cons.mp hq with rfl | hq; exact .tail _ (.head _); repeat (first | exact List.mem_append_left _ hq | apply List.Mem.tail)) (hL.upd _ _ _ _ (by k_asm) (by k_mem) (by k_mem) (by intro q hq; repeat (first | exact hq | exact List.mem_append_right _ hq | apply List.Mem.tail)) U))
      (RdIn.tuple (vs := [_, _, _]) (.head _) (.cons (.str _ _) (.cons (RdIn.tupleA (.tail _ (.head _)) (J.rd.mono (fun q hq => .tail _ (.tail _ hq)))) (.cons (.bool _) .nil)))) ⟨_, rfl⟩
  intro nG hR3 tkR3 FR3 NR3
  k_steps
  · refine ⟨?_⟩
    refine c_attr (by k_asm) (by k_asm) (by k_asm) (by k_asm) (by exact rfl) (by k_asm) (by ktr_room) (by ktr_units) (by k_mem) (by k_mem) hx (by omega) (by omega) hal ?_ ?_
    rotate_left
    · exact fun p z => exp_pass (by k_asm) (by k_asm) (hE _ (.inr (.inr ⟨sw, oN, J.err _ (.attr nS nG (by omega) z)⟩))) (fun q hq => hL.ex _ (by k_mem) (by intro q hq; repeat (first | exact hq | exact List.mem_append_right _ hq | apply List.Mem.tail)) q hq) rfl rfl rfl
    intro oA hR4 tkR4 D1 D2 tn tR4 tp4 tkc4 FR4 NR0 bA l4 l5
    have NR4 := NR0 _ (by k_upd)
    clear NR0
    k_lt l4
    have nl : (aName x (j + ↑(spN x j))).length ≤ 100000 := Nat.le_trans (Txt.slice_le _ _ _) hx
    k_steps
    · refine ⟨due_made (Frag.In.keeps (by k_asm) (Fr.keep (by k_asm))) (kts122 w) (by assumption) ?_⟩
      exact out_raise (by assumption) (by assumption) (by assumption) (by assumption) (by assumption) rfl (fun q hq => (List.mem_filter.mp (hL.ex _ (by k_mem) (by intro q hq; repeat (first | exact hq | exact List.mem_append_right _ hq | apply List.Mem.tail)) q hq)).1) (hE _ (.inr (.inr ⟨sw, oN, J.err _ (.twice nS nG (by omega) oA ((lookup_keys _ _ _).mp (by assumption)))⟩)))
    · have nk : (Spec.lookup (PyData.str (aName x (j + ↑(spN x j)))) (keysOf x ss)).isSome = false := by assumption
      rename_i D9 hA9 l9 hB9 F9 N9
      refine ⟨_, _, _, (lk0, o') :: (lf0, W.listOf (vs.push (Value.ref D9)) (cap + 1)) :: (d, curD h1 h2 t1 t2 tx tkc4 x (aF x (j + ↑(spN x j)) + 1)) :: (c, instObj 277 d) :: (((D9, tup2 (.str (aName x (j + ↑(spN x j))) tn) (.ref D1)) :: (D1, tup2 (.str (aRaw x (j + ↑(spN x j))) tR4) (.int (aQ x (j + ↑(spN x j)) + 1) tp4)) :: extra) ++ rest), ((x.length : Int) - (aF x (j + ↑(spN x j)) + 1)).toNat, rfl, F9, news_sub N9 ?mem, ?lt, ?same, aF x (j + ↑(spN x j)) + 1, tkc4, ss ++ [j + ↑(spN x j)], o', _, vs.push (Value.ref D9), cap + 1, (D9, tup2 (.str (aName x (j + ↑(spN x j))) tn) (.ref D1)) :: (D1, tup2 (.str (aRaw x (j + ↑(spN x j))) tR4) (.int (aQ x (j + ↑(spN x j)) + 1) tp4)) :: extra, rfl, ⟨?q0, bA.2, hd', ?fl, ?rd, ?few, ?vsz, ?ed, ?el, ?ek, ?run, ?err⟩, rfl⟩
      case lt => have := bA.1; have := bA.2; omega
      case q0 => have := bA.1; omega
      case mem =>
        intro q hq
        rcases List.mem_cons.mp hq with rfl | hq
        · k_mem
        rcases List.mem_cons.mp hq with rfl | hq
        · k_mem
        rcases List.mem_cons.mp hq with rfl | hq
        · k_mem
        rcases List.mem_cons.mp hq with rfl | hq
        · k_mem
        rcases List.mem_cons.mp hq with rfl | hq
        · k_mem
        rcases List.mem_cons.mp hq with rfl | hq
        · k_mem
        repeat (first | exact hq | apply List.Mem.tail)
      case same =>
        intro y hy
        have e1 : y ≠ Str.ofString "spaced" := fun q => by rw [q] at hy; revert hy; decide
        have e2 : y ≠ Str.ofString "place" := fun q => by rw [q] at hy; revert hy; decide
        have e3 : y ≠ Str.ofString "attribute" := fun q => by rw [q] at hy; revert hy; decide
        have e4 : y ≠ Str.ofString "value" := fun q => by rw [q] at hy; revert hy; decide
        simp only [e1, e2, e3, e4, if_false, hy, Bool.false_eq_true]
      case fl => rw [← putD_keys nk]; exact hf'
      case rd =>
        rw [Array.toList_push, List.map_append]
        refine (J.rd.mono (fun q hq => .tail _ (.tail _ hq))).snoc (RdIn.tuple (vs := [_, _]) (.head _) (.cons (.str _ _) (.cons (RdIn.tuple (vs := [_, _]) (.tail _ (.head _)) (.cons (.str _ _) (.cons (.int _ _) .nil))) .nil)))
      case few => rw [List.length_append]; simp only [List.length_cons, List.length_nil]; omega
      case vsz => rw [Array.size_push, List.length_append, Jvsz]; rfl
      case ed =>
        intro q hq
        rcases List.mem_cons.mp hq with rfl | hq
        · k_ne
        rcases List.mem_cons.mp hq with rfl | hq
        · k_ne
        exact Jed q hq
      case el =>
        intro q hq
        rcases List.mem_cons.mp hq with rfl | hq
        · k_ne
        rcases List.mem_cons.mp hq with rfl | hq
        · k_ne
        exact Jel q hq
      case ek =>
        intro q hq
        rcases List.mem_cons.mp hq with rfl | hq
        · k_ne
        rcases List.mem_cons.mp hq with rfl | hq
        · k_ne
        exact Jek q hq
      case run =>
        intro rs b e r
        exact J.run _ _ _ (.more nS nG (by omega) oA (fun t ht q => Bool.noConfusion (((lookup_keys x (aName x (sEnd x j)) ss).mpr ⟨t, ht, q⟩).symm.trans nk)) r)
      case err =>
        intro p r
        exact J.err _ (.more nS nG (by omega) oA (fun t ht q => Bool.noConfusion (((lookup_keys x (aName x (sEnd x j)) ss).mpr ⟨t, ht, q⟩).symm.trans nk)) r)
  · refine ⟨?_⟩
    refine c_fault (by k_asm) (by k_asm) (by k_asm) (by k_asm) rfl (by k_asm) (by k_mem) (by k_mem) (by ktr_room) (by ktr_units) ?_
    exact exp_pass (by k_asm) (by k_asm) (hE _ (.inr (.inr ⟨sw, oN, J.err _ (.gap nS nG (by omega))⟩))) (fun q hq => hL.ex _ (by k_mem) (by intro q hq; repeat (first | exact hq | exact List.mem_append_right _ hq | apply List.Mem.tail)) q hq) rfl rfl rfl


end
end Mine
end

-- Tell
example : True ∧ True := by
  first | walk1 | constructor
  all_goals trivial
section
open PySem PySem.W PySem.W.X PyProof.Rows PySem.Calls
namespace Mine
set_option hygiene false
section
/-- what a call of f with a cursor at k of x tells -/
def Tells (w : World) (f : Addr) (x : Str) (k : Int) (Ok : PyData → Int → Prop) (Er : Int → Prop) : Prop :=
  ∀ {A₀ : Around} {E Q : Value → Shared → Prop} {s : Shared} {base h₀ : Heap} {outer : List Env} {L a : Addr} {m : Str → Option Value} {mg mb : Str → Option Value} {mean : ExcName → Option Value} {dp un : Nat} {gd : Option (List Code)} {cn : Str} {cs : Scope} {ccd : Value} {cl : List (Str × Addr)} {news : List (Addr × Obj)} {d c : Addr} {h1 h2 : Int} {t1 t2 tx tk : Tok},
    Below A₀ base outer h₀ → Fr h₀ L s.heap m → (hd.heap_1 w.params).In h₀ → TopH mean mg mb h₀ → cs.kind = .function → News h₀ L s.heap news → dp ≤ 635 → un ≤ 35 →
    (d, curD h1 h2 t1 t2 tx tk x k) ∈ news → (c, instObj 277 d) ∈ news →
    (∀ dat e, Ok dat e → ∀ h' tk' (v : Value) extra (tk₂ : Tok), Fr h₀ L h' m → (∀ news', Upd d (curD h1 h2 t1 t2 tx tk x k) (curD h1 h2 t1 t2 tx tk₂ x e) news news' → News h₀ L h' (extra ++ news')) → RdIn extra v dat → Q v {s with heap := h', toks := tk'}) →
    (∀ p, Er p → ExP E base h₀ L m (envX cn cs L a ccd cl :: outer) news d s p) →
    wpAny (model prog w) (ktrTop dp un gd cn cs L a ccd cl outer) (call (.ref f) [.ref c]) Q E s
def StartOk (x : Str) (k : Int) (dat : PyData) (e : Int) : Prop := ∃ rs b, Txt.startswith3 x (Str.ofString "<") k = true ∧ okN x (k + 1) ∧ TagRun x (nEnd x (k + 1)) [] rs b e ∧ dat = .tuple [.str (aName x (k + 1)), .tuple (rs.map (attrD x)), .bool b]
def AttOk (x : Str) (k : Int) (dat : PyData) (e : Int) : Prop := AttrOk x k ∧ e = aF x k + 1 ∧ dat = attrD x k
def EndOk (x : Str) (k : Int) (dat : PyData) (e : Int) : Prop := Txt.startswith3 x (Str.ofString "</") k = true ∧ okN x (k + 2) ∧ Txt.startswith3 x (Str.ofString ">") (sEnd x (nEnd x (k + 2))) = true ∧ e = sEnd x (nEnd x (k + 2)) + 1 ∧ dat = .str (aName x (k + 2))
def EndErr (x : Str) (k p : Int) : Prop := (Txt.startswith3 x (Str.ofString "</") k = false ∧ p = k) ∨ (Txt.startswith3 x (Str.ofString "</") k = true ∧ ¬ okN x (k + 2) ∧ p = k + 2) ∨ (Txt.startswith3 x (Str.ofString "</") k = true ∧ okN x (k + 2) ∧ Txt.startswith3 x (Str.ofString ">") (sEnd x (nEnd x (k + 2))) = false ∧ p = sEnd x (nEnd x (k + 2)))
def Heard (Ok : PyData → Int → Prop) (Er : Int → Prop) (dat : PyData) : Prop := (∃ r e, Ok r e ∧ dat = .tuple [r, .int e]) ∨ ∃ p, Er p ∧ dat = .tuple [.str (Str.ofString "fault"), .int p]
local macro_rules | `(tactic| walk_at "call ref") => `(tactic| ((with_reducible show wpAny _ _ (call (Value.ref 138) _) _ _ _); refine halt ?_))
local macro_rules | `(tactic| walk_at "call ref") => `(tactic| ((with_reducible show wpAny _ _ (call (Value.ref 152) _) _ _ _); refine halt ?_))
local macro_rules | `(tactic| walk_at "call ref") => `(tactic| ((with_reducible show wpAny _ _ (call (Value.ref 159) _) _ _ _); refine halt ?_))
theorem t_start {w : World} {x : Str} {k : Int} (hx : x.length ≤ 100000) (hk0 : 0 ≤ k) (hk1 : k ≤ (x.length : Int)) (hal : Asc x) : Tells w 323 x k (StartOk x k) (StartErr x k) := by
  intro A₀ E Q s base h₀ outer L a m mg mb mean dp un gd cn cs ccd cl news d c h1 h2 t1 t2 tx tk B F X T hck N hdp hun hcd hci hQ hE
  refine led_use N hcd hci (by simp) fun rest hL N hrd hsub hne => ?_
  w_top off
  refine wpAny_call ?_
  k_dflt cell_enter
  k_steps
  refine ⟨?_⟩
  refine c_start (by k_asm) (by k_asm) (by k_asm) (by k_asm) (by exact rfl) (by k_asm) (by ktr_room) (by ktr_units) (by k_mem) (by k_mem) hx hk0 hk1 hal ?_ ?_
  rotate_left
  · exact fun p z => exp_pass (by k_asm) (by k_asm) (hE p z) (fun q hq => hL.ex _ (by k_mem) (fun q hq => .tail _ (.tail _ hq)) q hq) rfl rfl rfl
  intro rs b e sw oN run hR tkR v extra tk2 FR NR0 rd hv
  have NR := NR0 _ (by k_upd)
  clear NR0
  obtain ⟨av, rfl⟩ := hv
  k_steps
  exact hQ _ _ ⟨rs, b, sw, oN, run, rfl⟩ _ _ _ extra _ (by k_asm) (fun news' U => news_app (by k_asm) (fun q hq => List.mem_append_left _ hq) (hL.upd _ _ _ _ (by k_asm) (List.mem_append_right _ (.head _)) (List.mem_append_right _ (.tail _ (.head _))) (fun q hq => List.mem_append_right _ (.tail _ (.tail _ hq))) U)) rd
theorem t_attr {w : World} {x : Str} {k : Int} (hx : x.length ≤ 100000) (hk0 : 0 ≤ k) (hk1 : k ≤ (x.length : Int)) (hal : Asc x) : Tells w 330 x k (AttOk x k) (AttrErr x k) := by
  intro A₀ E Q s base h₀ outer L a m mg mb mean dp un gd cn cs ccd cl news d c h1 h2 t1 t2 tx tk B F X T hck N hdp hun hcd hci hQ hE
  refine led_use N hcd hci (by simp) fun rest hL N hrd hsub hne => ?_
  w_top off
  refine wpAny_call ?_
  k_dflt cell_enter
  k_steps
  refine ⟨?_⟩
  refine c_attr (by k_asm) (by k_asm) (by k_asm) (by k_asm) (by exact rfl) (by k_asm) (by ktr_room) (by ktr_units) (by k_mem) (by k_mem) hx hk0 hk1 hal ?_ ?_
  rotate_left
  · exact fun p z => exp_pass (by k_asm) (by k_asm) (hE p z) (fun q hq => hL.ex _ (by k_mem) (fun q hq => .tail _ (.tail _ hq)) q hq) rfl rfl rfl
  intro oA hR tkR D1 D2 tn tR tp tk2 FR NR0 bA l4 l5
  have NR := NR0 _ (by k_upd)
  clear NR0
  k_steps
  exact hQ _ _ ⟨oA, rfl, rfl⟩ _ _ _ [(D2, tup2 (.str (aName x k) tn) (.ref D1)), (D1, tup2 (.str (aRaw x k) tR) (.int (aQ x k + 1) tp))] _ (by k_asm) (fun news' U => news_cons (by k_asm) (.head _) (news_cons (by k_asm) (.tail _ (.head _)) (hL.upd _ _ _ _ (by k_asm) (by k_mem) (by k_mem) (by intro q hq; repeat (first | exact hq | apply List.Mem.tail)) U)))
    (RdIn.tuple (vs := [_, _]) (.head _) (.cons (.str _ _) (.cons (RdIn.tuple (vs := [_, _]) (.tail _ (.head _)) (.cons (.str _ _) (.cons (.int _ _) .nil))) .nil)))
theorem t_end {w : World} {x : Str} {k : Int} (hx : x.length ≤ 100000) (hk0 : 0 ≤ k) (hk1 : k ≤ (x.length : Int)) (hal : Asc x) : Tells w 337 x k (EndOk x k) (EndErr x k) := by
  intro A₀ E Q s base h₀ outer L a m mg mb mean dp un gd cn cs ccd cl news d c h1 h2 t1 t2 tx tk B F X T hck N hdp hun hcd hci hQ hE
  refine led_use N hcd hci (by simp) fun rest hL N hrd hsub hne => ?_
  w_top off
  refine wpAny_call ?_
  k_dflt cell_enter
  k_steps
  refine ⟨?_⟩
  refine c_end (by k_asm) (by k_asm) (by k_asm) (by k_asm) (by exact rfl) (by k_asm) (by ktr_room) (by ktr_units) (by k_mem) (by k_mem) hx hk0 hk1 hal ?_ ?_ ?_ ?_
  rotate_left
  · exact fun z => exp_pass (by k_asm) (by k_asm) (hE _ (.inl ⟨z, rfl⟩)) (fun q hq => hL.ex _ (by k_mem) (fun q hq => .tail _ (.tail _ hq)) q hq) rfl rfl rfl
  · exact fun y z => exp_pass (by k_asm) (by k_asm) (hE _ (.inr (.inl ⟨y, z, rfl⟩))) (fun q hq => hL.ex _ (by k_mem) (fun q hq => .tail _ (.tail _ hq)) q hq) rfl rfl rfl
  · exact fun y z u => exp_pass (by k_asm) (by k_asm) (hE _ (.inr (.inr ⟨y, z, u, rfl⟩))) (fun q hq => hL.ex _ (by k_mem) (fun q hq => .tail _ (.tail _ hq)) q hq) rfl rfl rfl
  intro sw oN sw2 hR tkR tR tk2 FR NR0
  have NR := NR0 _ (by k_upd)
  clear NR0
  k_steps
  exact hQ _ _ ⟨sw, oN, sw2, rfl, rfl⟩ _ _ _ [] _ (by k_asm) (fun news' U => hL.upd _ _ _ _ (by k_asm) (by k_mem) (by k_mem) (fun q hq => .tail _ (.tail _ hq)) U) (.str _ _)

end
end Mine
end

-- ExcGet
section
open PySem PySem.W PyProof.Rows PySem.Calls
namespace Mine
section
variable {prog : Program} {w : World} {A : Around} {E : Value → Shared → Prop} {s : Shared} {K : Frag} {x C : Addr} {ox : Obj} {od : Option Obj} {name : Str} {expr : Bool} {Q : Value → Shared → Prop}
theorem check_ga {M : Model} {nameV : Value} {E : Value → Shared → Prop} {Q : Unit → Shared → Prop} {s : Shared} (X : K.In s.heap) (I : InstAt s.heap x ox C od) (hm : mroIn K C (.type "BaseException") = some true) (hq : Q () s) :
    wpAny M A (checkBuiltinCall "BaseException.__getattribute__" ⟨[.ref x, nameV], []⟩) Q E s := by
  have hk : builtinKind "BaseException.__getattribute__" = some .slot := by decide +kernel
  have hsplit : splitId "BaseException.__getattribute__" = some ("BaseException", "__getattribute__") := by decide +kernel
  have ha := F.args_bexc_ga (.ref x) nameV
  have L0 := I.type (M := M)
  have L4 := looks_mroIn (M := M) X hm
  obtain ⟨hp, g, d, tk, os⟩ := s
  simp only [checkBuiltinCall, hk, hsplit]
  refine wpAny_bind ?_
  unfold isInstance
  refine wpAny_bind (L0.at ?_)
  refine L4.at ?_
  repeat (first | wp_step)
  exact hq
theorem get_exc {v : Value} (X : K.In s.heap) (I : InstAt s.heap x ox C od) (hga : findIn K (.ref C) "__getattribute__" = some (some (.builtin "BaseException.__getattribute__"))) (hgt : findIn K (.ref C) "__getattr__" = some none) (hm : mroIn K C (.type "BaseException") = some true)
    (hf : findObj K C od name = some (.value v)) (hh : handedIn v = true) (h : Q v { s with toks := s.toks + 1 }) : wpAny (model prog w) A (getAttr (.ref x) name expr) Q E s := by
  obtain ⟨hp, g, d, t, os⟩ := s
  have L0 := I.type (M := model prog w)
  have L1 := looks_findIn (M := model prog w) X hga
  have L2 := looks_findIn (M := model prog w) X hgt
  have L3 := looks_find (M := model prog w) X I hf
  have hx0 : (expr && onTheHeap (Value.builtin "BaseException.__getattribute__")) = false := by cases expr <;> rfl
  have hb := F.attrBase_Exception.ga.bind (.ref x)
  unfold getAttr getAttrBy
  refine wpAny_bind (wpAny_mkText (wpAny_holding (wpAny_bind (L0.at (wpAny_bind (L1.at ?_))))))
  show wpAny _ _ (getAttrByItsOwn _ _ _ _ _ _) _ _ _
  unfold getAttrByItsOwn
  refine wpAny_bind (show wpAny _ _ (typeLookup (.ref C) "__getattr__") _ _ _ from L2.at ?_)
  refine wpAny_bind (wpAny_attempt (wpAny_holding ?_))
  unfold callGetattribute boundAndCalled
  rw [hx0, hb]
  refine wpAny_bind (wpAny_pure ?_)
  refine wpAny_call (codeAny_call_builtin F.attrBase_Exception.ga.plain F.entry_bexc_ga (check_ga (s := ⟨hp, g, d, t + 1, os⟩) X I hm ?_))
  unfold Builtin.«object.__getattribute__»
  refine wpAny_bind ?_
  unfold slotArgs
  repeat (first | wp_step)
  refine wpAny_loadPart_at I.at_ (wpAny_pure ?_)
  rw [I.cls]
  refine wpAny_bind (L3.at ?_)
  refine wpAny_pure ?_
  show wpAny _ _ (handedOut v) _ _ _
  rw [handedOut_of hh]
  exact wpAny_pure h
end
end Mine
end

-- Hrd0
section
open PySem PySem.W PySem.W.X PyProof.Rows PySem.Calls
namespace Mine
theorem ga122 (w : World) : findIn (hd.heap_1 w.params) (.ref 122) "__getattribute__" = some (some (.builtin "BaseException.__getattribute__")) := by rfl
theorem gt122 (w : World) : findIn (hd.heap_1 w.params) (.ref 122) "__getattr__" = some none := by rfl
theorem mro122 (w : World) : mroIn (hd.heap_1 w.params) 122 (.type "BaseException") = some true := by rfl
theorem inst_exc {h₀ h : Heap} {L e de : Addr} {news : List (Addr × Obj)} {od : Obj} {ws : Array Value} {sl : Array (Option Value)} (N : News h₀ L h news) (h1 : (e, (⟨.ref 122, some de, .fields ws, sl⟩ : Obj)) ∈ news) (h2 : (de, od) ∈ news) :
    InstAt h e ⟨.ref 122, some de, .fields ws, sl⟩ 122 (some od) := ⟨(N _ h1).1, rfl, rfl, (N _ h2).1⟩
theorem get_fault {w : World} {A : Around} {E Q : Value → Shared → Prop} {s : Shared} {expr : Bool} {h₀ : Heap} {L e de : Addr} {news : List (Addr × Obj)} {ws : Array Value} {sl : Array (Option Value)} {y1 y2 : Int} {y3 y4 y6 y7 : Tok} {y5 : Str} {p : Int} (X : (hd.heap_1 w.params).In s.heap) (N : News h₀ L s.heap news)
    (h1 : (e, (⟨.ref 122, some de, .fields ws, sl⟩ : Obj)) ∈ news) (h2 : (de, dictOf [⟨y1, .str (Str.ofString "message") y3, .str y5 y6⟩, ⟨y2, .str (Str.ofString "place") y4, .int p y7⟩] 2) ∈ news) (h : Q (.int p y7) { s with toks := s.toks + 1 }) :
    wpAny (model prog w) A (getAttr (.ref e) (Str.ofString "place") expr) Q E s :=
  get_exc X (inst_exc N h1 h2) (ga122 w) (gt122 w) (mro122 w) (findObj_own (attr := none) (by rfl) (by rfl) (by rfl) (by rfl)) rfl h
theorem caught_gen {P : List (Addr × Obj) → Prop} {news rest : List (Addr × Obj)} (h : ∀ q ∈ news, q ∈ rest) (k : ∀ r : List (Addr × Obj), (∀ q ∈ news, q ∈ r) → P r) : P rest := k rest h
end Mine
end

-- Hrd
example : True ∧ True := by
  first | walk1 | constructor
  all_goals trivial
section
open PySem PySem.W PySem.W.X PyProof.Rows PySem.Calls
namespace Mine
set_option hygiene false
section
variable {w : World} {A₀ : Around} {E Q : Value → Shared → Prop} {s : Shared} {base h₀ : Heap} {outer : List Env} {L a : Addr} {m : Str → Option Value} {mg mb : Str → Option Value} {mean : ExcName → Option Value} {dp un : Nat} {gd : Option (List Code)} {cn : Str} {cs : Scope} {ccd : Value} {cl : List (Str × Addr)} {news : List (Addr × Obj)}
local macro_rules | `(tactic| walk_at "getAttr ref") => `(tactic| ((with_reducible show wpAny _ _ (getAttr (Value.ref _) (PySem.Str.ofString "place") _) _ _ _); k_dflt (refine get_fault (Frag.In.keeps (by k_asm) (Fr.keep (by k_asm))) (by k_asm) (by k_mem) (by k_mem) ?_)))
local macro_rules | `(tactic| walk_at "noteFrame ref") => `(tactic| refine halt ?_)
local macro_rules | `(tactic| walk_at "call ref") => `(tactic| ((with_reducible show wpAny _ _ (call (Value.ref 323) _) _ _ _); refine halt ?_))
theorem c_heard323 {x : Str} {k : Int} {tx tk : Tok} {Ok : PyData → Int → Prop} {Er : Int → Prop} (HT : Tells w 323 x k Ok Er) (B : Below A₀ base outer h₀) (F : Fr h₀ L s.heap m) (X : (hd.heap_1 w.params).In h₀) (T : TopH mean mg mb h₀) (hck : cs.kind = .function)
 (N : News h₀ L s.heap news) (hdp : dp ≤ 630) (hun : un ≤ 30)
 (XB : (hd.heap_1 w.params).In base) (TB : TopH mean mg mb base) (D : KtsDicts (outer.filterMap (·.frame)) h₀)
 (hQ : ∀ h₀' h' tk' v extra dat, KtsTurn (outer.filterMap (·.frame)) h₀ h₀' → Fr h₀' L h' m → News h₀' L h' (extra ++ news) → RdIn extra v dat → Heard Ok Er dat → (∃ b, v = .ref b) → Below A₀ base outer h₀' → (hd.heap_1 w.params).In h₀' → TopH mean mg mb h₀' → KtsDicts (outer.filterMap (·.frame)) h₀' → Q v {s with heap := h', toks := tk'})
 : wpAny (model prog w) (ktrTop dp un gd cn cs L a ccd [] outer) (call (.ref 316) [.str x tx, .int k tk, .ref 323]) Q E s := by
  w_top off
  refine wpAny_call ?_
  k_dflt (refine' code_defS ?k1 ?k2 ?k3 ?k4 ?k5 ?XB ?TB ?D ?T0 ?kA ?k6 ?k7 ?k8 ?k9 ?kB ?_ ?cK ?c2 ?c3 ?c4 ?c5; (case kA => exact rfl); (case k2 => k_asm); (case k1 => k_asm); (case XB => assumption); (case TB => assumption); (case D => assumption); (case T0 => exact KtsTurn.refl); (case k3 => k_asm); (case k4 => k_asm); (case k5 => k_asm); (case k6 => k_is); (case k7 => k_is); (case k8 => ktr_room); (case k9 => first | exact BindsTo.of_eq rfl | exact binds_K (by k_in) rfl (by k_is) rfl rfl rfl); (case kB => exact locs rfl); (case cK => assumption); (case c2 => exact rfl); (case c3 => exact rfl); (case c4 => exact rfl); (case c5 => decide); k_whole)
  intro g9 L9 h9 FG9 F9 N9 B9 X9 T9 D9
  (try dsimp only); (try k_lift B9); (try k_fold)
  k_steps
  refine ⟨?_⟩
  refine HT (by k_asm) (by k_asm) (by k_asm) (by k_asm) rfl (by k_asm) (by ktr_room) (by ktr_units) (by k_mem) (by k_mem) ?_ ?_
  · intro dat e ok hR tkR v extra tk2 FR NR0 rd
    have NR1 := NR0 _ (by k_upd)
    clear NR0
    k_steps
    refine hQ h₀ _ _ _ ((_, tup2 v (.int e tk2)) :: extra) _ KtsTurn.refl (by k_asm) (news_sub (by k_asm) ?_) (RdIn.tuple (vs := [_, _]) (.head _) (.cons (rd.mono (fun q hq => .tail _ hq)) (.cons (.int _ _) .nil))) (.inl ⟨dat, e, ok, rfl⟩) ⟨_, rfl⟩ (by k_asm) (by k_asm) (by k_asm) (by k_asm)
    intro q hq
    rcases List.mem_cons.mp hq with rfl | hq
    · exact .head _
    · refine .tail _ ?_
      rcases List.mem_append.mp hq with hq | hq
      · exact List.mem_append_left _ hq
      · exact List.mem_append_right _ (.tail _ (.tail _ hq))
  · intro p hp e G hR tkR Fe Ue Re
    dsimp only
    k_steps
    refine ⟨?_⟩
    refine caught_X (Re.sub (rest' := news) (fun q hq => List.mem_filter.mpr ⟨.tail _ (.tail _ hq), bne_iff_ne.mpr (Nat.ne_of_lt ((by assumption : ∀ p ∈ news, p.1 < _) q hq))⟩)) Fe (by k_asm) Ue XB TB (by k_asm) (by k_is) (kts122 w) ?_
    intro hC gC tkC de ws so o TC FC hf NC KC XC PC DC
    obtain ⟨y1, y2, y3, y4, y5, y6, y7, rfl⟩ := hf
    k_steps
    rename_i kg9 kT9 kF9 kN9 kB9 kX8 kP9 kD9 kX9
    refine hQ kg9 _ _ _ [(_, tup2 (.str (Str.ofString "fault") tkC) (.int p y7))] _ kT9 kF9 (news_sub kN9 ?_) (RdIn.tuple (vs := [_, _]) (.head _) (.cons (.str _ _) (.cons (.int _ _) .nil))) (.inr ⟨p, hp, rfl⟩) ⟨_, rfl⟩ kB9 kX8 kP9 kD9
    intro q hq
    rcases List.mem_cons.mp hq with rfl | hq
    · exact .head _
    · exact .tail _ (.tail _ (.tail _ hq))
local macro_rules | `(tactic| walk_at "getAttr ref") => `(tactic| ((with_reducible show wpAny _ _ (getAttr (Value.ref _) (PySem.Str.ofString "place") _) _ _ _); k_dflt (refine get_fault (Frag.In.keeps (by k_asm) (Fr.keep (by k_asm))) (by k_asm) (by k_mem) (by k_mem) ?_)))
local macro_rules | `(tactic| walk_at "noteFrame ref") => `(tactic| refine halt ?_)
local macro_rules | `(tactic| walk_at "call ref") => `(tactic| ((with_reducible show wpAny _ _ (call (Value.ref 330) _) _ _ _); refine halt ?_))
theorem c_heard330 {x : Str} {k : Int} {tx tk : Tok} {Ok : PyData → Int → Prop} {Er : Int → Prop} (HT : Tells w 330 x k Ok Er) (B : Below A₀ base outer h₀) (F : Fr h₀ L s.heap m) (X : (hd.heap_1 w.params).In h₀) (T : TopH mean mg mb h₀) (hck : cs.kind = .function)
 (N : News h₀ L s.heap news) (hdp : dp ≤ 630) (hun : un ≤ 30)
 (XB : (hd.heap_1 w.params).In base) (TB : TopH mean mg mb base) (D : KtsDicts (outer.filterMap (·.frame)) h₀)
 (hQ : ∀ h₀' h' tk' v extra dat, KtsTurn (outer.filterMap (·.frame)) h₀ h₀' → Fr h₀' L h' m → News h₀' L h' (extra ++ news) → RdIn extra v dat → Heard Ok Er dat → (∃ b, v = .ref b) → Below A₀ base outer h₀' → (hd.heap_1 w.params).In h₀' → TopH mean mg mb h₀' → KtsDicts (outer.filterMap (·.frame)) h₀' → Q v {s with heap := h', toks := tk'})
 : wpAny (model prog w) (ktrTop dp un gd cn cs L a ccd [] outer) (call (.ref 316) [.str x tx, .int k tk, .ref 330]) Q E s := by
  w_top off
  refine wpAny_call ?_
  k_dflt (refine' code_defS ?k1 ?k2 ?k3 ?k4 ?k5 ?XB ?TB ?D ?T0 ?kA ?k6 ?k7 ?k8 ?k9 ?kB ?_ ?cK ?c2 ?c3 ?c4 ?c5; (case kA => exact rfl); (case k2 => k_asm); (case k1 => k_asm); (case XB => assumption); (case TB => assumption); (case D => assumption); (case T0 => exact KtsTurn.refl); (case k3 => k_asm); (case k4 => k_asm); (case k5 => k_asm); (case k6 => k_is); (case k7 => k_is); (case k8 => ktr_room); (case k9 => first | exact BindsTo.of_eq rfl | exact binds_K (by k_in) rfl (by k_is) rfl rfl rfl); (case kB => exact locs rfl); (case cK => assumption); (case c2 => exact rfl); (case c3 => exact rfl); (case c4 => exact rfl); (case c5 => decide); k_whole)
  intro g9 L9 h9 FG9 F9 N9 B9 X9 T9 D9
  (try dsimp only); (try k_lift B9); (try k_fold)
  k_steps
  refine ⟨?_⟩
  refine HT (by k_asm) (by k_asm) (by k_asm) (by k_asm) rfl (by k_asm) (by ktr_room) (by ktr_units) (by k_mem) (by k_mem) ?_ ?_
  · intro dat e ok hR tkR v extra tk2 FR NR0 rd
    have NR1 := NR0 _ (by k_upd)
    clear NR0
    k_steps
    refine hQ h₀ _ _ _ ((_, tup2 v (.int e tk2)) :: extra) _ KtsTurn.refl (by k_asm) (news_sub (by k_asm) ?_) (RdIn.tuple (vs := [_, _]) (.head _) (.cons (rd.mono (fun q hq => .tail _ hq)) (.cons (.int _ _) .nil))) (.inl ⟨dat, e, ok, rfl⟩) ⟨_, rfl⟩ (by k_asm) (by k_asm) (by k_asm) (by k_asm)
    intro q hq
    rcases List.mem_cons.mp hq with rfl | hq
    · exact .head _
    · refine .tail _ ?_
      rcases List.mem_append.mp hq with hq | hq
      · exact List.mem_append_left _ hq
      · exact List.mem_append_right _ (.tail _ (.tail _ hq))
  · intro p hp e G hR tkR Fe Ue Re
    dsimp only
    k_steps
    refine ⟨?_⟩
    refine caught_X (Re.sub (rest' := news) (fun q hq => List.mem_filter.mpr ⟨.tail _ (.tail _ hq), bne_iff_ne.mpr (Nat.ne_of_lt ((by assumption : ∀ p ∈ news, p.1 < _) q hq))⟩)) Fe (by k_asm) Ue XB TB (by k_asm) (by k_is) (kts122 w) ?_
    intro hC gC tkC de ws so o TC FC hf NC KC XC PC DC
    obtain ⟨y1, y2, y3, y4, y5, y6, y7, rfl⟩ := hf
    k_steps
    rename_i kg9 kT9 kF9 kN9 kB9 kX8 kP9 kD9 kX9
    refine hQ kg9 _ _ _ [(_, tup2 (.str (Str.ofString "fault") tkC) (.int p y7))] _ kT9 kF9 (news_sub kN9 ?_) (RdIn.tuple (vs := [_, _]) (.head _) (.cons (.str _ _) (.cons (.int _ _) .nil))) (.inr ⟨p, hp, rfl⟩) ⟨_, rfl⟩ kB9 kX8 kP9 kD9
    intro q hq
    rcases List.mem_cons.mp hq with rfl | hq
    · exact .head _
    · exact .tail _ (.tail _ (.tail _ hq))
local macro_rules | `(tactic| walk_at "getAttr ref") => `(tactic| ((with_reducible show wpAny _ _ (getAttr (Value.ref _) (PySem.Str.ofString "place") _) _ _ _); k_dflt (refine get_fault (Frag.In.keeps (by k_asm) (Fr.keep (by k_asm))) (by k_asm) (by k_mem) (by k_mem) ?_)))
local macro_rules | `(tactic| walk_at "noteFrame ref") => `(tactic| refine halt ?_)
local macro_rules | `(tactic| walk_at "call ref") => `(tactic| ((with_reducible show wpAny _ _ (call (Value.ref 337) _) _ _ _); refine halt ?_))
theorem c_heard337 {x : Str} {k : Int} {tx tk : Tok} {Ok : PyData → Int → Prop} {Er : Int → Prop} (HT : Tells w 337 x k Ok Er) (B : Below A₀ base outer h₀) (F : Fr h₀ L s.heap m) (X : (hd.heap_1 w.params).In h₀) (T : TopH mean mg mb h₀) (hck : cs.kind = .function)
 (N : News h₀ L s.heap news) (hdp : dp ≤ 630) (hun : un ≤ 30)
 (XB : (hd.heap_1 w.params).In base) (TB : TopH mean mg mb base) (D : KtsDicts (outer.filterMap (·.frame)) h₀)
 (hQ : ∀ h₀' h' tk' v extra dat, KtsTurn (outer.filterMap (·.frame)) h₀ h₀' → Fr h₀' L h' m → News h₀' L h' (extra ++ news) → RdIn extra v dat → Heard Ok Er dat → (∃ b, v = .ref b) → Below A₀ base outer h₀' → (hd.heap_1 w.params).In h₀' → TopH mean mg mb h₀' → KtsDicts (outer.filterMap (·.frame)) h₀' → Q v {s with heap := h', toks := tk'})
 : wpAny (model prog w) (ktrTop dp un gd cn cs L a ccd [] outer) (call (.ref 316) [.str x tx, .int k tk, .ref 337]) Q E s := by
  w_top off
  refine wpAny_call ?_
  k_dflt (refine' code_defS ?k1 ?k2 ?k3 ?k4 ?k5 ?XB ?TB ?D ?T0 ?kA ?k6 ?k7 ?k8 ?k9 ?kB ?_ ?cK ?c2 ?c3 ?c4 ?c5; (case kA => exact rfl); (case k2 => k_asm); (case k1 => k_asm); (case XB => assumption); (case TB => assumption); (case D => assumption); (case T0 => exact KtsTurn.refl); (case k3 => k_asm); (case k4 => k_asm); (case k5 => k_asm); (case k6 => k_is); (case k7 => k_is); (case k8 => ktr_room); (case k9 => first | exact BindsTo.of_eq rfl | exact binds_K (by k_in) rfl (by k_is) rfl rfl rfl); (case kB => exact locs rfl); (case cK => assumption); (case c2 => exact rfl); (case c3 => exact rfl); (case c4 => exact rfl); (case c5 => decide); k_whole)
  intro g9 L9 h9 FG9 F9 N9 B9 X9 T9 D9
  (try dsimp only); (try k_lift B9); (try k_fold)
  k_steps
  refine ⟨?_⟩
  refine HT (by k_asm) (by k_asm) (by k_asm) (by k_asm) rfl (by k_asm) (by ktr_room) (by ktr_units) (by k_mem) (by k_mem) ?_ ?_
  · intro dat e ok hR tkR v extra tk2 FR NR0 rd
    have NR1 := NR0 _ (by k_upd)
    clear NR0
    k_steps
    refine hQ h₀ _ _ _ ((_, tup2 v (.int e tk2)) :: extra) _ KtsTurn.refl (by k_asm) (news_sub (by k_asm) ?_) (RdIn.tuple (vs := [_, _]) (.head _) (.cons (rd.mono (fun q hq => .tail _ hq)) (.cons (.int _ _) .nil))) (.inl ⟨dat, e, ok, rfl⟩) ⟨_, rfl⟩ (by k_asm) (by k_asm) (by k_asm) (by k_asm)
    intro q hq
    rcases List.mem_cons.mp hq with rfl | hq
    · exact .head _
    · refine .tail _ ?_
      rcases List.mem_append.mp hq with hq | hq
      · exact List.mem_append_left _ hq
      · exact List.mem_append_right _ (.tail _ (.tail _ hq))
  · intro p hp e G hR tkR Fe Ue Re
    dsimp only
    k_steps
    refine ⟨?_⟩
    refine caught_X (Re.sub (rest' := news) (fun q hq => List.mem_filter.mpr ⟨.tail _ (.tail _ hq), bne_iff_ne.mpr (Nat.ne_of_lt ((by assumption : ∀ p ∈ news, p.1 < _) q hq))⟩)) Fe (by k_asm) Ue XB TB (by k_asm) (by k_is) (kts122 w) ?_
    intro hC gC tkC de ws so o TC FC hf NC KC XC PC DC
    obtain ⟨y1, y2, y3, y4, y5, y6, y7, rfl⟩ := hf
    k_steps
    rename_i kg9 kT9 kF9 kN9 kB9 kX8 kP9 kD9 kX9
    refine hQ kg9 _ _ _ [(_, tup2 (.str (Str.ofString "fault") tkC) (.int p y7))] _ kT9 kF9 (news_sub kN9 ?_) (RdIn.tuple (vs := [_, _]) (.head _) (.cons (.str _ _) (.cons (.int _ _) .nil))) (.inr ⟨p, hp, rfl⟩) ⟨_, rfl⟩ kB9 kX8 kP9 kD9
    intro q hq
    rcases List.mem_cons.mp hq with rfl | hq
    · exact .head _
    · exact .tail _ (.tail _ (.tail _ hq))

end
end Mine
end

-- Led1
section
open PySem PySem.W PyProof.Rows PySem.Calls
namespace Mine
theorem led1_use {P : Prop} {h₀ h : Heap} {L d : Addr} {od : Obj} {news : List (Addr × Obj)} (N : News h₀ L h news) (hd : (d, od) ∈ news)
    (k : ∀ rest, (∀ h' od' W news', News h₀ L h' W → (d, od') ∈ W → (∀ q ∈ rest, q ∈ W) → Upd d od od' news news' → News h₀ L h' news') → News h₀ L h ((d, od) :: rest) → (∀ p ∈ rest, p.1 ≠ d) → (∀ q ∈ news, q.1 = d ∨ q ∈ rest) → P) : P := by
  have me : ∀ q, q ∈ news.filter (fun q => q.1 != d) ↔ q ∈ news ∧ q.1 ≠ d := fun q => by simp [List.mem_filter]
  refine k (news.filter (fun q => q.1 != d)) ?_ ?_ ?_ ?_
  · intro h' od' W news' NW h1 h2 U q hq
    obtain ⟨pre, post, e1, e2, n1, n2⟩ := U.split
    rw [e2] at hq
    rcases List.mem_append.mp hq with hq | hq
    · exact NW _ (h2 q ((me q).mpr ⟨by rw [e1]; exact List.mem_append_left _ hq, n1 q hq⟩))
    rcases List.mem_cons.mp hq with rfl | hq
    · exact NW _ h1
    · exact NW _ (h2 q ((me q).mpr ⟨by rw [e1]; exact List.mem_append_right _ (.tail _ hq), n2 q hq⟩))
  · intro q hq
    rcases List.mem_cons.mp hq with rfl | hq
    · exact N _ hd
    · exact N _ ((me q).mp hq).1
  · exact fun q hq => ((me q).mp hq).2
  · exact fun q hq => if z : q.1 = d then .inl z else .inr ((me q).mpr ⟨hq, z⟩)
theorem led_use2 {P : Prop} {h₀ h : Heap} {L d c : Addr} {od oc : Obj} {news : List (Addr × Obj)} (N : News h₀ L h news) (hd : (d, od) ∈ news) (hc : (c, oc) ∈ news) (dc : c ≠ d)
    (k : ∀ rest, Led h₀ L d c od oc news rest → News h₀ L h ((d, od) :: (c, oc) :: rest) → (∀ p ∈ rest, p.1 ≠ d) → (∀ p ∈ (d, od) :: (c, oc) :: rest, p ∈ news) → @Ne Nat c d → P) : P := by
  have fc : ∀ q ∈ news, q.1 = c → q = (c, oc) := fun q hq z => by
    have e1 := (N _ hq).1
    have e2 := (N _ hc).1
    simp only at e1 e2
    rw [z, e2] at e1
    obtain ⟨a, o⟩ := q
    simp only at z e1
    rw [z, Option.some.inj e1]
  have fd : ∀ q ∈ news, q.1 = d → q = (d, od) := fun q hq z => by
    have e1 := (N _ hq).1
    have e2 := (N _ hd).1
    simp only at e1 e2
    rw [z, e2] at e1
    obtain ⟨a, o⟩ := q
    simp only at z e1
    rw [z, Option.some.inj e1]
  have me : ∀ q, q ∈ news.filter (fun q => q.1 != d && q.1 != c) ↔ q ∈ news ∧ q.1 ≠ d ∧ q.1 ≠ c := fun q => by
    simp [List.mem_filter]
  refine k (news.filter (fun q => q.1 != d && q.1 != c)) ⟨?_, ?_, ?_, ?_⟩ ?_ ?_ ?_ dc
  · intro h' W NW h1 h2 h3 q hq
    by_cases z1 : q.1 = d
    · rw [fd q hq z1]; exact NW _ h1
    by_cases z2 : q.1 = c
    · rw [fc q hq z2]; exact NW _ h2
    · exact NW _ (h3 q ((me q).mpr ⟨hq, z1, z2⟩))
  · intro h' od' W news' NW h1 h2 h3 U q hq
    obtain ⟨pre, post, e1, e2, n1, n2⟩ := U.split
    rw [e2] at hq
    have out : ∀ q, q ∈ news → q.1 ≠ d → h'.get? q.1 = some q.2 ∧ q.1 ≠ L ∧ h₀.get? q.1 = none := fun q hq z1 => by
      by_cases z2 : q.1 = c
      · rw [fc q hq z2]; exact NW _ h2
      · exact NW _ (h3 q ((me q).mpr ⟨hq, z1, z2⟩))
    rcases List.mem_append.mp hq with hq | hq
    · exact out q (by rw [e1]; exact List.mem_append_left _ hq) (n1 q hq)
    rcases List.mem_cons.mp hq with rfl | hq
    · exact NW _ h1
    · exact out q (by rw [e1]; exact List.mem_append_right _ (.tail _ hq)) (n2 q hq)
  · intro D ⟨h1, h2, h3⟩ q hq
    by_cases z1 : q.1 = d
    · rw [z1]; exact h1
    by_cases z2 : q.1 = c
    · rw [z2]; exact h2
    · exact allLt_mem h3 q ((me q).mpr ⟨hq, z1, z2⟩)
  · intro W h1 h2 q hq
    obtain ⟨hq, z⟩ := List.mem_filter.mp hq
    refine List.mem_filter.mpr ⟨?_, z⟩
    have z1 : q.1 ≠ d := by simpa using z
    by_cases z2 : q.1 = c
    · rw [fc q hq z2]; exact h1
    · exact h2 q ((me q).mpr ⟨hq, z1, z2⟩)
  · intro q hq
    rcases List.mem_cons.mp hq with rfl | hq
    · exact N _ hd
    rcases List.mem_cons.mp hq with rfl | hq
    · exact N _ hc
    · exact N _ ((me q).mp hq).1
  · exact fun q hq => ((me q).mp hq).2.1
  · intro q hq
    rcases List.mem_cons.mp hq with rfl | hq
    · exact hd
    rcases List.mem_cons.mp hq with rfl | hq
    · exact hc
    · exact ((me q).mp hq).1
/-- the source of the draws: two ints -/
abbrev srcO (a b : Int) (ta tb : Tok) (cp : Nat) : Obj := W.listOf #[.int a ta, .int b tb] cp
end Mine
end

-- Take
example : True ∧ True := by
  first | walk1 | constructor
  all_goals trivial
section
open PySem PySem.W PySem.W.X PyProof.Rows PySem.Calls
namespace Mine
set_option hygiene false
section
variable {w : World} {A₀ : Around} {E Q : Value → Shared → Prop} {s : Shared} {base h₀ : Heap} {outer : List Env} {L a : Addr} {m : Str → Option Value} {mg mb : Str → Option Value} {mean : ExcName → Option Value} {dp un : Nat} {gd : Option (List Code)} {cn : Str} {cs : Scope} {ccd : Value} {cl : List (Str × Addr)} {news : List (Addr × Obj)}
theorem c_take {top : Int} {tt : Tok} {ls : Addr} {a₁ b₁ : Int} {ta tb : Tok} {cp : Nat} (ht : 1 ≤ top) (ht2 : top ≤ 100)
 (B : Below A₀ base outer h₀) (F : Fr h₀ L s.heap m) (X : (hd.heap_1 w.params).In h₀) (T : TopH mean mg mb h₀) (hck : cs.kind = .function)
 (N : News h₀ L s.heap news) (hdp : dp ≤ 660) (hun : un ≤ 60)
 (hls : (ls, srcO a₁ b₁ ta tb cp) ∈ news) (ha : 0 ≤ a₁) (hb : 0 ≤ b₁) (hb2 : b₁ < 2147483647)
 (hQ : ∀ r a' b' (ta' tb' tr : Tok) h' tk', 0 ≤ r → r < top → 0 ≤ a' → 0 ≤ b' → b' < 2147483647 → Fr h₀ L h' m → (∀ news', Upd ls (srcO a₁ b₁ ta tb cp) (srcO a' b' ta' tb' cp) news news' → News h₀ L h' news') → Q (.int r tr) {s with heap := h', toks := tk'})
 : wpAny (model prog w) (ktrTop dp un gd cn cs L a ccd cl outer) (call (.ref 295) [.ref ls, .int top tt]) Q E s := by
  refine led1_use N hls fun rest hL N hrd hrest => ?_
  w_top off
  refine wpAny_call ?_
  k_dflt cell_enter
  k_steps
  · simp only [show Int.toNat 0 = 0 from rfl, List.getD_cons_zero] at *
    exact hQ _ (a₁.fdiv top) _ _ _ _ _ _ (Int.fmod_nonneg_of_pos _ (by omega)) (Int.fmod_lt_of_pos _ (by omega)) (by rw [Int.fdiv_eq_ediv_of_nonneg _ (by omega)]; exact Int.ediv_nonneg ha (by omega)) hb hb2 (by k_asm) (fun news' U => hL _ _ _ _ (by k_asm) (.head _) (fun q hq => .tail _ hq) U)
  have hX : 0 ≤ (b₁ * 39373 + 7).fmod 2147483647 ∧ (b₁ * 39373 + 7).fmod 2147483647 < 2147483647 := ⟨Int.fmod_nonneg_of_pos _ (by decide), Int.fmod_lt_of_pos _ (by decide)⟩
  simp only [show Int.toNat 1 = 1 from rfl, show Int.toNat 0 = 0 from rfl, List.getD_cons_succ, List.getD_cons_zero] at *
  generalize (b₁ * 39373 + 7).fmod 2147483647 = X at *
  obtain ⟨hX0, hX1⟩ := hX
  k_steps
  exact hQ _ _ _ _ _ _ _ _ (Int.fmod_nonneg_of_pos _ (by omega)) (Int.fmod_lt_of_pos _ (by omega)) ha hX0 hX1 (by k_asm) (fun news' U => hL _ _ _ _ (by k_asm) (.head _) (fun q hq => .tail _ hq) U)

end
end Mine
end

-- One
example : True ∧ True := by
  first | walk1 | constructor
  all_goals trivial
section
open PySem PySem.W PySem.W.X PyProof.Rows PySem.Calls
namespace Mine
set_option hygiene false
section
variable {w : World} {A₀ : Around} {E Q : Value → Shared → Prop} {s : Shared} {base h₀ : Heap} {outer : List Env} {L a : Addr} {m : Str → Option Value} {mg mb : Str → Option Value} {mean : ExcName → Option Value} {dp un : Nat} {gd : Option (List Code)} {cn : Str} {cs : Scope} {ccd : Value} {cl : List (Str × Addr)} {news : List (Addr × Obj)}
local macro_rules | `(tactic| walk_at "subscriptTail") => `(tactic| ((with_reducible show wpAny _ _ (subscriptTail _ _ (Value.ref _) (Value.int _ _)) _ _ _); refine halt ?_))
local macro_rules | `(tactic| walk_at "subscriptTail Name Call") => `(tactic| ((with_reducible show wpAny _ _ (subscriptTail _ _ (Value.ref _) (Value.int _ _)) _ _ _); refine halt ?_))
local macro_rules | `(tactic| walk_at "subscriptTail Name Call ref int") => `(tactic| ((with_reducible show wpAny _ _ (subscriptTail _ _ (Value.ref _) (Value.int _ _)) _ _ _); refine halt ?_))
local macro_rules | `(tactic| walk_at "call ref") => `(tactic| ((with_reducible show wpAny _ _ (call (Value.ref 295) _) _ _ _); k_dflt (refine c_take (by omega) (by omega) (by k_asm) (by k_asm) (by k_asm) (by k_asm) (by exact rfl) (by k_asm) (by ktr_room) (by ktr_units) (by k_mem) (by omega) (by omega) (by omega) ?_); intro rT aT bT taT tbT trT hT tkT rT0 rT1 haT hbT hbT2 FT NT0; (have NT := NT0 _ (by k_upd)); clear NT0; (try dsimp only)))
theorem c_one {lt : Addr} {vs : Array Value} {n : Nat} {ls : Addr} {a₁ b₁ : Int} {ta tb : Tok} {cp : Nat} (hv1 : 1 ≤ vs.size) (hv2 : vs.size ≤ 100) (hlt : (lt, W.listOf vs n) ∈ news) (hne : @Ne Nat lt ls)
 (B : Below A₀ base outer h₀) (F : Fr h₀ L s.heap m) (X : (hd.heap_1 w.params).In h₀) (T : TopH mean mg mb h₀) (hck : cs.kind = .function)
 (N : News h₀ L s.heap news) (hdp : dp ≤ 650) (hun : un ≤ 50)
 (hls : (ls, srcO a₁ b₁ ta tb cp) ∈ news) (ha : 0 ≤ a₁) (hb : 0 ≤ b₁) (hb2 : b₁ < 2147483647)
 (hQ : ∀ (i : Nat) (hi : i < vs.size) a' b' (ta' tb' : Tok) h' tk', 0 ≤ a' → 0 ≤ b' → b' < 2147483647 → Fr h₀ L h' m → (∀ news', Upd ls (srcO a₁ b₁ ta tb cp) (srcO a' b' ta' tb' cp) news news' → News h₀ L h' news') → Q vs[i] {s with heap := h', toks := tk'})
 : wpAny (model prog w) (ktrTop dp un gd cn cs L a ccd cl outer) (call (.ref 302) [.ref ls, .ref lt]) Q E s := by
  refine led_use2 N hls hlt hne fun rest hL N hrd hsub hne => ?_
  w_top off
  refine wpAny_call ?_
  k_dflt cell_enter
  k_steps
  refine ⟨?_⟩
  have hi9 : rT.toNat < vs.size := by omega
  refine PyProof.Rows.item_list (News.isList (by k_asm) (.tail _ (.head _))) rT0 (by omega) (Array.getElem?_eq_getElem hi9) ?_ (by with_unfolding_all rfl) (by intro _; with_unfolding_all rfl)
  k_steps
  exact hQ _ hi9 _ _ _ _ _ _ haT hbT hbT2 (by k_asm) (fun news' U => hL.upd _ _ _ _ (by k_asm) (by k_mem) (by k_mem) (fun q hq => .tail _ (.tail _ hq)) U)
/-- a list of strs -/
inductive StrL : List Value → List Str → Prop
  | nil : StrL [] []
  | cons (w : Str) (t : Tok) {vs : List Value} {ws : List Str} : StrL vs ws → StrL (.str w t :: vs) (w :: ws)
theorem StrL.at : ∀ {vs : List Value} {ws : List Str}, StrL vs ws → ∀ (i : Nat) (hi : i < vs.length), ∃ w t, vs[i] = .str w t ∧ w ∈ ws
  | _, _, .cons w t _, 0, _ => ⟨w, t, rfl, .head _⟩
  | _, _, .cons _ _ r, i + 1, hi => by
    obtain ⟨w, t, e, m⟩ := r.at i (Nat.lt_of_succ_lt_succ hi)
    exact ⟨w, t, e, .tail _ m⟩
theorem c_oneS {lt : Addr} {vs : List Value} {ws : List Str} {n : Nat} {ls : Addr} {a₁ b₁ : Int} {ta tb : Tok} {cp : Nat} (hs : StrL vs ws) (hv1 : 1 ≤ vs.length) (hv2 : vs.length ≤ 100) (hlen : (ws.all fun w => decide (w.length ≤ 10)) = true) (hlt : (lt, W.listOf vs.toArray n) ∈ news) (hne : @Ne Nat lt ls)
 (B : Below A₀ base outer h₀) (F : Fr h₀ L s.heap m) (X : (hd.heap_1 w.params).In h₀) (T : TopH mean mg mb h₀) (hck : cs.kind = .function)
 (N : News h₀ L s.heap news) (hdp : dp ≤ 650) (hun : un ≤ 50)
 (hls : (ls, srcO a₁ b₁ ta tb cp) ∈ news) (ha : 0 ≤ a₁) (hb : 0 ≤ b₁) (hb2 : b₁ < 2147483647)
 (hQ : ∀ (wd : Str) (t : Tok) a' b' (ta' tb' : Tok) h' tk', wd ∈ ws → wd.length ≤ 10 → 0 ≤ a' → 0 ≤ b' → b' < 2147483647 → Fr h₀ L h' m → (∀ news', Upd ls (srcO a₁ b₁ ta tb cp) (srcO a' b' ta' tb' cp) news news' → News h₀ L h' news') → Q (.str wd t) {s with heap := h', toks := tk'})
 : wpAny (model prog w) (ktrTop dp un gd cn cs L a ccd cl outer) (call (.ref 302) [.ref ls, .ref lt]) Q E s := by
  refine c_one (vs := vs.toArray) (by simpa using hv1) (by simpa using hv2) hlt hne B F X T hck N hdp hun hls ha hb hb2 ?_
  intro i hi a' b' ta' tb' h' tk' h1 h2 h3 F' N'
  obtain ⟨w, t, e, m⟩ := hs.at i (by simpa using hi)
  have e' : vs.toArray[i] = .str w t := by simpa using e
  rw [e']
  exact hQ w t a' b' ta' tb' h' tk' m (of_decide_eq_true (List.all_eq_true.mp hlen w m)) h1 h2 h3 F' N'

end
end Mine
end

-- Pair
example : True ∧ True := by
  first | walk1 | constructor
  all_goals trivial
section
open PySem PySem.W PySem.W.X PyProof.Rows PySem.Calls
namespace Mine
set_option hygiene false
section
variable {w : World} {A₀ : Around} {E Q : Value → Shared → Prop} {s : Shared} {base h₀ : Heap} {outer : List Env} {L a : Addr} {m : Str → Option Value} {mg mb : Str → Option Value} {mean : ExcName → Option Value} {dp un : Nat} {gd : Option (List Code)} {cn : Str} {cs : Scope} {ccd : Value} {cl : List (Str × Addr)} {news : List (Addr × Obj)}
abbrev quotes : List Str := [Str.ofString "\"", Str.ofString "'"]
abbrev gaps : List Str := [Str.ofString "", Str.ofString " ", Str.ofString "\n\t"]
abbrev gaps2 : List Str := [Str.ofString "", Str.ofString "\r "]
def rawsOf (q : Str) : List Str := [Str.ofString "", Str.ofString "1", Str.ofString "a b", Str.ofString "&lt;", Str.ofString ">", if (q == Str.ofString "\"") = true then Str.ofString "'" else Str.ofString "\"", Str.ofString "/>"]
abbrev headOf (x nm g e q : Str) : Str := x ++ nm ++ g ++ Str.ofString "=" ++ e ++ q
abbrev hLen (x nm g e q : Str) : Nat := x.length + nm.length + g.length + (Str.ofString "=").length + e.length + q.length
theorem u_oneS {lt : Addr} {vs : List Value} {ws : List Str} {n : Nat} {ls : Addr} {a₁ b₁ : Int} {ta tb : Tok} {cp : Nat}
 (B : Below A₀ base outer h₀) (F : Fr h₀ L s.heap m) (X : (hd.heap_1 w.params).In h₀) (T : TopH mean mg mb h₀) (hck : cs.kind = .function)
 (N : News h₀ L s.heap news) (hdp : dp ≤ 650) (hun : un ≤ 50)
 (hlt : (lt, W.listOf vs.toArray n) ∈ news) (hne : @Ne Nat lt ls) (hs : StrL vs ws) (hv1 : 1 ≤ vs.length) (hv2 : vs.length ≤ 100) (hlen : (ws.all fun w => decide (w.length ≤ 10)) = true)
 (hls : (ls, srcO a₁ b₁ ta tb cp) ∈ news) (ha : 0 ≤ a₁) (hb : 0 ≤ b₁) (hb2 : b₁ < 2147483647)
 (hQ : ∀ (wd : Str) (t : Tok) a' b' (ta' tb' : Tok) h' tk', wd ∈ ws → wd.length ≤ 10 → 0 ≤ a' → 0 ≤ b' → b' < 2147483647 → Fr h₀ L h' m → (∀ news', Upd ls (srcO a₁ b₁ ta tb cp) (srcO a' b' ta' tb' cp) news news' → News h₀ L h' news') → Q (.str wd t) {s with heap := h', toks := tk'})
 : wpAny (model prog w) (ktrTop dp un gd cn cs L a ccd cl outer) (call (.ref 302) [.ref ls, .ref lt]) Q E s := c_oneS hs hv1 hv2 hlen hlt hne B F X T hck N hdp hun hls ha hb hb2 hQ
local macro_rules | `(tactic| walk_at "call ref") => `(tactic| ((with_reducible show wpAny _ _ (call (Value.ref 302) _) _ _ _); k_dflt (refine u_oneS (by k_asm) (by k_asm) (by k_asm) (by k_asm) (by exact rfl) (by k_asm) (by ktr_room) (by ktr_units) (by k_mem) (by k_ne) (by repeat constructor) (by exact Nat.le_of_ble_eq_true rfl) (by exact Nat.le_of_ble_eq_true rfl) (by decide) (by k_mem) (by omega) (by omega) (by omega) ?_); (try clear haT hbT hbT2); intro wdT tdT aT bT taT tbT hT tkT mT lT haT hbT hbT2 FT NT0; (have NT1 := NT0 _ (by k_upd)); clear NT0; (try (rename (@LT.lt Nat _ _ _ ∧ _) => l1X; clear l1X)); (k_dflt (have NT := news_sub NT1 (fun q hq => List.Mem.tail _ hq))); clear NT1; (try dsimp only)))
theorem c_pair {nm x : Str} {nt xt : Tok} {ls : Addr} {a₁ b₁ : Int} {ta tb : Tok} {cp : Nat} (hnm : nm.length ≤ 100) (hxx : x.length ≤ 10000)
 (B : Below A₀ base outer h₀) (F : Fr h₀ L s.heap m) (X : (hd.heap_1 w.params).In h₀) (T : TopH mean mg mb h₀) (hck : cs.kind = .function)
 (N : News h₀ L s.heap news) (hdp : dp ≤ 640) (hun : un ≤ 40)
 (hls : (ls, srcO a₁ b₁ ta tb cp) ∈ news) (ha : 0 ≤ a₁) (hb : 0 ≤ b₁) (hb2 : b₁ < 2147483647)
 (hQ : ∀ (g e q r : Str) a' b' (ta' tb' : Tok) D₁ D₂ D₃ (y1 y2 y3 : Tok) h' tk', q ∈ quotes → g ∈ gaps → e ∈ gaps2 → r ∈ rawsOf q → (q.length ≤ 10 ∧ g.length ≤ 10 ∧ e.length ≤ 10 ∧ r.length ≤ 10) → 0 ≤ a' → 0 ≤ b' → b' < 2147483647 → Fr h₀ L h' m →
   (∀ news', Upd ls (srcO a₁ b₁ ta tb cp) (srcO a' b' ta' tb' cp) news news' → News h₀ L h' ((D₃, tup2 (.str (headOf x nm g e q ++ r ++ q) y1) (.ref D₂)) :: (D₂, tup2 (.str nm nt) (.ref D₁)) :: (D₁, tup2 (.str r y2) (.int ((hLen x nm g e q : Nat) : Int) y3)) :: news')) →
   (∀ p ∈ news, p.1 < D₁) → @LT.lt Nat _ D₁ D₂ → @LT.lt Nat _ D₂ D₃ → Q (.ref D₃) {s with heap := h', toks := tk'})
 : wpAny (model prog w) (ktrTop dp un gd cn cs L a ccd cl outer) (call (.ref 344) [.ref ls, .str nm nt, .str x xt]) Q E s := by
  refine led1_use N hls fun rest hL N hrd hrest => ?_
  w_top off
  refine wpAny_call ?_
  k_dflt cell_enter
  k_steps
  · refine hQ _ _ _ _ _ _ _ _ _ _ _ _ _ _ _ _ ?q1 ?q2 ?q3 ?q4 ?q5 haT hbT hbT2 (by k_asm) (fun news' U => news_cons (by k_asm) (.head _) (news_cons (by k_asm) (.tail _ (.head _)) (news_cons (by k_asm) (.tail _ (.tail _ (.head _))) (hL _ _ _ _ (by k_asm) (by k_mem) (by intro q hq; repeat (first | exact hq | apply List.Mem.tail)) U)))) ?l1 ?l2 ?l3
    case q1 => assumption
    case q2 => assumption
    case q3 => assumption
    case q4 => unfold rawsOf; rw [if_pos (by assumption)]; assumption
    case q5 => exact ⟨by assumption, by assumption, by assumption, by assumption⟩
    case l1 =>
      intro p hp
      rcases hrest p hp with e | e
      · rw [e]; show @LT.lt Nat _ _ _; omega
      · exact allLt_mem (by first | assumption | exact And.right (by assumption) | exact And.right (And.right (by assumption)) | exact And.right (And.right (And.right (by assumption))) | exact And.right (And.right (And.right (And.right (by assumption)))) | exact And.right (And.right (And.right (And.right (And.right (by assumption))))) | exact And.right (And.right (And.right (And.right (And.right (And.right (by assumption)))))) | exact And.right (And.right (And.right (And.right (And.right (And.right (And.right (by assumption))))))) | exact And.right (And.right (And.right (And.right (And.right (And.right (And.right (And.right (by assumption)))))))) | exact And.right (And.right (And.right (And.right (And.right (And.right (And.right (And.right (And.right (by assumption))))))))) | exact And.right (And.right (And.right (And.right (And.right (And.right (And.right (And.right (And.right (And.right (by assumption)))))))))) | exact And.right (And.right (And.right (And.right (And.right (And.right (And.right (And.right (And.right (And.right (And.right (by assumption)))))))))))) p e
    case l2 => omega
    case l3 => omega
  · refine hQ _ _ _ _ _ _ _ _ _ _ _ _ _ _ _ _ ?q1 ?q2 ?q3 ?q4 ?q5 haT hbT hbT2 (by k_asm) (fun news' U => news_cons (by k_asm) (.head _) (news_cons (by k_asm) (.tail _ (.head _)) (news_cons (by k_asm) (.tail _ (.tail _ (.head _))) (hL _ _ _ _ (by k_asm) (by k_mem) (by intro q hq; repeat (first | exact hq | apply List.Mem.tail)) U)))) ?l1 ?l2 ?l3
    case q1 => assumption
    case q2 => assumption
    case q3 => assumption
    case q4 => unfold rawsOf; rw [if_neg (by rw [(by assumption : (_ == Str.ofString "\"") = false)]; exact Bool.false_ne_true)]; assumption
    case q5 => exact ⟨by assumption, by assumption, by assumption, by assumption⟩
    case l1 =>
      intro p hp
      rcases hrest p hp with e | e
      · rw [e]; show @LT.lt Nat _ _ _; omega
      · exact allLt_mem (by first | assumption | exact And.right (by assumption) | exact And.right (And.right (by assumption)) | exact And.right (And.right (And.right (by assumption))) | exact And.right (And.right (And.right (And.right (by assumption)))) | exact And.right (And.right (And.right (And.right (And.right (by assumption))))) | exact And.right (And.right (And.right (And.right (And.right (And.right (by assumption)))))) | exact And.right (And.right (And.right (And.right (And.right (And.right (And.right (by assumption))))))) | exact And.right (And.right (And.right (And.right (And.right (And.right (And.right (And.right (by assumption)))))))) | exact And.right (And.right (And.right (And.right (And.right (And.right (And.right (And.right (And.right (by assumption))))))))) | exact And.right (And.right (And.right (And.right (And.right (And.right (And.right (And.right (And.right (And.right (by assumption)))))))))) | exact And.right (And.right (And.right (And.right (And.right (And.right (And.right (And.right (And.right (And.right (And.right (by assumption)))))))))))) p e
    case l2 => omega
    case l3 => omega

end
end Mine
end

-- Loop2
section
open PySem PySem.W PyProof.Rows PySem.Calls
namespace Mine
section
variable {prog : Program} {w : World} {A : Around} {E : Value → Shared → Prop} {Q : Flow → Shared → Prop} {s : Shared} {env : Env} {h₀ : Heap} {x : Str} {body : List Stmt}
theorem range_T {r : Addr} {a₀ b₀ : Int} {t₀ u₀ v₀ : Tok} {n : Nat} {m₀ : Str → Option Value} {news : List (Addr × Obj)} (tx : Str) (names : List Str) (J : Nat → Str → Tok → List (Addr × Obj) → Prop) {T₀ : Str} {tt₀ : Tok} (hxt : tx ≠ x)
    (hh : A.handled = none) (hr : IsRange s.heap r a₀ b₀ 1 t₀ u₀ v₀) (hsmall : Builtin.Range.small a₀ b₀ 1 = true) (hn : Builtin.Range.rangeSize a₀ b₀ 1 = (n : Int)) (F : Fr h₀ env.locals s.heap m₀) (N : News h₀ env.locals s.heap news) (htx : m₀ tx = some (.str T₀ tt₀)) (h0 : J 0 T₀ tt₀ news)
    (turn : ∀ (i : Nat) t T tt (u : Str → Option Value) news₁ h tk o, (∀ p ∈ news, p.1 < s.heap.objs.size) → i < n → J i T tt news₁ → (∀ p ∈ news₁, p.1 ≠ s.heap.objs.size) →
      Fr h₀ env.locals h (fun y => if y = x then some (.int (a₀ + (i : Int)) t) else if y = tx then some (.str T tt) else if names.contains y then u y else m₀ y) → News h₀ env.locals h ((s.heap.objs.size, o) :: news₁) →
      wpAny (model prog w) A (execs body env) (TurnJ h₀ env.locals s.heap.objs.size o s (fun m₂ ns => (∀ y, y ≠ x → y ≠ tx → names.contains y = false → m₂ y = m₀ y) ∧ ∃ T tt, m₂ tx = some (.str T tt) ∧ J (i + 1) T tt ns) Q) E { s with heap := h, toks := tk })
    (done : ∀ T tt (u : Str → Option Value) h tk news₂, Fr h₀ env.locals h (fun y => if y = tx then some (.str T tt) else if y = x then u y else if names.contains y then u y else m₀ y) → News h₀ env.locals h news₂ → J n T tt news₂ → Q .next { s with heap := h, toks := tk }) :
    wpAny (model prog w) A (pyIter (.ref r)) (fun it s₂ => LoopAtV prog w A h₀ env x body Q E it s₂) E s := by
  refine range_J (fun i m₁ ns => (∀ y, y ≠ x → y ≠ tx → names.contains y = false → m₁ y = m₀ y) ∧ ∃ T tt, m₁ tx = some (.str T tt) ∧ J i T tt ns) hh hr hsmall hn F N ⟨fun _ _ _ _ => rfl, T₀, tt₀, htx, h0⟩ ?_ ?_
  · rintro i t m₁ news₁ h tk o hl hi ⟨hm, T, tt, hT, hJ⟩ hw F₁ N₁
    have e : (fun y => if y = x then some (.int (a₀ + (i : Int)) t) else m₁ y) = (fun y => if y = x then some (.int (a₀ + (i : Int)) t) else if y = tx then some (.str T tt) else if names.contains y then m₁ y else m₀ y) := by
      funext y
      by_cases q : y = x
      · rw [if_pos q, if_pos q]
      · rw [if_neg q, if_neg q]
        by_cases q2 : y = tx
        · rw [if_pos q2, q2, hT]
        · rw [if_neg q2]
          by_cases q3 : names.contains y = true
          · rw [if_pos q3]
          · rw [if_neg q3, hm y q q2 (by simpa using q3)]
    rw [e] at F₁
    exact turn i t T tt m₁ news₁ h tk o hl hi hJ hw F₁ N₁
  · rintro h tk m₂ news₂ F₂ N₂ ⟨hm, T, tt, hT, hJ⟩
    have e : m₂ = (fun y => if y = tx then some (.str T tt) else if y = x then m₂ y else if names.contains y then m₂ y else m₀ y) := by
      funext y
      by_cases q2 : y = tx
      · rw [if_pos q2, q2, hT]
      · rw [if_neg q2]
        by_cases q : y = x
        · rw [if_pos q]
        · rw [if_neg q]
          by_cases q3 : names.contains y = true
          · rw [if_pos q3]
          · rw [if_neg q3, hm y q q2 (by simpa using q3)]
    rw [e] at F₂
    exact done T tt m₂ h tk news₂ F₂ N₂ hJ
end
end Mine
end

-- Cmp
section
open PySem PySem.W PyProof.Rows PySem.Calls
namespace Mine
mutual
theorem eqv_same : ∀ d : PyData, d.canLay0 = true → PyData.eqv d d = true
  | .none, _ => rfl
  | .bool b, _ => by simp [PyData.eqv]
  | .int i, _ => by simp [PyData.eqv]
  | .str x, _ => by simp [PyData.eqv]
  | .list xs, h => by
    have h' : PyData.canLayAll0 xs = true := by simpa [PyData.canLay0] using h
    simpa [PyData.eqv] using eqvAll_same xs h'
  | .tuple xs, h => by
    have h' : PyData.canLayAll0 xs = true := by simpa [PyData.canLay0] using h
    simpa [PyData.eqv] using eqvAll_same xs h'
  | .dict _, h => by simp [PyData.canLay0] at h
theorem eqvAll_same : ∀ ds : List PyData, PyData.canLayAll0 ds = true → PyData.eqvAll ds ds = true
  | [], _ => rfl
  | d :: ds, h => by
    simp only [PyData.canLayAll0, Bool.and_eq_true] at h
    simp only [PyData.eqvAll, Bool.and_eq_true]
    exact ⟨eqv_same d h.1, eqvAll_same ds h.2⟩
end
section
variable {prog : Program} {w : World} {A : Around} {E : Value → Shared → Prop} {s : Shared} {h₀ : Heap} {L : Addr} {news n₁ n₂ : List (Addr × Obj)} {a b : Value} {d : PyData} {Q : Value → Shared → Prop}
/-- two values that stand for the same datum are not unequal -/
theorem ne_rd (N : News h₀ L s.heap news) (ra : RdIn n₁ a d) (sa : ∀ q ∈ n₁, q ∈ news) (rb : RdIn n₂ b d) (sb : ∀ q ∈ n₂, q ∈ news) (hd : SeqAt.shaped d = true) (hu : A.units + 64 < cLine) (h : Q (.bool false) s) :
    wpAny (model prog w) A (compareOp .NotEq a b) Q E s := by
  obtain ⟨as, qa⟩ := (ra.mono sa) _ _ _ N
  obtain ⟨bs, qb⟩ := (rb.mono sb) _ _ _ N
  have hc : d.canLay0 = true := (Bool.and_eq_true_iff.mp hd).1
  exact ne_dataH qa qb hd hd hu (by rw [eqv_same d hc]; exact h)
theorem eq_rd (N : News h₀ L s.heap news) (ra : RdIn n₁ a d) (sa : ∀ q ∈ n₁, q ∈ news) (rb : RdIn n₂ b d) (sb : ∀ q ∈ n₂, q ∈ news) (hd : SeqAt.shaped d = true) (hu : A.units + 64 < cLine) (h : Q (.bool true) s) :
    wpAny (model prog w) A (compareOp .Eq a b) Q E s := by
  obtain ⟨as, qa⟩ := (ra.mono sa) _ _ _ N
  obtain ⟨bs, qb⟩ := (rb.mono sb) _ _ _ N
  have hc : d.canLay0 = true := (Bool.and_eq_true_iff.mp hd).1
  exact eq_dataH qa qb hd hd hu (by rw [eqv_same d hc]; exact h)
end
end Mine
end

-- SrDef
section
open PySem PySem.W PySem.W.X PyProof.Rows PySem.Calls
namespace Mine
structure Hid (p : Prop) : Prop where
  out : p
abbrev spcs : List Str := [Str.ofString " ", Str.ofString "\n", Str.ofString "\t ", Str.ofString "\r\n"]
abbrev keys4 : List Str := [Str.ofString "k", Str.ofString "p:k", Str.ofString "l-1", Str.ofString "xmlns"]
/-- what is due of a pair -/
def pairD (x nm g e q r : Str) : PyData := .tuple [.str nm, .tuple [.str r, .int ((hLen x nm g e q : Nat) : Int)]]
/-- a tag's text with its pairs, and the names that are left -/
inductive Built (T₀ : Str) : Nat → Str → List PyData → List Str → Prop
  | nil : Built T₀ 0 T₀ [] keys4
  | snoc {i : Nat} {T : Str} {ps : List PyData} {pw qw : List Str} {nm sp g e q r : Str} : Built T₀ i T ps (pw ++ nm :: qw) → sp ∈ spcs → q ∈ quotes → g ∈ gaps → e ∈ gaps2 → r ∈ rawsOf q →
      Built T₀ (i + 1) (headOf (T ++ sp) nm g e q ++ r ++ q) (ps ++ [pairD (T ++ sp) nm g e q r]) (pw ++ qw)
theorem strL_cut : ∀ {vs : List Value} {ws : List Str} (k : Nat), StrL vs ws → k < vs.length → ∃ p w t q pw qw, kl_cut vs k = some (p, .str w t, q) ∧ ws = pw ++ w :: qw ∧ StrL (p ++ q) (pw ++ qw)
  | _, _, 0, .cons w t r, _ => ⟨[], w, t, _, [], _, rfl, rfl, r⟩
  | _, _, k + 1, .cons w t r, h => by
    obtain ⟨p, w', t', q, pw, qw, e1, e2, e3⟩ := strL_cut k r (Nat.lt_of_succ_lt_succ h)
    refine ⟨.str w t :: p, w', t', q, w :: pw, qw, ?_, by rw [e2]; rfl, .cons w t e3⟩
    unfold kl_cut
    rw [e1]
theorem strL_len : ∀ {vs : List Value} {ws : List Str}, StrL vs ws → vs.length = ws.length
  | _, _, .nil => rfl
  | _, _, .cons _ _ r => congrArg (· + 1) (strL_len r)
structure SrJ (T₀ : Str) (ls lp lk : Addr) (rest : List (Addr × Obj)) (i : Nat) (T : Str) (a' b' : Int) (vsN : Array Value) (wsN : List Str) (vsP : Array Value) (ps : List PyData) (extra : List (Addr × Obj)) : Prop where
  a0 : 0 ≤ a'
  b0 : 0 ≤ b'
  b1 : b' < 2147483647
  nam : StrL vsN.toList wsN
  cnt : wsN.length + i = 4
  sht : ∀ w ∈ wsN, w.length ≤ 10
  rd : RdAll extra vsP.toList ps
  psz : vsP.size = i
  blt : Built T₀ i T ps wsN
  tl : T.length ≤ 100 + 100 * i
  el : ∀ p ∈ extra ++ rest, p.1 ≠ ls
  ep : ∀ p ∈ extra ++ rest, p.1 ≠ lp
  ek : ∀ p ∈ extra ++ rest, p.1 ≠ lk

abbrev aheads : List Str := [Str.ofString "", Str.ofString "x ", Str.ofString "<b>"]
abbrev tagNames : List Str := [Str.ofString "a", Str.ofString "p:b", Str.ofString "_1"]
abbrev gaps3 : List Str := [Str.ofString "", Str.ofString " ", Str.ofString "\n"]
abbrev tails3 : List Str := [Str.ofString "", Str.ofString "x", Str.ofString "<"]
def endOf (b : Bool) : Str := if b then Str.ofString "/>" else Str.ofString ">"
def dueD (nm : Str) (ps : List PyData) (b : Bool) (n : Int) : PyData := .tuple [.tuple [.str nm, .tuple ps, .bool b], .int n]
def faultDue (p : Int) : PyData := .tuple [.str (Str.ofString "fault"), .int p]
def wrongs : List (Str × Nat) := [(Str.ofString "", 0), (Str.ofString "/ >", 0), (Str.ofString " / >", 1), (Str.ofString " 5='1'>", 1), (Str.ofString " z>", 2), (Str.ofString " z='1", 4), (Str.ofString " z=1>", 3), (Str.ofString " z='<'>", 4),
  (Str.ofString " z='a" ++ ⟨#[1]⟩ ++ Str.ofString "'>", 5), (Str.ofString " z='1'y='2'>", 6), (Str.ofString " z='1' z='2'>", 7)]
theorem asc_app {a b : Str} (ha : Asc a) (hb : Asc b) : Asc (a ++ b) := fun c hc => by
  rw [Str.cps_append, Array.toList_append] at hc
  exact (List.mem_append.mp hc).elim (ha c) (hb c)
def ascB (a : Str) : Bool := a.cps.toList.all (fun c => decide (c < 128))
theorem asc_b {a : Str} (h : ascB a = true) : Asc a := fun c hc => of_decide_eq_true (List.all_eq_true.mp h c hc)
theorem asc_of {a : Str} {l : List Str} (m : a ∈ l) (h : l.all ascB = true) : Asc a := asc_b (List.all_eq_true.mp h a m)
theorem raws_asc {q r : Str} (h : r ∈ rawsOf q) : Asc r := by
  unfold rawsOf at h
  split at h
  · exact asc_of h (by decide)
  · exact asc_of h (by decide)
theorem built_keys {T₀ T : Str} {i : Nat} {ps : List PyData} {ws : List Str} (h : Built T₀ i T ps ws) : ∀ w ∈ ws, w ∈ keys4 := by
  induction h with
  | nil => exact fun _ h => h
  | snoc _ _ _ _ _ _ ih =>
    intro w hw
    rcases List.mem_append.mp hw with hw | hw
    · exact ih w (List.mem_append_left _ hw)
    · exact ih w (List.mem_append_right _ (.tail _ hw))
theorem built_asc {T₀ T : Str} {i : Nat} {ps : List PyData} {ws : List Str} (h0 : Asc T₀) (h : Built T₀ i T ps ws) : Asc T := by
  induction h with
  | nil => exact h0
  | snoc hb hs hq hg he hr ih =>
    have hk := asc_of (built_keys hb _ (List.mem_append_right _ (.head _))) (by decide)
    exact asc_app (asc_app (asc_app (asc_app (asc_app (asc_app (asc_app (asc_app ih (asc_of hs (by decide))) hk) (asc_of hg (by decide))) (asc_b (by decide))) (asc_of he (by decide))) (asc_of hq (by decide))) (raws_asc hr)) (asc_of hq (by decide))
theorem built_len {T₀ T : Str} {i : Nat} {ps : List PyData} {ws : List Str} (h : Built T₀ i T ps ws) : T₀.length ≤ T.length := by
  induction h with
  | nil => exact Nat.le_refl _
  | snoc hb hs hq hg he hr ih =>
    simp only [headOf, Str.length_append]
    omega
theorem strOk_asc {a : Str} (h : Asc a) : PyData.strOk a = true := by
  unfold PyData.strOk
  rw [Array.all_eq_true_iff_forall_mem]
  intro c hc
  have := h c (by simpa using hc)
  simp; omega
theorem built_ps {T₀ T : Str} {i : Nat} {ps : List PyData} {ws : List Str} (h : Built T₀ i T ps ws) : PyData.canLayAll0 ps = true ∧ PyData.depthAll ps ≤ 2 := by
  have app : ∀ (xs : List PyData) (d : PyData), PyData.canLayAll0 xs = true → d.canLay0 = true → PyData.canLayAll0 (xs ++ [d]) = true := fun xs d => by
    induction xs with
    | nil => intro _ h; simp [PyData.canLayAll0, h]
    | cons x xs ih => intro h1 h2; simp only [PyData.canLayAll0, Bool.and_eq_true, List.cons_append] at h1 ⊢; exact ⟨h1.1, ih h1.2 h2⟩
  have dep : ∀ (xs : List PyData) (d : PyData), PyData.depthAll xs ≤ 2 → d.depth ≤ 2 → PyData.depthAll (xs ++ [d]) ≤ 2 := fun xs d => by
    induction xs with
    | nil => intro _ h; simp [PyData.depthAll, h]
    | cons x xs ih => intro h1 h2; simp only [PyData.depthAll, List.cons_append] at h1 ⊢; have := ih (by omega) h2; omega
  induction h with
  | nil => exact ⟨rfl, by simp [PyData.depthAll]⟩
  | snoc hb hs hq hg he hr ih =>
    have hk := strOk_asc (asc_of (built_keys hb _ (List.mem_append_right _ (.head _))) (by decide))
    have hr' := strOk_asc (raws_asc hr)
    exact ⟨app _ _ ih.1 (by simp [pairD, PyData.canLay0, PyData.canLayAll0, hk, hr']), dep _ _ ih.2 (by simp [pairD, PyData.depth, PyData.depthAll])⟩
theorem shaped_due {T₀ T nm : Str} {i : Nat} {ps : List PyData} {ws : List Str} {b : Bool} {n : Int} (hn : nm ∈ tagNames) (h : Built T₀ i T ps ws) : SeqAt.shaped (dueD nm ps b n) = true := by
  obtain ⟨a, d⟩ := built_ps h
  have hk := strOk_asc (asc_of hn (by decide))
  unfold SeqAt.shaped dueD
  simp [PyData.canLay0, PyData.canLayAll0, PyData.depth, PyData.depthAll, hk, a]
  omega
def StartX (x : Str) (k : Int) : Prop := x.length ≤ 100000 ∧ 0 ≤ k ∧ k ≤ (x.length : Int) ∧ Asc x
theorem t_startX {w : World} {x : Str} {k : Int} (h : StartX x k) : Tells w 323 x k (StartOk x k) (StartErr x k) := t_start h.1 h.2.1 h.2.2.1 h.2.2.2
theorem len_of {a : Str} {l : List Str} {n : Nat} (m : a ∈ l) (h : (l.all fun w => decide (w.length ≤ n)) = true) : a.length ≤ n := of_decide_eq_true (List.all_eq_true.mp h a m)
theorem tag_asc {ahd nm : Str} (hah : ahd ∈ aheads) (hnm : nm ∈ tagNames) : Asc (ahd ++ Str.ofString "<" ++ nm) := asc_app (asc_app (asc_of hah (by decide)) (asc_b (by decide))) (asc_of hnm (by decide))
theorem startX_ok {ahd nm T gp tl : Str} {ps : List PyData} {ws : List Str} {i : Nat} {b : Bool} (hah : ahd ∈ aheads) (hnm : nm ∈ tagNames) (hB : Built (ahd ++ Str.ofString "<" ++ nm) i T ps ws) (hT : T.length ≤ 1000) (hg : gp ∈ gaps3) (ht : tl ∈ tails3) :
    StartX (T ++ gp ++ endOf b ++ tl) (ahd.length : Int) := by
  have l1 := len_of (n := 10) hg (by decide)
  have l2 := len_of (n := 10) ht (by decide)
  have l3 := built_len hB
  have l4 : (Str.ofString "<").length = 1 := rfl
  have l5 : (endOf b).length ≤ 10 := by cases b <;> decide
  have ae : Asc (endOf b) := by cases b <;> exact asc_b (by decide)
  refine ⟨?_, by omega, ?_, asc_app (asc_app (asc_app (built_asc (tag_asc hah hnm) hB) (asc_of hg (by decide))) ae) (asc_of ht (by decide))⟩
  · simp only [Str.length_append] at *; omega
  · simp only [Str.length_append] at *; omega
end Mine
end

-- PlainA
section
open PySem PySem.W PySem.W.X PyProof.Rows PySem.Calls PySem.Builtin PySem.Builtin.Str
namespace Mine
/-- at j of x there stands l -/
structure At (x : Str) (j : Int) (l : List Nat) : Prop where
  h0 : 0 ≤ j
  h1 : j ≤ (x.length : Int)
  rem : remT x j = l
theorem At.len {x : Str} {j : Int} {l : List Nat} (h : At x j l) : j + (l.length : Int) = (x.length : Int) := by
  have := remT_len h.h0 h.h1
  rw [h.rem] at this
  exact this
theorem remT_add {x : Str} {j : Int} {n : Nat} (h0 : 0 ≤ j) : remT x (j + (n : Int)) = (remT x j).drop n := by
  unfold remT
  rw [List.drop_drop]
  congr 1
  omega
theorem At.go {x : Str} {j : Int} {a l : List Nat} (h : At x j (a ++ l)) : At x (j + (a.length : Int)) l := by
  have e := h.len
  have z := h.h0
  rw [List.length_append] at e
  exact ⟨by omega, by omega, by rw [remT_add h.h0, h.rem, List.drop_left]⟩
theorem At.ch {x : Str} {j : Int} {c : Nat} {l : List Nat} (h : At x j (c :: l)) : j < (x.length : Int) ∧ chAt x j = c := by
  have e := h.len
  have lt : j < (x.length : Int) := by simp only [List.length_cons] at e; omega
  have r := remT_cons h.h0 lt
  rw [h.rem] at r
  exact ⟨lt, (List.cons.inj r).1.symm⟩
theorem At.nil_end {x : Str} {j : Int} (h : At x j []) : (x.length : Int) ≤ j := by
  have e := h.len
  simp at e
  omega
/-- a text behind j signs -/
theorem at_mid {a b : Str} : At (a ++ b) (a.length : Int) b.cps.toList := by
  refine ⟨by omega, ?_, ?_⟩
  · rw [Str.length_append]; omega
  · unfold remT
    rw [Str.cps_append, Array.toList_append, Int.toNat_natCast, len_cps, List.drop_left]
theorem okN_iff {x : Str} {j : Int} {c : Nat} {l : List Nat} (h : At x j (c :: l)) : okN x j ↔ isNs c = true := by
  unfold okN
  rw [h.ch.2]
  exact ⟨fun z => z.2, fun z => ⟨h.ch.1, z⟩⟩
theorem okN_nil {x : Str} {j : Int} (h : At x j []) : ¬ okN x j := fun z => by
  have := h.nil_end
  have := z.1
  omega
theorem okQ_iff {x : Str} {j : Int} {c : Nat} {l : List Nat} (h : At x j (c :: l)) : okQ x j ↔ (c = 34 ∨ c = 39) := by
  unfold okQ
  rw [h.ch.2]
  exact ⟨fun z => z.2, fun z => ⟨h.ch.1, z⟩⟩
theorem tw_app {p : Nat → Bool} : ∀ {a l : List Nat}, (∀ c ∈ a, p c = true) → (∀ c r, l = c :: r → p c = false) → (a ++ l).takeWhile p = a
  | [], [], _, _ => rfl
  | [], c :: r, _, h => by simp [List.takeWhile_cons, h c r rfl]
  | c :: a, l, h1, h2 => by
    rw [List.cons_append, List.takeWhile_cons, if_pos (h1 c (.head _)), tw_app (fun d hd => h1 d (.tail _ hd)) h2]
theorem spN_at {x : Str} {j : Int} {a l : List Nat} (h : At x j (a ++ l)) (h1 : ∀ c ∈ a, isSp c = true) (h2 : ∀ c r, l = c :: r → isSp c = false) : spN x j = a.length := by
  unfold spN; rw [h.rem, tw_app h1 h2]
theorem sEnd_at {x : Str} {j : Int} {a l : List Nat} (h : At x j (a ++ l)) (h1 : ∀ c ∈ a, isSp c = true) (h2 : ∀ c r, l = c :: r → isSp c = false) : sEnd x j = j + (a.length : Int) := by
  show j + (spN x j : Int) = _
  rw [spN_at h h1 h2]
theorem nEnd_at {x : Str} {j : Int} {c : Nat} {a l : List Nat} (h : At x j (c :: a ++ l)) (h1 : ∀ c ∈ a, isNc c = true) (h2 : ∀ c r, l = c :: r → isNc c = false) : nEnd x j = j + ((c :: a).length : Int) := by
  have h' : At x (j + 1) (a ++ l) := At.go (a := [c]) h
  show j + 1 + (ncN x (j + 1) : Int) = _
  have e : ncN x (j + 1) = a.length := by unfold ncN; rw [h'.rem, tw_app h1 h2]
  rw [e]
  simp only [List.length_cons]
  omega
theorem sw_iff {x wd : Str} {j : Int} {l : List Nat} (h : At x j l) : Txt.startswith3 x wd j = wd.cps.toList.isPrefixOf l := by
  unfold Txt.startswith3
  rw [fromIndex_in h.h0, StrLaws.subAt_eq]
  have e := h.len
  have r : x.cps.toList.drop j.toNat = l := h.rem
  rw [r]
  have z := h.h0
  rw [Bool.eq_iff_iff]
  simp only [Bool.and_eq_true, decide_eq_true_eq, beq_iff_eq, List.isPrefixOf_iff_prefix]
  have lw : wd.length = wd.cps.toList.length := len_cps wd
  constructor
  · rintro ⟨_, h2⟩
    have h2' : List.take wd.cps.toList.length l = wd.cps.toList := by rw [← lw]; exact h2
    have td := List.take_append_drop wd.cps.toList.length l
    rw [h2'] at td
    exact ⟨l.drop wd.cps.toList.length, td⟩
  · rintro ⟨t, rfl⟩
    refine ⟨?_, ?_⟩
    · simp only [List.length_append] at e; omega
    · rw [lw, List.take_left]
theorem slice_at {x : Str} {j : Int} {a l : List Nat} (h : At x j (a ++ l)) : Txt.slice x (some j) (some (j + (a.length : Int))) = ⟨a.toArray⟩ := by
  have e := h.len
  rw [List.length_append] at e
  rw [slice_cut ⟨h.h0, by omega, by omega⟩, h.rem, show (j + (a.length : Int) - j).toNat = a.length by omega, List.take_left]
theorem find_at {x : Str} {j : Int} {q : Nat} {a l : List Nat} (h : At x j (a ++ q :: l)) (h1 : ∀ c ∈ a, c ≠ q) : Txt.find3 x ⟨#[q]⟩ j = j + (a.length : Int) := by
  have e := h.len
  have z := h.h0
  rw [List.length_append, List.length_cons] at e
  have t : toQ x q j = a.length := by
    unfold toQ
    rw [h.rem, tw_app (fun c hc => by simp [h1 c hc]) (fun c r hc => by cases hc; simp)]
  rw [find3_one h.h0 h.h1, t, if_pos (by omega)]
theorem find_none {x : Str} {j : Int} {q : Nat} {l : List Nat} (h : At x j l) (h1 : ∀ c ∈ l, c ≠ q) : Txt.find3 x ⟨#[q]⟩ j = -1 := by
  have e := h.len
  have t : toQ x q j = l.length := by
    unfold toQ
    have := tw_app (p := (· != q)) (a := l) (l := []) (fun c hc => by simp [h1 c hc]) (fun c r hc => by cases hc)
    rw [List.append_nil] at this
    rw [h.rem, this]
  rw [find3_one h.h0 h.h1, t, if_neg (by omega)]
end Mine
end

-- PlainB
section
open PySem PySem.W PySem.W.X PyProof.Rows PySem.Calls PySem.Builtin PySem.Builtin.Str
namespace Mine
theorem sp_not_nc {c : Nat} (h : isSp c = true) : isNc c = false := by
  unfold isSp at h; unfold isNc
  have := of_decide_eq_true h
  exact decide_eq_false (by omega)
theorem chAt_mem {x : Str} {k : Int} (h0 : 0 ≤ k) (h1 : k < (x.length : Int)) : chAt x k ∈ x.cps.toList := by
  have := remT_cons h0 h1
  have m : chAt x k ∈ remT x k := by rw [this]; exact .head _
  exact List.mem_of_mem_drop m
theorem find_find3 (x y : Str) : Txt.find x y = Txt.find3 x y 0 := by
  unfold Txt.find3
  rw [fromIndex_in (Int.le_refl 0)]
  rfl
theorem at_zero (x : Str) : At x 0 x.cps.toList := ⟨Int.le_refl _, by omega, rfl⟩
/-- the parts of an attribute's text -/
structure SegOk (nm g e r : List Nat) (q : Nat) : Prop where
  hn : ∃ c a, nm = c :: a ∧ isNs c = true ∧ ∀ d ∈ a, isNc d = true
  hg : ∀ d ∈ g, isSp d = true
  he : ∀ d ∈ e, isSp d = true
  hq : q = 34 ∨ q = 39
  r1 : ∀ d ∈ r, d ≠ q
  r2 : ∀ d ∈ r, d ≠ 60
  r3 : ∀ d ∈ r, isCh d = true
structure AttrAt (x : Str) (j : Int) (nm g e r : List Nat) : Prop where
  ok : AttrOk x j
  aq : aQ x j = j + (nm.length : Int) + (g.length : Int) + 1 + (e.length : Int)
  af : aF x j = aQ x j + 1 + (r.length : Int)
  name : aName x j = ⟨nm.toArray⟩
  raw : aRaw x j = ⟨r.toArray⟩
  no : ∀ p, ¬ AttrErr x j p
theorem attr_at {x : Str} {j : Int} {nm g e r l : List Nat} {q : Nat} (S : SegOk nm g e r q) (h : At x j (nm ++ (g ++ (61 :: (e ++ (q :: (r ++ (q :: l)))))))) : AttrAt x j nm g e r := by
  obtain ⟨c, a, rfl, hc, ha⟩ := S.hn
  have hq : q = 34 ∨ q = 39 := S.hq
  have spq : isSp q = false := by unfold isSp; exact decide_eq_false (by omega)
  have oN : okN x j := (okN_iff (c := c) (l := a ++ (g ++ (61 :: (e ++ (q :: (r ++ (q :: l))))))) h).mpr hc
  have ne : nEnd x j = j + ((c :: a).length : Int) := nEnd_at h ha (fun d t hd => by
    cases g with
    | nil => cases hd; decide
    | cons d1 g1 => cases hd; exact sp_not_nc (S.hg _ (.head _)))
  have h1 : At x (nEnd x j) (g ++ (61 :: (e ++ (q :: (r ++ (q :: l)))))) := ne ▸ h.go
  have se : sEnd x (nEnd x j) = nEnd x j + (g.length : Int) := sEnd_at h1 S.hg (fun d t hd => by cases hd; decide)
  have h2 : At x (sEnd x (nEnd x j)) (61 :: (e ++ (q :: (r ++ (q :: l))))) := se ▸ h1.go
  have sw : Txt.startswith3 x (Str.ofString "=") (sEnd x (nEnd x j)) = true := by
    rw [sw_iff h2]; rfl
  have h3 : At x (sEnd x (nEnd x j) + 1) (e ++ (q :: (r ++ (q :: l)))) := At.go (a := [61]) h2
  have se2 : aQ x j = sEnd x (nEnd x j) + 1 + (e.length : Int) := sEnd_at h3 S.he (fun d t hd => by cases hd; exact spq)
  have h4 : At x (aQ x j) (q :: (r ++ (q :: l))) := se2 ▸ h3.go
  have oQ : okQ x (aQ x j) := (okQ_iff h4).mpr hq
  have cq : chAt x (aQ x j) = q := h4.ch.2
  have h5 : At x (aQ x j + 1) (r ++ (q :: l)) := At.go (a := [q]) h4
  have fe : aF x j = aQ x j + 1 + (r.length : Int) := by
    unfold aF; rw [cq]; exact find_at h5 S.r1
  have raw : aRaw x j = ⟨r.toArray⟩ := by
    unfold aRaw; rw [fe]; exact slice_at h5
  have name : aName x j = ⟨(c :: a).toArray⟩ := by
    unfold aName; rw [ne]; exact slice_at h
  have z0 := h4.h0
  have ff : ¬ aF x j < 0 := by rw [fe]; omega
  have lt : Txt.find (aRaw x j) (Str.ofString "<") < 0 := by
    rw [find_find3, raw]
    have := find_none (q := 60) (at_zero ⟨r.toArray⟩) (by simpa using S.r2)
    show Txt.find3 ⟨r.toArray⟩ ⟨#[60]⟩ 0 < 0
    rw [this]; decide
  have ch : ∀ i : Int, 0 ≤ i → i < ((aRaw x j).length : Int) → isCh (chAt (aRaw x j) i) = true := fun i h0 h1 => by
    have m := chAt_mem h0 h1
    rw [raw] at m ⊢
    exact S.r3 _ (by simpa using m)
  refine ⟨⟨oN, sw, oQ, ff, lt, ch⟩, by omega, fe, name, raw, fun p er => ?_⟩
  cases er with
  | n h => exact h oN
  | e _ h => rw [sw] at h; cases h
  | q _ _ h => exact h oQ
  | f _ _ _ h => exact ff h
  | l _ _ _ _ h => exact h lt
  | c i _ _ _ _ _ h0 h1 _ h => rw [ch i h0 h1] at h; cases h
end Mine
end

-- PlainC
section
open PySem PySem.W PySem.W.X PyProof.Rows PySem.Calls PySem.Builtin PySem.Builtin.Str
namespace Mine
def allB (p : Nat → Bool) (a : Str) : Bool := a.cps.toList.all p
theorem allB_of {p : Nat → Bool} {a : Str} {l : List Str} (m : a ∈ l) (h : l.all (allB p) = true) : ∀ d ∈ a.cps.toList, p d = true := fun d hd => List.all_eq_true.mp (List.all_eq_true.mp h a m) d hd
theorem quote_ch {q : Str} (h : q ∈ quotes) : ∃ c, q = ⟨#[c]⟩ ∧ (c = 34 ∨ c = 39) := by
  simp only [quotes, List.mem_cons, List.not_mem_nil, or_false] at h
  rcases h with rfl | rfl
  · exact ⟨34, rfl, .inl rfl⟩
  · exact ⟨39, rfl, .inr rfl⟩
def nameB (a : Str) : Bool := match a.cps.toList with
  | [] => false
  | c :: r => isNs c && r.all isNc
theorem nameB_of {a : Str} {l : List Str} (m : a ∈ l) (h : l.all nameB = true) : ∃ c r, a.cps.toList = c :: r ∧ isNs c = true ∧ ∀ d ∈ r, isNc d = true := by
  have := List.all_eq_true.mp h a m
  unfold nameB at this
  split at this
  · cases this
  · rename_i c r e
    simp only [Bool.and_eq_true, List.all_eq_true] at this
    exact ⟨c, r, e, this.1, this.2⟩
theorem raws_ok {c : Nat} {r : Str} (hc : c = 34 ∨ c = 39) (h : r ∈ rawsOf ⟨#[c]⟩) : (∀ d ∈ r.cps.toList, d ≠ c) ∧ (∀ d ∈ r.cps.toList, d ≠ 60) ∧ ∀ d ∈ r.cps.toList, isCh d = true := by
  rcases hc with rfl | rfl
  · have e : rawsOf ⟨#[34]⟩ = [Str.ofString "", Str.ofString "1", Str.ofString "a b", Str.ofString "&lt;", Str.ofString ">", Str.ofString "'", Str.ofString "/>"] := by decide
    rw [e] at h
    have := allB_of (p := fun d => d != 34 && d != 60 && isCh d) h (by decide)
    simp only [Bool.and_eq_true, bne_iff_ne, ne_eq] at this
    exact ⟨fun d hd => (this d hd).1.1, fun d hd => (this d hd).1.2, fun d hd => (this d hd).2⟩
  · have e : rawsOf ⟨#[39]⟩ = [Str.ofString "", Str.ofString "1", Str.ofString "a b", Str.ofString "&lt;", Str.ofString ">", Str.ofString "\"", Str.ofString "/>"] := by decide
    rw [e] at h
    have := allB_of (p := fun d => d != 39 && d != 60 && isCh d) h (by decide)
    simp only [Bool.and_eq_true, bne_iff_ne, ne_eq] at this
    exact ⟨fun d hd => (this d hd).1.1, fun d hd => (this d hd).1.2, fun d hd => (this d hd).2⟩
theorem seg_ok {nm g e r : Str} {c : Nat} (hc : c = 34 ∨ c = 39) (hn : nm ∈ keys4) (hg : g ∈ gaps) (he : e ∈ gaps2) (hr : r ∈ rawsOf ⟨#[c]⟩) : SegOk nm.cps.toList g.cps.toList e.cps.toList r.cps.toList c := by
  obtain ⟨r1, r2, r3⟩ := raws_ok hc hr
  exact ⟨nameB_of hn (by decide), allB_of hg (by decide), allB_of he (by decide), hc, r1, r2, r3⟩
/-- one attribute is read -/
theorem step_at {x : Str} {j : Int} {ss : List Int} {sp nm g e r l : List Nat} {q : Nat} (S : SegOk nm g e r q) (hs : ∀ d ∈ sp, isSp d = true) (hs1 : sp ≠ []) (h : At x j (sp ++ (nm ++ (g ++ (61 :: (e ++ (q :: (r ++ (q :: l))))))))) (fr : ∀ t ∈ ss, aName x t ≠ ⟨nm.toArray⟩) :
    (∀ rs b z, TagRun x j ss rs b z → TagRun x (aF x (j + (sp.length : Int)) + 1) (ss ++ [j + (sp.length : Int)]) rs b z) ∧ (∀ p, TagErr x j ss p → TagErr x (aF x (j + (sp.length : Int)) + 1) (ss ++ [j + (sp.length : Int)]) p) ∧ AttrAt x (j + (sp.length : Int)) nm g e r := by
  obtain ⟨c, a, hn, hc, ha⟩ := S.hn
  have nsp : isSp c = false := by
    unfold isNs at hc; unfold isSp
    have := of_decide_eq_true hc
    exact decide_eq_false (by omega)
  have c47 : c ≠ 47 := by
    unfold isNs at hc
    have := of_decide_eq_true hc
    omega
  have c62 : c ≠ 62 := by
    unfold isNs at hc
    have := of_decide_eq_true hc
    omega
  have bd : ∀ d t, (nm ++ (g ++ (61 :: (e ++ (q :: (r ++ (q :: l))))))) = d :: t → isSp d = false := fun d t hd => by
    rw [hn] at hd; cases hd; exact nsp
  have n1 := spN_at h hs bd
  have s1 : sEnd x j = j + (sp.length : Int) := sEnd_at h hs bd
  have h2 : At x (j + (sp.length : Int)) (nm ++ (g ++ (61 :: (e ++ (q :: (r ++ (q :: l))))))) := h.go
  have A := attr_at S h2
  have pos : 0 < spN x j := by rw [n1]; exact List.length_pos_iff.mpr hs1
  have f1 : swS x j = false := by
    unfold swS
    rw [s1, sw_iff h2, hn]
    show ([47, 62] : List Nat).isPrefixOf (c :: _) = false
    simp [List.isPrefixOf, Ne.symm c47]
  have f2 : swG x j = false := by
    unfold swG
    rw [s1, sw_iff h2, hn]
    show ([62] : List Nat).isPrefixOf (c :: _) = false
    simp [List.isPrefixOf, Ne.symm c62]
  refine ⟨fun rs b z R => ?_, fun p R => ?_, A⟩
  · cases R with
    | slash h => rw [f1] at h; cases h
    | angle _ h => rw [f2] at h; cases h
    | more _ _ _ _ _ R => rw [s1] at R; exact R
  · cases R with
    | gap _ _ h => omega
    | attr _ _ _ h => rw [s1] at h; exact (A.no _ h).elim
    | twice _ _ _ _ h =>
      obtain ⟨t, ht, e⟩ := h
      rw [s1, A.name] at e
      exact (fr t ht e).elim
    | more _ _ _ _ _ R => rw [s1] at R; exact R
end Mine
end

-- PlainD
section
open PySem PySem.W PySem.W.X PyProof.Rows PySem.Calls PySem.Builtin PySem.Builtin.Str
namespace Mine
theorem built_nodup {T₀ T : Str} {i : Nat} {ps : List PyData} {ws : List Str} (h : Built T₀ i T ps ws) : ws.Nodup := by
  induction h with
  | nil => decide
  | snoc _ _ _ _ _ _ ih =>
    rw [List.nodup_append] at ih ⊢
    obtain ⟨a, b, c⟩ := ih
    exact ⟨a, (List.nodup_cons.mp b).2, fun x hx y hy => c x hx y (.tail _ hy)⟩
theorem toArray_cps (a : Str) : (⟨a.cps.toList.toArray⟩ : Str) = a := by cases a; simp
/-- what is read of a built text, whatever follows -/
theorem built_read {T₀ T : Str} {i : Nat} {ps : List PyData} {ws : List Str} (hB : Built T₀ i T ps ws) : ∀ tl : Str, ∃ ss : List Int, ss.map (attrD (T ++ tl)) = ps ∧ (∀ t ∈ ss, aName (T ++ tl) t ∈ keys4 ∧ aName (T ++ tl) t ∉ ws) ∧
    (∀ rs b z, TagRun (T ++ tl) (T₀.length : Int) [] rs b z → TagRun (T ++ tl) (T.length : Int) ss rs b z) ∧ (∀ p, TagErr (T ++ tl) (T₀.length : Int) [] p → TagErr (T ++ tl) (T.length : Int) ss p) := by
  induction hB with
  | nil => exact fun tl => ⟨[], rfl, (fun t h => nomatch h), (fun _ _ _ h => h), fun _ h => h⟩
  | @snoc i T ps pw qw nm sp g e q r hB hs hq hg he hr ih =>
    intro tl
    obtain ⟨c, rfl, hc⟩ := quote_ch hq
    have ex : headOf (T ++ sp) nm g e ⟨#[c]⟩ ++ r ++ ⟨#[c]⟩ ++ tl = T ++ (sp ++ (nm ++ (g ++ (Str.ofString "=" ++ (e ++ (⟨#[c]⟩ ++ (r ++ (⟨#[c]⟩ ++ tl)))))))) := by
      simp only [headOf, Str.append_assoc]
    rw [ex]
    obtain ⟨ss, h1, h2, h3, h4⟩ := ih (sp ++ (nm ++ (g ++ (Str.ofString "=" ++ (e ++ (⟨#[c]⟩ ++ (r ++ (⟨#[c]⟩ ++ tl))))))))
    have hk := built_keys hB
    have nmk : nm ∈ keys4 := hk _ (List.mem_append_right _ (.head _))
    have S := seg_ok hc nmk hg he hr
    have sps : ∀ d ∈ sp.cps.toList, isSp d = true := allB_of hs (by decide)
    have sp1 : sp.cps.toList ≠ [] := by
      simp only [spcs, List.mem_cons, List.not_mem_nil, or_false] at hs
      rcases hs with rfl | rfl | rfl | rfl <;> decide
    have hA := at_mid (a := T) (b := sp ++ (nm ++ (g ++ (Str.ofString "=" ++ (e ++ (⟨#[c]⟩ ++ (r ++ (⟨#[c]⟩ ++ tl))))))))
    have eqs : (Str.ofString "=").cps.toList = [61] := rfl
    simp only [Str.cps_append, Array.toList_append, eqs, List.cons_append, List.nil_append] at hA
    have nd := built_nodup hB
    have fr : ∀ t ∈ ss, aName (T ++ (sp ++ (nm ++ (g ++ (Str.ofString "=" ++ (e ++ (⟨#[c]⟩ ++ (r ++ (⟨#[c]⟩ ++ tl))))))))) t ≠ ⟨nm.cps.toList.toArray⟩ := fun t ht z => by
      have := (h2 t ht).2
      rw [z, toArray_cps] at this
      exact this (List.mem_append_right _ (.head _))
    obtain ⟨s1, s2, A⟩ := step_at S sps sp1 hA fr
    have ln := A.af
    have lq := A.aq
    have l1 := len_cps nm
    have l2 := len_cps g
    have l3 := len_cps e
    have l4 := len_cps r
    have l5 := len_cps sp
    have le : (Str.ofString "=").length = 1 := rfl
    have lc : (⟨#[c]⟩ : Str).length = 1 := rfl
    generalize T ++ (sp ++ (nm ++ (g ++ (Str.ofString "=" ++ (e ++ (⟨#[c]⟩ ++ (r ++ (⟨#[c]⟩ ++ tl)))))))) = X at *
    have tot : aF X ((T.length : Int) + (sp.cps.toList.length : Int)) + 1 = ((headOf (T ++ sp) nm g e ⟨#[c]⟩ ++ r ++ ⟨#[c]⟩).length : Int) := by
      rw [ln, lq]
      simp only [headOf, Str.length_append, le, lc, l1, l2, l3, l4, l5]
      omega
    rw [tot] at s1 s2
    refine ⟨ss ++ [(T.length : Int) + (sp.cps.toList.length : Int)], ?_, ?_, fun rs b z R => s1 rs b z (h3 rs b z R), fun p R => s2 p (h4 p R)⟩
    · rw [List.map_append, h1]
      congr 1
      simp only [List.map_cons, List.map_nil]
      congr 1
      unfold attrD pairD
      rw [A.name, A.raw, toArray_cps, toArray_cps, lq]
      congr 2
      have : (T.length : Int) + (sp.cps.toList.length : Int) + (nm.cps.toList.length : Int) + (g.cps.toList.length : Int) + 1 + (e.cps.toList.length : Int) + 1 = ((hLen (T ++ sp) nm g e ⟨#[c]⟩ : Nat) : Int) := by
        simp only [hLen, Str.length_append, le, lc, l1, l2, l3, l4, l5]
        omega
      rw [this]
    · intro t ht
      rcases List.mem_append.mp ht with ht | ht
      · refine ⟨(h2 t ht).1, fun z => (h2 t ht).2 ?_⟩
        rcases List.mem_append.mp z with z | z
        · exact List.mem_append_left _ z
        · exact List.mem_append_right _ (.tail _ z)
      · rw [List.mem_singleton.mp ht, A.name, toArray_cps]
        refine ⟨nmk, fun z => ?_⟩
        rw [List.nodup_append] at nd
        obtain ⟨_, b, d⟩ := nd
        rcases List.mem_append.mp z with z | z
        · exact d _ z _ (.head _) rfl
        · exact (List.nodup_cons.mp b).1 z
end Mine
end

-- PlainE
section
open PySem PySem.W PySem.W.X PyProof.Rows PySem.Calls PySem.Builtin PySem.Builtin.Str
namespace Mine
theorem built_from {T₀ T : Str} {i : Nat} {ps : List PyData} {ws : List Str} (hB : Built T₀ i T ps ws) : ∃ u : Str, T = T₀ ++ u ∧ (∀ c r, u.cps.toList = c :: r → isSp c = true) := by
  induction hB with
  | nil => exact ⟨⟨#[]⟩, by apply Str.ext'; simp [Str.cps_append], fun c r h => by simp at h⟩
  | @snoc i T ps pw qw nm sp g e q r hB hs hq hg he hr ih =>
    obtain ⟨u, rfl, hu⟩ := ih
    refine ⟨u ++ (sp ++ (nm ++ (g ++ (Str.ofString "=" ++ (e ++ (q ++ (r ++ q))))))), by simp only [headOf, Str.append_assoc], fun c t h => ?_⟩
    rw [Str.cps_append, Array.toList_append] at h
    cases hu' : u.cps.toList with
    | cons d v =>
      rw [hu'] at h
      cases h
      exact hu _ _ hu'
    | nil =>
      rw [hu', List.nil_append, Str.cps_append, Array.toList_append] at h
      have sps : ∀ d ∈ sp.cps.toList, isSp d = true := allB_of hs (by decide)
      have sp1 : sp.cps.toList ≠ [] := by
        simp only [spcs, List.mem_cons, List.not_mem_nil, or_false] at hs
        rcases hs with rfl | rfl | rfl | rfl <;> decide
      cases hsp : sp.cps.toList with
      | nil => exact (sp1 hsp).elim
      | cons d v =>
        rw [hsp] at h sps
        cases h
        exact sps _ (.head _)
/-- the opening of a tag is read -/
theorem open_read {ahd nm T tl : Str} {ps : List PyData} {ws : List Str} {i : Nat} (hnm : nm ∈ tagNames) (hB : Built (ahd ++ Str.ofString "<" ++ nm) i T ps ws) (ht : ∀ c r, tl.cps.toList = c :: r → isNc c = false) :
    Txt.startswith3 (T ++ tl) (Str.ofString "<") (ahd.length : Int) = true ∧ okN (T ++ tl) ((ahd.length : Int) + 1) ∧ nEnd (T ++ tl) ((ahd.length : Int) + 1) = ((ahd ++ Str.ofString "<" ++ nm).length : Int) ∧ aName (T ++ tl) ((ahd.length : Int) + 1) = nm := by
  obtain ⟨u, rfl, hu⟩ := built_from hB
  obtain ⟨c, a, hn, hc, ha⟩ := nameB_of (a := nm) hnm (by decide)
  have ex : ahd ++ Str.ofString "<" ++ nm ++ u ++ tl = ahd ++ (Str.ofString "<" ++ (nm ++ (u ++ tl))) := by simp only [Str.append_assoc]
  rw [ex]
  have h := at_mid (a := ahd) (b := Str.ofString "<" ++ (nm ++ (u ++ tl)))
  have eqs : (Str.ofString "<").cps.toList = [60] := rfl
  have l1 : (Str.ofString "<").length = 1 := rfl
  have ln := len_cps nm
  have lu : ∀ d t, (u ++ tl).cps.toList = d :: t → isNc d = false := fun d t hd => by
    rw [Str.cps_append, Array.toList_append] at hd
    cases hu' : u.cps.toList with
    | nil => rw [hu', List.nil_append] at hd; exact ht _ _ hd
    | cons d' v => rw [hu'] at hd; cases hd; exact sp_not_nc (hu _ _ hu')
  rw [Str.cps_append, Array.toList_append, eqs, Str.cps_append (a := nm), Array.toList_append, hn] at h
  generalize ahd ++ (Str.ofString "<" ++ (nm ++ (u ++ tl))) = X at *
  generalize (u ++ tl).cps.toList = Y at *
  have h1 : At X ((ahd.length : Int) + 1) (c :: a ++ Y) := At.go (a := [60]) h
  refine ⟨?_, (okN_iff (l := a ++ Y) h1).mpr hc, ?_, ?_⟩
  · rw [sw_iff h]; rfl
  · rw [nEnd_at h1 ha lu]
    simp only [Str.length_append, l1, ln, hn]
    omega
  · unfold aName
    rw [nEnd_at h1 ha lu, slice_at h1, ← hn, toArray_cps]
/-- the end of a tag is read -/
theorem end_read {x : Str} {j : Int} {ss : List Int} {gap tail : Str} {b : Bool} (hg : gap ∈ gaps3) (h : At x j (gap ++ endOf b ++ tail).cps.toList) :
    (∀ rs b' e, TagRun x j ss rs b' e → rs = ss ∧ b' = b ∧ e = j + (gap.length : Int) + ((endOf b).length : Int)) ∧ ∀ p, ¬ TagErr x j ss p := by
  have gs : ∀ d ∈ gap.cps.toList, isSp d = true := allB_of hg (by decide)
  have lg := len_cps gap
  rw [Str.cps_append, Array.toList_append, Str.cps_append, Array.toList_append, List.append_assoc] at h
  cases b with
  | true =>
    have eb : (endOf true).cps.toList = [47, 62] := rfl
    have lb : (endOf true).length = 2 := rfl
    rw [eb] at h
    have s1 := sEnd_at h gs (fun d t hd => by cases hd; decide)
    have h2 := h.go
    have f1 : swS x j = true := by
      unfold swS
      rw [s1, sw_iff h2]
      show ([47, 62] : List Nat).isPrefixOf (47 :: 62 :: _) = true
      simp [List.isPrefixOf]
    refine ⟨fun rs b' e R => ?_, fun p R => ?_⟩
    · cases R with
      | slash _ => exact ⟨rfl, rfl, by rw [s1, lb, lg]; rfl⟩
      | angle h _ => rw [f1] at h; cases h
      | more h _ _ _ _ _ => rw [f1] at h; cases h
    · cases R with
      | gap h _ _ => rw [f1] at h; cases h
      | attr h _ _ _ => rw [f1] at h; cases h
      | twice h _ _ _ _ => rw [f1] at h; cases h
      | more h _ _ _ _ _ => rw [f1] at h; cases h
  | false =>
    have eb : (endOf false).cps.toList = [62] := rfl
    have lb : (endOf false).length = 1 := rfl
    rw [eb] at h
    have s1 := sEnd_at h gs (fun d t hd => by cases hd; decide)
    have h2 := h.go
    have f1 : swS x j = false := by
      unfold swS
      rw [s1, sw_iff h2]
      show ([47, 62] : List Nat).isPrefixOf (62 :: _) = false
      simp [List.isPrefixOf]
    have f2 : swG x j = true := by
      unfold swG
      rw [s1, sw_iff h2]
      show ([62] : List Nat).isPrefixOf (62 :: _) = true
      simp [List.isPrefixOf]
    refine ⟨fun rs b' e R => ?_, fun p R => ?_⟩
    · cases R with
      | slash h => rw [f1] at h; cases h
      | angle _ _ => exact ⟨rfl, rfl, by rw [s1, lb, lg]; rfl⟩
      | more _ h _ _ _ _ => rw [f2] at h; cases h
    · cases R with
      | gap _ h _ => rw [f2] at h; cases h
      | attr _ h _ _ => rw [f2] at h; cases h
      | twice _ h _ _ _ => rw [f2] at h; cases h
      | more _ h _ _ _ _ => rw [f2] at h; cases h
theorem tail_nc {gap tail : Str} {b : Bool} (hg : gap ∈ gaps3) : ∀ c r, (gap ++ endOf b ++ tail).cps.toList = c :: r → isNc c = false := fun c r h => by
  have gs : ∀ d ∈ gap.cps.toList, isSp d = true := allB_of hg (by decide)
  rw [Str.cps_append, Array.toList_append, Str.cps_append, Array.toList_append, List.append_assoc] at h
  cases hgp : gap.cps.toList with
  | cons d v => rw [hgp] at h gs; cases h; exact sp_not_nc (gs _ (.head _))
  | nil =>
    rw [hgp, List.nil_append] at h
    cases b with
    | true => have eb : (endOf true).cps.toList = [47, 62] := rfl; rw [eb] at h; cases h; decide
    | false => have eb : (endOf false).cps.toList = [62] := rfl; rw [eb] at h; cases h; decide
theorem plain_ok {ahd nm T gap tail : Str} {ps : List PyData} {ws : List Str} {i : Nat} {b : Bool} {dat : PyData} (hnm : nm ∈ tagNames) (hB : Built (ahd ++ Str.ofString "<" ++ nm) i T ps ws) (hg : gap ∈ gaps3)
    (H : Heard (StartOk (T ++ gap ++ endOf b ++ tail) (ahd.length : Int)) (StartErr (T ++ gap ++ endOf b ++ tail) (ahd.length : Int)) dat) : dat = dueD nm ps b ((T.length + gap.length + (endOf b).length : Nat) : Int) := by
  have ex : T ++ gap ++ endOf b ++ tail = T ++ (gap ++ endOf b ++ tail) := by simp only [Str.append_assoc]
  rw [ex] at H
  obtain ⟨o1, o2, o3, o4⟩ := open_read (tl := gap ++ endOf b ++ tail) hnm hB (tail_nc hg)
  obtain ⟨ss, h1, _, h3, h4⟩ := built_read hB (gap ++ endOf b ++ tail)
  have hA := at_mid (a := T) (b := gap ++ endOf b ++ tail)
  obtain ⟨e1, e2⟩ := end_read (ss := ss) hg hA
  rcases H with ⟨r, e, ⟨rs, b', _, _, R, rfl⟩, rfl⟩ | ⟨p, er, rfl⟩
  · rw [o3] at R
    obtain ⟨rfl, rfl, rfl⟩ := e1 _ _ _ (h3 _ _ _ R)
    rw [o4, h1]
    unfold dueD
    congr 3
  · rcases er with ⟨z, _⟩ | ⟨_, z, _⟩ | ⟨_, _, z⟩
    · rw [o1] at z; cases z
    · exact (z o2).elim
    · rw [o3] at z
      exact (e2 _ (h4 _ z)).elim
end Mine
end

-- PlainF
section
open PySem PySem.W PySem.W.X PyProof.Rows PySem.Calls PySem.Builtin PySem.Builtin.Str
namespace Mine
/-- the only end of the reading is a fault at p -/
def Only (x : Str) (j : Int) (ss : List Int) (p : Int) : Prop := (∀ rs b e, ¬ TagRun x j ss rs b e) ∧ ∀ p', TagErr x j ss p' → p' = p
def AOnly (x : Str) (s p : Int) : Prop := ¬ AttrOk x s ∧ ∀ p', AttrErr x s p' → p' = p
section
variable {x : Str} {j s p : Int} {ss : List Int}
theorem only_gap (f1 : swS x j = false) (f2 : swG x j = false) (n : spN x j = 0) : Only x j ss j := by
  have e : sEnd x j = j := by show j + (spN x j : Int) = j; omega
  refine ⟨fun rs b z R => ?_, fun p' R => ?_⟩
  · cases R with
    | slash h => rw [f1] at h; cases h
    | angle _ h => rw [f2] at h; cases h
    | more _ _ h _ _ _ => omega
  · cases R with
    | gap _ _ _ => exact e
    | attr _ _ h _ => omega
    | twice _ _ h _ _ => omega
    | more _ _ h _ _ _ => omega
theorem only_attr (f1 : swS x j = false) (f2 : swG x j = false) (n : 0 < spN x j) (A : AOnly x (sEnd x j) p) : Only x j ss p := by
  refine ⟨fun rs b z R => ?_, fun p' R => ?_⟩
  · cases R with
    | slash h => rw [f1] at h; cases h
    | angle _ h => rw [f2] at h; cases h
    | more _ _ _ h _ _ => exact A.1 h
  · cases R with
    | gap _ _ h => omega
    | attr _ _ _ h => exact A.2 _ h
    | twice _ _ _ h _ => exact (A.1 h).elim
    | more _ _ _ h _ _ => exact (A.1 h).elim
theorem only_twice (f1 : swS x j = false) (f2 : swG x j = false) (n : 0 < spN x j) (no : ∀ p, ¬ AttrErr x (sEnd x j) p) (tw : ∃ t ∈ ss, aName x t = aName x (sEnd x j)) : Only x j ss (sEnd x j) := by
  obtain ⟨t, ht, e⟩ := tw
  refine ⟨fun rs b z R => ?_, fun p' R => ?_⟩
  · cases R with
    | slash h => rw [f1] at h; cases h
    | angle _ h => rw [f2] at h; cases h
    | more _ _ _ _ h _ => exact h t ht e
  · cases R with
    | gap _ _ h => omega
    | attr _ _ _ h => exact (no _ h).elim
    | twice _ _ _ _ _ => rfl
    | more _ _ _ _ h _ => exact (h t ht e).elim
theorem only_more (f1 : swS x j = false) (f2 : swG x j = false) (n : 0 < spN x j) (no : ∀ p, ¬ AttrErr x (sEnd x j) p) (fr : ∀ t ∈ ss, aName x t ≠ aName x (sEnd x j)) (O : Only x (aF x (sEnd x j) + 1) (ss ++ [sEnd x j]) p) : Only x j ss p := by
  refine ⟨fun rs b z R => ?_, fun p' R => ?_⟩
  · cases R with
    | slash h => rw [f1] at h; cases h
    | angle _ h => rw [f2] at h; cases h
    | more _ _ _ _ _ R => exact O.1 _ _ _ R
  · cases R with
    | gap _ _ h => omega
    | attr _ _ _ h => exact (no _ h).elim
    | twice _ _ _ _ h =>
      obtain ⟨t, ht, e⟩ := h
      exact (fr t ht e).elim
    | more _ _ _ _ _ R => exact O.2 _ R
theorem a_n (h : ¬ okN x s) : AOnly x s s := by
  refine ⟨fun z => ?_, fun p' R => ?_⟩
  · exact h z.1
  cases R with
  | n _ => rfl
  | e z _ => exact (h z).elim
  | q z _ _ => exact (h z).elim
  | f z _ _ _ => exact (h z).elim
  | l z _ _ _ _ => exact (h z).elim
  | c i z _ _ _ _ _ _ _ _ => exact (h z).elim
theorem a_e (h : okN x s) (w : Txt.startswith3 x (Str.ofString "=") (sEnd x (nEnd x s)) = false) : AOnly x s (sEnd x (nEnd x s)) := by
  refine ⟨fun z => ?_, fun p' R => ?_⟩
  · rw [z.2.1] at w; cases w
  cases R with
  | n z => exact (z h).elim
  | e _ _ => rfl
  | q _ z _ => rw [z] at w; cases w
  | f _ z _ _ => rw [z] at w; cases w
  | l _ z _ _ _ => rw [z] at w; cases w
  | c i _ z _ _ _ _ _ _ _ => rw [z] at w; cases w
theorem a_q (h : okN x s) (w : Txt.startswith3 x (Str.ofString "=") (sEnd x (nEnd x s)) = true) (q : ¬ okQ x (aQ x s)) : AOnly x s (aQ x s) := by
  refine ⟨fun z => ?_, fun p' R => ?_⟩
  · exact q z.2.2.1
  cases R with
  | n z => exact (z h).elim
  | e _ z => rw [w] at z; cases z
  | q _ _ _ => rfl
  | f _ _ z _ => exact (q z).elim
  | l _ _ z _ _ => exact (q z).elim
  | c i _ _ z _ _ _ _ _ _ => exact (q z).elim
theorem a_f (h : okN x s) (w : Txt.startswith3 x (Str.ofString "=") (sEnd x (nEnd x s)) = true) (q : okQ x (aQ x s)) (f : aF x s < 0) : AOnly x s (aQ x s + 1) := by
  refine ⟨fun z => ?_, fun p' R => ?_⟩
  · exact z.2.2.2.1 f
  cases R with
  | n z => exact (z h).elim
  | e _ z => rw [w] at z; cases z
  | q _ _ z => exact (z q).elim
  | f _ _ _ _ => rfl
  | l _ _ _ z _ => exact (z f).elim
  | c i _ _ _ z _ _ _ _ _ => exact (z f).elim
theorem a_l (h : okN x s) (w : Txt.startswith3 x (Str.ofString "=") (sEnd x (nEnd x s)) = true) (q : okQ x (aQ x s)) (f : ¬ aF x s < 0) (l : ¬ Txt.find (aRaw x s) (Str.ofString "<") < 0) : AOnly x s (aQ x s + 1 + Txt.find (aRaw x s) (Str.ofString "<")) := by
  refine ⟨fun z => ?_, fun p' R => ?_⟩
  · exact l z.2.2.2.2.1
  cases R with
  | n z => exact (z h).elim
  | e _ z => rw [w] at z; cases z
  | q _ _ z => exact (z q).elim
  | f _ _ _ z => exact (f z).elim
  | l _ _ _ _ _ => rfl
  | c i _ _ _ _ z _ _ _ _ => exact (l z).elim
theorem a_c (i : Int) (h : okN x s) (w : Txt.startswith3 x (Str.ofString "=") (sEnd x (nEnd x s)) = true) (q : okQ x (aQ x s)) (f : ¬ aF x s < 0) (l : Txt.find (aRaw x s) (Str.ofString "<") < 0) (i0 : 0 ≤ i) (i1 : i < ((aRaw x s).length : Int)) (hb : ∀ k : Int, 0 ≤ k → k < i → isCh (chAt (aRaw x s) k) = true) (hi : isCh (chAt (aRaw x s) i) = false) :
    AOnly x s (aQ x s + 1 + i) := by
  refine ⟨fun z => ?_, fun p' R => ?_⟩
  · rw [z.2.2.2.2.2 i i0 i1] at hi; cases hi
  cases R with
  | n z => exact (z h).elim
  | e _ z => rw [w] at z; cases z
  | q _ _ z => exact (z q).elim
  | f _ _ _ z => exact (f z).elim
  | l _ _ _ _ z => exact (z l).elim
  | c k _ _ _ _ _ k0 k1 kb kn =>
    have e : k = i := by
      rcases Int.lt_trichotomy k i with g | g | g
      · rw [hb k k0 g] at kn; cases kn
      · exact g
      · rw [kb i i0 g] at hi; cases hi
    rw [e]
end
end Mine
end

-- PlainG
section
open PySem PySem.W PySem.W.X PyProof.Rows PySem.Calls PySem.Builtin PySem.Builtin.Str
namespace Mine
section
variable {x : Str} {j : Int} {ss : List Int}
theorem lead {a l : List Nat} (h : At x j (a ++ l)) (ha : ∀ c ∈ a, isSp c = true) (hl : ∀ c r, l = c :: r → isSp c = false) :
    sEnd x j = j + (a.length : Int) ∧ spN x j = a.length ∧ swS x j = ([47, 62] : List Nat).isPrefixOf l ∧ swG x j = ([62] : List Nat).isPrefixOf l ∧ At x (j + (a.length : Int)) l := by
  have s1 := sEnd_at h ha hl
  have h2 := h.go
  refine ⟨s1, spN_at h ha hl, ?_, ?_, h2⟩
  · unfold swS; rw [s1, sw_iff h2]; rfl
  · unfold swG; rw [s1, sw_iff h2]; rfl
theorem bad1 (h : At x j []) : Only x j ss j := by
  obtain ⟨_, n, f1, f2, _⟩ := lead (a := []) (l := []) h (by decide) (fun c r z => by cases z)
  exact only_gap f1 f2 n
theorem bad2 (h : At x j [47, 32, 62]) : Only x j ss j := by
  obtain ⟨_, n, f1, f2, _⟩ := lead (a := []) h (by decide) (fun c r z => by cases z; decide)
  exact only_gap f1 f2 n
theorem bad3 (h : At x j [32, 47, 32, 62]) : Only x j ss (j + 1) := by
  obtain ⟨s, n, f1, f2, h2⟩ := lead (a := [32]) (l := [47, 32, 62]) h (by decide) (fun c r z => by cases z; decide)
  refine only_attr f1 f2 (by rw [n]; decide) ?_
  rw [s]
  exact a_n (fun z => by have := (okN_iff h2).mp z; revert this; decide)
theorem bad4 (h : At x j [32, 53, 61, 39, 49, 39, 62]) : Only x j ss (j + 1) := by
  obtain ⟨s, n, f1, f2, h2⟩ := lead (a := [32]) (l := [53, 61, 39, 49, 39, 62]) h (by decide) (fun c r z => by cases z; decide)
  refine only_attr f1 f2 (by rw [n]; decide) ?_
  rw [s]
  exact a_n (fun z => by have := (okN_iff h2).mp z; revert this; decide)
/-- the name z is read -/
theorem z_name {s : Int} {l : List Nat} (h : At x s (122 :: l)) (hl : ∀ c r, l = c :: r → isNc c = false) (hl2 : ∀ c r, l = c :: r → isSp c = false) : okN x s ∧ nEnd x s = s + 1 ∧ sEnd x (nEnd x s) = s + 1 ∧ At x (s + 1) l ∧ aName x s = ⟨#[122]⟩ := by
  have e := nEnd_at (c := 122) (a := []) (l := l) h (by decide) hl
  have e' : nEnd x s = s + 1 := by rw [e]; rfl
  have h2 : At x (s + 1) l := At.go (a := [122]) h
  have h3 : At x (nEnd x s) ([] ++ l) := by rw [e']; exact h2
  have e2 := sEnd_at (a := []) h3 (by decide) hl2
  refine ⟨(okN_iff h).mpr (by decide), e', by rw [e2, e']; simp, h2, ?_⟩
  unfold aName
  rw [e']
  exact slice_at (a := [122]) (l := l) h
theorem bad5 (h : At x j [32, 122, 62]) : Only x j ss (j + 2) := by
  obtain ⟨s, n, f1, f2, h2⟩ := lead (a := [32]) (l := [122, 62]) h (by decide) (fun c r z => by cases z; decide)
  obtain ⟨o, _, e2, h3, _⟩ := z_name h2 (fun c r z => by cases z; decide) (fun c r z => by cases z; decide)
  refine only_attr f1 f2 (by rw [n]; decide) ?_
  rw [s]
  have := a_e o (by rw [e2, sw_iff h3]; rfl)
  rw [e2] at this
  rwa [show j + 2 = j + ((([32] : List Nat).length : Nat) : Int) + 1 by simp; omega]
/-- z, an equals sign -/
theorem z_eq {s : Int} {c : Nat} {l : List Nat} (h : At x s (122 :: 61 :: c :: l)) (hc : isSp c = false) : okN x s ∧ Txt.startswith3 x (Str.ofString "=") (sEnd x (nEnd x s)) = true ∧ aQ x s = s + 2 ∧ At x (aQ x s) (c :: l) ∧ aName x s = ⟨#[122]⟩ := by
  obtain ⟨o, _, e2, h3, nm⟩ := z_name h (fun c r z => by cases z; decide) (fun c r z => by cases z; decide)
  have h4 : At x (s + 1 + 1) ([] ++ c :: l) := At.go (a := [61]) h3
  have e3 := sEnd_at (a := []) h4 (by decide) (fun d r z => by cases z; exact hc)
  have aq : aQ x s = s + 2 := by
    unfold aQ; rw [e2, e3]; simp; omega
  refine ⟨o, by rw [e2, sw_iff h3]; rfl, aq, ?_, nm⟩
  rw [aq, show s + 2 = s + 1 + 1 by omega]
  exact h4
theorem bad7 (h : At x j [32, 122, 61, 49, 62]) : Only x j ss (j + 3) := by
  obtain ⟨s, n, f1, f2, h2⟩ := lead (a := [32]) (l := [122, 61, 49, 62]) h (by decide) (fun c r z => by cases z; decide)
  obtain ⟨o, w, aq, h3, _⟩ := z_eq h2 (by decide)
  refine only_attr f1 f2 (by rw [n]; decide) ?_
  rw [s]
  have := a_q o w (fun z => by have := (okQ_iff h3).mp z; omega)
  rw [aq] at this
  rwa [show j + 3 = j + ((([32] : List Nat).length : Nat) : Int) + 2 by simp; omega]
theorem bad6 (h : At x j [32, 122, 61, 39, 49]) : Only x j ss (j + 4) := by
  obtain ⟨s, n, f1, f2, h2⟩ := lead (a := [32]) (l := [122, 61, 39, 49]) h (by decide) (fun c r z => by cases z; decide)
  obtain ⟨o, w, aq, h3, _⟩ := z_eq h2 (by decide)
  refine only_attr f1 f2 (by rw [n]; decide) ?_
  rw [s]
  have oq := (okQ_iff h3).mpr (.inr rfl)
  have h4 := At.go (a := [39]) (l := [49]) h3
  have f : aF x (j + ((([32] : List Nat).length : Nat) : Int)) < 0 := by
    unfold aF
    rw [h3.ch.2]
    have := find_none (q := 39) h4 (by decide)
    show Txt.find3 x ⟨#[39]⟩ (aQ x _ + 1) < 0
    rw [show aQ x (j + ((([32] : List Nat).length : Nat) : Int)) + 1 = aQ x (j + ((([32] : List Nat).length : Nat) : Int)) + ((([39] : List Nat).length : Nat) : Int) from rfl, this]
    decide
  have := a_f o w oq f
  rw [aq] at this
  rwa [show j + 4 = j + ((([32] : List Nat).length : Nat) : Int) + 2 + 1 by simp; omega]
end
end Mine
end

-- PlainH
section
open PySem PySem.W PySem.W.X PyProof.Rows PySem.Calls PySem.Builtin PySem.Builtin.Str
namespace Mine
section
variable {x : Str} {j : Int} {ss : List Int}
/-- z, an equals sign, a value in single quotes -/
theorem z_val {s : Int} {r l : List Nat} (h : At x s (122 :: 61 :: 39 :: (r ++ 39 :: l))) (hr : ∀ c ∈ r, c ≠ 39) : okN x s ∧ Txt.startswith3 x (Str.ofString "=") (sEnd x (nEnd x s)) = true ∧ aQ x s = s + 2 ∧ okQ x (aQ x s) ∧ ¬ aF x s < 0 ∧ aRaw x s = ⟨r.toArray⟩ := by
  obtain ⟨o, w, aq, h3, _⟩ := z_eq h (by decide)
  have oq := (okQ_iff h3).mpr (.inr rfl)
  have h4 : At x (aQ x s + 1) (r ++ 39 :: l) := At.go (a := [39]) h3
  have fe : aF x s = aQ x s + 1 + (r.length : Int) := by
    unfold aF
    rw [h3.ch.2]
    exact find_at h4 hr
  have z0 := h3.h0
  refine ⟨o, w, aq, oq, by rw [fe]; omega, ?_⟩
  unfold aRaw
  rw [fe]
  exact slice_at h4
theorem bad8 (h : At x j [32, 122, 61, 39, 60, 39, 62]) : Only x j ss (j + 4) := by
  obtain ⟨s, n, f1, f2, h2⟩ := lead (a := [32]) (l := [122, 61, 39, 60, 39, 62]) h (by decide) (fun c r z => by cases z; decide)
  obtain ⟨o, w, aq, oq, f, raw⟩ := z_val (r := [60]) (l := [62]) h2 (by decide)
  refine only_attr f1 f2 (by rw [n]; decide) ?_
  rw [s]
  have fd : Txt.find (aRaw x (j + ((([32] : List Nat).length : Nat) : Int))) (Str.ofString "<") = 0 := by
    rw [raw, find_find3]
    have := find_at (x := ⟨#[60]⟩) (j := 0) (q := 60) (a := []) (l := []) (at_zero _) (by decide)
    show Txt.find3 _ ⟨#[60]⟩ 0 = 0
    simpa using this
  have := a_l o w oq f (by rw [fd]; decide)
  rw [fd, aq] at this
  rwa [show j + 4 = j + ((([32] : List Nat).length : Nat) : Int) + 2 + 1 + 0 by simp; omega]
theorem bad9 (h : At x j [32, 122, 61, 39, 97, 1, 39, 62]) : Only x j ss (j + 5) := by
  obtain ⟨s, n, f1, f2, h2⟩ := lead (a := [32]) (l := [122, 61, 39, 97, 1, 39, 62]) h (by decide) (fun c r z => by cases z; decide)
  obtain ⟨o, w, aq, oq, f, raw⟩ := z_val (r := [97, 1]) (l := [62]) h2 (by decide)
  refine only_attr f1 f2 (by rw [n]; decide) ?_
  rw [s]
  have fd : Txt.find (aRaw x (j + ((([32] : List Nat).length : Nat) : Int))) (Str.ofString "<") = -1 := by
    rw [raw, find_find3]
    exact find_none (x := ⟨#[97, 1]⟩) (j := 0) (q := 60) (at_zero _) (by decide)
  have := a_c 1 o w oq f (by rw [fd]; decide) (by decide) (by rw [raw]; decide) (fun k k0 k1 => by
    have e : k = 0 := by omega
    rw [e, raw]; decide) (by rw [raw]; decide)
  rw [aq] at this
  rwa [show j + 5 = j + ((([32] : List Nat).length : Nat) : Int) + 2 + 1 + 1 by simp; omega]
theorem z_seg (r : Nat) (h1 : r ≠ 39) (h2 : r ≠ 60) (h3 : isCh r = true) : SegOk [122] [] [] [r] 39 :=
  ⟨⟨122, [], rfl, by decide, by decide⟩, by decide, by decide, .inr rfl, by simpa using h1, by simpa using h2, by simpa using h3⟩
theorem first_z {l : List Nat} {p : Int} (h : At x j (32 :: 122 :: 61 :: 39 :: 49 :: 39 :: l)) (fr : ∀ t ∈ ss, aName x t ∈ keys4) (O : aName x (j + 1) = ⟨#[122]⟩ → At x (j + 6) l → Only x (j + 6) (ss ++ [j + 1]) p) : Only x j ss p := by
  obtain ⟨s, n, f1, f2, h2⟩ := lead (a := [32]) (l := 122 :: 61 :: 39 :: 49 :: 39 :: l) h (by decide) (fun c r z => by cases z; decide)
  have A := attr_at (z_seg 49 (by decide) (by decide) (by decide)) (l := l) h2
  have s' : sEnd x j = j + 1 := s
  have A' : AttrAt x (j + 1) [122] [] [] [49] := A
  have e : aF x (j + 1) + 1 = j + 6 := by
    rw [A'.af, A'.aq]
    simp only [List.length_cons, List.length_nil]
    omega
  have h6 : At x (j + 6) l := by
    have := At.go (a := [32, 122, 61, 39, 49, 39]) (l := l) h
    exact this
  refine only_more f1 f2 (by rw [n]; decide) (by rw [s']; exact A'.no) (fun t ht z => ?_) ?_
  · rw [s', A'.name] at z
    have := fr t ht
    rw [z] at this
    revert this
    decide
  · rw [s', e]
    exact O A'.name h6
theorem bad10 (h : At x j [32, 122, 61, 39, 49, 39, 121, 61, 39, 50, 39, 62]) (fr : ∀ t ∈ ss, aName x t ∈ keys4) : Only x j ss (j + 6) := by
  refine first_z h fr fun _ h6 => ?_
  obtain ⟨_, n, f1, f2, _⟩ := lead (a := []) (l := [121, 61, 39, 50, 39, 62]) h6 (by decide) (fun c r z => by cases z; decide)
  exact only_gap f1 f2 n
theorem bad11 (h : At x j [32, 122, 61, 39, 49, 39, 32, 122, 61, 39, 50, 39, 62]) (fr : ∀ t ∈ ss, aName x t ∈ keys4) : Only x j ss (j + 7) := by
  refine first_z h fr fun nm h6 => ?_
  obtain ⟨s, n, f1, f2, h2⟩ := lead (a := [32]) (l := [122, 61, 39, 50, 39, 62]) h6 (by decide) (fun c r z => by cases z; decide)
  have A := attr_at (z_seg 50 (by decide) (by decide) (by decide)) (l := [62]) h2
  have e : j + 6 + ((([32] : List Nat).length : Nat) : Int) = j + 7 := by simp; omega
  rw [e] at s A
  have := only_twice (ss := ss ++ [j + 1]) f1 f2 (by rw [n]; decide) (by rw [s]; exact A.no) ⟨j + 1, List.mem_append_right _ (.head _), by rw [s, nm, A.name]⟩
  rwa [s] at this
end
theorem plain_bad {ahd nm T : Str} {ps : List PyData} {ws : List Str} {i : Nat} {dat : PyData} {wr : Str} {pl : Nat} (hnm : nm ∈ tagNames) (hB : Built (ahd ++ Str.ofString "<" ++ nm) i T ps ws) (hw : (wr, pl) ∈ wrongs)
    (H : Heard (StartOk (T ++ wr) (ahd.length : Int)) (StartErr (T ++ wr) (ahd.length : Int)) dat) : dat = faultDue ((T.length : Int) + (pl : Int)) := by
  obtain ⟨ss, _, h2, h3, h4⟩ := built_read hB wr
  have fr : ∀ t ∈ ss, aName (T ++ wr) t ∈ keys4 := fun t ht => (h2 t ht).1
  have hA := at_mid (a := T) (b := wr)
  have tl : ∀ c r, wr.cps.toList = c :: r → isNc c = false := by
    simp only [wrongs, List.mem_cons, Prod.mk.injEq, List.not_mem_nil, or_false] at hw
    intro c r hc
    rcases hw with ⟨rfl, _⟩ | ⟨rfl, _⟩ | ⟨rfl, _⟩ | ⟨rfl, _⟩ | ⟨rfl, _⟩ | ⟨rfl, _⟩ | ⟨rfl, _⟩ | ⟨rfl, _⟩ | ⟨rfl, _⟩ | ⟨rfl, _⟩ | ⟨rfl, _⟩ <;> first | (cases hc; done) | (cases hc; decide)
  obtain ⟨o1, o2, o3, o4⟩ := open_read (tl := wr) hnm hB tl
  have O : Only (T ++ wr) (T.length : Int) ss ((T.length : Int) + (pl : Int)) := by
    generalize T ++ wr = X at *
    simp only [wrongs, List.mem_cons, Prod.mk.injEq, List.not_mem_nil, or_false] at hw
    rcases hw with ⟨rfl, rfl⟩ | ⟨rfl, rfl⟩ | ⟨rfl, rfl⟩ | ⟨rfl, rfl⟩ | ⟨rfl, rfl⟩ | ⟨rfl, rfl⟩ | ⟨rfl, rfl⟩ | ⟨rfl, rfl⟩ | ⟨rfl, rfl⟩ | ⟨rfl, rfl⟩ | ⟨rfl, rfl⟩
    · have := bad1 (ss := ss) hA; simpa using this
    · have := bad2 (ss := ss) hA; simpa using this
    · exact bad3 hA
    · exact bad4 hA
    · exact bad5 hA
    · exact bad6 hA
    · exact bad7 hA
    · exact bad8 hA
    · exact bad9 hA
    · exact bad10 hA fr
    · exact bad11 hA fr
  rcases H with ⟨r, e, ⟨rs, b', _, _, R, rfl⟩, rfl⟩ | ⟨p, er, rfl⟩
  · rw [o3] at R
    exact (O.1 _ _ _ (h3 _ _ _ R)).elim
  · rcases er with ⟨z, _⟩ | ⟨_, z, _⟩ | ⟨_, _, z⟩
    · rw [o1] at z; cases z
    · exact (z o2).elim
    · rw [o3] at z
      rw [O.2 _ (h4 _ z)]
      rfl
end Mine
end

-- PlainI
section
open PySem PySem.W PySem.W.X PyProof.Rows PySem.Calls PySem.Builtin PySem.Builtin.Str
namespace Mine
abbrev names3 : List Str := [Str.ofString "a", Str.ofString "p:b", Str.ofString "c.d"]
theorem plain_attr {ahd nm g e q r tl : Str} {dat : PyData} (hn : nm ∈ names3) (hq : q ∈ quotes) (hg : g ∈ gaps) (he : e ∈ gaps2) (hr : r ∈ rawsOf q)
    (H : Heard (AttOk (headOf ahd nm g e q ++ r ++ q ++ tl) (ahd.length : Int)) (AttrErr (headOf ahd nm g e q ++ r ++ q ++ tl) (ahd.length : Int)) dat) :
    dat = .tuple [pairD ahd nm g e q r, .int ((hLen ahd nm g e q + r.length + q.length : Nat) : Int)] := by
  obtain ⟨c, rfl, hc⟩ := quote_ch hq
  have ex : headOf ahd nm g e ⟨#[c]⟩ ++ r ++ ⟨#[c]⟩ ++ tl = ahd ++ (nm ++ (g ++ (Str.ofString "=" ++ (e ++ (⟨#[c]⟩ ++ (r ++ (⟨#[c]⟩ ++ tl))))))) := by
    simp only [headOf, Str.append_assoc]
  rw [ex] at H
  obtain ⟨r1, r2, r3⟩ := raws_ok hc hr
  have S : SegOk nm.cps.toList g.cps.toList e.cps.toList r.cps.toList c := ⟨nameB_of hn (by decide), allB_of hg (by decide), allB_of he (by decide), hc, r1, r2, r3⟩
  have hA := at_mid (a := ahd) (b := nm ++ (g ++ (Str.ofString "=" ++ (e ++ (⟨#[c]⟩ ++ (r ++ (⟨#[c]⟩ ++ tl)))))))
  have eqs : (Str.ofString "=").cps.toList = [61] := rfl
  simp only [Str.cps_append, Array.toList_append, eqs, List.cons_append, List.nil_append] at hA
  have A := attr_at S hA
  generalize ahd ++ (nm ++ (g ++ (Str.ofString "=" ++ (e ++ (⟨#[c]⟩ ++ (r ++ (⟨#[c]⟩ ++ tl))))))) = X at *
  have lq := A.aq
  have ln := A.af
  have l1 := len_cps nm
  have l2 := len_cps g
  have l3 := len_cps e
  have l4 := len_cps r
  have le : (Str.ofString "=").length = 1 := rfl
  have lc : (⟨#[c]⟩ : Str).length = 1 := rfl
  rcases H with ⟨d, e', ⟨_, rfl, rfl⟩, rfl⟩ | ⟨p, er, rfl⟩
  · have e1 : aQ X (ahd.length : Int) + 1 = ((hLen ahd nm g e ⟨#[c]⟩ : Nat) : Int) := by
      rw [lq]
      simp only [hLen, le, lc, l1, l2, l3]
      omega
    have e2 : aF X (ahd.length : Int) + 1 = ((hLen ahd nm g e ⟨#[c]⟩ + r.length + (⟨#[c]⟩ : Str).length : Nat) : Int) := by
      rw [ln, lq]
      simp only [hLen, le, lc, l1, l2, l3, l4]
      omega
    unfold attrD pairD
    rw [A.name, A.raw, toArray_cps, toArray_cps, e1, e2]
  · exact (A.no _ er).elim
theorem plain_end {ahd nm gap tl : Str} {dat : PyData} (hn : nm ∈ names3) (hg : gap ∈ gaps)
    (H : Heard (EndOk (ahd ++ Str.ofString "</" ++ nm ++ gap ++ Str.ofString ">" ++ tl) (ahd.length : Int)) (EndErr (ahd ++ Str.ofString "</" ++ nm ++ gap ++ Str.ofString ">" ++ tl) (ahd.length : Int)) dat) :
    dat = .tuple [.str nm, .int ((ahd.length + 2 + nm.length + gap.length + 1 : Nat) : Int)] := by
  have ex : ahd ++ Str.ofString "</" ++ nm ++ gap ++ Str.ofString ">" ++ tl = ahd ++ (Str.ofString "</" ++ (nm ++ (gap ++ (Str.ofString ">" ++ tl)))) := by simp only [Str.append_assoc]
  rw [ex] at H
  obtain ⟨c, a, hnm, hc, ha⟩ := nameB_of (a := nm) hn (by decide)
  have gs : ∀ d ∈ gap.cps.toList, isSp d = true := allB_of hg (by decide)
  have h := at_mid (a := ahd) (b := Str.ofString "</" ++ (nm ++ (gap ++ (Str.ofString ">" ++ tl))))
  have e1 : (Str.ofString "</").cps.toList = [60, 47] := rfl
  have e2 : (Str.ofString ">").cps.toList = [62] := rfl
  have l1 := len_cps nm
  have l2 := len_cps gap
  simp only [Str.cps_append, Array.toList_append, e1, e2, hnm] at h
  generalize ahd ++ (Str.ofString "</" ++ (nm ++ (gap ++ (Str.ofString ">" ++ tl)))) = X at *
  have sw : Txt.startswith3 X (Str.ofString "</") (ahd.length : Int) = true := by rw [sw_iff h]; rfl
  have h1 : At X ((ahd.length : Int) + 2) (c :: a ++ (gap.cps.toList ++ ([62] ++ tl.cps.toList))) := At.go (a := [60, 47]) h
  have oN : okN X ((ahd.length : Int) + 2) := (okN_iff (l := a ++ (gap.cps.toList ++ ([62] ++ tl.cps.toList))) h1).mpr hc
  have ne := nEnd_at h1 ha (fun d t hd => by
    cases hgp : gap.cps.toList with
    | nil => rw [hgp] at hd; cases hd; decide
    | cons d1 g1 => rw [hgp] at hd gs; cases hd; exact sp_not_nc (gs _ (.head _)))
  have h2 : At X (nEnd X ((ahd.length : Int) + 2)) (gap.cps.toList ++ ([62] ++ tl.cps.toList)) := by rw [ne]; exact h1.go
  have se := sEnd_at h2 gs (fun d t hd => by cases hd; decide)
  have h3 : At X (sEnd X (nEnd X ((ahd.length : Int) + 2))) ([62] ++ tl.cps.toList) := by rw [se]; exact h2.go
  have sg : Txt.startswith3 X (Str.ofString ">") (sEnd X (nEnd X ((ahd.length : Int) + 2))) = true := by rw [sw_iff h3]; rfl
  have nm' : aName X ((ahd.length : Int) + 2) = nm := by
    unfold aName
    rw [ne, slice_at h1, ← hnm, toArray_cps]
  rcases H with ⟨d, e', ⟨_, _, _, rfl, rfl⟩, rfl⟩ | ⟨p, er, rfl⟩
  · have e3 : sEnd X (nEnd X ((ahd.length : Int) + 2)) + 1 = ((ahd.length + 2 + nm.length + gap.length + 1 : Nat) : Int) := by
      rw [se, ne, l1, l2, hnm]
      omega
    rw [nm', e3]
  · rcases er with ⟨z, _⟩ | ⟨_, z, _⟩ | ⟨_, _, z, _⟩
    · rw [sw] at z; cases z
    · exact (z oN).elim
    · rw [sg] at z; cases z
end Mine
end

-- SrDef2
section
open PySem PySem.W PySem.W.X PyProof.Rows PySem.Calls
namespace Mine
structure Mark2 : Prop where
  inst : True
structure Mark3 : Prop where
  inst : True
/-- an end's text, and nothing else but tokens -/
def EndIs (b : Bool) (s : Shared) (v : Value) (s' : Shared) : Prop := (∃ t, v = .str (endOf b) t) ∧ ∃ tk', s' = { s with toks := tk' }
theorem ifexp_cut {M : Model} {A : Around} {E : Value → Shared → Prop} {s : Shared} {tree : Sem Value} {Q : Value → Shared → Prop} {b : Bool} (h : wpAny M A tree (EndIs b s) E s)
    (k : ∀ t tk', Q (.str (endOf b) t) { s with toks := tk' }) : wpAny M A tree Q E s := wpAny_mono h (fun v s' z => by
  obtain ⟨⟨t, rfl⟩, tk', rfl⟩ := z
  exact k t tk') fun _ _ h => h
theorem plain_ok2 {ahd nm T gap tail : Str} {ps : List PyData} {ws : List Str} {i : Nat} {b : Bool} {dat : PyData} (hnm : nm ∈ tagNames) (hB : Built (ahd ++ Str.ofString "<" ++ nm) i T ps ws) (hg : gap ∈ gaps3)
    (H : Heard (StartOk (T ++ gap ++ endOf b ++ tail) (ahd.length : Int)) (StartErr (T ++ gap ++ endOf b ++ tail) (ahd.length : Int)) dat) : dat = dueD nm ps b ((T ++ gap ++ endOf b).length : Nat) := by
  rw [Str.length_append, Str.length_append]
  exact plain_ok hnm hB hg H
theorem wrongs_eq : wrongs = [(Str.ofString "", 0), (Str.ofString "/ >", 0), (Str.ofString " / >", 1), (Str.ofString " 5='1'>", 1), (Str.ofString " z>", 2), (Str.ofString " z='1", 4), (Str.ofString " z=1>", 3), (Str.ofString " z='<'>", 4),
  (Str.ofString " z='a\x01'>", 5), (Str.ofString " z='1'y='2'>", 6), (Str.ofString " z='1' z='2'>", 7)] := rfl
/-- a list of pairs of a text and a number -/
inductive RowsL (news : List (Addr × Obj)) : List Value → List (Str × Nat) → Prop
  | nil : RowsL news [] []
  | cons {a : Addr} {w : Str} {p : Nat} {q : Int} {t u : Tok} {vs : List Value} {ws : List (Str × Nat)} : (a, tup2 (.str w t) (.int q u)) ∈ news → q = (p : Int) → RowsL news vs ws → RowsL news (.ref a :: vs) ((w, p) :: ws)
theorem RowsL.at {news : List (Addr × Obj)} : ∀ {vs : List Value} {ws : List (Str × Nat)}, RowsL news vs ws → ∀ (i : Nat) (hi : i < vs.length), ∃ a w t p u, vs[i] = .ref a ∧ (a, tup2 (.str w t) (.int (p : Nat) u)) ∈ news ∧ (w, p) ∈ ws
  | _, _, .cons m e _, 0, _ => ⟨_, _, _, _, _, rfl, e ▸ m, .head _⟩
  | _, _, .cons _ _ r, i + 1, hi => by
    obtain ⟨a, w, t, p, u, e, m, z⟩ := r.at i (Nat.lt_of_succ_lt_succ hi)
    exact ⟨a, w, t, p, u, e, m, .tail _ z⟩
theorem wrongs_ok {w : Str} {p : Nat} (h : (w, p) ∈ wrongs) : w.length ≤ 20 ∧ p ≤ 10 ∧ Asc w := by
  have := List.all_eq_true.mp (by decide : (wrongs.all fun x => decide (x.1.length ≤ 20) && decide (x.2 ≤ 10) && ascB x.1) = true) _ h
  simp only [Bool.and_eq_true, decide_eq_true_eq] at this
  exact ⟨this.1.1, this.1.2, asc_b this.2⟩
theorem startX_bad {ahd nm T wr : Str} {pl : Nat} {ps : List PyData} {ws : List Str} {i : Nat} (hah : ahd ∈ aheads) (hnm : nm ∈ tagNames) (hB : Built (ahd ++ Str.ofString "<" ++ nm) i T ps ws) (hT : T.length ≤ 1000) (hw : (wr, pl) ∈ wrongs) :
    StartX (T ++ wr) (ahd.length : Int) := by
  obtain ⟨l1, _, l2⟩ := wrongs_ok hw
  have l3 := built_len hB
  refine ⟨?_, by omega, ?_, asc_app (built_asc (tag_asc hah hnm) hB) l2⟩
  · simp only [Str.length_append] at *; omega
  · simp only [Str.length_append] at *; omega
theorem shaped_fault (p : Int) : SeqAt.shaped (faultDue p) = true := by
  unfold SeqAt.shaped faultDue
  have : PyData.strOk (Str.ofString "fault") = true := strOk_asc (asc_b (by decide))
  simp [PyData.canLay0, PyData.canLayAll0, PyData.depth, PyData.depthAll, this]
section
variable {w : World} {A₀ : Around} {E Q : Value → Shared → Prop} {s : Shared} {base h₀ : Heap} {outer : List Env} {L a : Addr} {m : Str → Option Value} {mg mb : Str → Option Value} {mean : ExcName → Option Value} {dp un : Nat} {gd : Option (List Code)} {cn : Str} {cs : Scope} {ccd : Value} {cl : List (Str × Addr)} {news : List (Addr × Obj)}
theorem u_oneR {lt : Addr} {vs : List Value} {ws : List (Str × Nat)} {n : Nat} {ls : Addr} {a₁ b₁ : Int} {ta tb : Tok} {cp : Nat}
 (B : Below A₀ base outer h₀) (F : Fr h₀ L s.heap m) (X : (hd.heap_1 w.params).In h₀) (T : TopH mean mg mb h₀) (hck : cs.kind = .function)
 (N : News h₀ L s.heap news) (hdp : dp ≤ 650) (hun : un ≤ 50)
 (hlt : (lt, W.listOf vs.toArray n) ∈ news) (hne : @Ne Nat lt ls) (hs : RowsL news vs ws) (hv1 : 1 ≤ vs.length) (hv2 : vs.length ≤ 100)
 (hls : (ls, srcO a₁ b₁ ta tb cp) ∈ news) (ha : 0 ≤ a₁) (hb : 0 ≤ b₁) (hb2 : b₁ < 2147483647)
 (hQ : ∀ (D : Addr) (wd : Str) (p : Nat) (t u : Tok) a' b' (ta' tb' : Tok) h' tk', (wd, p) ∈ ws → 0 ≤ a' → 0 ≤ b' → b' < 2147483647 → Fr h₀ L h' m → (∀ news', Upd ls (srcO a₁ b₁ ta tb cp) (srcO a' b' ta' tb' cp) news news' → News h₀ L h' ((D, tup2 (.str wd t) (.int (p : Nat) u)) :: news')) → Q (.ref D) {s with heap := h', toks := tk'})
 : wpAny (model prog w) (ktrTop dp un gd cn cs L a ccd cl outer) (call (.ref 302) [.ref ls, .ref lt]) Q E s := by
  refine c_one (vs := vs.toArray) (by simpa using hv1) (by simpa using hv2) hlt hne B F X T hck N hdp hun hls ha hb hb2 ?_
  intro i hi a' b' ta' tb' h' tk' h1 h2 h3 F' N'
  obtain ⟨D, w, t, p, u, e, m, z⟩ := hs.at i (by simpa using hi)
  have e' : vs.toArray[i] = .ref D := by simpa using e
  rw [e']
  refine hQ D w p t u a' b' ta' tb' h' tk' z h1 h2 h3 F' fun news' U => news_cons (N' _ U) ?_ (N' _ U)
  obtain ⟨pre, post, e1, e2, _, _⟩ := U.split
  rw [e2]
  rw [e1] at m
  rcases List.mem_append.mp m with m | m
  · exact List.mem_append_left _ m
  rcases List.mem_cons.mp m with m | m
  · exact absurd (congrArg (fun q : Addr × Obj => q.2.cls) m) (by show ¬ (Value.type "tuple" = Value.type "list"); decide)
  · exact List.mem_append_right _ (.tail _ m)
end
end Mine
end

-- Sr
example : True ∧ True := by
  first | walk1 | constructor
  all_goals trivial
section
open PySem PySem.W PySem.W.X PyProof.Rows PySem.Calls
namespace Mine
set_option hygiene false
section
variable {w : World} {A₀ : Around} {E Q : Value → Shared → Prop} {s : Shared} {base h₀ : Heap} {outer : List Env} {L a : Addr} {m : Str → Option Value} {mg mb : Str → Option Value} {mean : ExcName → Option Value} {dp un : Nat} {gd : Option (List Code)} {cn : Str} {cs : Scope} {ccd : Value} {cl : List (Str × Addr)} {news : List (Addr × Obj)}
local macro_rules | `(tactic| walk_at "exec For Name Call cons nil") => `(tactic| ((rename Fr _ _ _ _ => lF'); (with_unfolding_all refine For_invVF lF' (by exact rfl) (by exact rfl) ?_)))
local macro_rules | `(tactic| walk_at "pyIter ref") => `(tactic| ((with_reducible show wpAny _ _ (pyIter (Value.ref _)) (fun it s₂ => LoopAtV _ _ _ _ _ _ _ _ _ it s₂) _ _); refine halt ?_))
local macro_rules | `(tactic| walk_at "call ref") => `(tactic| ((with_reducible show wpAny _ _ (call (Value.ref 295) _) _ _ _); k_dflt (refine c_take (by omega) (by omega) (by k_asm) (by k_asm) (by k_asm) (by k_asm) (by exact rfl) (by k_asm) (by ktr_room) (by ktr_units) (by k_mem) (by omega) (by omega) (by omega) ?_); intro rT aT bT taT tbT trT hT tkT rT0 rT1 haT hbT hbT2 FT NT0; (have NT := NT0 _ (by k_upd)); clear NT0; (replace rT1 := Hid.mk rT1); (try dsimp only)))
local macro_rules | `(tactic| walk_at "call ref") => `(tactic| ((with_reducible show wpAny _ _ (call (Value.ref 302) _) _ _ _); k_dflt (refine u_oneS (by k_asm) (by k_asm) (by k_asm) (by k_asm) (by exact rfl) (by k_asm) (by ktr_room) (by ktr_units) (by k_mem) (by k_ne) (by repeat constructor) (by exact Nat.le_of_ble_eq_true rfl) (by exact Nat.le_of_ble_eq_true rfl) (by decide) (by k_mem) (by omega) (by omega) (by omega) ?_); (try clear haT hbT hbT2); intro wdT tdT aT bT taT tbT hT tkT mT lT haT hbT hbT2 FT NT0; (have NT1 := NT0 _ (by k_upd)); clear NT0; (try (rename (@LT.lt Nat _ _ _ ∧ _) => l1X; clear l1X)); (k_dflt (have NT := news_sub NT1 (fun q hq => List.Mem.tail _ hq))); clear NT1; (try dsimp only)))
local macro_rules | `(tactic| walk_at "call ref") => `(tactic| ((with_reducible show wpAny _ _ (call (Value.ref 302) _) _ _ _); (have := (by assumption : Mark2)); refine halt ?_))
local macro_rules | `(tactic| walk_at "eval IfExp") => `(tactic| ((fail_if_success (have := (by assumption : Mark3))); refine halt ?_))
local macro_rules | `(tactic| walk_at "call ref") => `(tactic| ((with_reducible show wpAny _ _ (call (Value.ref 316) _) _ _ _); refine halt ?_))
local macro_rules | `(tactic| walk_at "call ref") => `(tactic| ((with_reducible show wpAny _ _ (call (Value.ref 344) _) _ _ _); refine halt ?_))
local macro_rules | `(tactic| walk_at "call type:tuple") => `(tactic| ((with_reducible show wpAny _ _ (call (Value.type _) [Value.ref _]) _ _ _); k_dflt (refine tupleOf (by k_asm) (by k_asm) (News.isList (by k_asm) (by k_mem)) (by omega) ?_); intro D' h' F' N' l1; (try k_lt l1)))
local macro_rules | `(tactic| walk_at "call builtin:list.pop") => `(tactic| refine halt ?_)
theorem c_sr {ls : Addr} {a₁ b₁ : Int} {ta tb : Tok} {cp : Nat}
 (B : Below A₀ base [] h₀) (F : Fr h₀ L s.heap m) (X : (hd.heap_1 w.params).In h₀) (T : TopH mean mg mb h₀) (hck : cs.kind = .function)
 (N : News h₀ L s.heap news) (hdp : dp ≤ 20 + 600) (hun : un ≤ 20)
 (hls : (ls, srcO a₁ b₁ ta tb cp) ∈ news) (ha : 0 ≤ a₁) (hb : 0 ≤ b₁) (hb2 : b₁ < 2147483647)
 (hQ : ∀ a' b' (ta' tb' : Tok) h' tk', 0 ≤ a' → 0 ≤ b' → b' < 2147483647 → Fr h₀ L h' m → (∀ news', Upd ls (srcO a₁ b₁ ta tb cp) (srcO a' b' ta' tb' cp) news news' → News h₀ L h' news') → Q (.bool true) {s with heap := h', toks := tk'})
 (XB : (hd.heap_1 w.params).In base) (TB : TopH mean mg mb base)
 : wpAny (model prog w) (ktrTop dp un gd cn cs L a ccd [] []) (call (.ref 351) [.ref ls]) Q E s := by
  refine led1_use N hls fun rest hL N hrd hrest => ?_
  w_top off
  refine wpAny_call ?_
  k_dflt (refine' code_defS0 ?k1 ?k2 ?k3 ?k4 ?k5 ?kA ?k6 ?k7 ?k8 ?k9 ?kB ?_ ?cK ?c2 ?c3 ?c4 ?c5; (case kA => exact rfl); (case k2 => k_asm); (case k1 => k_asm); (case k3 => k_asm); (case k4 => k_asm); (case k5 => k_asm); (case k6 => k_is); (case k7 => k_is); (case k8 => ktr_room); (case k9 => first | exact BindsTo.of_eq rfl | exact binds_K (by k_in) rfl (by k_is) rfl rfl rfl); (case kB => exact locs rfl); (case cK => assumption); (case c2 => exact rfl); (case c3 => exact rfl); (case c4 => exact rfl); (case c5 => decide); k_whole)
  intro g9 L9 h9 FG9 F9 N9 B9 X9 T9 D9
  (try dsimp only); (try k_lift B9); (try k_fold)
  k_steps
  refine ⟨?_⟩
  have hr4 := rT1.out
  rename_i tkA lA0 _ ahd tdA _ _ _ _ _ _ mAh lAh lB0 _ _ _ _ _ _ _ _ _ _ DT0 _ l1D _ _ _ _ tt1 _ ln1 tt0 tkk ln2 lp0 _ lpL lk0 _ lkL DU0 _ lDU _ _ _ _ _ _ _ _ _ _ _ _ _ _ _ _
  have mNm0 : wdT ∈ tagNames := mT
  have mAh0 : ahd ∈ aheads := mAh
  have n1 : @Ne Nat lp0 ls := by omega
  have n2 : @Ne Nat lk0 ls := by omega
  have n3 : @Ne Nat lk0 lp0 := by omega
  have Ncan := news_sub (W' := (lk0, W.listOf (List.toArray [.str (Str.ofString "k") tkk, .str (Str.ofString "p:k") (tkk + 1), .str (Str.ofString "l-1") (tkk + 1 + 1), .str (Str.ofString "xmlns") (tkk + 1 + 1 + 1)]) 0) :: (lp0, W.listOf #[] 0) :: (ls, srcO aT bT taT tbT cp) :: ([] ++ rest)) (by assumption : News g9 L9 _ _) (by
    intro q hq
    rcases List.mem_cons.mp hq with rfl | hq
    · k_mem
    rcases List.mem_cons.mp hq with rfl | hq
    · k_mem
    rcases List.mem_cons.mp hq with rfl | hq
    · k_mem
    have hq : q ∈ rest := hq
    repeat (first | exact hq | apply List.Mem.tail))
  refine range_T (n := rT.toNat) (Str.ofString "text") [Str.ofString "pair"] (fun i T tt ns => ∃ a' b' ta' tb' vsN wsN capN vsP capP ps extra, ns = (lk0, W.listOf vsN capN) :: (lp0, W.listOf vsP capP) :: (ls, srcO a' b' ta' tb' cp) :: (extra ++ rest) ∧ SrJ (ahd ++ Str.ofString "<" ++ wdT) ls lp0 lk0 rest i T a' b' vsN wsN vsP ps extra) (by decide) rfl (by assumption) (small_one (by omega) (by omega) (by omega) (by omega)) ?sz (by k_asm)
    Ncan rfl ⟨aT, bT, taT, tbT, List.toArray [.str (Str.ofString "k") tkk, .str (Str.ofString "p:k") (tkk + 1), .str (Str.ofString "l-1") (tkk + 1 + 1), .str (Str.ofString "xmlns") (tkk + 1 + 1 + 1)], keys4, 0, #[], 0, [], [], rfl, ⟨haT, hbT, hbT2, by repeat constructor, rfl, ?sh, RdAll.nil, rfl, .nil, ?tl, ?el, ?ep, ?ek⟩⟩ ?turn ?done
  case sz => rw [rangeSize_nat]; omega
  case sh => exact fun w hw => of_decide_eq_true (List.all_eq_true.mp (by decide : keys4.all (fun w => decide (w.length ≤ 10)) = true) w hw)
  case tl =>
    have : (Str.ofString "<").length = 1 := rfl
    omega
  case el => exact hrd
  case ep => exact fun p hp => Nat.ne_of_lt (allLt_mem (by exact lpL.2.2) p hp)
  case ek => exact fun p hp => Nat.ne_of_lt (allLt_mem (by exact lkL.2.2.2) p hp)
  case turn =>
    rintro i t T tt u ns hw tkw ow lw hi ⟨a', b', ta', tb', vsN, wsN, capN, vsP, capP, ps, extra, rfl, J⟩ nw Fw Nw
    have Ja0 := J.a0
    have Jb0 := J.b0
    have Jb1 := J.b1
    have Jcnt := J.cnt
    have Jtl := J.tl
    have Jel := J.el
    have Jep := J.ep
    have Jek := J.ek
    have Jpsz := J.psz
    have Jvl : vsN.size = wsN.length := by have := strL_len J.nam; simpa using this
    have e1 : @Ne Nat lk0 _ := nw _ (.head _)
    have e2 : @Ne Nat lp0 _ := nw _ (.tail _ (.head _))
    have e3 : @Ne Nat ls _ := nw _ (.tail _ (.tail _ (.head _)))
    try dsimp only at e1 e2 e3 Fw Nw
    k_steps
    refine ⟨?_⟩
    have rT9 := rT1.out
    obtain ⟨p9, nm, nt9, q9, pw, qw, ec, ews, sl⟩ := strL_cut rT.toNat J.nam (by simp; omega)
    have hnm : nm.length ≤ 10 := J.sht nm (by rw [ews]; simp)
    refine kl_popAt (k := rT.toNat) (p := p9) (q := q9) (by k_asm) (by k_asm) ?fit ?idx ec (by k_upd) ?room ?_
    case fit => unfold Builtin.List.listFitsIndex; simp; omega
    case idx => unfold seqIndex?; simp; omega
    case room => rw [sizeLine_eq]; simp; omega
    intro hP FP NP
    k_steps
    refine ⟨?_⟩
    refine c_pair (by omega) (by omega) (by k_asm) (by k_asm) (by k_asm) (by k_asm) (by exact rfl) (by k_asm) (by ktr_room) (by ktr_units) (by k_mem) (by omega) (by omega) (by omega) ?_
    intro g e q r aP bP taP tbP D1 D2 D3 y1 y2 y3 hq tkq mq mg me mr ml aP0 bP0 bP1 FQ NQ0 lD1 lD2 lD3
    have NQ := NQ0 _ (by k_upd)
    clear NQ0
    k_lt lD1
    k_steps
    refine ⟨_, _, _, (lk0, W.listOf (p9 ++ q9).toArray (capN + 1)) :: (lp0, W.listOf (vsP.push (Value.ref D2)) (capP + 1)) :: (ls, srcO aP bP taP tbP cp) :: (((D2, tup2 (.str nm nt9) (.ref D1)) :: (D1, tup2 (.str r y2) (.int ((hLen (T ++ wdT) nm g e q : Nat) : Int) y3)) :: extra) ++ rest), rfl, (by k_asm), news_sub (by k_asm) ?mem, ?neI, ?same, headOf (T ++ wdT) nm g e q ++ r ++ q, y1, rfl, aP, bP, taP, tbP, (p9 ++ q9).toArray, pw ++ qw, capN + 1, vsP.push (Value.ref D2), capP + 1, ps ++ [pairD (T ++ wdT) nm g e q r], (D2, tup2 (.str nm nt9) (.ref D1)) :: (D1, tup2 (.str r y2) (.int ((hLen (T ++ wdT) nm g e q : Nat) : Int) y3)) :: extra, rfl, ⟨aP0, bP0, bP1, by simpa using sl, ?cnt, ?sht, ?rd, ?psz, .snoc (ews ▸ J.blt) (by assumption) mq mg me mr, ?tl, ?el, ?ep, ?ek⟩⟩
    case mem =>
      intro q' hq'
      rcases List.mem_cons.mp hq' with rfl | hq'
      · k_mem
      rcases List.mem_cons.mp hq' with rfl | hq'
      · k_mem
      rcases List.mem_cons.mp hq' with rfl | hq'
      · k_mem
      rcases List.mem_cons.mp hq' with rfl | hq'
      · k_mem
      rcases List.mem_cons.mp hq' with rfl | hq'
      · k_mem
      rcases List.mem_cons.mp hq' with rfl | hq'
      · k_mem
      repeat (first | exact hq' | apply List.Mem.tail)
    case neI =>
      intro q' hq'
      rcases List.mem_cons.mp hq' with rfl | hq'
      · exact e1
      rcases List.mem_cons.mp hq' with rfl | hq'
      · exact e2
      rcases List.mem_cons.mp hq' with rfl | hq'
      · exact e3
      rcases List.mem_cons.mp hq' with rfl | hq'
      · k_ne
      rcases List.mem_cons.mp hq' with rfl | hq'
      · k_ne
      exact nw _ (.tail _ (.tail _ (.tail _ hq')))
    case same =>
      intro y h1 h2 h3
      have h4 : y ≠ Str.ofString "pair" := fun z => by rw [z] at h3; revert h3; decide
      simp only [h1, h2, h4, h3, if_false, Bool.false_eq_true]
    case cnt => rw [ews] at Jcnt; simp at Jcnt ⊢; omega
    case sht => exact fun w hw => J.sht w (by rw [ews]; rcases List.mem_append.mp hw with h | h; exact List.mem_append_left _ h; exact List.mem_append_right _ (.tail _ h))
    case rd =>
      rw [Array.toList_push]
      exact (J.rd.mono (fun q hq => .tail _ (.tail _ hq))).snoc (RdIn.tuple (vs := [_, _]) (.head _) (.cons (.str _ _) (.cons (RdIn.tuple (vs := [_, _]) (.tail _ (.head _)) (.cons (.str _ _) (.cons (.int _ _) .nil))) .nil)))
    case psz => rw [Array.size_push, Jpsz]
    case tl =>
      have : (Str.ofString "=").length = 1 := rfl
      simp only [headOf, Str.length_append]
      omega
    case el =>
      intro q' hq'
      rcases List.mem_cons.mp hq' with rfl | hq'
      · k_ne
      rcases List.mem_cons.mp hq' with rfl | hq'
      · k_ne
      exact Jel q' hq'
    case ep =>
      intro q' hq'
      rcases List.mem_cons.mp hq' with rfl | hq'
      · k_ne
      rcases List.mem_cons.mp hq' with rfl | hq'
      · k_ne
      exact Jep q' hq'
    case ek =>
      intro q' hq'
      rcases List.mem_cons.mp hq' with rfl | hq'
      · k_ne
      rcases List.mem_cons.mp hq' with rfl | hq'
      · k_ne
      exact Jek q' hq'
  case done =>
    rintro T tt u hw tkw ns Fw Nw ⟨a', b', ta', tb', vsN, wsN, capN, vsP, capP, ps, extra, rfl, J⟩
    have Ja0 := J.a0
    have Jb0 := J.b0
    have Jb1 := J.b1
    have Jpsz := J.psz
    have Jtl := J.tl
    have Jel := J.el
    have hX9 : ∀ (b : Bool) (gp tl : Str), gp ∈ gaps3 → tl ∈ tails3 → StartX (T ++ gp ++ endOf b ++ tl) (ahd.length : Int) := fun b gp tl m1 m2 => startX_ok mAh0 mNm0 J.blt (by omega) m1 m2
    try dsimp only at Fw Nw
    k_steps
    refine ⟨?_⟩
    refine ifexp_cut (b := rT == 0) ?_ ?_
    · have mk3 : Mark3 := ⟨trivial⟩
      k_steps
      · exact ⟨⟨_, by rw [show (rT == (0 : Int)) = true by simp; omega]; rfl⟩, _, rfl⟩
      · exact ⟨⟨_, by rw [show (rT == (0 : Int)) = false by simp; omega]; rfl⟩, _, rfl⟩
    intro tE tkE
    have lE : (endOf (rT == 0)).length ≤ 10 := by cases (rT == 0) <;> decide
    generalize (rT == 0) = bE at *
    k_steps
    refine ⟨?_⟩
    refine c_heard323 (t_startX (hX9 bE _ _ ?m1 ?m2)) (by k_asm) (by k_asm) (by k_asm) (by k_asm) (by exact rfl) (by k_asm) (by ktr_room) (by ktr_units) XB TB (by k_asm) ?_
    case m1 => assumption
    case m2 => assumption
    rintro gA hA tkA' vA exA datA KTA FA NA rdA hrA ⟨avA, rfl⟩ BA XA TA DA
    k_steps
    have eA := plain_ok2 mNm0 J.blt (by assumption) hrA
    subst eA
    refine ne_rd NA rdA (fun q hq => List.mem_append_left _ hq) (RdIn.tuple (vs := [_, _]) (by k_mem) (.cons (RdIn.tuple (vs := [_, _, _]) (by k_mem) (.cons (.str _ _) (.cons (RdIn.tupleA (by k_mem) (J.rd.mono (by intro q hq; repeat (first | exact List.mem_append_left _ hq | apply List.Mem.tail)))) (.cons (.bool _) .nil)))) (.cons (.int _ _) .nil))) (fun q hq => List.mem_append_right _ hq) (shaped_due mNm0 J.blt) (by ktr_units) ?_
    have N2 := news_sub (W' := (ls, srcO aT bT taT tbT cp) :: rest) NA (by
      intro q hq
      rcases List.mem_cons.mp hq with rfl | hq
      · exact List.mem_append_right _ (by k_mem)
      · refine List.mem_append_right _ ?_
        repeat (first | exact List.mem_append_right _ hq | apply List.Mem.tail))
    clear NA

    have mk2 : Mark2 := ⟨trivial⟩
    refine wpAny_truthy_bool ?_
    with_reducible refine ite_ff ?_
    k_steps
    refine ⟨?_⟩
    refine u_oneR (ws := wrongs) (by k_asm) (by k_asm) (by k_asm) (by k_asm) (by exact rfl) (by k_asm) (by ktr_room) (by ktr_units) (by k_mem) (by k_ne) ?rows (by exact Nat.le_of_ble_eq_true rfl) (by exact Nat.le_of_ble_eq_true rfl) (by k_mem) (by omega) (by omega) (by omega) ?_
    case rows =>
      rw [wrongs_eq]
      repeat (first | exact .nil | refine .cons (by k_mem) rfl ?_)
    intro DW wdW plW tW uW aW bW taW tbW hW tkW mW haW hbW hbW2 FW NW0
    have NW := NW0 _ (by k_upd)
    have N3 := news_sub (W' := (DW, tup2 (.str wdW tW) (.int (plW : Nat) uW)) :: (ls, srcO aW bW taW tbW cp) :: rest) NW (by
      intro q hq
      rcases List.mem_cons.mp hq with rfl | hq
      · exact .head _
      refine .tail _ ?_
      rcases List.mem_cons.mp hq with rfl | hq
      · k_mem
      repeat (first | exact hq | apply List.Mem.tail))
    clear NW NW0
    obtain ⟨lW1, lW2, _⟩ := wrongs_ok mW
    clear mk2
    k_steps
    refine ⟨?_⟩
    refine c_heard323 (t_startX (startX_bad mAh0 mNm0 J.blt (by omega) mW)) (by k_asm) (by k_asm) (by k_asm) (by k_asm) (by exact rfl) (by k_asm) (by ktr_room) (by ktr_units) XB TB (by k_asm) ?_
    rintro gC hC tkC vC exC datC KTC FC NC rdC hrC ⟨avC, rfl⟩ BC XC TC DC
    k_steps
    have eC := plain_bad mNm0 J.blt mW hrC
    subst eC
    refine eq_rd (by k_asm) rdC (by intro q hq; exact .tail _ (List.mem_append_left _ hq)) (RdIn.tuple (vs := [_, _]) (.head _) (.cons (.str _ _) (.cons (.int _ _) .nil))) (fun q hq => hq) (shaped_fault _) (by ktr_units) ?_
    k_steps
    refine leaveS0_ (by k_asm) (by k_asm) (KtsTurn.trans KTA KTC) ?_
    intro FL NL
    exact hQ _ _ _ _ _ _ haW hbW hbW2 FL (fun news' U => hL _ _ _ _ NL (.tail _ (List.mem_append_right _ (.tail _ (.head _)))) (fun q hq => .tail _ (List.mem_append_right _ (.tail _ (.tail _ hq)))) U)


end
end Mine
end

-- Loop3
section
open PySem PySem.W PyProof.Rows PySem.Calls
namespace Mine
section
variable {prog : Program} {w : World} {A : Around} {E : Value → Shared → Prop} {Q : Flow → Shared → Prop} {s : Shared} {env : Env} {target : Expr} {body : List Stmt}
/-- a loop that stands at its head, its ground still open -/
def ForGAt (prog : Program) (w : World) (A : Around) (env : Env) (target : Expr) (body : List Stmt) (Q : Flow → Shared → Prop) (E : Value → Shared → Prop) (it : Value) (s₂ : Shared) : Prop :=
  codeAny (model prog w) A (.forLoop target it body [] env) (fun r s' => match r with | .ok f => Q f s' | .error e => cameBackBy (model prog w) A env E e s') s₂
theorem For_G {iter : Expr} {pos : Pos} {h₀ : Heap} {m : Str → Option Value} (_F : Fr h₀ env.locals s.heap m)
    (h : wpAny (model prog w) A (eval iter env) (fun xv s₁ => wpAny (model prog w) A (pyIter xv) (fun it s₂ => ForGAt prog w A env target body Q E it s₂) E s₁) E s)
    (hs : ∀ x, foldedSetIterable iter env x = pure x := by intro _; rfl) :
    wpAny (model prog w) A (exec (.For target iter body [] pos) env) Q E s := wpAny_For h hs
/-- what a turn must leave; its ground may be another one -/
def TurnG (L I : Addr) (o : Obj) (s : Shared) (Jn : Heap → (Str → Option Value) → List (Addr × Obj) → Prop) (Q : Flow → Shared → Prop) (f : Flow) (s' : Shared) : Prop :=
  match f with
  | .ret v => Q (.ret v) s'
  | .brk => Q .next s'
  | _ => ∃ g h' tk' m₂ news₂, s' = { s with heap := h', toks := tk' } ∧ Fr g L h' m₂ ∧ News g L h' ((I, o) :: news₂) ∧ (∀ p ∈ news₂, p.1 ≠ I) ∧ Jn g m₂ news₂
theorem list_G {l : Addr} {lo : Obj} {vs : List Value} {n : Nat} {m₀ : Str → Option Value} {g₀ : Heap} {news : List (Addr × Obj)} (J : Nat → Heap → (Str → Option Value) → List (Addr × Obj) → Prop)
    (hh : A.handled = none) (hc : lo.cls = .type "list") (hd : lo.data = .seq vs.toArray n) (F : Fr g₀ env.locals s.heap m₀) (N : News g₀ env.locals s.heap news) (hl : (l, lo) ∈ news) (h0 : J 0 g₀ m₀ news) (hJ : ∀ i g m ns, J i g m ns → (l, lo) ∈ ns)
    (turn : ∀ (i : Nat) (hi : i < vs.length) g m₁ news₁ h tk o, (∀ p ∈ news, p.1 < s.heap.objs.size) → J i g m₁ news₁ → (∀ p ∈ news₁, p.1 ≠ s.heap.objs.size) → Fr g env.locals h m₁ → News g env.locals h ((s.heap.objs.size, o) :: news₁) →
      wpAny (model prog w) A (assign target env vs[i]) (fun _ s₂ => wpAny (model prog w) A (execs body env) (TurnG env.locals s.heap.objs.size o s (J (i + 1)) Q) E s₂) E { s with heap := h, toks := tk })
    (done : ∀ g h tk m₂ news₂, Fr g env.locals h m₂ → News g env.locals h news₂ → J vs.length g m₂ news₂ → Q .next { s with heap := h, toks := tk })
    (hE : PassesOwn (model prog w) A env E := by passes_own) :
    wpAny (model prog w) A (pyIter (.ref l)) (fun it s₂ => ForGAt prog w A env target body Q E it s₂) E s := by
  have hax := N _ hl
  have hli : ∀ (h : Heap) (g : Heap) (ns : List (Addr × Obj)), News g env.locals h ns → (l, lo) ∈ ns → h.IsList l vs.toArray := fun h g ns N hm => ⟨lo, (N _ hm).1, hc, n, hd⟩
  have hlt : l < s.heap.objs.size := Heap.lt_size hax.1
  have hne : l ≠ s.heap.objs.size := Nat.ne_of_lt hlt
  have hLI : env.locals ≠ s.heap.objs.size := Nat.ne_of_lt F.ns.lt
  refine wpAny_pyIter_list (hli _ _ _ N hl) ?_
  have W : Walks prog w A s.heap.objs.size [s.heap.objs.size, l] [s.heap.objs.size] vs.toArray.size (fun i v => vs.toArray[i]? = some v) (fun i h => h.IsListIter s.heap.objs.size l i ∧ h.IsList l vs.toArray) := Walks.list hh s.heap.objs.size l hne vs.toArray
  have hsz : vs.toArray.size = vs.length := by simp
  generalize hI : s.heap.objs.size = I at *
  refine codeAny_forLoop_any
    (fun k s' => ∃ h' tk g m' news' i, s' = { s with heap := h', toks := tk } ∧ h'.IsListIter I l i ∧ Fr g env.locals h' m' ∧ News g env.locals h' news' ∧ (∀ p ∈ news', p.1 ≠ I) ∧ g.get? I = none ∧ J i g m' news' ∧ i ≤ vs.length ∧ k = vs.length + 1 - i) ?_ (vs.length + 1)
    ⟨_, s.toks, g₀, m₀, news, 0, rfl, ⟨_, by rw [← hI]; exact Heap.get?_push_size _ rfl, rfl, rfl⟩, F.push _, fun p hp => ⟨Heap.get?_push_of_some _ (N p hp).1, (N p hp).2⟩, fun p hp z => absurd (Heap.lt_size (N p hp).1) (by rw [z, hI]; exact Nat.lt_irrefl _), by rw [← hI]; exact next_is_new F, h0, Nat.zero_le _, rfl⟩
  rintro k s' ⟨h', tk, g, m', news', i, rfl, hit, F', N', hnw, hgI, hJi, hi, rfl⟩
  have hm' := hJ _ _ _ _ hJi
  have next : ∀ h₁ : Heap, (∀ b o, b ∉ [I] → h'.get? b = some o → h₁.get? b = some o) → Fr g env.locals h₁ m' ∧ News g env.locals h₁ news' := fun h₁ hk₁ =>
    ⟨⟨F'.ns.at' fun o e => hk₁ _ o (fun z => hLI (List.mem_singleton.mp z)) e, fun b o e => hk₁ b o (fun z => by rw [List.mem_singleton.mp z, hgI] at e; cases e) (F'.keep b o e), F'.above⟩,
      fun p hp => ⟨hk₁ _ _ (fun z => hnw p hp (List.mem_singleton.mp z)) (N' p hp).1, (N' p hp).2⟩⟩
  by_cases hlt' : i < vs.length
  · refine W.item i _ _ _ (by rw [hsz]; exact hlt') ⟨hit, hli _ _ _ N' hm'⟩ fun v h₁ tk₁ hv st hk₁ => ?_
    obtain ⟨F₁, N₁⟩ := next h₁ hk₁
    refine letGo_listiter st.1 ?_
    have hv' : v = vs[i] := by
      have hv : vs.toArray[i]? = some v := hv
      rw [List.getElem?_toArray, List.getElem?_eq_getElem hlt'] at hv
      exact (Option.some.inj hv).symm
    subst hv'
    obtain ⟨⟨o, ho, hoc, hod⟩, _⟩ := st
    have NI : News g env.locals h₁ ((I, o) :: news') := fun p hp => by
      rcases List.mem_cons.mp hp with rfl | hp
      · exact ⟨ho, fun z => hLI z.symm, hgI⟩
      · exact N₁ p hp
    have t := turn i hlt' g m' news' h₁ tk₁ o (fun p hp => hI ▸ Heap.lt_size (N p hp).1) hJi hnw F₁ NI
    refine wpAny_passesOwn hE (wpAny_mono t (fun _ s₂ h₂ => wpAny_passesOwn hE (wpAny_mono h₂ (fun f s₃ h₃ => ?_) fun _ _ e => e)) fun _ _ e => e)
    have nxt : (∃ g h' tk' m₂ news₂, s₃ = { s with heap := h', toks := tk' } ∧ Fr g env.locals h' m₂ ∧ News g env.locals h' ((I, o) :: news₂) ∧ (∀ p ∈ news₂, p.1 ≠ I) ∧ J (i + 1) g m₂ news₂) →
        ∃ m, m < vs.length + 1 - i ∧ ∃ h' tk g m' news' i, s₃ = { s with heap := h', toks := tk } ∧ h'.IsListIter I l i ∧ Fr g env.locals h' m' ∧ News g env.locals h' news' ∧ (∀ p ∈ news', p.1 ≠ I) ∧ g.get? I = none ∧ J i g m' news' ∧ i ≤ vs.length ∧ m = vs.length + 1 - i := by
      rintro ⟨g', h'', tk', m₂, news₂, rfl, F₂, N₂, hn₂, hJ₂⟩
      exact ⟨vs.length + 1 - (i + 1), by omega, h'', tk', g', m₂, news₂, i + 1, rfl, ⟨o, (N₂ _ (.head _)).1, hoc, hod⟩, F₂, fun p hp => N₂ p (.tail _ hp), hn₂, (N₂ _ (.head _)).2.2, hJ₂, hlt', rfl⟩
    cases f with
    | ret v => exact h₃
    | brk => exact h₃
    | cont => exact nxt h₃
    | next => exact nxt h₃
  · have hin : i = vs.length := by omega
    subst hin
    refine W.done _ _ _ (by rw [hsz]; exact ⟨hit, hli _ _ _ N' hm'⟩) fun h₁ tk₁ hk₁ => wpAny_execs_nil ?_
    obtain ⟨F₁, N₁⟩ := next h₁ hk₁
    exact done g h₁ tk₁ m' news' F₁ N₁ hJi
end
end Mine
end

-- PlainT
section
open PySem PySem.W PySem.W.X PyProof.Rows PySem.Calls PySem.Builtin PySem.Builtin.Str
namespace Mine
section
variable {x : Str} {p : Int} {dat : PyData}
theorem st_no (h : Txt.startswith3 x (Str.ofString "<") 0 = false) (H : Heard (StartOk x 0) (StartErr x 0) dat) : dat = faultDue 0 := by
  rcases H with ⟨r, e, ⟨rs, b', z, _, _, _⟩, _⟩ | ⟨p, er, rfl⟩
  · rw [h] at z; cases z
  · rcases er with ⟨_, rfl⟩ | ⟨z, _, _⟩ | ⟨z, _, _⟩
    · rfl
    · rw [h] at z; cases z
    · rw [h] at z; cases z
theorem st_nm (h : Txt.startswith3 x (Str.ofString "<") 0 = true) (n : ¬ okN x (0 + 1)) (H : Heard (StartOk x 0) (StartErr x 0) dat) : dat = faultDue 1 := by
  rcases H with ⟨r, e, ⟨rs, b', _, z, _, _⟩, _⟩ | ⟨p, er, rfl⟩
  · exact (n z).elim
  · rcases er with ⟨z, _⟩ | ⟨_, _, rfl⟩ | ⟨_, z, _⟩
    · rw [h] at z; cases z
    · rfl
    · exact (n z).elim
theorem st_tag (h : Txt.startswith3 x (Str.ofString "<") 0 = true) (o : okN x (0 + 1)) (O : Only x (nEnd x (0 + 1)) [] p) (H : Heard (StartOk x 0) (StartErr x 0) dat) : dat = faultDue p := by
  rcases H with ⟨r, e, ⟨rs, b', _, _, R, _⟩, _⟩ | ⟨p', er, rfl⟩
  · exact (O.1 _ _ _ R).elim
  · rcases er with ⟨z, _⟩ | ⟨_, z, _⟩ | ⟨_, _, z⟩
    · rw [h] at z; cases z
    · exact (z o).elim
    · rw [O.2 _ z]; rfl
theorem st_ok {rs : List Int} {b : Bool} {e : Int} (h : Txt.startswith3 x (Str.ofString "<") 0 = true) (o : okN x (0 + 1)) (R : ∀ rs' b' e', TagRun x (nEnd x (0 + 1)) [] rs' b' e' → rs' = rs ∧ b' = b ∧ e' = e) (N : ∀ p, ¬ TagErr x (nEnd x (0 + 1)) [] p) (H : Heard (StartOk x 0) (StartErr x 0) dat) :
    dat = .tuple [.tuple [.str (aName x (0 + 1)), .tuple (rs.map (attrD x)), .bool b], .int e] := by
  rcases H with ⟨r, e', ⟨rs', b', _, _, z, rfl⟩, rfl⟩ | ⟨p', er, rfl⟩
  · obtain ⟨rfl, rfl, rfl⟩ := R _ _ _ z
    rfl
  · rcases er with ⟨z, _⟩ | ⟨_, z, _⟩ | ⟨_, _, z⟩
    · rw [h] at z; cases z
    · exact (z o).elim
    · exact (N _ z).elim
theorem at_no (A : AOnly x 0 p) (H : Heard (AttOk x 0) (AttrErr x 0) dat) : dat = faultDue p := by
  rcases H with ⟨r, e', ⟨z, _, _⟩, _⟩ | ⟨p', er, rfl⟩
  · exact (A.1 z).elim
  · rw [A.2 _ er]; rfl
theorem at_ok (N : ∀ p, ¬ AttrErr x 0 p) (H : Heard (AttOk x 0) (AttrErr x 0) dat) : dat = .tuple [attrD x 0, .int (aF x 0 + 1)] := by
  rcases H with ⟨r, e', ⟨_, rfl, rfl⟩, rfl⟩ | ⟨p', er, rfl⟩
  · rfl
  · exact (N _ er).elim
theorem en_no (h : Txt.startswith3 x (Str.ofString "</") 0 = false) (H : Heard (EndOk x 0) (EndErr x 0) dat) : dat = faultDue 0 := by
  rcases H with ⟨r, e, ⟨z, _⟩, _⟩ | ⟨p, er, rfl⟩
  · rw [h] at z; cases z
  · rcases er with ⟨_, rfl⟩ | ⟨z, _, _⟩ | ⟨z, _, _⟩
    · rfl
    · rw [h] at z; cases z
    · rw [h] at z; cases z
theorem en_nm (h : Txt.startswith3 x (Str.ofString "</") 0 = true) (n : ¬ okN x (0 + 2)) (H : Heard (EndOk x 0) (EndErr x 0) dat) : dat = faultDue 2 := by
  rcases H with ⟨r, e, ⟨_, z, _⟩, _⟩ | ⟨p, er, rfl⟩
  · exact (n z).elim
  · rcases er with ⟨z, _⟩ | ⟨_, _, rfl⟩ | ⟨_, z, _⟩
    · rw [h] at z; cases z
    · rfl
    · exact (n z).elim
theorem en_ab (h : Txt.startswith3 x (Str.ofString "</") 0 = true) (o : okN x (0 + 2)) (g : Txt.startswith3 x (Str.ofString ">") (sEnd x (nEnd x (0 + 2))) = false) (hp : sEnd x (nEnd x (0 + 2)) = p) (H : Heard (EndOk x 0) (EndErr x 0) dat) : dat = faultDue p := by
  rcases H with ⟨r, e, ⟨_, _, z, _⟩, _⟩ | ⟨p', er, rfl⟩
  · rw [g] at z; cases z
  · rcases er with ⟨z, _⟩ | ⟨_, z, _⟩ | ⟨_, _, _, rfl⟩
    · rw [h] at z; cases z
    · exact (z o).elim
    · rw [hp]; rfl
theorem en_ok (h : Txt.startswith3 x (Str.ofString "</") 0 = true) (o : okN x (0 + 2)) (g : Txt.startswith3 x (Str.ofString ">") (sEnd x (nEnd x (0 + 2))) = true) (H : Heard (EndOk x 0) (EndErr x 0) dat) :
    dat = .tuple [.str (aName x (0 + 2)), .int (sEnd x (nEnd x (0 + 2)) + 1)] := by
  rcases H with ⟨r, e, ⟨_, _, _, rfl, rfl⟩, rfl⟩ | ⟨p', er, rfl⟩
  · rfl
  · rcases er with ⟨z, _⟩ | ⟨_, z, _⟩ | ⟨_, _, z, _⟩
    · rw [h] at z; cases z
    · exact (z o).elim
    · rw [g] at z; cases z
end
/-- what a row of the law's table says -/
def TellD (f : Addr) (x : Str) (due : PyData) : Prop :=
  (f = 323 ∧ ∀ dat, Heard (StartOk x 0) (StartErr x 0) dat → dat = due) ∨ (f = 330 ∧ ∀ dat, Heard (AttOk x 0) (AttrErr x 0) dat → dat = due) ∨ (f = 337 ∧ ∀ dat, Heard (EndOk x 0) (EndErr x 0) dat → dat = due)
theorem row1 : TellD 323 (Str.ofString "<a/>") (.tuple [.tuple [.str (Str.ofString "a"), .tuple [], .bool true], .int 4]) := .inl ⟨rfl, fun dat H => by
  have h1 : swS (Str.ofString "<a/>") (nEnd (Str.ofString "<a/>") (0 + 1)) = true := by decide +kernel
  refine st_ok (rs := []) (b := true) (e := 4) (by decide +kernel) ⟨by decide +kernel, by decide +kernel⟩ (fun rs b e R => ?_) (fun p R => ?_) H
  · cases R with
    | slash _ => exact ⟨rfl, rfl, by decide +kernel⟩
    | angle h _ => rw [h1] at h; cases h
    | more h _ _ _ _ _ => rw [h1] at h; cases h
  · cases R with
    | gap h _ _ => rw [h1] at h; cases h
    | attr h _ _ _ => rw [h1] at h; cases h
    | twice h _ _ _ _ => rw [h1] at h; cases h
    | more h _ _ _ _ _ => rw [h1] at h; cases h⟩
abbrev x2 : Str := Str.ofString "<a k = 'x'>"
theorem row2 : TellD 323 x2 (.tuple [.tuple [.str (Str.ofString "a"), .tuple [.tuple [.str (Str.ofString "k"), .tuple [.str (Str.ofString "x"), .int 8]]], .bool false], .int 11]) := .inl ⟨rfl, fun dat H => by
  have hA : At x2 (nEnd x2 (0 + 1)) [32, 107, 32, 61, 32, 39, 120, 39, 62] := ⟨by decide +kernel, by decide +kernel, by decide +kernel⟩
  have S : SegOk [107] [32] [32] [120] 39 := ⟨⟨107, [], rfl, rfl, nofun⟩, by decide, by decide, .inr rfl, by decide, by decide, by decide⟩
  obtain ⟨s1, s2, A⟩ := step_at (ss := []) (sp := [32]) (l := [62]) S (by decide) (by decide) hA nofun
  have e1 : nEnd x2 (0 + 1) + (([32] : List Nat).length : Int) = 3 := by decide +kernel
  rw [e1] at s1 s2 A
  have e2 : aF x2 3 + 1 = 10 := by decide +kernel
  rw [e2] at s1 s2
  have h1 : swS x2 10 = false := by decide +kernel
  have h2 : swG x2 10 = true := by decide +kernel
  have := st_ok (x := x2) (rs := [3]) (b := false) (e := 11) (by decide +kernel) ⟨by decide +kernel, by decide +kernel⟩ (fun rs b e R => by
    have R := s1 _ _ _ R
    cases R with
    | slash h => rw [h1] at h; cases h
    | angle _ _ => exact ⟨rfl, rfl, by decide +kernel⟩
    | more _ h _ _ _ _ => rw [h2] at h; cases h) (fun p R => by
    have R := s2 _ R
    cases R with
    | gap _ h _ => rw [h2] at h; cases h
    | attr _ h _ _ => rw [h2] at h; cases h
    | twice _ h _ _ _ => rw [h2] at h; cases h
    | more _ h _ _ _ _ => rw [h2] at h; cases h) H
  rw [this]
  have n1 : aName x2 (0 + 1) = Str.ofString "a" := by decide +kernel
  have n2 : aQ x2 3 + 1 = 8 := by decide +kernel
  have n3 : aName x2 3 = Str.ofString "k" := A.name
  have n4 : aRaw x2 3 = Str.ofString "x" := A.raw
  simp only [List.map_cons, List.map_nil, attrD, n1, n2, n3, n4]⟩
theorem row3 : TellD 323 (Str.ofString "a>") (faultDue 0) := .inl ⟨rfl, fun dat H => st_no (by decide +kernel) H⟩
theorem row4 : TellD 323 (Str.ofString "<>") (faultDue 1) := .inl ⟨rfl, fun dat H => st_nm (by decide +kernel) (fun z => absurd z.2 (by decide +kernel)) H⟩
abbrev x5 : Str := Str.ofString "<a k='1'/x"
theorem row5 : TellD 323 x5 (faultDue 8) := .inl ⟨rfl, fun dat H => by
  have hA : At x5 (nEnd x5 (0 + 1)) [32, 107, 61, 39, 49, 39, 47, 120] := ⟨by decide +kernel, by decide +kernel, by decide +kernel⟩
  have S : SegOk [107] [] [] [49] 39 := ⟨⟨107, [], rfl, rfl, nofun⟩, by decide, by decide, .inr rfl, by decide, by decide, by decide⟩
  obtain ⟨s1, s2, A⟩ := step_at (ss := []) (sp := [32]) (l := [47, 120]) S (by decide) (by decide) hA nofun
  have e1 : aF x5 (nEnd x5 (0 + 1) + (([32] : List Nat).length : Int)) + 1 = 8 := by decide +kernel
  rw [e1] at s1 s2
  have O : ∀ ss, Only x5 8 ss 8 := fun ss => only_gap (by decide +kernel) (by decide +kernel) (by decide +kernel)
  exact st_tag (by decide +kernel) ⟨by decide +kernel, by decide +kernel⟩ ⟨fun _ _ _ R => (O _).1 _ _ _ (s1 _ _ _ R), fun _ R => (O _).2 _ (s2 _ R)⟩ H⟩
abbrev x6 : Str := Str.ofString "<a k='1' l='2' k='3'>"
theorem row6 : TellD 323 x6 (faultDue 15) := .inl ⟨rfl, fun dat H => by
  have hA : At x6 (nEnd x6 (0 + 1)) [32, 107, 61, 39, 49, 39, 32, 108, 61, 39, 50, 39, 32, 107, 61, 39, 51, 39, 62] := ⟨by decide +kernel, by decide +kernel, by decide +kernel⟩
  have S : SegOk [107] [] [] [49] 39 := ⟨⟨107, [], rfl, rfl, nofun⟩, by decide, by decide, .inr rfl, by decide, by decide, by decide⟩
  obtain ⟨s1, s2, A⟩ := step_at (ss := []) (sp := [32]) (l := [32, 108, 61, 39, 50, 39, 32, 107, 61, 39, 51, 39, 62]) S (by decide) (by decide) hA nofun
  have e1 : nEnd x6 (0 + 1) + (([32] : List Nat).length : Int) = 3 := by decide +kernel
  rw [e1] at s1 s2 A
  have e2 : aF x6 3 + 1 = 8 := by decide +kernel
  rw [e2] at s1 s2
  have hB : At x6 8 [32, 108, 61, 39, 50, 39, 32, 107, 61, 39, 51, 39, 62] := ⟨by decide +kernel, by decide +kernel, by decide +kernel⟩
  have S' : SegOk [108] [] [] [50] 39 := ⟨⟨108, [], rfl, rfl, nofun⟩, by decide, by decide, .inr rfl, by decide, by decide, by decide⟩
  have nk : aName x6 3 = Str.ofString "k" := A.name
  obtain ⟨t1, t2, B⟩ := step_at (ss := [] ++ [3]) (sp := [32]) (l := [32, 107, 61, 39, 51, 39, 62]) S' (by decide) (by decide) hB (fun t ht => by
    rw [List.mem_singleton.mp ht, nk]
    decide +kernel)
  have e3 : (8 : Int) + (([32] : List Nat).length : Int) = 9 := by decide +kernel
  rw [e3] at t1 t2 B
  have e4 : aF x6 9 + 1 = 14 := by decide +kernel
  rw [e4] at t1 t2
  have hC : At x6 15 [107, 61, 39, 51, 39, 62] := ⟨by decide +kernel, by decide +kernel, by decide +kernel⟩
  have C := attr_at (nm := [107]) (g := []) (e := []) (r := [51]) (l := [62]) (q := 39) ⟨⟨107, [], rfl, rfl, nofun⟩, by decide, by decide, .inr rfl, by decide, by decide, by decide⟩ hC
  have e5 : sEnd x6 14 = 15 := by decide +kernel
  have O : Only x6 14 ([] ++ [3] ++ [9]) 15 := by
    have := only_twice (x := x6) (j := 14) (ss := [] ++ [3] ++ [9]) (by decide +kernel) (by decide +kernel) (by decide +kernel) (by rw [e5]; exact C.no) ⟨3, by simp, by rw [e5, nk]; exact C.name.symm⟩
    rwa [e5] at this
  exact st_tag (by decide +kernel) ⟨by decide +kernel, by decide +kernel⟩ ⟨fun _ _ _ R => O.1 _ _ _ (t1 _ _ _ (s1 _ _ _ R)), fun _ R => O.2 _ (t2 _ (s2 _ R))⟩ H⟩
abbrev x7 : Str := Str.ofString "k='1'"
theorem row7 : TellD 330 x7 (.tuple [.tuple [.str (Str.ofString "k"), .tuple [.str (Str.ofString "1"), .int 3]], .int 5]) := .inr (.inl ⟨rfl, fun dat H => by
  have hA : At x7 0 [107, 61, 39, 49, 39] := ⟨by decide +kernel, by decide +kernel, by decide +kernel⟩
  have A := attr_at (nm := [107]) (g := []) (e := []) (r := [49]) (l := []) (q := 39) ⟨⟨107, [], rfl, rfl, nofun⟩, by decide, by decide, .inr rfl, by decide, by decide, by decide⟩ hA
  have n1 : aName x7 0 = Str.ofString "k" := A.name
  have n2 : aRaw x7 0 = Str.ofString "1" := A.raw
  have n3 : aQ x7 0 + 1 = 3 := by decide +kernel
  have n4 : aF x7 0 + 1 = 5 := by decide +kernel
  rw [at_ok A.no H]
  simp only [attrD, n1, n2, n3, n4]⟩)
theorem row8 : TellD 330 (Str.ofString "='1'") (faultDue 0) := .inr (.inl ⟨rfl, fun dat H => at_no (a_n (fun z => absurd z.2 (by decide +kernel))) H⟩)
theorem row9 : TellD 330 (Str.ofString "k '1'") (faultDue 2) := .inr (.inl ⟨rfl, fun dat H => by
  have := at_no (a_e (x := Str.ofString "k '1'") (s := 0) ⟨by decide +kernel, by decide +kernel⟩ (by decide +kernel)) H
  rw [this]
  exact congrArg faultDue (by decide +kernel)⟩)
abbrev x10 : Str := Str.ofString "k='a<b'"
theorem row10 : TellD 330 x10 (faultDue 4) := .inr (.inl ⟨rfl, fun dat H => by
  have := at_no (a_l (x := x10) (s := 0) ⟨by decide +kernel, by decide +kernel⟩ (by decide +kernel) ⟨by decide +kernel, .inr (by decide +kernel)⟩ (by decide +kernel) (by decide +kernel)) H
  rw [this]
  exact congrArg faultDue (by decide +kernel)⟩)
abbrev x11 : Str := Str.ofString "</a >x"
theorem row11 : TellD 337 x11 (.tuple [.str (Str.ofString "a"), .int 5]) := .inr (.inr ⟨rfl, fun dat H => by
  have n1 : aName x11 (0 + 2) = Str.ofString "a" := by decide +kernel
  have n2 : sEnd x11 (nEnd x11 (0 + 2)) + 1 = 5 := by decide +kernel
  rw [en_ok (x := x11) (by decide +kernel) ⟨by decide +kernel, by decide +kernel⟩ (by decide +kernel) H, n1, n2]⟩)
theorem row12 : TellD 337 (Str.ofString "<a>") (faultDue 0) := .inr (.inr ⟨rfl, fun dat H => en_no (by decide +kernel) H⟩)
theorem row13 : TellD 337 (Str.ofString "</ a>") (faultDue 2) := .inr (.inr ⟨rfl, fun dat H => en_nm (by decide +kernel) (fun z => absurd z.2 (by decide +kernel)) H⟩)
theorem row14 : TellD 337 (Str.ofString "</a b>") (faultDue 4) := .inr (.inr ⟨rfl, fun dat H => en_ab (by decide +kernel) ⟨by decide +kernel, by decide +kernel⟩ (by decide +kernel) (by decide +kernel) H⟩)
theorem row15 : TellD 337 (Str.ofString "</a") (faultDue 3) := .inr (.inr ⟨rfl, fun dat H => en_ab (by decide +kernel) ⟨by decide +kernel, by decide +kernel⟩ (by decide +kernel) (by decide +kernel) H⟩)
end Mine
end

-- ToldDef
section
open PySem PySem.W PySem.W.X PyProof.Rows PySem.Calls
namespace Mine
/-- a row of the law's table in the ledger -/
def RowJ (news : List (Addr × Obj)) (v : Value) : Prop := ∃ a x t f b due, v = .ref a ∧ (a, tup3 (.str x t) (.ref f) (.ref b)) ∈ news ∧ TellD f x due ∧ RdIn news (.ref b) due ∧ x.length ≤ 100 ∧ Asc x ∧ SeqAt.shaped due = true
theorem rowJ {news : List (Addr × Obj)} {a f b : Addr} {x : Str} {t : Tok} {due : PyData} (h : (a, tup3 (.str x t) (.ref f) (.ref b)) ∈ news) (r : TellD f x due) (rd : RdIn news (.ref b) due) (hl : x.length ≤ 100) (ha : ascB x = true) (hs : SeqAt.shaped due = true) : RowJ news (.ref a) :=
  ⟨a, x, t, f, b, due, rfl, h, r, rd, hl, asc_b ha, hs⟩
inductive AllRow (news : List (Addr × Obj)) : List Value → Prop
  | nil : AllRow news []
  | cons {v : Value} {vs : List Value} : RowJ news v → AllRow news vs → AllRow news (v :: vs)
theorem AllRow.at {news : List (Addr × Obj)} : ∀ {vs : List Value}, AllRow news vs → ∀ (i : Nat) (hi : i < vs.length), RowJ news vs[i]
  | _, .cons r _, 0, _ => r
  | _, .cons _ z, i + 1, hi => z.at i (Nat.lt_of_succ_lt_succ hi)
theorem rdFault {news : List (Addr × Obj)} {b : Addr} {t u : Tok} {p : Int} (h : (b, tup2 (.str (Str.ofString "fault") t) (.int p u)) ∈ news) : RdIn news (.ref b) (faultDue p) := RdIn.tuple (vs := [_, _]) h (.cons (.str _ _) (.cons (.int _ _) .nil))
theorem gen_rows {M : Model} {A : Around} {Q E : Value → Shared → Prop} {s : Shared} {g : Heap} {L l : Addr} {vs : List Value} {n : Nat} {W news : List (Addr × Obj)} (N : News g L s.heap W) (hsub : ∀ q ∈ news, q ∈ W) (hl : (l, PySem.W.listOf vs.toArray n) ∈ W) (hall : AllRow W vs)
    (k : ∀ W vs, News g L s.heap W → (∀ q ∈ news, q ∈ W) → (l, PySem.W.listOf vs.toArray n) ∈ W → AllRow W vs → wpAny M A (pyIter (.ref l)) Q E s) : wpAny M A (pyIter (.ref l)) Q E s := k W vs N hsub hl hall
theorem t_attrX {w : World} {x : Str} {k : Int} (h : StartX x k) : Tells w 330 x k (AttOk x k) (AttrErr x k) := t_attr h.1 h.2.1 h.2.2.1 h.2.2.2
theorem t_endX {w : World} {x : Str} {k : Int} (h : StartX x k) : Tells w 337 x k (EndOk x k) (EndErr x k) := t_end h.1 h.2.1 h.2.2.1 h.2.2.2
theorem startX_0 {x : Str} (hl : x.length ≤ 100) (ha : Asc x) : StartX x 0 := ⟨by omega, Int.le_refl _, by omega, ha⟩
end Mine
end

-- ToldE
section
open PySem PySem.W PySem.W.X PyProof.Rows PySem.Calls
namespace Mine
mutual
/-- the expression writes the datum out -/
inductive Lit : Expr → PyData → Prop
  | str {x : Str} {k : Nat} {p : Pos} : Lit (.Constant (.str x) k p) (.str x)
  | int {i : Int} {k : Nat} {p : Pos} : Lit (.Constant (.int i) k p) (.int i)
  | bool {b : Bool} {k : Nat} {p : Pos} : Lit (.Constant (.bool b) k p) (.bool b)
  | tup {es : List Expr} {ds : List PyData} {k : Nat} {p : Pos} : Lits es ds → es.length ≤ 100 → Lit (.Tuple es k p) (.tuple ds)
inductive Lits : List Expr → List PyData → Prop
  | nil : Lits [] []
  | cons {e : Expr} {d : PyData} {es : List Expr} {ds : List PyData} : Lit e d → Lits es ds → Lits (e :: es) (d :: ds)
end
theorem Lit.star {e : Expr} {d : PyData} {rest : List Expr} {env : Env} : Lit e d → starEach (e :: rest) env = (false, eval e env) :: starEach rest env
  | .str | .int | .bool | .tup _ _ => rfl
section
variable {M : Model} {A : Around} {E : Value → Shared → Prop} {env : Env} {h₀ : Heap} {L : Addr} {m : Str → Option Value}
mutual
theorem lit_eval {e : Expr} {d : PyData} : Lit e d → ∀ {s : Shared} {news : List (Addr × Obj)} {Q : Value → Shared → Prop}, Fr h₀ L s.heap m → News h₀ L s.heap news →
    (∀ v ex h' tk', Fr h₀ L h' m → News h₀ L h' (ex ++ news) → RdIn ex v d → (∀ p ∈ news, ∀ q ∈ ex, q.1 ≠ p.1) → Q v {s with heap := h', toks := tk'}) → wpAny M A (eval e env) Q E s
  | .str, s, _, _, F, N, k => wpAny_Constant_str (k _ [] s.heap _ F N (.str _ _) (fun _ _ _ h => nomatch h))
  | .int, s, _, _, F, N, k => wpAny_Constant_int (k _ [] s.heap _ F N (.int _ _) (fun _ _ _ h => nomatch h))
  | .bool, s, _, _, F, N, k => wpAny_Constant_bool (k _ [] s.heap s.toks F N (.bool _) (fun _ _ _ h => nomatch h))
  | .tup hs hl, s, news, Q, F, N, k => Tuple_ (lits_each hs F N fun vs ex h' tk' F' N' R S l => newTuple_N F' N' (hsz := by rw [sizeLine_eq]; omega) (s := {s with heap := h', toks := tk'}) fun h'' F'' N'' =>
      k _ ((_, _) :: ex) h'' tk' F'' N'' (.tuple (.head _) (R.mono fun q hq => .tail _ hq)) fun p hp q hq => by
        rcases List.mem_cons.mp hq with rfl | hq
        · exact Nat.ne_of_gt (Heap.lt_size (N' p (List.mem_append_right _ hp)).1)
        · exact S p hp q hq)
theorem lits_each {es : List Expr} {ds : List PyData} : Lits es ds → ∀ {s : Shared} {news : List (Addr × Obj)} {Q : List Value → Shared → Prop} {pos : Pos}, Fr h₀ L s.heap m → News h₀ L s.heap news →
    (∀ vs ex h' tk', Fr h₀ L h' m → News h₀ L h' (ex ++ news) → RdAll ex vs ds → (∀ p ∈ news, ∀ q ∈ ex, q.1 ≠ p.1) → vs.length = es.length → Q vs {s with heap := h', toks := tk'}) → wpAny M A (spliced (backTo pos (starEach es env))) Q E s
  | .nil, s, _, _, _, F, N, k => wpAny_items_nil (k [] [] s.heap s.toks F N .nil (fun _ _ _ h => nomatch h) rfl)
  | .cons he hes, s, news, Q, pos, F, N, k => wpAny_items_cons (he := he.star) (lit_eval he F N fun v ex h' tk' F' N' R S => lits_each hes F' N' fun vs ex' h'' tk'' F'' N'' R' S' l =>
      k (v :: vs) (ex' ++ ex) h'' tk'' F'' (by rw [List.append_assoc]; exact N'') (.cons (R.mono fun q hq => List.mem_append_right _ hq) (R'.mono fun q hq => List.mem_append_left _ hq)) (fun p hp q hq => by
        rcases List.mem_append.mp hq with hq | hq
        · exact S' p (List.mem_append_right _ hp) q hq
        · exact S p hp q hq) (by simp [l]))
end
end
/-- a function's name in the law's table -/
inductive NmAt : Str → Addr → Prop
  | start : NmAt (Str.ofString "_law_start") 323
  | attr : NmAt (Str.ofString "_law_attribute") 330
  | fin : NmAt (Str.ofString "_law_end") 337
inductive RowE : Expr → Prop
  | mk {x f : Str} {n : Addr} {k1 k2 k3 : Nat} {es : List Expr} {ds : List PyData} {p1 p2 p3 p4 : Pos} : NmAt f n → TellD n x (.tuple ds) → Lits es ds → es.length ≤ 100 → x.length ≤ 100 → ascB x = true → SeqAt.shaped (.tuple ds) = true → RowE (.Tuple [.Constant (.str x) k1 p1, .Name f p2, .Tuple es k3 p4] k2 p3)
inductive RowsE : List Expr → Prop
  | nil : RowsE []
  | cons {e : Expr} {es : List Expr} : RowE e → RowsE es → RowsE (e :: es)
theorem RowJ.mono {n₁ n₂ : List (Addr × Obj)} {v : Value} (k : ∀ q ∈ n₁, q ∈ n₂) : RowJ n₁ v → RowJ n₂ v := fun ⟨a, x, t, f, b, due, e, h, r, rd, z⟩ => ⟨a, x, t, f, b, due, e, k _ h, r, rd.mono k, z⟩
theorem AllRow.mono {n₁ n₂ : List (Addr × Obj)} (k : ∀ q ∈ n₁, q ∈ n₂) : ∀ {vs : List Value}, AllRow n₁ vs → AllRow n₂ vs
  | _, .nil => .nil
  | _, .cons r z => .cons (r.mono k) (z.mono k)
theorem AllRow.append {n : List (Addr × Obj)} : ∀ {vs ws : List Value}, AllRow n vs → AllRow n ws → AllRow n (vs ++ ws)
  | _, _, .nil, y => y
  | _, _, .cons r z, y => .cons r (z.append y)
theorem RowE.star {e : Expr} {rest : List Expr} {env : Env} : RowE e → starEach (e :: rest) env = (false, eval e env) :: starEach rest env
  | .mk _ _ _ _ _ _ _ => rfl
section
variable {M : Model} {A : Around} {E : Value → Shared → Prop} {env : Env} {h₀ : Heap} {L : Addr} {m : Str → Option Value}
/-- the three names stand for the three functions -/
structure NmOk (M : Model) (A : Around) (E : Value → Shared → Prop) (env : Env) (h₀ : Heap) (L : Addr) : Prop where
  out : ∀ {f n}, NmAt f n → ∀ {m : Str → Option Value} {s : Shared} {Q : Value → Shared → Prop} {pos : Pos}, Fr h₀ L s.heap m → Q (.ref n) s → wpAny M A (eval (.Name f pos) env) Q E s
theorem row_eval {e : Expr} (H : NmOk M A E env h₀ L) (r : RowE e) {s : Shared} {news : List (Addr × Obj)} {Q : Value → Shared → Prop} (F : Fr h₀ L s.heap m) (N : News h₀ L s.heap news)
    (k : ∀ v ex h' tk', Fr h₀ L h' m → News h₀ L h' (ex ++ news) → RowJ ex v → (∀ p ∈ news, ∀ q ∈ ex, q.1 ≠ p.1) → Q v {s with heap := h', toks := tk'}) : wpAny M A (eval e env) Q E s := by
  obtain ⟨hf, ht, hl, hes, hx, ha, hs⟩ := r
  refine Tuple_ (wpAny_items_cons (wpAny_Constant_str (wpAny_items_cons (H.out hf F (wpAny_items_cons (Tuple_ (lits_each hl F N fun vs ex h' tk' F' N' R S l => ?_)) ?_)) rfl)) rfl)
  · refine newTuple_N F' N' (hsz := by rw [sizeLine_eq]; omega) (s := {s with heap := h', toks := tk'}) fun h2 F2 N2 => wpAny_items_nil (newTuple_N F2 N2 (hsz := by rw [sizeLine_eq]; exact Nat.le_of_ble_eq_true rfl) (s := {s with heap := h2, toks := tk'}) fun h3 F3 N3 => ?_)
    refine k _ ((_, _) :: (_, _) :: ex) h3 tk' F3 N3 ⟨_, _, _, _, _, _, rfl, .head _, ht, .tuple (.tail _ (.head _)) (R.mono fun q hq => .tail _ (.tail _ hq)), hx, asc_b ha, hs⟩ fun p hp q hq => ?_
    rcases List.mem_cons.mp hq with rfl | hq
    · exact Nat.ne_of_gt (Heap.lt_size (N2 p (.tail _ (List.mem_append_right _ hp))).1)
    rcases List.mem_cons.mp hq with rfl | hq
    · exact Nat.ne_of_gt (Heap.lt_size (N' p (List.mem_append_right _ hp)).1)
    exact S p hp q hq
  · rfl
theorem rows_each (H : NmOk M A E env h₀ L) {pos : Pos} : ∀ {es : List Expr}, RowsE es → ∀ {s : Shared} {news : List (Addr × Obj)} {Q : List Value → Shared → Prop}, Fr h₀ L s.heap m → News h₀ L s.heap news →
    (∀ vs ex h' tk', Fr h₀ L h' m → News h₀ L h' (ex ++ news) → AllRow ex vs → (∀ p ∈ news, ∀ q ∈ ex, q.1 ≠ p.1) → vs.length = es.length → Q vs {s with heap := h', toks := tk'}) → wpAny M A (spliced (backTo pos (starEach es env))) Q E s
  | _, .nil, s, _, _, F, N, k => wpAny_items_nil (k [] [] s.heap s.toks F N .nil (fun _ _ _ h => nomatch h) rfl)
  | _, .cons he hes, s, news, Q, F, N, k => wpAny_items_cons (he := he.star) (row_eval H he F N fun v ex h' tk' F' N' R S => rows_each H hes F' N' fun vs ex' h'' tk'' F'' N'' R' S' l =>
      k (v :: vs) (ex' ++ ex) h'' tk'' F'' (by rw [List.append_assoc]; exact N'') (.cons (R.mono fun q hq => List.mem_append_right _ hq) (R'.mono fun q hq => List.mem_append_left _ hq)) (fun p hp q hq => by
        rcases List.mem_append.mp hq with hq | hq
        · exact S' p (List.mem_append_right _ hp) q hq
        · exact S p hp q hq) (by simp [l]))
/-- a display of rows -/
theorem rows_list (H : NmOk M A E env h₀ L) {es : List Expr} {pos : Pos} (r : RowsE es) (hes : es.length ≤ 100) {s : Shared} {news : List (Addr × Obj)} {Q : Value → Shared → Prop} (F : Fr h₀ L s.heap m) (N : News h₀ L s.heap news)
    (k : ∀ l vs W h' tk', Fr h₀ L h' m → News h₀ L h' ((l, PySem.W.listOf vs.toArray 0) :: W) → (∀ q ∈ news, q ∈ W) → AllRow W vs → (∀ p ∈ W, p.1 ≠ l) → vs.length = es.length → Q (.ref l) {s with heap := h', toks := tk'}) : wpAny M A (eval (.List es pos) env) Q E s :=
  List_ (rows_each H r F N fun vs ex h' tk' F' N' R _ l => newList_N F' N' (hsz := by rw [sizeLine_eq]; omega) (s := {s with heap := h', toks := tk'}) fun h2 F2 N2 =>
    k _ vs (ex ++ news) h2 tk' F2 N2 (fun q hq => List.mem_append_right _ hq) (R.mono fun q hq => List.mem_append_left _ hq) (fun p hp => Nat.ne_of_lt (Heap.lt_size (N' p hp).1)) l)
end
section
variable {w : World} {A : Around} {E : Value → Shared → Prop} {h₀ : Heap} {L a : Addr} {m : Str → Option Value} {cn : Str} {cs : Scope} {ccd : Value}
/-- rows + [..] -/
theorem rows_add {x : Str} (H : NmOk (model prog w) A E (envX cn cs L a ccd []) h₀ L) {es : List Expr} {pos p1 p2 : Pos} {l n : Nat} {vs : List Value} (r : RowsE es) (hes : es.length ≤ 100) {s : Shared} {W : List (Addr × Obj)} {Q : Value → Shared → Prop} (F : Fr h₀ L s.heap m) (hx : m x = some (.ref l)) (N : News h₀ L s.heap ((l, PySem.W.listOf vs.toArray n) :: W))
    (hr : AllRow W vs) (hvs : vs.length ≤ 100) (hk : cs.kind = .function) (hkx : (envX cn cs L a ccd []).kindOf x = some .local) (hd : (x == ("__debug__" : Str)) = false)
    (k : ∀ l' vs' W' h' tk', Fr h₀ L h' m → News h₀ L h' ((l', PySem.W.listOf vs'.toArray 0) :: W') → (∀ q ∈ W, q ∈ W') → AllRow W' vs' → (∀ p ∈ W', p.1 ≠ l') → vs'.length = vs.length + es.length → Q (.ref l') {s with heap := h', toks := tk'}) : wpAny (model prog w) A (eval (.BinOp (.Name x p1) .Add (.List es p2) pos) (envX cn cs L a ccd [])) Q E s := by
  refine wpAny_BinOp (nameX_L F hx ?_ hk hkx hd)
  refine rows_list H r hes F N fun l2 vs2 W2 h2 tk2 F2 N2 S2 R2 _ e2 => ?_
  have b1 := (N2 _ (.tail _ (S2 _ (.head _)))).1
  have b2 := (N2 _ (.head _)).1
  refine kmk_add_lit (s := {s with heap := h2, toks := tk2}) F2 N2 (its := vs.toArray) (its2 := vs2.toArray) ⟨_, b1, rfl, _, rfl⟩ ⟨_, b2, rfl, _, rfl⟩ rfl (fun D h' F' N' l1 => ?_) (by rw [sizeLine_eq]; simp only []; omega)
  exact k D _ _ h' tk2 F' N' (fun q hq => .tail _ (S2 _ (.tail _ hq))) ((hr.mono fun q hq => .tail _ (S2 _ (.tail _ hq))).append (R2.mono fun q hq => .tail _ hq)) (fun p hp => Nat.ne_of_lt (l1 p hp)) (by simp [e2])
/-- rows.append(row): the call, its row told -/
theorem rows_push {l n : Nat} {v : Value} {vs : List Value} {s : Shared} {W ex : List (Addr × Obj)} {Q : Value → Shared → Prop} (F : Fr h₀ L s.heap m) (N : News h₀ L s.heap (ex ++ (l, PySem.W.listOf vs.toArray n) :: W)) (hr : AllRow W vs) (r : RowJ ex v) (hW : ∀ p ∈ W, p.1 ≠ l) (S : ∀ p ∈ (l, PySem.W.listOf vs.toArray n) :: W, ∀ q ∈ ex, q.1 ≠ p.1) (hvs : vs.length ≤ 100)
    (k : ∀ W' h', Fr h₀ L h' m → News h₀ L h' ((l, PySem.W.listOf (vs ++ [v]).toArray (n + 1)) :: W') → (∀ q ∈ W, q ∈ W') → AllRow W' (vs ++ [v]) → (∀ p ∈ W', p.1 ≠ l) → Q .none {s with heap := h'}) : wpAny (model prog w) A (call (.builtin "list.append") [.ref l, v]) Q E s := by
  have N1 : News h₀ L s.heap ((l, PySem.W.listOf vs.toArray n) :: (ex ++ W)) := news_sub N fun q hq => by
    rcases List.mem_cons.mp hq with rfl | hq
    · exact List.mem_append_right _ (.head _)
    rcases List.mem_append.mp hq with hq | hq
    · exact List.mem_append_left _ hq
    · exact List.mem_append_right _ (.tail _ hq)
  have hW1 : ∀ p ∈ ex ++ W, p.1 ≠ l := fun p hp => by
    rcases List.mem_append.mp hp with hq | hq
    · exact S _ (.head _) p hq
    · exact hW p hq
  refine append_K F N1 (.head hW1) (fun h' F' N' => ?_) (by rw [sizeLine_eq]; simp; omega)
  rw [List.push_toArray] at N'
  exact k (ex ++ W) h' F' N' (fun q hq => List.mem_append_right _ hq) ((hr.mono fun q hq => List.mem_append_right _ hq).append (.cons (r.mono fun q hq => List.mem_append_left _ hq) .nil)) hW1
end
end Mine
end

-- Told
example : True ∧ True := by
  first | walk1 | constructor
  all_goals trivial
section
open PySem PySem.W PySem.W.X PyProof.Rows PySem.Calls
namespace Mine
set_option hygiene false
section
variable {w : World} {A₀ : Around} {E Q : Value → Shared → Prop} {s : Shared} {base h₀ : Heap} {outer : List Env} {L a : Addr} {m : Str → Option Value} {mg mb : Str → Option Value} {mean : ExcName → Option Value} {dp un : Nat} {gd : Option (List Code)} {cn : Str} {cs : Scope} {ccd : Value} {cl : List (Str × Addr)} {news : List (Addr × Obj)}
local macro_rules | `(tactic| walk_at "exec For Tuple BinOp cons nil") => `(tactic| ((rename Fr _ _ _ _ => lF'); (with_unfolding_all refine For_G lF' ?_)))
local macro_rules | `(tactic| walk_at "pyIter ref") => `(tactic| ((with_reducible show wpAny _ _ (pyIter (Value.ref _)) (fun it s₂ => ForGAt _ _ _ _ _ _ _ _ it s₂) _ _); refine halt ?_))
local macro_rules | `(tactic| walk_at "call ref") => `(tactic| ((with_reducible show wpAny _ _ (call (Value.ref 316) _) _ _ _); refine halt ?_))
local macro_rules | `(tactic| walk_at "eval List") => `(tactic| refine halt ?_)
local macro_rules | `(tactic| walk_at "eval BinOp") => `(tactic| refine halt ?_)
local macro_rules | `(tactic| walk_at "eval Tuple") => `(tactic| refine halt ?_)
local macro_rules | `(tactic| walk_at "call builtin:list.append") => `(tactic| refine halt ?_)
theorem nmOk (X : (hd.heap_1 w.params).In h₀) (T : TopH mean mg mb h₀) (hk : cs.kind = .function) (hx : ∀ f n, NmAt f n → (envX cn cs L a ccd []).kindOf f = some .globalImplicit) : NmOk (model prog w) A₀ E (envX cn cs L a ccd []) h₀ L := ⟨fun {f n} h => by
  have hk' := hx f n h
  cases h <;> exact fun {m s Q pos} F q => nameX_K F (by k_asm) (by k_asm) (by k_is) q hk hk' (by decide)⟩
theorem c_told
 (B : Below A₀ base [] h₀) (F : Fr h₀ L s.heap m) (X : (hd.heap_1 w.params).In h₀) (T : TopH mean mg mb h₀) (hck : cs.kind = .function)
 (N : News h₀ L s.heap news) (hdp : dp ≤ 20 + 600) (hun : un ≤ 20)
 (hQ : ∀ h' tk', Fr h₀ L h' m → News h₀ L h' news → Q (.bool true) {s with heap := h', toks := tk'})
 (XB : (hd.heap_1 w.params).In base) (TB : TopH mean mg mb base)
 : wpAny (model prog w) (ktrTop dp un gd cn cs L a ccd [] []) (call (.ref 358) []) Q E s := by
  w_top off
  refine wpAny_call ?_
  k_dflt (refine' code_defS0 ?k1 ?k2 ?k3 ?k4 ?k5 ?kA ?k6 ?k7 ?k8 ?k9 ?kB ?_ ?cK ?c2 ?c3 ?c4 ?c5; (case kA => exact rfl); (case k2 => k_asm); (case k1 => k_asm); (case k3 => k_asm); (case k4 => k_asm); (case k5 => k_asm); (case k6 => k_is); (case k7 => k_is); (case k8 => ktr_room); (case k9 => first | exact BindsTo.of_eq rfl | exact binds_K (by k_in) rfl (by k_is) rfl rfl rfl); (case kB => exact locs rfl); (case cK => assumption); (case c2 => exact rfl); (case c3 => exact rfl); (case c4 => exact rfl); (case c5 => decide); k_whole)
  intro g9 L9 h9 FG9 F9 N9 B9 X9 T9 D9
  (try dsimp only); (try k_lift B9); (try k_fold)
  k_steps
  refine ⟨?_⟩
  refine rows_list (nmOk X9 T9 (by exact rfl) (by intro f n h; cases h <;> exact rfl)) (.cons (.mk .start row1 (.cons (.tup (.cons .str (.cons (.tup .nil (by decide)) (.cons .bool .nil))) (by decide)) (.cons .int .nil)) (by decide) (by decide) (by decide) (by decide +kernel)) .nil) (by decide) F9 N9 ?_
  intro l0 vs0 W0 h0 tk0 F0 N0 S0 R0 D0 e0
  simp only [List.length_cons, List.length_nil] at e0
  k_steps
  refine ⟨?_⟩
  refine row_eval (nmOk X9 T9 (by exact rfl) (by intro f n h; cases h <;> exact rfl)) (.mk .start row2 (.cons (.tup (.cons .str (.cons (.tup (.cons (.tup (.cons .str (.cons (.tup (.cons .str (.cons .int .nil)) (by decide)) .nil)) (by decide)) .nil) (by decide)) (.cons .bool .nil))) (by decide)) (.cons .int .nil)) (by decide) (by decide) (by decide) (by decide +kernel)) (by assumption) (by assumption) ?_
  intro v1 ex1 h1 tk1 F1 N1 R1 S1
  k_steps
  refine ⟨?_⟩
  refine rows_push (by assumption) (by assumption) R0 R1 D0 S1 (by omega) ?_
  clear R0 D0 R1 S1
  intro W1 h1 F1 N1 S1 R1 D1
  have e1 : (vs0 ++ [v1]).length = 2 := by simp [e0]
  generalize vs0 ++ [v1] = vs1 at *
  k_steps
  refine ⟨?_⟩
  refine rows_add (nmOk X9 T9 (by exact rfl) (by intro f n h; cases h <;> exact rfl)) (.cons (.mk .start row3 (.cons .str (.cons .int .nil)) (by decide) (by decide) (by decide) (shaped_fault _)) (.cons (.mk .start row4 (.cons .str (.cons .int .nil)) (by decide) (by decide) (by decide) (shaped_fault _)) .nil)) (by decide) (by assumption) (by exact rfl) (by assumption) R1 (by omega) (by exact rfl) (by exact rfl) (by decide) ?_
  intro l2 vs2 W2 h2 tk2 F2 N2 S2 R2 D2 e2
  simp only [List.length_cons, List.length_nil] at e2
  clear R1 D1
  k_steps
  refine ⟨?_⟩
  refine rows_add (nmOk X9 T9 (by exact rfl) (by intro f n h; cases h <;> exact rfl)) (.cons (.mk .start row5 (.cons .str (.cons .int .nil)) (by decide) (by decide) (by decide) (shaped_fault _)) (.cons (.mk .start row6 (.cons .str (.cons .int .nil)) (by decide) (by decide) (by decide) (shaped_fault _)) .nil)) (by decide) (by assumption) (by exact rfl) (by assumption) R2 (by omega) (by exact rfl) (by exact rfl) (by decide) ?_
  intro l3 vs3 W3 h3 tk3 F3 N3 S3 R3 D3 e3
  simp only [List.length_cons, List.length_nil] at e3
  clear R2 D2
  k_steps
  refine ⟨?_⟩
  refine rows_add (nmOk X9 T9 (by exact rfl) (by intro f n h; cases h <;> exact rfl)) (.cons (.mk .attr row7 (.cons (.tup (.cons .str (.cons (.tup (.cons .str (.cons .int .nil)) (by decide)) .nil)) (by decide)) (.cons .int .nil)) (by decide) (by decide) (by decide) (by decide +kernel)) (.cons (.mk .attr row8 (.cons .str (.cons .int .nil)) (by decide) (by decide) (by decide) (shaped_fault _)) .nil)) (by decide) (by assumption) (by exact rfl) (by assumption) R3 (by omega) (by exact rfl) (by exact rfl) (by decide) ?_
  intro l4 vs4 W4 h4 tk4 F4 N4 S4 R4 D4 e4
  simp only [List.length_cons, List.length_nil] at e4
  clear R3 D3
  k_steps
  refine ⟨?_⟩
  refine rows_add (nmOk X9 T9 (by exact rfl) (by intro f n h; cases h <;> exact rfl)) (.cons (.mk .attr row9 (.cons .str (.cons .int .nil)) (by decide) (by decide) (by decide) (shaped_fault _)) (.cons (.mk .attr row10 (.cons .str (.cons .int .nil)) (by decide) (by decide) (by decide) (shaped_fault _)) .nil)) (by decide) (by assumption) (by exact rfl) (by assumption) R4 (by omega) (by exact rfl) (by exact rfl) (by decide) ?_
  intro l5 vs5 W5 h5 tk5 F5 N5 S5 R5 D5 e5
  simp only [List.length_cons, List.length_nil] at e5
  clear R4 D4
  k_steps
  refine ⟨?_⟩
  refine rows_add (nmOk X9 T9 (by exact rfl) (by intro f n h; cases h <;> exact rfl)) (.cons (.mk .fin row11 (.cons .str (.cons .int .nil)) (by decide) (by decide) (by decide) (by decide +kernel)) (.cons (.mk .fin row12 (.cons .str (.cons .int .nil)) (by decide) (by decide) (by decide) (shaped_fault _)) (.cons (.mk .fin row13 (.cons .str (.cons .int .nil)) (by decide) (by decide) (by decide) (shaped_fault _)) .nil))) (by decide) (by assumption) (by exact rfl) (by assumption) R5 (by omega) (by exact rfl) (by exact rfl) (by decide) ?_
  intro l6 vs6 W6 h6 tk6 F6 N6 S6 R6 D6 e6
  simp only [List.length_cons, List.length_nil] at e6
  clear R5 D5
  k_steps
  refine ⟨?_⟩
  refine rows_add (nmOk X9 T9 (by exact rfl) (by intro f n h; cases h <;> exact rfl)) (.cons (.mk .fin row14 (.cons .str (.cons .int .nil)) (by decide) (by decide) (by decide) (shaped_fault _)) (.cons (.mk .fin row15 (.cons .str (.cons .int .nil)) (by decide) (by decide) (by decide) (shaped_fault _)) .nil)) (by decide) (by assumption) (by exact rfl) (by assumption) R6 (by omega) (by exact rfl) (by exact rfl) (by decide) ?_
  intro l7 vs7 W7 h7 tk7 F7 N7 S7 R7 D7 e7
  simp only [List.length_cons, List.length_nil] at e7
  clear R6 D6
  k_steps
  refine ⟨?_⟩
  refine gen_rows (news := news) (by assumption : News g9 L9 _ ((l7, _) :: W7)) (fun q hq => .tail _ (S7 _ (S6 _ (S5 _ (S4 _ (S3 _ (S2 _ (S1 _ (S0 _ hq))))))))) (.head _) (R7.mono fun q hq => .tail _ hq) ?_
  clear S0 S1 S2 S3 S4 S5 S6 S7 D7 R7
  intro W vs NW sW mW hall
  refine list_G (vs := vs) (fun i g m ns => ns = W ∧ KtsTurn ([envX cn cs L a ccd []].filterMap (·.frame)) g9 g ∧ Below (ktrTop dp un gd cn cs L a ccd [] []) base [envX cn cs L a ccd []] g ∧ (hd.heap_1 w.params).In g ∧ TopH mean mg mb g ∧ KtsDicts ([envX cn cs L a ccd []].filterMap (·.frame)) g) rfl rfl rfl (by k_asm) NW mW
    ⟨rfl, KtsTurn.refl, (by k_asm), (by k_asm), (by k_asm), (by k_asm)⟩ (fun i g m ns h => h.1 ▸ mW) ?turn ?done
  case turn =>
    rintro i hi g m₁ ns h tk o lw ⟨rfl, KT, BB, XX, TT, DD⟩ nw Fw Nw0
    obtain ⟨aR, x, tR, f, bR, due, eR, mR, tel, rdR, hxl, hxa, shp⟩ := hall.at i hi
    rw [eR]
    have Nw := news_cons Nw0 (.tail _ mR) Nw0
    rcases tel with ⟨rfl, tel⟩ | ⟨rfl, tel⟩ | ⟨rfl, tel⟩
    · k_steps
      refine ⟨?_⟩
      refine c_heard323 (t_startX (startX_0 hxl hxa)) (by k_asm) (by k_asm) (by k_asm) (by k_asm) (by exact rfl) (by k_asm) (by ktr_room) (by ktr_units) XB TB (by k_asm) ?_
      rintro gA hA tkA' vA exA datA KTA FA NA rdA hrA ⟨avA, rfl⟩ BA XA TA DA
      k_steps
      have eA := tel _ hrA
      subst eA
      refine ne_rd NA rdA (fun q hq => List.mem_append_left _ hq) rdR (fun q hq => List.mem_append_right _ (.tail _ (.tail _ hq))) shp (by ktr_units) ?_
      refine wpAny_truthy_bool ?_
      with_reducible refine ite_ff ?_
      k_steps
      exact ⟨gA, hA, _, _, ns, rfl, FA, news_sub NA (fun q hq => List.mem_append_right _ (.tail _ hq)), nw, rfl, KT.trans KTA, BA, XA, TA, DA⟩
    · k_steps
      refine ⟨?_⟩
      refine c_heard330 (t_attrX (startX_0 hxl hxa)) (by k_asm) (by k_asm) (by k_asm) (by k_asm) (by exact rfl) (by k_asm) (by ktr_room) (by ktr_units) XB TB (by k_asm) ?_
      rintro gA hA tkA' vA exA datA KTA FA NA rdA hrA ⟨avA, rfl⟩ BA XA TA DA
      k_steps
      have eA := tel _ hrA
      subst eA
      refine ne_rd NA rdA (fun q hq => List.mem_append_left _ hq) rdR (fun q hq => List.mem_append_right _ (.tail _ (.tail _ hq))) shp (by ktr_units) ?_
      refine wpAny_truthy_bool ?_
      with_reducible refine ite_ff ?_
      k_steps
      exact ⟨gA, hA, _, _, ns, rfl, FA, news_sub NA (fun q hq => List.mem_append_right _ (.tail _ hq)), nw, rfl, KT.trans KTA, BA, XA, TA, DA⟩
    · k_steps
      refine ⟨?_⟩
      refine c_heard337 (t_endX (startX_0 hxl hxa)) (by k_asm) (by k_asm) (by k_asm) (by k_asm) (by exact rfl) (by k_asm) (by ktr_room) (by ktr_units) XB TB (by k_asm) ?_
      rintro gA hA tkA' vA exA datA KTA FA NA rdA hrA ⟨avA, rfl⟩ BA XA TA DA
      k_steps
      have eA := tel _ hrA
      subst eA
      refine ne_rd NA rdA (fun q hq => List.mem_append_left _ hq) rdR (fun q hq => List.mem_append_right _ (.tail _ (.tail _ hq))) shp (by ktr_units) ?_
      refine wpAny_truthy_bool ?_
      with_reducible refine ite_ff ?_
      k_steps
      exact ⟨gA, hA, _, _, ns, rfl, FA, news_sub NA (fun q hq => List.mem_append_right _ (.tail _ hq)), nw, rfl, KT.trans KTA, BA, XA, TA, DA⟩
  case done =>
    rintro g h tk m₂ ns Fw Nw ⟨rfl, KT, BB, XX, TT, DD⟩
    k_steps
    exact hQ _ _ (by k_asm) (news_sub (by k_asm) sW)

end
end Mine
end

-- Pool
example : True ∧ True := by
  first | walk1 | constructor
  all_goals trivial
section
open PySem PySem.W PySem.W.X PyProof.Rows PySem.Calls
namespace Mine
set_option hygiene false
section
variable {w : World} {A₀ : Around} {E Q : Value → Shared → Prop} {s : Shared} {base h₀ : Heap} {outer : List Env} {L a : Addr} {m : Str → Option Value} {mg mb : Str → Option Value} {mean : ExcName → Option Value} {dp un : Nat} {gd : Option (List Code)} {cn : Str} {cs : Scope} {ccd : Value} {cl : List (Str × Addr)} {news : List (Addr × Obj)}
theorem great0 (c : Int) : 0 ≤ (if -1 - c > c then -1 - c else c) := by split <;> omega
theorem bit0 (b : Bool) : 0 ≤ (if b = true then (1 : Int) else 0) := by cases b <;> decide
theorem c_pool {l : Addr} {vs : List Value} {ns : List Int} (hL : base.IsList l vs.toArray) (hI : IntsAre vs ns) (hlay : (PyData.list (ns.map PyData.int)).layable0 = true) (hlen : ns.length ≤ 63)
 (B : Below A₀ base outer h₀) (F : Fr h₀ L s.heap m) (X : (hd.heap_1 w.params).In h₀) (T : TopH mean mg mb h₀) (hck : cs.kind = .function)
 (N : News h₀ L s.heap news) (hdp : dp ≤ 20 + 600) (hun : un ≤ 20)
 (hQ : ∀ a' b' (ta' tb' : Tok) D h' tk', 0 ≤ a' → 0 ≤ b' → b' < 2147483647 → Fr h₀ L h' m → News h₀ L h' ((D, srcO a' b' ta' tb' 0) :: news) → (∀ p ∈ news, p.1 < D) → Q (.ref D) {s with heap := h', toks := tk'})
 : wpAny (model prog w) (ktrTop dp un gd cn cs L a ccd cl outer) (call (.ref 288) [.ref l]) Q E s := by
  w_top off
  refine wpAny_call ?_
  k_dflt cell_enter
  k_steps
  all_goals refine hQ _ _ _ _ _ _ _ ?_ ?_ ?_ (by k_asm) (by k_asm) (by assumption)
  all_goals first
    | exact Int.fmod_nonneg_of_pos _ (by decide)
    | exact Int.fmod_lt_of_pos _ (by decide)
    | exact Int.mul_nonneg (great0 _) (bit0 _)

end
end Mine
end

-- LawDef
section
open PySem PySem.W PySem.W.X PyProof.Rows PySem.Calls
namespace Mine
abbrev aheads2 : List Str := [Str.ofString "", Str.ofString "xy"]
abbrev tailsA : List Str := [Str.ofString "", Str.ofString ">", Str.ofString "z"]
abbrev tailsE : List Str := [Str.ofString "", Str.ofString "x", Str.ofString ">"]
theorem raws_len {q r : Str} (h : r ∈ rawsOf q) : r.length ≤ 10 := by
  unfold rawsOf at h
  split at h
  · exact len_of h (by decide)
  · exact len_of h (by decide)
theorem startX_attr {ahd nm g e q r tl : Str} (ha : ahd ∈ aheads2) (hn : nm ∈ names3) (hq : q ∈ quotes) (hg : g ∈ gaps) (he : e ∈ gaps2) (hr : r ∈ rawsOf q) (ht : tl ∈ tailsA) :
    StartX (headOf ahd nm g e q ++ r ++ q ++ tl) (ahd.length : Int) := by
  have l1 := len_of (n := 10) ha (by decide)
  have l2 := len_of (n := 10) hn (by decide)
  have l3 := len_of (n := 10) hq (by decide)
  have l4 := len_of (n := 10) hg (by decide)
  have l5 := len_of (n := 10) he (by decide)
  have l6 := raws_len hr
  have l7 := len_of (n := 10) ht (by decide)
  have l8 : (Str.ofString "=").length = 1 := rfl
  refine ⟨?_, by omega, ?_, asc_app (asc_app (asc_app (asc_app (asc_app (asc_app (asc_app (asc_app (asc_of ha (by decide)) (asc_of hn (by decide))) (asc_of hg (by decide))) (asc_b (by decide))) (asc_of he (by decide))) (asc_of hq (by decide))) (raws_asc hr)) (asc_of hq (by decide))) (asc_of ht (by decide))⟩
  · simp only [headOf, Str.length_append] at *; omega
  · simp only [headOf, Str.length_append] at *; omega
theorem startX_end {ahd nm gap tl : Str} (ha : ahd ∈ aheads2) (hn : nm ∈ names3) (hg : gap ∈ gaps) (ht : tl ∈ tailsE) :
    StartX (ahd ++ Str.ofString "</" ++ nm ++ gap ++ Str.ofString ">" ++ tl) (ahd.length : Int) := by
  have l1 := len_of (n := 10) ha (by decide)
  have l2 := len_of (n := 10) hn (by decide)
  have l4 := len_of (n := 10) hg (by decide)
  have l7 := len_of (n := 10) ht (by decide)
  have l8 : (Str.ofString "</").length = 2 := rfl
  have l9 : (Str.ofString ">").length = 1 := rfl
  refine ⟨?_, by omega, ?_, asc_app (asc_app (asc_app (asc_app (asc_app (asc_of ha (by decide)) (asc_b (by decide))) (asc_of hn (by decide))) (asc_of hg (by decide))) (asc_b (by decide))) (asc_of ht (by decide))⟩
  · simp only [Str.length_append] at *; omega
  · simp only [Str.length_append] at *; omega
theorem shaped_attr {ahd nm g e q r : Str} {n : Int} (hn : nm ∈ names3) (hr : r ∈ rawsOf q) : SeqAt.shaped (.tuple [pairD ahd nm g e q r, .int n]) = true := by
  have hk := strOk_asc (asc_of hn (by decide))
  have hr' := strOk_asc (raws_asc hr)
  unfold SeqAt.shaped
  simp [pairD, PyData.canLay0, PyData.canLayAll0, PyData.depth, PyData.depthAll, hk, hr']
theorem shaped_end {nm : Str} {n : Int} (hn : nm ∈ names3) : SeqAt.shaped (.tuple [.str nm, .int n]) = true := by
  have hk := strOk_asc (asc_of hn (by decide))
  unfold SeqAt.shaped
  simp [PyData.canLay0, PyData.canLayAll0, PyData.depth, PyData.depthAll, hk]
section
variable {w : World} {A₀ : Around} {E Q : Value → Shared → Prop} {s : Shared} {base h₀ : Heap} {outer : List Env} {L a : Addr} {m : Str → Option Value} {mg mb : Str → Option Value} {mean : ExcName → Option Value} {dp un : Nat} {gd : Option (List Code)} {cn : Str} {cs : Scope} {ccd : Value} {cl : List (Str × Addr)} {news : List (Addr × Obj)}
theorem u_pair {nm x : Str} {nt xt : Tok} {ls : Addr} {a₁ b₁ : Int} {ta tb : Tok} {cp : Nat} (hnm : nm.length ≤ 100) (hxx : x.length ≤ 10000)
 (B : Below A₀ base outer h₀) (F : Fr h₀ L s.heap m) (X : (hd.heap_1 w.params).In h₀) (T : TopH mean mg mb h₀) (hck : cs.kind = .function)
 (N : News h₀ L s.heap news) (hdp : dp ≤ 640) (hun : un ≤ 40)
 (hls : (ls, srcO a₁ b₁ ta tb cp) ∈ news) (ha : 0 ≤ a₁) (hb : 0 ≤ b₁) (hb2 : b₁ < 2147483647)
 (hQ : ∀ (g e q r TX : Str) a' b' (ta' tb' : Tok) D₁ D₂ D₃ (y1 y2 y3 : Tok) h' tk', TX = headOf x nm g e q ++ r ++ q → TX.length = hLen x nm g e q + r.length + q.length → q ∈ quotes → g ∈ gaps → e ∈ gaps2 → r ∈ rawsOf q → (q.length ≤ 10 ∧ g.length ≤ 10 ∧ e.length ≤ 10 ∧ r.length ≤ 10) → 0 ≤ a' → 0 ≤ b' → b' < 2147483647 → Fr h₀ L h' m →
   (∀ news', Upd ls (srcO a₁ b₁ ta tb cp) (srcO a' b' ta' tb' cp) news news' → News h₀ L h' ((D₃, tup2 (.str TX y1) (.ref D₂)) :: (D₂, tup2 (.str nm nt) (.ref D₁)) :: (D₁, tup2 (.str r y2) (.int ((hLen x nm g e q : Nat) : Int) y3)) :: news')) →
   (∀ p ∈ news, p.1 < D₁) → @LT.lt Nat _ D₁ D₂ → @LT.lt Nat _ D₂ D₃ → Q (.ref D₃) {s with heap := h', toks := tk'})
 : wpAny (model prog w) (ktrTop dp un gd cn cs L a ccd cl outer) (call (.ref 344) [.ref ls, .str nm nt, .str x xt]) Q E s :=
  c_pair hnm hxx B F X T hck N hdp hun hls ha hb hb2 fun g e q r a' b' ta' tb' D₁ D₂ D₃ y1 y2 y3 h' tk' => hQ g e q r _ a' b' ta' tb' D₁ D₂ D₃ y1 y2 y3 h' tk' rfl (by simp only [headOf, Str.length_append])
end
section
variable {prog : Program} {w : World} {A : Around} {E : Value → Shared → Prop} {s : Shared} {t : Tok} {Q : Value → Shared → Prop} {ahd nm gap tl : Str} {dat : PyData}
theorem whole_len : (ahd ++ Str.ofString "</" ++ nm ++ gap ++ Str.ofString ">").length = ahd.length + 2 + nm.length + gap.length + 1 := by
  have l8 : (Str.ofString "</").length = 2 := rfl
  have l9 : (Str.ofString ">").length = 1 := rfl
  simp only [Str.length_append, l8, l9]
theorem len_whole (ha : ahd ∈ aheads2) (hn : nm ∈ names3) (hg : gap ∈ gaps) (h : Q (.int (ahd ++ Str.ofString "</" ++ nm ++ gap ++ Str.ofString ">").length (s.toks + 1)) { s with toks := s.toks + 1 + 1 }) :
    wpAny (model prog w) A (call (.builtin "len") [.str (ahd ++ Str.ofString "</" ++ nm ++ gap ++ Str.ofString ">") t]) Q E s := by
  have l1 := len_of (n := 10) ha (by decide)
  have l2 := len_of (n := 10) hn (by decide)
  have l4 := len_of (n := 10) hg (by decide)
  have l5 := whole_len (ahd := ahd) (nm := nm) (gap := gap)
  exact P.len_str (by omega) h
theorem plain_end2 (hn : nm ∈ names3) (hg : gap ∈ gaps)
    (H : Heard (EndOk (ahd ++ Str.ofString "</" ++ nm ++ gap ++ Str.ofString ">" ++ tl) (ahd.length : Int)) (EndErr (ahd ++ Str.ofString "</" ++ nm ++ gap ++ Str.ofString ">" ++ tl) (ahd.length : Int)) dat) :
    dat = .tuple [.str nm, .int ((ahd ++ Str.ofString "</" ++ nm ++ gap ++ Str.ofString ">").length : Nat)] := by
  rw [whole_len]
  exact plain_end hn hg H
end
theorem fr_back {g g' h : Heap} {L : Addr} {m : Str → Option Value} (T : KtsTurn [] g g') (F : Fr g' L h m) : Fr g L h m := ⟨F.ns, fun b o e => F.keep b o (T.other b o e (fun z => nomatch z)), T.size ▸ F.above⟩
end Mine
end

-- Law1
example : True ∧ True := by
  first | walk1 | constructor
  all_goals trivial
section
open PySem PySem.W PySem.W.X PyProof.Rows PySem.Calls
namespace Mine
set_option hygiene false
local macro_rules | `(tactic| walk_at "call ref") => `(tactic| ((with_reducible show wpAny _ _ (call (Value.ref 302) _) _ _ _); k_dflt (refine u_oneS (by k_asm) (by k_asm) (by k_asm) (by k_asm) (by exact rfl) (by k_asm) (by ktr_room) (by ktr_units) (by k_mem) (by k_ne) (by repeat constructor) (by exact Nat.le_of_ble_eq_true rfl) (by exact Nat.le_of_ble_eq_true rfl) (by decide) (by k_mem) (by omega) (by omega) (by omega) ?_); (try clear haT hbT hbT2); intro wdT tdT aT bT taT tbT hT tkT mT lT haT hbT hbT2 FT NT0; (have NT1 := NT0 _ (by k_upd)); clear NT0; (try (rename (@LT.lt Nat _ _ _ ∧ _) => l1X; clear l1X)); (k_dflt (have NT := news_sub NT1 (fun q hq => List.Mem.tail _ hq))); clear NT1; (try dsimp only)))
local macro_rules | `(tactic| walk_at "call ref") => `(tactic| ((with_reducible show wpAny _ _ (call (Value.ref 288) _) _ _ _); refine halt ?_))
local macro_rules | `(tactic| walk_at "call ref") => `(tactic| ((with_reducible show wpAny _ _ (call (Value.ref 316) _) _ _ _); refine halt ?_))
local macro_rules | `(tactic| walk_at "call ref") => `(tactic| ((with_reducible show wpAny _ _ (call (Value.ref 344) _) _ _ _); refine halt ?_))
local macro_rules | `(tactic| walk_at "call ref") => `(tactic| ((with_reducible show wpAny _ _ (call (Value.ref 351) _) _ _ _); refine halt ?_))
local macro_rules | `(tactic| walk_at "call ref") => `(tactic| ((with_reducible show wpAny _ _ (call (Value.ref 358) _) _ _ _); refine halt ?_))
local macro_rules | `(tactic| walk_at "call builtin:len") => `(tactic| ((with_reducible show wpAny _ _ (call (Value.builtin "len") [Value.str (_ ++ Str.ofString ">") _]) _ _ _); refine len_whole (by assumption) (by assumption) (by assumption) ?_))
local macro_rules | `(tactic| k_qdec) => `(tactic| decide +kernel)
theorem law_holds : PySem.Challenge.rw_xw0210_01.Holds := by
  refine Mine.hd ?_
  k_go0
  all_goals try k_fold
  k_steps
  refine ⟨?_⟩
  refine c_told (by k_asm) (by k_asm) (by k_asm) (by k_asm) (by exact rfl) (by k_asm) (by ktr_room) (by ktr_units) ?_ (by k_asm) (by k_asm)
  intro h1 tk1 F1 N1
  k_steps
  refine ⟨?_⟩
  refine c_pool (by assumption) (by assumption) (by assumption) (by omega) (by k_asm) (by k_asm) (by k_asm) (by k_asm) (by exact rfl) (by k_asm) (by ktr_room) (by ktr_units) ?_
  intro a2 b2 ta2 tb2 ls h2 tk2 a20 b20 b21 F2 N2 l2
  k_steps
  refine ⟨?_⟩
  refine c_sr (by k_asm) (by k_asm) (by k_asm) (by k_asm) (by exact rfl) (by k_asm) (by ktr_room) (by ktr_units) (by k_mem) (by omega) (by omega) (by omega) ?_ (by k_asm) (by k_asm)
  intro a3 b3 ta3 tb3 h3 tk3 a30 b30 b31 F3 NT3
  have N3 := NT3 _ (by k_upd)
  clear NT3
  k_steps
  refine ⟨?_⟩
  refine u_pair (by omega) (by omega) (by k_asm) (by k_asm) (by k_asm) (by k_asm) (by exact rfl) (by k_asm) (by ktr_room) (by ktr_units) (by k_mem) (by omega) (by omega) (by omega) ?_
  intro g e q r TX aP bP taP tbP D1 D2 D3 y1 y2 y3 hq tkq hTX hTL mq mg me mr ml aP0 bP0 bP1 FQ NQ0 lD1 lD2 lD3
  have hTb : TX.length ≤ 1000 := by
    obtain ⟨m1, m2, m3, m4⟩ := ml
    have l1 : (Str.ofString "=").length = 1 := rfl
    have z := hTL
    simp only [hLen] at z
    omega
  have NQ := NQ0 _ (by k_upd)
  clear NQ0
  k_lt lD1
  k_steps
  refine ⟨?_⟩
  refine c_heard330 (t_attrX (by rw [hTX]; exact startX_attr (by assumption) (by assumption) mq mg me mr (by assumption))) (by k_asm) (by k_asm) (by k_asm) (by k_asm) (by exact rfl) (by k_asm) (by ktr_room) (by ktr_units) (by k_asm) (by k_asm) (by exact ktsDicts_nil) ?_
  rintro gA hA tkA' vA exA datA KTA FA NA rdA hrA ⟨avA, rfl⟩ BA XA TA DA
  have NB := news_cons NA (List.mem_append_right _ (.tail _ (.head _))) (news_cons NA (List.mem_append_right _ (.tail _ (.tail _ (.head _)))) (news_cons NA (List.mem_append_right _ (.tail _ (.tail _ (.tail _ (.tail _ (.head _))))))
    (fun q hq => NA q (List.mem_append_left _ hq))))
  clear NA
  k_steps
  rw [hTX] at hrA
  have eA := plain_attr (by assumption) mq mg me mr hrA
  rw [← hTL] at eA
  subst eA
  refine ne_rd (by k_asm) rdA (by intro q hq; exact .tail _ (.tail _ (.tail _ (.tail _ hq)))) (RdIn.tuple (vs := [_, _]) (.head _) (.cons (RdIn.tuple (vs := [_, _]) (.tail _ (.head _)) (.cons (.str _ _) (.cons (RdIn.tuple (vs := [_, _]) (.tail _ (.tail _ (.head _))) (.cons (.str _ _) (.cons (.int _ _) .nil))) .nil))) (.cons (.int _ _) .nil))) (fun q hq => hq) (shaped_attr (by assumption) mr) (by ktr_units) ?_
  have NC := news_sub (W' := [(ls, srcO aT bT taT tbT 0)]) (by assumption : News gA _ _ _) (by
    intro q hq
    rw [List.mem_singleton.mp hq]
    exact .tail _ (.tail _ (.tail _ (.head _))))
  refine wpAny_truthy_bool ?_
  with_reducible refine ite_ff ?_
  k_steps
  refine ⟨?_⟩
  refine c_heard337 (t_endX (startX_end (by assumption) (by assumption) (by assumption) (by assumption))) (by k_asm) (by k_asm) (by k_asm) (by k_asm) (by exact rfl) (by k_asm) (by ktr_room) (by ktr_units) (by k_asm) (by k_asm) (by exact ktsDicts_nil) ?_
  rintro gD hD tkD' vD exD datD KTD FD ND rdD hrD ⟨avD, rfl⟩ BD XD TD DD
  have NE := (fun q hq => ND q (List.mem_append_left _ hq) : News gD _ hD exD)
  clear ND
  k_steps
  have eD := plain_end2 (by assumption) (by assumption) hrD
  subst eD
  refine eq_rd (by k_asm) rdD (by intro q hq; exact .tail _ hq) (RdIn.tuple (vs := [_, _]) (.head _) (.cons (.str _ _) (.cons (.int _ _) .nil))) (fun q hq => hq) (shaped_end (by assumption)) (by ktr_units) ?_
  have FZ := fr_back KTA (fr_back KTD (by assumption))
  try dsimp only
  k_steps
end Mine
end

theorem PySem.Challenge.cw_xw0210_01_holds : PySem.Challenge.rw_xw0210_01.Holds :=
  Mine.law_holds
