import PyProof.Rows.All
import Wide.All
import OpenK.AllK
import Wide.FinOn
import KE.KRevSl
import PyProof.EnumStmt
import KE.KStateDown
import Lean
import PySem.Challenge.RW_pc0009_01
open PySem PySem.W PyProof.Rows
set_option Elab.async false
set_option maxRecDepth 100000
set_option linter.unusedVariables false
set_option linter.unusedSimpArgs false
set_option genInjectivity false
set_option genSizeOf false
set_option compiler.extract_closed false
set_option maxHeartbeats 0
namespace Mine
noncomputable def pg : Program := PySem.Challenge.rw_pc0009_01.row.toRowW.1
noncomputable def vw : Program := view PySem.Challenge.pw_pc0009_01 [83]
noncomputable def lo : List Str := [Str.ofString "MOST_EXPONENT", Str.ofString "BasicError", Str.ofString "figures_of", Str.ofString "rounded_by", Str.ofString "made", Str.ofString "whole_near", Str.ofString "fits", Str.ofString "whole_of", Str.ofString "decimal_of", Str.ofString "is_nought", Str.ofString "is_true", Str.ofString "sign_of", Str.ofString "ONE", Str.ofString "MOST_POWER", Str.ofString "d_negated", Str.ofString "alike", Str.ofString "d_add", Str.ofString "d_sub", Str.ofString "d_mul", Str.ofString "with_rest", Str.ofString "d_div", Str.ofString "d_compare", Str.ofString "d_power", Str.ofString "square_or_end", Str.ofString "is_whole", Str.ofString "settled", Str.ofString "whole_reckoned", Str.ofString "cut_quotient", Str.ofString "cut_rest", Str.ofString "exponent_of", Str.ofString "whole_power", Str.ofString "raised", Str.ofString "reckoned", Str.ofString "order_of", Str.ofString "MOST_NUMBER", Str.ofString "Control", Str.ofString "put_upon", Str.ofString "floor_of", Str.ofString "found_at", Str.ofString "cut_to", Str.ofString "is_past", Str.ofString "for_begin", Str.ofString "for_name", Str.ofString "for_next", Str.ofString "while_begin", Str.ofString "while_end", Str.ofString "wend_place", Str.ofString "gosub", Str.ofString "return_place", Str.ofString "chosen", Str.ofString "Flat", Str.ofString "put_row_of", Str.ofString "put_if", Str.ofString "put_all", Str.ofString "gather", Str.ofString "join_rows", Str.ofString "end_loops", Str.ofString "flatten", Str.ofString "place_of", Str.ofString "line_of", Str.ofString "end_of_while", Str.ofString "next_of_for", Str.ofString "JUMPS", Str.ofString "do_flow", Str.ofString "do_jump", Str.ofString "do_loop", Str.ofString "do_for", Str.ofString "next_from", Str.ofString "FlowRun", Str.ofString "_law_take", Str.ofString "_law_all", Str.ofString "_law_worth", Str.ofString "_law_block", Str.ofString "_law_lines", Str.ofString "_law_put", Str.ofString "_law_go"]
noncomputable def o_11 : Obj := { cls := .type "tuple", data := .seq #[] }
noncomputable def o_12 : Obj := { cls := .none, data := .fields #[] }
noncomputable def o_13 : Obj := { cls := .type "code", data := .fields #[.str (Str.ofString "<module>") 182, .str (Str.ofString "<module>") 183, .str (Str.ofString "/claim/cut.py") 184, .int 1 0, .int 0 0, .int 0 0, .int 0 0, .int 0 0, .ref 11, .bool false, .int 181 0, .ref 12, .none, .none, .none, .none, .int 185 0, .int 1 0, .str (Str.ofString "/claim/cut.py") 186] }
noncomputable def o_14 : Obj := { cls := .type "frame", slots := #[some (.ref 13), some (.ref 3), some (.ref 3), none, some (.str (Str.ofString "__main__") 164), none, some (.ref 0)] }
noncomputable def hA (P : Params) : Heap := { objs := #[boot_o_0 P, boot_o_1 P, boot_o_2 P, boot_o_3 P, boot_o_4 P, boot_o_5 P, boot_o_6 P, boot_o_7 P, boot_o_8 P, boot_o_9 P, boot_o_10 P, o_11, o_12, o_13, o_14] }
noncomputable def tA (P : Params) : BT :=
  .node (boot_o_0 P)
    (.node (boot_o_1 P)
      (.node (boot_o_3 P) (.node (boot_o_7 P) .nil .nil) (.node o_11 .nil .nil))
      (.node (boot_o_5 P) (.node (boot_o_9 P) .nil .nil) (.node o_13 .nil .nil)))
    (.node (boot_o_2 P)
      (.node (boot_o_4 P) (.node (boot_o_8 P) .nil .nil) (.node o_12 .nil .nil))
      (.node (boot_o_6 P) (.node (boot_o_10 P) .nil .nil) (.node o_14 .nil .nil)))
noncomputable def ev : Env := { scope := pg.main.scope, locals := mainNs, globals := mainNs, cells := [], code := .ref 13, frame := some 14 }
noncomputable def p0 : Pos := ⟨0, 0, 0, 0⟩
noncomputable def body : List Stmt := behindTheImports pg
noncomputable abbrev an : Option Value := some (.ref 6)
noncomputable def sB (w : World) (os : OsState) : SharedT := { tree := tA w.params, n := 15, life := {}, gens := #[], drawn := {}, toks := 187, os := os }
noncomputable def sA (w : World) (os : OsState) : Shared := ⟨hA w.params, #[], {}, 187, os⟩
theorem hop : opening pg = plainProg pg.main.scope.names := by kernel_rfl
theorem hfe (s : Shared) : fenceModules? pg s = some s := by kernel_rfl
theorem hsz (w : World) : ((boot_heap w.params).isNs mainGlobals && (#[] : Array GenState).size == 0, (boot_heap w.params).objs.size, (boot_heap w.params).nsMap mainGlobals "__annotations__") = (true, 11, an) := by kernel_rfl
theorem pre (w : World) (os : OsState) : topGo treeTable pg w 11 an 12 ⟨boot_heap w.params, #[], boot_drawn, boot_toks, os⟩ (topStub pg) = some (sA w os, ⟨denote treeTable (.body body ev), .body body ev, p0, [topFrame p0]⟩) := by
  rw [PySem.W.Fast.te15667345088766844465, PySem.W.Fast.te14364793385576792824, PySem.W.Fast.te11892475500146522536]; kernel_rfl
theorem blk (w : World) (os : OsState) : segRun treeTable pg w 11 an 1 1 (sA w os) (blockOf body ev (.body body ev) p0 [topFrame p0]) = some (.next, (sB w os).abs, .body body ev, p0) := by
  rw [PySem.W.Fast.te14374325043358763698, PySem.W.Fast.te14364793385576792824]; kernel_rfl
noncomputable def mods : List Str := importedModules pg.main.body
noncomputable def lookT (p q : Program) (loose : List Str) (Xt : Shared → Bool) (as : List Addr) (H : Heap) (s : SharedT) :=
  (staticsOk (importedModules p.main.body) H s.abs.heap && namesBound p s.abs.heap && gensDone s.abs && laidKept H s.abs.heap, openSeen q loose (importedModules p.main.body) Xt true s.abs, as.map fun a => (match Nat.blt a s.n with | true => (s.tree.get a).bind alive | false => none))
theorem obs_of {T : BT} {n : Nat} {life : Life} : ∀ {as : List Addr} {K : Frag}, (as.map fun a => (match Nat.blt a n with | true => (T.get a).bind alive | false => none)) = K.map (fun p => some p.2) → as.map (absHeap T n life).get? = K.map fun p => some p.2
  | [], [], _ => rfl
  | [], _ :: _, e => by cases e
  | _ :: _, [], e => by cases e
  | a :: as, p :: K, e => by
    rw [List.map_cons, List.map_cons] at e ⊢
    injection e with e1 e2
    rw [obs_of e2]
    congr 1
    cases h : Nat.blt a n with
    | false => rw [h] at e1; cases e1
    | true =>
      rw [h] at e1
      cases g : T.get a with
      | none => rw [g] at e1; cases e1
      | some o =>
        rw [g] at e1
        rw [abs_get (Nat.le_of_ble_eq_true h) g]
        exact e1
theorem fin2 {p : Program} {w : World} {m : Nat} {ann : Option Value} (s : Shared) (c : Code) (p' q0 : Pos) : topRun treeTable p w m ann 2 s ⟨doneF .next, c, p', [topFrame q0]⟩ = some s := by
  cases s; cases c <;> rfl
theorem left_gen {p q : Program} {loose : List Str} {Xt : Shared → Bool} {K : Params → Frag} {as : List Addr} {pf : ∀ P, as = (K P).map (·.1)} {N n1 n2 n3 nx m : Nat} {H₀ : Params → Heap} {gs₀ : Array GenState} {d₀ : Drawn} {k₀ : Nat} {ann : Option Value} {body : List Stmt} {ev : Env} {p0 q0 : Pos}
    {sA : World → OsState → Shared} {sB : World → OsState → SharedT}
    (open_ : ∀ w : World, (fencedOpening treeTable p w N).map (fun s => (s.heap, s.gens, s.drawn, s.toks)) = some (H₀ w.params, gs₀, d₀, k₀))
    (size : ∀ w : World, ((H₀ w.params).isNs mainGlobals && gs₀.size == 0, (H₀ w.params).objs.size, (H₀ w.params).nsMap mainGlobals "__annotations__") = (true, m, ann))
    (pre : ∀ w os, topGo treeTable p w m ann n1 ⟨H₀ w.params, gs₀, d₀, k₀, os⟩ (topStub p) = some (sA w os, ⟨denote treeTable (.body body ev), .body body ev, p0, [topFrame q0]⟩))
    (blk : ∀ w os, segRun treeTable p w m ann 1 n2 (sA w os) (blockOf body ev (.body body ev) p0 [topFrame q0]) = some (.next, (sB w os).abs, .body body ev, p0))
    (hN : n1 + (n2 + (n3 + 2)) + nx = N)
    (h : ∀ w os, (segRunT treeTable p w m ann 1 n3 (sB w os) (piecesOf body ev (.body body ev) p0 [topFrame q0])).map (fun r => (r.1, r.2.2.1, lookT p q loose Xt as (H₀ w.params) r.2.1)) = some (.next, .body body ev, true, openGood q loose, (K w.params).map fun p => some p.2)) :
    LeftO p q loose Xt (kHook K as pf).obs (kHook K as pf).val N := fun w => by
  obtain ⟨⟨hp, gs, d, k, os⟩, e, e'⟩ := Option.map_eq_some_iff.mp (open_ w)
  obtain ⟨rfl, rfl, rfl, rfl⟩ : hp = H₀ w.params ∧ gs = gs₀ ∧ d = d₀ ∧ k = k₀ := by simpa using e'
  obtain ⟨⟨f, s', c, p'⟩, e1, e2⟩ := Option.map_eq_some_iff.mp (h w os)
  unfold lookT at e2
  simp only [Prod.mk.injEq] at e2
  obtain ⟨rfl, rfl, l1, l2, l3⟩ := e2
  have t := piece_app (rest := []) (segRun_of e1) (piece_nil (fin2 ..))
  rw [List.append_nil] at t
  have t := go_top (pre w os) (piece_block (blk w os) t)
  have t := topRun_mono nx _ _ _ _ t
  rw [hN] at t
  obtain ⟨z1, z2, z3⟩ : _ ∧ _ ∧ _ := by simpa only [Prod.mk.injEq] using size w
  have t2 : topFrom treeTable p w N ⟨H₀ w.params, gs, d, k, os⟩ = some s'.abs := by
    unfold topFrom
    dsimp only
    rw [z1, z2, z3, t]
    show (match staticsOk (importedModules p.main.body) (H₀ w.params) s'.abs.heap && namesBound p s'.abs.heap && gensDone s'.abs && laidKept (H₀ w.params) s'.abs.heap with | true => some s'.abs | false => none) = _
    rw [l1]
  unfold openEnds
  rw [e]
  show (topFrom treeTable p w N _).map _ = _
  rw [t2]
  exact congrArg some (Prod.ext l2 (obs_of l3))
theorem opn (w : World) : (fencedOpening treeTable pg w 6968).map (fun s => (s.heap, s.gens, s.drawn, s.toks)) = some (boot_heap w.params, Array.mk [], boot_drawn, boot_toks) := boot_open hop (by decide) hfe w
theorem said : OpenLaw.wellSaid PySem.Challenge.rw_pc0009_01 = true := by
  rw [PySem.W.Fast.te9446332074065402090]; decide +kernel
local macro_rules
  | `(tactic| o_law) => `(tactic| refine holds_law said fun said => ?_)
local macro_rules
  | `(tactic| o_head $H) => `(tactic| (refine PySem.W.holds_open (q := vw) (loose := lo) (Xt := fun s => xlAt vw [] s && recOk (RowW.records (OpenRow.toRowW PySem.Challenge.rw_pc0009_01.row)) s) (XP := XL vw []) (Yf := Hook.obs $H) (Ya := Hook.val $H) (YP := Hook.says $H) (N := 6968) ?hl (Hook.of $H) (Hook.keeps $H) (fun s e => xl_of s (Bool.and_eq_true_iff.mp e).1) XL.keeps (by rfl) (by rfl) (by rfl) (fun s e => recFacts_of (Bool.and_eq_true_iff.mp e).2) (by rfl) (by assumption) (by decide +kernel) ⟨rfl, rfl, rfl, rfl, rfl, by decide +kernel⟩ ?hw ?hc; (case hl => (refine left_gen opn hsz pre blk (n3 := 3431) (nx := 3522) rfl fun w os => ?_; rw [PySem.W.Fast.te10110043849684766642, PySem.W.Fast.te14364793385576792824]; unfold lookT; rw [PySem.W.Fast.te4187177175401517315]; kernel_rfl))))
open_top hd for PySem.Challenge.rw_pc0009_01

inductive V where
  | none
  | bool (b : Bool)
  | int (i : Int)
  | str (s : String)
  | tup (l : List V)
  | ref (i : Nat)
  | fn (a : Nat)
  | bound (g : Nat) (i : Nat)
  deriving Inhabited

inductive O where
  | list (l : List V)
  | dictS (l : List (String × V))
  | dictI (l : List (Int × V))
  | inst (c : Nat) (d : Nat)
  | attrs (l : List (String × V))
  deriving Inhabited

noncomputable abbrev St := List O
noncomputable abbrev Ms := List (Option V)

section
variable (n : Nat) (h : Heap) (f : Nat → Nat)
noncomputable abbrev tupO (vs : Array Value) (k : Nat) : Obj := ⟨.type "tuple", Option.none, .seq vs k, #[]⟩
noncomputable abbrev methO (g : Value) (x : Value) : Obj := ⟨.type "method", Option.none, .fields #[g, x], #[]⟩
mutual
noncomputable def RV : V → Value → Prop
  | .none, v => v = .none
  | .bool b, v => v = .bool b
  | .int i, v => ∃ t, v = .int i t
  | .str x, v => ∃ t, v = .str (Str.ofString x) t
  | .tup l, v => ∃ a vs k, v = .ref a ∧ h.get? a = some (tupO vs k) ∧ RVs l vs.toList
  | .ref i, v => i < n ∧ v = .ref (f i)
  | .fn a, v => v = .ref a
  | .bound g i, v => i < n ∧ ∃ a, v = .ref a ∧ h.get? a = some (methO (.ref g) (.ref (f i)))
noncomputable def RVs : List V → List Value → Prop
  | [], vs => vs = []
  | x :: l, vs => ∃ v r, vs = v :: r ∧ RV x v ∧ RVs l r
end
end

noncomputable def isImm (o : Obj) : Prop := (∃ vs k, o = tupO vs k) ∨ (∃ g x, o = methO g x)

noncomputable def Imm (h h' : Heap) : Prop := ∀ a o, h.get? a = some o → isImm o → h'.get? a = some o
theorem Imm.refl (h : Heap) : Imm h h := fun _ _ e _ => e
theorem Imm.trans {h h' h'' : Heap} (x : Imm h h') (y : Imm h' h'') : Imm h h'' := fun a o e i => y a o (x a o e i) i
theorem Imm.of_keeps {h h' : Heap} (k : ∀ b o, h.get? b = some o → h'.get? b = some o) : Imm h h' := fun a o e _ => k a o e

mutual
theorem RV.mono {n n' : Nat} {h h' : Heap} {f f' : Nat → Nat} (hi : Imm h h') (hn : n ≤ n') (hf : ∀ i, i < n → f' i = f i) : ∀ (x : V) {v : Value}, RV n h f x v → RV n' h' f' x v
  | .none, _, e => e
  | .bool _, _, e => e
  | .int _, _, e => e
  | .str _, _, e => e
  | .tup l, _, ⟨a, vs, k, e1, e2, e3⟩ => ⟨a, vs, k, e1, hi _ _ e2 (.inl ⟨vs, k, rfl⟩), RVs.mono hi hn hf l e3⟩
  | .ref i, _, ⟨e1, e2⟩ => ⟨Nat.lt_of_lt_of_le e1 hn, by rw [hf i e1]; exact e2⟩
  | .fn _, _, e => e
  | .bound g i, _, ⟨e1, a, e2, e3⟩ => ⟨Nat.lt_of_lt_of_le e1 hn, a, e2, by rw [hf i e1]; exact hi _ _ e3 (.inr ⟨_, _, rfl⟩)⟩
theorem RVs.mono {n n' : Nat} {h h' : Heap} {f f' : Nat → Nat} (hi : Imm h h') (hn : n ≤ n') (hf : ∀ i, i < n → f' i = f i) : ∀ (l : List V) {vs : List Value}, RVs n h f l vs → RVs n' h' f' l vs
  | [], _, e => e
  | x :: l, _, ⟨v, r, e1, e2, e3⟩ => ⟨v, r, e1, RV.mono hi hn hf x e2, RVs.mono hi hn hf l e3⟩
end

section
variable {n : Nat} {h : Heap} {f : Nat → Nat}
theorem RVs.length : ∀ {l : List V} {vs : List Value}, RVs n h f l vs → vs.length = l.length
  | [], _, e => by rw [show _ = [] from e]; rfl
  | _ :: _, _, ⟨_, _, e1, _, e3⟩ => by rw [e1, List.length_cons, List.length_cons, e3.length]
theorem RVs.append : ∀ {l l' : List V} {vs vs' : List Value}, RVs n h f l vs → RVs n h f l' vs' → RVs n h f (l ++ l') (vs ++ vs')
  | [], _, _, _, e, e' => by rw [show _ = [] from e]; exact e'
  | _ :: _, _, _, _, ⟨v, r, e1, e2, e3⟩, e' => ⟨v, r ++ _, by rw [e1]; rfl, e2, e3.append e'⟩
theorem RVs.one {x : V} {v : Value} (e : RV n h f x v) : RVs n h f [x] [v] := ⟨v, [], rfl, e, rfl⟩
theorem RVs.get : ∀ {l : List V} {vs : List Value} {i : Nat} {x : V}, RVs n h f l vs → l[i]? = some x → ∃ v, vs[i]? = some v ∧ RV n h f x v
  | [], _, _, _, _, q => by simp at q
  | _ :: _, _, 0, _, ⟨v, r, e1, e2, _⟩, q => ⟨v, by rw [e1]; rfl, by simp only [List.getElem?_cons_zero, Option.some.injEq] at q; exact q ▸ e2⟩
  | _ :: _, _, i + 1, _, ⟨v, r, e1, _, e3⟩, q => by
    obtain ⟨u, a, b⟩ := e3.get (i := i) (by simpa using q)
    exact ⟨u, by rw [e1]; exact a, b⟩
theorem RVs.set : ∀ {l : List V} {vs : List Value} (i : Nat) {x : V} {v : Value}, RVs n h f l vs → RV n h f x v → RVs n h f (l.set i x) (vs.set i v)
  | [], _, _, _, _, e, _ => by rw [show _ = [] from e]; rfl
  | _ :: _, _, 0, _, v', ⟨v, r, e1, _, e3⟩, q => ⟨v', r, by rw [e1]; rfl, q, e3⟩
  | _ :: _, _, i + 1, _, _, ⟨v, r, e1, e2, e3⟩, q => ⟨v, r.set i _, by rw [e1]; rfl, e2, e3.set i q⟩
theorem RVs.take : ∀ {l : List V} {vs : List Value} (k : Nat), RVs n h f l vs → RVs n h f (l.take k) (vs.take k)
  | [], _, _, e => by rw [show _ = [] from e]; simp; rfl
  | _ :: _, _, 0, _ => rfl
  | _ :: _, _, k + 1, ⟨v, r, e1, e2, e3⟩ => ⟨v, r.take k, by rw [e1]; rfl, e2, e3.take k⟩
theorem RVs.drop : ∀ {l : List V} {vs : List Value} (k : Nat), RVs n h f l vs → RVs n h f (l.drop k) (vs.drop k)
  | [], _, _, e => by rw [show _ = [] from e]; simp; rfl
  | _ :: _, _, 0, e => e
  | _ :: _, _, k + 1, ⟨v, r, e1, _, e3⟩ => by rw [e1]; exact e3.drop k
theorem RVs.rev : ∀ {l : List V} {vs : List Value}, RVs n h f l vs → RVs n h f l.reverse vs.reverse
  | [], _, e => by rw [show _ = [] from e]; rfl
  | _ :: _, _, ⟨v, r, e1, e2, e3⟩ => by rw [e1, List.reverse_cons, List.reverse_cons]; exact e3.rev.append (.one e2)
theorem RVs.replicate {l : List V} {vs : List Value} (e : RVs n h f l vs) : ∀ k, RVs n h f (List.replicate k l).flatten (List.replicate k vs).flatten
  | 0 => rfl
  | k + 1 => by simp only [List.replicate_succ, List.flatten_cons]; exact e.append (e.replicate k)
end

section
variable (prog : Program) (w : World)

noncomputable def RKs {α β : Type} (key : α → β) (n : Nat) (h : Heap) (f : Nat → Nat) : List (α × V) → List (β × Value) → Prop
  | [], r => r = []
  | (k, x) :: l, r => ∃ v r', r = (key k, v) :: r' ∧ RV n h f x v ∧ RKs key n h f l r'

theorem RKs.mono {α β : Type} {key : α → β} {n n' : Nat} {h h' : Heap} {f f' : Nat → Nat} (hi : Imm h h') (hn : n ≤ n') (hf : ∀ i, i < n → f' i = f i) : ∀ (l : List (α × V)) {r : List (β × Value)}, RKs key n h f l r → RKs key n' h' f' l r
  | [], _, e => e
  | _ :: l, _, ⟨v, r', e1, e2, e3⟩ => ⟨v, r', e1, e2.mono hi hn hf, RKs.mono hi hn hf l e3⟩

noncomputable def getK {α : Type} [DecidableEq α] (k : α) : List (α × V) → Option V
  | [] => Option.none
  | (j, v) :: r => if j = k then some v else getK k r

noncomputable def setK {α : Type} [DecidableEq α] (k : α) (x : V) : List (α × V) → List (α × V)
  | [] => [(k, x)]
  | (j, v) :: r => if j = k then (j, x) :: r else (j, v) :: setK k x r

noncomputable def RAs (n : Nat) (h : Heap) (f : Nat → Nat) : List (String × V) → List DictEntry → Prop
  | [], es => es = []
  | (x, v) :: l, es => ∃ e r, es = e :: r ∧ (∃ t, e.key = .str (Str.ofString x) t) ∧ RV n h f v e.val ∧ RAs n h f l r

theorem RAs.mono {n n' : Nat} {h h' : Heap} {f f' : Nat → Nat} (hi : Imm h h') (hn : n ≤ n') (hf : ∀ i, i < n → f' i = f i) : ∀ (l : List (String × V)) {r : List DictEntry}, RAs n h f l r → RAs n' h' f' l r
  | [], _, e => e
  | _ :: l, _, ⟨v, r', e1, e2, e3, e4⟩ => ⟨v, r', e1, e2, e3.mono hi hn hf, RAs.mono hi hn hf l e4⟩

noncomputable def RO (n : Nat) (h : Heap) (f : Nat → Nat) : O → Obj → Prop
  | .list l, o => ∃ vs k, o = listOf vs k ∧ RVs n h f l vs.toList
  | .dictS l, o => ∃ kvs, o.IsDictOf (strKind prog w) kvs ∧ RKs Str.ofString n h f l kvs
  | .dictI l, o => ∃ kvs, o.IsDictOf (intKind prog w) kvs ∧ RKs id n h f l kvs
  | .inst c d, o => d < n ∧ o = instObj c (f d)
  | .attrs l, o => ∃ es k, o = dictOf es k ∧ RAs n h f l es

theorem RO.mono {n n' : Nat} {h h' : Heap} {f f' : Nat → Nat} (hi : Imm h h') (hn : n ≤ n') (hf : ∀ i, i < n → f' i = f i) : ∀ (x : O) {o : Obj}, RO prog w n h f x o → RO prog w n' h' f' x o
  | .list _, _, ⟨vs, k, e1, e2⟩ => ⟨vs, k, e1, e2.mono hi hn hf⟩
  | .dictS _, _, ⟨kvs, e1, e2⟩ => ⟨kvs, e1, e2.mono hi hn hf⟩
  | .dictI _, _, ⟨kvs, e1, e2⟩ => ⟨kvs, e1, e2.mono hi hn hf⟩
  | .inst _ d, _, ⟨e1, e2⟩ => ⟨Nat.lt_of_lt_of_le e1 hn, by rw [hf d e1]; exact e2⟩
  | .attrs _, _, ⟨es, k, e1, e2⟩ => ⟨es, k, e1, e2.mono hi hn hf⟩

theorem RO.notImm {n : Nat} {h : Heap} {f : Nat → Nat} : ∀ {x : O} {o : Obj}, RO prog w n h f x o → ¬ isImm o
  | .list _, _, ⟨_, _, e1, _⟩ => by
    rintro (⟨_, _, e⟩ | ⟨_, _, e⟩) <;> (rw [e1] at e; have := congrArg Obj.cls e; simp at this)
  | .dictS _, _, ⟨_, e1, _⟩ => by
    obtain ⟨_, _, _, hd, _⟩ := e1
    rintro (⟨_, _, e⟩ | ⟨_, _, e⟩) <;> (rw [e] at hd; cases hd)
  | .dictI _, _, ⟨_, e1, _⟩ => by
    obtain ⟨_, _, _, hd, _⟩ := e1
    rintro (⟨_, _, e⟩ | ⟨_, _, e⟩) <;> (rw [e] at hd; cases hd)
  | .inst _ _, _, ⟨_, e1⟩ => by
    rintro (⟨_, _, e⟩ | ⟨_, _, e⟩) <;> (rw [e1] at e; have := congrArg Obj.cls e; simp at this)
  | .attrs _, _, ⟨_, _, e1, _⟩ => by
    rintro (⟨_, _, e⟩ | ⟨_, _, e⟩) <;> (rw [e1] at e; have := congrArg Obj.cls e; simp at this)

structure Base where
  h : Heap
  n0 : Nat
  f0 : Nat → Nat
noncomputable abbrev hb0 : Heap := {}

structure At (hb : Base) (nm : List Str) (L : Nat) (f : Nat → Nat) (σ : St) (m : Ms) (h : Heap) : Prop where
  len : m.length = nm.length
  fr : ∃ mm, Fr hb0 L h mm ∧ ∀ (k : Nat) (x : Str) (v : V), nm[k]? = some x → m[k]? = some (some v) → ∃ u, mm x = some u ∧ RV σ.length h f v u
  keep : ∀ b o, hb.h.get? b = some o → h.get? b = some o
  hbL : hb.h.get? L = none
  inj : ∀ i j, i < σ.length → j < σ.length → f i = f j → i = j
  neL : ∀ i, i < σ.length → f i ≠ L
  new : ∀ i, i < σ.length → hb.h.get? (f i) = none
  lo : sysModules < L
  hi : ∀ i, i < σ.length → sysModules < f i
  base : hb.n0 ≤ σ.length ∧ ∀ i, i < hb.n0 → f i = hb.f0 i
  obj : ∀ i o, σ[i]? = some o → ∃ x, h.get? (f i) = some x ∧ RO prog w σ.length h f o x

structure Adv (L : Nat) (n : Nat) (f : Nat → Nat) (s : Shared) (n' : Nat) (f' : Nat → Nat) (s' : Shared) : Prop where
  le : n ≤ n'
  agree : ∀ i, i < n → f' i = f i
  fresh : ∀ i, n ≤ i → i < n' → s.heap.objs.size ≤ f' i
  size : s.heap.objs.size ≤ s'.heap.objs.size
  keep : ∀ a o, s.heap.get? a = some o → (∀ i, i < n → f i ≠ a) → a ≠ L → s'.heap.get? a = some o
  imm : Imm s.heap s'.heap
  os : s'.os = s.os
  gens : s'.gens = s.gens

theorem Adv.refl (L : Nat) (n : Nat) (f : Nat → Nat) (s : Shared) : Adv L n f s n f s :=
  ⟨Nat.le_refl _, fun _ _ => rfl, fun _ a b => absurd b (Nat.not_lt.mpr a), Nat.le_refl _, fun _ _ e _ _ => e, Imm.refl _, rfl, rfl⟩
theorem Adv.trans {L : Nat} {n n1 n2 : Nat} {f f1 f2 : Nat → Nat} {s s1 s2 : Shared} (x : Adv L n f s n1 f1 s1) (y : Adv L n1 f1 s1 n2 f2 s2) : Adv L n f s n2 f2 s2 where
  le := Nat.le_trans x.le y.le
  agree i hi := (y.agree i (Nat.lt_of_lt_of_le hi x.le)).trans (x.agree i hi)
  fresh i h1 h2 := by
    rcases Nat.lt_or_ge i n1 with h | h
    · rw [y.agree i h]; exact x.fresh i h1 h
    · exact Nat.le_trans x.size (y.fresh i h h2)
  size := Nat.le_trans x.size y.size
  keep a o e h1 h2 := y.keep a o (x.keep a o e h1 h2) (fun i hi q => by
    rcases Nat.lt_or_ge i n with h | h
    · exact h1 i h (by rw [← x.agree i h]; exact q)
    · have := x.fresh i h hi; have := Heap.lt_size e; rw [q] at *; exact absurd ‹_› (Nat.not_lt.mpr ‹_›)) h2
  imm := x.imm.trans y.imm
  os := y.os.trans x.os
  gens := y.gens.trans x.gens
end
section
variable {prog : Program} {w : World} {hb : Base} {nm : List Str} {L : Nat} {f : Nat → Nat} {σ : St} {m : Ms} {h h' : Heap}

theorem At.frame (a : At prog w hb nm L f σ m h) : ∃ mm, Fr hb0 L h mm := let ⟨mm, x, _⟩ := a.fr; ⟨mm, x⟩
theorem At.keeps (a : At prog w hb nm L f σ m h) : ∀ b o, hb.h.get? b = some o → h.get? b = some o := a.keep
theorem At.Llt (a : At prog w hb nm L f σ m h) : L < h.objs.size := let ⟨_, x, _⟩ := a.fr; x.ns.lt
theorem At.flt (a : At prog w hb nm L f σ m h) {i : Nat} (hi : i < σ.length) : f i < h.objs.size := by
  obtain ⟨x, e, _⟩ := a.obj i σ[i] (by simp [hi]); exact Heap.lt_size e
theorem At.noHb (a : At prog w hb nm L f σ m h) {i : Nat} (hi : i < σ.length) : hb.h.get? (f i) = none := a.new i hi
theorem At.above (a : At prog w hb nm L f σ m h) {b : Nat} (hz : h.objs.size ≤ b) : hb.h.get? b = none := by
  cases q : hb.h.get? b with
  | none => rfl
  | some o => have := Heap.lt_size (a.keep b o q); exact absurd this (Nat.not_lt.mpr hz)
theorem fr0 {mm : Str → Option Value} (x : h.Ns L mm) : Fr hb0 L h mm := ⟨x, fun b o e => by simp [hb0, Heap.get?] at e, Nat.zero_le _⟩

theorem At.grow (a : At prog w hb nm L f σ m h) (k : ∀ b o, h.get? b = some o → h'.get? b = some o) : At prog w hb nm L f σ m h' where
  len := a.len
  fr := let ⟨mm, x, y⟩ := a.fr
    ⟨mm, fr0 (x.ns.keeps k), fun i z v p q => let ⟨u, r1, r2⟩ := y i z v p q; ⟨u, r1, r2.mono (.of_keeps k) (Nat.le_refl _) fun _ _ => rfl⟩⟩
  keep b o e := k b o (a.keep b o e)
  hbL := a.hbL
  inj := a.inj
  neL := a.neL
  new := a.new
  lo := a.lo
  hi := a.hi
  base := a.base
  obj i o e := let ⟨x, e1, e2⟩ := a.obj i o e; ⟨x, k _ _ e1, e2.mono prog w (.of_keeps k) (Nat.le_refl _) fun _ _ => rfl⟩

theorem Adv.of_grow {s s' : Shared} {n : Nat} (k : ∀ b o, s.heap.get? b = some o → s'.heap.get? b = some o) (hz : s.heap.objs.size ≤ s'.heap.objs.size) (ho : s'.os = s.os) (hg : s'.gens = s.gens) : Adv L n f s n f s' :=
  ⟨Nat.le_refl _, fun _ _ => rfl, fun _ a b => absurd b (Nat.not_lt.mpr a), hz, fun a o e _ _ => k a o e, .of_keeps k, ho, hg⟩

theorem At.hidden {I : Nat} {oI : Obj} (a : At prog w hb nm L f σ m h) (hI : h.get? I = some oI) (hn : ¬ isImm oI) (hL : I ≠ L) (hf : ∀ i, i < σ.length → f i ≠ I) (hbI : hb.h.get? I = none)
    (k : ∀ b o, b ≠ I → h.get? b = some o → h'.get? b = some o) : At prog w hb nm L f σ m h' := by
  have im : Imm h h' := fun b o e i => by
    by_cases q : b = I
    · subst q; rw [hI] at e; cases e; exact absurd i hn
    · exact k b o q e
  refine ⟨a.len, ?_, fun b o e => k b o (fun q => ?_) (a.keep b o e), a.hbL, a.inj, a.neL, a.new, a.lo, a.hi, a.base, fun i o e => ?_⟩
  · obtain ⟨mm, x, y⟩ := a.fr
    refine ⟨mm, fr0 ?_, fun i z v p q => let ⟨u, r1, r2⟩ := y i z v p q; ⟨u, r1, r2.mono im (Nat.le_refl _) fun _ _ => rfl⟩⟩
    obtain ⟨o, es, ep, ho, r⟩ := x.ns; exact ⟨o, es, ep, k _ _ (Ne.symm hL) ho, r⟩
  · subst q; rw [hbI] at e; cases e
  · obtain ⟨x, e1, e2⟩ := a.obj i o e
    exact ⟨x, k _ _ (hf i (by rw [List.getElem?_eq_some_iff] at e; exact e.1)) e1, e2.mono prog w im (Nat.le_refl _) fun _ _ => rfl⟩

theorem imm_of_but {a : Nat} {o : Obj} (hs : Heap.SameBut a h h') (ho : h.get? a = some o) (hn : ¬ isImm o) : Imm h h' := fun b x e i => by
  by_cases q : b = a
  · subst q; rw [ho] at e; cases e; exact absurd i hn
  · exact (hs.2 b q).trans e

theorem At.turn {i : Nat} {o o' : O} {x' : Obj} (a : At prog w hb nm L f σ m h) (hi : σ[i]? = some o) (hs : Heap.SameBut (f i) h h') (hx : h'.get? (f i) = some x') (hr : RO prog w σ.length h f o' x') :
    At prog w hb nm L f (σ.set i o') m h' ∧ Imm h h' := by
  have hlt : i < σ.length := by rw [List.getElem?_eq_some_iff] at hi; exact hi.1
  obtain ⟨x, e1, e2⟩ := a.obj i o hi
  have im : Imm h h' := imm_of_but hs e1 (e2.notImm prog w)
  refine ⟨⟨a.len, ?_, fun b o e => (hs.2 b (fun q => ?_)).trans (a.keep b o e), a.hbL, ?_, ?_, ?_, a.lo, ?_, ?_, fun j z e => ?_⟩, im⟩
  · obtain ⟨mm, x, y⟩ := a.fr
    exact ⟨mm, fr0 (x.ns.sameBut hs (Ne.symm (a.neL i hlt))), fun i z v p q => let ⟨u, r1, r2⟩ := y i z v p q; ⟨u, r1, by rw [List.length_set]; exact r2.mono im (Nat.le_refl _) fun _ _ => rfl⟩⟩
  · subst q; rw [a.noHb hlt] at e; cases e
  · rw [List.length_set]; exact a.inj
  · rw [List.length_set]; exact a.neL
  · rw [List.length_set]; exact a.new
  · rw [List.length_set]; exact a.hi
  · rw [List.length_set]; exact a.base
  · rw [List.length_set]
    by_cases q : i = j
    · subst q
      rw [List.getElem?_set_self hlt] at e; cases e
      exact ⟨x', hx, hr.mono prog w im (Nat.le_refl _) fun _ _ => rfl⟩
    · rw [List.getElem?_set_ne q] at e
      obtain ⟨y, e3, e4⟩ := a.obj j z e
      have hj : j < σ.length := by rw [List.getElem?_eq_some_iff] at e; exact e.1
      exact ⟨y, (hs.2 _ (fun r => q (a.inj i j hlt hj r.symm))).trans e3, e4.mono prog w im (Nat.le_refl _) fun _ _ => rfl⟩

theorem Adv.of_turn {s s' : Shared} {i n : Nat} (hi : i < n) (hs : Heap.SameBut (f i) s.heap s'.heap) (im : Imm s.heap s'.heap) (ho : s'.os = s.os) (hg : s'.gens = s.gens) : Adv L n f s n f s' :=
  ⟨Nat.le_refl _, fun _ _ => rfl, fun _ a b => absurd b (Nat.not_lt.mpr a), Nat.le_of_eq hs.1.symm, fun a o e h _ => (hs.2 a (fun q => h i hi q.symm)).trans e, im, ho, hg⟩

noncomputable def newF (f : Nat → Nat) (n : Nat) (a : Nat) : Nat → Nat := fun i => if i = n then a else f i
theorem newF_lt {n : Nat} {a : Nat} {i : Nat} (hi : i < n) : newF f n a i = f i := by unfold newF; rw [if_neg (Nat.ne_of_lt hi)]
theorem newF_eq {n : Nat} {a : Nat} : newF f n a n = a := by unfold newF; rw [if_pos rfl]

theorem At.alloc {o : O} {x : Obj} {b : Nat} (a : At prog w hb nm L f σ m h) (k : ∀ b o, h.get? b = some o → h'.get? b = some o) (hb' : h.objs.size ≤ b) (hx : h'.get? b = some x)
    (hr : RO prog w (σ.length + 1) h' (newF f σ.length b) o x) : At prog w hb nm L (newF f σ.length b) (σ ++ [o]) m h' := by
  have hl : (σ ++ [o]).length = σ.length + 1 := by simp
  have im : Imm h h' := .of_keeps k
  refine ⟨a.len, ?_, fun b o e => k b o (a.keep b o e), a.hbL, ?_, ?_, ?_, a.lo, ?_, ?_, fun j z e => ?_⟩
  · obtain ⟨mm, x, y⟩ := a.fr
    exact ⟨mm, fr0 (x.ns.keeps k), fun i z v p q => let ⟨u, r1, r2⟩ := y i z v p q; ⟨u, r1, by rw [hl]; exact r2.mono im (Nat.le_succ _) fun i hi => newF_lt hi⟩⟩
  · rw [hl]
    intro i j hi hj e
    unfold newF at e
    split at e <;> split at e
    · lia
    · have := a.flt (i := j) (by lia); lia
    · have := a.flt (i := i) (by lia); lia
    · exact a.inj i j (by lia) (by lia) e
  · rw [hl]
    intro i hi e
    unfold newF at e
    split at e
    · have := a.Llt; lia
    · exact a.neL i (by lia) e
  · rw [hl]
    intro i hi
    unfold newF
    split
    · exact a.above hb'
    · exact a.new i (by lia)
  · rw [hl]
    intro i hi
    unfold newF
    split
    · exact Nat.lt_of_lt_of_le (Nat.lt_trans a.lo a.Llt) hb'
    · exact a.hi i (by lia)
  · rw [hl]
    exact ⟨Nat.le_succ_of_le a.base.1, fun i hi => by rw [newF_lt (Nat.lt_of_lt_of_le hi a.base.1)]; exact a.base.2 i hi⟩
  · rw [hl]
    rcases Nat.lt_or_ge j σ.length with hj | hj
    · rw [List.getElem?_append_left hj] at e
      obtain ⟨y, e3, e4⟩ := a.obj j z e
      exact ⟨y, by rw [newF_lt hj]; exact k _ _ e3, e4.mono prog w im (Nat.le_succ _) fun i hi => newF_lt hi⟩
    · rw [List.getElem?_append_right hj] at e
      have : j = σ.length := by
        rcases Nat.lt_or_ge (j - σ.length) 1 with q | q
        · lia
        · rw [List.getElem?_eq_none (by simpa using q)] at e; cases e
      subst this
      simp at e
      subst e
      exact ⟨x, by rw [newF_eq]; exact hx, hr⟩

theorem Adv.of_alloc {s s' : Shared} {n : Nat} {b : Nat} (k : ∀ b o, s.heap.get? b = some o → s'.heap.get? b = some o) (hz : s.heap.objs.size ≤ s'.heap.objs.size) (hb' : s.heap.objs.size ≤ b) (ho : s'.os = s.os) (hg : s'.gens = s.gens) :
    Adv L n f s (n + 1) (newF f n b) s' :=
  ⟨Nat.le_succ _, fun _ hi => newF_lt hi, fun i a c => by rw [show i = n by lia, newF_eq]; exact hb', hz, fun a o e _ _ => k a o e, .of_keeps k, ho, hg⟩

theorem At.store {k : Nat} {x : Str} {v : V} {u : Value} {mm : Str → Option Value} (a : At prog w hb nm L f σ m h) (hnd : nm.Nodup) (hk : nm[k]? = some x) (F : Fr hb0 L h mm)
    (y : ∀ (k : Nat) (x : Str) (v : V), nm[k]? = some x → m[k]? = some (some v) → ∃ u, mm x = some u ∧ RV σ.length h f v u)
    (hv : RV σ.length h f v u) (F' : Fr hb0 L h' (fun y => if y = x then some u else mm y)) (hs : Heap.SameBut L h h') : At prog w hb nm L f σ (m.set k (some v)) h' ∧ Imm h h' := by
  have im : Imm h h' := by
    obtain ⟨o, es, ep, ho, hd, _⟩ := F.ns
    refine imm_of_but hs ho ?_
    rintro (⟨_, _, e⟩ | ⟨_, _, e⟩) <;> (rw [e] at hd; cases hd)
  refine ⟨⟨by rw [List.length_set]; exact a.len, ⟨_, F', fun i z v' p q => ?_⟩, fun b o e => (hs.2 b (fun q => by subst q; rw [a.hbL] at e; cases e)).trans (a.keep b o e), a.hbL, a.inj, a.neL, a.new, a.lo, a.hi, a.base, fun i o e => ?_⟩, im⟩
  · by_cases e : i = k
    · subst e
      rw [hk] at p; cases p
      have : i < m.length := by rw [a.len]; rw [List.getElem?_eq_some_iff] at hk; exact hk.1
      rw [List.getElem?_set_self this] at q; cases q
      exact ⟨u, by simp, hv.mono im (Nat.le_refl _) fun _ _ => rfl⟩
    · rw [List.getElem?_set_ne (Ne.symm e)] at q
      obtain ⟨u', r1, r2⟩ := y i z v' p q
      refine ⟨u', ?_, r2.mono im (Nat.le_refl _) fun _ _ => rfl⟩
      rw [if_neg]; · exact r1
      intro q
      subst q
      obtain ⟨p1, p2⟩ := List.getElem?_eq_some_iff.mp p
      obtain ⟨k1, k2⟩ := List.getElem?_eq_some_iff.mp hk
      have nd := List.pairwise_iff_getElem.mp hnd
      rcases Nat.lt_or_gt_of_ne e with g | g
      · exact nd i k p1 k1 g (p2.trans k2.symm)
      · exact nd k i k1 p1 g (k2.trans p2.symm)
  · obtain ⟨x, e1, e2⟩ := a.obj i o e
    exact ⟨x, (hs.2 _ (a.neL i (by rw [List.getElem?_eq_some_iff] at e; exact e.1))).trans e1, e2.mono prog w im (Nat.le_refl _) fun _ _ => rfl⟩

theorem Adv.of_store {s s' : Shared} {n : Nat} (hs : Heap.SameBut L s.heap s'.heap) (im : Imm s.heap s'.heap) (ho : s'.os = s.os) (hg : s'.gens = s.gens) : Adv L n f s n f s' :=
  ⟨Nat.le_refl _, fun _ _ => rfl, fun _ a b => absurd b (Nat.not_lt.mpr a), Nat.le_of_eq hs.1.symm, fun a o e _ h => (hs.2 a h).trans e, im, ho, hg⟩
end
end Mine
namespace Mine.E

noncomputable abbrev Bear (α : Type) := Nat → Heap → (Nat → Nat) → α → Prop
noncomputable abbrev bV (v : V) : Bear Value := fun n h f u => RV n h f v u
noncomputable abbrev bVs (l : List V) : Bear (List Value) := fun n h f us => RVs n h f l us
noncomputable abbrev bB (b : Bool) : Bear Bool := fun _ _ _ u => u = b
inductive Fl where
  | next
  | ret (v : V)
noncomputable def RFl (n : Nat) (h : Heap) (f : Nat → Nat) : Fl → Flow → Prop
  | .next, u => u = .next
  | .ret v, u => ∃ x, u = .ret x ∧ RV n h f v x

inductive Ans where
  | v (x : V)
  | l (x : List V)
  | p (x : List (String × V))
  | q (x : List (Int × V))
  | n (k : Nat)
  | b (x : Bool)
  | d
  | c (v : V) (σ : St)
  | f (x : Fl) (m : Ms) (σ : St)
noncomputable abbrev Kt := List Ans → Prop
noncomputable def Ho (k : Kt) : Prop := ∃ os, k os
noncomputable def kF : Kt := fun _ => False
theorem Ho.no {α : Prop} (h : Ho kF) : α := h.elim fun _ q => q.elim
noncomputable def asr (c : Prop) (k : Kt) : Kt := fun os => c ∧ k os
theorem Ho.asr {c : Prop} {k : Kt} (h : Ho (asr c k)) : c ∧ Ho k := let ⟨os, h1, h2⟩ := h; ⟨h1, os, h2⟩
theorem Ho.mk {c : Prop} {k : Kt} (h : c) (p : Ho k) : Ho (E.asr c k) := let ⟨os, q⟩ := p; ⟨os, h, q⟩
noncomputable def ask {α : Type} (g : Ans → Option α) (C : α → Prop) (k : α → Kt) : Kt := fun os => match os with
  | [] => False
  | a :: os => match g a with
    | some x => C x ∧ k x os
    | none => False
theorem Ho.ask {α : Type} {g : Ans → Option α} {C : α → Prop} {k : α → Kt} (h : Ho (ask g C k)) : ∃ x, C x ∧ Ho (k x) := by
  obtain ⟨os, h⟩ := h
  cases os with
  | nil => exact h.elim
  | cons a os =>
    unfold E.ask at h
    dsimp only at h
    cases e : g a with
    | none => rw [e] at h; exact h.elim
    | some x => rw [e] at h; exact ⟨x, h.1, os, h.2⟩
noncomputable def Ans.v? : Ans → Option V
  | .v x => some x
  | _ => none
noncomputable def Ans.l? : Ans → Option (List V)
  | .l x => some x
  | _ => none
noncomputable def Ans.p? : Ans → Option (List (String × V))
  | .p x => some x
  | _ => none
noncomputable def Ans.q? : Ans → Option (List (Int × V))
  | .q x => some x
  | _ => none
noncomputable def Ans.n? : Ans → Option Nat
  | .n x => some x
  | _ => none
noncomputable def Lst (σ : St) (i : Nat) (l : List V) : Prop := σ[i]? = some (.list l) ∧ l.length ≤ 1000000
noncomputable def rdL (i : Nat) (σ : St) (k : List V → Kt) : Kt := ask Ans.l? (Lst σ i) k

noncomputable abbrev EF := Ms → St → (V → St → Kt) → Kt
noncomputable abbrev LF := Ms → St → (List V → St → Kt) → Kt
noncomputable abbrev TF := Ms → St → (Bool → St → Kt) → Kt
noncomputable abbrev SF := Ms → St → (Fl → Ms → St → Kt) → Kt
noncomputable abbrev FF := List V → St → (V → St → Kt) → Kt

structure Fx where
  q : Str
  sc : Scope
  a : Nat
  cd : Value
  nm : List Str
  ql : Str := q ++ ".<locals>."
  fn : Option Nat := some a
  frm : Nat → Option Nat := some
  cl : Nat → List (Str × Nat) := fun _ => []
noncomputable abbrev Fx.env (c : Fx) (L : Nat) : Env := { scope := c.sc, locals := L, globals := mainGlobals, cells := c.cl L, qual := c.ql, func := c.fn, code := c.cd, frame := c.frm L, builtins := builtinsNs }
structure Fx.Ok (c : Fx) : Prop where
  kind : c.sc.kind = .function
  nd : c.nm.Nodup
  loc : ∀ x ∈ c.nm, c.sc.names.lookup x = some .local

noncomputable def Room (A : Around) (d : Nat) : Prop := A.handled = none ∧ A.depth + d < recursionLimit ∧ A.units + 8 * d + 100 < cLine
theorem Room.le {A : Around} {d d' : Nat} (r : Room A d) (h : d' ≤ d) : Room A d' := ⟨r.1, by have := r.2.1; lia, by have := r.2.2; lia⟩
noncomputable def noE : Value → Shared → Prop := fun _ _ => False

section
variable (prog : Program) (w : World) (hb : Base) (nm : List Str) (L : Nat)
structure Nxt (n : Nat) (f : Nat → Nat) (s : Shared) (σ' : St) (m : Ms) (f' : Nat → Nat) (s' : Shared) : Prop where
  d : Adv L n f s σ'.length f' s'
  a : At prog w hb nm L f' σ' m s'.heap
noncomputable def Con {α β : Type} (R : β → Bear α) (n : Nat) (f : Nat → Nat) (s : Shared) (m : Ms) (P : β → St → Kt) (Q : α → Shared → Prop) : Prop :=
  ∀ v σ' f' u s', Ho (P v σ') → Nxt prog w hb nm L n f s σ' m f' s' → R v σ'.length s'.heap f' u → Q u s'
noncomputable def ConS (n : Nat) (f : Nat → Nat) (s : Shared) (P : Fl → Ms → St → Kt) (Q : Flow → Shared → Prop) : Prop :=
  ∀ x m' σ' f' u s', Ho (P x m' σ') → Nxt prog w hb nm L n f s σ' m' f' s' → RFl σ'.length s'.heap f' x u → Q u s'
end

structure Wd (hb : Base) (K : Frag) (mg mb : Str → Option Value) : Prop where
  x : K.In hb.h
  g : hb.h.Ns mainGlobals mg
  b : hb.h.Ns builtinsNs mb
  nolimit : hb.h.NoLimit
  builtins : ∀ x : Str, x ≠ "__name__" → mb x = bootBuiltins x

section
variable (prog : Program) (w : World) (hb : Base) (c : Fx) (d : Nat)
noncomputable def SE (e : Expr) (F : EF) : Prop := ∀ A L f σ m s P Q, Room A d → At prog w hb c.nm L f σ m s.heap → Ho (F m σ P) → Con prog w hb c.nm L bV σ.length f s m P Q →
  wpAny (model prog w) A (eval e (c.env L)) Q noE s
noncomputable def ST (e : Expr) (F : TF) : Prop := ∀ A L f σ m s P Q, Room A d → At prog w hb c.nm L f σ m s.heap → Ho (F m σ P) → Con prog w hb c.nm L bB σ.length f s m P Q →
  wpAny (model prog w) A (isTrue e (c.env L) (eval e (c.env L))) Q noE s
noncomputable def SL (es : List Expr) (F : LF) : Prop := ∀ A L f σ m s P Q pos, Room A d → At prog w hb c.nm L f σ m s.heap → Ho (F m σ P) → Con prog w hb c.nm L bVs σ.length f s m P Q →
  wpAny (model prog w) A (spliced (backTo pos (starEach es (c.env L)))) Q noE s
noncomputable def SS (st : Stmt) (F : SF) : Prop := ∀ A L f σ m s P Q, Room A d → At prog w hb c.nm L f σ m s.heap → Ho (F m σ P) → ConS prog w hb c.nm L σ.length f s P Q →
  wpAny (model prog w) A (exec st (c.env L)) Q noE s
noncomputable def SB (sts : List Stmt) (F : SF) : Prop := ∀ A L f σ m s P Q, Room A d → At prog w hb c.nm L f σ m s.heap → Ho (F m σ P) → ConS prog w hb c.nm L σ.length f s P Q →
  wpAny (model prog w) A (execs sts (c.env L)) Q noE s
end

section
variable {prog : Program} {w : World} {hb : Base} {nm : List Str} {L : Nat} {α β : Type} {R : β → Bear α} {f f' : Nat → Nat} {σ σ' : St} {m m' : Ms} {s s' : Shared} {P : β → St → Kt} {Q : α → Shared → Prop} {PS : Fl → Ms → St → Kt} {QS : Flow → Shared → Prop} {n : Nat} {v : β} {u : α}
theorem Nxt.refl (a : At prog w hb nm L f σ m s.heap) : Nxt prog w hb nm L σ.length f s σ m f s := ⟨.refl .., a⟩
theorem Nxt.trans {σ1 : St} {m1 : Ms} {f1 : Nat → Nat} {s1 : Shared} (x : Nxt prog w hb nm L n f s σ1 m1 f1 s1) (y : Nxt prog w hb nm L σ1.length f1 s1 σ' m' f' s') : Nxt prog w hb nm L n f s σ' m' f' s' := ⟨x.d.trans y.d, y.a⟩
theorem Nxt.tok {k : Nat} (a : At prog w hb nm L f σ m s.heap) : Nxt prog w hb nm L σ.length f s σ m f { s with toks := k } := ⟨.of_grow (fun _ _ e => e) (Nat.le_refl _) rfl rfl, a⟩
theorem Nxt.grow (a : At prog w hb nm L f σ m s.heap) (k : ∀ b o, s.heap.get? b = some o → s'.heap.get? b = some o) (hz : s.heap.objs.size ≤ s'.heap.objs.size) (ho : s'.os = s.os) (hg : s'.gens = s.gens) : Nxt prog w hb nm L σ.length f s σ m f s' :=
  ⟨.of_grow k hz ho hg, a.grow k⟩
theorem Nxt.turn {i : Nat} {o o' : O} {x' : Obj} (a : At prog w hb nm L f σ m s.heap) (hi : σ[i]? = some o) (hs : Heap.SameBut (f i) s.heap s'.heap) (hx : s'.heap.get? (f i) = some x') (hr : RO prog w σ.length s.heap f o' x')
    (ho : s'.os = s.os) (hg : s'.gens = s.gens) : Nxt prog w hb nm L σ.length f s (σ.set i o') m f s' := by
  have t := a.turn hi hs hx hr
  exact ⟨by rw [List.length_set]; exact .of_turn (List.getElem?_eq_some_iff.mp hi).1 hs t.2 ho hg, t.1⟩
theorem Nxt.alloc {o : O} {x : Obj} {b : Nat} (a : At prog w hb nm L f σ m s.heap) (k : ∀ b o, s.heap.get? b = some o → s'.heap.get? b = some o) (hz : s.heap.objs.size ≤ s'.heap.objs.size) (hb' : s.heap.objs.size ≤ b)
    (hx : s'.heap.get? b = some x) (hr : RO prog w (σ.length + 1) s'.heap (newF f σ.length b) o x) (ho : s'.os = s.os) (hg : s'.gens = s.gens) : Nxt prog w hb nm L σ.length f s (σ ++ [o]) m (newF f σ.length b) s' :=
  ⟨by simpa using Adv.of_alloc k hz hb' ho hg, a.alloc k hb' hx hr⟩
theorem Con.from {σ1 : St} {f1 : Nat → Nat} {s1 : Shared} {m1 : Ms} (x : Nxt prog w hb nm L n f s σ1 m1 f1 s1) (k : Con prog w hb nm L R n f s m P Q) : Con prog w hb nm L R σ1.length f1 s1 m P Q := fun v σ' f' u s' p y r => k v σ' f' u s' p (x.trans y) r
theorem ConS.from {σ1 : St} {f1 : Nat → Nat} {s1 : Shared} {m1 : Ms} (x : Nxt prog w hb nm L n f s σ1 m1 f1 s1) (k : ConS prog w hb nm L n f s PS QS) : ConS prog w hb nm L σ1.length f1 s1 PS QS := fun v m' σ' f' u s' p y r => k v m' σ' f' u s' p (x.trans y) r
theorem RV.adv {n' : Nat} (x : Adv L n f s n' f' s') {v : V} {u : Value} (r : RV n s.heap f v u) : RV n' s'.heap f' v u := r.mono x.imm x.le x.agree
theorem RVs.adv {n' : Nat} (x : Adv L n f s n' f' s') {v : List V} {u : List Value} (r : RVs n s.heap f v u) : RVs n' s'.heap f' v u := r.mono x.imm x.le x.agree
end

noncomputable def gt : Ms → Nat → Option V
  | [], _ => none
  | x :: _, 0 => x
  | _ :: m, i + 1 => gt m i
theorem gt_some : ∀ {m : Ms} {i : Nat} {v : V}, gt m i = some v → m[i]? = some (some v)
  | [], _, _, h => by cases h
  | x :: _, 0, _, h => congrArg some h
  | _ :: m, i + 1, _, h => gt_some (m := m) (i := i) h
noncomputable def okO {α : Type} (o : Option α) (P : α → Kt) : Kt := match o with
  | some a => P a
  | none => kF
theorem okO_ok {α : Type} {P : α → Kt} : ∀ {o : Option α}, Ho (okO o P) → ∃ a, o = some a ∧ Ho (P a)
  | some _, p => ⟨_, rfl, p⟩
  | none, p => p.no
noncomputable def okC (b : Bool) (k : Kt) : Kt := match b with
  | true => k
  | false => kF
theorem okC_ok {k : Kt} : ∀ {b : Bool}, Ho (okC b k) → b = true ∧ Ho k
  | true, p => ⟨rfl, p⟩
  | false, p => p.no
noncomputable def ltL {β : Type} : List β → Nat → Bool
  | [], _ => true
  | _ :: l, n + 1 => ltL l n
  | _ :: _, 0 => false
theorem ltL_le {β : Type} : ∀ (l : List β) (n : Nat), ltL l n = true → l.length ≤ n
  | [], _, _ => Nat.zero_le _
  | _ :: l, n + 1, h => Nat.succ_le_succ (ltL_le l n h)
noncomputable def eC (v : V) : EF := fun _ σ P => P v σ
noncomputable def eLoc (i : Nat) : EF := fun m σ P => okO (gt m i) fun v => P v σ
noncomputable abbrev Op1 := V → St → (V → St → Kt) → Kt
noncomputable abbrev Op2 := V → V → St → (V → St → Kt) → Kt
noncomputable def eBin (op : Op2) (a b : EF) : EF := fun m σ P => a m σ fun x σ => b m σ fun y σ => op x y σ P
noncomputable def eUn (op : Op1) (a : EF) : EF := fun m σ P => a m σ fun x σ => op x σ P
noncomputable def lNil : LF := fun _ σ P => P [] σ
noncomputable def lCons (a : EF) (b : LF) : LF := fun m σ P => a m σ fun x σ => b m σ fun l σ => P (x :: l) σ
noncomputable def eTup (l : LF) : EF := fun m σ P => l m σ fun x σ => okC (ltL x 1000) (P (.tup x) σ)
noncomputable def eList (l : LF) : EF := fun m σ P => l m σ fun x σ => okC (ltL x 1000) (P (.ref σ.length) (σ ++ [.list x]))

section
variable (prog : Program) (w : World) (hb : Base) (nm : List Str) (d : Nat)
noncomputable def Ok2 (op : Operator) (O : Op2) : Prop := ∀ A L f σ m s x y u z P Q, Room A d → At prog w hb nm L f σ m s.heap → RV σ.length s.heap f x u → RV σ.length s.heap f y z → Ho (O x y σ P) → Con prog w hb nm L bV σ.length f s m P Q →
  wpAny (model prog w) A (binaryOp op u z) Q noE s
noncomputable def Ok1 (t : Value → Sem Value) (O : Op1) : Prop := ∀ A L f σ m s x u P Q, Room A d → At prog w hb nm L f σ m s.heap → RV σ.length s.heap f x u → Ho (O x σ P) → Con prog w hb nm L bV σ.length f s m P Q →
  wpAny (model prog w) A (t u) Q noE s
end

section
variable {prog : Program} {w : World} {hb : Base} {c : Fx} {d : Nat}
theorem se_int {i : Int} {k : Nat} {pos : Pos} : SE prog w hb c d (.Constant (.int i) k pos) (eC (.int i)) :=
  fun A L f σ m s P Q r a h k => wpAny_Constant_int (k _ _ _ _ _ h (.tok a) ⟨_, rfl⟩)
theorem se_str {x : String} {k : Nat} {pos : Pos} : SE prog w hb c d (.Constant (.str (Str.ofString x)) k pos) (eC (.str x)) :=
  fun A L f σ m s P Q r a h k => wpAny_Constant_str (k _ _ _ _ _ h (.tok a) ⟨_, rfl⟩)
theorem se_none {k : Nat} {pos : Pos} : SE prog w hb c d (.Constant .none k pos) (eC .none) :=
  fun A L f σ m s P Q r a h k => wpAny_Constant_none (k _ _ _ _ _ h (.refl a) rfl)
theorem se_bool {b : Bool} {k : Nat} {pos : Pos} : SE prog w hb c d (.Constant (.bool b) k pos) (eC (.bool b)) :=
  fun A L f σ m s P Q r a h k => wpAny_Constant_bool (k _ _ _ _ _ h (.refl a) rfl)
theorem se_loc {i : Nat} {x : Str} {pos : Pos} (ok : c.Ok) (hx : c.nm[i]? = some x) (hd : (x == ("__debug__" : Str)) = false := by decide) : SE prog w hb c d (.Name x pos) (eLoc i) := fun A L f σ m s P Q r a h k => by
  obtain ⟨v, e, p⟩ := okO_ok h
  obtain ⟨mm, F, y⟩ := a.fr
  obtain ⟨u, e1, e2⟩ := y i x v hx (gt_some e)
  exact wpAny_Name (wpAny_loadName_local ok.kind (ok.loc x (List.mem_of_getElem? hx)) F.ns e1 (k _ _ _ _ _ p (.refl a) e2)) hd
theorem se_bin {l r : Expr} {op : Operator} {pos : Pos} {F G : EF} {O : Op2} (hl : SE prog w hb c d l F) (hr : SE prog w hb c d r G) (ho : Ok2 prog w hb c.nm d op O) : SE prog w hb c d (.BinOp l op r pos) (eBin O F G) :=
  fun A L f σ m s P Q rm a h k => wpAny_BinOp (hl A L f σ m s _ _ rm a h fun x σ1 f1 u s1 p1 x1 r1 => hr A L f1 σ1 m s1 _ _ rm x1.a p1 fun y σ2 f2 z s2 p2 x2 r2 =>
    ho A L f2 σ2 m s2 x y u z P Q rm x2.a (RV.adv x2.d r1) r2 p2 (k.from (x1.trans x2)))
theorem se_un {l : Expr} {op : UnaryOp} {pos : Pos} {F : EF} {O : Op1} (hl : SE prog w hb c d l F) (ho : Ok1 prog w hb c.nm d (fun u => unaryOp op u) O) : SE prog w hb c d (.UnaryOp op l pos) (eUn O F) :=
  fun A L f σ m s P Q rm a h k => wpAny_UnaryOp (hl A L f σ m s _ _ rm a h fun x σ1 f1 u s1 p1 x1 r1 => ho A L f1 σ1 m s1 x u P Q rm x1.a r1 p1 (k.from x1))
noncomputable def isStar : Expr → Bool
  | .Starred _ _ => true
  | _ => false
theorem starEach_cons {e : Expr} {es : List Expr} {env : Env} (h : isStar e = false) : starEach (e :: es) env = (false, eval e env) :: starEach es env := by
  cases e <;> first | rfl | cases h
theorem sl_nil : SL prog w hb c d [] lNil := fun A L f σ m s P Q pos rm a h k => wpAny_items_nil (k _ _ _ _ _ h (.refl a) rfl)
theorem sl_cons {e : Expr} {es : List Expr} {F : EF} {G : LF} (he : SE prog w hb c d e F) (hr : SL prog w hb c d es G) (hs : isStar e = false := by rfl) : SL prog w hb c d (e :: es) (lCons F G) := fun A L f σ m s P Q pos rm a h k => by
  rw [starEach_cons hs]
  exact Calls.spliced_cons (he A L f σ m s _ _ rm a h fun x σ1 f1 u s1 p1 x1 r1 => wpAny_mono (hr A L f1 σ1 m s1 _ _ pos rm x1.a p1 fun y σ2 f2 us s2 p2 x2 r2 => k _ _ _ _ _ p2 (x1.trans x2) ⟨_, _, rfl, RV.adv x2.d r1, r2⟩) (fun _ _ q => q) fun _ _ e => e)
theorem se_tup {es : List Expr} {k : Nat} {pos : Pos} {F : LF} (h : SL prog w hb c d es F) : SE prog w hb c d (.Tuple es k pos) (eTup F) := fun A L f σ m s P Q rm a h' k =>
  Tuple_ (h A L f σ m s _ _ pos rm a h' fun l σ1 f1 us s1 p1 x1 r1 => wpAny_newObj_type (k _ _ f1 _ _ (okC_ok p1).2 (x1.trans (.grow x1.a (fun b o e => Heap.get?_push_of_some _ e) (by simp) rfl rfl))
    ⟨_, us.toArray, 0, rfl, Heap.get?_push_size _ rfl, r1.mono (.of_keeps fun b o e => Heap.get?_push_of_some _ e) (Nat.le_refl _) fun _ _ => rfl⟩)
    (by have h1 := ltL_le _ _ (okC_ok p1).1; have h2 := r1.length; show us.toArray.size ≤ sizeLine; rw [List.size_toArray, sizeLine_eq]; lia))
theorem se_list {es : List Expr} {pos : Pos} {F : LF} (h : SL prog w hb c d es F) : SE prog w hb c d (.List es pos) (eList F) := fun A L f σ m s P Q rm a h' k =>
  List_ (h A L f σ m s _ _ pos rm a h' fun l σ1 f1 us s1 p1 x1 r1 => wpAny_newObj_type (k _ _ _ _ _ (okC_ok p1).2 (x1.trans (.alloc (b := s1.heap.objs.size) x1.a (fun b o e => Heap.get?_push_of_some _ e) (by simp) (Nat.le_refl _) (Heap.get?_push_size _ rfl)
      ⟨us.toArray, 0, rfl, r1.mono (.of_keeps fun b o e => Heap.get?_push_of_some _ e) (Nat.le_succ _) fun i hi => newF_lt hi⟩ rfl rfl)) ⟨by simp, by rw [newF_eq]⟩)
    (by have h1 := ltL_le _ _ (okC_ok p1).1; have h2 := r1.length; show us.toArray.size ≤ sizeLine; rw [List.size_toArray, sizeLine_eq]; lia))
end
end Mine.E
namespace Mine

theorem ofS_cps (x : String) : (Str.ofString x).cps = (x.toList.map Char.toNat).toArray := by rw [Str.ofString_eq_toList]
theorem charToNat_inj {a b : Char} (h : a.toNat = b.toNat) : a = b := by
  have : a.val = b.val := UInt32.toNat_inj.mp h
  exact Char.ext this
theorem map_toNat_inj : ∀ {a b : List Char}, a.map Char.toNat = b.map Char.toNat → a = b
  | [], [], _ => rfl
  | [], _ :: _, h => by cases h
  | _ :: _, [], h => by cases h
  | x :: a, y :: b, h => by
    simp only [List.map_cons, List.cons.injEq] at h
    rw [charToNat_inj h.1, map_toNat_inj h.2]
theorem ofS_inj {x y : String} (h : Str.ofString x = Str.ofString y) : x = y := by
  have e := congrArg Str.cps h
  rw [ofS_cps, ofS_cps] at e
  have := map_toNat_inj (by simpa using congrArg Array.toList e)
  exact String.toList_inj.mp this
theorem ofS_beq (x y : String) : (Str.ofString x == Str.ofString y) = decide (x = y) := by
  by_cases h : x = y
  · subst h; simp
  · rw [decide_eq_false h]; exact beq_eq_false_iff_ne.mpr fun e => h (ofS_inj e)
theorem ofS_append (x y : String) : Str.ofString x ++ Str.ofString y = Str.ofString (x ++ y) := by
  show Str.mk ((Str.ofString x).cps ++ (Str.ofString y).cps) = Str.ofString (x ++ y)
  rw [ofS_cps, ofS_cps, Str.ofString_eq_toList (x ++ y)]
  congr 1
  simp
theorem ofS_length (x : String) : (Str.ofString x).length = x.length := PySem.ofString_length x
theorem ofS_strOk (x : String) : PyData.strOk (Str.ofString x) = true := by
  unfold PyData.strOk
  rw [ofS_cps]
  rw [← Array.all_toList, List.all_eq_true]
  intro n hn
  simp only [List.mem_map] at hn
  obtain ⟨ch, _, rfl⟩ := hn
  have h := ch.valid
  have : ch.toNat = ch.val.toNat := rfl
  simp only [UInt32.isValidChar, Nat.isValidChar] at h
  simp only [decide_eq_true_eq]
  lia

noncomputable def scal : V → Bool
  | .none | .int _ | .str _ => true
  | _ => false
noncomputable def flat1 : V → Bool
  | .tup l => l.all scal
  | v => scal v
noncomputable def eqS : V → V → Bool
  | .none, .none => true
  | .int i, .int j => decide (i = j)
  | .str x, .str y => decide (x = y)
  | _, _ => false
noncomputable def eqSs : List V → List V → Bool
  | [], [] => true
  | x :: l, y :: r => eqS x y && eqSs l r
  | _, _ => false
noncomputable def eq1 : V → V → Bool
  | .tup l, .tup r => eqSs l r
  | x, y => eqS x y
noncomputable def eq1s : List V → List V → Bool
  | [], [] => true
  | x :: l, y :: r => eq1 x y && eq1s l r
  | _, _ => false

noncomputable def pdS : V → PyData
  | .int i => .int i
  | .str x => .str (Str.ofString x)
  | _ => .none
noncomputable def pd1 : V → PyData
  | .tup l => .tuple (l.map pdS)
  | v => pdS v

theorem eqS_pd : ∀ {x y : V}, scal x = true → scal y = true → PyData.eqv (pdS x) (pdS y) = eqS x y := by
  intro x y hx hy
  cases x <;> (try (simp [scal] at hx; done)) <;> cases y <;> (try (simp [scal] at hy; done)) <;> simp only [pdS, PyData.eqv, eqS] <;> first | rfl | exact ofS_beq _ _
theorem eqSs_pd : ∀ {x y : List V}, x.all scal = true → y.all scal = true → PyData.eqvAll (x.map pdS) (y.map pdS) = eqSs x y
  | [], [], _, _ => by simp [PyData.eqvAll, eqSs]
  | [], _ :: _, _, _ => by simp [PyData.eqvAll, eqSs]
  | _ :: _, [], _, _ => by simp [PyData.eqvAll, eqSs]
  | a :: l, b :: r, hx, hy => by
    simp only [List.all_cons, Bool.and_eq_true] at hx hy
    simp only [List.map_cons, PyData.eqvAll, eqSs, eqS_pd hx.1 hy.1, eqSs_pd hx.2 hy.2]
theorem eq1_pd {x y : V} (hx : flat1 x = true) (hy : flat1 y = true) : PyData.eqv (pd1 x) (pd1 y) = eq1 x y := by
  cases x <;> (try (simp [flat1, scal] at hx; done)) <;> cases y <;> (try (simp [flat1, scal] at hy; done)) <;> first
    | exact eqSs_pd hx hy
    | exact eqS_pd hx hy
    | rfl
    | exact ofS_beq _ _
    | simp [pd1, pdS, PyData.eqv, eq1, eqS]
theorem eq1s_pd : ∀ {x y : List V}, x.all flat1 = true → y.all flat1 = true → PyData.eqvAll (x.map pd1) (y.map pd1) = eq1s x y
  | [], [], _, _ => by simp [PyData.eqvAll, eq1s]
  | [], _ :: _, _, _ => by simp [PyData.eqvAll, eq1s]
  | _ :: _, [], _, _ => by simp [PyData.eqvAll, eq1s]
  | a :: l, b :: r, hx, hy => by
    simp only [List.all_cons, Bool.and_eq_true] at hx hy
    simp only [List.map_cons, PyData.eqvAll, eq1s, eq1_pd hx.1 hy.1, eq1s_pd hx.2 hy.2]

theorem lay_pdS (x : V) : (pdS x).canLay0 = true := by
  cases x <;> simp [pdS, PyData.canLay0, ofS_strOk]
theorem lay_pdSs : ∀ l : List V, PyData.canLayAll0 (l.map pdS) = true
  | [] => by simp [PyData.canLayAll0]
  | x :: l => by simp [PyData.canLayAll0, lay_pdS, lay_pdSs l]
theorem lay_pd1 (x : V) : (pd1 x).canLay0 = true := by
  cases x <;> simp [pd1, pdS, PyData.canLay0, ofS_strOk, lay_pdSs]
theorem lay_pd1s : ∀ l : List V, PyData.canLayAll0 (l.map pd1) = true
  | [] => by simp [PyData.canLayAll0]
  | x :: l => by simp [PyData.canLayAll0, lay_pd1, lay_pd1s l]
theorem dep_pdS (x : V) : (pdS x).depth ≤ 1 := by cases x <;> simp [pdS, PyData.depth]
theorem dep_pdSs : ∀ l : List V, PyData.depthAll (l.map pdS) ≤ 1
  | [] => by simp [PyData.depthAll]
  | x :: l => by
    have := dep_pdS x; have := dep_pdSs l
    simp only [List.map_cons, PyData.depthAll]; lia
theorem dep_pd1 (x : V) : (pd1 x).depth ≤ 2 := by
  cases x <;> simp [pd1, pdS, PyData.depth, dep_pdSs]
theorem dep_pd1s : ∀ l : List V, PyData.depthAll (l.map pd1) ≤ 2
  | [] => by simp [PyData.depthAll]
  | x :: l => by
    have := dep_pd1 x; have := dep_pd1s l
    simp only [List.map_cons, PyData.depthAll]; lia
theorem shaped_pd1 (x : V) : PySem.SeqAt.shaped (pd1 x) = true := by
  unfold PySem.SeqAt.shaped; rw [lay_pd1, Bool.true_and, decide_eq_true_eq]; have := dep_pd1 x; lia
theorem shaped_pd1s (l : List V) : PySem.SeqAt.shaped (.list (l.map pd1)) = true := by
  unfold PySem.SeqAt.shaped
  have := dep_pd1s l
  simp only [PyData.canLay0, PyData.depth, lay_pd1s, Bool.true_and]; exact decide_eq_true (by lia)

section
variable {n : Nat} {h : Heap} {f : Nat → Nat}
theorem reads_S {x : V} {u : Value} (hx : scal x = true) (r : RV n h f x u) : Reads h u (pdS x) [] := by
  cases x <;> (try (simp [scal] at hx; done))
  · rw [show u = .none from r]; exact .none
  · obtain ⟨t, rfl⟩ := r; exact .int _ _
  · obtain ⟨t, rfl⟩ := r; exact .str _ _
theorem reads_Ss : ∀ {l : List V} {us : List Value}, l.all scal = true → RVs n h f l us → ReadsAll h us (l.map pdS) []
  | [], _, _, r => by rw [show _ = [] from r]; exact .nil
  | x :: l, _, hx, ⟨v, r, e1, e2, e3⟩ => by
    simp only [List.all_cons, Bool.and_eq_true] at hx
    rw [e1]; exact .cons (as := []) (bs := []) (reads_S hx.1 e2) (reads_Ss hx.2 e3)
theorem reads_1 {x : V} {u : Value} (hx : flat1 x = true) (r : RV n h f x u) : Reads h u (pd1 x) [] := by
  cases x with
  | tup l =>
    obtain ⟨a, vs, k, rfl, e2, e3⟩ := r
    exact .tuple e2 rfl rfl (reads_Ss hx e3)
  | none => exact reads_S (x := .none) hx r
  | bool _ => exact reads_S (x := .bool _) hx r
  | int _ => exact reads_S (x := .int _) hx r
  | str _ => exact reads_S (x := .str _) hx r
  | ref _ => exact reads_S (x := .ref _) hx r
  | fn _ => exact reads_S (x := .fn _) hx r
  | bound _ _ => exact reads_S (x := .bound _ _) hx r
theorem reads_1s : ∀ {l : List V} {us : List Value}, l.all flat1 = true → RVs n h f l us → ReadsAll h us (l.map pd1) []
  | [], _, _, r => by rw [show _ = [] from r]; exact .nil
  | x :: l, _, hx, ⟨v, r, e1, e2, e3⟩ => by
    simp only [List.all_cons, Bool.and_eq_true] at hx
    rw [e1]; exact .cons (as := []) (bs := []) (reads_1 hx.1 e2) (reads_1s hx.2 e3)
end
end Mine
namespace Mine.E

noncomputable def b2n (b : Bool) : Int := if b then 1 else 0
noncomputable def opAdd : Op2 := fun x y σ P => match x with
  | .int a => (match y with | .int b => P (.int (a + b)) σ | _ => kF)
  | .str a => (match y with | .str b => asr (a.length + b.length ≤ 1000) (P (.str (a ++ b)) σ) | _ => kF)
  | .ref i => (match y with | .ref j => rdL i σ fun a => rdL j σ fun b => asr (a.length + b.length ≤ 1000000) (P (.ref σ.length) (σ ++ [.list (a ++ b)])) | _ => kF)
  | _ => kF
noncomputable def opSub : Op2 := fun x y σ P => match x with
  | .int a => (match y with | .int b => P (.int (a - b)) σ | _ => kF)
  | .bool a => (match y with | .bool b => P (.int (b2n a - b2n b)) σ | _ => kF)
  | _ => kF
noncomputable def opMul : Op2 := fun x y σ P => match x with
  | .int a => (match y with | .int b => asr (-1000000 < b ∧ b < 1000000) (P (.int (a * b)) σ) | _ => kF)
  | .ref i => (match y with | .int k => rdL i σ fun a => asr (a.length ≤ 1000 ∧ -1000 ≤ k ∧ k ≤ 1000) (P (.ref σ.length) (σ ++ [.list (List.replicate k.toNat a).flatten])) | _ => kF)
  | _ => kF
noncomputable def opDiv : Op2 := fun x y σ P => match x with
  | .int a => (match y with | .int b => asr (0 < b ∧ b < 1000000) (P (.int (a / b)) σ) | _ => kF)
  | _ => kF
noncomputable def opMod : Op2 := fun x y σ P => match x with
  | .int a => (match y with | .int b => asr (b > 0) (P (.int (a % b)) σ) | _ => kF)
  | _ => kF
noncomputable def opShl : Op2 := fun x y σ P => match x with
  | .int a => (match y with | .int b => asr (0 ≤ b ∧ b ≤ 1000 ∧ -1000 < a ∧ a < 1000) (P (.int (a * 2 ^ b.toNat)) σ) | _ => kF)
  | _ => kF
noncomputable def unNeg : Op1 := fun x σ P => match x with
  | .int a => P (.int (-a)) σ
  | _ => kF

section
variable {prog : Program} {w : World} {hb : Base} {nm : List Str} {d : Nat} {A : Around} {L : Nat} {f : Nat → Nat} {σ σ' : St} {m : Ms} {s : Shared} {P : V → St → Kt} {Q : Value → Shared → Prop}

theorem At.list (a : At prog w hb nm L f σ m s.heap) {i : Nat} {l : List V} (e : σ[i]? = some (.list l)) : ∃ vs k, s.heap.get? (f i) = some (listOf vs k) ∧ RVs σ.length s.heap f l vs.toList := by
  obtain ⟨x, e1, vs, k, rfl, e3⟩ := a.obj i _ e
  exact ⟨vs, k, e1, e3⟩

theorem Con.newList {vs : Array Value} {l : List V} (k : Con prog w hb nm L bV σ.length f s m P Q) (a : At prog w hb nm L f σ m s.heap) (p : Ho (P (.ref σ.length) (σ ++ [.list l]))) (hr : RVs σ.length s.heap f l vs.toList) {t : Nat} :
    Q (.ref s.heap.objs.size) { s with heap := s.heap.push { cls := .type "list", data := .seq vs }, toks := t } :=
  have kk : ∀ b o, s.heap.get? b = some o → (s.heap.push (listOf vs 0)).get? b = some o := fun b o e => Heap.get?_push_of_some _ e
  k _ _ _ _ _ p (.alloc (b := s.heap.objs.size) a kk (by simp) (Nat.le_refl _) (Heap.get?_push_size _ rfl) ⟨vs, 0, rfl, hr.mono (.of_keeps kk) (Nat.le_succ _) fun i hi => newF_lt hi⟩ rfl rfl) ⟨by simp, by rw [newF_eq]⟩

theorem joined_acc (xs : Array Value) : ∀ (k : Nat) (acc : Array Value), (List.foldl (fun x1 x2 => x1 ++ x2) acc (List.replicate k xs)).toList = acc.toList ++ (List.replicate k xs.toList).flatten
  | 0, acc => by simp
  | k + 1, acc => by rw [List.replicate_succ, List.foldl_cons, joined_acc xs k, Array.toList_append, List.replicate_succ, List.flatten_cons, List.append_assoc]
theorem joined_toList (xs : Array Value) (k : Nat) : (List.foldl (fun x1 x2 => x1 ++ x2) #[] (List.replicate (if xs.isEmpty = true then 0 else k) xs)).toList = (List.replicate k xs.toList).flatten := by
  split
  · rename_i h
    have : xs.toList = [] := by simpa using h
    rw [this]; simp
  · rw [joined_acc]; simp

theorem ok_add : Ok2 prog w hb nm d .Add opAdd := fun A L f σ m s x y u z P Q rm a hx hy h k => by
  cases x with
  | int i => cases y with
    | int j => obtain ⟨t, rfl⟩ := hx; obtain ⟨t', rfl⟩ := hy; exact add_int (k _ _ _ _ _ h (.tok a) ⟨_, rfl⟩)
    | _ => exact h.no
  | str i => cases y with
    | str j =>
      obtain ⟨t, rfl⟩ := hx; obtain ⟨t', rfl⟩ := hy
      exact add_str (fun t' tk => k _ _ _ _ _ (Ho.asr h).2 (.tok a) ⟨t', by rw [ofS_append]⟩) (by have := (Ho.asr h).1; rw [ofS_length, ofS_length, sizeLine_eq]; lia)
    | _ => exact h.no
  | ref i => cases y with
    | ref j =>
      obtain ⟨hi, rfl⟩ := hx; obtain ⟨hj, rfl⟩ := hy
      obtain ⟨la, ⟨e1, _⟩, h⟩ := Ho.ask h; obtain ⟨lb, ⟨e2, _⟩, h⟩ := Ho.ask h; obtain ⟨hz, p⟩ := Ho.asr h
      obtain ⟨vs, n, g1, g2⟩ := At.list a e1
      obtain ⟨vs', n', g1', g2'⟩ := At.list a e2
      exact PySem.P.add_list g1 g1' (k.newList a p (by rw [Array.toList_append]; exact g2.append g2')) (by have l1 := g2.length; have l2 := g2'.length; simp only [Array.length_toList] at l1 l2; rw [sizeLine_eq]; lia)
    | _ => exact h.no
  | _ => exact h.no
theorem ok_sub : Ok2 prog w hb nm d .Sub opSub := fun A L f σ m s x y u z P Q rm a hx hy h k => by
  cases x with
  | int i => cases y with
    | int j => obtain ⟨t, rfl⟩ := hx; obtain ⟨t', rfl⟩ := hy; exact sub_int (k _ _ _ _ _ h (.tok a) ⟨_, rfl⟩)
    | _ => exact h.no
  | bool i => cases y with
    | bool j => rw [show u = .bool _ from hx, show z = .bool _ from hy]; exact sub_bool (k _ _ _ _ _ h (.tok a) ⟨_, rfl⟩)
    | _ => exact h.no
  | _ => exact h.no
theorem ok_mul : Ok2 prog w hb nm d .Mult opMul := fun A L f σ m s x y u z P Q rm a hx hy h k => by
  cases x with
  | int i => cases y with
    | int j =>
      obtain ⟨t, rfl⟩ := hx; obtain ⟨t', rfl⟩ := hy
      exact PyProof.Rows.mul_int (k _ _ _ _ _ (Ho.asr h).2 (.tok a) ⟨_, rfl⟩) (IntMulOk.of_right (intBits_le_64 (by have := (Ho.asr h).1; lia) (by have := (Ho.asr h).1; lia)))
    | _ => exact h.no
  | ref i => cases y with
    | int j =>
      obtain ⟨hi, rfl⟩ := hx; obtain ⟨t', rfl⟩ := hy
      obtain ⟨la, ⟨e1, _⟩, h⟩ := Ho.ask h; obtain ⟨hz, p⟩ := Ho.asr h
      obtain ⟨vs, n, g1, g2⟩ := At.list a e1
      have l1 := g2.length
      simp only [Array.length_toList] at l1
      have hsz : vs.size * j.toNat ≤ 1000000 := by
        rw [l1]; exact Nat.le_trans (Nat.mul_le_mul hz.1 (show j.toNat ≤ 1000 by lia)) (by decide)
      exact wpAny_binaryOp_repeat_ref (T := "list") (U := "int") (by decide) ⟨_, g1, rfl⟩ (fun s' => typeIs_int s' j t') noFill_list_mul PySem.F.fills_int_mul PySem.F.slot_int_rmul repeat_list PySem.F.slot_int_index.lookup
        (call_meets PySem.F.slot_int_rmul (typeIs_int s j t') PySem.F.entry_int_rmul (PySem.F.args_int_rmul_2 _ _) (int___rmul___int_list j t' (f i) vs n)
          ⟨g1, rfl, ⟨_, g1, rfl⟩, call_meets PySem.F.slot_list_mul ⟨_, g1, rfl⟩ PySem.F.entry_list_mul (PySem.F.args_list_mul_2 _ _)
            (AutoListH.list___mul___list_int_3 (f i) vs n j t' (by simp [Builtin.List.listFitsIndex]; lia) (by lia) (by simp [Builtin.List.listTooLong, sizeLine]; lia)) ⟨g1, k.newList (vs := List.foldl (fun x1 x2 => x1 ++ x2) #[] (List.replicate (if vs.isEmpty = true then 0 else j.toNat) vs)) a p (by rw [joined_toList]; exact g2.replicate _)⟩⟩)
    | _ => exact h.no
  | _ => exact h.no
theorem ok_div : Ok2 prog w hb nm d .FloorDiv opDiv := fun A L f σ m s x y u z P Q rm a hx hy h k => by
  cases x with
  | int i => cases y with
    | int j =>
      obtain ⟨t, rfl⟩ := hx; obtain ⟨t', rfl⟩ := hy
      exact floordiv_int (by have := (Ho.asr h).1; lia) (k _ _ _ _ _ (Ho.asr h).2 (.tok a) ⟨_, by rw [Int.fdiv_eq_ediv_of_nonneg _ (by have := (Ho.asr h).1; lia)]⟩) (.inl (PyProof.noPylong_small (by have := (Ho.asr h).1; lia)))
    | _ => exact h.no
  | _ => exact h.no
theorem ok_mod : Ok2 prog w hb nm d .Mod opMod := fun A L f σ m s x y u z P Q rm a hx hy h k => by
  cases x with
  | int i => cases y with
    | int j =>
      obtain ⟨t, rfl⟩ := hx; obtain ⟨t', rfl⟩ := hy
      exact PyProof.Rows.mod_int' (by have := (Ho.asr h).1; lia) (k _ _ _ _ _ (Ho.asr h).2 (.tok a) ⟨_, by rw [Int.fmod_eq_emod_of_nonneg _ (by have := (Ho.asr h).1; lia)]⟩)
    | _ => exact h.no
  | _ => exact h.no
theorem ok_shl : Ok2 prog w hb nm d .LShift opShl := fun A L f σ m s x y u z P Q rm a hx hy h k => by
  cases x with
  | int i => cases y with
    | int j =>
      obtain ⟨t, rfl⟩ := hx; obtain ⟨t', rfl⟩ := hy
      exact lshift_int_small (by have := (Ho.asr h).1; lia) (by have := (Ho.asr h).1; lia) (by have := (Ho.asr h).1; lia) (k _ _ _ _ _ (Ho.asr h).2 (.tok a) ⟨_, rfl⟩)
    | _ => exact h.no
  | _ => exact h.no
theorem ok_neg : Ok1 prog w hb nm d (fun u => unaryOp .USub u) unNeg := fun A L f σ m s x u P Q rm a hx h k => by
  cases x with
  | int i => obtain ⟨t, rfl⟩ := hx; exact PyProof.Rows.neg_int (k _ _ _ _ _ h (.tok a) ⟨_, rfl⟩)
  | _ => exact h.no
end

noncomputable abbrev CF := V → V → St → (Bool → Kt) → Kt
noncomputable def eqD (a b : List (String × V)) : Bool := a.length == b.length && a.all fun p => match getK p.1 b with
  | some v => eqS p.2 v
  | none => false
noncomputable def IsS (σ : St) (i : Nat) (l : List (String × V)) : Prop := σ[i]? = some (.dictS l)
noncomputable def IsI (σ : St) (i : Nat) (l : List (Int × V)) : Prop := σ[i]? = some (.dictI l)
noncomputable def eqLs (i j : Nat) (σ : St) (g : Bool → Bool) (P : Bool → Kt) : Kt := rdL i σ fun a => rdL j σ fun b => asr (a.all flat1 = true ∧ b.all flat1 = true) (P (g (eq1s a b)))
noncomputable def eqDs (i j : Nat) (σ : St) (P : Bool → Kt) : Kt := ask Ans.p? (IsS σ i) fun a => ask Ans.p? (IsS σ j) fun b => asr (a.all (fun p => scal p.2) = true ∧ b.all (fun p => scal p.2) = true) (P (eqD a b))
noncomputable def eqRef (i j : Nat) (σ : St) (P : Bool → Kt) : Kt := fun os => match os with
  | .d :: os => eqDs i j σ P os
  | os => eqLs i j σ (fun b => b) P os
theorem eqRef_ok {i j : Nat} {σ : St} {P : Bool → Kt} (h : Ho (eqRef i j σ P)) : Ho (eqLs i j σ (fun b => b) P) ∨ Ho (eqDs i j σ P) := by
  obtain ⟨os, h⟩ := h
  unfold eqRef at h
  split at h
  · exact .inr ⟨_, h⟩
  · exact .inl ⟨_, h⟩
noncomputable def cEq : CF := fun x y σ P => match x with
  | .bool a => (match y with | .bool b => P (a == b) | _ => kF)
  | .ref i => (match y with | .ref j => eqRef i j σ P | _ => kF)
  | x => okC (flat1 x) (okC (flat1 y) (P (eq1 x y)))
noncomputable def cNe : CF := fun x y σ P => match x with
  | .bool a => (match y with | .bool b => P (a != b) | _ => kF)
  | .ref i => (match y with | .ref j => eqLs i j σ (fun b => !b) P | _ => kF)
  | x => okC (flat1 x) (okC (flat1 y) (P (!eq1 x y)))
noncomputable def cInts (g : Int → Int → Bool) : CF := fun x y σ P => match x with
  | .int a => (match y with | .int b => P (g a b) | _ => kF)
  | _ => kF
noncomputable def cLt : CF := cInts fun a b => decide (a < b)
noncomputable def cLe : CF := cInts fun a b => decide (a ≤ b)
noncomputable def cGt : CF := cInts fun a b => decide (b < a)
noncomputable def cGe : CF := cInts fun a b => decide (b ≤ a)
noncomputable def isN : V → Bool
  | .none => true
  | _ => false
noncomputable def cIs : CF := fun x y σ P => match y with
  | .none => P (isN x)
  | _ => kF
noncomputable def cIsNot : CF := fun x y σ P => match y with
  | .none => P (!isN x)
  | _ => kF
noncomputable def cIn : CF := fun x y σ P => match x with
  | .str x => (match y with | .tup l => okC (l.all scal) (P (l.any fun y => eqS y (.str x))) | _ => kF)
  | _ => kF
noncomputable def cNotIn : CF := fun x y σ P => match x with
  | .int k => (match y with | .ref i => ask Ans.q? (IsI σ i) fun l => P (getK k l).isNone | _ => kF)
  | _ => kF

section
variable (prog : Program) (w : World) (hb : Base)
noncomputable def CmpOk (nm : List Str) (d : Nat) (op : CmpOp) (O : CF) : Prop := ∀ (A : Around) (L : Nat) (f : Nat → Nat) (σ : St) (m : Ms) (s : Shared) (x y : V) (u z : Value) (P : Bool → Kt) (Q : Value → Shared → Prop), Room A d → At prog w hb nm L f σ m s.heap →
  RV σ.length s.heap f x u → RV σ.length s.heap f y z → Ho (O x y σ P) → (∀ b t, Ho (P b) → Q (.bool b) { s with toks := t }) → wpAny (model prog w) A (compareOp op u z) Q noE s
end

section
variable {prog : Program} {w : World} {hb : Base} {nm : List Str} {d : Nat}
theorem Room.units {A : Around} (r : Room A d) : A.units + 64 < cLine := by obtain ⟨_, _, h⟩ := r; lia

theorem getK_RK {α β : Type} [DecidableEq α] [DecidableEq β] {key : α → β} (hk : ∀ a b, key a = key b → a = b) {n : Nat} {h : Heap} {f : Nat → Nat} : ∀ {l : List (α × V)} {kvs : List (β × Value)}, RKs key n h f l kvs → ∀ k : α,
    (∀ v, getK k l = some v → ∃ u, valueAt kvs (key k) = some u ∧ RV n h f v u) ∧ (getK k l = none → valueAt kvs (key k) = none)
  | [], _, e, k => by rw [show _ = [] from e]; exact ⟨fun v q => (by unfold getK at q; cases q), fun _ => rfl⟩
  | (j, x) :: l, _, ⟨u, r, e1, e2, e3⟩, k => by
    rw [e1]
    unfold getK
    by_cases q : j = k
    · subst q
      simp only [if_true]
      exact ⟨fun v z => by cases z; exact ⟨u, by simp [valueAt], e2⟩, fun z => by cases z⟩
    · rw [if_neg q]
      have q' : ¬ key j = key k := fun z => q (hk _ _ z)
      have : valueAt ((key j, u) :: r) (key k) = valueAt r (key k) := by simp [valueAt, q']
      rw [this]
      exact getK_RK hk e3 k
theorem RKs.length {α β : Type} {key : α → β} {n : Nat} {h : Heap} {f : Nat → Nat} : ∀ {l : List (α × V)} {kvs : List (β × Value)}, RKs key n h f l kvs → kvs.length = l.length
  | [], _, e => by rw [show _ = [] from e]; rfl
  | _ :: _, _, ⟨_, _, e1, _, e3⟩ => by rw [e1, List.length_cons, List.length_cons, RKs.length e3]

theorem At.noSys {L : Nat} {f : Nat → Nat} {σ : St} {m : Ms} {h : Heap} (a : At prog w hb nm L f σ m h) (nl : hb.h.NoLimit) {i : Nat} (hi : i < σ.length) : (f i == sysModules) = false := by
  have h1 := a.hi i hi
  exact beq_eq_false_iff_ne.mpr fun e => absurd h1 (by rw [e]; exact Nat.lt_irrefl _)

theorem hits_of {A : Around} {s : Shared} {n : Nat} {f : Nat → Nat} {b : List (String × V)} {kb : List (Str × Value)} (hu : A.units + 64 < cLine) (rb : RKs Str.ofString n s.heap f b kb) (sb : b.all (fun p => scal p.2) = true) :
    ∀ {a : List (String × V)} {ka : List (Str × Value)}, RKs Str.ofString n s.heap f a ka → a.all (fun p => scal p.2) = true →
      KeqHits A s kb ka (a.all fun p => match getK p.1 b with | some v => eqS p.2 v | none => false)
  | [], _, e, _ => by rw [show _ = [] from e]; exact .nil
  | (k, x) :: a, _, ⟨u, r, e1, e2, e3⟩, sa => by
    rw [e1]
    simp only [List.all_cons, Bool.and_eq_true] at sa ⊢
    have ih := hits_of hu rb sb e3 sa.2
    obtain ⟨g1, g2⟩ := getK_RK (fun _ _ => ofS_inj) rb k
    cases q : getK k b with
    | none => simp only [Bool.false_and]; exact .miss (g2 q)
    | some v =>
      obtain ⟨z, z1, z2⟩ := g1 v q
      have sv : scal v = true := by
        clear g1 g2 z1 z2 ih
        induction b generalizing kb with
        | nil => cases q
        | cons p t it =>
          obtain ⟨j, y⟩ := p
          simp only [List.all_cons, Bool.and_eq_true] at sb
          unfold getK at q
          split at q
          · cases q; exact sb.1
          · obtain ⟨_, _, _, _, e3'⟩ := rb
            exact it e3' sb.2 q
      refine .hit z1 ?_ ih
      intro prog w E Q hq
      exact PySem.SeqAt.eqBoolOverData prog w A E s u z (pdS x) (pdS v) [] [] Q (reads_S sa.1 e2) (reads_S sv z2) (lay_pdS _) (lay_pdS _) (by have := dep_pdS x; lia) (by rw [eqS_pd sa.1 sv]; exact hq)

theorem cmp_eq (nl : hb.h.NoLimit) : CmpOk prog w hb nm d .Eq cEq := fun A L f σ m s x y u z P Q r a hx hy h k => by
  have fl : Ho (okC (flat1 x) (okC (flat1 y) (P (eq1 x y)))) → wpAny (model prog w) A (compareOp .Eq u z) Q noE s := fun h => by
    obtain ⟨h1, h⟩ := okC_ok h
    obtain ⟨h2, h⟩ := okC_ok h
    exact eq_dataH (reads_1 h1 hx) (reads_1 h2 hy) (shaped_pd1 _) (shaped_pd1 _) (Room.units r) (by rw [eq1_pd h1 h2]; exact k _ s.toks h)
  cases x with
  | bool b => cases y with
    | bool b' => rw [show u = .bool _ from hx, show z = .bool _ from hy]; exact eq_bool (k _ s.toks h)
    | _ => exact h.no
  | ref i => cases y with
    | ref j =>
      obtain ⟨hi, rfl⟩ := hx; obtain ⟨hj, rfl⟩ := hy
      rcases eqRef_ok h with h | h
      · obtain ⟨la, ⟨e1, _⟩, h⟩ := Ho.ask h; obtain ⟨lb, ⟨e2, _⟩, h⟩ := Ho.ask h; obtain ⟨hf, p⟩ := Ho.asr h
        obtain ⟨vs, n, g1, g2⟩ := At.list a e1
        obtain ⟨vs', n', g1', g2'⟩ := At.list a e2
        exact eq_dataH (.list g1 rfl rfl (reads_1s hf.1 g2)) (.list g1' rfl rfl (reads_1s hf.2 g2')) (shaped_pd1s _) (shaped_pd1s _) (Room.units r) (by rw [PyData.eqv, eq1s_pd hf.1 hf.2]; exact k _ s.toks p)
      · obtain ⟨la, e1, h⟩ := Ho.ask h; obtain ⟨lb, e2, h⟩ := Ho.ask h; obtain ⟨hf, p⟩ := Ho.asr h
        obtain ⟨o1, g1, kv1, i1, r1⟩ := a.obj i _ e1
        obtain ⟨o2, g2, kv2, i2, r2⟩ := a.obj j _ e2
        refine keq_eq (At.noSys a nl hi) (At.noSys a nl hj) (Heap.dictOf_iff.mpr ⟨_, g1, i1⟩) (Heap.dictOf_iff.mpr ⟨_, g2, i2⟩) (by have := Room.units r; lia) (fun _ => hits_of (A := A.in1) (by have := r.2.2; show A.units + 1 + 64 < _; lia) r2 hf.2 r1 hf.1) ?_
        rw [RKs.length r1, RKs.length r2]; exact k _ s.toks p
    | _ => exact h.no
  | _ => exact fl h
theorem cmp_ne : CmpOk prog w hb nm d .NotEq cNe := fun A L f σ m s x y u z P Q r a hx hy h k => by
  have fl : Ho (okC (flat1 x) (okC (flat1 y) (P (!eq1 x y)))) → wpAny (model prog w) A (compareOp .NotEq u z) Q noE s := fun h => by
    obtain ⟨h1, h⟩ := okC_ok h
    obtain ⟨h2, h⟩ := okC_ok h
    exact ne_dataH (reads_1 h1 hx) (reads_1 h2 hy) (shaped_pd1 _) (shaped_pd1 _) (Room.units r) (by rw [eq1_pd h1 h2]; exact k _ s.toks h)
  cases x with
  | bool b => cases y with
    | bool b' => rw [show u = .bool _ from hx, show z = .bool _ from hy]; exact ne_bool (k _ s.toks h)
    | _ => exact h.no
  | ref i => cases y with
    | ref j =>
      obtain ⟨hi, rfl⟩ := hx; obtain ⟨hj, rfl⟩ := hy
      obtain ⟨la, ⟨e1, _⟩, h⟩ := Ho.ask h; obtain ⟨lb, ⟨e2, _⟩, h⟩ := Ho.ask h; obtain ⟨hf, p⟩ := Ho.asr h
      obtain ⟨vs, n, g1, g2⟩ := At.list a e1
      obtain ⟨vs', n', g1', g2'⟩ := At.list a e2
      exact ne_dataH (.list g1 rfl rfl (reads_1s hf.1 g2)) (.list g1' rfl rfl (reads_1s hf.2 g2')) (shaped_pd1s _) (shaped_pd1s _) (Room.units r) (by rw [PyData.eqv, eq1s_pd hf.1 hf.2]; exact k _ s.toks p)
    | _ => exact h.no
  | _ => exact fl h
theorem ints_of {op : CmpOp} {g : Int → Int → Bool} (hg : ∀ A s (a b : Int) t t' Q, Q (.bool (g a b)) s → wpAny (model prog w) A (compareOp op (.int a t) (.int b t')) Q noE s) : CmpOk prog w hb nm d op (cInts g) := fun A L f σ m s x y u z P Q r a hx hy h k => by
  cases x with
  | int i => cases y with
    | int j => obtain ⟨t, rfl⟩ := hx; obtain ⟨t', rfl⟩ := hy; exact hg A s i j t t' Q (k _ s.toks h)
    | _ => exact h.no
  | _ => exact h.no
theorem cmp_lt : CmpOk prog w hb nm d .Lt cLt := ints_of fun _ _ _ _ _ _ _ q => PyProof.Rows.lt_int q
theorem cmp_le : CmpOk prog w hb nm d .LtE cLe := ints_of fun _ _ _ _ _ _ _ q => PyProof.Rows.le_int q
theorem cmp_gt : CmpOk prog w hb nm d .Gt cGt := ints_of fun _ _ _ _ _ _ _ q => PyProof.Rows.gt_int q
theorem cmp_ge : CmpOk prog w hb nm d .GtE cGe := ints_of fun _ _ _ _ _ _ _ q => PyProof.Rows.ge_int q
theorem isN_of {n : Nat} {h : Heap} {f : Nat → Nat} {x : V} {u : Value} (r : RV n h f x u) : (u == .none) = isN x := by
  cases x with
  | none => rw [show u = .none from r]; rfl
  | bool b => rw [show u = .bool b from r]; rfl
  | int i => obtain ⟨t, rfl⟩ := r; rfl
  | str i => obtain ⟨t, rfl⟩ := r; rfl
  | tup l => obtain ⟨a, vs, k, rfl, _⟩ := r; rfl
  | ref i => obtain ⟨_, rfl⟩ := r; rfl
  | fn i => rw [show u = .ref i from r]; rfl
  | bound g i => obtain ⟨_, a, rfl, _⟩ := r; rfl
theorem cmp_is : CmpOk prog w hb nm d .Is cIs := fun A L f σ m s x y u z P Q r a hx hy h k => by
  cases y with
  | none => rw [show z = .none from hy]; exact PySem.is_none (by rw [isN_of hx]; exact k _ s.toks h)
  | _ => exact h.no
theorem cmp_isnot : CmpOk prog w hb nm d .IsNot cIsNot := fun A L f σ m s x y u z P Q r a hx hy h k => by
  cases y with
  | none => rw [show z = .none from hy]; exact PySem.isNot_none (by rw [isN_of hx]; exact k _ s.toks h)
  | _ => exact h.no
theorem any_eqS {x : String} : ∀ {l : List V}, l.all scal = true → (l.map pdS).any (fun y => PyData.eqv y (pdS (.str x))) = l.any fun y => eqS y (.str x)
  | [], _ => rfl
  | y :: l, h => by
    simp only [List.all_cons, Bool.and_eq_true] at h
    simp only [List.map_cons, List.any_cons, any_eqS h.2, eqS_pd h.1 (show scal (.str x) = true from rfl)]
theorem cmp_in : CmpOk prog w hb nm d .In cIn := fun A L f σ m s x y u z P Q r a hx hy h k => by
  cases x with
  | str x => cases y with
    | tup l =>
      obtain ⟨hall, h⟩ := okC_ok h
      exact PySem.SeqAt.in_tuple_reads (reads_1 (x := .tup l) hall hy) (reads_S (x := .str x) rfl hx) (lay_pdSs l) (lay_pdS _) (by have := dep_pdS (.str x); have := Room.units r; lia) (by rw [any_eqS hall]; exact k _ s.toks h)
    | _ => exact h.no
  | _ => exact h.no
theorem cmp_notin (nl : hb.h.NoLimit) : CmpOk prog w hb nm d .NotIn cNotIn := fun A L f σ m s x y u z P Q r a hx hy h k => by
  cases x with
  | int n => cases y with
    | ref i =>
      obtain ⟨t, rfl⟩ := hx; obtain ⟨hi, rfl⟩ := hy
      obtain ⟨l, e1, p⟩ := Ho.ask h
      obtain ⟨o1, g1, kv1, i1, r1⟩ := a.obj i _ e1
      obtain ⟨q1, q2⟩ := getK_RK (key := id) (fun _ _ e => e) r1 n
      refine wpAny_notIn_of (intKind_is prog w n t) (At.noSys a nl hi) (Heap.dictOf_iff.mpr ⟨_, g1, i1⟩ : s.heap.DictOf (intKind prog w) (f i) kv1).mapOf ?_
      have e : (!(valueAt kv1 n).isSome) = (getK n l).isNone := by
        cases e : getK n l with
        | none => rw [show valueAt kv1 n = none from q2 e]; rfl
        | some v => obtain ⟨u, e2, _⟩ := q1 v e; rw [show valueAt kv1 n = some u from e2]; rfl
      rw [e]; exact k _ _ p
    | _ => exact h.no
  | _ => exact h.no
end

noncomputable def selP (r : Bool) (A B : Kt) : Kt := match r with
  | true => A
  | false => B
noncomputable def condP (r : Bool) (A B : Kt) : Kt := fun os => match os with
  | [] => selP r A B []
  | a :: os => match a with
    | .b q => r = q ∧ selP q A B os
    | .d => selP r A B os
    | _ => selP r A B (a :: os)
theorem Ho.sel {r : Bool} {A B : Kt} (h : Ho (condP r A B)) : Ho (selP r A B) := by
  obtain ⟨os, h⟩ := h
  cases os with
  | nil => exact ⟨_, h⟩
  | cons a os => cases a with
    | b q => obtain ⟨rfl, h⟩ := h; exact ⟨_, h⟩
    | _ => exact ⟨_, h⟩
noncomputable def onB (v : V) (P : Bool → Kt) : Kt := match v with
  | .bool b => P b
  | _ => kF
theorem onB_ok {P : Bool → Kt} : ∀ {v : V}, Ho (onB v P) → ∃ b, v = .bool b ∧ Ho (P b) := by
  intro v h
  cases v with
  | bool b => exact ⟨b, rfl, h⟩
  | _ => exact h.no
noncomputable def eCmp (O : CF) (a b : EF) : EF := fun m σ P => a m σ fun x σ => b m σ fun y σ => O x y σ fun r => P (.bool r) σ
noncomputable def tCmp (O : CF) (a b : EF) : TF := fun m σ P => a m σ fun x σ => b m σ fun y σ => O x y σ fun r => P r σ
noncomputable def eChain (O O' : CF) (a b c : EF) : EF := fun m σ P => a m σ fun x σ => b m σ fun y σ => O x y σ fun r => condP r (c m σ fun z σ => O' y z σ fun q => P (.bool q) σ) (P (.bool false) σ)
noncomputable def tChain (O O' : CF) (a b c : EF) : TF := fun m σ P => a m σ fun x σ => b m σ fun y σ => O x y σ fun r => condP r (c m σ fun z σ => O' y z σ fun q => P q σ) (P false σ)
noncomputable def tVal (a : EF) : TF := fun m σ P => a m σ fun x σ => onB x fun b => P b σ
noncomputable def tNot (t : TF) : TF := fun m σ P => t m σ fun b σ => P (!b) σ
noncomputable def tT : TF := fun _ σ P => P true σ
noncomputable def tF : TF := fun _ σ P => P false σ
noncomputable def tAnd (t u : TF) : TF := fun m σ P => t m σ fun r σ => condP r (u m σ P) (P false σ)
noncomputable def tOr (t u : TF) : TF := fun m σ P => t m σ fun r σ => condP r (P true σ) (u m σ P)
noncomputable def tIf (t a b : TF) : TF := fun m σ P => t m σ fun r σ => condP r (a m σ P) (b m σ P)
noncomputable def eIf (t : TF) (a b : EF) : EF := fun m σ P => t m σ fun r σ => condP r (a m σ P) (b m σ P)
noncomputable def eAnd (a b : EF) : EF := fun m σ P => a m σ fun x σ => onB x fun r => condP r (b m σ P) (P (.bool false) σ)
noncomputable def eNot (a : EF) : EF := fun m σ P => a m σ fun x σ => onB x fun b => P (.bool (!b)) σ

section
variable (prog : Program) (w : World) (hb : Base) (c : Fx)
noncomputable def SA (d : Nat) (op : BoolOp) (es : List Expr) (F : TF) : Prop := ∀ A L f σ m s P Q, Room A d → At prog w hb c.nm L f σ m s.heap → Ho (F m σ P) → Con prog w hb c.nm L bB σ.length f s m P Q →
  wpAny (model prog w) A (allTrue op es (c.env L)) Q noE s
end

section
variable {prog : Program} {w : World} {hb : Base} {c : Fx} {d : Nat}
theorem se_cmp {l r : Expr} {op : CmpOp} {pos : Pos} {F G : EF} {O : CF} (hl : SE prog w hb c d l F) (hr : SE prog w hb c d r G) (ho : CmpOk prog w hb c.nm d op O)
    (hm : behindInMarks op r = false := by with_unfolding_all rfl) : SE prog w hb c d (.Compare l [op] [r] pos) (eCmp O F G) := fun A L f σ m s P Q rm a h k =>
  wpAny_Compare1 (hl A L f σ m s _ _ rm a h fun x σ1 f1 u s1 p1 x1 r1 => hr A L f1 σ1 m s1 _ _ rm x1.a p1 fun y σ2 f2 z s2 p2 x2 r2 =>
    ho A L f2 σ2 m s2 x y u z _ Q rm x2.a (RV.adv x2.d r1) r2 p2 fun b t p => k (.bool b) σ2 f2 _ _ p ((x1.trans x2).trans (.tok x2.a)) rfl) hm
theorem st_cmp {l r : Expr} {op : CmpOp} {pos : Pos} {F G : EF} {O : CF} (hl : SE prog w hb c d l F) (hr : SE prog w hb c d r G) (ho : CmpOk prog w hb c.nm d op O)
    (hm : behindInMarks op r = false := by with_unfolding_all rfl) : ST prog w hb c d (.Compare l [op] [r] pos) (tCmp O F G) := fun A L f σ m s P Q rm a h k =>
  wpAny_isTrue_Compare1 (hl A L f σ m s _ _ rm a h fun x σ1 f1 u s1 p1 x1 r1 => hr A L f1 σ1 m s1 _ _ rm x1.a p1 fun y σ2 f2 z s2 p2 x2 r2 =>
    ho A L f2 σ2 m s2 x y u z _ _ rm x2.a (RV.adv x2.d r1) r2 p2 fun b t p => wpAny_truthy_bool (k b σ2 f2 _ _ p ((x1.trans x2).trans (.tok x2.a)) rfl)) hm
theorem se_chain {l r z : Expr} {op op' : CmpOp} {pos : Pos} {F G H : EF} {O O' : CF} (hl : SE prog w hb c d l F) (hr : SE prog w hb c d r G) (hz : SE prog w hb c d z H) (ho : CmpOk prog w hb c.nm d op O) (hp : CmpOk prog w hb c.nm d op' O')
    (hm : lastMarks [op, op'] [r, z] = false := by with_unfolding_all rfl) : SE prog w hb c d (.Compare l [op, op'] [r, z] pos) (eChain O O' F G H) := fun A L f σ m s P Q rm a h k =>
  Compare_chain (hl A L f σ m s _ _ rm a h fun x σ1 f1 u s1 p1 x1 r1 => chain_link (hr A L f1 σ1 m s1 _ _ rm x1.a p1 fun y σ2 f2 z' s2 p2 x2 r2 =>
    ho A L f2 σ2 m s2 x y u z' _ _ rm x2.a (RV.adv x2.d r1) r2 p2 fun b t p => wpAny_truthy_bool (by
      have x3 := (x1.trans x2).trans (.tok (k := t) x2.a)
      have p := p.sel
      cases b with
      | false => exact k _ σ2 f2 _ _ p x3 rfl
      | true => exact chain_last (hz A L f2 σ2 m _ _ _ rm x3.a p fun q σ3 f4 q' s4 p4 x4 r4 => hp A L f4 σ3 m s4 y q z' q' _ Q rm x4.a (RV.adv x4.d r2) r4 p4 fun b t p => k (.bool b) σ3 f4 _ _ p ((x3.trans x4).trans (.tok x4.a)) rfl)))) hm
theorem st_chain {l r z : Expr} {op op' : CmpOp} {pos : Pos} {F G H : EF} {O O' : CF} (hl : SE prog w hb c d l F) (hr : SE prog w hb c d r G) (hz : SE prog w hb c d z H) (ho : CmpOk prog w hb c.nm d op O) (hp : CmpOk prog w hb c.nm d op' O')
    (hm : lastMarks [op, op'] [r, z] = false := by with_unfolding_all rfl) : ST prog w hb c d (.Compare l [op, op'] [r, z] pos) (tChain O O' F G H) := fun A L f σ m s P Q rm a h k =>
  isTrue_chain (hl A L f σ m s _ _ rm a h fun x σ1 f1 u s1 p1 x1 r1 => test_link (hr A L f1 σ1 m s1 _ _ rm x1.a p1 fun y σ2 f2 z' s2 p2 x2 r2 =>
    ho A L f2 σ2 m s2 x y u z' _ _ rm x2.a (RV.adv x2.d r1) r2 p2 fun b t p => wpAny_truthy_bool (by
      have x3 := (x1.trans x2).trans (.tok (k := t) x2.a)
      have p := p.sel
      cases b with
      | false => exact k _ σ2 f2 _ _ p x3 rfl
      | true => exact test_last (hz A L f2 σ2 m _ _ _ rm x3.a p fun q σ3 f4 q' s4 p4 x4 r4 => hp A L f4 σ3 m s4 y q z' q' _ _ rm x4.a (RV.adv x4.d r2) r4 p4 fun b t p => wpAny_truthy_bool (k b σ3 f4 _ _ p ((x3.trans x4).trans (.tok x4.a)) rfl))))) hm
theorem st_val {e : Expr} {F : EF} (he : SE prog w hb c d e F) (hp : ∀ L whole, isTrue e (c.env L) whole = (do let v ← whole; standAt e.pos; holding [v] (truthy v)) := by intro _ _; rfl) : ST prog w hb c d e (tVal F) := fun A L f σ m s P Q rm a h k =>
  isTrue_plain (he A L f σ m s _ _ rm a h fun x σ1 f1 u s1 p1 x1 r1 => by
    obtain ⟨b, rfl, p⟩ := onB_ok p1
    rw [show u = .bool b from r1]
    exact wpAny_truthy_bool (k _ _ _ _ _ p x1 rfl)) (hp L _)
theorem st_not {e : Expr} {pos : Pos} {F : TF} (he : ST prog w hb c d e F) : ST prog w hb c d (.UnaryOp .Not e pos) (tNot F) := fun A L f σ m s P Q rm a h k =>
  wpAny_isTrue_Not (he A L f σ m s _ _ rm a h fun x σ1 f1 u s1 p1 x1 r1 => by rw [show u = x from r1]; exact k _ _ _ _ _ p1 x1 rfl)
theorem st_bool {op : BoolOp} {es : List Expr} {pos : Pos} {F : TF} (h : SA prog w hb c d op es F) : ST prog w hb c d (.BoolOp op es pos) F := fun A L f σ m s P Q rm a h' k => wpAny_isTrue_BoolOp (h A L f σ m s P Q rm a h' k)
theorem sa_and_nil : SA prog w hb c d .And [] tT := fun A L f σ m s P Q rm a h k => wpAny_allTrue_And_nil (k _ _ _ _ _ h (.refl a) rfl)
theorem sa_or_nil : SA prog w hb c d .Or [] tF := fun A L f σ m s P Q rm a h k => wpAny_allTrue_Or_nil (k _ _ _ _ _ h (.refl a) rfl)
theorem sa_and {e : Expr} {es : List Expr} {F G : TF} (he : ST prog w hb c d e F) (hr : SA prog w hb c d .And es G) : SA prog w hb c d .And (e :: es) (tAnd F G) := fun A L f σ m s P Q rm a h k =>
  wpAny_allTrue_And_cons (he A L f σ m s _ _ rm a h fun x σ1 f1 u s1 p1 x1 r1 => by
    rw [show u = x from r1]
    have p1 := p1.sel
    cases x with
    | false => exact k _ _ _ _ _ p1 x1 rfl
    | true => exact hr A L f1 σ1 m s1 P Q rm x1.a p1 (k.from x1))
theorem sa_or {e : Expr} {es : List Expr} {F G : TF} (he : ST prog w hb c d e F) (hr : SA prog w hb c d .Or es G) : SA prog w hb c d .Or (e :: es) (tOr F G) := fun A L f σ m s P Q rm a h k =>
  wpAny_allTrue_Or_cons (he A L f σ m s _ _ rm a h fun x σ1 f1 u s1 p1 x1 r1 => by
    rw [show u = x from r1]
    have p1 := p1.sel
    cases x with
    | true => exact k _ _ _ _ _ p1 x1 rfl
    | false => exact hr A L f1 σ1 m s1 P Q rm x1.a p1 (k.from x1))
theorem st_if {t x y : Expr} {pos : Pos} {T F G : TF} (ht : ST prog w hb c d t T) (hx : ST prog w hb c d x F) (hy : ST prog w hb c d y G) : ST prog w hb c d (.IfExp t x y pos) (tIf T F G) := fun A L f σ m s P Q rm a h k =>
  isTrue_IfExp (ht A L f σ m s _ _ rm a h fun b σ1 f1 u s1 p1 x1 r1 => by
    rw [show u = b from r1]
    have p1 := p1.sel
    cases b with
    | true => exact hx A L f1 σ1 m s1 P Q rm x1.a p1 (k.from x1)
    | false => exact hy A L f1 σ1 m s1 P Q rm x1.a p1 (k.from x1))
theorem se_if {t x y : Expr} {pos : Pos} {T : TF} {F G : EF} (ht : ST prog w hb c d t T) (hx : SE prog w hb c d x F) (hy : SE prog w hb c d y G) : SE prog w hb c d (.IfExp t x y pos) (eIf T F G) := fun A L f σ m s P Q rm a h k =>
  wpAny_IfExp (ht A L f σ m s _ _ rm a h fun b σ1 f1 u s1 p1 x1 r1 => by
    rw [show u = b from r1]
    have p1 := p1.sel
    cases b with
    | true => exact hx A L f1 σ1 m s1 P Q rm x1.a p1 (k.from x1)
    | false => exact hy A L f1 σ1 m s1 P Q rm x1.a p1 (k.from x1))
theorem se_and {x y : Expr} {pos : Pos} {F G : EF} (hx : SE prog w hb c d x F) (hy : SE prog w hb c d y G) : SE prog w hb c d (.BoolOp .And [x, y] pos) (eAnd F G) := fun A L f σ m s P Q rm a h k =>
  wpAny_And2 (hx A L f σ m s _ _ rm a h fun b σ1 f1 u s1 p1 x1 r1 => by
    obtain ⟨b, rfl, p⟩ := onB_ok p1
    rw [show u = .bool b from r1]
    have p := p.sel
    cases b with
    | true => exact wpAny_truthy_bool (hy A L f1 σ1 m s1 P Q rm x1.a p (k.from x1))
    | false => exact wpAny_truthy_bool (k _ _ _ _ _ p x1 rfl))
theorem se_not {x : Expr} {pos : Pos} {F : EF} (hx : SE prog w hb c d x F) : SE prog w hb c d (.UnaryOp .Not x pos) (eNot F) := fun A L f σ m s P Q rm a h k =>
  wpAny_UnaryOp (hx A L f σ m s _ _ rm a h fun b σ1 f1 u s1 p1 x1 r1 => by
    obtain ⟨b, rfl, p⟩ := onB_ok p1
    rw [show u = .bool b from r1]
    exact not_value (wpAny_truthy_bool (k _ _ _ _ _ p x1 rfl)))
end

theorem runs_size {M : Model} {Γ : Ctx} {p : Pos} {t : Sem Fin} {fs : List Frame} {s : Shared} {e : End} {s' : Shared} (r : Runs M Γ p t fs s e s') : s.heap.objs.size ≤ s'.heap.objs.size := by
  induction r with
  | update _ _ ih => simpa using ih
  | alloc _ ih => exact Nat.le_trans (by simp) ih
  | call _ _ i1 i2 => exact Nat.le_trans i1 i2
  | resumeFresh _ _ _ _ i1 i2 => exact Nat.le_trans i1 i2
  | resumeSuspended _ _ _ _ i1 i2 => exact Nat.le_trans i1 i2
  | segRet _ _ i1 i2 => exact Nat.le_trans i1 i2
  | segGen _ _ i1 i2 => exact Nat.le_trans i1 i2
  | segSuspGen _ _ _ _ i1 i2 => exact Nat.le_trans i1 i2
  | _ => first | exact Nat.le_refl _ | assumption

theorem wakes_size {M : Model} {Γ : Ctx} {p : Pos} {g : Nat} {r : Resume} {s : Shared} {res : GenResult} {s' : Shared} (x : Wakes M Γ p g r s res s') : s.heap.objs.size ≤ s'.heap.objs.size := by
  unfold Wakes at x
  split at x
  · exact x.elim
  · split at x
    · obtain ⟨_, _, h, _, _, rfl⟩ := x; exact (runs_size h :)
    · rw [x.2]; exact Nat.le_refl _
    · rw [x.2]; exact Nat.le_refl _
  · obtain ⟨_, _, h, _, _, rfl⟩ := x; exact (runs_size h :)
  · rw [x.2]; exact Nat.le_refl _
  · rw [x.2]; exact Nat.le_refl _

theorem wp_size {α : Type} {M : Model} {Γ : Ctx} {Q : α → Pos → Shared → Prop} {E : Value → Pos → Shared → Prop} : ∀ (t : Sem α) {N : Nat} {p : Pos} {s : Shared}, N ≤ s.heap.objs.size → Sem.wp M Γ t Q E p s →
    Sem.wp M Γ t (fun a p s' => Q a p s' ∧ N ≤ s'.heap.objs.size) (fun a p s' => E a p s' ∧ N ≤ s'.heap.objs.size) p s := by
  intro t
  induction t with
  | pure a => intro N p s hn h; exact ⟨h, hn⟩
  | raise a => intro N p s hn h; exact ⟨h, hn⟩
  | unsupported _ => intro N p s hn h; exact h
  | finish _ => intro N p s hn h; exact h
  | rule _ k ih => intro N p s hn h; exact ih () hn h
  | «at» _ k ih => intro N p s hn h; exact ih () hn h
  | load a _ k ih => intro N p s hn ⟨o, e, h⟩; exact ⟨o, e, ih o hn h⟩
  | update a _ f k ih => intro N p s hn ⟨e, h⟩; exact ⟨e, ih () (by simpa using hn) h⟩
  | loadIfAlive a k ih => intro N p s hn h; exact ih _ hn h
  | point _ k ih => intro N p s hn h; exact ih () hn h
  | register _ _ => intro N p s hn h; exact h
  | alloc o k ih => intro N p s hn h; exact ih _ (Nat.le_trans hn (by simp)) h
  | fresh k ih => intro N p s hn h; exact ih _ hn h
  | ask k ih => intro N p s hn h; exact ih _ hn h
  | choose src n k ih => intro N p s hn ⟨e, h⟩; exact ⟨e, ih _ hn h⟩
  | os q _ k ih => intro N p s hn h; exact ih _ hn h
  | call c hd g l k ih => intro N p s hn ⟨r, s', e, h⟩; exact ⟨r, s', e, ih r (Nat.le_trans hn (runs_size e)) h⟩
  | handled own k ih => intro N p s hn h; exact ih _ hn h
  | genState g k ih => intro N p s hn ⟨st, e, h⟩; exact ⟨st, e, ih _ hn h⟩
  | newGen c k ih => intro N p s hn h; exact ih _ hn h
  | resume g r l k ih => intro N p s hn ⟨res, s', e, h⟩; exact ⟨res, s', e, ih _ (Nat.le_trans hn (wakes_size e)) h⟩
  | yield _ _ _ _ => intro N p s hn h; exact h
  | stack k ih => intro N p s hn h; exact ih _ hn h
  | fork _ _ => intro N p s hn h; exact h
  | thread k ih => intro N p s hn h; exact ih _ hn h
  | await _ _ _ _ _ => intro N p s hn h; exact h

theorem sized {α : Type} {M : Model} {A : Around} {t : Sem α} {Q : α → Shared → Prop} {s : Shared} (h : wpAny M A t Q noE s) : wpAny M A t (fun a s' => Q a s' ∧ s.heap.objs.size ≤ s'.heap.objs.size) noE s :=
  fun Γ p hΓ => Sem.wp_mono M Γ t (fun _ _ _ x => x) (fun _ _ _ x => x.1) p s (wp_size t (Nat.le_refl _) (h Γ p hΓ))


noncomputable abbrev GF := V → Ms → St → (Ms → St → Kt) → Kt
noncomputable def gName (k : Nat) : GF := fun v m σ P => P (m.set k (some v)) σ
noncomputable def gAll : List GF → List V → Ms → St → (Ms → St → Kt) → Kt
  | [], _, m, σ, P => P m σ
  | g :: gs, vs, m, σ, P => (match vs with
    | v :: vs => g v m σ fun m σ => gAll gs vs m σ P
    | [] => kF)
noncomputable def sameLen {α β : Type} : List α → List β → Bool
  | [], l => l.isEmpty
  | _ :: k, l => (match l with
    | [] => false
    | _ :: l => sameLen k l)
theorem sameLen_eq {α β : Type} : ∀ (k : List α) (l : List β), sameLen k l = true → k.length = l.length
  | [], [], _ => rfl
  | [], _ :: _, h => by cases h
  | _ :: _, [], h => by cases h
  | _ :: k, _ :: l, h => congrArg Nat.succ (sameLen_eq k l h)
noncomputable def onTup (v : V) (P : List V → Kt) : Kt := match v with
  | .tup l => P l
  | _ => kF
theorem onTup_ok {P : List V → Kt} {v : V} (h : Ho (onTup v P)) : ∃ l, v = .tup l ∧ Ho (P l) := by
  cases v with
  | tup l => exact ⟨l, rfl, h⟩
  | _ => exact h.no
noncomputable def gTup (gs : List GF) : GF := fun v m σ P => onTup v fun l => okC (sameLen gs l) (gAll gs l m σ P)
noncomputable def sAsg (g : GF) (e : EF) : SF := fun m σ P => e m σ fun v σ => g v m σ fun m σ => P .next m σ
noncomputable def sAsgR (ks : List Nat) (e : EF) : SF := fun m σ P => e m σ fun v σ => onTup v fun l => okC (sameLen ks l) (gAll (ks.reverse.map gName) l.reverse m σ fun m σ => P .next m σ)
noncomputable def sAug (op : Op2) (k : Nat) (e : EF) : SF := fun m σ P => okO (gt m k) fun x => e m σ fun y σ => op x y σ fun v σ => P .next (m.set k (some v)) σ
noncomputable def onImm (v : V) (P : Kt) : Kt := match v with
  | .none => P
  | .bool _ => P
  | .int _ => P
  | .str _ => P
  | _ => kF
noncomputable def sExpr (e : EF) : SF := fun m σ P => e m σ fun v σ => onImm v (P .next m σ)
noncomputable def sRet (e : EF) : SF := fun m σ P => e m σ fun v σ => P (.ret v) m σ
noncomputable def sRetN : SF := fun m σ P => P (.ret .none) m σ
noncomputable def sIf (t : TF) (a b : SF) : SF := fun m σ P => t m σ fun r σ => condP r (a m σ P) (b m σ P)
noncomputable def sNil : SF := fun m σ P => P .next m σ
noncomputable def sSeq (a b : SF) : SF := fun m σ P => a m σ fun x m σ => match x with
  | .next => b m σ P
  | .ret v => P (.ret v) m σ
noncomputable def opIAdd : Op2 := fun x y σ P => match x with
  | .int a => (match y with | .int b => P (.int (a + b)) σ | _ => kF)
  | _ => kF

section
variable (prog : Program) (w : World) (hb : Base) (nm : List Str) (L : Nat)
noncomputable def ConG (n : Nat) (f : Nat → Nat) (s : Shared) (P : Ms → St → Kt) (Q : Unit → Shared → Prop) : Prop := ∀ m' σ' f' u s', Ho (P m' σ') → Nxt prog w hb nm L n f s σ' m' f' s' → Q u s'
end
section
variable (prog : Program) (w : World) (hb : Base) (c : Fx) (d : Nat)
noncomputable def SG (t : Expr) (G : GF) : Prop := ∀ A L f σ m s v u P Q, Room A d → At prog w hb c.nm L f σ m s.heap → RV σ.length s.heap f v u → Ho (G v m σ P) → ConG prog w hb c.nm L σ.length f s P Q → wpAny (model prog w) A (assign t (c.env L) u) Q noE s
inductive SGs : List Expr → List GF → Prop
  | nil : SGs [] []
  | cons {t : Expr} {ts : List Expr} {g : GF} {gs : List GF} : SG prog w hb c d t g → SGs ts gs → SGs (t :: ts) (g :: gs)
end

section
variable {prog : Program} {w : World} {hb : Base} {c : Fx} {d : Nat}
theorem ConG.from {nm : List Str} {L n : Nat} {f f1 : Nat → Nat} {s s1 : Shared} {σ1 : St} {m1 : Ms} {P : Ms → St → Kt} {Q : Unit → Shared → Prop} (x : Nxt prog w hb nm L n f s σ1 m1 f1 s1) (k : ConG prog w hb nm L n f s P Q) : ConG prog w hb nm L σ1.length f1 s1 P Q := fun m' σ' f' u s' p y => k m' σ' f' u s' p (x.trans y)
theorem store_ {A : Around} {L : Nat} {f : Nat → Nat} {σ : St} {m : Ms} {s : Shared} {v : V} {u : Value} {k : Nat} {x : Str} (ok : c.Ok) (hx : c.nm[k]? = some x) (a : At prog w hb c.nm L f σ m s.heap) (r : RV σ.length s.heap f v u) {P : Unit → Shared → Prop}
    (h : ∀ u s', Nxt prog w hb c.nm L σ.length f s σ (m.set k (some v)) f s' → P u s') :
    wpAny (model prog w) A (storeName (c.env L) x u) P noE s := by
  obtain ⟨mm, F, y⟩ := a.fr
  refine wpAny_storeName_local (ok.loc x (List.mem_of_getElem? hx)) F.ns (fun h' hn hs => ?_) ?_
  · obtain ⟨a', im⟩ := a.store ok.nd hx F y r (F.set hn hs) hs
    exact h _ _ ⟨.of_store hs im rfl rfl, a'⟩
  · show (c.sc.kind == .class || (c.sc.kind == .module && L != mainGlobals)) = false
    rw [ok.kind]; rfl
theorem sg_name {k : Nat} {x : Str} {pos : Pos} (ok : c.Ok) (hx : c.nm[k]? = some x) : SG prog w hb c d (.Name x pos) (gName k) := fun A L f σ m s v u P Q rm a r h kk => by
  rw [PySem.assign_Name]
  exact wpAny_bind (wpAny_standAt (wpAny_bindName (store_ ok hx a r fun _ _ x => kk _ _ _ _ _ h x)))
theorem gAll_ok {ts : List Expr} {gs : List GF} (h : SGs prog w hb c d ts gs) : ∀ {A L f σ m s vs us P Q}, Room A d → At prog w hb c.nm L f σ m s.heap → RVs σ.length s.heap f vs us → gs.length = vs.length → Ho (gAll gs vs m σ P) → ConG prog w hb c.nm L σ.length f s P Q →
    wpAny (model prog w) A (assignInOrder (ts.map fun t => assign t (c.env L)) us) Q noE s := by
  induction h with
  | nil =>
    intro A L f σ m s vs us P Q rm a r hl e k
    cases vs with
    | nil => rw [show us = [] from r]; exact wpAny_pure (k _ _ _ _ _ e (.refl a))
    | cons _ _ => cases hl
  | @cons t ts g gs hg _ ih =>
    intro A L f σ m s vs us P Q rm a r hl e k
    cases vs with
    | nil => cases hl
    | cons x xs =>
      obtain ⟨v, r', e1, e2, e3⟩ := r
      rw [e1]
      exact wpAny_bind (wpAny_holding (hg A L f σ m s x v _ _ rm a e2 e fun m1 σ1 f1 _ s1 p1 x1 => ih rm x1.a (RVs.adv x1.d e3) (Nat.succ.inj hl) p1 (k.from x1)))
theorem assignEach_map {ts : List Expr} {env : Env} (h : ∀ t ∈ ts, ∀ e p, t ≠ .Starred e p) : (assignEach ts env).map (·.2) = ts.map (fun t => assign t env) ∧ (assignEach ts env).findIdx? (·.1) = none ∧ (assignEach ts env).length = ts.length := by
  induction ts with
  | nil => exact ⟨rfl, rfl, rfl⟩
  | cons t ts ih =>
    obtain ⟨i1, i2, i3⟩ := ih fun x hx => h x (.tail _ hx)
    have : assignEach (t :: ts) env = (false, assign t env) :: assignEach ts env := by
      cases t <;> first | rfl | exact absurd rfl (h _ (.head _) _ _)
    rw [this]
    refine ⟨by simp [i1], by simp [List.findIdx?_cons, i2], by simp [i3]⟩

theorem items_ {A : Around} {L : Nat} {f : Nat → Nat} {σ : St} {m : Ms} {s : Shared} {nm : List Str} {a' : Nat} {vs : Array Value} {k n : Nat} {P : List Value → Shared → Prop} (hh : A.handled = none) (a : At prog w hb nm L f σ m s.heap) (ht : s.heap.get? a' = some (tupO vs k)) (hn : n = vs.size)
    (h : ∀ s', Nxt prog w hb nm L σ.length f s σ m f s' → P vs.toList s') : wpAny (model prog w) A (unpackItems (.ref a') n none) P noE s := by
  subst hn
  have := unpackItems_tuple (prog := prog) (w := w) (A := A) (E := noE) (s := s) (t := a') (items := vs) (Q := fun us s' => us = vs.toList ∧ ∃ h', s' = { s with heap := h' } ∧ Heap.ExtBut s.heap.objs.size s.heap h') hh ⟨_, ht, rfl, _, rfl⟩ (fun h' e => ⟨rfl, h', rfl, e⟩)
  refine wpAny_mono (sized this) (fun us s' zz => ?_) fun _ _ e => e
  obtain ⟨⟨e1, h', e2, e3⟩, hz⟩ := zz
  subst e1; subst e2
  exact h _ (.grow a (fun b o e => e3 b o (Nat.ne_of_lt (Heap.lt_size e)) e) hz rfl rfl)
theorem SGs.len {ts : List Expr} {gs : List GF} (h : SGs prog w hb c d ts gs) : gs.length = ts.length := by
  induction h with
  | nil => rfl
  | cons _ _ ih => rw [List.length_cons, List.length_cons, ih]
theorem sg_tup {ts : List Expr} {gs : List GF} {k : Nat} {pos : Pos} (h : SGs prog w hb c d ts gs) (hs : ∀ t ∈ ts, ∀ e p, t ≠ .Starred e p) : SG prog w hb c d (.Tuple ts k pos) (gTup gs) := fun A L f σ m s v u P Q rm a r e kk => by
  obtain ⟨l, rfl, e⟩ := onTup_ok e
  obtain ⟨hl, e⟩ := okC_ok e
  have hl := sameLen_eq _ _ hl
  obtain ⟨a', vs, k', rfl, e2, e3⟩ := r
  obtain ⟨q1, q2, q3⟩ := assignEach_map (env := c.env L) hs
  rw [assign_Tuple]
  unfold unpack
  refine wpAny_bind (wpAny_standAt (wpAny_bind (wpAny_holding ?_)))
  rw [q1, q2, q3]
  exact items_ rm.1 a e2 (by rw [← SGs.len h, hl, ← e3.length, Array.length_toList]) fun s' x => gAll_ok h rm x.a (RVs.adv x.d e3) hl e (kk.from x)
theorem ss_asg {t value : Expr} {pos : Pos} {g : GF} {F : EF} (hv : SE prog w hb c d value F) (ht : SG prog w hb c d t g) (hs : ∀ L, swapsWithSole [t] value pos.line (c.env L) = pure false) (hw : ∀ L, swappedStores [t] value (c.env L) = pure none)
    (hst : ∀ e p, t ≠ .Starred e p) : SS prog w hb c d (.Assign [t] value pos) (sAsg g F) := fun A L f σ m s P Q rm a h k =>
  wpAny_Assign_stores (hv A L f σ m s _ _ rm a h fun v σ1 f1 u s1 p1 x1 r1 => by
    rw [(assignEach_map (ts := [t]) (env := c.env L) fun y hy => by rw [List.mem_singleton.mp hy]; exact hst).1]
    exact ht A L f1 σ1 m s1 v u _ _ rm x1.a r1 p1 fun m2 σ2 f2 _ s2 p2 x2 => k _ _ _ _ _ _ p2 (x1.trans x2) rfl) (hs L) (hw L)
theorem gNames_ok (ok : c.Ok) {A : Around} {L : Nat} : ∀ {ks : List Nat} {xs : List Str} {f : Nat → Nat} {σ : St} {m : Ms} {s : Shared} {vs : List V} {us : List Value} {P : Ms → St → Kt} {Q : Unit → Shared → Prop}, ks.map (fun k => c.nm[k]?) = xs.map some → At prog w hb c.nm L f σ m s.heap → RVs σ.length s.heap f vs us → ks.length = vs.length → Ho (gAll (ks.map gName) vs m σ P) → ConG prog w hb c.nm L σ.length f s P Q →
    wpAny (model prog w) A (assignInOrder (xs.map fun x => bindName (c.env L) x) us) Q noE s
  | [], xs, f, σ, m, s, vs, us, P, Q, hk, a, r, hl, e, kk => by
    cases xs with
    | cons => cases hk
    | nil => cases vs with
      | nil => rw [show us = [] from r]; exact wpAny_pure (kk _ _ _ _ _ e (.refl a))
      | cons _ _ => cases hl
  | k :: ks, xs, f, σ, m, s, vs, us, P, Q, hk, a, r, hl, e, kk => by
    cases xs with
    | nil => cases hk
    | cons x xs => cases vs with
      | nil => cases hl
      | cons v vs =>
        obtain ⟨u, r', e1, e2, e3⟩ := r
        have hk1 := (List.cons.inj hk).1
        have hk2 := (List.cons.inj hk).2
        rw [e1]
        exact wpAny_bind (wpAny_holding (wpAny_bindName (store_ ok hk1 a e2 fun _ s1 x1 => gNames_ok ok hk2 x1.a (RVs.adv x1.d e3) (Nat.succ.inj hl) e (kk.from x1))))
theorem ss_asgR {elts : List Expr} {k : Nat} {tpos : Pos} {value : Expr} {pos : Pos} {F : EF} {ks : List Nat} {names : List Str} (ok : c.Ok) (hv : SE prog w hb c d value F) (hk : ks.map (fun k => c.nm[k]?) = names.map some)
    (hs : ∀ L, swapsWithSole [.Tuple elts k tpos] value pos.line (c.env L) = pure false) (hw : ∀ L, swappedStores [.Tuple elts k tpos] value (c.env L) = pure (some names)) :
    SS prog w hb c d (.Assign [.Tuple elts k tpos] value pos) (sAsgR ks F) := fun A L f σ m s P Q rm a h kk =>
  Assign_Tuple_swapped (hv A L f σ m s _ _ rm a h fun v σ1 f1 u s1 p1 x1 r1 => by
    obtain ⟨l, rfl, e⟩ := onTup_ok p1
    obtain ⟨hl, e⟩ := okC_ok e
    have hl := sameLen_eq _ _ hl
    obtain ⟨a', vs, k', rfl, e2, e3⟩ := r1
    have hn : names.length = vs.size := by
      have q2 := congrArg List.length hk
      have q3 := e3.length
      simp only [List.length_map, Array.length_toList] at q2 q3
      lia
    exact items_ rm.1 x1.a e2 hn fun s' x' => gNames_ok (A := A) ok (ks := ks.reverse) (xs := names.reverse) (by rw [List.map_reverse, List.map_reverse, hk]) x'.a (RVs.adv x'.d e3).rev (by rw [List.length_reverse, List.length_reverse, hl]) e fun m2 σ2 f2 _ s2 p2 x2 => kk _ _ _ _ _ _ p2 ((x1.trans x').trans x2) rfl) (hs L) (hw L)
noncomputable def Ok2I (prog : Program) (w : World) (hb : Base) (nm : List Str) (d : Nat) (op : Operator) (O : Op2) : Prop := ∀ A L f σ m s x y u z P Q, Room A d → At prog w hb nm L f σ m s.heap → RV σ.length s.heap f x u → RV σ.length s.heap f y z → Ho (O x y σ P) → Con prog w hb nm L bV σ.length f s m P Q →
  wpAny (model prog w) A (inplaceOp op u z) Q noE s
theorem ss_aug {x : Str} {pos' pos : Pos} {op : Operator} {value : Expr} {k : Nat} {F : EF} {O : Op2} (ok : c.Ok) (hx : c.nm[k]? = some x) (hv : SE prog w hb c d value F) (ho : Ok2I prog w hb c.nm d op O) :
    SS prog w hb c d (.AugAssign (.Name x pos') op value pos) (sAug O k F) := fun A L f σ m s P Q rm a h kk => by
  obtain ⟨v1, q, h⟩ := okO_ok h
  obtain ⟨mm, Fr0, y0⟩ := a.fr
  obtain ⟨u, e1, e2⟩ := y0 k x v1 hx (gt_some q)
  exact wpAny_AugAssign_Name (wpAny_loadName_local ok.kind (ok.loc x (List.mem_of_getElem? hx)) Fr0.ns e1 (hv A L f σ m s _ _ rm a h fun v2 σ1 f1 z s1 p1 x1 r1 =>
    ho A L f1 σ1 m s1 v1 v2 u z _ _ rm x1.a (RV.adv x1.d e2) r1 p1 fun v σ2 f2 r s2 p2 x2 r2 => store_ ok hx x2.a r2 fun _ s3 x3 => kk _ _ _ _ _ _ p2 ((x1.trans x2).trans x3) rfl))
theorem ok_iadd {nm : List Str} : Ok2I prog w hb nm d .Add opIAdd := fun A L f σ m s x y u z P Q rm a hx hy h k => by
  cases x with
  | int i => cases y with
    | int j => obtain ⟨t, rfl⟩ := hx; obtain ⟨t', rfl⟩ := hy; exact wpAny_iadd_int (k _ _ _ _ _ h (.tok a) ⟨_, rfl⟩)
    | _ => exact h.no
  | _ => exact h.no
theorem ss_expr {e : Expr} {pos : Pos} {F : EF} (he : SE prog w hb c d e F) (hs : ∀ L, swapsWith e none pos.line (c.env L) = pure false) (hi : ∀ L, interactive (c.env L) = false := by intro _; rfl) : SS prog w hb c d (.Expr e pos) (sExpr F) := fun A L f σ m s P Q rm a h k =>
  wpAny_Expr (he A L f σ m s _ _ rm a h fun v σ1 f1 u s1 p1 x1 r1 => by
    cases v with
    | none => rw [show u = .none from r1]; exact k _ _ _ _ _ _ p1 x1 rfl
    | bool b => rw [show u = .bool b from r1]; exact k _ _ _ _ _ _ p1 x1 rfl
    | int i => obtain ⟨t, rfl⟩ := r1; exact k _ _ _ _ _ _ p1 x1 rfl
    | str i => obtain ⟨t, rfl⟩ := r1; exact k _ _ _ _ _ _ p1 x1 rfl
    | _ => exact p1.no) (hi L) (hs L)
theorem ss_ret {e : Expr} {pos : Pos} {F : EF} (he : SE prog w hb c d e F) : SS prog w hb c d (.Return (some e) pos) (sRet F) := fun A L f σ m s P Q rm a h k =>
  wpAny_Return_some (he A L f σ m s _ _ rm a h fun v σ1 f1 u s1 p1 x1 r1 => k _ _ _ _ _ _ p1 x1 ⟨_, rfl, r1⟩)
theorem ss_retN {pos : Pos} : SS prog w hb c d (.Return none pos) sRetN := fun A L f σ m s P Q rm a h k => wpAny_Return_none (k _ _ _ _ _ _ h (.refl a) ⟨_, rfl, rfl⟩)
theorem ss_if {t : Expr} {xs ys : List Stmt} {pos : Pos} {T : TF} {F G : SF} (ht : ST prog w hb c d t T) (hx : SB prog w hb c d xs F) (hy : SB prog w hb c d ys G) : SS prog w hb c d (.If t xs ys pos) (sIf T F G) := fun A L f σ m s P Q rm a h k =>
  wpAny_If (ht A L f σ m s _ _ rm a h fun b σ1 f1 u s1 p1 x1 r1 => by
    rw [show u = b from r1]
    have p1 := p1.sel
    cases b with
    | true => exact hx A L f1 σ1 m s1 P Q rm x1.a p1 (k.from x1)
    | false => exact hy A L f1 σ1 m s1 P Q rm x1.a p1 (k.from x1))
theorem sb_nil : SB prog w hb c d [] sNil := fun A L f σ m s P Q rm a h k => wpAny_execs_nil (k _ _ _ _ _ _ h (.refl a) rfl)
theorem sb_cons {st : Stmt} {sts : List Stmt} {F G : SF} (hx : SS prog w hb c d st F) (hy : SB prog w hb c d sts G) : SB prog w hb c d (st :: sts) (sSeq F G) := fun A L f σ m s P Q rm a h k =>
  wpAny_execs_cons (hx A L f σ m s _ _ rm a h fun b m1 σ1 f1 u s1 p1 x1 r1 => by
    cases b with
    | next => rw [show u = .next from r1]; exact hy A L f1 σ1 m1 s1 P Q rm x1.a p1 (k.from x1)
    | ret v => obtain ⟨z, rfl, r2⟩ := r1; exact k _ _ _ _ _ _ p1 x1 ⟨z, rfl, r2⟩)
end

noncomputable def nthN : List V → Nat → Option V
  | [], _ => none
  | x :: _, 0 => some x
  | _ :: l, i + 1 => nthN l i
theorem nthN_eq : ∀ (l : List V) (i : Nat), nthN l i = l[i]?
  | [], _ => rfl
  | _ :: _, 0 => rfl
  | _ :: l, i + 1 => nthN_eq l i
noncomputable def nthI (l : List V) : Int → Option V
  | .ofNat n => okN (Nat.ble n 999999) (nthN l n)
  | .negSucc n => okN (Nat.ble n 999998) (nthN l.reverse n)
where okN (b : Bool) (o : Option V) : Option V := match b with
  | true => o
  | false => none
noncomputable def ItI (σ : St) (i : Nat) (k : Int) (v : V) : Prop := (∃ l, σ[i]? = some (.list l) ∧ (0 ≤ k ∧ k < 1000000000) ∧ l[k.toNat]? = some v) ∨ ∃ l, σ[i]? = some (.dictI l) ∧ getK k l = some v
noncomputable def ItS (σ : St) (i : Nat) (x : String) (v : V) : Prop := ∃ l, σ[i]? = some (.dictS l) ∧ getK x l = some v
noncomputable def ItC (x : String) (k : Int) (v : V) : Prop := ∃ ch, (0 ≤ k ∧ k < 1000000) ∧ x.toList[k.toNat]? = some ch ∧ v = .str (String.singleton ch)
noncomputable def onRef (v : V) (P : Nat → Kt) : Kt := match v with
  | .ref i => P i
  | _ => kF
theorem onRef_ok {P : Nat → Kt} {v : V} (h : Ho (onRef v P)) : ∃ i, v = .ref i ∧ Ho (P i) := by
  cases v with
  | ref i => exact ⟨i, rfl, h⟩
  | _ => exact h.no
noncomputable def onInt (v : V) (P : Int → Kt) : Kt := match v with
  | .int i => P i
  | _ => kF
theorem onInt_ok {P : Int → Kt} {v : V} (h : Ho (onInt v P)) : ∃ i, v = .int i ∧ Ho (P i) := by
  cases v with
  | int i => exact ⟨i, rfl, h⟩
  | _ => exact h.no
noncomputable def onStr (v : V) (P : String → Kt) : Kt := match v with
  | .str i => P i
  | _ => kF
theorem onStr_ok {P : String → Kt} {v : V} (h : Ho (onStr v P)) : ∃ i, v = .str i ∧ Ho (P i) := by
  cases v with
  | str i => exact ⟨i, rfl, h⟩
  | _ => exact h.no
noncomputable def onFn (a : Nat) (v : V) (k : Kt) : Kt := match v with
  | .fn b => okC (Nat.beq b a) k
  | _ => kF
theorem onFn_ok {a : Nat} {k : Kt} {v : V} (h : Ho (onFn a v k)) : v = .fn a ∧ Ho k := by
  cases v with
  | fn b => exact ⟨congrArg V.fn (Nat.eq_of_beq_eq_true (okC_ok (b := Nat.beq b a) h).1), (okC_ok (b := Nat.beq b a) h).2⟩
  | _ => exact h.no
noncomputable def opIdx : Op2 := fun x y σ P => match x with
  | .tup l => (match y with | .int k => okO (nthI l k) fun v => P v σ | _ => kF)
  | .ref i => (match y with | .int k => ask Ans.v? (ItI σ i k) fun v => P v σ | .str k => ask Ans.v? (ItS σ i k) fun v => P v σ | _ => kF)
  | .str x => (match y with | .int k => ask Ans.v? (ItC x k) fun v => P v σ | _ => kF)
  | _ => kF
noncomputable def eIdx (a b : EF) : EF := eBin opIdx a b
noncomputable def opUpto : Op2 := fun x y σ P => onRef x fun i => onInt y fun k => rdL i σ fun l => asr (0 ≤ k) (P (.ref σ.length) (σ ++ [.list (l.take k.toNat)]))
noncomputable def opFrom : Op2 := fun x y σ P => onRef x fun i => onInt y fun k => rdL i σ fun l => asr (0 ≤ k) (P (.ref σ.length) (σ ++ [.list (l.drop k.toNat)]))
noncomputable def opRev : Op1 := fun x σ P => onRef x fun i => rdL i σ fun l => P (.ref σ.length) (σ ++ [.list l.reverse])
noncomputable def opUptoS (sa : Nat) (ns : List Int) : Op2 := fun x y σ P => onFn sa x (onInt y fun k => asr (0 ≤ k ∧ ns.length ≤ 1000000) (P (.ref σ.length) (σ ++ [.list ((ns.take k.toNat).map .int)])))

theorem seqIndex_nat {k : Int} {n : Nat} (h0 : 0 ≤ k) (h : k.toNat < n) : seqIndex? k n = some k.toNat := by
  unfold seqIndex?
  have h1 : ¬ k < 0 := by lia
  have h2 : k < (n : Int) := by lia
  simp [h1, h0, h2]
theorem seqIndex_neg {k : Int} {n : Nat} (h0 : k < 0) (h1 : 0 ≤ k + n) : seqIndex? k n = some (k + n).toNat := by
  unfold seqIndex?
  have h2 : k + n < (n : Int) := by lia
  simp [h0, h1, h2]
theorem nthI_ok {l : List V} {k : Int} {v : V} (h : nthI l k = some v) : (-1000000 < k ∧ k < 1000000) ∧ ∃ j, seqIndex? k l.length = some j ∧ l[j]? = some v := by
  cases k with
  | ofNat n =>
    have h : nthI.okN (Nat.ble n 999999) (nthN l n) = some v := h
    cases hb : Nat.ble n 999999 with
    | false => rw [hb] at h; cases h
    | true =>
      rw [hb] at h
      have h : nthN l n = some v := h
      rw [nthN_eq] at h
      have hn := Nat.le_of_ble_eq_true hb
      exact ⟨⟨by lia, by lia⟩, n, seqIndex_nat (by lia) (List.getElem?_eq_some_iff.mp h).1, h⟩
  | negSucc n =>
    have h : nthI.okN (Nat.ble n 999998) (nthN l.reverse n) = some v := h
    cases hb : Nat.ble n 999998 with
    | false => rw [hb] at h; cases h
    | true =>
      rw [hb] at h
      have h : nthN l.reverse n = some v := h
      rw [nthN_eq] at h
      have hn := Nat.le_of_ble_eq_true hb
      have hl : n < l.length := by have := (List.getElem?_eq_some_iff.mp h).1; rwa [List.length_reverse] at this
      rw [List.getElem?_reverse hl] at h
      refine ⟨⟨by lia, by lia⟩, l.length - 1 - n, ?_, h⟩
      have := seqIndex_neg (k := Int.negSucc n) (n := l.length) (by lia) (by lia)
      rwa [show (Int.negSucc n + (l.length : Int)).toNat = l.length - 1 - n by lia] at this

section
variable {prog : Program} {w : World} {hb : Base} {c : Fx} {d : Nat}

theorem ok_idx {value slice : Expr} (hs : ∀ o i, subscripted slice false o i = operate [o, i] (getItem o i)) {A : Around} {L : Nat} {f : Nat → Nat} {σ : St} {m : Ms} {s : Shared} {x y : V} {u z : Value} {P : V → St → Kt} {Q : Value → Shared → Prop} (r : Room A d) (a : At prog w hb c.nm L f σ m s.heap) (hx : RV σ.length s.heap f x u) (hy : RV σ.length s.heap f y z)
    (h : Ho (opIdx x y σ P)) (k : Con prog w hb c.nm L bV σ.length f s m P Q) : wpAny (model prog w) A (subscriptTail value slice u z) Q noE s := by
  cases x with
  | tup l => cases y with
    | int n =>
      obtain ⟨t, vs, n', rfl, e2, e3⟩ := hx; obtain ⟨t', rfl⟩ := hy
      obtain ⟨v, e, p⟩ := okO_ok h
      obtain ⟨hk, j, h1, h2⟩ := nthI_ok e
      obtain ⟨u, h3, h4⟩ := e3.get h2
      have hl := e3.length
      rw [Array.length_toList] at hl
      exact tail_any (T := "tuple") (o := .ref t) ⟨_, e2, rfl⟩ slot_tuple_getitem.lookup (PyProof.Rows.getItem_tuple ⟨_, e2, rfl, _, rfl⟩ (by lia) (by lia) (by rw [hl]; exact h1) (by rw [← Array.getElem?_toList]; exact h3) (k _ _ _ _ _ p (.refl a) h4)) (hs _ _)
    | _ => exact h.no
  | ref i => cases y with
    | int n =>
      obtain ⟨hi, rfl⟩ := hx; obtain ⟨t', rfl⟩ := hy
      obtain ⟨v, ⟨l, e1, hk, e2⟩ | ⟨l, e1, e2⟩, p⟩ := Ho.ask h
      · obtain ⟨vs, n', g1, g2⟩ := At.list a e1
        obtain ⟨u, h3, h4⟩ := g2.get e2
        exact tail_any (T := "list") (o := .ref (f i)) ⟨_, g1, rfl⟩ slot_list_getitem.lookup (wpAny_getItem_list ⟨_, g1, rfl, _, rfl⟩ hk.1 (by lia) (by rw [← Array.getElem?_toList]; exact h3) (k _ _ _ _ _ p (.refl a) h4)) (hs _ _)
      · obtain ⟨o1, g1, kv1, i1, r1⟩ := a.obj i _ e1
        obtain ⟨u, h3, h4⟩ := (getK_RK (key := id) (fun _ _ e => e) r1 n).1 v e2
        have D : s.heap.DictOf (intKind prog w) (f i) kv1 := Heap.dictOf_iff.mpr ⟨_, g1, i1⟩
        exact tail_any (T := "dict") D.typeIs slot_dict_getitem.lookup (wpAny_getItem_of (intKind_is prog w n t') D.mapOf h3 (k _ _ _ _ _ p (.tok a) h4)) (hs _ _)
    | str x =>
      obtain ⟨hi, rfl⟩ := hx; obtain ⟨t', rfl⟩ := hy
      obtain ⟨v, ⟨l, e1, e2⟩, p⟩ := Ho.ask h
      obtain ⟨o1, g1, kv1, i1, r1⟩ := a.obj i _ e1
      obtain ⟨u, h3, h4⟩ := (getK_RK (fun _ _ => ofS_inj) r1 x).1 v e2
      have D : s.heap.DictOf (strKind prog w) (f i) kv1 := Heap.dictOf_iff.mpr ⟨_, g1, i1⟩
      exact tail_any (T := "dict") D.typeIs slot_dict_getitem.lookup (wpAny_getItem_of (strKind_is prog w _ t') D.mapOf h3 (k _ _ _ _ _ p (.tok a) h4)) (hs _ _)
    | _ => exact h.no
  | str x => cases y with
    | int n =>
      obtain ⟨t, rfl⟩ := hx; obtain ⟨t', rfl⟩ := hy
      obtain ⟨v, ⟨ch, hk, e2, rfl⟩, p⟩ := Ho.ask h
      have hlt : n.toNat < x.toList.length := (List.getElem?_eq_some_iff.mp e2).1
      refine tail_any (T := "str") rfl PyProof.Rows.slot_str_getitem.lookup (PyProof.Rows.getItem_str (c := ch.toNat) ?_ ?_ (k _ _ _ _ _ p (.tok a) ⟨s.toks, ?_⟩)) (hs _ _)
      · simp only [Bool.or_eq_false_iff, decide_eq_false_iff_not]; lia
      · have hl : (Str.ofString x).length = x.toList.length := PyProof.Rows.ofString_length x
        rw [hl, seqIndex_nat hk.1 hlt, Option.bind_some, ofS_cps]
        simp [e2]
      · rw [Str.ofString_eq_toList]; simp
    | _ => exact h.no
  | _ => exact h.no

theorem se_idx {l r : Expr} {pos : Pos} {F G : EF} (hl : SE prog w hb c d l F) (hr : SE prog w hb c d r G) (hs : ∀ o i, subscripted r false o i = operate [o, i] (getItem o i) := by intro _ _; rfl) : SE prog w hb c d (.Subscript l r pos) (eIdx F G) :=
  fun A L f σ m s P Q rm a h k => Subscript_ (hl A L f σ m s _ _ rm a h fun x σ1 f1 u s1 p1 x1 r1 => hr A L f1 σ1 m s1 _ _ rm x1.a p1 fun y σ2 f2 z s2 p2 x2 r2 =>
    ok_idx hs rm x2.a (RV.adv x2.d r1) r2 p2 (k.from (x1.trans x2)))

theorem Con.sliced {L : Nat} {f : Nat → Nat} {σ : St} {m : Ms} {s : Shared} {nm : List Str} {P : V → St → Kt} {Q : Value → Shared → Prop} {sl : Obj} {us : Array Value} {l : List V} (k : Con prog w hb nm L bV σ.length f s m P Q) (a : At prog w hb nm L f σ m s.heap) (p : Ho (P (.ref σ.length) (σ ++ [.list l]))) (hr : RVs σ.length s.heap f l us.toList) {t : Nat} :
    Q (.ref (s.heap.push sl).objs.size) { s with heap := (s.heap.push sl).push { cls := .type "list", data := .seq us }, toks := t } :=
  have x : Nxt prog w hb nm L σ.length f s σ m f { s with heap := s.heap.push sl } := .grow a (fun b o e => Heap.get?_push_of_some _ e) (by simp) rfl rfl
  Con.newList (k.from x) x.a p (RVs.adv x.d hr)

theorem pick_upto {us : Array Value} {k : Int} (h : 0 ≤ k) : slicePick us none (some k) none = (us.toList.take k.toNat).toArray := by
  have := slicePick_upto' us k.toNat
  rwa [Int.toNat_of_nonneg h] at this
theorem pick_from {us : Array Value} {k : Int} (h : 0 ≤ k) : slicePick us (some k) none none = (us.toList.drop k.toNat).toArray := by
  have := slicePick_from' us k.toNat
  rwa [Int.toNat_of_nonneg h] at this

theorem se_upto {l r : Expr} {p pos : Pos} {F G : EF} (hl : SE prog w hb c d l F) (hr : SE prog w hb c d r G) : SE prog w hb c d (.Subscript l (.Slice none (some r) none p) pos) (eBin opUpto F G) :=
  fun A L f σ m s P Q rm a h kk => Subscript_ (hl A L f σ m s _ _ rm a h fun x σ1 f1 u s1 p1 x1 r1 => wpAny_Slice (wpAny_evalPart_none (wpAny_evalPart_some (hr A L f1 σ1 m s1 _ _ rm x1.a p1 fun y σ2 f2 z s2 p2 x2 r2 => wpAny_evalPart_none (by
    have r1' := RV.adv x2.d r1
    obtain ⟨i, rfl, p2⟩ := onRef_ok p2
    obtain ⟨k, rfl, p2⟩ := onInt_ok p2
    obtain ⟨l, ⟨e1, hk2⟩, p2⟩ := Ho.ask p2
    obtain ⟨hk1, p2⟩ := Ho.asr p2
    obtain ⟨hi, rfl⟩ := r1'
    obtain ⟨t', rfl⟩ := r2
    obtain ⟨vs, n, g1, g2⟩ := At.list x2.a e1
    have hz := g2.length
    rw [Array.length_toList] at hz
    have g1' := Heap.get?_push_of_some { cls := .type "slice", data := .fields #[Value.none, .int k t', .none] } g1
    refine tail_any (T := "list") (o := .ref (f2 i)) (ops := [.ref s2.heap.objs.size, .ref (f2 i)]) ⟨_, g1', rfl⟩ slot_list_getitem.lookup (wpAny_getItem_list_slice ⟨_, g1', rfl, _, rfl⟩ (Heap.IsSliceOf.new ..) .none (.int _ _) .none (by simp) ?_ (by rw [sizeLine_eq]; lia)) rfl
    rw [pick_upto hk1]
    exact Con.sliced (kk.from (x1.trans x2)) x2.a p2 (g2.take k.toNat))))))

theorem se_from {l r : Expr} {p pos : Pos} {F G : EF} (hl : SE prog w hb c d l F) (hr : SE prog w hb c d r G) : SE prog w hb c d (.Subscript l (.Slice (some r) none none p) pos) (eBin opFrom F G) :=
  fun A L f σ m s P Q rm a h kk => Subscript_ (hl A L f σ m s _ _ rm a h fun x σ1 f1 u s1 p1 x1 r1 => wpAny_Slice (wpAny_evalPart_some (hr A L f1 σ1 m s1 _ _ rm x1.a p1 fun y σ2 f2 z s2 p2 x2 r2 => wpAny_evalPart_none (wpAny_evalPart_none (by
    have r1' := RV.adv x2.d r1
    obtain ⟨i, rfl, p2⟩ := onRef_ok p2
    obtain ⟨k, rfl, p2⟩ := onInt_ok p2
    obtain ⟨l, ⟨e1, hk2⟩, p2⟩ := Ho.ask p2
    obtain ⟨hk1, p2⟩ := Ho.asr p2
    obtain ⟨hi, rfl⟩ := r1'
    obtain ⟨t', rfl⟩ := r2
    obtain ⟨vs, n, g1, g2⟩ := At.list x2.a e1
    have hz := g2.length
    rw [Array.length_toList] at hz
    have g1' := Heap.get?_push_of_some { cls := .type "slice", data := .fields #[Value.int k t', .none, .none] } g1
    refine tail_any (T := "list") (o := .ref (f2 i)) (ops := [.ref s2.heap.objs.size, .ref (f2 i)]) ⟨_, g1', rfl⟩ slot_list_getitem.lookup (wpAny_getItem_list_slice ⟨_, g1', rfl, _, rfl⟩ (Heap.IsSliceOf.new ..) (.int _ _) .none .none (by simp) ?_ (by rw [sizeLine_eq]; lia)) rfl
    rw [pick_from hk1]
    exact Con.sliced (kk.from (x1.trans x2)) x2.a p2 (g2.drop k.toNat))))))

theorem se_rev {l : Expr} {p p1 p2 pos : Pos} {kk : Nat} {F : EF} (hl : SE prog w hb c d l F) : SE prog w hb c d (.Subscript l (.Slice none none (some (.UnaryOp .USub (.Constant (.int 1) kk p1) p2)) p) pos) (eUn opRev F) :=
  fun A L f σ m s P Q rm a h k => Subscript_ (hl A L f σ m s _ _ rm a h fun x σ1 f1 u s1 p1 x1 r1 => wpAny_Slice (wpAny_evalPart_none (wpAny_evalPart_none (wpAny_evalPart_some (wpAny_UnaryOp (wpAny_Constant_int (PyProof.Rows.neg_int (by
    obtain ⟨i, rfl, p1⟩ := onRef_ok p1
    obtain ⟨l, ⟨e1, hk⟩, p1⟩ := Ho.ask p1
    obtain ⟨hi, rfl⟩ := r1
    obtain ⟨vs, n, g1, g2⟩ := At.list x1.a e1
    have hz := g2.length
    rw [Array.length_toList] at hz
    have g1' := Heap.get?_push_of_some { cls := .type "slice", data := .fields #[Value.none, .none, .int (-1) (s1.toks + 1)] } g1
    refine tail_any (T := "list") (o := .ref (f1 i)) (ops := [.ref (f1 i), .ref s1.heap.objs.size]) ⟨_, g1', rfl⟩ slot_list_getitem.lookup (wpAny_getItem_list_slice ⟨_, g1', rfl, _, rfl⟩ (Heap.IsSliceOf.new ..) .none .none (.int _ _) (by simp) ?_ (by rw [sizeLine_eq]; lia)) rfl
    rw [krv_pick]
    exact Con.sliced (k.from x1) x1.a p1 (by simpa using g2.rev)))))))))

theorem ints_RVs {n : Nat} {h : Heap} {f : Nat → Nat} : ∀ {vs : List Value} {ns : List Int}, IntsAre vs ns → RVs n h f (ns.map .int) vs
  | _, _, .nil => rfl
  | _, _, .cons i t r => ⟨_, _, rfl, ⟨t, rfl⟩, ints_RVs r⟩

theorem se_uptoS {sa : Nat} {ns : List Int} {svs : List Value} {l r : Expr} {p pos : Pos} {F G : EF} (hsc : hb.h.IsList sa svs.toArray) (his : IntsAre svs ns) (hl : SE prog w hb c d l F) (hr : SE prog w hb c d r G) : SE prog w hb c d (.Subscript l (.Slice none (some r) none p) pos) (eBin (opUptoS sa ns) F G) :=
  fun A L f σ m s P Q rm a h kk => Subscript_ (hl A L f σ m s _ _ rm a h fun x σ1 f1 u s1 p1 x1 r1 => wpAny_Slice (wpAny_evalPart_none (wpAny_evalPart_some (hr A L f1 σ1 m s1 _ _ rm x1.a p1 fun y σ2 f2 z s2 p2 x2 r2 => wpAny_evalPart_none (by
    have r1' := RV.adv x2.d r1
    obtain ⟨rfl, q2⟩ := onFn_ok p2
    obtain ⟨k, rfl, q2⟩ := onInt_ok q2
    obtain ⟨⟨hk1, hk2⟩, q2⟩ := Ho.asr q2
    rw [show u = .ref sa from r1']
    obtain ⟨t', rfl⟩ := r2
    obtain ⟨o, ho, hc, n, hd⟩ := hsc
    have ho' := Heap.get?_push_of_some { cls := .type "slice", data := .fields #[Value.none, .int k t', .none] } (x2.a.keeps _ _ ho)
    have hz := his.length
    refine tail_any (T := "list") (o := .ref sa) (ops := [.ref s2.heap.objs.size, .ref sa]) ⟨_, ho', hc⟩ slot_list_getitem.lookup (wpAny_getItem_list_slice ⟨_, ho', hc, _, hd⟩ (Heap.IsSliceOf.new ..) .none (.int _ _) .none (by simp) ?_ (by rw [sizeLine_eq, List.size_toArray]; lia)) rfl
    rw [pick_upto hk1]
    exact Con.sliced (kk.from (x1.trans x2)) x2.a q2 (by rw [List.map_take]; exact (ints_RVs his).take k.toNat))))))
end

theorem RKs.store {α β : Type} [DecidableEq α] [DecidableEq β] {key : α → β} (hk : ∀ a b, key a = key b → a = b) {n : Nat} {h : Heap} {f : Nat → Nat} {k : α} {x : V} {v : Value} (r : RV n h f x v) :
    ∀ {l : List (α × V)} {kvs : List (β × Value)}, RKs key n h f l kvs → (kvs.map (·.1)).Nodup → RKs key n h f (setK k x l) (stored kvs (key k) v)
  | [], _, e, _ => by
    rw [show _ = [] from e]
    exact ⟨v, [], rfl, r, rfl⟩
  | (j, y) :: l, _, ⟨u, t, e1, e2, e3⟩, hn => by
    rw [e1] at hn ⊢
    simp only [List.map_cons, List.nodup_cons] at hn
    unfold setK
    by_cases q : j = k
    · subst q
      rw [if_pos rfl]
      refine ⟨v, t, ?_, r, e3⟩
      unfold stored
      rw [if_pos (by simp)]
      simp only [List.map_cons, if_true]
      rw [map_store_of_not_mem t (key j) v hn.1]
    · rw [if_neg q]
      have q' : ¬ key j = key k := fun z => q (hk _ _ z)
      refine ⟨u, stored t (key k) v, ?_, e2, RKs.store hk r e3 hn.2⟩
      unfold stored
      simp only [List.any_cons, decide_eq_false q', Bool.false_or, List.map_cons, if_neg q']
      split <;> rfl

noncomputable def setItemOp (x y v : V) (σ : St) (P : St → Kt) : Kt := onRef x fun i => match y with
  | .int k => fun os => (match os with
    | .d :: os => ask Ans.q? (fun l => IsI σ i l ∧ l.length ≤ 1000000) (fun l => P (σ.set i (.dictI (setK k v l)))) os
    | os => rdL i σ (fun l => asr (0 ≤ k ∧ k < l.length) (P (σ.set i (.list (l.set k.toNat v))))) os)
  | .str k => ask Ans.p? (fun l => IsS σ i l ∧ l.length ≤ 1000000) fun l => P (σ.set i (.dictS (setK k v l)))
  | _ => kF
theorem setItem_cases {i : Nat} {y v : V} {σ : St} {P : St → Kt} (h : Ho (setItemOp (.ref i) y v σ P)) :
    (∃ (k : Int) (l : List V), y = .int k ∧ Lst σ i l ∧ (0 ≤ k ∧ k < l.length) ∧ Ho (P (σ.set i (.list (l.set k.toNat v))))) ∨
    (∃ (k : Int) (l : List (Int × V)), y = .int k ∧ (IsI σ i l ∧ l.length ≤ 1000000) ∧ Ho (P (σ.set i (.dictI (setK k v l))))) ∨
    ∃ (k : String) (l : List (String × V)), y = .str k ∧ (IsS σ i l ∧ l.length ≤ 1000000) ∧ Ho (P (σ.set i (.dictS (setK k v l)))) := by
  cases y with
  | int k =>
    obtain ⟨os, h⟩ := h
    unfold setItemOp onRef at h
    dsimp only at h
    split at h
    · obtain ⟨l, h1, h2⟩ := Ho.ask ⟨_, h⟩
      exact .inr (.inl ⟨k, l, rfl, h1, h2⟩)
    · obtain ⟨l, h1, h2⟩ := Ho.ask ⟨_, h⟩
      exact .inl ⟨k, l, rfl, h1, Ho.asr h2⟩
  | str k =>
    obtain ⟨l, h1, h2⟩ := Ho.ask h
    exact .inr (.inr ⟨k, l, rfl, h1, h2⟩)
  | _ => exact h.no
noncomputable def gSub (a b : EF) : GF := fun v m σ P => a m σ fun x σ => b m σ fun y σ => setItemOp x y v σ fun σ => P m σ

section
variable {prog : Program} {w : World} {hb : Base} {c : Fx} {d : Nat}

theorem set_list {A : Around} {s : Shared} {l : Addr} {items : Array Value} {n : Nat} {k : Int} {t : Tok} {v : Value} {Q : Unit → Shared → Prop} (hl : IsL s.heap l items n) (h0 : 0 ≤ k) (hfit : k < 2 ^ 63) (hn : k.toNat < items.size)
    (hQ : Q () { s with heap := s.heap.update l (Obj.mapSeq (·.setIfInBounds k.toNat v)) }) : wpAny (model prog w) A (setItem (.ref l) (.int k t) v) Q noE s := by
  have L := hl.isList
  unfold setItem
  refine wpAny_holding (wpAny_bind (wpAny_sequenceKey L.typeIs (by decide) ?_))
  refine wpAny_bind (wpAny_callSpecial?_slot (name := Str.ofString "__setitem__") L.typeIs slot_list_setitem (wpAny_call_entry slot_list_setitem L.typeIs entry_list_setitem ?_ (args_list_setitem _ _ _)))
  show wpAny _ _ (Builtin.List.listSubscript? (.int k t) >>= _) _ _ s
  refine wpAny_bind (wpAny_listSubscript_int (fitsIndex_of h0 hfit) ?_)
  clear hfit
  obtain ⟨j, rfl⟩ := Int.eq_ofNat_of_zero_le h0
  have hn' : j < items.size := hn
  have hx : items[j]? = some items[j] := Array.getElem?_eq_getElem hn'
  show wpAny _ _ ((seqItemAt l j >>= fun r => pure (r.map (j, ·))) >>= _) _ _ s
  refine wpAny_bind (wpAny_bind (wpAny_seqItemAt hl rfl (wpAny_pure ?_)))
  rw [hx]
  show wpAny _ _ (setSeqItemAt l j v >>= _) _ _ s
  refine wpAny_bind (wpAny_setSeqItemAt hl rfl ?_)
  first
    | exact wpAny_bind (wpAny_pure (wpAny_pure ⟨.none, rfl, wpAny_pure hQ⟩))
    | exact wpAny_pure ⟨.none, rfl, wpAny_pure hQ⟩

theorem ok_set (nl : hb.h.NoLimit) {A : Around} {L : Nat} {f : Nat → Nat} {σ : St} {m : Ms} {s : Shared} {x y v : V} {u z o : Value} {P : St → Kt} {Q : Unit → Shared → Prop} (r : Room A d) (a : At prog w hb c.nm L f σ m s.heap) (hx : RV σ.length s.heap f x u) (hy : RV σ.length s.heap f y z) (hv : RV σ.length s.heap f v o)
    (h : Ho (setItemOp x y v σ P)) (kk : ∀ σ' s', Ho (P σ') → Nxt prog w hb c.nm L σ.length f s σ' m f s' → Q () s') : wpAny (model prog w) A (setItem u z o) Q noE s := by
  obtain ⟨i, rfl, _⟩ := onRef_ok h
  have h : Ho (setItemOp (.ref i) y v σ P) := h
  obtain ⟨hi, rfl⟩ := hx
  rcases setItem_cases h with ⟨k, l, rfl, ⟨e1, h2⟩, ⟨h0, h1⟩, p⟩ | ⟨k, l, rfl, ⟨e1, h2⟩, p⟩ | ⟨k, l, rfl, ⟨e1, h2⟩, p⟩
  · obtain ⟨t', rfl⟩ := hy
    obtain ⟨vs, n, g1, g2⟩ := At.list a e1
    have hz := g2.length
    rw [Array.length_toList] at hz
    exact set_list g1 h0 (by lia) (by lia) (kk _ _ p (.turn a e1 (Heap.SameBut.update ..) (IsL.update g1 (·.setIfInBounds k.toNat o)) ⟨_, _, rfl, by rw [Array.toList_setIfInBounds]; exact g2.set _ hv⟩ rfl rfl))
  · obtain ⟨t', rfl⟩ := hy
    obtain ⟨o1, g1, kv1, i1, r1⟩ := a.obj i _ e1
    have D : s.heap.DictOf (intKind prog w) (f i) kv1 := Heap.dictOf_iff.mpr ⟨_, g1, i1⟩
    refine wpAny_setItem_pairs (intKind_is prog w k t') D (fun h' hm' hs' => ?_) (by rw [RKs.length r1, sizeLine_eq]; lia)
    obtain ⟨o2, g2, i2⟩ := Heap.dictOf_iff.mp hm'
    obtain ⟨_, _, _, _, _, _, hn⟩ := D
    exact kk _ _ p (.turn (s' := { s with heap := h', toks := s.toks + 1 }) a e1 hs' g2 ⟨_, i2, RKs.store (key := id) (fun _ _ e => e) hv r1 hn.2.2⟩ rfl rfl)
  · obtain ⟨t', rfl⟩ := hy
    obtain ⟨o1, g1, kv1, i1, r1⟩ := a.obj i _ e1
    have D : s.heap.DictOf (strKind prog w) (f i) kv1 := Heap.dictOf_iff.mpr ⟨_, g1, i1⟩
    refine wpAny_setItem_pairs (strKind_is prog w _ t') D (fun h' hm' hs' => ?_) (by rw [RKs.length r1, sizeLine_eq]; lia)
    obtain ⟨o2, g2, i2⟩ := Heap.dictOf_iff.mp hm'
    obtain ⟨_, _, _, _, _, _, hn⟩ := D
    exact kk _ _ p (.turn (s' := { s with heap := h', toks := s.toks + 1 }) a e1 hs' g2 ⟨_, i2, RKs.store (fun _ _ => ofS_inj) hv r1 hn.2.2⟩ rfl rfl)

theorem sg_sub (nl : hb.h.NoLimit) {l r : Expr} {pos : Pos} {F G : EF} (hl : SE prog w hb c d l F) (hr : SE prog w hb c d r G) : SG prog w hb c d (.Subscript l r pos) (gSub F G) := fun A L f σ m s v o P Q rm a hv h kk => by
  rw [PySem.assign_Subscript]
  exact wpAny_bind (wpAny_holding (hl A L f σ m s _ _ rm a h fun x σ1 f1 u s1 p1 x1 r1 => wpAny_bind (wpAny_holding (hr A L f1 σ1 m s1 _ _ rm x1.a p1 fun y σ2 f2 z s2 p2 x2 r2 =>
    wpAny_bind (wpAny_standAt (wpAny_bind (wpAny_holding (ok_set nl rm x2.a (RV.adv x2.d r1) r2 (RV.adv x2.d (RV.adv x1.d hv)) p2 fun σ3 s3 p3 x3 => wpAny_release' (kk _ _ _ () _ p3 ((x1.trans x2).trans x3))))))))))
end

structure ClsK (K : Frag) (C : Nat) : Prop where
  hg : findIn K (.ref C) "__getattribute__" = some (some (.builtin "object.__getattribute__"))
  hk : findIn K (.ref C) "__getattr__" = some none
  hs : findIn K (.ref C) "__setattr__" = some (some (.builtin "object.__setattr__"))
  hp : plainOver K C = true
  hh : hasDictIn K C = true

noncomputable def Attr (σ : St) (i C : Nat) (x : String) (v : V) : Prop := ∃ j l, σ[i]? = some (.inst C j) ∧ σ[j]? = some (.attrs l) ∧ getK x l = some v
noncomputable def NoAttr (σ : St) (i C : Nat) (x : String) : Prop := ∃ j l, σ[i]? = some (.inst C j) ∧ σ[j]? = some (.attrs l) ∧ getK x l = none
noncomputable def InA (σ : St) (i C j : Nat) (l : List (String × V)) : Prop := σ[i]? = some (.inst C j) ∧ σ[j]? = some (.attrs l) ∧ l.length ≤ 100
noncomputable def attrOf (C : Nat) (x : String) : Op1 := fun o σ P => onRef o fun i => ask Ans.v? (Attr σ i C x) fun v => P v σ
noncomputable def boundOf (C g : Nat) (x : String) : Op1 := fun o σ P => onRef o fun i => asr (NoAttr σ i C x) (P (.bound g i) σ)
noncomputable def setAttrOp (C : Nat) (x : String) (o v : V) (σ : St) (P : St → Kt) : Kt := onRef o fun i => ask Ans.n? (fun _ => True) fun j => ask Ans.p? (InA σ i C j) fun l => P (σ.set j (.attrs (setK x v l)))
noncomputable def gAttr (C : Nat) (x : String) (a : EF) : GF := fun v m σ P => a m σ fun o σ => setAttrOp C x o v σ fun σ => P m σ

theorem getK_setK {α : Type} [DecidableEq α] (k j : α) (x : V) : ∀ l : List (α × V), getK j (setK k x l) = if k = j then some x else getK j l
  | [] => by unfold setK getK; by_cases h : k = j <;> simp [h, getK]
  | (i, y) :: l => by
    unfold setK
    by_cases h : i = k
    · subst h
      rw [if_pos rfl]
      unfold getK
      by_cases h' : i = j <;> simp [h']
    · rw [if_neg h]
      unfold getK
      by_cases h' : i = j
      · subst h'
        rw [if_pos rfl, if_pos rfl, if_neg (Ne.symm h)]
      · rw [if_neg h', if_neg h', getK_setK k j x l]

section
variable {prog : Program} {w : World} {hb : Base} {c : Fx} {d : Nat} {K : Frag}

theorem getL_of {n : Nat} {h : Heap} {f : Nat → Nat} (x : String) : ∀ {l : List (String × V)} {es : List DictEntry}, RAs n h f l es →
    (∀ v, getK x l = some v → ∃ u, getL (Str.ofString x) es = some (some u) ∧ RV n h f v u) ∧ (getK x l = none → getL (Str.ofString x) es = some none) ∧ es.any (·.refKey) = false ∧ es.length = l.length
  | [], _, e => by
    rw [show _ = [] from e]
    exact ⟨fun v q => (by unfold getK at q; cases q), fun _ => rfl, rfl, rfl⟩
  | (y, z) :: l, _, ⟨e, r, e1, ⟨t, e2⟩, e3, e4⟩ => by
    rw [e1]
    obtain ⟨i1, i2, i3, i4⟩ := getL_of x e4
    have hk : e.key.isStr (Str.ofString x) = decide (y = x) := by rw [e2]; exact ofS_beq y x
    have hr : e.refKey = false := by unfold DictEntry.refKey; rw [e2]
    have ha : (e :: r).any (·.refKey) = false := by rw [List.any_cons, hr, i3]; rfl
    refine ⟨fun v q => ?_, fun q => ?_, ha, by rw [List.length_cons, List.length_cons, i4]⟩
    · unfold getK at q
      unfold getL
      rw [List.find?_cons, hk]
      by_cases h' : y = x
      · rw [if_pos h'] at q
        cases q
        simp only [h', decide_true]
        exact ⟨_, rfl, e3⟩
      · rw [if_neg h'] at q
        simp only [decide_eq_false h']
        obtain ⟨u, g1, g2⟩ := i1 v q
        unfold getL at g1
        refine ⟨u, ?_, g2⟩
        cases hf : r.find? (fun e => e.key.isStr (Str.ofString x)) with
        | some e' => rw [hf] at g1; exact g1
        | none =>
          rw [hf, i3] at g1
          cases g1
    · unfold getK at q
      unfold getL
      rw [List.find?_cons, hk]
      by_cases h' : y = x
      · rw [if_pos h'] at q; cases q
      · rw [if_neg h'] at q
        simp only [decide_eq_false h']
        have g1 := i2 q
        unfold getL at g1
        cases hf : r.find? (fun e => e.key.isStr (Str.ofString x)) with
        | some e' => rw [hf] at g1; cases g1
        | none => dsimp only; rw [ha]; rfl

theorem RAs.put {n : Nat} {h : Heap} {f : Nat → Nat} {x : String} {v : V} {u : Value} {hs : Int} {t : Tok} (r : RV n h f v u) : ∀ {l : List (String × V)} {es : List DictEntry}, RAs n h f l es → RAs n h f (setK x v l) (putL (Str.ofString x) hs (.str (Str.ofString x) t) u es)
  | [], _, e => by
    rw [show _ = [] from e]
    exact ⟨_, [], rfl, ⟨t, rfl⟩, r, rfl⟩
  | (y, z) :: l, _, ⟨e, q, e1, ⟨t', e2⟩, e3, e4⟩ => by
    rw [e1]
    unfold setK putL
    have hk : e.key.isStr (Str.ofString x) = decide (y = x) := by rw [e2]; exact ofS_beq y x
    rw [hk]
    by_cases h' : y = x
    · rw [if_pos h', if_pos (decide_eq_true h')]
      exact ⟨_, _, rfl, ⟨t', e2⟩, r, e4⟩
    · rw [if_neg h', if_neg (by simp [h'])]
      exact ⟨_, _, rfl, ⟨t', e2⟩, e3, RAs.put r e4⟩

theorem length_setK {α : Type} [DecidableEq α] (k : α) (x : V) : ∀ l : List (α × V), (setK k x l).length ≤ l.length + 1
  | [] => Nat.le_refl _
  | (j, y) :: l => by
    unfold setK
    split
    · exact Nat.le_succ _
    · have := length_setK k x l; simp only [List.length_cons]; lia

theorem inst_at {L : Nat} {f : Nat → Nat} {σ : St} {m : Ms} {h : Heap} {nm : List Str} {i C j : Nat} {l : List (String × V)} (a : At prog w hb nm L f σ m h) (e1 : σ[i]? = some (.inst C j)) (e2 : σ[j]? = some (.attrs l)) :
    ∃ es k, PySem.W.InstAt h (f i) (instObj C (f j)) C (some (dictOf es k)) ∧ h.get? (f j) = some (dictOf es k) ∧ RAs σ.length h f l es := by
  obtain ⟨o1, g1, _, rfl⟩ := a.obj i _ e1
  obtain ⟨od, g2, es, k, rfl, q2⟩ := a.obj j _ e2
  exact ⟨es, k, ⟨g1, rfl, rfl, g2⟩, g2, q2⟩

theorem handedIn_of {n : Nat} {h : Heap} {f : Nat → Nat} {x : V} {u : Value} (r : RV n h f x u) : handedIn u = true := by
  cases x with
  | none => rw [show u = .none from r]; rfl
  | bool b => rw [show u = .bool b from r]; rfl
  | int i => obtain ⟨t, rfl⟩ := r; rfl
  | str i => obtain ⟨t, rfl⟩ := r; rfl
  | tup l => obtain ⟨a, vs, k, rfl, _⟩ := r; rfl
  | ref i => obtain ⟨_, rfl⟩ := r; rfl
  | fn i => rw [show u = .ref i from r]; rfl
  | bound g i => obtain ⟨_, a, rfl, _⟩ := r; rfl

theorem ok_attr (X : K.In hb.h) {C : Nat} {x : String} (hc : ClsK K C) (hn : findIn K (.ref C) (Str.ofString x) = some none) {A : Around} {L : Nat} {f : Nat → Nat} {σ : St} {m : Ms} {s : Shared} {o : V} {u : Value} {nm : List Str} {ex : Bool} {P : V → St → Kt} {Q : Value → Shared → Prop} (a : At prog w hb nm L f σ m s.heap) (hx : RV σ.length s.heap f o u)
    (h : Ho (attrOf C x o σ P)) (kk : Con prog w hb nm L bV σ.length f s m P Q) : wpAny (model prog w) A (getAttr u (Str.ofString x) ex) Q noE s := by
  obtain ⟨i, rfl, h⟩ := onRef_ok h
  obtain ⟨v, ⟨j, l, e1, e2, e3⟩, p⟩ := Ho.ask h
  obtain ⟨hi, rfl⟩ := hx
  obtain ⟨es, k, I, g2, q⟩ := inst_at a e1 e2
  obtain ⟨u, h1, h2⟩ := (getL_of x q).1 v e3
  have hl : lookIn (Str.ofString x) (dictOf es k) = some (some u) := by rw [lookIn_dict, h1]
  exact get_value (X.keeps a.keeps) I hc.hg (findObj_own hc.hh hn rfl hl) (handedIn_of h2) (kk _ _ _ _ _ p (.tok a) h2)

theorem se_attr (X : K.In hb.h) {C : Nat} {x : String} {e : Expr} {pos : Pos} {F : EF} (hc : ClsK K C) (hn : findIn K (.ref C) (Str.ofString x) = some none) (he : SE prog w hb c d e F)
    (hb' : ∀ L, eval (.Attribute e (Str.ofString x) pos) (c.env L) = (do
      let o ← eval e (c.env L)
      standAt pos.atName
      let r ← holding [o] (getAttr o (Str.ofString x) true)
      letTemporaryGo e o r
      pure r) := by intro _; with_unfolding_all rfl) : SE prog w hb c d (.Attribute e (Str.ofString x) pos) (eUn (attrOf C x) F) := fun A L f σ m s P Q rm a h kk =>
  Attribute_any_ (he A L f σ m s _ _ rm a h fun o σ1 f1 u s1 p1 x1 r1 => ok_attr X hc hn x1.a r1 p1 (kk.from x1)) (hb' L)

theorem se_bound (X : K.In hb.h) {C g : Nat} {x : String} {e : Expr} {pos : Pos} {F : EF} (hc : ClsK K C) (ha : findIn K (.ref C) (Str.ofString x) = some (some (.ref g))) (hf : isFn K (.ref g) = true) (hgf : specialIn K (.ref g) "__get__" = some (some (.builtin "function.__get__")))
    (ht : takesIn K (.ref g) = some false) (hcp : copiedNames.contains (Str.ofString x) = false) (he : SE prog w hb c d e F)
    (hb' : ∀ L, eval (.Attribute e (Str.ofString x) pos) (c.env L) = (do
      let o ← eval e (c.env L)
      standAt pos.atName
      let r ← holding [o] (getAttr o (Str.ofString x) true)
      letTemporaryGo e o r
      pure r) := by intro _; with_unfolding_all rfl) : SE prog w hb c d (.Attribute e (Str.ofString x) pos) (eUn (boundOf C g x) F) := fun A L f σ m s P Q rm a h kk => by
  refine Attribute_any_ (he A L f σ m s _ _ rm a h fun o σ1 f1 u s1 p1 x1 r1 => ?_) (hb' L)
  obtain ⟨i, rfl, p1⟩ := onRef_ok p1
  obtain ⟨⟨j, l, e1, e2, e3⟩, p1⟩ := Ho.asr p1
  obtain ⟨hi, rfl⟩ := r1
  have a1 := x1.a
  obtain ⟨es, k, I, g2, q⟩ := inst_at a1 e1 e2
  have hl : lookIn (Str.ofString x) (dictOf es k) = some none := by rw [lookIn_dict, (getL_of x q).2.1 e3]
  refine get_bind (X.keeps a1.keeps) I hc.hg (findObj_fn hc.hh ha hgf ht hcp hl) hc.hk (wpAny_call (fn_get (s := { s1 with toks := s1.toks + 1 }) (X.keeps a1.keeps) (beq_iff_eq.mp hf) (handed_on rfl ?_)))
  have k : ∀ b o, s1.heap.get? b = some o → (s1.heap.push (methodObj (.ref g) (.ref (f1 i)))).get? b = some o := fun b o e => Heap.get?_push_of_some _ e
  exact kk _ _ _ _ _ p1 (x1.trans (.grow (s' := { s1 with heap := s1.heap.push (methodObj (.ref g) (.ref (f1 i))), toks := s1.toks + 1 }) a1 k (by simp) rfl rfl)) ⟨hi, _, rfl, Heap.get?_push_size _ rfl⟩

theorem ok_setAttr (X : K.In hb.h) {C : Nat} {x : String} (hc : ClsK K C) (hn : findIn K (.ref C) (Str.ofString x) = some none) {A : Around} {L : Nat} {f : Nat → Nat} {σ : St} {m : Ms} {s : Shared} {o v : V} {u z : Value} {nm : List Str} {P : St → Kt} {Q : Unit → Shared → Prop} (a : At prog w hb nm L f σ m s.heap) (hx : RV σ.length s.heap f o u) (hv : RV σ.length s.heap f v z)
    (h : Ho (setAttrOp C x o v σ P)) (kk : ∀ σ' s', Ho (P σ') → Nxt prog w hb nm L σ.length f s σ' m f s' → Q () s') : wpAny (model prog w) A (setAttr u (Str.ofString x) z) Q noE s := by
  obtain ⟨i, rfl, h⟩ := onRef_ok h
  obtain ⟨j, _, h⟩ := Ho.ask h
  obtain ⟨l, ⟨e1, e2, hz⟩, p⟩ := Ho.ask h
  obtain ⟨hi, rfl⟩ := hx
  obtain ⟨es, k, I, g2, q⟩ := inst_at a e1 e2
  obtain ⟨_, _, q3, q4⟩ := getL_of x q
  have X' : K.In s.heap := X.keeps a.keeps
  refine set_plain X' I hc.hs (osa_open (s := { s with toks := s.toks + 1 }) X' I hc.hp (r := none) (by unfold takerIn; rw [hn]; rfl) fun b => ?_)
  obtain ⟨cd, hcd, hd'⟩ := any_some hc.hh
  obtain ⟨hx', hcl, hnn, -⟩ := I
  refine wpAny_bind (wpAny_pure (wpAny_bind (wpAny_bind (wpAny_loadPart hx' (wpAny_bind (Looks.here (s := { s with toks := s.toks + 1 }) (looks_clsIn X' hcd) ?_))))))
  rw [hd']
  refine wpAny_pure (a := some (f j)) (wpAny_bind (wpAny_pure (wpAny_bind ?_)))
  unfold nsSet
  refine wpAny_bind (wpAny_bind (wpAny_askSetting (wpAny_pure (wpAny_bind (wpAny_mkText (wpAny_bind (wpAny_loadPart g2 ?_)))))))
  dsimp only
  have cc : (!es.toArray.any (·.key.isStr (Str.ofString x)) && es.toArray.any (·.refKey)) = false := by
    rw [← Array.any_toList, ← Array.any_toList, show es.toArray.toList = es from rfl, q3, Bool.and_false]
  rw [aRefKeyMayBeTheName_at, cc]
  have hput : Obj.putName (Str.ofString x) (PyData.keyHash w.params (Str.ofString x)) (.str (Str.ofString x) (s.toks + 1)) z (dictOf es k) = dictOf (putL (Str.ofString x) (PyData.keyHash w.params (Str.ofString x)) (.str (Str.ofString x) (s.toks + 1)) z es) (putN (Str.ofString x) es k) := putName_dict ..
  have hnew : (s.heap.update (f j) (Obj.putName (Str.ofString x) (PyData.keyHash w.params (Str.ofString x)) (.str (Str.ofString x) (s.toks + 1)) z)).get? (f j) = some (dictOf (putL (Str.ofString x) (PyData.keyHash w.params (Str.ofString x)) (.str (Str.ofString x) (s.toks + 1)) z es) (putN (Str.ofString x) es k)) := by
    have := Heap.get?_update_self (Obj.putName (Str.ofString x) (PyData.keyHash w.params (Str.ofString x)) (.str (Str.ofString x) (s.toks + 1)) z) g2 (by rw [hput]; rfl)
    rw [hput] at this; exact this
  have q5 := RAs.put (x := x) (hs := PyData.keyHash w.params (Str.ofString x)) (t := s.toks + 1) hv q
  have q6 := (getL_of x q5).2.2.2
  have q7 := length_setK x v l
  refine wpAny_updatePart g2 ?_
  refine wpAny_bind (wpAny_lookBehind hnew (pastItsLine_dict (by rw [List.size_toArray, sizeLine_eq]; lia)) ?_)
  exact wpAny_pure (kk _ _ p (.turn a e2 (Heap.SameBut.update ..) hnew ⟨_, _, rfl, q5⟩ rfl rfl))

theorem sg_attr (X : K.In hb.h) {C : Nat} {x : String} {e : Expr} {pos : Pos} {F : EF} (hc : ClsK K C) (hn : findIn K (.ref C) (Str.ofString x) = some none) (he : SE prog w hb c d e F) : SG prog w hb c d (.Attribute e (Str.ofString x) pos) (gAttr C x F) := fun A L f σ m s v o P Q rm a hv h kk => by
  rw [PySem.assign_Attribute]
  exact wpAny_bind (wpAny_holding (he A L f σ m s _ _ rm a h fun y σ1 f1 u s1 p1 x1 r1 =>
    wpAny_bind (wpAny_standAt (wpAny_bind (wpAny_holding (ok_setAttr X hc hn x1.a r1 (RV.adv x1.d hv) p1 fun σ3 s3 p3 x3 => wpAny_release' (kk _ _ _ () _ p3 (x1.trans x3))))))))
end

noncomputable def Runs (F : FF) (vs : List V) (σ : St) (v : V) (σ' : St) : Prop := ∀ P, Ho (P v σ') → Ho (F vs σ P)
noncomputable def okF (F : FF) (vs : List V) (σ : St) (P : V → St → Kt) : Kt := fun os => match os with
  | [] => False
  | a :: os => match a with
    | .c v σ' => Runs F vs σ v σ' ∧ P v σ' os
    | .d => F vs σ P os
    | _ => False
theorem Ho.call {F : FF} {vs : List V} {σ : St} {P : V → St → Kt} (h : Ho (okF F vs σ P)) : Ho (F vs σ P) := by
  obtain ⟨os, h⟩ := h
  cases os with
  | nil => exact h.elim
  | cons a os => cases a with
    | c v σ' => exact h.1 P ⟨os, h.2⟩
    | d => exact ⟨_, h⟩
    | _ => exact h.elim
noncomputable def eCall (F : FF) (l : LF) : EF := fun m σ P => l m σ fun vs σ => okF F vs σ P
noncomputable def onBound (g : Nat) (v : V) (P : Nat → Kt) : Kt := match v with
  | .bound b i => okC (Nat.beq b g) (P i)
  | _ => kF
theorem onBound_ok {g : Nat} {P : Nat → Kt} {v : V} (h : Ho (onBound g v P)) : ∃ i, v = .bound g i ∧ Ho (P i) := by
  cases v with
  | bound b i => exact ⟨i, congrArg (V.bound · i) (Nat.eq_of_beq_eq_true (okC_ok (b := Nat.beq b g) h).1), (okC_ok (b := Nat.beq b g) h).2⟩
  | _ => exact h.no
noncomputable def onNone (v : V) (k : Kt) : Kt := match v with
  | .none => k
  | _ => kF
theorem onNone_ok {k : Kt} {v : V} (h : Ho (onNone v k)) : v = .none ∧ Ho k := by
  cases v with
  | none => exact ⟨rfl, h⟩
  | _ => exact h.no
noncomputable def eCallL (a : Nat) (F : FF) (o : EF) (l : LF) : EF := fun m σ P => o m σ fun y σ => onFn a y (l m σ fun vs σ => okF F vs σ P)
noncomputable def eCallB (g : Nat) (F : FF) (o : EF) (l : LF) : EF := fun m σ P => o m σ fun y σ => onBound g y fun i => l m σ fun vs σ => okF F (.ref i :: vs) σ P
noncomputable def hasNo (C : Nat) (x : String) (o : V) (σ : St) (P : Nat → Kt) : Kt := onRef o fun i => asr (NoAttr σ i C x) (P i)
noncomputable def eMeth (C : Nat) (x : String) (F : FF) (o : EF) (l : LF) : EF := fun m σ P => o m σ fun y σ => hasNo C x y σ fun i => l m σ fun vs σ => okF F (.ref i :: vs) σ P
noncomputable def eNew (C : Nat) (F : FF) (l : LF) : EF := fun m σ P => l m σ fun vs σ => okF F (.ref (σ.length + 1) :: vs) (σ ++ [.attrs []] ++ [.inst C σ.length]) fun v σ' => onNone v (P (.ref (σ.length + 1)) σ')
noncomputable def lenIs {α : Type} : Nat → List α → Bool
  | 0, l => l.isEmpty
  | n + 1, l => (match l with
    | [] => false
    | _ :: l => lenIs n l)
theorem lenIs_eq {α : Type} : ∀ (n : Nat) (l : List α), lenIs n l = true → l.length = n
  | 0, [], _ => rfl
  | 0, _ :: _, h => by cases h
  | _ + 1, [], h => by cases h
  | n + 1, _ :: l, h => congrArg Nat.succ (lenIs_eq n l h)
noncomputable def flV (x : Fl) : V := match x with
  | .ret v => v
  | .next => .none
noncomputable def runF (n k : Nat) (b : SF) : FF := fun vs σ P => okC (lenIs n vs) (b (vs.map some ++ List.replicate k none) σ fun x _ σ => P (flV x) σ)

section
variable (prog : Program) (w : World) (hb : Base)
noncomputable def SFn (d : Nat) (a : Nat) (F : FF) : Prop := ∀ A L f σ m s nm vs us P Q, Room A d → At prog w hb nm L f σ m s.heap → RVs σ.length s.heap f vs us → Ho (F vs σ P) → Con prog w hb nm L bV σ.length f s m P Q →
  codeAny (model prog w) A (.call (.ref a) ⟨us, []⟩) (fun r s' => ∃ u, r = .ok (.ret u) ∧ Q u s') s
end

section
variable {prog : Program} {w : World} {hb : Base} {c : Fx} {d : Nat} {K : Frag} {mg mb : Str → Option Value}

theorem SFn.le {d' a : Nat} {F : FF} (h : SFn prog w hb d a F) (hd : d ≤ d') : SFn prog w hb d' a F := fun A L f σ m s nm vs us P Q r => h A L f σ m s nm vs us P Q (r.le hd)

theorem se_glob (W : Wd hb K mg mb) {x : Str} {pos : Pos} {u : Value} {v : V} (ok : c.Ok) (hx : c.sc.names.lookup x = some .globalImplicit) (e : nsIn K mainGlobals x = some (some u)) (hv : ∀ n h f, (∀ b o, hb.h.get? b = some o → h.get? b = some o) → RV n h f v u)
    (hd : (x == ("__debug__" : Str)) = false := by decide) : SE prog w hb c d (.Name x pos) (eC v) := fun A L f σ m s P Q rm a h kk =>
  Calls.Name_function_global ok.kind hx (Calls.loadGlobal_global (W.g.keeps a.keeps) (mg_of W.x W.g e) (kk _ _ _ _ _ h (.refl a) (hv _ _ _ a.keeps))) hd

theorem glob_ (W : Wd hb K mg mb) {x : Str} {pos : Pos} {u : Value} (ok : c.Ok) (hx : c.sc.names.lookup x = some .globalImplicit) (e : nsIn K mainGlobals x = some (some u)) {A : Around} {L : Nat} {f : Nat → Nat} {σ : St} {m : Ms} {s : Shared} (a : At prog w hb c.nm L f σ m s.heap)
    {Q : Value → Shared → Prop} (h : Q u s) (hd : (x == ("__debug__" : Str)) = false := by decide) : wpAny (model prog w) A (eval (.Name x pos) (c.env L)) Q noE s :=
  Calls.Name_function_global ok.kind hx (Calls.loadGlobal_global (W.g.keeps a.keeps) (mg_of W.x W.g e) h) hd
theorem bltin_ (W : Wd hb K mg mb) {x : Str} {pos : Pos} {u : Value} (ok : c.Ok) (hx : c.sc.names.lookup x = some .globalImplicit) (e : nsIn K mainGlobals x = some none) (hu : bootBuiltins x = some u) (hn : x ≠ "__name__") {A : Around} {L : Nat} {f : Nat → Nat} {σ : St} {m : Ms} {s : Shared} (a : At prog w hb c.nm L f σ m s.heap)
    {Q : Value → Shared → Prop} (h : Q u s) (hd : (x == ("__debug__" : Str)) = false := by decide) : wpAny (model prog w) A (eval (.Name x pos) (c.env L)) Q noE s :=
  Calls.Name_function_global ok.kind hx (Calls.loadGlobal_builtin (W.g.keeps a.keeps) (mg_none_of W.x W.g e) (W.b.keeps a.keeps) ((W.builtins x hn).trans hu) h) hd

noncomputable def Plain (es : List Expr) : Prop := ∀ t ∈ es, ∀ e p, t ≠ .Starred e p
theorem starEach_plain {es : List Expr} (h : Plain es) (env : Env) : starEach es env = es.map fun e => (false, eval e env) := by
  induction es with
  | nil => rfl
  | cons t ts ih =>
    have : starEach (t :: ts) env = (false, eval t env) :: starEach ts env := by
      cases t <;> first | rfl | exact absurd rfl (h _ (.head _) _ _)
    rw [this, ih fun x hx => h x (.tail _ hx), List.map_cons]
theorem backTo_plain (pos : Pos) (l : List (Sem Value)) : backTo pos (l.map fun e => (false, e)) = l.map fun e => (false, e) := by
  induction l with
  | nil => rfl
  | cons t ts ih => show (false, t) :: backTo pos _ = _; rw [ih]; rfl
theorem trees_plain {es : List Expr} (h : Plain es) (pos : Pos) (env : Env) : backTo pos (starEach es env) = (es.map fun e => eval e env).map fun e => (false, e) := by
  rw [starEach_plain h, show (es.map fun e => (false, eval e env)) = (es.map fun e => eval e env).map fun e => (false, e) by rw [List.map_map]; rfl, backTo_plain]

theorem args_ {es : List Expr} {G : LF} {A : Around} {L : Nat} {f : Nat → Nat} {σ : St} {m : Ms} {s : Shared} {fv : Value} {pos : Pos} {P : List V → St → Kt} {Q : Args → Shared → Prop} (hp : Plain es) (hl : SL prog w hb c d es G) (rm : Room A d) (a : At prog w hb c.nm L f σ m s.heap) (h : Ho (G m σ P))
    (hq : Con prog w hb c.nm L bVs σ.length f s m P fun us s' => Q ⟨us, []⟩ s') : wpAny (model prog w) A (evalArgs fv true (backTo pos (starEach es (c.env L))) []) Q noE s := by
  have h1 := hl A L f σ m s P _ pos rm a h hq
  rw [trees_plain hp] at h1 ⊢
  cases es with
  | nil =>
    unfold evalArgs
    exact wpAny_bind (wpAny_mono h1 (fun us s' p => wpAny_bind (wpAny_pure (wpAny_holding (wpAny_bind (wpAny_pure (wpAny_bind (wpAny_pure (wpAny_pure p))))))))  fun _ _ e => e)
  | cons e es => exact Calls.evalArgs_plain h1

theorem notStar {es : List Expr} (h : Plain es) (pos : Pos) (env : Env) : ((backTo pos (starEach es env)).any (·.1) || ([] : List (Option Str × Sem Value)).any (·.1.isNone)) = false := by
  rw [trees_plain h]
  simp

theorem callee_ {es : List Expr} {G : LF} {A : Around} {L : Nat} {f : Nat → Nat} {σ : St} {m : Ms} {s : Shared} {fv : Value} {first : List Value} {pos : Pos} {P : List V → St → Kt} {Q : Value → Shared → Prop} (W : Wd hb K mg mb) (hk : keepIn K fv = true) (hp : Plain es) (hl : SL prog w hb c d es G) (rm : Room A d) (a : At prog w hb c.nm L f σ m s.heap) (h : Ho (G m σ P))
    (hq : Con prog w hb c.nm L bVs σ.length f s m P fun us s' => wpAny (model prog w) A (call fv (first ++ us)) Q noE s') : wpAny (model prog w) A (callWith pos fv first (backTo pos (starEach es (c.env L))) []) Q noE s :=
  callWith_of (P := K.In) (notStar hp _ _) (keeps_K hk) (args_ hp hl rm a h fun v σ' f' us s' p x r => ⟨W.x.keeps x.a.keeps, hq v σ' f' us s' p x r⟩)

theorem SFn.call {a' : Nat} {F : FF} (hF : SFn prog w hb d a' F) {A : Around} {L : Nat} {f : Nat → Nat} {σ : St} {m : Ms} {s : Shared} {nm : List Str} {vs : List V} {us : List Value} {P : V → St → Kt} {Q : Value → Shared → Prop} (rm : Room A d) (a : At prog w hb nm L f σ m s.heap) (r : RVs σ.length s.heap f vs us) (h : Ho (okF F vs σ P)) (kk : Con prog w hb nm L bV σ.length f s m P Q) :
    wpAny (model prog w) A (PySem.call (.ref a') us) Q noE s := by
  exact wpAny_call (codeAny_mono (hF A L f σ m s nm vs us P Q rm a r h.call kk) fun r s' ⟨u, e, p⟩ => by rw [e]; exact p)

theorem Call_e {func : Expr} {args : List Expr} {pos : Pos} {A : Around} {env : Env} {s : Shared} {Q : Value → Shared → Prop} (h : wpAny (model prog w) A (eval func env) (fun f s₁ => wpAny (model prog w) A (callWith pos f [] (backTo pos (starEach args env)) []) Q noE s₁) noE s)
    (he : eval (.Call func args [] pos) env = (do callWith pos (← eval func env) [] (backTo pos (starEach args env)) (backToKw pos (keywordEach [] env)))) : wpAny (model prog w) A (eval (.Call func args [] pos) env) Q noE s := by
  rw [he]
  exact wpAny_bind h

theorem se_call (W : Wd hb K mg mb) {x : Str} {np pos : Pos} {a' : Nat} {es : List Expr} {G : LF} {F : FF} (ok : c.Ok) (hx : c.sc.names.lookup x = some .globalImplicit) (e : nsIn K mainGlobals x = some (some (.ref a'))) (hk : keepIn K (.ref a') = true)
    (hp : Plain es) (hl : SL prog w hb c d es G) (hF : SFn prog w hb d a' F) (hd : (x == ("__debug__" : Str)) = false := by decide) : SE prog w hb c d (.Call (.Name x np) es [] pos) (eCall F G) := fun A L f σ m s P Q rm a h kk =>
  Call_e (glob_ W ok hx e a (callee_ W hk hp hl rm a h fun vs σ1 f1 us s1 p1 x1 r1 => hF.call rm x1.a r1 p1 (kk.from x1)) hd) rfl

theorem se_callL (W : Wd hb K mg mb) {x : Str} {np pos : Pos} {a' : Nat} {es : List Expr} {G : LF} {F : FF} {o : EF} (hk : keepIn K (.ref a') = true) (ho : SE prog w hb c d (.Name x np) o)
    (hp : Plain es) (hl : SL prog w hb c d es G) (hF : SFn prog w hb d a' F) : SE prog w hb c d (.Call (.Name x np) es [] pos) (eCallL a' F o G) := fun A L f σ m s P Q rm a h kk =>
  Call_e (ho A L f σ m s _ _ rm a h fun y σ0 f0 u s0 p0 x0 r0 => by
    obtain ⟨rfl, h⟩ := onFn_ok p0
    rw [show u = .ref _ from r0]
    exact callee_ W hk hp hl rm x0.a h fun vs σ1 f1 us s1 p1 x1 r1 => hF.call rm x1.a r1 p1 (kk.from (x0.trans x1))) rfl

theorem se_callB (W : Wd hb K mg mb) {x : Str} {np pos : Pos} {g : Nat} {es : List Expr} {G : LF} {F : FF} {o : EF} (hk : fnIn K g = true) (ho : SE prog w hb c d (.Name x np) o)
    (hp : Plain es) (hl : SL prog w hb c d es G) (hF : SFn prog w hb d g F) : SE prog w hb c d (.Call (.Name x np) es [] pos) (eCallB g F o G) := fun A L f σ m s P Q rm a h kk =>
  Call_e (ho A L f σ m s _ _ rm a h fun y σ0 f0 u s0 p0 x0 r0 => by
    obtain ⟨i, rfl, h⟩ := onBound_ok p0
    obtain ⟨hi, q, rfl, hq⟩ := r0
    exact callWith_of (P := MethP K q g (.ref (f0 i))) (notStar hp _ _) (keeps_M hk) (args_ hp hl rm x0.a h fun vs σ1 f1 us s1 p1 x1 r1 => by
      have hq' := x1.d.imm _ _ hq (.inr ⟨_, _, rfl⟩)
      have hi' : f1 i = f0 i := x1.d.agree i hi
      refine ⟨⟨hq', W.x.keeps x1.a.keeps⟩, wpAny_call (method_call hq' ?_)⟩
      have p1 := p1.call
      exact codeAny_mono (hF A L f1 σ1 m s1 c.nm (.ref i :: vs) (.ref (f0 i) :: us) P Q rm x1.a ⟨_, _, rfl, ⟨Nat.lt_of_lt_of_le hi x1.d.le, by rw [hi']⟩, r1⟩ p1 (kk.from (x0.trans x1))) fun r s' ⟨u, e, p⟩ => by rw [e]; exact p)) rfl

theorem se_meth (W : Wd hb K mg mb) {C g : Nat} {x : String} {o : Expr} {apos pos : Pos} {es : List Expr} {G : LF} {F : FF} {O : EF} (hc : ClsK K C) (ha : findIn K (.ref C) (Str.ofString x) = some (some (.ref g))) (hf : isFn K (.ref g) = true) (hk : keepIn K (.ref g) = true)
    (ho : SE prog w hb c d o O) (hp : Plain es) (hl : SL prog w hb c d es G) (hF : SFn prog w hb d g F) {pl : Nat → Sem Bool}
    (he : ∀ L, eval (.Call (.Attribute o (Str.ofString x) apos) es [] pos) (c.env L) = (do
      let ov ← eval o (c.env L)
      standAt apos.atName
      let (f, first) ← holding [ov] (getMethod ov (Str.ofString x) (pl L))
      callWith pos f first (backTo pos (starEach es (c.env L))) []) := by intro _; rfl) : SE prog w hb c d (.Call (.Attribute o (Str.ofString x) apos) es [] pos) (eMeth C x F O G) := fun A L f σ m s P Q rm a h kk => by
  refine MethodCall_ (pl := pl L) (ho A L f σ m s _ _ rm a h fun y σ0 f0 u s0 p0 x0 r0 => ?_) (he L)
  obtain ⟨i, rfl, p0⟩ := onRef_ok p0
  obtain ⟨⟨j, l, e1, e2, e3⟩, h⟩ := Ho.asr p0
  obtain ⟨hi, rfl⟩ := r0
  obtain ⟨es', k, I, g2, q⟩ := inst_at x0.a e1 e2
  refine method_fn (W.x.keeps x0.a.keeps) I hc.hg hc.hk ha (beq_iff_eq.mp hf) (by show (lookIn (Str.ofString x) (dictOf es' k)).map _ = _; rw [lookIn_dict, (getL_of x q).2.1 e3]; rfl) ?_
  exact callee_ W hk hp hl rm x0.a h fun vs σ1 f1 us s1 p1 x1 r1 =>
    hF.call rm x1.a (vs := .ref i :: vs) ⟨_, _, rfl, ⟨Nat.lt_of_lt_of_le hi x1.d.le, by rw [show f1 i = f0 i from x1.d.agree i hi]⟩, r1⟩ p1 (kk.from (x0.trans x1))

theorem se_new (W : Wd hb K mg mb) {x : Str} {np pos : Pos} {C fI : Nat} {es : List Expr} {G : LF} {F : FF} (ok : c.Ok) (hx : c.sc.names.lookup x = some .globalImplicit) (e : nsIn K mainGlobals x = some (some (.ref C))) (hk : keepIn K (.ref C) = true)
    (hm : makesIn K C = true) (hi : findIn K (.ref C) "__init__" = some (some (.ref fI))) (hf : typeIn K (.ref fI) = some (.type "function"))
    (hp : Plain es) (hl : SL prog w hb c (d + 1) es G) (hF : SFn prog w hb d fI F) (hd : (x == ("__debug__" : Str)) = false := by decide) : SE prog w hb c (d + 1) (.Call (.Name x np) es [] pos) (eNew C F G) := fun A L f σ m s P Q rm a h kk =>
  Call_e (glob_ W ok hx e a (callee_ W hk hp hl rm a h fun vs σ1 f1 us s1 p1 x1 r1 => wpAny_call (by
    obtain ⟨hh, gg, dr, t, os⟩ := s1
    have X' : K.In hh := W.x.keeps x1.a.keeps
    have k1 : ∀ b o, hh.get? b = some o → (hh.push emptyDict).get? b = some o := fun b o e => Heap.get?_push_of_some _ e
    have k2 : ∀ b o, (hh.push emptyDict).get? b = some o → ((hh.push emptyDict).push (instObj C hh.objs.size)).get? b = some o := fun b o e => Heap.get?_push_of_some _ e
    have y1 : Nxt prog w hb c.nm L σ1.length f1 ⟨hh, gg, dr, t, os⟩ (σ1 ++ [O.attrs []]) m (newF f1 σ1.length hh.objs.size) ⟨hh.push emptyDict, gg, dr, t, os⟩ :=
      .alloc (b := hh.objs.size) (x := emptyDict) x1.a k1 (by simp) (Nat.le_refl _) (Heap.get?_push_size _ rfl) ⟨[], 0, rfl, rfl⟩ rfl rfl
    have y2 : Nxt prog w hb c.nm L (σ1 ++ [O.attrs []]).length (newF f1 σ1.length hh.objs.size) ⟨hh.push emptyDict, gg, dr, t, os⟩ (σ1 ++ [O.attrs []] ++ [O.inst C σ1.length]) m (newF (newF f1 σ1.length hh.objs.size) (σ1 ++ [O.attrs []]).length (hh.objs.size + 1)) ⟨(hh.push emptyDict).push (instObj C hh.objs.size), gg, dr, t, os⟩ := by
      refine .alloc (b := hh.objs.size + 1) (x := instObj C hh.objs.size) y1.a k2 (by simp) (by simp) ?_ ⟨by simp; lia, ?_⟩ rfl rfl
      · have := Heap.get?_push_size (hh.push emptyDict) (o := instObj C hh.objs.size) rfl
        rwa [Heap.size_push] at this
      · rw [newF_lt (by simp), newF_eq]
    have y := y1.trans y2
    refine make_core (makes_of X' hm) (looks_findIn X' hi) (fun self => bind_fn X' self hf) (.inl rfl) ?_
    have rm' : Room (A.under (.builtin "type.__call__" ⟨.ref C :: us, []⟩)) d := by
      obtain ⟨q1, q2, q3⟩ := rm
      exact ⟨q1, by rw [depth_under_make]; lia, by rw [units_under_make]; lia⟩
    have z1 : RV (σ1 ++ [O.attrs []] ++ [O.inst C σ1.length]).length ((hh.push emptyDict).push (instObj C hh.objs.size)) (newF (newF f1 σ1.length hh.objs.size) (σ1 ++ [O.attrs []]).length (hh.objs.size + 1)) (.ref (σ1.length + 1)) (.ref (hh.objs.size + 1)) := by
      refine ⟨by simp, ?_⟩
      have : (σ1 ++ [O.attrs []]).length = σ1.length + 1 := by simp
      rw [← this, newF_eq]
    have p1 := p1.call
    refine codeAny_mono (hF _ L _ _ m ⟨(hh.push emptyDict).push (instObj C hh.objs.size), gg, dr, t, os⟩ c.nm (.ref (σ1.length + 1) :: vs) (.ref (hh.objs.size + 1) :: us) _ (fun u s' => u = Value.none ∧ Q (.ref (hh.objs.size + 1)) s') rm' y2.a ⟨_, _, rfl, z1, RVs.adv y.d r1⟩ p1 fun v σ3 f3 u s3 p3 x3 r3 => ?_) fun r s' ⟨u, e', p⟩ => by rw [e']; exact p
    obtain ⟨rfl, p3⟩ := onNone_ok p3
    exact ⟨r3, kk _ _ _ _ _ p3 ((x1.trans y).trans x3) (RV.adv x3.d z1)⟩)) hd) rfl
end

section
variable {prog : Program} {w : World} {hb : Base} {c : Fx} {d : Nat} {K : Frag} {mg mb : Str → Option Value}

theorem lookup_zip {n : Nat} {h : Heap} {f : Nat → Nat} : ∀ {ps : List Str} {vs : List V} {us : List Value} {k : Nat} {x : Str} {v : V}, ps.Nodup → RVs n h f vs us → ps.length = vs.length → ps[k]? = some x → vs[k]? = some v →
    ∃ u, (ps.zip us).lookup x = some u ∧ RV n h f v u
  | [], _, _, _, _, _, _, _, _, hx, _ => by simp at hx
  | p :: ps, [], _, _, _, _, _, _, hl, _, _ => by simp at hl
  | p :: ps, z :: vs, _, 0, x, v, hn, ⟨u, r, e1, e2, e3⟩, hl, hx, hv => by
    simp only [List.getElem?_cons_zero, Option.some.injEq] at hx hv
    subst hx; subst hv
    rw [e1]
    exact ⟨u, by simp, e2⟩
  | p :: ps, z :: vs, _, k + 1, x, v, hn, ⟨u, r, e1, e2, e3⟩, hl, hx, hv => by
    simp only [List.getElem?_cons_succ] at hx hv
    rw [List.nodup_cons] at hn
    obtain ⟨w, g1, g2⟩ := lookup_zip (k := k) hn.2 e3 (by simpa using hl) hx hv
    refine ⟨w, ?_, g2⟩
    rw [e1, List.zip_cons_cons, List.lookup_cons]
    have : (x == p) = false := beq_eq_false_iff_ne.mpr fun e => hn.1 (by rw [← e]; exact List.mem_of_getElem? hx)
    rw [this]; exact g1

theorem lookup_rev : ∀ {l : List (Str × Value)} {x : Str} {u : Value}, (l.map (·.1)).Nodup → l.lookup x = some u → l.reverse.lookup x = some u := by
  intro l x u hn h
  have mem : (x, u) ∈ l := by
    induction l with
    | nil => cases h
    | cons p l ih =>
      obtain ⟨k, v⟩ := p
      rw [List.lookup_cons] at h
      rw [List.map_cons, List.nodup_cons] at hn
      split at h
      · rename_i e; cases h; rw [beq_iff_eq.mp e]; exact .head _
      · exact .tail _ (ih hn.2 h)
  have mem' : (x, u) ∈ l.reverse := List.mem_reverse.mpr mem
  have hn' : (l.reverse.map (·.1)).Nodup := by rw [List.map_reverse]; exact List.pairwise_reverse.mpr (hn.imp fun e => Ne.symm e)
  generalize l.reverse = q at mem' hn'
  induction q with
  | nil => cases mem'
  | cons p q ih =>
    obtain ⟨k, v⟩ := p
    rw [List.map_cons, List.nodup_cons] at hn'
    rw [List.lookup_cons]
    cases mem' with
    | head => simp
    | tail _ m' =>
      have : (x == k) = false := beq_eq_false_iff_ne.mpr fun e => hn'.1 (List.mem_map.mpr ⟨(x, u), m', e⟩)
      rw [this]; exact ih m' hn'.2

structure DefK (K : Frag) (c : Fx) (ps : List Str) (body : List Stmt) : Prop where
  fn : ∃ oc od osl name params dV kV doc pm an ct, K.lookup c.a = some ⟨oc, od, .func (fnOf name c.q params body c.sc dV kV doc pm an c.cd ct), osl⟩ ∧
    ∀ us : List Value, us.length = ps.length → bindArgs (fnOf name c.q params body c.sc dV kV doc pm an c.cd ct) ⟨us, []⟩ = pure (ps.zip us)
  code : codeIn K c.cd c.q = true
  co : c.sc.isCoroutine = false
  gen : c.sc.isGenerator = false
  cell : ∀ x ∈ c.sc.names, x.2 ≠ .cell

theorem sfn_of (W : Wd hb K mg mb) (ok : c.Ok) {ps rest : List Str} {body : List Stmt} {F : SF} (hpl : ∀ L, c.env L = envOf c.q c.sc L c.a c.cd) (hnm : c.nm = ps ++ rest) (D : DefK K c ps body) (hB : SB prog w hb c d body F) : SFn prog w hb (d + 1) c.a (runF ps.length rest.length F) := by
  intro A L f σ m s nm vs us P Q rm a r h kk
  obtain ⟨hlen, h⟩ := okC_ok h
  have hlen := lenIs_eq _ _ hlen
  have hf : codeAny (model prog w) A (.call (.ref c.a) ⟨us, []⟩) (fun r s' => ∃ u, r = .ok (.ret u) ∧ Q u s') s := by
    obtain ⟨⟨oc, od, osl, name, params, dV, kV, doc, pm, an, ct, hlk, hbind⟩, hcd, hco, hgen, hcell⟩ := D
    have hul : us.length = ps.length := by rw [RVs.length r, hlen]
    have hnd : ps.Nodup := by have := ok.nd; rw [hnm] at this; exact (List.nodup_append.mp this).1
    have hk1 : (ps.zip us).map (·.1) = ps := by rw [List.map_fst_zip]; lia
    refine codeAny_call_def (fd := fnOf name c.q params body c.sc dV kV doc pm an c.cd ct) (body := body) (binds := ps.zip us) (by obtain ⟨_, q, _⟩ := rm; lia) (W.x.keeps a.keeps _ _ hlk) rfl (W.nolimit.keeps a.keeps) (codeRec_of (W.x.keeps a.keeps) hcd) rfl
      (BindsTo.of_eq (hbind us hul)) hcell (fun y hy => ?_) (fun h₀ hns hk => ?_) hco hgen ok.kind
    · refine ok.loc y.1 ?_
      rw [hnm]
      refine List.mem_append_left _ ?_
      rw [← hk1]; exact List.mem_map_of_mem hy
    · have rm' : Room (A.deeper (callEnv (fnOf name c.q params body c.sc dV kV doc pm an c.cd ct) s.heap.objs.size c.a)) d := by
        obtain ⟨q1, q2, q3⟩ := rm
        exact ⟨q1, by show A.depth + 1 + d < _; lia, by show A.units + 3 + _ + _ < _; lia⟩
      have im : Imm s.heap h₀ := .of_keeps hk
      have a' : At prog w hb c.nm s.heap.objs.size f σ (vs.map some ++ List.replicate rest.length none) h₀ := by
        refine ⟨by rw [hnm]; simp [hlen], ?_, fun b o e => hk b o (a.keeps b o e), a.above (Nat.le_refl _), a.inj, fun i hi => ?_, a.new, Nat.lt_trans a.lo a.Llt, a.hi, a.base, fun i o e => ?_⟩
        · refine ⟨_, fr0 hns, fun k x v hx hv => ?_⟩
          · have hkl : k < ps.length := by
              rcases Nat.lt_or_ge k ps.length with g | g
              · exact g
              · exfalso
                rw [List.getElem?_append_right (by rw [List.length_map, hlen]; exact g)] at hv
                obtain ⟨_, q⟩ := List.getElem?_eq_some_iff.mp hv
                simp at q
            rw [hnm, List.getElem?_append_left hkl] at hx
            rw [List.getElem?_append_left (by rw [List.length_map, hlen]; exact hkl), List.getElem?_map] at hv
            obtain ⟨v0, q1, q2⟩ := Option.map_eq_some_iff.mp hv
            cases q2
            obtain ⟨u, g1, g2⟩ := lookup_zip hnd r hlen.symm hx q1
            exact ⟨u, lookup_rev (by rw [hk1]; exact hnd) g1, g2.mono im (Nat.le_refl _) fun _ _ => rfl⟩
        · have := a.flt hi; lia
        · obtain ⟨x, e1, e2⟩ := a.obj i o e
          exact ⟨x, hk _ _ e1, e2.mono prog w im (Nat.le_refl _) fun _ _ => rfl⟩
      have hrun := hB (A.deeper (callEnv (fnOf name c.q params body c.sc dV kV doc pm an c.cd ct) s.heap.objs.size c.a)) s.heap.objs.size f σ _ { s with heap := h₀, toks := s.toks + (ps.zip us).length } _ (fun u s' => ∃ fl m' σ' f', Ho (P (flV fl) σ') ∧ Nxt prog w hb c.nm s.heap.objs.size σ.length f { s with heap := h₀, toks := s.toks + (ps.zip us).length } σ' m' f' s' ∧ RFl σ'.length s'.heap f' fl u) rm' a' h
        fun fl m' σ' f' u s' p x r => ⟨fl, m', σ', f', p, x, r⟩
      rw [hpl] at hrun
      refine wpAny_mono (sized hrun) (fun u s' zz => ?_) fun _ _ e => e.elim
      obtain ⟨⟨fl, m', σ', f', p, ⟨d', a2⟩, r'⟩, hz⟩ := zz
      refine ⟨_, rfl, kk (flV fl) σ' f' _ s' p ⟨?_, ?_⟩ ?_⟩
      · refine ⟨d'.le, d'.agree, fun i h1 h2 => ?_, ?_, fun b o e q1 q2 => ?_, im.trans d'.imm, d'.os, d'.gens⟩
        · have q3 : h₀.objs.size ≤ f' i := d'.fresh i h1 h2
          have q : s.heap.objs.size < h₀.objs.size := hns.lt
          lia
        · have q : s.heap.objs.size < h₀.objs.size := hns.lt
          have q3 : h₀.objs.size ≤ s'.heap.objs.size := hz
          lia
        · exact d'.keep b o (hk b o e) q1 (Nat.ne_of_lt (Heap.lt_size e))
      · have imm' : Imm s.heap s'.heap := im.trans d'.imm
        refine ⟨a.len, ?_, a2.keep, a.hbL, a2.inj, fun i hi e => ?_, a2.new, a.lo, a2.hi, a2.base, a2.obj⟩
        · obtain ⟨mm, F, y⟩ := a.fr
          obtain ⟨oL, es, ep, hL, q⟩ := F.ns
          have hL' : s'.heap.get? L = some oL := d'.keep L oL (hk _ _ hL) a.neL (Nat.ne_of_lt (Heap.lt_size hL))
          refine ⟨mm, fr0 ⟨oL, es, ep, hL', q⟩, fun k x v q1 q2 => ?_⟩
          obtain ⟨u, g1, g2⟩ := y k x v q1 q2
          exact ⟨u, g1, g2.mono imm' d'.le d'.agree⟩
        · rcases Nat.lt_or_ge i σ.length with g | g
          · rw [d'.agree i g] at e; exact a.neL i g e
          · have q3 : h₀.objs.size ≤ f' i := d'.fresh i g hi
            have q : s.heap.objs.size < h₀.objs.size := hns.lt
            have q4 := a.Llt
            lia
      · cases fl with
        | next => rw [show u = .next from r']; exact rfl
        | ret z =>
          obtain ⟨x, rfl, r''⟩ := r'
          exact r''
  exact hf
end

noncomputable def on1 (vs : List V) (k : V → Kt) : Kt := match vs with
  | [] => kF
  | x :: vs => (match vs with | [] => k x | _ :: _ => kF)
theorem on1_ok {k : V → Kt} : ∀ {vs : List V}, Ho (on1 vs k) → ∃ x, vs = [x] ∧ Ho (k x)
  | [x], h => ⟨x, rfl, h⟩
  | [], h => h.no
  | _ :: _ :: _, h => h.no
noncomputable def on2 (vs : List V) (k : V → V → Kt) : Kt := match vs with
  | [] => kF
  | x :: vs => on1 vs fun y => k x y
theorem on2_ok {k : V → V → Kt} : ∀ {vs : List V}, Ho (on2 vs k) → ∃ x y, vs = [x, y] ∧ Ho (k x y)
  | [], h => h.no
  | x :: vs, h => let ⟨y, e, h⟩ := on1_ok (vs := vs) h; ⟨x, y, by rw [e], h⟩
noncomputable def bLen : FF := fun vs σ P => on1 vs fun x => match x with
  | .ref i => rdL i σ fun l => P (.int l.length) σ
  | .tup l => asr (l.length ≤ 1000000) (P (.int l.length) σ)
  | _ => kF
noncomputable def bAbs : FF := fun vs σ P => on1 vs fun x => onInt x fun a => P (.int (if a < 0 then -a else a)) σ
noncomputable def bMax : FF := fun vs σ P => on2 vs fun x y => onInt x fun a => onInt y fun b => P (.int (if b > a then b else a)) σ
noncomputable def bStr : FF := fun vs σ P => on1 vs fun x => onInt x fun a => asr (-1000000 < a ∧ a < 1000000) (P (.str (toString a)) σ)
noncomputable def bInt : FF := fun vs σ P => on1 vs fun x => onB x fun a => P (.int (if a then 1 else 0)) σ
noncomputable def eBlt (B : FF) (l : LF) : EF := fun m σ P => l m σ fun vs σ => B vs σ P
noncomputable def bIsStr : V → Option Bool
  | .int _ => some false
  | .str _ => some true
  | .tup _ => some false
  | .none => some false
  | _ => none
noncomputable def bIsTup : V → Option Bool
  | .int _ => some false
  | .str _ => some false
  | .tup _ => some true
  | .none => some false
  | _ => none
noncomputable def eIs (q : V → Option Bool) (a : EF) : EF := fun m σ P => a m σ fun x σ => okO (q x) fun b => P (.bool b) σ
noncomputable def IsLs (σ : St) (i : Nat) : Prop := ∃ l, σ[i]? = some (.list l)
noncomputable def IsDs (σ : St) (i : Nat) : Prop := ∃ l, σ[i]? = some (.dictS l)
noncomputable def isListR (x : V) (σ : St) (k : Nat → Kt) : Kt := onRef x fun i => asr (IsLs σ i) (k i)
noncomputable def isDictR (x : V) (σ : St) (k : Nat → Kt) : Kt := onRef x fun i => asr (IsDs σ i) (k i)
noncomputable def eAppend (o a : EF) : EF := fun m σ P => o m σ fun x σ => isListR x σ fun i => a m σ fun y σ => rdL i σ fun l => P .none (σ.set i (.list (l ++ [y])))
noncomputable def popOp : Op1 := fun x σ P => onRef x fun i => rdL i σ fun l => ask Ans.v? (fun v => l.getLast? = some v) fun v => P v (σ.set i (.list l.dropLast))
noncomputable def GetS (σ : St) (i : Nat) (k : String) (dv v : V) : Prop := ∃ l, σ[i]? = some (.dictS l) ∧ (getK k l).getD dv = v
noncomputable def eGet (o a b : EF) : EF := fun m σ P => o m σ fun x σ => isDictR x σ fun i => a m σ fun y σ => b m σ fun z σ => onStr y fun k => ask Ans.v? (GetS σ i k z) fun v => P v σ

section
variable (prog : Program) (w : World) (hb : Base) (nm : List Str) (d : Nat)
noncomputable def OkB (t : Value) (B : FF) : Prop := ∀ A L f σ m s vs us P Q, Room A d → At prog w hb nm L f σ m s.heap → RVs σ.length s.heap f vs us → Ho (B vs σ P) → Con prog w hb nm L bV σ.length f s m P Q → wpAny (model prog w) A (call t us) Q noE s
end
section
variable {prog : Program} {w : World} {hb : Base} {c : Fx} {d : Nat} {K : Frag} {mg mb : Str → Option Value}

theorem se_bltin (W : Wd hb K mg mb) {x : Str} {np pos : Pos} {id : String} {es : List Expr} {G : LF} {B : FF} (ok : c.Ok) (hx : c.sc.names.lookup x = some .globalImplicit) (e : nsIn K mainGlobals x = some none) (hu : bootBuiltins x = some (.builtin id)) (hn : x ≠ "__name__")
    (hp : Plain es) (hl : SL prog w hb c d es G)
    (hB : OkB prog w hb c.nm d (.builtin id) B)
    (hd : (x == ("__debug__" : Str)) = false := by decide) : SE prog w hb c d (.Call (.Name x np) es [] pos) (eBlt B G) := fun A L f σ m s P Q rm a h kk =>
  Call_e (bltin_ W ok hx e hu hn a (Calls.callWith_builtin (by have := notStar hp pos (c.env L); simpa using this) (args_ hp hl rm a h fun vs σ1 f1 us s1 p1 x1 r1 => hB A L f1 σ1 m s1 vs us P Q rm x1.a r1 p1 (kk.from x1))) hd) rfl

theorem keeps_type (n : String) (h : Heap) (_ : True) : ∃ k, (k = Keeper.frame ∨ k = Keeper.machine ∨ k = Keeper.boundFrame) ∧ Looks (model prog w) h (keeperOf (.type n)) k := ⟨.machine, .inr (.inl rfl), Looks.of_pure rfl⟩
theorem se_type (W : Wd hb K mg mb) {x : Str} {np pos : Pos} {id : String} {es : List Expr} {G : LF} {B : FF} (ok : c.Ok) (hx : c.sc.names.lookup x = some .globalImplicit) (e : nsIn K mainGlobals x = some none) (hu : bootBuiltins x = some (.type id)) (hn : x ≠ "__name__")
    (hp : Plain es) (hl : SL prog w hb c d es G)
    (hB : OkB prog w hb c.nm d (.type id) B)
    (hd : (x == ("__debug__" : Str)) = false := by decide) : SE prog w hb c d (.Call (.Name x np) es [] pos) (eBlt B G) := fun A L f σ m s P Q rm a h kk =>
  Call_e (bltin_ W ok hx e hu hn a (callWith_of (P := fun _ => True) (notStar hp _ _) (keeps_type id) (args_ hp hl rm a h fun vs σ1 f1 us s1 p1 x1 r1 => ⟨trivial, hB A L f1 σ1 m s1 vs us P Q rm x1.a r1 p1 (kk.from x1)⟩)) hd) rfl

variable {A : Around} {L : Nat} {f : Nat → Nat} {σ : St} {m : Ms} {s : Shared} {nm : List Str}

theorem RVs.one_inv {n : Nat} {h : Heap} {x : V} {us : List Value} (r : RVs n h f [x] us) : ∃ u, us = [u] ∧ RV n h f x u := by
  obtain ⟨u, r', e1, e2, e3⟩ := r
  exact ⟨u, by rw [e1, show r' = [] from e3], e2⟩
theorem RVs.two_inv {n : Nat} {h : Heap} {x y : V} {us : List Value} (r : RVs n h f [x, y] us) : ∃ u z, us = [u, z] ∧ RV n h f x u ∧ RV n h f y z := by
  obtain ⟨u, r', e1, e2, e3⟩ := r
  obtain ⟨z, e4, e5⟩ := RVs.one_inv e3
  exact ⟨u, z, by rw [e1, e4], e2, e5⟩

theorem ok_len : OkB prog w hb nm d (.builtin "len") bLen := fun A L f σ m s vs us P Q rm a r0 h k => by
  obtain ⟨x, rfl, h⟩ := on1_ok h
  obtain ⟨u, rfl, r⟩ := RVs.one_inv r0
  cases x with
  | ref i =>
    obtain ⟨hi, rfl⟩ := r
    obtain ⟨l, ⟨e1, hz⟩, p⟩ := Ho.ask h
    obtain ⟨vs, n, g1, g2⟩ := At.list a e1
    have hl := g2.length
    rw [Array.length_toList] at hl
    exact PySem.Calls.call_len_list ⟨_, g1, rfl, _, rfl⟩ (by lia) (k _ _ _ _ _ p (.tok a) ⟨_, by rw [hl]⟩)
  | tup l =>
    obtain ⟨t, vs, n, rfl, g1, g2⟩ := r
    have hl := g2.length
    rw [Array.length_toList] at hl
    exact PyProof.Rows.len_tuple ⟨_, g1, rfl, _, rfl⟩ (by have := (Ho.asr h).1; lia) (k _ _ _ _ _ (Ho.asr h).2 (.tok a) ⟨_, by rw [hl]⟩)
  | _ => exact h.no
theorem ok_abs : OkB prog w hb nm d (.builtin "abs") bAbs := fun A L f σ m s vs us P Q rm a r0 h k => by
  obtain ⟨x, rfl, h⟩ := on1_ok h
  obtain ⟨u, rfl, r⟩ := RVs.one_inv r0
  obtain ⟨i, rfl, h⟩ := onInt_ok h
  obtain ⟨t, rfl⟩ := r
  exact call_abs_int fun u tk => k _ _ _ _ _ h (.tok a) ⟨u, rfl⟩
theorem ok_max : OkB prog w hb nm d (.builtin "max") bMax := fun A L f σ m s vs us P Q rm a r0 h k => by
  obtain ⟨x, y, rfl, h⟩ := on2_ok h
  obtain ⟨u, z, rfl, r, r'⟩ := RVs.two_inv r0
  obtain ⟨x, rfl, h⟩ := onInt_ok h
  obtain ⟨y, rfl, h⟩ := onInt_ok h
  obtain ⟨t, rfl⟩ := r; obtain ⟨t', rfl⟩ := r'
  have := max_two_ints (prog := prog) (w := w) (A := A) (E := noE) (s := s) (a := x) (b := y) (t := t) (u := t') (Q := fun u s' => (∃ t, u = .int (if y > x then y else x) t) ∧ ∃ h' tk, s' = { s with heap := h', toks := tk } ∧ ∀ c o, s.heap.get? c = some o → h'.get? c = some o) rm.1
    (fun h' tk k => ⟨by split <;> exact ⟨_, rfl⟩, h', tk, rfl, k⟩)
  refine wpAny_mono (sized this) (fun u s' zz => ?_) fun _ _ e => e
  obtain ⟨⟨e1, h', tk, e2, kp⟩, hz⟩ := zz
  subst e2
  exact k _ _ _ _ _ h (.grow a kp hz rfl rfl) e1
theorem ok_str : OkB prog w hb nm d (.type "str") bStr := fun A L f σ m s vs us P Q rm a r0 h k => by
  obtain ⟨x, rfl, h⟩ := on1_ok h
  obtain ⟨u, rfl, r⟩ := RVs.one_inv r0
  obtain ⟨x, rfl, h⟩ := onInt_ok h
  obtain ⟨t, rfl⟩ := r
  obtain ⟨hz, p⟩ := Ho.asr h
  refine PySem.P.str_of_int ?_ (k _ _ _ _ _ p (.tok a) ⟨_, rfl⟩)
  have h1 : x.natAbs < 2 ^ 20 := by lia
  by_cases h0 : x.natAbs = 0
  · rw [h0]; decide +kernel
  · have := (Nat.log2_lt h0).mpr h1
    lia
theorem ok_int : OkB prog w hb nm d (.type "int") bInt := fun A L f σ m s vs us P Q rm a r0 h k => by
  obtain ⟨x, rfl, h⟩ := on1_ok h
  obtain ⟨u, rfl, r⟩ := RVs.one_inv r0
  obtain ⟨b, rfl, h⟩ := onB_ok h
  rw [show u = .bool _ from r]
  exact call_int_bool (k _ _ _ _ _ h (.tok a) ⟨_, rfl⟩)

theorem isi_str {x : V} {u : Value} {b : Bool} {Q : Value → Shared → Prop} (a : At prog w hb nm L f σ m s.heap) (r : RV σ.length s.heap f x u) (h : bIsStr x = some b) (k : ∀ t, Q (.bool b) { s with toks := t }) : wpAny (model prog w) A (call (.builtin "isinstance") [u, .type "str"]) Q noE s := by
  cases x <;> first | (cases h; done) | cases h
  · rw [show u = .none from r]
    exact call_isinstance (isinstance_false_none (by decide) PySem.F.isi_meta_str (by rw [isSubtype_type]; kernel_rfl)) (k _)
  · obtain ⟨t, rfl⟩ := r
    exact call_isinstance (isinstance_false_int (by decide) PySem.F.isi_meta_str (by rw [isSubtype_type]; kernel_rfl)) (k _)
  · obtain ⟨t, rfl⟩ := r
    exact call_isinstance_yes (Tx := "str") rfl PySem.F.isi_meta_str PySem.F.isi_self_str (k _)
  · obtain ⟨t, vs, n, rfl, g1, g2⟩ := r
    exact call_isinstance (isinstance_false_tuple (by decide) PySem.F.isi_meta_str (by rw [isSubtype_type]; kernel_rfl)) ⟨⟨_, g1, rfl⟩, k _⟩
theorem isi_tup {x : V} {u : Value} {b : Bool} {Q : Value → Shared → Prop} (a : At prog w hb nm L f σ m s.heap) (r : RV σ.length s.heap f x u) (h : bIsTup x = some b) (k : ∀ t, Q (.bool b) { s with toks := t }) : wpAny (model prog w) A (call (.builtin "isinstance") [u, .type "tuple"]) Q noE s := by
  cases x <;> first | (cases h; done) | cases h
  · rw [show u = .none from r]
    exact call_isinstance (isinstance_false_none (by decide) PySem.F.isi_meta_tuple (by rw [isSubtype_type]; kernel_rfl)) (k _)
  · obtain ⟨t, rfl⟩ := r
    exact call_isinstance (isinstance_false_int (by decide) PySem.F.isi_meta_tuple (by rw [isSubtype_type]; kernel_rfl)) (k _)
  · obtain ⟨t, rfl⟩ := r
    exact call_isinstance (isinstance_false_str (by decide) PySem.F.isi_meta_tuple (by rw [isSubtype_type]; kernel_rfl)) (k _)
  · obtain ⟨t, vs, n, rfl, g1, g2⟩ := r
    exact call_isinstance_yes (Tx := "tuple") ⟨_, g1, rfl⟩ PySem.F.isi_meta_tuple PySem.F.isi_self_tuple (k _)

theorem se_isi (W : Wd hb K mg mb) {y : Str} {T : String} {np p2 pos : Pos} {e : Expr} {F : EF} {q : V → Option Bool} (ok : c.Ok) (hx : c.sc.names.lookup (Str.ofString "isinstance") = some .globalImplicit) (hy : c.sc.names.lookup y = some .globalImplicit) (e1 : nsIn K mainGlobals "isinstance" = some none) (e2 : nsIn K mainGlobals y = some none)
    (hu2 : bootBuiltins y = some (.type T)) (hn2 : y ≠ "__name__") (he : SE prog w hb c d e F) (hst : ∀ z p, e ≠ .Starred z p)
    (hq : ∀ A s L f σ m x u b Q, Room A d → At prog w hb c.nm L f σ m s.heap → RV σ.length s.heap f x u → q x = some b → (∀ t, Q (.bool b) { s with toks := t }) → wpAny (model prog w) A (call (.builtin "isinstance") [u, .type T]) Q noE s)
    (hd : (y == ("__debug__" : Str)) = false := by decide) : SE prog w hb c d (.Call (.Name "isinstance" np) [e, .Name y p2] [] pos) (eIs q F) := fun A L f σ m s P Q rm a h kk => by
  have hp : Plain [e, .Name y p2] := by
    intro t ht z p
    cases ht with
    | head => exact hst z p
    | tail _ ht => cases ht with | head => exact fun q => by cases q | tail _ ht => cases ht
  refine Call_e (bltin_ W ok hx e1 (u := .builtin "isinstance") (by decide +kernel) (by decide) a (Calls.callWith_builtin (by have := notStar hp pos (c.env L); simpa using this) ?_)) rfl
  rw [trees_plain hp]
  refine Calls.evalArgs_plain (Calls.spliced_cons (he A L f σ m s _ _ rm a h fun x σ1 f1 u s1 p1 x1 r1 => ?_))
  refine Calls.spliced_cons (bltin_ W ok hy e2 hu2 hn2 x1.a (Calls.spliced_nil ?_) hd)
  obtain ⟨b, h2, p⟩ := okO_ok p1
  exact hq A s1 L f1 σ1 m x u b Q rm x1.a r1 h2 fun t => kk _ _ _ _ _ p (x1.trans (.tok x1.a)) rfl

theorem RVs.dropLast {n : Nat} {h : Heap} {f : Nat → Nat} : ∀ {l : List V} {vs : List Value}, RVs n h f l vs → RVs n h f l.dropLast vs.dropLast := by
  intro l vs r
  rw [List.dropLast_eq_take, List.dropLast_eq_take, RVs.length r]
  exact r.take _

theorem erase_last (xs : Array Value) : (xs.eraseIdxIfInBounds (xs.size - 1)).toList = xs.toList.dropLast := by
  obtain ⟨l⟩ := xs
  simp only [List.size_toArray, List.eraseIdxIfInBounds_toArray, List.dropLast_eq_take]
  cases l with
  | nil => rfl
  | cons x l =>
    rw [List.eraseIdx_eq_take_drop_succ, List.drop_eq_nil_of_le (by simp), List.append_nil]

noncomputable def MForm (c : Fx) (o : Expr) (x : Str) (apos pos : Pos) (es : List Expr) : Prop := ∃ pl : Nat → Sem Bool, ∀ L, eval (.Call (.Attribute o x apos) es [] pos) (c.env L) = (do
      let ov ← eval o (c.env L)
      standAt apos.atName
      let (f, first) ← holding [ov] (getMethod ov x (pl L))
      callWith pos f first (backTo pos (starEach es (c.env L))) [])

theorem se_append {o e : Expr} {apos pos : Pos} {O F : EF} (ho : SE prog w hb c d o O) (he : SE prog w hb c d e F) (hp : Plain [e]) (hcall : MForm c o "append" apos pos [e]) : SE prog w hb c d (.Call (.Attribute o "append" apos) [e] [] pos) (eAppend O F) := fun A L f σ m s P Q rm a h kk => by
  obtain ⟨pl, hcall⟩ := hcall
  refine MethodCall_ (pl := pl L) (ho A L f σ m s _ _ rm a h fun x σ1 f1 u s1 p1 x1 r1 => ?_) (hcall L)
  obtain ⟨i, rfl, p1⟩ := onRef_ok p1
  obtain ⟨⟨l0, e0'⟩, p1⟩ := Ho.asr p1
  obtain ⟨hi, rfl⟩ := r1
  obtain ⟨vs0, k0, g0, _⟩ := At.list x1.a e0'
  refine getMethod_builtin (T := "list") ⟨_, g0, rfl⟩ PySem.F.plainAttrs_list PySem.F.slot_list_append PySem.F.type_list_append (fun a e => by cases e; exact ⟨_, g0, rfl⟩) ?_
  refine Calls.callWith_builtin (by have := notStar hp pos (c.env L); simpa using this) ?_
  rw [trees_plain hp]
  refine Calls.evalArgs_plain (Calls.spliced_cons (he A L f1 σ1 m s1 _ _ rm x1.a p1 fun y σ2 f2 z s2 p2 x2 r2 => Calls.spliced_nil ?_))
  obtain ⟨l, ⟨e1, hz⟩, p⟩ := Ho.ask p2
  obtain ⟨vs, k, g1, g2⟩ := At.list x2.a e1
  have hl := g2.length
  rw [Array.length_toList] at hl
  have hi' : f2 i = f1 i := x2.d.agree i hi
  rw [← hi']
  exact append_at g1 (fun h' hs ho' => kk _ _ _ _ _ p ((x1.trans x2).trans (.turn (s' := { s2 with heap := h' }) x2.a e1 hs ho' ⟨_, _, rfl, by rw [Array.toList_push]; exact g2.append (.one r2)⟩ rfl rfl)) rfl) (by rw [sizeLine_eq]; lia)

theorem se_pop {o : Expr} {apos pos : Pos} {O : EF} (ho : SE prog w hb c d o O) (hcall : MForm c o "pop" apos pos []) : SE prog w hb c d (.Call (.Attribute o "pop" apos) [] [] pos) (eUn popOp O) := fun A L f σ m s P Q rm a h kk => by
  obtain ⟨pl, hcall⟩ := hcall
  refine MethodCall_ (pl := pl L) (ho A L f σ m s _ _ rm a h fun x σ1 f1 u s1 p1 x1 r1 => ?_) (hcall L)
  obtain ⟨i, rfl, p1⟩ := onRef_ok p1
  obtain ⟨l, ⟨e1, hz⟩, p1⟩ := Ho.ask p1
  obtain ⟨v, hlast, p⟩ := Ho.ask p1
  obtain ⟨hi, rfl⟩ := r1
  obtain ⟨vs, k, g1, g2⟩ := At.list x1.a e1
  have hl := g2.length
  rw [Array.length_toList] at hl
  refine getMethod_builtin (T := "list") ⟨_, g1, rfl⟩ PySem.F.plainAttrs_list PySem.F.slot_list_pop PySem.F.type_list_pop (fun a e => by cases e; exact ⟨_, g1, rfl⟩) ?_
  rw [List.getLast?_eq_getElem?] at hlast
  obtain ⟨y, q1, q2⟩ := g2.get hlast
  rw [← hl, Array.getElem?_toList] at q1
  refine PySem.P.pop_list g1 q1 ?_ (by rw [sizeLine_eq]; lia)
  have g3 := IsL.update g1 (fun xs => xs.eraseIdxIfInBounds (vs.size - 1))
  have hr : RVs σ1.length s1.heap f1 l.dropLast (vs.eraseIdxIfInBounds (vs.size - 1)).toList := by rw [erase_last]; exact RVs.dropLast g2
  have y := Nxt.turn (o' := .list l.dropLast) (s' := { s1 with heap := s1.heap.update (f1 i) (Obj.mapSeq fun xs => xs.eraseIdxIfInBounds (vs.size - 1)) }) x1.a e1 (Heap.SameBut.update ..) g3 ⟨_, _, rfl, hr⟩ rfl rfl
  exact kk _ _ _ _ _ p (x1.trans y) (RV.adv y.d q2)

theorem se_get (W : Wd hb K mg mb) {o e e2 : Expr} {apos pos : Pos} {O F G : EF} (ho : SE prog w hb c d o O) (he : SE prog w hb c d e F) (he2 : SE prog w hb c d e2 G) (hp : Plain [e, e2]) (hcall : MForm c o "get" apos pos [e, e2]) : SE prog w hb c d (.Call (.Attribute o "get" apos) [e, e2] [] pos) (eGet O F G) := fun A L f σ m s P Q rm a h kk => by
  obtain ⟨pl, hcall⟩ := hcall
  refine MethodCall_ (pl := pl L) (ho A L f σ m s _ _ rm a h fun x σ1 f1 u s1 p1 x1 r1 => ?_) (hcall L)
  obtain ⟨i, rfl, p1⟩ := onRef_ok p1
  obtain ⟨⟨l0, e0'⟩, p1⟩ := Ho.asr p1
  obtain ⟨hi, rfl⟩ := r1
  obtain ⟨o0, g0, kv0, i00, _⟩ := x1.a.obj i _ e0'
  have D0 : s1.heap.DictOf (strKind prog w) (f1 i) kv0 := Heap.dictOf_iff.mpr ⟨_, g0, i00⟩
  refine getMethod_builtin (T := "dict") D0.typeIs PySem.F.plainAttrs_dict PySem.F.slot_dict_get PySem.F.type_dict_get D0.mapOf.noDict ?_
  dsimp only
  rw [trees_plain hp]
  refine wpAny_dict_get2 (knd := strKind prog w) (At.noSys x1.a W.nolimit hi) (he A L f1 σ1 m s1 _ _ rm x1.a p1 fun y σ2 f2 z2 s2 p2 x2 r2 => he2 A L f2 σ2 m s2 _ _ rm x2.a p2 fun z σ3 f3 z3 s3 p3 x3 r3 => ?_)
  obtain ⟨k, rfl, p3⟩ := onStr_ok p3
  obtain ⟨v, ⟨l, e1, rfl⟩, p⟩ := Ho.ask p3
  obtain ⟨t, rfl⟩ := r2
  obtain ⟨o1, g1, kv1, i1, q⟩ := x3.a.obj i _ e1
  have hi' : f3 i = f1 i := (x3.d.agree i (Nat.lt_of_lt_of_le hi x2.d.le)).trans (x2.d.agree i hi)
  rw [hi'] at g1
  have D : s3.heap.DictOf (strKind prog w) (f1 i) kv1 := Heap.dictOf_iff.mpr ⟨_, g1, i1⟩
  refine ⟨Str.ofString k, valueAt kv1, strKind_is prog w _ t, D.mapOf, ?_⟩
  refine kk _ _ _ _ _ p (((x1.trans x2).trans x3).trans (.tok x3.a)) ?_
  obtain ⟨p1, p2⟩ := getK_RK (fun _ _ => ofS_inj) q k
  cases e : getK k l with
  | none => rw [p2 e]; exact r3
  | some v => obtain ⟨u, e2, e3⟩ := p1 v e; rw [e2]; exact e3
end

noncomputable abbrev Its := Nat → St → (Option V → Kt) → Kt
noncomputable def loopG (it : Its) (g : GF) (b : SF) : Nat → Nat → Ms → St → (Fl → Ms → St → Kt) → Kt
  | 0, _, _, _, _ => kF
  | n + 1, j, m, σ, P => it j σ fun o => match o with
    | none => P .next m σ
    | some v => g v m σ fun m σ => b m σ fun x m σ => match x with
      | .next => loopG it g b n (j + 1) m σ P
      | .ret r => P (.ret r) m σ

noncomputable def Lp (it : Its) (g : GF) (b : SF) (j : Nat) (m : Ms) (σ : St) (x : Fl) (m' : Ms) (σ' : St) : Prop := ∀ P, Ho (P x m' σ') → ∃ n, Ho (loopG it g b n j m σ P)
noncomputable def loopK (it : Its) (g : GF) (b : SF) (m : Ms) (σ : St) (P : Fl → Ms → St → Kt) : Kt := fun os => match os with
  | [] => False
  | a :: os => match a with
    | .f x m' σ' => Lp it g b 0 m σ x m' σ' ∧ P x m' σ' os
    | .n k => loopG it g b k 0 m σ P os
    | _ => False
theorem Ho.loop {it : Its} {g : GF} {b : SF} {m : Ms} {σ : St} {P : Fl → Ms → St → Kt} (h : Ho (loopK it g b m σ P)) : ∃ n, Ho (loopG it g b n 0 m σ P) := by
  obtain ⟨os, h⟩ := h
  cases os with
  | nil => exact h.elim
  | cons a os => cases a with
    | f x m' σ' => exact h.1 P ⟨os, h.2⟩
    | n k => exact ⟨k, _, h⟩
    | _ => exact h.elim

structure Hid (hb : Base) (fp : List Nat) (L n : Nat) (f : Nat → Nat) (h : Heap) : Prop where
  neL : ∀ b ∈ fp, b ≠ L
  neF : ∀ b ∈ fp, ∀ i, i < n → f i ≠ b
  new : ∀ b ∈ fp, hb.h.get? b = none
  non : ∀ b ∈ fp, ∃ o, h.get? b = some o ∧ ¬ isImm o

structure HStep (fp : List Nat) (s s' : Shared) : Prop where
  keep : ∀ b o, b ∉ fp → s.heap.get? b = some o → s'.heap.get? b = some o
  size : s.heap.objs.size ≤ s'.heap.objs.size
  os : s'.os = s.os
  gens : s'.gens = s.gens
theorem HStep.trans {fp : List Nat} {s s1 s2 : Shared} (x : HStep fp s s1) (y : HStep fp s1 s2) : HStep fp s s2 := ⟨fun b o h e => y.keep b o h (x.keep b o h e), Nat.le_trans x.size y.size, y.os.trans x.os, y.gens.trans x.gens⟩
theorem HStep.of_grow {fp : List Nat} {s s' : Shared} (k : ∀ b o, s.heap.get? b = some o → s'.heap.get? b = some o) (hz : s.heap.objs.size ≤ s'.heap.objs.size) (ho : s'.os = s.os) (hg : s'.gens = s.gens) : HStep fp s s' := ⟨fun b o _ e => k b o e, hz, ho, hg⟩

section
variable {prog : Program} {w : World} {hb : Base} {c : Fx} {d : Nat} {nm : List Str} {L : Nat} {f : Nat → Nat} {σ : St} {m : Ms} {fp : List Nat} {s s' : Shared}

theorem HStep.imm {n : Nat} {f : Nat → Nat} (x : HStep fp s s') (H : Hid hb fp L n f s.heap) : Imm s.heap s'.heap := fun b o e i => by
  refine x.keep b o (fun hm => ?_) e
  obtain ⟨o', e', ni⟩ := H.non b hm
  rw [e] at e'; cases e'
  exact ni i

theorem At.hstep (a : At prog w hb nm L f σ m s.heap) (H : Hid hb fp L σ.length f s.heap) (x : HStep fp s s') : At prog w hb nm L f σ m s'.heap := by
  have im := x.imm H
  refine ⟨a.len, ?_, fun b o e => x.keep b o (fun hm => ?_) (a.keep b o e), a.hbL, a.inj, a.neL, a.new, a.lo, a.hi, a.base, fun i o e => ?_⟩
  · obtain ⟨mm, F, y⟩ := a.fr
    refine ⟨mm, fr0 ?_, fun i z v p q => let ⟨u, r1, r2⟩ := y i z v p q; ⟨u, r1, r2.mono im (Nat.le_refl _) fun _ _ => rfl⟩⟩
    obtain ⟨o, es, ep, ho, r⟩ := F.ns; exact ⟨o, es, ep, x.keep _ _ (fun hm => H.neL L hm rfl) ho, r⟩
  · rw [H.new b hm] at e; cases e
  · obtain ⟨x', e1, e2⟩ := a.obj i o e
    have hi : i < σ.length := by rw [List.getElem?_eq_some_iff] at e; exact e.1
    exact ⟨x', x.keep _ _ (fun hm => H.neF _ hm i hi rfl) e1, e2.mono prog w im (Nat.le_refl _) fun _ _ => rfl⟩

theorem _root_.Mine.Adv.hstep {n0 n : Nat} {f0 f : Nat → Nat} {s0 : Shared} (x : Adv L n0 f0 s0 n f s) (hfp : ∀ b ∈ fp, s0.heap.objs.size ≤ b) (y : HStep fp s s') : Adv L n0 f0 s0 n f s' := by
  have old : ∀ b, b < s0.heap.objs.size → b ∉ fp := fun b h hm => absurd h (Nat.not_lt.mpr (hfp b hm))
  exact ⟨x.le, x.agree, x.fresh, Nat.le_trans x.size y.size, fun a o e h1 h2 => y.keep a o (old a (Heap.lt_size e)) (x.keep a o e h1 h2), fun a o e i => y.keep a o (old a (Heap.lt_size e)) (x.imm a o e i), y.os.trans x.os, y.gens.trans x.gens⟩

theorem Hid.adv {n n' : Nat} {f' : Nat → Nat} (H : Hid hb fp L n f s.heap) (x : Adv L n f s n' f' s') : Hid hb fp L n' f' s'.heap := by
  refine ⟨H.neL, fun b hm i hi => ?_, H.new, fun b hm => ?_⟩
  · obtain ⟨o, e, _⟩ := H.non b hm
    rcases Nat.lt_or_ge i n with g | g
    · rw [x.agree i g]; exact H.neF b hm i g
    · have h1 := x.fresh i g hi
      have h2 : b < s.heap.objs.size := Heap.lt_size e
      exact fun q => absurd h2 (Nat.not_lt.mpr (q ▸ h1))
  · obtain ⟨o, e, ni⟩ := H.non b hm
    exact ⟨o, x.keep b o e (H.neF b hm) (H.neL b hm), ni⟩

noncomputable def SrcQ (prog : Program) (w : World) (target : Expr) (it : Nat) (fp : List Nat) (P : Nat → Heap → Prop) (n : Nat) (f : Nat → Nat) (j : Nat) (s : Shared) (K : Option V → Kt) (A : Around) : Option Value → Shared → Prop :=
  fun r s1 => (r = none ∧ HStep fp s s1 ∧ Ho (K none)) ∨ ∃ v u, r = some u ∧ Ho (K (some v)) ∧ wpAny (model prog w) A (letOwnedTupleGo target (.ref it) u) (fun _ s2 => HStep fp s s2 ∧ RV n s2.heap f v u ∧ P (j + 1) s2.heap) noE s1
structure Inv (prog : Program) (w : World) (hb : Base) (nm : List Str) (L n1 : Nat) (f1 : Nat → Nat) (fp : List Nat) (P : Nat → Heap → Prop) (j : Nat) (f : Nat → Nat) (σ : St) (m : Ms) (s : Shared) : Prop where
  ag : n1 ≤ σ.length ∧ ∀ i, i < n1 → f i = f1 i
  a : At prog w hb nm L f σ m s.heap
  H : Hid hb fp L σ.length f s.heap
  p : P j s.heap
structure Src (prog : Program) (w : World) (hb : Base) (n1 : Nat) (f1 : Nat → Nat) (target : Expr) (it : Nat) (items : Its) (fp : List Nat) (P : Nat → Heap → Prop) : Prop where
  non : ∀ j h, P j h → ∀ b ∈ fp, ∃ o, h.get? b = some o ∧ ¬ isImm o
  self : ∀ A s j, P j s.heap → wpAny (model prog w) A (pyIter (.ref it)) (fun v s' => v = .ref it ∧ s' = s) noE s
  stable : ∀ j h h', P j h → Imm h h' → (∀ b ∈ fp, ∀ o, h.get? b = some o → h'.get? b = some o) → P j h'
  next : ∀ A nm L f σ m s j K, A.handled = none → Inv prog w hb nm L n1 f1 fp P j f σ m s → Ho (items j σ K) → wpAny (model prog w) A (pyNext (.ref it)) (SrcQ prog w target it fp P σ.length f j s K A) noE s

section
variable {n1 : Nat} {f1 : Nat → Nat} {target : Expr} {it : Nat} {items : Its} {P : Nat → Heap → Prop} {j : Nat} {f' : Nat → Nat} {σ' : St} {m' : Ms}
theorem Inv.step (S : Src prog w hb n1 f1 target it items fp P) (I : Inv prog w hb nm L n1 f1 fp P j f σ m s) (q : HStep fp s s') (hP : P (j + 1) s'.heap) : Inv prog w hb nm L n1 f1 fp P (j + 1) f σ m s' :=
  ⟨I.ag, At.hstep I.a I.H q, ⟨I.H.neL, I.H.neF, I.H.new, S.non _ _ hP⟩, hP⟩
theorem Inv.nxt (S : Src prog w hb n1 f1 target it items fp P) (I : Inv prog w hb nm L n1 f1 fp P j f σ m s) (x : Nxt prog w hb nm L σ.length f s σ' m' f' s') : Inv prog w hb nm L n1 f1 fp P j f' σ' m' s' :=
  ⟨⟨Nat.le_trans I.ag.1 x.d.le, fun i hi => (x.d.agree i (Nat.lt_of_lt_of_le hi I.ag.1)).trans (I.ag.2 i hi)⟩, x.a, I.H.adv x.d, S.stable j _ _ I.p x.d.imm fun b hm o e => x.d.keep b o e (I.H.neF b hm) (I.H.neL b hm)⟩

theorem for_ok {A : Around} {body : List Stmt} {G : GF} {B : SF} (S : Src prog w hb n1 f1 target it items fp P) (hg : SG prog w hb c d target G) (hbd : SB prog w hb c d body B) (rm : Room A d)
    {n0 : Nat} {f0 : Nat → Nat} {s0 : Shared} (hfp : ∀ b ∈ fp, s0.heap.objs.size ≤ b) {fuel : Nat} {PS : Fl → Ms → St → Kt} {Q : Flow → Shared → Prop} (dv : Adv L n0 f0 s0 σ.length f s) (I : Inv prog w hb c.nm L n1 f1 fp P 0 f σ m s) (h : Ho (loopG items G B fuel 0 m σ PS)) (kk : ConS prog w hb c.nm L n0 f0 s0 PS Q) :
    codeAny (model prog w) A (.forLoop target (.ref it) body [] (c.env L)) (fun r s' => ∃ fl, r = .ok fl ∧ Q fl s') s := by
  obtain ⟨R, hR⟩ : ∃ R : Nat → Shared → Prop, R = fun k s => ∃ j f σ m, Adv L n0 f0 s0 σ.length f s ∧ Inv prog w hb c.nm L n1 f1 fp P j f σ m s ∧ Ho (loopG items G B k j m σ PS) := ⟨_, rfl⟩
  have hin : ∀ {k s j f σ m}, Adv L n0 f0 s0 σ.length f s → Inv prog w hb c.nm L n1 f1 fp P j f σ m s → Ho (loopG items G B k j m σ PS) → R k s := fun a b c => hR ▸ ⟨_, _, _, _, a, b, c⟩
  refine codeAny_forLoop_any R ?_ fuel (hin dv I h)
  clear h I dv
  intro k s hk
  rw [hR] at hk
  obtain ⟨j, f, σ, m, dv, I, h⟩ := hk
  cases k with
  | zero => exact h.no
  | succ k =>
    refine wpAny_mono (S.next A c.nm L f σ m s j _ rm.1 I h) (fun r s1 q => ?_) fun _ _ e => e.elim
    rcases q with ⟨e, q, p⟩ | ⟨v, u, e, p, hgo⟩
    · rw [e]
      exact wpAny_execs_nil ⟨_, rfl, kk _ _ _ _ _ _ p ⟨dv.hstep hfp q, At.hstep I.a I.H q⟩ rfl⟩
    · rw [e]
      refine wpAny_mono hgo (fun _ s2 ⟨q, r1, hP2⟩ => ?_) fun _ _ e => e.elim
      have I := I.step S q hP2
      refine wpAny_mono (hg A L f σ m s2 v u _ _ rm I.a r1 p fun m1 σ1 f3 _ s3 p3 x3 => ?_) (fun _ _ q => q) fun _ _ e => e.elim
      have I := I.nxt S x3
      refine wpAny_mono (hbd A L f3 σ1 m1 s3 _ _ rm I.a p3 fun fl m2 σ2 f4 fl' s4 p4 x4 r4 => ?_) (fun _ _ q => q) fun _ _ e => e.elim
      have d5 := ((dv.hstep hfp q).trans x3.d).trans x4.d
      cases fl with
      | next =>
        rw [show fl' = .next from r4]
        exact ⟨k, Nat.lt_succ_self k, hin d5 (I.nxt S x4) p4⟩
      | ret rv =>
        obtain ⟨xv, e1, e2⟩ := r4
        rw [e1]
        exact ⟨_, rfl, kk _ _ _ _ _ _ p4 ⟨d5, x4.a⟩ ⟨xv, rfl, e2⟩⟩
end
end

noncomputable abbrev IF := Ms → St → (Its → St → Kt) → Kt
noncomputable def opt? : Ans → Option (Option V)
  | .v x => some (some x)
  | .d => some none
  | _ => none
noncomputable def NthL (σ : St) (i j : Nat) (o : Option V) : Prop := ∃ l, σ[i]? = some (.list l) ∧ l[j]? = o
noncomputable def itList (i : Nat) : Its := fun j σ k => ask opt? (NthL σ i j) k
noncomputable def itTup (l : List V) : Its := fun j _ k => k (nthN l j)
noncomputable def itRange (x step : Int) (n : Nat) : Its := fun j _ k => condP (Nat.blt j n) (k (some (.int (x + j * step)))) (k none)
noncomputable def itEnum (i : Nat) : Its := fun j σ k => ask opt? (NthL σ i j) fun o => match o with
  | some v => k (some (.tup [.int j, v]))
  | none => k none
noncomputable def iVal (e : EF) : IF := fun m σ k => e m σ fun v σ => match v with
  | .ref i => asr (IsLs σ i) (k (itList i) σ)
  | .tup l => k (itTup l) σ
  | _ => kF
noncomputable def iEnum (e : EF) : IF := fun m σ k => e m σ fun v σ => onRef v fun i => asr (IsLs σ i) (k (itEnum i) σ)
noncomputable def Sml (b : Int) : Prop := -1000000 < b ∧ b < 1000000
noncomputable def iRng1 (l : LF) : IF := fun m σ k => l m σ fun vs σ => on1 vs fun x => onInt x fun b => asr (Sml b) (k (itRange 0 1 b.toNat) σ)
noncomputable def iRng2 (l : LF) : IF := fun m σ k => l m σ fun vs σ => on2 vs fun x y => onInt x fun a => onInt y fun b => asr (Sml a ∧ Sml b) (k (itRange a 1 (b - a).toNat) σ)
noncomputable def iRngD (l : LF) : IF := fun m σ k => l m σ fun vs σ => match vs with
  | [] => kF
  | x :: vs => on2 vs fun y z => onInt x fun a => onInt y fun b => onInt z fun c => asr (c = -1 ∧ Sml a ∧ Sml b) (k (itRange a (-1) (a - b).toNat) σ)
noncomputable def sFor (i : IF) (g : GF) (b : SF) : SF := fun m σ P => i m σ fun it σ => loopK it g b m σ P

inductive Tgt : Expr → Prop
  | name {x : Str} {pos : Pos} : Tgt (.Name x pos)
  | tup {ts : List Expr} {k : Nat} {pos : Pos} : Tgt (.Tuple ts k pos)

structure Itr (prog : Program) (w : World) (hb : Base) (nm : List Str) (L n : Nat) (f : Nat → Nat) (s : Shared) (t : Expr) (m : Ms) (items : Its) (σ' : St) (f' : Nat → Nat) (s2 : Shared) (a : Nat) (fp : List Nat) (P : Nat → Heap → Prop) : Prop where
  src : Src prog w hb σ'.length f' t a items fp P
  low : ∀ b ∈ fp, s.heap.objs.size ≤ b
  d : Adv L n f s σ'.length f' s2
  i : Inv prog w hb nm L σ'.length f' fp P 0 f' σ' m s2
section
variable (prog : Program) (w : World) (hb : Base) (c : Fx)
noncomputable def SI (d : Nat) (target iter : Expr) (I : IF) : Prop := ∀ A L f σ m s PI Q, Room A d → At prog w hb c.nm L f σ m s.heap → Ho (I m σ PI) →
  (∀ items σ' f' s2 a fp P, Ho (PI items σ') → Itr prog w hb c.nm L σ.length f s target m items σ' f' s2 a fp P → Q (.ref a) s2) → wpAny (model prog w) A (eval iter (c.env L)) (fun x s1 => wpAny (model prog w) A (pyIter x) Q noE s1) noE s
end

theorem notImm_of {o : Obj} {n : String} (h : o.cls = .type n) (h1 : n ≠ "tuple") (h2 : n ≠ "method") : ¬ isImm o := by
  rintro (⟨_, _, e⟩ | ⟨_, _, e⟩) <;> (rw [e] at h; cases h; contradiction)

section
variable {prog : Program} {w : World} {hb : Base} {c : Fx} {d : Nat} {nm : List Str} {L : Nat} {f f' : Nat → Nat} {σ σ' : St} {m : Ms} {s s' : Shared} {K : Frag} {mg mb : Str → Option Value} {A : Around}

theorem letGo_obj {t : Expr} {I : Addr} {o : Obj} {n : String} {v : Value} {Q : Unit → Shared → Prop} (ht : Tgt t) (ho : s.heap.get? I = some o) (hc : o.cls = .type n)
    (hn : ["enumerate", "zip", "dict_itemiterator", "dict_reverseitemiterator", "odict_iterator", "itertools.zip_longest", "itertools.pairwise"].contains n = false) (hQ : Q () s) : wpAny (model prog w) A (letOwnedTupleGo t (.ref I) v) Q noE s := by
  cases ht with
  | name => exact wpAny_pure hQ
  | tup =>
    cases v with
    | ref a =>
      unfold letOwnedTupleGo
      refine wpAny_bind (wpAny_load ho ?_)
      rw [hc]
      split
      · rename_i e _
        cases e
        rw [hn, Bool.false_and, if_neg (by decide)]
        exact wpAny_pure hQ
      · exact wpAny_pure hQ
    | _ => exact wpAny_pure hQ

theorem HStep.one {I : Nat} {h' : Heap} (hs : Heap.SameBut I s.heap h') (t : Nat) : HStep [I] s { s with heap := h', toks := t } :=
  ⟨fun b o hm e => (hs.2 b (fun q => hm (by rw [q]; exact .head _))).trans e, Nat.le_of_eq hs.1.symm, rfl, rfl⟩

section
variable {t : Expr} {it I n j : Nat} {fp : List Nat} {P : Nat → Heap → Prop} {k : Option V → Kt}
theorem src_stop (hI : I ∈ fp) (p : Ho (k none)) (h : ∀ Q : Option Value → Shared → Prop, (∀ h', Heap.ExtBut I s.heap h' → Q none { s with heap := h' }) → wpAny (model prog w) A (pyNext (.ref it)) Q noE s) :
    wpAny (model prog w) A (pyNext (.ref it)) (SrcQ prog w t it fp P n f j s k A) noE s :=
  wpAny_mono (sized (h (fun r s1 => r = none ∧ ∃ h', s1 = { s with heap := h' } ∧ Heap.ExtBut I s.heap h') fun h' hx => ⟨rfl, h', rfl, hx⟩)) (fun r s1 ⟨⟨e1, h', e2, hx⟩, hz⟩ => by
    subst e2; exact .inl ⟨e1, ⟨fun b o hm e => hx b o (fun q => hm (q ▸ hI)) e, hz, rfl, rfl⟩, p⟩) fun _ _ e => e
theorem src_item {v : V} {u : Value} {o : Obj} {ty : String} {h' : Heap} {tk : Nat} (ht : Tgt t) (p : Ho (k (some v))) (ho : h'.get? I = some o) (hc : o.cls = .type ty)
    (hn : ["enumerate", "zip", "dict_itemiterator", "dict_reverseitemiterator", "odict_iterator", "itertools.zip_longest", "itertools.pairwise"].contains ty = false) (hs : Heap.SameBut I s.heap h') (hr : RV n h' f v u) (hP : P (j + 1) h') :
    SrcQ prog w t I [I] P n f j s k A (some u) { s with heap := h', toks := tk } :=
  .inr ⟨v, u, rfl, p, letGo_obj (s := { s with heap := h', toks := tk }) ht ho hc hn ⟨HStep.one hs tk, hr, hP⟩⟩
theorem non_one {h : Heap} {o : Obj} {ty : String} (ho : h.get? I = some o) (hc : o.cls = .type ty) (h1 : ty ≠ "tuple") (h2 : ty ≠ "method") : ∀ b ∈ [I], ∃ o, h.get? b = some o ∧ ¬ isImm o := fun b hm => by
  rw [List.mem_singleton.mp hm]; exact ⟨o, ho, notImm_of hc h1 h2⟩
end

theorem src_list {i I n1 : Nat} {f1 : Nat → Nat} {t : Expr} (ht : Tgt t) (hi : i < n1) : Src prog w hb n1 f1 t I (itList i) [I] (fun j h => h.IsListIter I (f1 i) j) where
  non j h p := let ⟨o, ho, hc, _⟩ := p; non_one ho hc (by decide) (by decide)
  self A s j p := wpAny_pyIter_listiter p ⟨rfl, rfl⟩
  stable j h h' p _ k := let ⟨o, ho, r⟩ := p; ⟨o, k I (.head _) o ho, r⟩
  next A nm L f σ m s j k hh Iv e := by
    obtain ⟨o, ⟨l, e1, e2⟩, h⟩ := Ho.ask e
    obtain ⟨vs, q, g1, g2⟩ := At.list Iv.a e1
    rw [Iv.ag.2 i hi] at g1
    cases o with
    | none =>
      have hl := g2.length
      rw [Array.length_toList] at hl
      exact src_stop (.head _) h fun Q hq => wpAny_pyNext_list_end hh Iv.p ⟨_, g1, rfl, _, rfl⟩ (by have := List.getElem?_eq_none_iff.mp e2; rw [Array.getElem?_eq_none_iff]; lia) hq
    | some v =>
      obtain ⟨u, q1, q2⟩ := g2.get e2
      refine wpAny_pyNext_list_item Iv.p ⟨_, g1, rfl, _, rfl⟩ (by rw [Array.getElem?_toList] at q1; exact q1) fun h' hit hs => ?_
      obtain ⟨o, ho, hc, hd⟩ := id hit
      exact src_item ht h ho hc (by decide) hs (q2.mono ((HStep.one hs s.toks).imm Iv.H) (Nat.le_refl _) fun _ _ => rfl) hit

theorem src_tup {I t n1 k : Nat} {f1 : Nat → Nat} {tg : Expr} {l : List V} {vs : Array Value} (ht : Tgt tg) : Src prog w hb n1 f1 tg I (itTup l) [I] (fun j h => IsTupIter h I t j ∧ h.get? t = some (tupO vs k) ∧ RVs n1 h f1 l vs.toList) where
  non j h p := let ⟨⟨o, ho, hc, _⟩, _⟩ := p; non_one ho hc (by decide) (by decide)
  self A s j p := let ⟨⟨o, ho, hc, hd⟩, _⟩ := p; wpAny_pyIter_tupleiter ⟨o, ho, hc, hd⟩ ⟨rfl, rfl⟩
  stable j h h' p im k := let ⟨⟨o, ho, r⟩, p2, p3⟩ := p; ⟨⟨o, k I (.head _) o ho, r⟩, im _ _ p2 (.inl ⟨_, _, rfl⟩), p3.mono im (Nat.le_refl _) fun _ _ => rfl⟩
  next A nm L f σ m s j k hh Iv e := by
    obtain ⟨p1, p2, p3⟩ := Iv.p
    have e : Ho (k (nthN l j)) := e
    rw [nthN_eq] at e
    cases e2 : l[j]? with
    | none =>
      rw [e2] at e
      have hl := p3.length
      rw [Array.length_toList] at hl
      exact src_stop (.head _) e fun Q hq => next_tuple_end hh p1 ⟨_, p2, rfl, _, rfl⟩ (by have := List.getElem?_eq_none_iff.mp e2; rw [Array.getElem?_eq_none_iff]; lia) hq
    | some v =>
      rw [e2] at e
      obtain ⟨u, q1, q2⟩ := p3.get e2
      refine next_tuple_item p1 ⟨_, p2, rfl, _, rfl⟩ (by rw [Array.getElem?_toList] at q1; exact q1) fun h' hit hs => ?_
      obtain ⟨o, ho, hc, hd⟩ := id hit
      have im := (HStep.one hs s.toks).imm Iv.H
      exact src_item ht e ho hc (by decide) hs (q2.mono im Iv.ag.1 Iv.ag.2) ⟨hit, im _ _ p2 (.inl ⟨_, _, rfl⟩), p3.mono im (Nat.le_refl _) fun _ _ => rfl⟩

theorem src_range {I n1 n : Nat} {f1 : Nat → Nat} {tg : Expr} {x step : Int} (ht : Tgt tg) : Src prog w hb n1 f1 tg I (itRange x step n) [I] (fun j h => IsRangeIter h I (x + j * step) (n - j) step) where
  non j h p := non_one p rfl (by decide) (by decide)
  self A s j p := wpAny_pyIter_rangeiter p ⟨rfl, rfl⟩
  stable j h h' p im k := k I (.head _) _ p
  next A nm L f σ m s j k hh Iv e := by
    have e := Ho.sel e
    cases e2 : Nat.blt j n with
    | false =>
      rw [e2] at e
      have hj : ¬ j < n := fun q => by rw [show Nat.blt j n = true from Nat.ble_eq_true_of_le q] at e2; cases e2
      exact src_stop (.head _) e fun Q hq => wpAny_pyNext_range_end hh Iv.p (by lia) hq
    | true =>
      rw [e2] at e
      have hj : j < n := Nat.le_of_ble_eq_true e2
      refine wpAny_pyNext_range_item Iv.p (by lia) fun h' hit hs => src_item ht e hit rfl (by decide) hs ⟨_, rfl⟩ ?_
      have e1 : x + (j : Int) * step + step = x + ((j + 1 : Nat) : Int) * step := by rw [Int.natCast_add, Int.add_mul]; simp; lia
      have e2 : (n : Int) - (j : Int) - 1 = (n : Int) - ((j + 1 : Nat) : Int) := by lia
      rw [e1, e2] at hit
      exact hit

theorem src_enum {i I E n1 : Nat} {f1 : Nat → Nat} {ts : List Expr} {k : Nat} {pos : Pos} (hi : i < n1) (hne : E ≠ I) : Src prog w hb n1 f1 (.Tuple ts k pos) E (itEnum i) [E, I] (fun j h => (∃ old, IsEnum h E I j old) ∧ h.IsListIter I (f1 i) j) where
  non j h p b hm := by
    obtain ⟨⟨old, p1⟩, o, ho, hc, _⟩ := p
    rcases List.mem_cons.mp hm with rfl | hm
    · exact ⟨_, p1, notImm_of rfl (by decide) (by decide)⟩
    · exact non_one ho hc (by decide) (by decide) b hm
  self A s j p := let ⟨⟨old, p1⟩, _⟩ := p; wpAny_pyIter_enum p1 ⟨rfl, rfl⟩
  stable j h h' p _ k := let ⟨⟨old, p1⟩, o, ho, r⟩ := p; ⟨⟨old, k _ (.head _) _ p1⟩, o, k _ (.tail _ (.head _)) o ho, r⟩
  next A nm L f σ m s j kk hh Iv e := by
    obtain ⟨o, ⟨l, e1, e2⟩, h⟩ := Ho.ask e
    obtain ⟨⟨old, p1⟩, p2⟩ := Iv.p
    obtain ⟨vs, q, g1, g2⟩ := At.list Iv.a e1
    rw [Iv.ag.2 i hi] at g1
    cases o with
    | none =>
      have hl := g2.length
      rw [Array.length_toList] at hl
      exact src_stop (.tail _ (.head _)) h fun Q hq => wpAny_pyNext_enum_end hh p1 p2 ⟨_, g1, rfl, _, rfl⟩ (by have := List.getElem?_eq_none_iff.mp e2; rw [Array.getElem?_eq_none_iff]; lia) hq
    | some v =>
      obtain ⟨u, q1, q2⟩ := g2.get e2
      refine wpAny_pyNext_enum_item p1 p2 ⟨_, g1, rfl, _, rfl⟩ (by rw [Array.getElem?_toList] at q1; exact q1) hne fun h1 heo hit ht hz hk => .inr ⟨.tup [.int j, v], _, rfl, h, ?_⟩
      refine wpAny_letOwnedTupleGo_enum heo fun h2 he hs => ?_
      have hEz : E < s.heap.objs.size := Heap.lt_size p1
      have st : HStep [E, I] s { s with heap := h2, toks := s.toks + 1 } := by
        refine ⟨fun b o hm e => ?_, ?_, rfl, rfl⟩
        · have n1 : b ≠ E := fun q => hm (by rw [q]; exact .head _)
          have n2 : b ≠ I := fun q => hm (by rw [q]; exact .tail _ (.head _))
          exact (hs.2 b n1).trans (hk b o n1 n2 e)
        · show s.heap.objs.size ≤ h2.objs.size
          have : h2.objs.size = h1.objs.size := hs.1
          lia
      refine ⟨st, ⟨_, _, _, rfl, (hs.2 _ (Nat.ne_of_gt hEz)).trans ht, _, _, rfl, ⟨_, rfl⟩, _, _, rfl, q2.mono (st.imm Iv.H) (Nat.le_refl _) fun _ _ => rfl, rfl⟩, ⟨u, ?_⟩, ?_⟩
      · rw [show (((j + 1 : Nat)) : Int) = (j : Int) + 1 by lia]; exact he
      · obtain ⟨o, ho, r⟩ := hit
        exact ⟨o, (hs.2 _ (Ne.symm hne)).trans ho, r⟩

theorem hid_new {s1 : Shared} {fp : List Nat} {h : Heap} (a : At prog w hb nm L f σ m s1.heap) (hf : ∀ b ∈ fp, s1.heap.objs.size ≤ b) (hn : ∀ b ∈ fp, ∃ o, h.get? b = some o ∧ ¬ isImm o) : Hid hb fp L σ.length f h := by
  have hL := a.Llt
  exact ⟨fun b hm => (by have := hf b hm; lia), fun b hm i hi => (by have := hf b hm; have := a.flt hi; lia), fun b hm => a.above (hf b hm), hn⟩
theorem itr_new {t : Expr} {items : Its} {n : Nat} {f0 : Nat → Nat} {s1 s2 : Shared} {a : Nat} {fp : List Nat} {P : Nat → Heap → Prop} (S : Src prog w hb σ.length f t a items fp P) (x : Nxt prog w hb nm L n f0 s σ m f s1) (hf : ∀ b ∈ fp, s1.heap.objs.size ≤ b)
    (k : ∀ b o, s1.heap.get? b = some o → s2.heap.get? b = some o) (hz : s1.heap.objs.size ≤ s2.heap.objs.size) (ho : s2.os = s1.os) (hg : s2.gens = s1.gens) (hP : P 0 s2.heap) : Itr prog w hb nm L n f0 s t m items σ f s2 a fp P :=
  ⟨S, fun b hm => Nat.le_trans x.d.size (hf b hm), x.d.trans (.of_grow k hz ho hg), ⟨Nat.le_refl _, fun _ _ => rfl⟩, x.a.grow k, hid_new x.a hf (S.non 0 _ hP), hP⟩
theorem low_one {n : Nat} : ∀ b ∈ [n], n ≤ b := fun b hm => by rw [List.mem_singleton.mp hm]; exact Nat.le_refl _

theorem si_val {target iter : Expr} {F : EF} (ht : Tgt target) (he : SE prog w hb c d iter F) : SI prog w hb c d target iter (iVal F) := fun A L f σ m s PI Q rm a h kk => he A L f σ m s _ _ rm a h fun v σ1 f1 u s1 p1 x1 r1 => by
  cases v with
  | ref i =>
    obtain ⟨hi, rfl⟩ := r1
    obtain ⟨⟨l, e1⟩, p⟩ := Ho.asr p1
    obtain ⟨vs, q, g1, g2⟩ := At.list x1.a e1
    exact wpAny_pyIter_list (items := vs) ⟨_, g1, rfl, _, rfl⟩ (kk _ _ _ _ _ _ _ p (itr_new (s2 := { s1 with heap := s1.heap.push { cls := .type "list_iterator", data := .fields #[.ref (f1 i), .int 0 0] } }) (src_list ht hi) x1 low_one (fun b o e => Heap.get?_push_of_some _ e) (by simp) rfl rfl ⟨_, Heap.get?_push_size _ rfl, rfl, rfl⟩))
  | tup l =>
    obtain ⟨t, vs, k', rfl, g1, g2⟩ := r1
    have k : ∀ b o, s1.heap.get? b = some o → (s1.heap.push { cls := .type "tuple_iterator", data := .fields #[.ref t, .int 0 0] }).get? b = some o := fun b o e => Heap.get?_push_of_some _ e
    exact iter_tuple ⟨_, g1, rfl, _, rfl⟩ (kk _ _ _ _ _ _ _ p1 (itr_new (s2 := { s1 with heap := s1.heap.push { cls := .type "tuple_iterator", data := .fields #[.ref t, .int 0 0] } }) (src_tup (t := t) (k := k') (vs := vs) ht) x1 low_one k (by simp) rfl rfl ⟨⟨_, Heap.get?_push_size _ rfl, rfl, rfl⟩, k _ _ g1, g2.mono (.of_keeps k) (Nat.le_refl _) fun _ _ => rfl⟩))
  | _ => exact p1.no

theorem call_type_ (W : Wd hb K mg mb) {x : Str} {np pos : Pos} {id : String} {es : List Expr} {G : LF} (ok : c.Ok) (hx : c.sc.names.lookup x = some .globalImplicit) (e : nsIn K mainGlobals x = some none) (hu : bootBuiltins x = some (.type id)) (hn : x ≠ "__name__")
    (hp : Plain es) (hl : SL prog w hb c d es G) {P : List V → St → Kt} {Q : Value → Shared → Prop} (rm : Room A d) (a : At prog w hb c.nm L f σ m s.heap) (h : Ho (G m σ P))
    (hB : Con prog w hb c.nm L bVs σ.length f s m P fun us s1 => wpAny (model prog w) A (call (.type id) us) Q noE s1)
    (hd : (x == ("__debug__" : Str)) = false := by decide) : wpAny (model prog w) A (eval (.Call (.Name x np) es [] pos) (c.env L)) Q noE s :=
  Call_e (bltin_ W ok hx e hu hn a (callWith_of (P := fun _ => True) (notStar hp _ _) (keeps_type id) (args_ hp hl rm a h fun v σ' f' us s1 p x r => ⟨trivial, hB v σ' f' us s1 p x r⟩)) hd) rfl

theorem si_enum (W : Wd hb K mg mb) {ts : List Expr} {k : Nat} {tpos np pos : Pos} {e : Expr} {F : EF} (ok : c.Ok) (hx : c.sc.names.lookup (Str.ofString "enumerate") = some .globalImplicit) (hg : nsIn K mainGlobals (Str.ofString "enumerate") = some none) (hu : bootBuiltins (Str.ofString "enumerate") = some (.type "enumerate"))
    (hp : Plain [e]) (he : SL prog w hb c d [e] (lCons F lNil)) : SI prog w hb c d (.Tuple ts k tpos) (.Call (.Name (Str.ofString "enumerate") np) [e] [] pos) (iEnum F) := fun A L f σ m s PI Q rm a h kk =>
  call_type_ W ok hx hg hu (by decide) hp he (P := fun vs σ => on1 vs fun v => onRef v fun i => asr (IsLs σ i) (PI (itEnum i) σ)) rm a h (fun v σ1 f1 us s1 p1 x1 r1 => by
    obtain ⟨v, rfl, p1⟩ := on1_ok p1
    obtain ⟨u, rfl, r⟩ := RVs.one_inv r1
    obtain ⟨i, rfl, p1⟩ := onRef_ok p1
    obtain ⟨hi, rfl⟩ := r
    obtain ⟨⟨l, e1⟩, p⟩ := Ho.asr p1
    obtain ⟨vs, q, g1, g2⟩ := At.list x1.a e1
    refine call_enumerate_list ⟨_, g1, rfl, _, rfl⟩ fun h' he hit hz kk' => wpAny_pyIter_enum he (kk _ _ _ _ _ [s1.heap.objs.size + 1, s1.heap.objs.size] _ p (itr_new (src_enum hi (by lia)) x1 (fun b hm => ?_) kk' (by show s1.heap.objs.size ≤ h'.objs.size; lia) rfl rfl ⟨⟨_, he⟩, hit⟩))
    rcases List.mem_cons.mp hm with rfl | hm
    · lia
    · exact low_one b hm) (by decide)

theorem small_dn {a b : Int} (ha : Sml a) (hb : Sml b) : Builtin.Range.small a b (-1) = true :=
  small_down (Int.le_trans (by decide) (Int.le_of_lt ha.1)) (Int.lt_trans ha.2 (by decide)) (Int.le_trans (by decide) (Int.le_of_lt hb.1)) (Int.lt_trans hb.2 (by decide))

theorem range_end {target : Expr} {s1 : Shared} {f1 : Nat → Nat} {x b step : Int} {t u v : Tok} {n : Nat} {tk : Nat} {PI : Its → St → Kt} {Q : Value → Shared → Prop} (ht : Tgt target) (x1 : Nxt prog w hb c.nm L σ.length f s σ' m f1 s1) (hn : Builtin.Range.rangeSize x b step = n) (hs : Builtin.Range.small x b step = true)
    (p : Ho (PI (itRange x step n) σ')) (kk : ∀ items σ' f' s2 a fp P, Ho (PI items σ') → Itr prog w hb c.nm L σ.length f s target m items σ' f' s2 a fp P → Q (.ref a) s2) :
    wpAny (model prog w) A (pyIter (.ref s1.heap.objs.size)) Q noE { s1 with heap := s1.heap.push { cls := .type "range", data := .fields #[.int x t, .int b u, .int step v] }, toks := tk } := by
  refine wpAny_pyIter_range (IsRange.new _ _ _ _ _ _ _) hs ?_
  have x2 : Nxt prog w hb c.nm L σ.length f s σ' m f1 { s1 with heap := s1.heap.push { cls := .type "range", data := .fields #[.int x t, .int b u, .int step v] }, toks := tk } := x1.trans (.grow x1.a (fun y o e => Heap.get?_push_of_some _ e) (by simp) rfl rfl)
  rw [hn]
  generalize s1.heap.push { cls := .type "range", data := .fields #[.int x t, .int b u, .int step v] } = h2 at *
  refine kk _ _ _ _ _ _ _ p (itr_new (src_range ht) x2 low_one (fun y o e => Heap.get?_push_of_some _ e) (by simp) rfl rfl ?_)
  have := Heap.get?_push_size h2 (o := { cls := .type "range_iterator", data := .fields #[rawInt x, rawInt n, rawInt step] }) rfl
  show Heap.get? _ _ = _
  simpa using this

theorem rangeSize_toNat (a b : Int) : Builtin.Range.rangeSize a b 1 = (b - a).toNat := by
  rw [rangeSize_one]; split <;> lia
theorem sml_62 {a : Int} (h : Sml a) : -(2 ^ 62) ≤ a ∧ a < 2 ^ 62 := by obtain ⟨h1, h2⟩ := h; lia
theorem si_rng1 (W : Wd hb K mg mb) {x : Str} {tpos np pos : Pos} {es : List Expr} {G : LF} (ok : c.Ok) (hx : c.sc.names.lookup (Str.ofString "range") = some .globalImplicit) (hg : nsIn K mainGlobals (Str.ofString "range") = some none) (hu : bootBuiltins (Str.ofString "range") = some (.type "range"))
    (hp : Plain es) (he : SL prog w hb c d es G) : SI prog w hb c d (.Name x tpos) (.Call (.Name (Str.ofString "range") np) es [] pos) (iRng1 G) := fun A L f σ m s PI Q rm a h kk =>
  call_type_ W ok hx hg hu (by decide) hp he rm a h (fun v σ1 f1 us s1 p1 x1 r1 => by
    obtain ⟨v, rfl, p1⟩ := on1_ok p1
    obtain ⟨u, rfl, r⟩ := RVs.one_inv r1
    obtain ⟨b, rfl, p1⟩ := onInt_ok p1
    obtain ⟨t, rfl⟩ := r
    obtain ⟨hb, p⟩ := Ho.asr p1
    have h0 := sml_62 (a := 0) ⟨by decide, by decide⟩
    exact call_range_1 (range_end .name x1 (by rw [rangeSize_toNat, Int.sub_zero]) (small_one h0.1 h0.2 (sml_62 hb).1 (sml_62 hb).2) p kk)) (by decide)
theorem si_rng2 (W : Wd hb K mg mb) {x : Str} {tpos np pos : Pos} {es : List Expr} {G : LF} (ok : c.Ok) (hx : c.sc.names.lookup (Str.ofString "range") = some .globalImplicit) (hg : nsIn K mainGlobals (Str.ofString "range") = some none) (hu : bootBuiltins (Str.ofString "range") = some (.type "range"))
    (hp : Plain es) (he : SL prog w hb c d es G) : SI prog w hb c d (.Name x tpos) (.Call (.Name (Str.ofString "range") np) es [] pos) (iRng2 G) := fun A L f σ m s PI Q rm a h kk =>
  call_type_ W ok hx hg hu (by decide) hp he rm a h (fun v σ1 f1 us s1 p1 x1 r1 => by
    obtain ⟨v, y, rfl, p1⟩ := on2_ok p1
    obtain ⟨u, z, rfl, r, r'⟩ := RVs.two_inv r1
    obtain ⟨a', rfl, p1⟩ := onInt_ok p1
    obtain ⟨b, rfl, p1⟩ := onInt_ok p1
    obtain ⟨t, rfl⟩ := r; obtain ⟨t', rfl⟩ := r'
    obtain ⟨⟨ha, hb⟩, p⟩ := Ho.asr p1
    exact call_range_2 (range_end .name x1 (rangeSize_toNat ..) (small_one (sml_62 ha).1 (sml_62 ha).2 (sml_62 hb).1 (sml_62 hb).2) p kk)) (by decide)
theorem si_rngD (W : Wd hb K mg mb) {x : Str} {tpos np pos : Pos} {es : List Expr} {G : LF} (ok : c.Ok) (hx : c.sc.names.lookup (Str.ofString "range") = some .globalImplicit) (hg : nsIn K mainGlobals (Str.ofString "range") = some none) (hu : bootBuiltins (Str.ofString "range") = some (.type "range"))
    (hp : Plain es) (he : SL prog w hb c d es G) : SI prog w hb c d (.Name x tpos) (.Call (.Name (Str.ofString "range") np) es [] pos) (iRngD G) := fun A L f σ m s PI Q rm a h kk =>
  call_type_ W ok hx hg hu (by decide) hp he rm a h (fun v σ1 f1 us s1 p1 x1 r1 => by
    cases v with
    | nil => exact p1.no
    | cons v vs =>
      obtain ⟨u0, us', rfl, r0, r1⟩ := r1
      obtain ⟨y, y', rfl, p1⟩ := on2_ok p1
      obtain ⟨u, z, rfl, r, r'⟩ := RVs.two_inv r1
      obtain ⟨a', rfl, p1⟩ := onInt_ok p1
      obtain ⟨b, rfl, p1⟩ := onInt_ok p1
      obtain ⟨c', rfl, p1⟩ := onInt_ok p1
      obtain ⟨⟨rfl, ha, hb⟩, p⟩ := Ho.asr p1
      obtain ⟨t0, rfl⟩ := r0; obtain ⟨t, rfl⟩ := r; obtain ⟨t', rfl⟩ := r'
      exact call_range_3 (by decide) (range_end .name x1 (rangeSize_downNat ..) (small_dn ha hb) p kk) (Or.inl (PyProof.noPylong_small (by obtain ⟨h1, h2⟩ := ha; obtain ⟨h3, h4⟩ := hb; lia)))) (by decide)

theorem ss_for {target iter : Expr} {body : List Stmt} {pos : Pos} {I : IF} {G : GF} {B : SF} (hi : SI prog w hb c d target iter I) (hg : SG prog w hb c d target G) (hbd : SB prog w hb c d body B)
    (hs : ∀ L x, foldedSetIterable iter (c.env L) x = pure x) : SS prog w hb c d (.For target iter body [] pos) (sFor I G B) := fun A L f σ m s P Q rm a h kk =>
  wpAny_For (hi A L f σ m s _ _ rm a h fun items σ1 f1 s1 a' fp Pr p x => let ⟨n, p⟩ := Ho.loop p; codeAny_mono (for_ok x.src hg hbd rm x.low x.d x.i p kk) fun r s3 ⟨fl, e, q⟩ => by rw [e]; exact q) (hs L)
end

noncomputable def whileG (t : TF) (b : SF) : Nat → Ms → St → (Fl → Ms → St → Kt) → Kt
  | 0, _, _, _ => kF
  | n + 1, m, σ, P => t m σ fun r σ => condP r (b m σ fun x m σ => match x with
      | .next => whileG t b n m σ P
      | .ret r => P (.ret r) m σ) (P .next m σ)
noncomputable def Lw (t : TF) (b : SF) (m : Ms) (σ : St) (x : Fl) (m' : Ms) (σ' : St) : Prop := ∀ P, Ho (P x m' σ') → ∃ n, Ho (whileG t b n m σ P)
noncomputable def sWhile (t : TF) (b : SF) : SF := fun m σ P os => match os with
  | [] => False
  | a :: os => match a with
    | .f x m' σ' => Lw t b m σ x m' σ' ∧ P x m' σ' os
    | .n k => whileG t b k m σ P os
    | _ => False
theorem Ho.while {t : TF} {b : SF} {m : Ms} {σ : St} {P : Fl → Ms → St → Kt} (h : Ho (sWhile t b m σ P)) : ∃ n, Ho (whileG t b n m σ P) := by
  obtain ⟨os, h⟩ := h
  cases os with
  | nil => exact h.elim
  | cons a os => cases a with
    | f x m' σ' => exact h.1 P ⟨os, h.2⟩
    | n k => exact ⟨k, _, h⟩
    | _ => exact h.elim
noncomputable def eDict0 : EF := fun _ σ P => P (.ref σ.length) (σ ++ [.dictI []])
noncomputable def eDict1 (x : String) (n : Int) : EF := fun _ σ P => P (.ref σ.length) (σ ++ [.dictS [(x, .int n)]])
noncomputable def sNo : SF := fun _ _ _ => kF
noncomputable def eNo : EF := fun _ _ _ => kF

section
variable {prog : Program} {w : World} {hb : Base} {c : Fx} {d : Nat}

theorem ss_no {st : Stmt} : SS prog w hb c d st sNo := fun A L f σ m s P Q rm a h k => h.no
theorem sb_no {st : List Stmt} : SB prog w hb c d st sNo := fun A L f σ m s P Q rm a h k => h.no
theorem se_no {e : Expr} : SE prog w hb c d e eNo := fun A L f σ m s P Q rm a h k => h.no

theorem ss_while {test : Expr} {body : List Stmt} {pos : Pos} {T : TF} {B : SF} (ht : ST prog w hb c d test T) (hbd : SB prog w hb c d body B) : SS prog w hb c d (.While test body [] pos) (sWhile T B) := fun A L f σ m s P Q rm a h kk => by
  obtain ⟨fuel, h⟩ := h.while
  obtain ⟨R, hR⟩ : ∃ R : Nat → Shared → Prop, R = fun k s1 => ∃ f1 σ1 m1, Nxt prog w hb c.nm L σ.length f s σ1 m1 f1 s1 ∧ Ho (whileG T B k m1 σ1 P) := ⟨_, rfl⟩
  refine wpAny_While (codeAny_mono (codeAny_whileLoop R (R := fun r s1 => ∃ fl, r = .ok fl ∧ Q fl s1) ?_ fuel (hR ▸ ⟨f, σ, m, .refl a, h⟩)) ?_)
  · intro k s1 hk
    rw [hR] at hk
    obtain ⟨f1, σ1, m1, x1, h1⟩ := hk
    cases k with
    | zero => exact h1.no
    | succ k =>
      refine wpAny_mono (ht A L f1 σ1 m1 s1 _ _ rm x1.a h1 fun b σ2 f2 b' s2 p2 x2 r2 => ?_) (fun _ _ q => q) fun _ _ e => e.elim
      rw [show b' = b from r2]
      have p2 := p2.sel
      cases b with
      | false => exact wpAny_execs_nil ⟨_, rfl, kk _ _ _ _ _ _ p2 (x1.trans x2) rfl⟩
      | true =>
        refine wpAny_mono (hbd A L f2 σ2 m1 s2 _ _ rm x2.a p2 fun fl m3 σ3 f3 fl' s3 p3 x3 r3 => ?_) (fun _ _ q => q) fun _ _ e => e.elim
        cases fl with
        | next =>
          rw [show fl' = .next from r3]
          exact ⟨k, Nat.lt_succ_self k, hR ▸ ⟨f3, σ3, m3, (x1.trans x2).trans x3, p3⟩⟩
        | ret rv =>
          obtain ⟨xv, e1, e2⟩ := r3
          rw [e1]
          exact ⟨_, rfl, kk _ _ _ _ _ _ p3 ((x1.trans x2).trans x3) ⟨xv, rfl, e2⟩⟩
  · rintro r s1 ⟨fl, rfl, p⟩
    exact p

theorem se_dict0 {pos : Pos} : SE prog w hb c d (.Dict [] [] pos) eDict0 := fun A L f σ m s P Q rm a h kk => by
  refine wpAny_Dict_empty ?_
  have k : ∀ b o, s.heap.get? b = some o → (s.heap.push { cls := .type "dict", data := .dict #[] }).get? b = some o := fun b o e => Heap.get?_push_of_some _ e
  obtain ⟨o, ho, hd⟩ := Heap.dictOf_iff.mp (Heap.DictOf.new (knd := intKind prog w) s.heap)
  exact kk _ _ _ _ _ h (.alloc (b := s.heap.objs.size) a k (by simp) (Nat.le_refl _) ho ⟨[], hd, rfl⟩ rfl rfl) ⟨by simp, by rw [newF_eq]⟩

theorem se_dict1 {pos p1 p2 : Pos} {k1 k2 : Nat} {x : String} {n : Int} : SE prog w hb c d (.Dict [some (.Constant (.str (Str.ofString x)) k1 p1)] [.Constant (.int n) k2 p2] pos) (eDict1 x n) := fun A L f σ m s P Q rm a h kk => by
  refine wpAny_Dict_walk (knd := strKind prog w) rfl rfl (by simp) (by simp) ?_
  refine pairTrees_cons_walk (wpAny_Constant_str (wpAny_Constant_int (evalPairs_nil ?_)))
  refine ⟨[(Str.ofString x, _)], ⟨strKind_is prog w _ _, rfl, trivial⟩, Heap.DictOf.new s.heap, fun h' hd hs => ?_⟩
  have k : ∀ b o, s.heap.get? b = some o → h'.get? b = some o := fun b o e => (hs.2 b (Nat.ne_of_lt (Heap.lt_size e))).trans (Heap.get?_push_of_some _ e)
  obtain ⟨o, ho, hd⟩ := Heap.dictOf_iff.mp hd
  have hz : s.heap.objs.size ≤ h'.objs.size := by have := hs.1; simp at this; lia
  exact kk _ _ _ _ _ h (.alloc (b := s.heap.objs.size) a k hz (Nat.le_refl _) ho ⟨_, hd, _, _, rfl, ⟨_, rfl⟩, rfl⟩ rfl rfl) ⟨by simp, by rw [newF_eq]⟩
end

noncomputable def freedO : Obj := ⟨.none, none, .freed, #[]⟩
noncomputable def _root_.Mine.Base.plus (hb : Base) (h : Heap) (bs : List Nat) (n : Nat) (f : Nat → Nat) : Base where
  h := { objs := h.objs.mapIdx fun i o => if (hb.h.get? i).isSome || bs.contains i then o else freedO }
  n0 := n
  f0 := f

theorem mapIdx_get {objs : Array Obj} {p : Nat → Bool} {a : Nat} : Heap.get? { objs := objs.mapIdx fun i o => if p i then o else freedO } a = if p a then Heap.get? { objs := objs } a else none := by
  unfold Heap.get?
  simp only [Array.getElem?_mapIdx]
  cases e : objs[a]? with
  | none => simp
  | some o =>
    simp only [Option.map_some]
    by_cases q : p a = true
    · rw [if_pos q, if_pos q]
    · rw [if_neg q, if_neg q]
      rfl
theorem plus_get {hb : Base} {h : Heap} {bs : List Nat} {n : Nat} {f : Nat → Nat} {a : Nat} : (hb.plus h bs n f).h.get? a = if (hb.h.get? a).isSome || bs.contains a then h.get? a else none := mapIdx_get (p := fun i => (hb.h.get? i).isSome || bs.contains i)

section
variable {prog : Program} {w : World} {hb : Base} {c : Fx} {d : Nat} {nm nm' : List Str} {L C : Nat} {f f' : Nat → Nat} {σ σ' : St} {m m' : Ms} {h : Heap} {s s' : Shared} {K : Frag} {mg mb : Str → Option Value} {bs : List Nat}

theorem plus_keeps (k : ∀ b o, hb.h.get? b = some o → h.get? b = some o) {n : Nat} {f : Nat → Nat} : ∀ b o, hb.h.get? b = some o → (hb.plus h bs n f).h.get? b = some o := fun b o e => by
  rw [plus_get, e]; simp [k b o e]

theorem _root_.Mine.At.plus (a : At prog w hb nm L f σ m h) (h1 : ∀ b ∈ bs, b ≠ L ∧ ∀ i, i < σ.length → f i ≠ b) : At prog w (hb.plus h bs σ.length f) nm L f σ m h where
  len := a.len
  fr := a.fr
  keep b o e := by
    rw [plus_get] at e
    split at e
    · exact e
    · cases e
  hbL := by
    rw [plus_get, a.hbL]
    have : ¬ (bs.contains L = true) := fun q => (h1 L (List.contains_iff_mem.mp q)).1 rfl
    simp at this
    simp [this]
  inj := a.inj
  neL := a.neL
  new i hi := by
    rw [plus_get, a.new i hi]
    have : ¬ (bs.contains (f i) = true) := fun q => (h1 _ (List.contains_iff_mem.mp q)).2 i hi rfl
    simp at this
    simp [this]
  lo := a.lo
  hi := a.hi
  base := ⟨Nat.le_refl _, fun _ _ => rfl⟩
  obj := a.obj

theorem _root_.Mine.At.minus {n : Nat} {h0 : Heap} {f0 : Nat → Nat} (k : ∀ b o, hb.h.get? b = some o → h0.get? b = some o) (hn : hb.n0 ≤ n) (hf : ∀ i, i < hb.n0 → f0 i = hb.f0 i) (a : At prog w (hb.plus h0 bs n f0) nm L f σ m h) : At prog w hb nm L f σ m h where
  len := a.len
  fr := a.fr
  keep b o e := a.keep b o (plus_keeps k b o e)
  hbL := by
    cases e : hb.h.get? L with
    | none => rfl
    | some o => have := a.hbL; rw [plus_keeps k L o e] at this; cases this
  inj := a.inj
  neL := a.neL
  new i hi := by
    cases e : hb.h.get? (f i) with
    | none => rfl
    | some o => have := a.new i hi; rw [plus_keeps k _ o e] at this; cases this
  lo := a.lo
  hi := a.hi
  base := ⟨Nat.le_trans hn a.base.1, fun i hi => (a.base.2 i (Nat.lt_of_lt_of_le hi hn)).trans (hf i hi)⟩
  obj := a.obj

theorem Wd.plus (W : Wd hb K mg mb) (k : ∀ b o, hb.h.get? b = some o → h.get? b = some o) {n : Nat} {f0 : Nat → Nat} : Wd (hb.plus h bs n f0) K mg mb :=
  ⟨W.x.keeps (plus_keeps k), W.g.keeps (plus_keeps k), W.b.keeps (plus_keeps k), W.nolimit.keeps (plus_keeps k), W.builtins⟩

structure AdvX (X : List Nat) (n : Nat) (f : Nat → Nat) (s : Shared) (n' : Nat) (f' : Nat → Nat) (s' : Shared) : Prop where
  le : n ≤ n'
  agree : ∀ i, i < n → f' i = f i
  fresh : ∀ i, n ≤ i → i < n' → s.heap.objs.size ≤ f' i
  size : s.heap.objs.size ≤ s'.heap.objs.size
  keep : ∀ a o, s.heap.get? a = some o → (∀ i, i < n → f i ≠ a) → a ∉ X → s'.heap.get? a = some o
  imm : Imm s.heap s'.heap
  os : s'.os = s.os
  gens : s'.gens = s.gens
theorem AdvX.refl {X : List Nat} {n : Nat} : AdvX X n f s n f s := ⟨Nat.le_refl _, fun _ _ => rfl, fun _ a b => absurd b (Nat.not_lt.mpr a), Nat.le_refl _, fun _ _ e _ _ => e, Imm.refl _, rfl, rfl⟩
theorem AdvX.trans {X : List Nat} {n n1 n2 : Nat} {f f1 f2 : Nat → Nat} {s s1 s2 : Shared} (x : AdvX X n f s n1 f1 s1) (y : AdvX X n1 f1 s1 n2 f2 s2) : AdvX X n f s n2 f2 s2 where
  le := Nat.le_trans x.le y.le
  agree i hi := (y.agree i (Nat.lt_of_lt_of_le hi x.le)).trans (x.agree i hi)
  fresh i h1 h2 := by
    rcases Nat.lt_or_ge i n1 with h | h
    · rw [y.agree i h]; exact x.fresh i h1 h
    · exact Nat.le_trans x.size (y.fresh i h h2)
  size := Nat.le_trans x.size y.size
  keep a o e h1 h2 := y.keep a o (x.keep a o e h1 h2) (fun i hi q => by
    rcases Nat.lt_or_ge i n with h | h
    · exact h1 i h (by rw [← x.agree i h]; exact q)
    · have := x.fresh i h hi; have := Heap.lt_size e; rw [q] at *; exact absurd ‹_› (Nat.not_lt.mpr ‹_›)) h2
  imm := x.imm.trans y.imm
  os := y.os.trans x.os
  gens := y.gens.trans x.gens
theorem _root_.Mine.Adv.toX {X : List Nat} {n n' : Nat} (x : Adv C n f s n' f' s') (hC : C ∈ X) : AdvX X n f s n' f' s' := ⟨x.le, x.agree, x.fresh, x.size, fun a o e h1 h2 => x.keep a o e h1 (fun q => h2 (q ▸ hC)), x.imm, x.os, x.gens⟩
theorem HStep.toX {X fp : List Nat} {n : Nat} (x : HStep fp s s') (H : Hid hb fp C n f s.heap) (hX : ∀ b ∈ fp, b ∈ X) : AdvX X n f s n f s' := ⟨Nat.le_refl _, fun _ _ => rfl, fun _ a b => absurd b (Nat.not_lt.mpr a), x.size, fun a o e _ h2 => x.keep a o (fun q => h2 (hX a q)) e, x.imm H, x.os, x.gens⟩
theorem _root_.Mine.Adv.thenX {X : List Nat} {n0 n n' : Nat} {f0 : Nat → Nat} {s0 : Shared} (x : Adv L n0 f0 s0 n f s) (y : AdvX X n f s n' f' s') (hX : ∀ b ∈ X, s0.heap.objs.size ≤ b) : Adv L n0 f0 s0 n' f' s' where
  le := Nat.le_trans x.le y.le
  agree i hi := (y.agree i (Nat.lt_of_lt_of_le hi x.le)).trans (x.agree i hi)
  fresh i h1 h2 := by
    rcases Nat.lt_or_ge i n with h | h
    · rw [y.agree i h]; exact x.fresh i h1 h
    · exact Nat.le_trans x.size (y.fresh i h h2)
  size := Nat.le_trans x.size y.size
  keep a o e h1 h2 := y.keep a o (x.keep a o e h1 h2) (fun i hi q => by
    rcases Nat.lt_or_ge i n0 with h | h
    · exact h1 i h (by rw [← x.agree i h]; exact q)
    · have := x.fresh i h hi; have := Heap.lt_size e; rw [q] at *; exact absurd ‹_› (Nat.not_lt.mpr ‹_›)) fun q => absurd (Heap.lt_size e) (Nat.not_lt.mpr (hX a q))
  imm := x.imm.trans y.imm
  os := y.os.trans x.os
  gens := y.gens.trans x.gens

theorem _root_.Mine.At.outer {X : List Nat} (a : At prog w hb nm L f σ m s.heap) (hC : L ∉ X) (dv : AdvX X σ.length f s σ'.length f' s') (a2 : At prog w hb nm' C f' σ' m' s'.heap) : At prog w hb nm L f' σ' m s'.heap := by
  refine ⟨a.len, ?_, a2.keep, a.hbL, a2.inj, fun i hi e => ?_, a2.new, a.lo, a2.hi, a2.base, a2.obj⟩
  · obtain ⟨mm, F, y⟩ := a.fr
    obtain ⟨oL, es, ep, hL, q⟩ := F.ns
    have hL' : s'.heap.get? L = some oL := dv.keep L oL hL a.neL hC
    refine ⟨mm, fr0 ⟨oL, es, ep, hL', q⟩, fun k x v q1 q2 => ?_⟩
    obtain ⟨u, g1, g2⟩ := y k x v q1 q2
    exact ⟨u, g1, g2.mono dv.imm dv.le dv.agree⟩
  · rcases Nat.lt_or_ge i σ.length with g | g
    · rw [dv.agree i g] at e; exact a.neL i g e
    · have h1 := dv.fresh i g hi
      rw [e] at h1
      exact absurd a.Llt (Nat.not_lt.mpr h1)

theorem se_cell {x : Str} {b : Nat} {v : V} {u : Value} {pos : Pos} (hk : c.sc.kind = .function) (hl : c.sc.names.lookup x = some .cell) (hc : ∀ L, (c.cl L).lookup x = some b) (hv : hb.h.IsCell b (some u)) (hr : RV hb.n0 hb.h hb.f0 v u)
    (hd : (x == ("__debug__" : Str)) = false := by decide) : SE prog w hb c d (.Name x pos) (eC v) := fun A L f σ m s P Q rm a h kk =>
  wpAny_Name (wpAny_loadName_cell hk hl (hc L) (hv.keeps a.keep) (kk _ _ _ _ _ h (.refl a) (hr.mono (.of_keeps a.keep) a.base.1 a.base.2))) hd

noncomputable def cin (c : Fx) (scope : Scope) (x : Str) (cl : List (Str × Nat)) (L0 : Nat) : Fx :=
  { q := c.q, sc := relabel scope (c.env L0), a := c.a, cd := c.cd, nm := [x], ql := c.ql, fn := none, frm := fun _ => c.frm L0, cl := fun _ => cl }

noncomputable def compG (it : Its) (T : TF) (D : Nat) : Nat → Nat → St → (St → Kt) → Kt
  | 0, _, _, _ => kF
  | n + 1, j, σ, P => it j σ fun o => match o with
    | none => P σ
    | some v => T [some v] σ fun r σ => condP r (rdL D σ fun l => compG it T D n (j + 1) (σ.set D (.list (l ++ [v]))) P) (compG it T D n (j + 1) σ P)
noncomputable def Lc (it : Its) (T : TF) (D j : Nat) (σ σ' : St) : Prop := ∀ P, Ho (P σ') → ∃ n, Ho (compG it T D n j σ P)
noncomputable def compK (it : Its) (T : TF) (D : Nat) (σ : St) (P : St → Kt) : Kt := fun os => match os with
  | [] => False
  | a :: os => match a with
    | .c _ σ' => Lc it T D 0 σ σ' ∧ P σ' os
    | .n k => compG it T D k 0 σ P os
    | _ => False
theorem Ho.comp {it : Its} {T : TF} {D : Nat} {σ : St} {P : St → Kt} (h : Ho (compK it T D σ P)) : ∃ n, Ho (compG it T D n 0 σ P) := by
  obtain ⟨os, h⟩ := h
  cases os with
  | nil => exact h.elim
  | cons a os => cases a with
    | c v σ' => exact h.1 P ⟨os, h.2⟩
    | n k => exact ⟨k, _, h⟩
    | _ => exact h.elim
noncomputable def eComp (I : IF) (T : TF) : EF := fun m σ P => I m σ fun it σ => compK it T σ.length (σ ++ [.list []]) fun τ => P (.ref σ.length) τ

theorem comp_ok {A : Around} {x : Str} {px pe pos : Pos} {iter test : Expr} {scope : Scope} {it D : Nat} {items : Its} {fp : List Nat} {P : Nat → Heap → Prop} {T : TF} {n1 : Nat} {f1 : Nat → Nat} (S : Src prog w hb n1 f1 (.Name x px) it items fp P)
    (ci : Fx) (hnm : ci.nm = [x]) (ok : ci.Ok) (hd' : (x == ("__debug__" : Str)) = false) (ht : ST prog w hb ci d test T) (rm : Room A d)
    {n0 : Nat} {f0 : Nat → Nat} {s0 : Shared} {Dn : Nat} {X : List Nat} {PC : St → Kt} (hXC : C ∈ X) (hXf : ∀ b ∈ fp, b ∈ X) {fuel : Nat} (hDn : Dn < n0) (hD0 : f0 Dn = D) (dv : AdvX X n0 f0 s0 σ.length f s) (I : Inv prog w hb ci.nm C n1 f1 fp P 0 f σ m s) (h : Ho (compG items T Dn fuel 0 σ PC)) {Q : Result → Shared → Prop} (hQ : ∀ s' σ' f' m', Ho (PC σ') → AdvX X n0 f0 s0 σ'.length f' s' → At prog w hb ci.nm C f' σ' m' s'.heap → Q (.ok .next) s') :
    codeAny (model prog w) A (.compLoop (.ListComp (.Name x pe) [⟨.Name x px, iter, [test], 0⟩] scope pos) 0 (.ref it) (.ref D) (ci.env C)) Q s := by
  obtain ⟨R, hR⟩ : ∃ R : Nat → Shared → Prop, R = fun k s => ∃ j f σ m, AdvX X n0 f0 s0 σ.length f s ∧ Inv prog w hb ci.nm C n1 f1 fp P j f σ m s ∧ Ho (compG items T Dn k j σ PC) := ⟨_, rfl⟩
  have hin : ∀ {k s j f σ m}, AdvX X n0 f0 s0 σ.length f s → Inv prog w hb ci.nm C n1 f1 fp P j f σ m s → Ho (compG items T Dn k j σ PC) → R k s := fun a b c => hR ▸ ⟨_, _, _, _, a, b, c⟩
  refine codeAny_compLoop_tests R ?_ fuel (hin dv I h)
  clear h I dv
  intro k s hk
  rw [hR] at hk
  obtain ⟨j, f, σ, m, dv, I, h⟩ := hk
  cases k with
  | zero => exact h.no
  | succ k =>
    refine wpAny_mono (S.next A ci.nm C f σ m s j _ rm.1 I h) (fun r s1 q => ?_) fun _ _ e => e.elim
    rcases q with ⟨e, q, p⟩ | ⟨v, u, e, p, hgo⟩
    · rw [e]
      exact hQ _ σ f m p (dv.trans (q.toX I.H hXf)) (At.hstep I.a I.H q)
    · rw [e]
      show wpAny _ _ (assign (.Name x px) (ci.env C) u) _ _ s1
      have hgo' : wpAny (model prog w) A (pure ()) _ _ s1 := hgo
      rw [show assign (.Name x px) (ci.env C) u = (pure () >>= fun _ => assign (.Name x px) (ci.env C) u) from (pure_bind () fun _ => assign (.Name x px) (ci.env C) u).symm]
      refine wpAny_bind (wpAny_mono hgo' (fun _ s2 ⟨q, r1, hP2⟩ => ?_) fun _ _ e => e.elim)
      have d2 := dv.trans (q.toX I.H hXf)
      have I := I.step S q hP2
      have hx0 : ci.nm[0]? = some x := by rw [hnm]; rfl
      have hm1 : m.set 0 (some v) = [some v] := by
        have := I.a.len
        rw [hnm] at this
        match m, this with
        | [y], _ => rfl
      refine wpAny_mono (sg_name (pos := px) (d := d) ok hx0 A C f σ m s2 v u (fun m' τ => asr (m' = [some v]) (T m' τ _)) _ rm I.a r1 (Ho.mk hm1 (by rw [hm1]; exact p)) fun m1 σ1 f3 _ s3 p3 x3 => ?_) (fun _ _ q => q) fun _ _ e => e.elim
      obtain ⟨rfl, p3⟩ := Ho.asr p3
      have I := I.nxt S x3
      refine wpAny_tests_one (wpAny_mono (ht A C f3 σ1 [some v] s3 _ _ rm I.a p3 fun b σ2 f4 b' s4 p4 x4 r4 => ?_) (fun _ _ q => q) fun _ _ e => e.elim)
      have I := I.nxt S x4
      have d5 := (d2.trans (x3.d.toX hXC)).trans (x4.d.toX hXC)
      rw [show b' = b from r4]
      have p4 := p4.sel
      cases b with
      | false => exact ⟨k, Nat.lt_succ_self k, hin d5 I p4⟩
      | true =>
        refine wpAny_mono (se_loc (pos := pe) (d := d) ok hx0 hd' A C f4 σ2 [some v] s4 (fun v' τ => asr (v' = v) (rdL Dn τ fun l => compG items T Dn k (j + 1) (τ.set Dn (.list (l ++ [v]))) PC)) _ rm I.a (Ho.mk rfl p4) fun v' τ f5 u5 s5 e5 x5 r5 => ?_) (fun _ _ q => q) fun _ _ e => e.elim
        obtain ⟨rfl, e5⟩ := Ho.asr e5
        obtain ⟨l, ⟨q2, q3⟩, p5⟩ := Ho.ask e5
        have I := I.nxt S x5
        obtain ⟨vs, kk, g1, g2⟩ := At.list I.a q2
        have hDf : f5 Dn = D := by
          rw [x5.d.agree _ (Nat.lt_of_lt_of_le hDn d5.le), d5.agree _ hDn, hD0]
        rw [hDf] at g1
        have hl := g2.length
        rw [Array.length_toList] at hl
        refine append_at g1 (fun h' hs ho' => ?_) (by rw [sizeLine_eq]; lia)
        rw [← hDf] at hs ho'
        have y : Nxt prog w hb ci.nm C τ.length f5 s5 (τ.set Dn (.list (l ++ [v']))) [some v'] f5 { s5 with heap := h' } := .turn I.a q2 hs ho' ⟨_, _, rfl, by rw [Array.toList_push]; exact g2.append (.one r5)⟩ rfl rfl
        exact ⟨k, Nat.lt_succ_self k, hin ((d5.trans (x5.d.toX hXC)).trans (y.d.toX hXC)) (I.nxt S y) p5⟩

theorem comp_core {A : Around} {x : Str} {px pe pos : Pos} {iter test : Expr} {scope : Scope} {cl : List (Str × Nat)} {it : Nat} {items : Its} {fp : List Nat} {P : Nat → Heap → Prop} {T : TF} {PC : St → Kt} (S : Src prog w hb σ.length f (.Name x px) it items fp P)
    (ok : (cin c scope x cl L).Ok) (hd' : (x == ("__debug__" : Str)) = false) (hnc : ∀ y ∈ scope.names, y.2 ≠ .cell) (hks : scope.kind = .function) (ht : ST prog w hb (cin c scope x cl L) d test T) (rm : Room A d)
    (a : At prog w hb c.nm L f σ m s.heap) (H : Hid hb fp L σ.length f s.heap) (hP : P 0 s.heap) (h : Ho (compK items T σ.length (σ ++ [.list []]) PC))
    {RR : Value → Addr → Result → Shared → Prop}
    (hRR : ∀ C σ' s' f' m', Ho (PC σ') → C ≠ L → s.heap.objs.size ≤ C → (∀ i, i < σ'.length → f' i ≠ C) → AdvX (C :: fp) σ.length f s σ'.length f' s' → At prog w hb c.nm L f' σ' m s'.heap → s'.heap.Ns C m' → RV σ'.length s'.heap f' (.ref σ.length) (.ref s.heap.objs.size) → RR (.ref s.heap.objs.size) C (.ok .next) s') :
    wpAny (model prog w) A (newList []) (fun acc s₃ => wpAny (model prog w) A (newFunctionEnv scope (c.env L).globals cl [] (c.env L).qual none .none (some (c.env L))) (fun cenv s₄ =>
      codeAny (model prog w) A (.compStart (.ListComp (.Name x pe) [⟨.Name x px, iter, [test], 0⟩] scope pos) 0 (.ref it) acc { cenv with scope := relabel scope (c.env L) }) (RR acc cenv.locals) s₄) noE s₃) noE s := by
  obtain ⟨fuel, h⟩ := h.comp
  refine wpAny_newObj_type (wpAny_newFunctionEnv hnc (by intro y hy; simp at hy) (fun h₁ hns₁ hsb₁ => ?_) hks)
  dsimp only at hns₁ hsb₁ ⊢
  have y0 : Nxt prog w hb c.nm L σ.length f s (σ ++ [O.list []]) m (newF f σ.length s.heap.objs.size) { s with heap := s.heap.push (listOf ([] : List Value).toArray 0) } :=
    .alloc (x := listOf ([] : List Value).toArray 0) a (fun b o e => Heap.get?_push_of_some _ e) (by simp) (Nat.le_refl _) (Heap.get?_push_size _ rfl) ⟨#[], 0, rfl, rfl⟩ rfl rfl
  have k0 : ∀ b o, s.heap.get? b = some o → (s.heap.push (listOf ([] : List Value).toArray 0)).get? b = some o := fun b o e => Heap.get?_push_of_some _ e
  have hl1 : (σ ++ [O.list []]).length = σ.length + 1 := by simp
  generalize hH2 : s.heap.push { cls := .type "list", dict := none, data := .seq ([] : List Value).toArray } = H2 at hns₁ hsb₁ ⊢
  have hH2' : s.heap.push (listOf ([] : List Value).toArray 0) = H2 := hH2
  rw [hH2'] at k0 y0
  have hC : H2.objs.size = s.heap.objs.size + 1 := by rw [← hH2, Heap.size_push]
  have k1 : ∀ b o, H2.get? b = some o → h₁.get? b = some o := fun b o e => hsb₁.extBut b o (Nat.ne_of_lt (Heap.lt_size e)) (Heap.get?_push_of_some _ e)
  have hz1 : h₁.objs.size = H2.objs.size + 1 := by have := hsb₁.1; rw [this, Heap.size_push]
  have b0 := y0.a
  have b1 := b0.grow k1
  generalize hf2 : newF f σ.length s.heap.objs.size = f2 at y0 b0 b1
  have e' : f2 σ.length = s.heap.objs.size := by rw [← hf2]; exact newF_eq
  have hCL : H2.objs.size ≠ L := by have := a.Llt; lia
  have hCf : ∀ i, i < (σ ++ [O.list []]).length → f2 i ≠ H2.objs.size := fun i hi => Nat.ne_of_lt (b0.flt hi)
  have kk : ∀ b o, s.heap.get? b = some o → h₁.get? b = some o := fun b o e => k1 b o (k0 b o e)
  have hL : L ∉ H2.objs.size :: fp := fun q => by
    rcases List.mem_cons.mp q with q | q
    · exact hCL q.symm
    · exact H.neL L q rfl
  -- the inner frame
  have Iv : Inv prog w hb (cin c scope x cl L).nm H2.objs.size σ.length f fp P 0 f2 (σ ++ [O.list []]) [none] { s with heap := h₁, toks := s.toks + ([] : List (Str × Value)).length } := by
    refine ⟨⟨by simp, y0.d.agree⟩, ⟨rfl, ⟨_, fr0 hns₁, fun k y v q1 q2 => ?_⟩, b1.keep, b0.above (Nat.le_refl _), b1.inj, hCf, b1.new, Nat.lt_trans b0.lo b0.Llt, b1.hi, b1.base, b1.obj⟩, ⟨fun b hm e => ?_, fun b hm i hi e => ?_, H.new, fun b hm => ?_⟩, S.stable 0 s.heap h₁ hP (.of_keeps kk) fun b hm o e => kk b o e⟩
    · cases k with
      | zero => cases q2
      | succ k => simp at q2
    · obtain ⟨o, e2, _⟩ := H.non b hm; have := Heap.lt_size e2; lia
    · obtain ⟨o, e2, _⟩ := H.non b hm
      have := Heap.lt_size e2
      rcases Nat.lt_or_ge i σ.length with g | g
      · exact H.neF b hm i g (by rw [← e]; exact (y0.d.agree i g).symm)
      · have : i = σ.length := by lia
        subst this
        lia
    · obtain ⟨o, e, ni⟩ := H.non b hm
      exact ⟨o, kk b o e, ni⟩
  have dx : AdvX (H2.objs.size :: fp) σ.length f s (σ ++ [O.list []]).length f2 { s with heap := h₁, toks := s.toks + ([] : List (Str × Value)).length } :=
    ⟨y0.d.le, y0.d.agree, y0.d.fresh, by show s.heap.objs.size ≤ h₁.objs.size; lia, fun b o e _ _ => kk b o e, .of_keeps kk, rfl, rfl⟩
  have loop : ∀ s2 : Shared, s2 = { s with heap := h₁, toks := s.toks + ([] : List (Str × Value)).length } → codeAny (model prog w) A (.compLoop (.ListComp (.Name x pe) [⟨.Name x px, iter, [test], 0⟩] scope pos) 0 (.ref it) (.ref s.heap.objs.size) ((cin c scope x cl L).env H2.objs.size)) (RR (.ref s.heap.objs.size) H2.objs.size) s2 := by
    rintro _ rfl
    refine comp_ok (C := H2.objs.size) S (cin c scope x cl L) rfl ok hd' ht rm (X := H2.objs.size :: fp) (.head _) (fun b hm => .tail _ hm) (Dn := σ.length) (by simp) e' .refl Iv h fun s3 σ3 f3 m3 p3 d3 a3 => ?_
    have d4 := dx.trans d3
    obtain ⟨mm, F3, _⟩ := a3.fr
    exact hRR _ σ3 _ f3 mm p3 hCL (by lia) (fun i hi => a3.neL i hi) d4 (At.outer a hL d4 a3) F3.ns ⟨Nat.lt_of_lt_of_le (by simp) d3.le, by rw [d3.agree _ (by simp), e']⟩
  exact codeAny_compStart_list (loop _ rfl) (wpAny_mono (S.self A _ 0 Iv.p) (fun v s2 ⟨e1, e2⟩ => by rw [e1]; exact loop _ e2) fun _ _ e => e.elim)
end
section
variable {prog : Program} {w : World} {hb : Base} {c : Fx} {d : Nat} {nm nm' : List Str} {L C : Nat} {f f' : Nat → Nat} {σ σ' : St} {m m' : Ms} {h : Heap} {s s' : Shared} {K : Frag} {mg mb : Str → Option Value} {bs : List Nat}

theorem ns_notImm {h : Heap} {C : Nat} {mm : Str → Option Value} (x : h.Ns C mm) : ∃ o, h.get? C = some o ∧ ¬ isImm o := by
  obtain ⟨o, es, ep, ho, hd, _⟩ := x
  refine ⟨o, ho, ?_⟩
  rintro (⟨_, _, e⟩ | ⟨_, _, e⟩) <;> (rw [e] at hd; cases hd)

theorem comp_gone {X : List Nat} {n0 : Nat} {f0 : Nat → Nat} {s0 : Shared} {mm : Str → Option Value} {h' : Heap} (a : At prog w hb nm L f σ m s.heap) (hn : s.heap.Ns C mm) (hCL : C ≠ L) (hf : ∀ i, i < σ.length → f i ≠ C) (hbC : hb.h.get? C = none) (hs : Heap.SameBut C s.heap h') :
    At prog w hb nm L f σ m h' ∧ AdvX (C :: X) σ.length f s σ.length f { s with heap := h' } := by
  obtain ⟨o, ho, ni⟩ := ns_notImm hn
  refine ⟨a.hidden ho ni hCL hf hbC fun b o' hb' e => (hs.2 b hb').trans e, Nat.le_refl _, fun _ _ => rfl, fun _ a b => absurd b (Nat.not_lt.mpr a), Nat.le_of_eq hs.1.symm, fun b o' e _ h2 => (hs.2 b (fun q => h2 (q ▸ .head _))).trans e, imm_of_but hs ho ni, rfl, rfl⟩

theorem comp_low {n : Nat} {t : Expr} {items : Its} {s2 : Shared} {a : Nat} {fp : List Nat} {P : Nat → Heap → Prop} (x : Itr prog w hb nm L n f s t m items σ' f' s2 a fp P) (hC : s2.heap.objs.size ≤ C) : ∀ b ∈ C :: fp, s.heap.objs.size ≤ b := fun b hm => by
  rcases List.mem_cons.mp hm with rfl | hm
  · exact Nat.le_trans x.d.size hC
  · exact x.low b hm

theorem se_comp {x : Str} {px pe pos : Pos} {iter test : Expr} {scope : Scope} {cl : Nat → List (Str × Nat)} {I : IF} {T : TF} (hi : SI prog w hb c d (.Name x px) iter I) (hclos : ∀ L, closureFor scope (c.env L) = pure (cl L))
    (ok : ∀ L, (cin c scope x (cl L) L).Ok) (hd' : (x == ("__debug__" : Str)) = false) (hnc : ∀ y ∈ scope.names, y.2 ≠ .cell) (hks : scope.kind = .function) (hnames : ∀ y ∈ scope.names, y.2 = .local → scope.names.lookup y.1 = some .local)
    (ht : ∀ L, ST prog w hb (cin c scope x (cl L) L) d test T) (hs : ∀ L x, foldedSetIterable iter (c.env L) x = pure x) : SE prog w hb c d (.ListComp (.Name x pe) [⟨.Name x px, iter, [test], 0⟩] scope pos) (eComp I T) := fun A L f σ m s P Q rm a h kk => by
  rw [eval_ListComp]
  refine wpAny_comprehension_free (use := none) rfl (hs L) (hclos L) hks hnames (hi A L f σ m s _ _ rm a h fun items σ1 f1 s2 a' fp Pr p x => ?_)
  refine comp_core x.src (ok L) hd' hnc hks (ht L) rm x.i.a x.i.H x.i.p p fun C σ2 s3 f3 mm p3 hCL hCz hCf d3 a3 hn r3 => ⟨mm, hn, fun h' hs' => ?_⟩
  obtain ⟨a4, d4⟩ := comp_gone (X := fp) (n0 := 0) (f0 := f) (s0 := s) a3 hn hCL hCf (x.i.a.above hCz) hs'
  exact kk _ _ _ _ _ p3 ⟨x.d.thenX (d3.trans d4) (comp_low x hCz), a4⟩ (r3.mono d4.imm (Nat.le_refl _) fun _ _ => rfl)

theorem ss_compA {x y : Str} {k : Nat} {px pe py pos spos : Pos} {iter test : Expr} {scope : Scope} {cl : Nat → List (Str × Nat)} {I : IF} {T : TF} (okc : c.Ok) (hy : c.nm[k]? = some y) (hi : SI prog w hb c d (.Name x px) iter I) (hclos : ∀ L, closureFor scope (c.env L) = pure (cl L))
    (ok : ∀ L, (cin c scope x (cl L) L).Ok) (hd' : (x == ("__debug__" : Str)) = false) (hnc : ∀ y ∈ scope.names, y.2 ≠ .cell) (hks : scope.kind = .function) (hnames : ∀ y ∈ scope.names, y.2 = .local → scope.names.lookup y.1 = some .local)
    (ht : ∀ L, ST prog w hb (cin c scope x (cl L) L) d test T) (hs : ∀ L x, foldedSetIterable iter (c.env L) x = pure x)
    (hsw : ∀ L, swapsWith (.ListComp (.Name x pe) [⟨.Name x px, iter, [test], 0⟩] scope pos) (some (.Name y py)) spos.line (c.env L) = pure true) :
    SS prog w hb c d (.Assign [.Name y py] (.ListComp (.Name x pe) [⟨.Name x px, iter, [test], 0⟩] scope pos) spos) (sAsg (gName k) (eComp I T)) := fun A L f σ m s P Q rm a h kk => by
  rw [exec_Assign_Name_used _ _ _ _ (hsw L)]
  refine wpAny_bind (wpAny_standAt (wpAny_bind ?_))
  show wpAny _ A (do let _ ← comprehension (.ListComp (.Name x pe) [⟨.Name x px, iter, [test], 0⟩] scope pos) scope (c.env L) _ (newList []) false (eval iter (c.env L)) (some (assign (.Name y py) (c.env L)))) _ _ s
  refine wpAny_bind (wpAny_mono (wpAny_comprehension_free (use := some (assign (.Name y py) (c.env L))) (Q := fun _ s' => Q .next s') rfl (hs L) (hclos L) hks hnames
    (hi A L f σ m s _ _ rm a h fun items σ1 f1 s2 a' fp Pr p x => ?_)) (fun _ s' hq => wpAny_pure (wpAny_pure hq)) fun _ _ e => e)
  refine comp_core x.src (ok L) hd' hnc hks (ht L) rm x.i.a x.i.H x.i.p p fun C σ2 s3 f3 mm p3 hCL hCz hCf d3 a3 hn r3 => ?_
  show wpAny _ A (assign (.Name y py) (c.env L) (.ref s2.heap.objs.size)) _ _ _
  refine sg_name (d := d) okc hy A L f3 _ m s3 _ _ _ _ rm a3 r3 p3 fun m4 σ4 f4 _ s4 p4 x4 => ?_
  have hC3 : C < s3.heap.objs.size := hn.lt
  have hCf' : ∀ i, i < σ4.length → f4 i ≠ C := fun i hi => by
    rcases Nat.lt_or_ge i σ2.length with g | g
    · rw [x4.d.agree i g]; exact hCf i g
    · have := x4.d.fresh i g hi; lia
  have hn4 : s4.heap.Ns C mm := by
    obtain ⟨o, es, ep, ho, r⟩ := hn
    exact ⟨o, es, ep, x4.d.keep C o ho hCf hCL, r⟩
  refine ⟨mm, hn4, fun h' hs' => ?_⟩
  obtain ⟨a5, d5⟩ := comp_gone (X := fp) (n0 := 0) (f0 := f) (s0 := s) x4.a hn4 hCL hCf' (x.i.a.above hCz) hs'
  exact kk _ _ _ _ _ _ p4 ⟨((x.d.thenX d3 (comp_low x hCz)).trans x4.d).thenX d5 (comp_low x hCz), a5⟩ rfl
end
section
variable {prog : Program} {w : World} {hb : Base} {c : Fx} {d : Nat} {K : Frag} {mg mb : Str → Option Value}

structure DefKC (K : Frag) (q : Str) (sc : Scope) (fa : Nat) (cd : Value) (ps : List Str) (body : List Stmt) : Prop where
  fn : ∃ oc od osl name params dV kV doc pm an ct, K.lookup fa = some ⟨oc, od, .func (fnOf name q params body sc dV kV doc pm an cd ct), osl⟩ ∧
    ∀ us : List Value, us.length = ps.length → bindArgs (fnOf name q params body sc dV kV doc pm an cd ct) ⟨us, []⟩ = pure (ps.zip us)
  code : codeIn K cd q = true
  co : sc.isCoroutine = false
  gen : sc.isGenerator = false
  kind : sc.kind = .function

noncomputable def CEnd (prog : Program) (w : World) (hb : Base) (L n : Nat) (f : Nat → Nat) (s : Shared) (X : List Nat) (P : V → St → Kt) (u : Flow) (s' : Shared) : Prop :=
  ∃ fl m' σ' f' nm', Ho (P (flV fl) σ') ∧ AdvX X n f s σ'.length f' s' ∧ At prog w hb nm' L f' σ' m' s'.heap ∧ RFl σ'.length s'.heap f' fl u
theorem enter_cells (W : Wd hb K mg mb) {q : Str} {sc : Scope} {fa : Nat} {cd : Value} {ps : List Str} {body : List Stmt} (D : DefKC K q sc fa cd ps body) (hk : ∀ L, ∀ x ∈ ps, sc.names.lookup x = some .local ∨ (sc.names.lookup x = some .cell ∧ ((cellsFrom (L + 1) sc.names []).lookup x).isSome = true))
    {A : Around} {Lc : Nat} {f : Nat → Nat} {σ : St} {m : Ms} {s : Shared} {nm : List Str} {vs : List V} {us : List Value} {X : List Nat} {P : V → St → Kt} {Q : Value → Shared → Prop} (hX : ∀ b ∈ X, s.heap.objs.size ≤ b) (rm : Room A (d + 1)) (a : At prog w hb nm Lc f σ m s.heap) (r : RVs σ.length s.heap f vs us) (hlen : vs.length = ps.length)
    (h : ∀ A' h₁ tk, Room A' d → (∀ b o, s.heap.get? b = some o → h₁.get? b = some o) → h₁.Ns s.heap.objs.size (bindL (envOfC q sc s.heap.objs.size fa cd).kindOf (ps.zip us) fun _ => none) →
      (∀ n c, (cellsFrom (s.heap.objs.size + 1) sc.names []).lookup n = some c → h₁.IsCell c (bindC (envOfC q sc s.heap.objs.size fa cd).kindOf (ps.zip us) (fun _ => none) n)) → At prog w hb nm Lc f σ m h₁ →
      wpAny (model prog w) A' (execs body (envOfC q sc s.heap.objs.size fa cd)) (CEnd prog w hb s.heap.objs.size σ.length f { s with heap := h₁, toks := tk } X P) noE { s with heap := h₁, toks := tk })
    (kk : Con prog w hb nm Lc bV σ.length f s m P Q) : codeAny (model prog w) A (.call (.ref fa) ⟨us, []⟩) (fun r s' => ∃ u, r = .ok (.ret u) ∧ Q u s') s := by
  obtain ⟨⟨oc, od, osl, name, params, dV, kV, doc, pm, an, ct, hlk, hbind⟩, hcd, hco, hgen, hkind⟩ := D
  have hul : us.length = ps.length := by rw [r.length, hlen]
  have hk1 : (ps.zip us).map (·.1) = ps := by rw [List.map_fst_zip]; lia
  refine codeAny_call_cells (fd := fnOf name q params body sc dV kV doc pm an cd ct) (body := body) (binds := ps.zip us) (by obtain ⟨_, q, _⟩ := rm; lia) (W.x.keeps a.keeps _ _ hlk) rfl (W.nolimit.keeps a.keeps) (codeRec_of (W.x.keeps a.keeps) hcd) rfl
    (hbind us hul) rfl (fun y hy => ?_) (fun s₁ hin => ?_) hco hgen hkind
  · refine hk _ y.1 ?_
    rw [← hk1]; exact List.mem_map_of_mem hy
  · obtain ⟨⟨⟨h₁, tk, hs1⟩, hns, hkeep, hfresh⟩, hcell, hap, hab⟩ := hin
    subst hs1
    have rm' : Room (A.deeper (callEnvC (fnOf name q params body sc dV kV doc pm an cd ct) s.heap.objs.size fa)) d := by
      obtain ⟨q1, q2, q3⟩ := rm
      exact ⟨q1, by show A.depth + 1 + d < _; lia, by show A.units + 3 + _ + _ < _; lia⟩
    have im : Imm s.heap h₁ := .of_keeps hkeep
    have q : s.heap.objs.size < h₁.objs.size := hns.lt
    refine wpAny_mono (sized (h _ h₁ tk rm' hkeep hns hcell (a.grow hkeep))) (fun u s' zz => ?_) fun _ _ e => e.elim
    obtain ⟨⟨fl, m', σ', f', nm', p, d', a2, r'⟩, hz⟩ := zz
    refine ⟨_, rfl, kk (flV fl) σ' f' _ s' p ⟨⟨d'.le, d'.agree, fun i h1 h2 => ?_, ?_, fun b o e q1 q2 => ?_, im.trans d'.imm, d'.os, d'.gens⟩, ?_⟩ ?_⟩
    · have q3 : h₁.objs.size ≤ f' i := d'.fresh i h1 h2
      lia
    · have q3 : h₁.objs.size ≤ s'.heap.objs.size := hz
      lia
    · exact d'.keep b o (hkeep b o e) q1 (fun q => absurd (Heap.lt_size e) (Nat.not_lt.mpr (hX b q)))
    · have hL : Lc ∉ X := fun q => by have := a.Llt; have := hX _ q; lia
      exact At.outer (s := { s with heap := h₁, toks := tk }) (a.grow hkeep) hL d' a2
    · cases fl with
      | next => rw [show u = .next from r']; exact rfl
      | ret z =>
        obtain ⟨x, rfl, r''⟩ := r'
        exact r''

theorem _root_.Mine.At.enter {Lc L : Nat} {f : Nat → Nat} {σ : St} {m m' : Ms} {nm nm' : List Str} {h h₁ : Heap} {mm : Str → Option Value} (a : At prog w hb nm Lc f σ m h) (hL : h.objs.size = L) (a1 : At prog w hb nm Lc f σ m h₁) (hns : h₁.Ns L mm) (hl : m'.length = nm'.length)
    (hf : ∀ (k : Nat) (x : Str) (v : V), nm'[k]? = some x → m'[k]? = some (some v) → ∃ u, mm x = some u ∧ RV σ.length h₁ f v u) : At prog w hb nm' L f σ m' h₁ := by
  subst hL
  exact ⟨hl, ⟨mm, fr0 hns, hf⟩, a1.keep, a.above (Nat.le_refl _), a1.inj, fun i hi => Nat.ne_of_lt (a.flt hi), a1.new, Nat.lt_trans a.lo a.Llt, a1.hi, a1.base, a1.obj⟩
theorem cell_plus {h : Heap} {bs : List Nat} {n b : Nat} {f : Nat → Nat} {u : Option Value} (hc : h.IsCell b u) (hm : b ∈ bs) : (hb.plus h bs n f).h.IsCell b u := by
  obtain ⟨o, ho, hd⟩ := hc
  exact ⟨o, by rw [plus_get, if_pos (by simp [hm])]; exact ho, hd⟩
theorem RVs.three_inv {n : Nat} {h : Heap} {f : Nat → Nat} {x y z : V} {us : List Value} (r : RVs n h f [x, y, z] us) : ∃ u1 u2 u3, us = [u1, u2, u3] ∧ RV n h f x u1 ∧ RV n h f y u2 ∧ RV n h f z u3 := by
  obtain ⟨u, r', e1, e2, e3⟩ := r
  obtain ⟨u2, u3, e4, e5, e6⟩ := RVs.two_inv e3
  exact ⟨u, u2, u3, by rw [e1, e4], e2, e5, e6⟩
theorem SFn.mk {a : Nat} {F : FF} (h : ∀ A L f σ m s nm vs us P Q, Room A d → At prog w hb nm L f σ m s.heap → RVs σ.length s.heap f vs us → Ho (F vs σ P) → Con prog w hb nm L bV σ.length f s m P Q →
  codeAny (model prog w) A (.call (.ref a) ⟨us, []⟩) (fun r s' => ∃ u, r = .ok (.ret u) ∧ Q u s') s) : SFn prog w hb d a F := h
theorem SB.app {body : List Stmt} {F : SF} (h : SB prog w hb c d body F) {A : Around} {L : Nat} {f : Nat → Nat} {σ : St} {m : Ms} {s : Shared} {P : Fl → Ms → St → Kt} {Q : Flow → Shared → Prop} (rm : Room A d) (a : At prog w hb c.nm L f σ m s.heap) (e : Ho (F m σ P)) (k : ConS prog w hb c.nm L σ.length f s P Q) :
    wpAny (model prog w) A (execs body (c.env L)) Q noE s := h A L f σ m s P Q rm a e k
theorem SE.app {e : Expr} {F : EF} (h : SE prog w hb c d e F) {A : Around} {L : Nat} {f : Nat → Nat} {σ : St} {m : Ms} {s : Shared} {P : V → St → Kt} {Q : Value → Shared → Prop} (rm : Room A d) (a : At prog w hb c.nm L f σ m s.heap) (q : Ho (F m σ P)) (k : Con prog w hb c.nm L bV σ.length f s m P Q) :
    wpAny (model prog w) A (eval e (c.env L)) Q noE s := h A L f σ m s P Q rm a q k
structure Mid (prog : Program) (w : World) (hb : Base) (nm : List Str) (L n : Nat) (f : Nat → Nat) (s : Shared) (σ0 : St) (m : Ms) (f1 : Nat → Nat) (s2 : Shared) (v2 : V) (u1 u2 : Value) : Prop where
  d : AdvX [L, L + 2] n f s σ0.length f1 s2
  b : At prog w hb nm L f1 σ0 m s2.heap
  a : At prog w (hb.plus s2.heap [L + 1, L + 2] σ0.length f1) nm L f1 σ0 m s2.heap
  c1 : (hb.plus s2.heap [L + 1, L + 2] σ0.length f1).h.IsCell (L + 1) (some u1)
  c2 : (hb.plus s2.heap [L + 1, L + 2] σ0.length f1).h.IsCell (L + 2) (some u2)
  r : RV σ0.length s2.heap f1 v2 u2
theorem mid_ {nm : List Str} {Lc L : Nat} {f f1 : Nat → Nat} {σ σ0 : St} {m m0 : Ms} {s s1 : Shared} {h : Heap} {u u2 : Value} {v2 : V} (a0 : At prog w hb nm Lc f σ m0 h) (hL : h.objs.size = L) {nm' : List Str} (hc : s.heap.IsCell (L + 1) (some u)) (hc2 : s.heap.IsCell (L + 2) none) (x : Nxt prog w hb nm' L σ.length f s σ0 m f1 s1) (r : RV σ0.length s1.heap f1 v2 u2) :
    s1.heap.IsCell (L + 2) none ∧ ∀ h2, h2.IsCell (L + 2) (some u2) → Heap.SameBut (L + 2) s1.heap h2 → Mid prog w hb nm' L σ.length f s σ0 m f1 { s1 with heap := h2 } v2 u u2 := by
  have fr1 : ∀ b, L < b → b < s.heap.objs.size → ∀ i, i < σ0.length → f1 i ≠ b := fun b h1 h2 i hi => by
    rcases Nat.lt_or_ge i σ.length with g | g
    · rw [x.d.agree i g]; have := a0.flt g; lia
    · have := x.d.fresh i g hi; lia
  have keep1 : ∀ b o, L < b → s.heap.get? b = some o → s1.heap.get? b = some o := fun b o hj e =>
    x.d.keep b o e (fun i hi => by have := a0.flt hi; lia) (by lia)
  obtain ⟨oc, ho2, hd2⟩ := hc2
  obtain ⟨o1, ho1, hd1⟩ := hc
  have hoc := keep1 _ _ (by lia) ho2
  have hop := keep1 _ _ (by lia) ho1
  refine ⟨⟨oc, hoc, hd2⟩, fun h2 hc3 hs => ?_⟩
  have ni : ¬ isImm oc := by
    rintro (⟨_, _, e⟩ | ⟨_, _, e⟩) <;> (rw [e] at hd2; cases hd2)
  have b2 := x.a.hidden hoc ni (by lia) (fr1 _ (by lia) (Heap.lt_size ho2)) (a0.above (by lia)) fun b o hb e => (hs.2 b hb).trans e
  have im2 : Imm s1.heap h2 := imm_of_but hs hoc ni
  exact ⟨(x.d.toX (.head _)).trans ⟨Nat.le_refl _, fun _ _ => rfl, fun _ a b => absurd b (Nat.not_lt.mpr a), Nat.le_of_eq hs.1.symm, fun b o e _ h2 => (hs.2 b (fun q => h2 (q ▸ .tail _ (.head _)))).trans e, im2, rfl, rfl⟩, b2,
    b2.plus (bs := [L + 1, L + 2]) (fun y hy => by
      rcases List.mem_cons.mp hy with rfl | hy
      · exact ⟨by lia, fr1 _ (by lia) (Heap.lt_size ho1)⟩
      · rw [List.mem_singleton.mp hy]
        exact ⟨by lia, fr1 _ (by lia) (Heap.lt_size ho2)⟩),
    cell_plus ⟨o1, (hs.2 _ (by lia)).trans hop, hd1⟩ (.head _), cell_plus hc3 (.tail _ (.head _)), r.mono im2 (Nat.le_refl _) fun _ _ => rfl⟩
theorem sfn_no {a : Nat} : SFn prog w hb d a (fun _ _ _ => kF) := fun A L f σ m s nm vs us P Q r a e h kk => h.no
end
noncomputable def vJUMPS : V := .tup [.str "IFNOT", .str "JUMP", .str "GOTO", .str "GOSUB", .str "ONGO", .str "RETURN"]

noncomputable def F_Control_init : FF := runF 2 0 (sSeq (sAsg (gAttr 265 "pile" (eLoc 0)) (eList lNil)) (sSeq (sAsg (gAttr 265 "most" (eLoc 0)) (eLoc 1)) (sSeq (sAsg (gAttr 265 "failed_at" (eLoc 0)) (eUn unNeg (eC (.int 1)))) sNil)))

noncomputable def F_FlowRun_init : FF := runF 6 0 (sSeq (sAsg (gAttr 556 "flat" (eLoc 0)) (eLoc 1)) (sSeq (sAsg (gAttr 556 "values" (eLoc 0)) (eLoc 2)) (sSeq (sAsg (gAttr 556 "worth_of" (eLoc 0)) (eLoc 3)) (sSeq (sAsg (gAttr 556 "bits" (eLoc 0)) (eLoc 4)) (sSeq (sAsg (gAttr 556 "digits" (eLoc 0)) (eLoc 5)) (sSeq (sAsg (gAttr 556 "control" (eLoc 0)) (eNew 265 F_Control_init (lCons (eC (.int 20)) lNil))) (sSeq (sAsg (gAttr 556 "notes" (eLoc 0)) (eList lNil)) sNil)))))))

noncomputable def F_run_store : FF := runF 3 0 (sSeq (sAsg (gSub (eUn (attrOf 556 "values") (eLoc 0)) (eLoc 1)) (eLoc 2)) sNil)

noncomputable def F_run_value_of_name : FF := runF 2 0 (sSeq (sRet (eGet (eUn (attrOf 556 "values") (eLoc 0)) (eLoc 1) (eC (.int 0)))) sNil)

noncomputable def F_worth : Nat → FF
  | 0 => fun _ _ _ => kF
  | n + 1 => runF 2 2 (sSeq (sIf (tCmp cEq (eIdx (eLoc 0) (eC (.int 0))) (eC (.str "whole"))) (sSeq (sRet (eIdx (eLoc 0) (eC (.int 1)))) sNil) sNil) (sSeq (sIf (tCmp cEq (eIdx (eLoc 0) (eC (.int 0))) (eC (.str "name"))) (sSeq (sRet (eGet (eLoc 1) (eIdx (eLoc 0) (eC (.int 1))) (eC (.int 0)))) sNil) sNil) (sSeq (sAsgR [2, 3] (eTup (lCons (eCall (F_worth n) (lCons (eIdx (eLoc 0) (eC (.int 2))) (lCons (eLoc 1) lNil))) (lCons (eCall (F_worth n) (lCons (eIdx (eLoc 0) (eC (.int 3))) (lCons (eLoc 1) lNil))) lNil)))) (sSeq (sIf (tCmp cEq (eIdx (eLoc 0) (eC (.int 1))) (eC (.str "+"))) (sSeq (sRet (eBin opAdd (eLoc 2) (eLoc 3))) sNil) sNil) (sSeq (sRet (eIf (tCmp cEq (eIdx (eLoc 0) (eC (.int 1))) (eC (.str "<"))) (eBin opSub (eC (.int 0)) (eBlt bInt (lCons (eCmp cLt (eLoc 2) (eLoc 3)) lNil))) (eBin opSub (eLoc 2) (eLoc 3)))) sNil)))))

noncomputable def F_run_worth : FF := runF 2 1 (sSeq (sAsg (gName 2) (eUn (attrOf 556 "worth_of") (eLoc 0))) (sSeq (sRet (eCallL 581 (F_worth 5) (eLoc 2) (lCons (eLoc 1) (lCons (eUn (attrOf 556 "values") (eLoc 0)) lNil)))) sNil))

noncomputable def F_fits : FF := runF 2 0 (sSeq (sRet (eChain cLe cLt (eUn unNeg (eBin opShl (eC (.int 1)) (eBin opSub (eLoc 1) (eC (.int 1))))) (eLoc 0) (eBin opShl (eC (.int 1)) (eBin opSub (eLoc 1) (eC (.int 1)))))) sNil)

noncomputable def F_whole_of : FF := runF 2 1 (sSeq (sIf (tVal (eIs bIsStr (eLoc 0))) sNo sNil) (sSeq (sAsg (gName 2) (eIf (tVal (eIs bIsTup (eLoc 0))) eNo (eLoc 0))) (sSeq (sIf (tNot (tVal (eCall F_fits (lCons (eLoc 2) (lCons (eLoc 1) lNil))))) sNo sNil) (sSeq (sRet (eLoc 2)) sNil))))

noncomputable def F_run_whole : FF := runF 2 0 (sSeq (sRet (eCall F_whole_of (lCons (eMeth 556 "worth" F_run_worth (eLoc 0) (lCons (eLoc 1) lNil)) (lCons (eUn (attrOf 556 "bits") (eLoc 0)) lNil)))) sNil)

noncomputable def F_chosen : FF := runF 2 0 (sSeq (sIf (tNot (tChain cLe cLe (eC (.int 0)) (eLoc 0) (eC (.int 255)))) sNo sNil) (sSeq (sRet (eIf (tChain cLe cLe (eC (.int 1)) (eLoc 0) (eLoc 1)) (eBin opSub (eLoc 0) (eC (.int 1))) (eC .none))) sNil))

noncomputable def F_put_upon : FF := runF 2 0 (sSeq (sIf (tCmp cGe (eBlt bLen (lCons (eUn (attrOf 265 "pile") (eLoc 0)) lNil)) (eUn (attrOf 265 "most") (eLoc 0))) sNo sNil) (sSeq (sExpr (eAppend (eUn (attrOf 265 "pile") (eLoc 0)) (eLoc 1))) sNil))

noncomputable def F_gosub : FF := runF 2 0 (sSeq (sExpr (eCall F_put_upon (lCons (eLoc 0) (lCons (eTup (lCons (eC (.str "GOSUB")) (lCons (eLoc 1) lNil))) lNil)))) sNil)

noncomputable def F_is_nought : FF := runF 1 0 (sSeq (sIf (tVal (eIs bIsStr (eLoc 0))) sNo sNil) (sSeq (sRet (eIf (tVal (eIs bIsTup (eLoc 0))) (eCmp cEq (eIdx (eLoc 0) (eC (.int 0))) (eC (.int 0))) (eCmp cEq (eLoc 0) (eC (.int 0))))) sNil))

noncomputable def F_is_true : FF := runF 1 0 (sSeq (sRet (eNot (eCall F_is_nought (lCons (eLoc 0) lNil)))) sNil)

noncomputable def F_place_of : FF := runF 2 0 (sSeq (sIf (tCmp cNotIn (eLoc 1) (eUn (attrOf 380 "places") (eLoc 0))) sNo sNil) (sSeq (sRet (eIdx (eUn (attrOf 380 "places") (eLoc 0)) (eLoc 1))) sNil))

noncomputable def F_cut_to : FF := runF 2 0 (sSeq (sAsg (gAttr 265 "pile" (eLoc 0)) (eBin opUpto (eUn (attrOf 265 "pile") (eLoc 0)) (eLoc 1))) sNil)

noncomputable def L0_floor_of : SF := (sSeq (sIf (tCmp cEq (eIdx (eIdx (eLoc 0) (eBin opSub (eLoc 1) (eC (.int 1)))) (eC (.int 0))) (eC (.str "GOSUB"))) (sSeq (sRet (eLoc 1)) sNil) sNil) sNil)
noncomputable def F_floor_of : FF := runF 1 1 (sSeq (sFor (iRngD (lCons (eBlt bLen (lCons (eLoc 0) lNil)) (lCons (eC (.int 0)) (lCons (eUn unNeg (eC (.int 1))) lNil)))) (gName 1) L0_floor_of) (sSeq (sRet (eC (.int 0))) sNil))

noncomputable def F_return_place : FF := runF 1 2 (sSeq (sAsg (gName 1) (eCall F_floor_of (lCons (eUn (attrOf 265 "pile") (eLoc 0)) lNil))) (sSeq (sIf (tCmp cEq (eLoc 1) (eC (.int 0))) sNo sNil) (sSeq (sAsg (gName 2) (eIdx (eIdx (eUn (attrOf 265 "pile") (eLoc 0)) (eBin opSub (eLoc 1) (eC (.int 1)))) (eC (.int 1)))) (sSeq (sExpr (eCall F_cut_to (lCons (eLoc 0) (lCons (eBin opSub (eLoc 1) (eC (.int 1))) lNil)))) (sSeq (sRet (eLoc 2)) sNil)))))

noncomputable def F_do_jump : FF := runF 3 5 (sSeq (sAsg (gName 3) (eIdx (eLoc 2) (eC (.int 0)))) (sSeq (sIf (tCmp cEq (eLoc 3) (eC (.str "IFNOT"))) (sSeq (sRet (eIf (tVal (eCall F_is_true (lCons (eMeth 556 "worth" F_run_worth (eLoc 0) (lCons (eIdx (eLoc 2) (eC (.int 1))) lNil)) lNil))) (eBin opAdd (eLoc 1) (eC (.int 1))) (eIdx (eLoc 2) (eC (.int 2))))) sNil) sNil) (sSeq (sIf (tCmp cEq (eLoc 3) (eC (.str "JUMP"))) (sSeq (sRet (eIdx (eLoc 2) (eC (.int 1)))) sNil) sNil) (sSeq (sIf (tCmp cEq (eLoc 3) (eC (.str "RETURN"))) (sSeq (sAsg (gName 4) (eCall F_return_place (lCons (eUn (attrOf 556 "control") (eLoc 0)) lNil))) (sSeq (sRet (eIf (tCmp cIs (eIdx (eLoc 2) (eC (.int 1))) (eC .none)) (eLoc 4) (eCall F_place_of (lCons (eUn (attrOf 556 "flat") (eLoc 0)) (lCons (eIdx (eLoc 2) (eC (.int 1))) lNil))))) sNil)) sNil) (sSeq (sAsg (gName 5) (eIdx (eLoc 2) (eC (.int 1)))) (sSeq (sIf (tCmp cEq (eLoc 3) (eC (.str "ONGO"))) (sSeq (sAsg (gName 6) (eCall F_chosen (lCons (eMeth 556 "whole" F_run_whole (eLoc 0) (lCons (eIdx (eLoc 2) (eC (.int 2))) lNil)) (lCons (eBlt bLen (lCons (eIdx (eLoc 2) (eC (.int 3))) lNil)) lNil)))) (sSeq (sIf (tCmp cIs (eLoc 6) (eC .none)) (sSeq (sRet (eBin opAdd (eLoc 1) (eC (.int 1)))) sNil) sNil) (sSeq (sAsgR [3, 5] (eTup (lCons (eIdx (eLoc 2) (eC (.int 1))) (lCons (eIdx (eIdx (eLoc 2) (eC (.int 3))) (eLoc 6)) lNil)))) sNil))) sNil) (sSeq (sAsg (gName 7) (eCall F_place_of (lCons (eUn (attrOf 556 "flat") (eLoc 0)) (lCons (eLoc 5) lNil)))) (sSeq (sIf (tCmp cEq (eLoc 3) (eC (.str "GOSUB"))) (sSeq (sExpr (eCall F_gosub (lCons (eUn (attrOf 556 "control") (eLoc 0)) (lCons (eBin opAdd (eLoc 1) (eC (.int 1))) lNil)))) sNil) sNil) (sSeq (sRet (eLoc 7)) sNil)))))))))

noncomputable def L0_found_at : SF := (sSeq (sIf (tAnd (tCmp cEq (eIdx (eIdx (eLoc 0) (eLoc 3)) (eC (.int 0))) (eLoc 1)) (tAnd (tCmp cIn (eLoc 2) (eTup (lCons (eC (.str "")) (lCons (eIdx (eIdx (eLoc 0) (eLoc 3)) (eC (.int 1))) lNil)))) tT)) (sSeq (sRet (eLoc 3)) sNil) sNil) sNil)
noncomputable def F_found_at : FF := runF 3 1 (sSeq (sFor (iRngD (lCons (eBin opSub (eBlt bLen (lCons (eLoc 0) lNil)) (eC (.int 1))) (lCons (eBin opSub (eCall F_floor_of (lCons (eLoc 0) lNil)) (eC (.int 1))) (lCons (eUn unNeg (eC (.int 1))) lNil)))) (gName 3) L0_found_at) (sSeq (sRet (eUn unNeg (eC (.int 1)))) sNil))

noncomputable def F_for_begin : FF := runF 5 1 (sSeq (sAsg (gName 5) (eCall F_found_at (lCons (eUn (attrOf 265 "pile") (eLoc 0)) (lCons (eC (.str "FOR")) (lCons (eLoc 1) lNil))))) (sSeq (sIf (tCmp cGe (eLoc 5) (eC (.int 0))) (sSeq (sExpr (eCall F_cut_to (lCons (eLoc 0) (lCons (eLoc 5) lNil)))) sNil) sNil) (sSeq (sExpr (eCall F_put_upon (lCons (eLoc 0) (lCons (eTup (lCons (eC (.str "FOR")) (lCons (eLoc 1) (lCons (eLoc 2) (lCons (eLoc 3) (lCons (eLoc 4) lNil)))))) lNil)))) sNil)))

noncomputable def F_is_whole : FF := runF 1 0 (sSeq (sIf (tVal (eIs bIsStr (eLoc 0))) sNo sNil) (sSeq (sRet (eNot (eIs bIsTup (eLoc 0)))) sNil))

noncomputable def F_order_of : FF := runF 2 0 (sSeq (sIf (tCmp cNe (eIs bIsStr (eLoc 0)) (eIs bIsStr (eLoc 1))) sNo sNil) (sSeq (sIf (tOr (tVal (eIs bIsStr (eLoc 0))) (tOr (tAnd (tVal (eCall F_is_whole (lCons (eLoc 0) lNil))) (tAnd (tVal (eCall F_is_whole (lCons (eLoc 1) lNil))) tT)) tF)) (sSeq (sRet (eBin opSub (eCmp cGt (eLoc 0) (eLoc 1)) (eCmp cLt (eLoc 0) (eLoc 1)))) sNil) sNil) sNo))

noncomputable def F_sign_of : FF := runF 1 1 (sSeq (sIf (tVal (eIs bIsStr (eLoc 0))) sNo sNil) (sSeq (sAsg (gName 1) (eIf (tVal (eIs bIsTup (eLoc 0))) (eIdx (eLoc 0) (eC (.int 0))) (eLoc 0))) (sSeq (sRet (eBin opSub (eCmp cGt (eLoc 1) (eC (.int 0))) (eCmp cLt (eLoc 1) (eC (.int 0))))) sNil)))

noncomputable def F_is_past : FF := runF 4 0 (sSeq (sRet (eIf (tCmp cGe (eCall F_sign_of (lCons (eLoc 2) lNil)) (eC (.int 0))) (eCmp cLt (eCallL 248 F_order_of (eLoc 3) (lCons (eLoc 1) (lCons (eLoc 0) lNil))) (eC (.int 0))) (eCmp cLt (eCallL 248 F_order_of (eLoc 3) (lCons (eLoc 0) (lCons (eLoc 1) lNil))) (eC (.int 0))))) sNil)

noncomputable def F_for_name : FF := runF 2 1 (sSeq (sAsg (gName 2) (eCall F_found_at (lCons (eUn (attrOf 265 "pile") (eLoc 0)) (lCons (eC (.str "FOR")) (lCons (eLoc 1) lNil))))) (sSeq (sIf (tCmp cLt (eLoc 2) (eC (.int 0))) sNo sNil) (sSeq (sRet (eIdx (eIdx (eUn (attrOf 265 "pile") (eLoc 0)) (eLoc 2)) (eC (.int 1)))) sNil)))

noncomputable def F_settled : FF := runF 3 0 (sSeq (sRet (eIf (tVal (eCall F_fits (lCons (eLoc 0) (lCons (eLoc 1) lNil)))) (eLoc 0) eNo)) sNil)

noncomputable def F_whole_reckoned : FF := runF 5 0 (sSeq (sIf (tCmp cEq (eLoc 0) (eC (.str "+"))) (sSeq (sRet (eCall F_settled (lCons (eBin opAdd (eLoc 1) (eLoc 2)) (lCons (eLoc 3) (lCons (eLoc 4) lNil))))) sNil) sNil) (sSeq (sRet (eCall F_settled (lCons (eIf (tCmp cEq (eLoc 0) (eC (.str "-"))) (eBin opSub (eLoc 1) (eLoc 2)) (eBin opMul (eLoc 1) (eLoc 2))) (lCons (eLoc 3) (lCons (eLoc 4) lNil))))) sNil))

noncomputable def F_reckoned : FF := runF 5 5 (sSeq (sAsgR [5, 6] (eTup (lCons (eCall F_is_whole (lCons (eLoc 1) lNil)) (lCons (eCall F_is_whole (lCons (eLoc 2) lNil)) lNil)))) (sSeq (sIf (tCmp cEq (eLoc 0) (eC (.str "^"))) sNo sNil) (sSeq (sIf (tOr (tCmp cEq (eLoc 0) (eC (.str "\\"))) (tOr (tCmp cEq (eLoc 0) (eC (.str "MOD"))) tF)) sNo sNil) (sSeq (sIf (tAnd (tCmp cNe (eLoc 0) (eC (.str "/"))) (tAnd (tVal (eLoc 5)) (tAnd (tVal (eLoc 6)) tT))) (sSeq (sRet (eCall F_whole_reckoned (lCons (eLoc 0) (lCons (eLoc 1) (lCons (eLoc 2) (lCons (eLoc 3) (lCons (eLoc 4) lNil))))))) sNil) sNil) sNo))))

noncomputable def F_run_plus : FF := runF 3 0 (sSeq (sRet (eCall F_reckoned (lCons (eC (.str "+")) (lCons (eLoc 1) (lCons (eLoc 2) (lCons (eUn (attrOf 556 "bits") (eLoc 0)) (lCons (eUn (attrOf 556 "digits") (eLoc 0)) lNil))))))) sNil)

noncomputable def F_for_next : FF := runF 5 6 (sSeq (sAsg (gName 5) (eCall F_found_at (lCons (eUn (attrOf 265 "pile") (eLoc 0)) (lCons (eC (.str "FOR")) (lCons (eLoc 1) lNil))))) (sSeq (sIf (tCmp cLt (eLoc 5) (eC (.int 0))) sNo sNil) (sSeq (sAsg (gTup [(gName 6), (gName 7), (gName 8), (gName 9), (gName 10)]) (eIdx (eUn (attrOf 265 "pile") (eLoc 0)) (eLoc 5))) (sSeq (sAsg (gName 2) (eCallB 546 F_run_plus (eLoc 3) (lCons (eLoc 2) (lCons (eLoc 10) lNil)))) (sSeq (sIf (tVal (eCall F_is_past (lCons (eLoc 2) (lCons (eLoc 9) (lCons (eLoc 10) (lCons (eLoc 4) lNil)))))) (sSeq (sExpr (eCall F_cut_to (lCons (eLoc 0) (lCons (eLoc 5) lNil)))) (sSeq (sRet (eTup (lCons (eLoc 2) (lCons (eC .none) lNil)))) sNil)) sNil) (sSeq (sExpr (eCall F_cut_to (lCons (eLoc 0) (lCons (eBin opAdd (eLoc 5) (eC (.int 1))) lNil)))) (sSeq (sRet (eTup (lCons (eLoc 2) (lCons (eLoc 8) lNil)))) sNil)))))))

noncomputable def L0_next_from : SF := (sSeq (sAsg (gName 4) (eCall F_for_name (lCons (eUn (attrOf 556 "control") (eLoc 0)) (lCons (eLoc 3) lNil)))) (sSeq (sAsg (gTup [(gName 5), (gName 6)]) (eCall F_for_next (lCons (eUn (attrOf 556 "control") (eLoc 0)) (lCons (eLoc 4) (lCons (eMeth 556 "value_of_name" F_run_value_of_name (eLoc 0) (lCons (eLoc 4) lNil)) (lCons (eUn (boundOf 556 546 "plus") (eLoc 0)) (lCons (eC (.fn 248)) lNil))))))) (sSeq (sExpr (eMeth 556 "store" F_run_store (eLoc 0) (lCons (eLoc 4) (lCons (eLoc 5) lNil)))) (sSeq (sIf (tCmp cIsNot (eLoc 6) (eC .none)) (sSeq (sRet (eLoc 6)) sNil) sNil) sNil))))
noncomputable def F_next_from : FF := runF 3 4 (sSeq (sFor (iVal (eLoc 2)) (gName 3) L0_next_from) (sSeq (sRet (eBin opAdd (eLoc 1) (eC (.int 1)))) sNil))

noncomputable def F_next_of_for : FF := runF 2 0 (sSeq (sIf (tCmp cNotIn (eLoc 1) (eUn (attrOf 380 "loops") (eLoc 0))) sNo sNil) (sSeq (sRet (eIdx (eUn (attrOf 380 "loops") (eLoc 0)) (eLoc 1))) sNil))

noncomputable def L0_do_for : SF := (sSeq (sIf (tVal (eIs bIsStr (eLoc 11))) sNo sNil) sNil)
noncomputable def F_do_for : FF := runF 3 12 (sSeq (sAsg (gTup [(gName 3), (gName 4), (gName 5), (gName 6), (gName 7)]) (eLoc 2)) (sSeq (sAsgR [8, 9] (eTup (lCons (eMeth 556 "worth" F_run_worth (eLoc 0) (lCons (eLoc 5) lNil)) (lCons (eMeth 556 "worth" F_run_worth (eLoc 0) (lCons (eLoc 6) lNil)) lNil)))) (sSeq (sAsg (gName 10) (eIf (tCmp cIs (eLoc 7) (eC .none)) (eC (.int 1)) (eMeth 556 "worth" F_run_worth (eLoc 0) (lCons (eLoc 7) lNil)))) (sSeq (sFor (iVal (eTup (lCons (eLoc 8) (lCons (eLoc 9) (lCons (eLoc 10) lNil))))) (gName 11) L0_do_for) (sSeq (sExpr (eMeth 556 "store" F_run_store (eLoc 0) (lCons (eLoc 4) (lCons (eLoc 8) lNil)))) (sSeq (sIf (tNot (tVal (eCall F_is_past (lCons (eMeth 556 "value_of_name" F_run_value_of_name (eLoc 0) (lCons (eLoc 4) lNil)) (lCons (eLoc 9) (lCons (eLoc 10) (lCons (eC (.fn 248)) lNil))))))) (sSeq (sExpr (eCall F_for_begin (lCons (eUn (attrOf 556 "control") (eLoc 0)) (lCons (eLoc 4) (lCons (eBin opAdd (eLoc 1) (eC (.int 1))) (lCons (eLoc 9) (lCons (eLoc 10) lNil))))))) (sSeq (sRet (eBin opAdd (eLoc 1) (eC (.int 1)))) sNil)) sNil) (sSeq (sAsg (gTup [(gName 12), (gName 13)]) (eCall F_next_of_for (lCons (eUn (attrOf 556 "flat") (eLoc 0)) (lCons (eLoc 1) lNil)))) (sSeq (sAsg (gName 14) (eIdx (eIdx (eIdx (eUn (attrOf 380 "rows") (eUn (attrOf 556 "flat") (eLoc 0))) (eLoc 12)) (eC (.int 1))) (eC (.int 1)))) (sSeq (sRet (eCall F_next_from (lCons (eLoc 0) (lCons (eLoc 12) (lCons (eBin opFrom (eLoc 14) (eBin opAdd (eLoc 13) (eC (.int 1)))) lNil))))) sNil)))))))))

noncomputable def F_end_of_while : FF := runF 2 0 (sSeq (sIf (tCmp cNotIn (eLoc 1) (eUn (attrOf 380 "pairs") (eLoc 0))) sNo sNil) (sSeq (sRet (eIdx (eUn (attrOf 380 "pairs") (eLoc 0)) (eLoc 1))) sNil))

noncomputable def F_wend_place : FF := runF 1 1 (sSeq (sAsg (gName 1) (eCall F_found_at (lCons (eUn (attrOf 265 "pile") (eLoc 0)) (lCons (eC (.str "WHILE")) (lCons (eC (.str "")) lNil))))) (sSeq (sIf (tCmp cLt (eLoc 1) (eC (.int 0))) sNo sNil) (sSeq (sExpr (eCall F_cut_to (lCons (eLoc 0) (lCons (eBin opAdd (eLoc 1) (eC (.int 1))) lNil)))) (sSeq (sRet (eIdx (eIdx (eUn (attrOf 265 "pile") (eLoc 0)) (eLoc 1)) (eC (.int 1)))) sNil))))

noncomputable def B_while_begin (c_place c_pile : V) : SF := (sSeq (sAsg (gName 1) (eComp (iRng2 (lCons (eCall F_floor_of (lCons (eC c_pile) lNil)) (lCons (eBlt bLen (lCons (eC c_pile) lNil)) lNil))) (tCmp cEq (eIdx (eC c_pile) (eLoc 0)) (eTup (lCons (eC (.str "WHILE")) (lCons (eC c_place) lNil)))))) (sSeq (sIf (tCmp cNe (eLoc 1) (eList lNil)) (sSeq (sExpr (eCall F_cut_to (lCons (eLoc 0) (lCons (eBin opAdd (eIdx (eLoc 1) (eC (.int 0))) (eC (.int 1))) lNil)))) sNil) (sSeq (sExpr (eCall F_put_upon (lCons (eLoc 0) (lCons (eTup (lCons (eC (.str "WHILE")) (lCons (eC c_place) lNil))) lNil)))) sNil)) sNil))
noncomputable def F_while_begin : FF := fun vs σ P => on2 vs fun ct pl => onInt pl fun pl => attrOf 265 "pile" ct σ fun pv σ => onRef pv fun ip => B_while_begin (.int pl) (.ref ip) [some ct, none] σ fun x _ σ => P (flV x) σ

noncomputable def B_while_end (c_place c_pile : V) : SF := (sSeq (sAsg (gName 1) (eComp (iRng2 (lCons (eCall F_floor_of (lCons (eC c_pile) lNil)) (lCons (eBlt bLen (lCons (eC c_pile) lNil)) lNil))) (tCmp cEq (eIdx (eC c_pile) (eLoc 0)) (eTup (lCons (eC (.str "WHILE")) (lCons (eC c_place) lNil)))))) (sSeq (sIf (tCmp cNe (eLoc 1) (eList lNil)) (sSeq (sExpr (eCall F_cut_to (lCons (eLoc 0) (lCons (eIdx (eLoc 1) (eC (.int 0))) lNil)))) sNil) sNil) sNil))
noncomputable def F_while_end : FF := fun vs σ P => on2 vs fun ct pl => onInt pl fun pl => attrOf 265 "pile" ct σ fun pv σ => onRef pv fun ip => B_while_end (.int pl) (.ref ip) [some ct, none] σ fun x _ σ => P (flV x) σ

noncomputable def F_do_loop : FF := runF 3 1 (sSeq (sAsg (gName 3) (eIdx (eLoc 2) (eC (.int 0)))) (sSeq (sIf (tCmp cEq (eLoc 3) (eC (.str "FOR"))) (sSeq (sRet (eCall F_do_for (lCons (eLoc 0) (lCons (eLoc 1) (lCons (eLoc 2) lNil))))) sNil) sNil) (sSeq (sIf (tCmp cEq (eLoc 3) (eC (.str "NEXT"))) (sSeq (sRet (eCall F_next_from (lCons (eLoc 0) (lCons (eLoc 1) (lCons (eIf (tCmp cGt (eBlt bLen (lCons (eIdx (eLoc 2) (eC (.int 1))) lNil)) (eC (.int 0))) (eIdx (eLoc 2) (eC (.int 1))) (eList (lCons (eC (.str "")) lNil))) lNil))))) sNil) sNil) (sSeq (sIf (tCmp cEq (eLoc 3) (eC (.str "WEND"))) (sSeq (sRet (eCall F_wend_place (lCons (eUn (attrOf 556 "control") (eLoc 0)) lNil))) sNil) sNil) (sSeq (sIf (tVal (eCall F_is_true (lCons (eMeth 556 "worth" F_run_worth (eLoc 0) (lCons (eIdx (eLoc 2) (eC (.int 1))) lNil)) lNil))) (sSeq (sExpr (eCall F_while_begin (lCons (eUn (attrOf 556 "control") (eLoc 0)) (lCons (eLoc 1) lNil)))) (sSeq (sRet (eBin opAdd (eLoc 1) (eC (.int 1)))) sNil)) sNil) (sSeq (sExpr (eCall F_while_end (lCons (eUn (attrOf 556 "control") (eLoc 0)) (lCons (eLoc 1) lNil)))) (sSeq (sRet (eBin opAdd (eCall F_end_of_while (lCons (eUn (attrOf 556 "flat") (eLoc 0)) (lCons (eLoc 1) lNil))) (eC (.int 1)))) sNil)))))))

noncomputable def F_do_flow : FF := runF 3 0 (sSeq (sRet (eIf (tCmp cIn (eIdx (eLoc 2) (eC (.int 0))) (eC vJUMPS)) (eCall F_do_jump (lCons (eLoc 0) (lCons (eLoc 1) (lCons (eLoc 2) lNil)))) (eCall F_do_loop (lCons (eLoc 0) (lCons (eLoc 1) (lCons (eLoc 2) lNil)))))) sNil)

noncomputable def L0_run_go : SF := (sSeq (sIf (tCmp cGe (eLoc 1) (eBlt bLen (lCons (eUn (attrOf 380 "rows") (eUn (attrOf 556 "flat") (eLoc 0))) lNil))) (sSeq (sRet (eLoc 1)) sNil) sNil) (sSeq (sAsg (gName 4) (eIdx (eIdx (eUn (attrOf 380 "rows") (eUn (attrOf 556 "flat") (eLoc 0))) (eLoc 1)) (eC (.int 1)))) (sSeq (sIf (tCmp cEq (eIdx (eLoc 4) (eC (.int 0))) (eC (.str "LET"))) (sSeq (sExpr (eMeth 556 "store" F_run_store (eLoc 0) (lCons (eIdx (eIdx (eLoc 4) (eC (.int 1))) (eC (.int 1))) (lCons (eMeth 556 "worth" F_run_worth (eLoc 0) (lCons (eIdx (eLoc 4) (eC (.int 2))) lNil)) lNil)))) (sSeq (sAug opIAdd 1 (eC (.int 1))) sNil)) (sSeq (sIf (tCmp cEq (eIdx (eLoc 4) (eC (.int 0))) (eC (.str "REM"))) (sSeq (sExpr (eAppend (eUn (attrOf 556 "notes") (eLoc 0)) (eTup (lCons (eIdx (eLoc 4) (eC (.int 1))) (lCons (eMeth 556 "value_of_name" F_run_value_of_name (eLoc 0) (lCons (eC (.str "X")) lNil)) lNil))))) (sSeq (sAug opIAdd 1 (eC (.int 1))) sNil)) (sSeq (sIf (tCmp cEq (eIdx (eLoc 4) (eC (.int 0))) (eC (.str "END"))) (sSeq (sRet (eBlt bLen (lCons (eUn (attrOf 380 "rows") (eUn (attrOf 556 "flat") (eLoc 0))) lNil))) sNil) (sSeq (sAsg (gName 1) (eCall F_do_flow (lCons (eLoc 0) (lCons (eLoc 1) (lCons (eLoc 4) lNil))))) sNil)) sNil)) sNil)) sNil)))
noncomputable def F_run_go : FF := runF 3 2 (sSeq (sFor (iRng1 (lCons (eLoc 2) lNil)) (gName 3) L0_run_go) (sSeq (sRet (eUn unNeg (eC (.int 1)))) sNil))

noncomputable def L0_all : SF := (sSeq (sAsg (gName 1) (eBin opAdd (eBin opMul (eLoc 1) (eC (.int 65536))) (eBin opMod (eBlt bAbs (lCons (eLoc 2) lNil)) (eC (.int 65536))))) sNil)
noncomputable def F_all (sa : Nat) (ns : List Int) : FF := runF 1 2 (sSeq (sAsg (gName 1) (eC (.int 0))) (sSeq (sFor (iVal (eUn opRev (eBin (opUptoS sa ns) (eLoc 0) (eC (.int 24))))) (gName 2) L0_all) (sSeq (sRet (eLoc 1)) sNil)))

noncomputable def F_take : FF := runF 2 1 (sSeq (sAsg (gSub (eLoc 0) (eC (.int 1))) (eBin opAdd (eIdx (eLoc 0) (eC (.int 1))) (eC (.int 1)))) (sSeq (sIf (tCmp cGt (eIdx (eLoc 0) (eC (.int 0))) (eC (.int 0))) (sSeq (sAsg (gName 2) (eBin opMod (eIdx (eLoc 0) (eC (.int 0))) (eLoc 1))) (sSeq (sAsg (gSub (eLoc 0) (eC (.int 0))) (eBin opDiv (eIdx (eLoc 0) (eC (.int 0))) (eLoc 1))) (sSeq (sRet (eLoc 2)) sNil))) sNil) (sSeq (sRet (eBin opMod (eBin opAdd (eBin opMul (eIdx (eLoc 0) (eC (.int 1))) (eC (.int 7))) (eBin opDiv (eIdx (eLoc 0) (eC (.int 1))) (eC (.int 5)))) (eLoc 1))) sNil)))

noncomputable def L0_block (H : FF) : SF := (sSeq (sAsg (gName 5) (eIf (tCmp cGt (eLoc 1) (eC (.int 0))) (eCall F_take (lCons (eLoc 0) (lCons (eC (.int 8)) lNil))) (eCall F_take (lCons (eLoc 0) (lCons (eC (.int 4)) lNil))))) (sSeq (sIf (tCmp cEq (eLoc 5) (eC (.int 0))) (sSeq (sExpr (eAppend (eLoc 3) (eTup (lCons (eC (.str "note")) (lCons (eCall F_take (lCons (eLoc 0) (lCons (eC (.int 9)) lNil))) lNil))))) sNil) (sSeq (sIf (tCmp cLt (eLoc 5) (eC (.int 3))) (sSeq (sExpr (eAppend (eLoc 3) (eTup (lCons (eC (.str "add")) (lCons (eBin opSub (eCall F_take (lCons (eLoc 0) (lCons (eC (.int 7)) lNil))) (eC (.int 3))) lNil))))) sNil) (sSeq (sIf (tCmp cEq (eLoc 5) (eC (.int 3))) (sSeq (sExpr (eAppend (eLoc 3) (eTup (lCons (eC (.str "choice")) (lCons (eBin opSub (eCall F_take (lCons (eLoc 0) (lCons (eC (.int 9)) lNil))) (eC (.int 2))) (lCons (eCall F_take (lCons (eLoc 0) (lCons (eC (.int 9)) lNil))) (lCons (eCall F_take (lCons (eLoc 0) (lCons (eC (.int 2)) lNil))) lNil))))))) sNil) (sSeq (sIf (tCmp cLt (eLoc 5) (eC (.int 6))) (sSeq (sAsgR [6, 7, 8] (eTup (lCons (eCall F_take (lCons (eLoc 0) (lCons (eC (.int 3)) lNil))) (lCons (eCall F_take (lCons (eLoc 0) (lCons (eC (.int 3)) lNil))) (lCons (eIdx (eList (lCons (eC (.int 1)) (lCons (eC (.int 2)) (lCons (eUn unNeg (eC (.int 1))) (lCons (eUn unNeg (eC (.int 2))) lNil))))) (eCall F_take (lCons (eLoc 0) (lCons (eC (.int 4)) lNil)))) lNil))))) (sSeq (sExpr (eAppend (eLoc 3) (eTup (lCons (eC (.str "for")) (lCons (eIdx (eC (.str "IJK")) (eLoc 1)) (lCons (eLoc 6) (lCons (eLoc 7) (lCons (eLoc 8) (lCons (eCall H (lCons (eLoc 0) (lCons (eBin opSub (eLoc 1) (eC (.int 1))) (lCons (eLoc 2) lNil)))) lNil))))))))) sNil)) (sSeq (sIf (tCmp cEq (eLoc 5) (eC (.int 6))) (sSeq (sAsg (gSub (eLoc 2) (eC (.int 0))) (eBin opAdd (eIdx (eLoc 2) (eC (.int 0))) (eC (.int 1)))) (sSeq (sExpr (eAppend (eLoc 3) (eTup (lCons (eC (.str "while")) (lCons (eBin opAdd (eC (.str "W")) (eBlt bStr (lCons (eIdx (eLoc 2) (eC (.int 0))) lNil))) (lCons (eCall F_take (lCons (eLoc 0) (lCons (eC (.int 3)) lNil))) (lCons (eCall H (lCons (eLoc 0) (lCons (eBin opSub (eLoc 1) (eC (.int 1))) (lCons (eLoc 2) lNil)))) lNil))))))) sNil)) (sSeq (sExpr (eAppend (eLoc 3) (eTup (lCons (eC (.str "call")) (lCons (eCall F_take (lCons (eLoc 0) (lCons (eC (.int 4)) lNil))) (lCons (eCall F_take (lCons (eLoc 0) (lCons (eC (.int 2)) lNil))) lNil)))))) sNil)) sNil)) sNil)) sNil)) sNil)) sNil))
noncomputable def F_block : Nat → FF
  | 0 => fun _ _ _ => kF
  | n + 1 => runF 3 6 (sSeq (sAsg (gName 3) (eList lNil)) (sSeq (sFor (iRng1 (lCons (eBin opAdd (eC (.int 1)) (eCall F_take (lCons (eLoc 0) (lCons (eC (.int 2)) lNil)))) lNil)) (gName 4) (L0_block (F_block n))) (sSeq (sRet (eLoc 3)) sNil)))

noncomputable def L0_go (H : FF) : SF := (sSeq (sAsg (gSub (eLoc 2) (eIdx (eLoc 4) (eC (.int 1)))) (eLoc 7)) (sSeq (sExpr (eCall H (lCons (eIdx (eLoc 4) (eC (.int 3))) (lCons (eLoc 1) (lCons (eLoc 2) (lCons (eLoc 3) lNil)))))) sNil))
noncomputable def L1_go (H : FF) : SF := (sSeq (sAsg (gSub (eLoc 2) (eIdx (eLoc 4) (eC (.int 1)))) (eLoc 5)) (sSeq (sExpr (eCall H (lCons (eIdx (eLoc 4) (eC (.int 5))) (lCons (eLoc 1) (lCons (eLoc 2) (lCons (eLoc 3) lNil)))))) (sSeq (sAsg (gName 5) (eBin opAdd (eLoc 5) (eLoc 6))) sNil)))
noncomputable def L2_go (H : FF) : SF := (sSeq (sIf (tCmp cEq (eIdx (eLoc 4) (eC (.int 0))) (eC (.str "note"))) (sSeq (sExpr (eAppend (eLoc 3) (eTup (lCons (eBlt bStr (lCons (eIdx (eLoc 4) (eC (.int 1))) lNil)) (lCons (eIdx (eLoc 2) (eC (.str "X"))) lNil))))) sNil) (sSeq (sIf (tCmp cEq (eIdx (eLoc 4) (eC (.int 0))) (eC (.str "add"))) (sSeq (sAsg (gSub (eLoc 2) (eC (.str "X"))) (eBin opAdd (eIdx (eLoc 2) (eC (.str "X"))) (eIdx (eLoc 4) (eC (.int 1))))) sNil) (sSeq (sIf (tCmp cEq (eIdx (eLoc 4) (eC (.int 0))) (eC (.str "choice"))) (sSeq (sIf (tCmp cLt (eIdx (eLoc 2) (eC (.str "X"))) (eIdx (eLoc 4) (eC (.int 1)))) (sSeq (sExpr (eAppend (eLoc 3) (eTup (lCons (eBin opAdd (eC (.str "t")) (eBlt bStr (lCons (eIdx (eLoc 4) (eC (.int 2))) lNil))) (lCons (eIdx (eLoc 2) (eC (.str "X"))) lNil))))) (sSeq (sAsg (gSub (eLoc 2) (eC (.str "X"))) (eBin opSub (eIdx (eLoc 2) (eC (.str "X"))) (eC (.int 1)))) sNil)) (sSeq (sIf (tCmp cEq (eIdx (eLoc 4) (eC (.int 3))) (eC (.int 1))) (sSeq (sExpr (eAppend (eLoc 3) (eTup (lCons (eC (.str "f")) (lCons (eIdx (eLoc 2) (eC (.str "X"))) lNil))))) sNil) sNil) sNil)) sNil) (sSeq (sIf (tCmp cEq (eIdx (eLoc 4) (eC (.int 0))) (eC (.str "for"))) (sSeq (sAsgR [5, 6] (eTup (lCons (eIdx (eLoc 4) (eC (.int 2))) (lCons (eIdx (eLoc 4) (eC (.int 4))) lNil)))) (sSeq (sWhile (tIf (tCmp cGt (eLoc 6) (eC (.int 0))) (tCmp cLe (eLoc 5) (eIdx (eLoc 4) (eC (.int 3)))) (tCmp cGe (eLoc 5) (eIdx (eLoc 4) (eC (.int 3))))) (L1_go H)) (sSeq (sAsg (gSub (eLoc 2) (eIdx (eLoc 4) (eC (.int 1)))) (eLoc 5)) sNil))) (sSeq (sIf (tCmp cEq (eIdx (eLoc 4) (eC (.int 0))) (eC (.str "while"))) (sSeq (sFor (iRng1 (lCons (eIdx (eLoc 4) (eC (.int 2))) lNil)) (gName 7) (L0_go H)) (sSeq (sAsg (gSub (eLoc 2) (eIdx (eLoc 4) (eC (.int 1)))) (eIdx (eLoc 4) (eC (.int 2)))) sNil)) (sSeq (sIf (tOr (tCmp cEq (eIdx (eLoc 4) (eC (.int 2))) (eC (.int 0))) (tOr (tChain cLe cLe (eC (.int 1)) (eIdx (eLoc 4) (eC (.int 1))) (eC (.int 2))) tF)) (sSeq (sExpr (eCall H (lCons (eIdx (eLoc 1) (eIf (tCmp cEq (eIdx (eLoc 4) (eC (.int 2))) (eC (.int 0))) (eBin opMod (eIdx (eLoc 4) (eC (.int 1))) (eC (.int 2))) (eBin opSub (eIdx (eLoc 4) (eC (.int 1))) (eC (.int 1))))) (lCons (eLoc 1) (lCons (eLoc 2) (lCons (eLoc 3) lNil)))))) sNil) sNil) sNil)) sNil)) sNil)) sNil)) sNil)) sNil)
noncomputable def F_go : Nat → FF
  | 0 => fun _ _ _ => kF
  | n + 1 => runF 4 4 (sSeq (sFor (iVal (eLoc 0)) (gName 4) (L2_go (F_go n))) sNil)

noncomputable def B_put (c_base : V) : SF := (sSeq (sAsg (gName 2) (eBlt bLen (lCons (eComp (iVal (eLoc 0)) (tCmp cGe (eIdx (eLoc 0) (eC (.int 0))) (eC c_base))) lNil))) (sSeq (sExpr (eAppend (eLoc 0) (eTup (lCons (eBin opAdd (eC c_base) (eLoc 2)) (lCons (eList (lCons (eLoc 1) lNil)) lNil))))) sNil))
noncomputable def F_put : FF := fun vs σ P => match vs with
  | [] => kF
  | l :: vs => on2 vs fun b st => onInt b fun b => B_put (.int b) [some l, some st, none] σ fun x _ σ => P (flV x) σ

noncomputable def L0_lines : SF := (sSeq (sExpr (eCall F_put (lCons (eLoc 1) (lCons (eLoc 2) (lCons (eLoc 9) lNil))))) sNil)
noncomputable def L1_lines (H : FF) : SF := (sSeq (sIf (tCmp cEq (eIdx (eLoc 4) (eC (.int 0))) (eC (.str "note"))) (sSeq (sAsg (gName 5) (eList (lCons (eTup (lCons (eC (.str "REM")) (lCons (eBlt bStr (lCons (eIdx (eLoc 4) (eC (.int 1))) lNil)) lNil))) lNil))) sNil) (sSeq (sIf (tCmp cEq (eIdx (eLoc 4) (eC (.int 0))) (eC (.str "add"))) (sSeq (sAsg (gName 5) (eList (lCons (eTup (lCons (eC (.str "LET")) (lCons (eLoc 3) (lCons (eTup (lCons (eC (.str "two")) (lCons (eC (.str "+")) (lCons (eLoc 3) (lCons (eTup (lCons (eC (.str "whole")) (lCons (eIdx (eLoc 4) (eC (.int 1))) lNil))) lNil))))) lNil)))) lNil))) sNil) (sSeq (sIf (tCmp cEq (eIdx (eLoc 4) (eC (.int 0))) (eC (.str "choice"))) (sSeq (sAsg (gName 6) (eList (lCons (eTup (lCons (eC (.str "REM")) (lCons (eBin opAdd (eC (.str "t")) (eBlt bStr (lCons (eIdx (eLoc 4) (eC (.int 2))) lNil))) lNil))) (lCons (eTup (lCons (eC (.str "LET")) (lCons (eLoc 3) (lCons (eTup (lCons (eC (.str "two")) (lCons (eC (.str "-")) (lCons (eLoc 3) (lCons (eTup (lCons (eC (.str "whole")) (lCons (eC (.int 1)) lNil))) lNil))))) lNil)))) lNil)))) (sSeq (sAsg (gName 5) (eList (lCons (eTup (lCons (eC (.str "IF")) (lCons (eTup (lCons (eC (.str "two")) (lCons (eC (.str "<")) (lCons (eLoc 3) (lCons (eTup (lCons (eC (.str "whole")) (lCons (eIdx (eLoc 4) (eC (.int 1))) lNil))) lNil))))) (lCons (eLoc 6) (lCons (eBin opMul (eList (lCons (eTup (lCons (eC (.str "REM")) (lCons (eC (.str "f")) lNil))) lNil)) (eIdx (eLoc 4) (eC (.int 3)))) lNil))))) lNil))) sNil)) (sSeq (sIf (tCmp cEq (eIdx (eLoc 4) (eC (.int 0))) (eC (.str "call"))) (sSeq (sAsg (gName 7) (eList (lCons (eC (.int 1000)) (lCons (eC (.int 2000)) lNil)))) (sSeq (sAsg (gName 5) (eList (lCons (eIf (tCmp cEq (eIdx (eLoc 4) (eC (.int 2))) (eC (.int 1))) (eTup (lCons (eC (.str "ONGO")) (lCons (eC (.str "GOSUB")) (lCons (eTup (lCons (eC (.str "whole")) (lCons (eIdx (eLoc 4) (eC (.int 1))) lNil))) (lCons (eLoc 7) lNil))))) (eTup (lCons (eC (.str "GOSUB")) (lCons (eIdx (eLoc 7) (eBin opMod (eIdx (eLoc 4) (eC (.int 1))) (eC (.int 2)))) lNil)))) lNil))) sNil)) (sSeq (sAsg (gName 8) (eTup (lCons (eC (.str "name")) (lCons (eIdx (eLoc 4) (eC (.int 1))) lNil)))) (sSeq (sIf (tCmp cEq (eIdx (eLoc 4) (eC (.int 0))) (eC (.str "for"))) (sSeq (sExpr (eCall F_put (lCons (eLoc 1) (lCons (eLoc 2) (lCons (eTup (lCons (eC (.str "FOR")) (lCons (eIdx (eLoc 4) (eC (.int 1))) (lCons (eTup (lCons (eC (.str "whole")) (lCons (eIdx (eLoc 4) (eC (.int 2))) lNil))) (lCons (eTup (lCons (eC (.str "whole")) (lCons (eIdx (eLoc 4) (eC (.int 3))) lNil))) (lCons (eTup (lCons (eC (.str "whole")) (lCons (eIdx (eLoc 4) (eC (.int 4))) lNil))) lNil)))))) lNil))))) sNil) (sSeq (sExpr (eCall F_put (lCons (eLoc 1) (lCons (eLoc 2) (lCons (eTup (lCons (eC (.str "LET")) (lCons (eLoc 8) (lCons (eTup (lCons (eC (.str "whole")) (lCons (eC (.int 0)) lNil))) lNil)))) lNil))))) (sSeq (sExpr (eCall F_put (lCons (eLoc 1) (lCons (eLoc 2) (lCons (eTup (lCons (eC (.str "WHILE")) (lCons (eTup (lCons (eC (.str "two")) (lCons (eC (.str "<")) (lCons (eLoc 8) (lCons (eTup (lCons (eC (.str "whole")) (lCons (eIdx (eLoc 4) (eC (.int 2))) lNil))) lNil))))) lNil))) lNil))))) sNil))) (sSeq (sExpr (eCall H (lCons (eIdx (eLoc 4) (eUn unNeg (eC (.int 1)))) (lCons (eLoc 1) (lCons (eLoc 2) lNil))))) (sSeq (sAsg (gName 5) (eList (lCons (eTup (lCons (eC (.str "NEXT")) (lCons (eList (lCons (eIdx (eLoc 4) (eC (.int 1))) lNil)) lNil))) lNil))) (sSeq (sIf (tCmp cEq (eIdx (eLoc 4) (eC (.int 0))) (eC (.str "while"))) (sSeq (sAsg (gName 5) (eList (lCons (eTup (lCons (eC (.str "LET")) (lCons (eLoc 8) (lCons (eTup (lCons (eC (.str "two")) (lCons (eC (.str "+")) (lCons (eLoc 8) (lCons (eTup (lCons (eC (.str "whole")) (lCons (eC (.int 1)) lNil))) lNil))))) lNil)))) (lCons (eTup (lCons (eC (.str "WEND")) lNil)) lNil)))) sNil) sNil) sNil)))))) sNil)) sNil)) sNil)) (sSeq (sFor (iVal (eLoc 5)) (gName 9) L0_lines) sNil))
noncomputable def F_lines : Nat → FF
  | 0 => fun _ _ _ => kF
  | n + 1 => runF 3 7 (sSeq (sAsg (gName 3) (eTup (lCons (eC (.str "name")) (lCons (eC (.str "X")) lNil)))) (sSeq (sFor (iVal (eLoc 0)) (gName 4) (L1_lines (F_lines n))) sNil))

noncomputable def F_Flat_init : FF := runF 1 0 (sSeq (sAsg (gAttr 380 "rows" (eLoc 0)) (eList lNil)) (sSeq (sAsg (gAttr 380 "places" (eLoc 0)) eDict0) (sSeq (sAsg (gAttr 380 "data" (eLoc 0)) (eList lNil)) (sSeq (sAsg (gAttr 380 "pairs" (eLoc 0)) eDict0) (sSeq (sAsg (gAttr 380 "loops" (eLoc 0)) eDict0) (sSeq (sAsg (gAttr 380 "fns" (eLoc 0)) eDict0) sNil))))))

noncomputable def L0_end_loops : SF := (sSeq (sIf (tCmp cGt (eBlt bLen (lCons (eLoc 1) lNil)) (eC (.int 0))) (sSeq (sAsg (gSub (eUn (attrOf 380 "loops") (eLoc 0)) (eUn popOp (eLoc 1))) (eTup (lCons (eLoc 2) (lCons (eLoc 4) lNil)))) sNil) sNil) sNil)
noncomputable def F_end_loops : FF := runF 4 1 (sSeq (sFor (iRng1 (lCons (eLoc 3) lNil)) (gName 4) L0_end_loops) sNil)

noncomputable def F_join_rows : FF := runF 3 1 (sSeq (sIf (tCmp cGt (eBlt bLen (lCons (eLoc 1) lNil)) (eC (.int 0))) (sSeq (sAsg (gName 3) (eUn popOp (eLoc 1))) (sSeq (sAsg (gSub (eUn (attrOf 380 "pairs") (eLoc 0)) (eLoc 3)) (eLoc 2)) (sSeq (sAsg (gSub (eUn (attrOf 380 "pairs") (eLoc 0)) (eLoc 2)) (eLoc 3)) sNil))) sNil) sNil)

noncomputable def L0_gather : SF := (sSeq (sAsg (gTup [(gName 6), (gName 7)]) (eLoc 5)) (sSeq (sAsg (gName 8) (eIdx (eLoc 7) (eC (.int 0)))) (sSeq (sIf (tCmp cEq (eLoc 8) (eC (.str "DATA"))) sNo (sSeq (sIf (tCmp cEq (eLoc 8) (eC (.str "WHILE"))) (sSeq (sExpr (eAppend (eLoc 1) (eLoc 4))) sNil) (sSeq (sIf (tCmp cEq (eLoc 8) (eC (.str "WEND"))) (sSeq (sExpr (eCall F_join_rows (lCons (eLoc 0) (lCons (eLoc 1) (lCons (eLoc 4) lNil))))) sNil) (sSeq (sIf (tCmp cEq (eLoc 8) (eC (.str "DEFLINES"))) sNo (sSeq (sIf (tCmp cEq (eLoc 8) (eC (.str "FNEND"))) sNo (sSeq (sIf (tCmp cEq (eLoc 8) (eC (.str "FOR"))) (sSeq (sExpr (eAppend (eLoc 2) (eLoc 4))) sNil) (sSeq (sIf (tCmp cEq (eLoc 8) (eC (.str "NEXT"))) (sSeq (sExpr (eCall F_end_loops (lCons (eLoc 0) (lCons (eLoc 2) (lCons (eLoc 4) (lCons (eBlt bMax (lCons (eC (.int 1)) (lCons (eBlt bLen (lCons (eIdx (eLoc 7) (eC (.int 1))) lNil)) lNil))) lNil)))))) sNil) sNil) sNil)) sNil)) sNil)) sNil)) sNil)) sNil)) sNil)))
noncomputable def F_gather : FF := runF 1 9 (sSeq (sAsgR [1, 2, 3] (eTup (lCons (eList lNil) (lCons (eList lNil) (lCons (eList lNil) lNil))))) (sSeq (sFor (iEnum (eUn (attrOf 380 "rows") (eLoc 0))) (gTup [(gName 4), (gName 5)]) L0_gather) sNil))

noncomputable def F_put_row_of : FF := runF 3 0 (sSeq (sExpr (eAppend (eUn (attrOf 380 "rows") (eLoc 0)) (eTup (lCons (eLoc 1) (lCons (eLoc 2) lNil))))) (sSeq (sRet (eBin opSub (eBlt bLen (lCons (eUn (attrOf 380 "rows") (eLoc 0)) lNil)) (eC (.int 1)))) sNil))

noncomputable def F_put_if (G : FF) : FF := runF 3 2 (sSeq (sAsg (gName 3) (eCall F_put_row_of (lCons (eLoc 0) (lCons (eLoc 1) (lCons (eLoc 2) lNil))))) (sSeq (sExpr (eCall G (lCons (eLoc 0) (lCons (eLoc 1) (lCons (eIdx (eLoc 2) (eC (.int 2))) lNil))))) (sSeq (sIf (tCmp cEq (eBlt bLen (lCons (eIdx (eLoc 2) (eC (.int 3))) lNil)) (eC (.int 0))) (sSeq (sAsg (gSub (eUn (attrOf 380 "rows") (eLoc 0)) (eLoc 3)) (eTup (lCons (eLoc 1) (lCons (eTup (lCons (eC (.str "IFNOT")) (lCons (eIdx (eLoc 2) (eC (.int 1))) (lCons (eBlt bLen (lCons (eUn (attrOf 380 "rows") (eLoc 0)) lNil)) lNil)))) lNil)))) (sSeq sRetN sNil)) sNil) (sSeq (sAsg (gName 4) (eCall F_put_row_of (lCons (eLoc 0) (lCons (eLoc 1) (lCons (eLoc 2) lNil))))) (sSeq (sAsg (gSub (eUn (attrOf 380 "rows") (eLoc 0)) (eLoc 3)) (eTup (lCons (eLoc 1) (lCons (eTup (lCons (eC (.str "IFNOT")) (lCons (eIdx (eLoc 2) (eC (.int 1))) (lCons (eBlt bLen (lCons (eUn (attrOf 380 "rows") (eLoc 0)) lNil)) lNil)))) lNil)))) (sSeq (sExpr (eCall G (lCons (eLoc 0) (lCons (eLoc 1) (lCons (eIdx (eLoc 2) (eC (.int 3))) lNil))))) (sSeq (sAsg (gSub (eUn (attrOf 380 "rows") (eLoc 0)) (eLoc 4)) (eTup (lCons (eLoc 1) (lCons (eTup (lCons (eC (.str "JUMP")) (lCons (eBlt bLen (lCons (eUn (attrOf 380 "rows") (eLoc 0)) lNil)) lNil))) lNil)))) sNil)))))))

noncomputable def L0_put_all (H : FF) : SF := (sSeq (sIf (tCmp cEq (eIdx (eLoc 3) (eC (.int 0))) (eC (.str "IF"))) (sSeq (sExpr (eCall (F_put_if H) (lCons (eLoc 0) (lCons (eLoc 1) (lCons (eLoc 3) lNil))))) sNil) (sSeq (sExpr (eCall F_put_row_of (lCons (eLoc 0) (lCons (eLoc 1) (lCons (eLoc 3) lNil))))) sNil)) sNil)
noncomputable def F_put_all : Nat → FF
  | 0 => fun _ _ _ => kF
  | n + 1 => runF 3 1 (sSeq (sFor (iVal (eLoc 2)) (gName 3) (L0_put_all (F_put_all n))) sNil)

noncomputable def L0_flatten : SF := (sSeq (sAsg (gSub (eUn (attrOf 380 "places") (eLoc 1)) (eLoc 2)) (eBlt bLen (lCons (eUn (attrOf 380 "rows") (eLoc 1)) lNil))) (sSeq (sExpr (eCall (F_put_all 4) (lCons (eLoc 1) (lCons (eLoc 2) (lCons (eLoc 3) lNil))))) (sSeq (sIf (tCmp cEq (eIdx (eUn (attrOf 380 "places") (eLoc 1)) (eLoc 2)) (eBlt bLen (lCons (eUn (attrOf 380 "rows") (eLoc 1)) lNil))) (sSeq (sExpr (eCall F_put_row_of (lCons (eLoc 1) (lCons (eLoc 2) (lCons (eTup (lCons (eC (.str "REM")) (lCons (eC (.str "")) lNil))) lNil))))) sNil) sNil) sNil)))
noncomputable def F_flatten : FF := runF 1 3 (sSeq (sAsg (gName 1) (eNew 380 F_Flat_init lNil)) (sSeq (sFor (iVal (eLoc 0)) (gTup [(gName 2), (gName 3)]) L0_flatten) (sSeq (sExpr (eCall F_gather (lCons (eLoc 1) lNil))) (sSeq (sRet (eLoc 1)) sNil))))

noncomputable def L0_law : SF := (sSeq (sExpr (eCall (F_lines 6) (lCons (eIdx (eLoc 3) (eLoc 8)) (lCons (eLoc 5) (lCons (eBin opMul (eC (.int 1000)) (eBin opAdd (eLoc 8) (eC (.int 1)))) lNil))))) (sSeq (sExpr (eCall F_put (lCons (eLoc 5) (lCons (eBin opMul (eC (.int 1000)) (eBin opAdd (eLoc 8) (eC (.int 1)))) (lCons (eTup (lCons (eC (.str "RETURN")) (lCons (eC .none) lNil))) lNil))))) sNil))
noncomputable def L1_law : SF := (sSeq (sExpr (eCall F_put (lCons (eLoc 5) (lCons (eC (.int 10)) (lCons (eLoc 7) lNil))))) sNil)
noncomputable def F_law (sa : Nat) (ns : List Int) : FF := runF 1 11 (sSeq (sAsgR [1, 2] (eTup (lCons (eList (lCons (eCall (F_all sa ns) (lCons (eLoc 0) lNil)) (lCons (eC (.int 0)) lNil))) (lCons (eList (lCons (eC (.int 0)) lNil)) lNil)))) (sSeq (sAsg (gName 3) (eList (lCons (eList (lCons (eTup (lCons (eC (.str "note")) (lCons (eC (.int 8)) lNil))) (lCons (eTup (lCons (eC (.str "add")) (lCons (eC (.int 2)) lNil))) lNil))) (lCons (eCall (F_block 4) (lCons (eLoc 1) (lCons (eC (.int 0)) (lCons (eLoc 2) lNil)))) lNil)))) (sSeq (sAsg (gName 4) (eBin opAdd (eList (lCons (eTup (lCons (eC (.str "for")) (lCons (eC (.str "I")) (lCons (eC (.int 2)) (lCons (eC (.int 1)) (lCons (eC (.int 1)) (lCons (eList (lCons (eTup (lCons (eC (.str "note")) (lCons (eC (.int 5)) lNil))) lNil)) lNil))))))) lNil)) (eCall (F_block 4) (lCons (eLoc 1) (lCons (eC (.int 2)) (lCons (eLoc 2) lNil)))))) (sSeq (sAsg (gName 5) (eList lNil)) (sSeq (sExpr (eCall (F_lines 6) (lCons (eLoc 4) (lCons (eLoc 5) (lCons (eC (.int 10)) lNil))))) (sSeq (sAsg (gName 6) (eList (lCons (eTup (lCons (eC (.str "FOR")) (lCons (eC (.str "A")) (lCons (eTup (lCons (eC (.str "whole")) (lCons (eC (.int 1)) lNil))) (lCons (eTup (lCons (eC (.str "whole")) (lCons (eC (.int 2)) lNil))) (lCons (eC .none) lNil)))))) (lCons (eTup (lCons (eC (.str "FOR")) (lCons (eC (.str "B")) (lCons (eTup (lCons (eC (.str "whole")) (lCons (eC (.int 1)) lNil))) (lCons (eTup (lCons (eC (.str "whole")) (lCons (eC (.int 2)) lNil))) (lCons (eC .none) lNil)))))) lNil)))) (sSeq (sFor (iVal (eBin opAdd (eLoc 6) (eList (lCons (eTup (lCons (eC (.str "REM")) (lCons (eC (.str "ab")) lNil))) (lCons (eTup (lCons (eC (.str "NEXT")) (lCons (eList (lCons (eC (.str "B")) (lCons (eC (.str "A")) lNil))) lNil))) (lCons (eTup (lCons (eC (.str "END")) lNil)) lNil)))))) (gName 7) L1_law) (sSeq (sFor (iRng1 (lCons (eC (.int 2)) lNil)) (gName 8) L0_law) (sSeq (sAsgR [9, 10] (eTup (lCons (eDict1 "X" 0) (lCons (eList lNil) lNil)))) (sSeq (sExpr (eCall (F_go 12) (lCons (eLoc 4) (lCons (eLoc 3) (lCons (eLoc 9) (lCons (eLoc 10) lNil)))))) (sSeq (sAsg (gTup [(gSub (eLoc 9) (eC (.str "A"))), (gSub (eLoc 9) (eC (.str "B")))]) (eTup (lCons (eC (.int 3)) (lCons (eC (.int 3)) lNil)))) (sSeq (sAsg (gName 11) (eNew 556 F_FlowRun_init (lCons (eCall F_flatten (lCons (eLoc 5) lNil)) (lCons (eDict1 "X" 0) (lCons (eC (.fn 581)) (lCons (eC (.int 16)) (lCons (eC (.int 9)) lNil))))))) (sSeq (sIf (tCmp cNe (eMeth 556 "go" F_run_go (eLoc 11) (lCons (eC (.int 0)) (lCons (eC (.int 3000)) lNil))) (eBlt bLen (lCons (eUn (attrOf 380 "rows") (eUn (attrOf 556 "flat") (eLoc 11))) lNil))) (sSeq (sRet (eC (.bool false))) sNil) sNil) (sSeq (sRet (eAnd (eCmp cEq (eUn (attrOf 556 "notes") (eLoc 11)) (eBin opAdd (eLoc 10) (eBin opMul (eList (lCons (eTup (lCons (eC (.str "ab")) (lCons (eIdx (eLoc 9) (eC (.str "X"))) lNil))) lNil)) (eC (.int 4))))) (eCmp cEq (eUn (attrOf 556 "values") (eLoc 11)) (eLoc 9)))) sNil))))))))))))))
end Mine.E
set_option maxHeartbeats 8000000
namespace Mine.E

theorem fill : PySem.Challenge.rw_pc0009_01 = PySem.Challenge.rw_pc0009_01 ∧ hd.heap_1 = hd.heap_1 := by k_fill; exact ⟨rfl, rfl⟩

noncomputable def noStar : List Expr → Bool
  | [] => true
  | e :: r => !isStar e && noStar r
theorem plain_of {es : List Expr} (h : noStar es = true) : ∀ t ∈ es, ∀ e p, t ≠ .Starred e p := by
  induction es with
  | nil => intro t ht; cases ht
  | cons x r ih =>
    intro t ht e p q
    subst q
    cases ht with
    | head => cases h
    | tail _ ht =>
      refine ih ?_ _ ht e p rfl
      cases x <;> first | exact h | cases h

theorem ln_succ {us : List Value} {n : Nat} (h : us.length = n + 1) : ∃ a l, us = a :: l ∧ l.length = n := by
  cases us with
  | nil => cases h
  | cons a l => exact ⟨a, l, rfl, Nat.succ.inj h⟩
theorem binds_1 {fd : FuncData} {ps : List Str} (h : ∀ a, bindArgs fd ⟨[a], []⟩ = pure (ps.zip [a])) : ∀ us : List Value, us.length = 1 → bindArgs fd ⟨us, []⟩ = pure (ps.zip us) := by
  intro l0 q0
  obtain ⟨a, l1, rfl, q1⟩ := ln_succ q0
  obtain rfl := List.eq_nil_of_length_eq_zero q1
  exact h a
theorem binds_2 {fd : FuncData} {ps : List Str} (h : ∀ a b, bindArgs fd ⟨[a, b], []⟩ = pure (ps.zip [a, b])) : ∀ us : List Value, us.length = 2 → bindArgs fd ⟨us, []⟩ = pure (ps.zip us) := by
  intro l0 q0
  obtain ⟨a, l1, rfl, q1⟩ := ln_succ q0
  obtain ⟨b, l2, rfl, q2⟩ := ln_succ q1
  obtain rfl := List.eq_nil_of_length_eq_zero q2
  exact h a b
theorem binds_3 {fd : FuncData} {ps : List Str} (h : ∀ a b c, bindArgs fd ⟨[a, b, c], []⟩ = pure (ps.zip [a, b, c])) : ∀ us : List Value, us.length = 3 → bindArgs fd ⟨us, []⟩ = pure (ps.zip us) := by
  intro l0 q0
  obtain ⟨a, l1, rfl, q1⟩ := ln_succ q0
  obtain ⟨b, l2, rfl, q2⟩ := ln_succ q1
  obtain ⟨c, l3, rfl, q3⟩ := ln_succ q2
  obtain rfl := List.eq_nil_of_length_eq_zero q3
  exact h a b c
theorem binds_4 {fd : FuncData} {ps : List Str} (h : ∀ a b c d, bindArgs fd ⟨[a, b, c, d], []⟩ = pure (ps.zip [a, b, c, d])) : ∀ us : List Value, us.length = 4 → bindArgs fd ⟨us, []⟩ = pure (ps.zip us) := by
  intro l0 q0
  obtain ⟨a, l1, rfl, q1⟩ := ln_succ q0
  obtain ⟨b, l2, rfl, q2⟩ := ln_succ q1
  obtain ⟨c, l3, rfl, q3⟩ := ln_succ q2
  obtain ⟨d, l4, rfl, q4⟩ := ln_succ q3
  obtain rfl := List.eq_nil_of_length_eq_zero q4
  exact h a b c d
theorem binds_5 {fd : FuncData} {ps : List Str} (h : ∀ a b c d e, bindArgs fd ⟨[a, b, c, d, e], []⟩ = pure (ps.zip [a, b, c, d, e])) : ∀ us : List Value, us.length = 5 → bindArgs fd ⟨us, []⟩ = pure (ps.zip us) := by
  intro l0 q0
  obtain ⟨a, l1, rfl, q1⟩ := ln_succ q0
  obtain ⟨b, l2, rfl, q2⟩ := ln_succ q1
  obtain ⟨c, l3, rfl, q3⟩ := ln_succ q2
  obtain ⟨d, l4, rfl, q4⟩ := ln_succ q3
  obtain ⟨e, l5, rfl, q5⟩ := ln_succ q4
  obtain rfl := List.eq_nil_of_length_eq_zero q5
  exact h a b c d e
theorem binds_6 {fd : FuncData} {ps : List Str} (h : ∀ a b c d e f, bindArgs fd ⟨[a, b, c, d, e, f], []⟩ = pure (ps.zip [a, b, c, d, e, f])) : ∀ us : List Value, us.length = 6 → bindArgs fd ⟨us, []⟩ = pure (ps.zip us) := by
  intro l0 q0
  obtain ⟨a, l1, rfl, q1⟩ := ln_succ q0
  obtain ⟨b, l2, rfl, q2⟩ := ln_succ q1
  obtain ⟨c, l3, rfl, q3⟩ := ln_succ q2
  obtain ⟨d, l4, rfl, q4⟩ := ln_succ q3
  obtain ⟨e, l5, rfl, q5⟩ := ln_succ q4
  obtain ⟨f, l6, rfl, q6⟩ := ln_succ q5
  obtain rfl := List.eq_nil_of_length_eq_zero q6
  exact h a b c d e f

section
variable {prog : Program} {w : World} {hb : Base} {c : Fx} {d : Nat} {mg mb : Str → Option Value}
theorem cls_FlowRun : ClsK (hd.heap_1 w.params) 556 := ⟨by k_is, by k_is, by k_is, by k_is, by k_is⟩
theorem cls_Flat : ClsK (hd.heap_1 w.params) 380 := ⟨by k_is, by k_is, by k_is, by k_is, by k_is⟩
theorem cls_Control : ClsK (hd.heap_1 w.params) 265 := ⟨by k_is, by k_is, by k_is, by k_is, by k_is⟩


theorem jumps_ok (W : Wd hb (hd.heap_1 w.params) mg mb) : ∀ n h f, (∀ b o, hb.h.get? b = some o → h.get? b = some o) → RV n h f vJUMPS (.ref 462) := fun n h f k =>
  ⟨462, _, _, rfl, W.x.keeps k _ _ (by k_is), _, _, rfl, ⟨_, rfl⟩, _, _, rfl, ⟨_, rfl⟩, _, _, rfl, ⟨_, rfl⟩, _, _, rfl, ⟨_, rfl⟩, _, _, rfl, ⟨_, rfl⟩, _, _, rfl, ⟨_, rfl⟩, rfl⟩
end
end Mine.E
set_option maxHeartbeats 8000000
namespace Mine.E
section
variable {prog : Program} {w : World} {hb : Base} {mg mb : Str → Option Value} {sa : Nat} {ns : List Int} {svs : List Value}
def x_Control_init : Fx := { q := Str.ofString "Control.__init__", sc := { kind := .function, names := [(Str.ofString "self", NameKind.local), (Str.ofString "most", NameKind.local)], isGenerator := false, isCoroutine := false }, a := 262, cd := .ref 261, nm := [Str.ofString "self", Str.ofString "most"] }

theorem o_Control_init : x_Control_init.Ok := ⟨rfl, by decide +kernel, by decide +kernel⟩

theorem s_Control_init (W : Wd hb (hd.heap_1 w.params) mg mb) : SFn prog w hb 1 262 (F_Control_init) := by
  have ok := o_Control_init
  refine sfn_of (c := x_Control_init) W ok (by intro _; rfl) (ps := [Str.ofString "self", Str.ofString "most"]) (rest := []) rfl ⟨⟨_, _, _, _, _, _, _, _, _, _, _, by k_is, binds_2 (by intro _ _; rfl)⟩, by k_is, rfl, rfl, by decide +kernel⟩ ?_
  refine sb_cons ?_ ?_
  · refine ss_asg ?_ ?_ (by intro _; rfl) (by intro _; rfl) (by intro _ _ h; cases h)
    · exact (se_list sl_nil)
    · exact (sg_attr W.x cls_Control (by k_is) (se_loc ok (by rfl)))
  refine sb_cons ?_ ?_
  · refine ss_asg ?_ ?_ (by intro _; rfl) (by intro _; rfl) (by intro _ _ h; cases h)
    · exact (se_loc ok (by rfl))
    · exact (sg_attr W.x cls_Control (by k_is) (se_loc ok (by rfl)))
  refine sb_cons ?_ ?_
  · refine ss_asg ?_ ?_ (by intro _; rfl) (by intro _; rfl) (by intro _ _ h; cases h)
    · exact (se_un se_int ok_neg)
    · exact (sg_attr W.x cls_Control (by k_is) (se_loc ok (by rfl)))
  exact sb_nil

def x_FlowRun_init : Fx := { q := Str.ofString "FlowRun.__init__", sc := { kind := .function, names := [(Str.ofString "self", NameKind.local), (Str.ofString "flat", NameKind.local), (Str.ofString "values", NameKind.local), (Str.ofString "worth_of", NameKind.local), (Str.ofString "bits", NameKind.local), (Str.ofString "digits", NameKind.local), (Str.ofString "Control", NameKind.globalImplicit)], isGenerator := false, isCoroutine := false }, a := 511, cd := .ref 510, nm := [Str.ofString "self", Str.ofString "flat", Str.ofString "values", Str.ofString "worth_of", Str.ofString "bits", Str.ofString "digits"] }

theorem o_FlowRun_init : x_FlowRun_init.Ok := ⟨rfl, by decide +kernel, by decide +kernel⟩

theorem s_FlowRun_init (W : Wd hb (hd.heap_1 w.params) mg mb) : SFn prog w hb 3 511 (F_FlowRun_init) := by
  have ok := o_FlowRun_init
  refine sfn_of (c := x_FlowRun_init) W ok (by intro _; rfl) (ps := [Str.ofString "self", Str.ofString "flat", Str.ofString "values", Str.ofString "worth_of", Str.ofString "bits", Str.ofString "digits"]) (rest := []) rfl ⟨⟨_, _, _, _, _, _, _, _, _, _, _, by k_is, binds_6 (fun _ _ _ _ _ _ => rfl)⟩, by k_is, rfl, rfl, by decide +kernel⟩ ?_
  refine sb_cons ?_ ?_
  · refine ss_asg ?_ ?_ (by intro _; rfl) (by intro _; rfl) (by intro _ _ h; cases h)
    · exact (se_loc ok (by rfl))
    · exact (sg_attr W.x cls_FlowRun (by k_is) (se_loc ok (by rfl)))
  refine sb_cons ?_ ?_
  · refine ss_asg ?_ ?_ (by intro _; rfl) (by intro _; rfl) (by intro _ _ h; cases h)
    · exact (se_loc ok (by rfl))
    · exact (sg_attr W.x cls_FlowRun (by k_is) (se_loc ok (by rfl)))
  refine sb_cons ?_ ?_
  · refine ss_asg ?_ ?_ (by intro _; rfl) (by intro _; rfl) (by intro _ _ h; cases h)
    · exact (se_loc ok (by rfl))
    · exact (sg_attr W.x cls_FlowRun (by k_is) (se_loc ok (by rfl)))
  refine sb_cons ?_ ?_
  · refine ss_asg ?_ ?_ (by intro _; rfl) (by intro _; rfl) (by intro _ _ h; cases h)
    · exact (se_loc ok (by rfl))
    · exact (sg_attr W.x cls_FlowRun (by k_is) (se_loc ok (by rfl)))
  refine sb_cons ?_ ?_
  · refine ss_asg ?_ ?_ (by intro _; rfl) (by intro _; rfl) (by intro _ _ h; cases h)
    · exact (se_loc ok (by rfl))
    · exact (sg_attr W.x cls_FlowRun (by k_is) (se_loc ok (by rfl)))
  refine sb_cons ?_ ?_
  · refine ss_asg ?_ ?_ (by intro _; rfl) (by intro _; rfl) (by intro _ _ h; cases h)
    · exact (se_new W ok (by rfl) (by k_is) (by k_is) (by k_is) (by k_is) (by k_is) (plain_of (by rfl)) (sl_cons se_int sl_nil) ((s_Control_init W).le (by lia)))
    · exact (sg_attr W.x cls_FlowRun (by k_is) (se_loc ok (by rfl)))
  refine sb_cons ?_ ?_
  · refine ss_asg ?_ ?_ (by intro _; rfl) (by intro _; rfl) (by intro _ _ h; cases h)
    · exact (se_list sl_nil)
    · exact (sg_attr W.x cls_FlowRun (by k_is) (se_loc ok (by rfl)))
  exact sb_nil

def x_run_store : Fx := { q := Str.ofString "FlowRun.store", sc := { kind := .function, names := [(Str.ofString "self", NameKind.local), (Str.ofString "name", NameKind.local), (Str.ofString "value", NameKind.local)], isGenerator := false, isCoroutine := false }, a := 539, cd := .ref 538, nm := [Str.ofString "self", Str.ofString "name", Str.ofString "value"] }

theorem o_run_store : x_run_store.Ok := ⟨rfl, by decide +kernel, by decide +kernel⟩

theorem s_run_store (W : Wd hb (hd.heap_1 w.params) mg mb) : SFn prog w hb 1 539 (F_run_store) := by
  have ok := o_run_store
  refine sfn_of (c := x_run_store) W ok (by intro _; rfl) (ps := [Str.ofString "self", Str.ofString "name", Str.ofString "value"]) (rest := []) rfl ⟨⟨_, _, _, _, _, _, _, _, _, _, _, by k_is, binds_3 (fun _ _ _ => rfl)⟩, by k_is, rfl, rfl, by decide +kernel⟩ ?_
  refine sb_cons ?_ ?_
  · refine ss_asg ?_ ?_ (by intro _; rfl) (by intro _; rfl) (by intro _ _ h; cases h)
    · exact (se_loc ok (by rfl))
    · exact (sg_sub W.nolimit (se_attr W.x cls_FlowRun (by k_is) (se_loc ok (by rfl))) (se_loc ok (by rfl)))
  exact sb_nil

def x_run_value_of_name : Fx := { q := Str.ofString "FlowRun.value_of_name", sc := { kind := .function, names := [(Str.ofString "self", NameKind.local), (Str.ofString "name", NameKind.local)], isGenerator := false, isCoroutine := false }, a := 532, cd := .ref 531, nm := [Str.ofString "self", Str.ofString "name"] }

theorem o_run_value_of_name : x_run_value_of_name.Ok := ⟨rfl, by decide +kernel, by decide +kernel⟩

theorem s_run_value_of_name (W : Wd hb (hd.heap_1 w.params) mg mb) : SFn prog w hb 1 532 (F_run_value_of_name) := by
  have ok := o_run_value_of_name
  refine sfn_of (c := x_run_value_of_name) W ok (by intro _; rfl) (ps := [Str.ofString "self", Str.ofString "name"]) (rest := []) rfl ⟨⟨_, _, _, _, _, _, _, _, _, _, _, by k_is, binds_2 (by intro _ _; rfl)⟩, by k_is, rfl, rfl, by decide +kernel⟩ ?_
  refine sb_cons ?_ ?_
  · refine ss_ret ?_
    exact (se_get W (se_attr W.x cls_FlowRun (by k_is) (se_loc ok (by rfl))) (se_loc ok (by rfl)) se_int (plain_of (by rfl)) ⟨_, by intro _; rfl⟩)
  exact sb_nil

def x_worth : Fx := { q := Str.ofString "_law_worth", sc := { kind := .function, names := [(Str.ofString "tree", NameKind.local), (Str.ofString "values", NameKind.local), (Str.ofString "one", NameKind.local), (Str.ofString "other", NameKind.local), (Str.ofString "_law_worth", NameKind.globalImplicit), (Str.ofString "int", NameKind.globalImplicit)], isGenerator := false, isCoroutine := false }, a := 581, cd := .ref 580, nm := [Str.ofString "tree", Str.ofString "values", Str.ofString "one", Str.ofString "other"] }

theorem o_worth : x_worth.Ok := ⟨rfl, by decide +kernel, by decide +kernel⟩

theorem s_worth (W : Wd hb (hd.heap_1 w.params) mg mb) (n : Nat) : SFn prog w hb (1 * n + 1) 581 (F_worth n) := by
  induction n with
  | zero => exact sfn_no
  | succ n ih =>
  refine SFn.le (d := 1 * n + 1 + 1) ?_ (by lia)
  have ok := o_worth
  refine sfn_of (c := x_worth) W ok (by intro _; rfl) (ps := [Str.ofString "tree", Str.ofString "values"]) (rest := [Str.ofString "one", Str.ofString "other"]) rfl ⟨⟨_, _, _, _, _, _, _, _, _, _, _, by k_is, binds_2 (by intro _ _; rfl)⟩, by k_is, rfl, rfl, by decide +kernel⟩ ?_
  refine sb_cons ?_ ?_
  · refine ss_if ?_ ?_ ?_
    · exact (st_cmp (se_idx (se_loc ok (by rfl)) se_int) se_str (cmp_eq W.nolimit))
    · refine sb_cons ?_ ?_
      · refine ss_ret ?_
        exact (se_idx (se_loc ok (by rfl)) se_int)
      exact sb_nil
    · exact sb_nil
  refine sb_cons ?_ ?_
  · refine ss_if ?_ ?_ ?_
    · exact (st_cmp (se_idx (se_loc ok (by rfl)) se_int) se_str (cmp_eq W.nolimit))
    · refine sb_cons ?_ ?_
      · refine ss_ret ?_
        exact (se_get W (se_loc ok (by rfl)) (se_idx (se_loc ok (by rfl)) se_int) se_int (plain_of (by rfl)) ⟨_, by intro _; rfl⟩)
      exact sb_nil
    · exact sb_nil
  refine sb_cons ?_ ?_
  · refine ss_asgR (ks := [2, 3]) (names := [Str.ofString "one", Str.ofString "other"]) ok ?_ (by rfl) (by intro _; rfl) (by intro _; rfl)
    exact (se_tup (sl_cons (se_call W ok (by rfl) (by k_is) (by k_is) (plain_of (by rfl)) (sl_cons (se_idx (se_loc ok (by rfl)) se_int) (sl_cons (se_loc ok (by rfl)) sl_nil)) (ih.le (by lia))) (sl_cons (se_call W ok (by rfl) (by k_is) (by k_is) (plain_of (by rfl)) (sl_cons (se_idx (se_loc ok (by rfl)) se_int) (sl_cons (se_loc ok (by rfl)) sl_nil)) (ih.le (by lia))) sl_nil)))
  refine sb_cons ?_ ?_
  · refine ss_if ?_ ?_ ?_
    · exact (st_cmp (se_idx (se_loc ok (by rfl)) se_int) se_str (cmp_eq W.nolimit))
    · refine sb_cons ?_ ?_
      · refine ss_ret ?_
        exact (se_bin (se_loc ok (by rfl)) (se_loc ok (by rfl)) ok_add)
      exact sb_nil
    · exact sb_nil
  refine sb_cons ?_ ?_
  · refine ss_ret ?_
    exact (se_if (st_cmp (se_idx (se_loc ok (by rfl)) se_int) se_str (cmp_eq W.nolimit)) (se_bin se_int (se_type W ok (by rfl) (by k_is) (by decide +kernel) (by decide) (plain_of (by rfl)) (sl_cons (se_cmp (se_loc ok (by rfl)) (se_loc ok (by rfl)) cmp_lt) sl_nil) ok_int) ok_sub) (se_bin (se_loc ok (by rfl)) (se_loc ok (by rfl)) ok_sub))
  exact sb_nil

def x_run_worth : Fx := { q := Str.ofString "FlowRun.worth", sc := { kind := .function, names := [(Str.ofString "self", NameKind.local), (Str.ofString "tree", NameKind.local), (Str.ofString "given_worth", NameKind.local)], isGenerator := false, isCoroutine := false }, a := 518, cd := .ref 517, nm := [Str.ofString "self", Str.ofString "tree", Str.ofString "given_worth"] }

theorem o_run_worth : x_run_worth.Ok := ⟨rfl, by decide +kernel, by decide +kernel⟩

theorem s_run_worth (W : Wd hb (hd.heap_1 w.params) mg mb) : SFn prog w hb 7 518 (F_run_worth) := by
  have ok := o_run_worth
  refine sfn_of (c := x_run_worth) W ok (by intro _; rfl) (ps := [Str.ofString "self", Str.ofString "tree"]) (rest := [Str.ofString "given_worth"]) rfl ⟨⟨_, _, _, _, _, _, _, _, _, _, _, by k_is, binds_2 (by intro _ _; rfl)⟩, by k_is, rfl, rfl, by decide +kernel⟩ ?_
  refine sb_cons ?_ ?_
  · refine ss_asg ?_ ?_ (by intro _; rfl) (by intro _; rfl) (by intro _ _ h; cases h)
    · exact (se_attr W.x cls_FlowRun (by k_is) (se_loc ok (by rfl)))
    · exact (sg_name ok (by rfl))
  refine sb_cons ?_ ?_
  · refine ss_ret ?_
    exact (se_callL W (by k_is) (se_loc ok (by rfl)) (plain_of (by rfl)) (sl_cons (se_loc ok (by rfl)) (sl_cons (se_attr W.x cls_FlowRun (by k_is) (se_loc ok (by rfl))) sl_nil)) ((s_worth W 5).le (by lia)))
  exact sb_nil

def x_fits : Fx := { q := Str.ofString "fits", sc := { kind := .function, names := [(Str.ofString "number", NameKind.local), (Str.ofString "bits", NameKind.local)], isGenerator := false, isCoroutine := false }, a := 72, cd := .ref 71, nm := [Str.ofString "number", Str.ofString "bits"] }

theorem o_fits : x_fits.Ok := ⟨rfl, by decide +kernel, by decide +kernel⟩

theorem s_fits (W : Wd hb (hd.heap_1 w.params) mg mb) : SFn prog w hb 1 72 (F_fits) := by
  have ok := o_fits
  refine sfn_of (c := x_fits) W ok (by intro _; rfl) (ps := [Str.ofString "number", Str.ofString "bits"]) (rest := []) rfl ⟨⟨_, _, _, _, _, _, _, _, _, _, _, by k_is, binds_2 (by intro _ _; rfl)⟩, by k_is, rfl, rfl, by decide +kernel⟩ ?_
  refine sb_cons ?_ ?_
  · refine ss_ret ?_
    exact (se_chain (se_un (se_bin se_int (se_bin (se_loc ok (by rfl)) se_int ok_sub) ok_shl) ok_neg) (se_loc ok (by rfl)) (se_bin se_int (se_bin (se_loc ok (by rfl)) se_int ok_sub) ok_shl) cmp_le cmp_lt)
  exact sb_nil

def x_whole_of : Fx := { q := Str.ofString "whole_of", sc := { kind := .function, names := [(Str.ofString "value", NameKind.local), (Str.ofString "bits", NameKind.local), (Str.ofString "number", NameKind.local), (Str.ofString "isinstance", NameKind.globalImplicit), (Str.ofString "str", NameKind.globalImplicit), (Str.ofString "BasicError", NameKind.globalImplicit), (Str.ofString "tuple", NameKind.globalImplicit), (Str.ofString "whole_near", NameKind.globalImplicit), (Str.ofString "fits", NameKind.globalImplicit)], isGenerator := false, isCoroutine := false }, a := 79, cd := .ref 78, nm := [Str.ofString "value", Str.ofString "bits", Str.ofString "number"] }

theorem o_whole_of : x_whole_of.Ok := ⟨rfl, by decide +kernel, by decide +kernel⟩

theorem s_whole_of (W : Wd hb (hd.heap_1 w.params) mg mb) : SFn prog w hb 2 79 (F_whole_of) := by
  have ok := o_whole_of
  refine sfn_of (c := x_whole_of) W ok (by intro _; rfl) (ps := [Str.ofString "value", Str.ofString "bits"]) (rest := [Str.ofString "number"]) rfl ⟨⟨_, _, _, _, _, _, _, _, _, _, _, by k_is, binds_2 (by intro _ _; rfl)⟩, by k_is, rfl, rfl, by decide +kernel⟩ ?_
  refine sb_cons ?_ ?_
  · refine ss_if ?_ ?_ ?_
    · exact (st_val (se_isi W ok (by rfl) (by rfl) (by k_is) (by k_is) (by decide +kernel) (by decide) (se_loc ok (by rfl)) (by intro _ _ h; cases h) (fun _ _ _ _ _ _ _ _ _ _ _ a r h => isi_str a r h)))
    · exact sb_no
    · exact sb_nil
  refine sb_cons ?_ ?_
  · refine ss_asg ?_ ?_ (by intro _; rfl) (by intro _; rfl) (by intro _ _ h; cases h)
    · exact (se_if (st_val (se_isi W ok (by rfl) (by rfl) (by k_is) (by k_is) (by decide +kernel) (by decide) (se_loc ok (by rfl)) (by intro _ _ h; cases h) (fun _ _ _ _ _ _ _ _ _ _ _ a r h => isi_tup a r h))) se_no (se_loc ok (by rfl)))
    · exact (sg_name ok (by rfl))
  refine sb_cons ?_ ?_
  · refine ss_if ?_ ?_ ?_
    · exact (st_not (st_val (se_call W ok (by rfl) (by k_is) (by k_is) (plain_of (by rfl)) (sl_cons (se_loc ok (by rfl)) (sl_cons (se_loc ok (by rfl)) sl_nil)) ((s_fits W).le (by lia)))))
    · exact sb_no
    · exact sb_nil
  refine sb_cons ?_ ?_
  · refine ss_ret ?_
    exact (se_loc ok (by rfl))
  exact sb_nil

end
end Mine.E
set_option maxHeartbeats 8000000
namespace Mine.E
section
variable {prog : Program} {w : World} {hb : Base} {mg mb : Str → Option Value} {sa : Nat} {ns : List Int} {svs : List Value}
def x_run_whole : Fx := { q := Str.ofString "FlowRun.whole", sc := { kind := .function, names := [(Str.ofString "self", NameKind.local), (Str.ofString "tree", NameKind.local), (Str.ofString "whole_of", NameKind.globalImplicit)], isGenerator := false, isCoroutine := false }, a := 525, cd := .ref 524, nm := [Str.ofString "self", Str.ofString "tree"] }

theorem o_run_whole : x_run_whole.Ok := ⟨rfl, by decide +kernel, by decide +kernel⟩

theorem s_run_whole (W : Wd hb (hd.heap_1 w.params) mg mb) : SFn prog w hb 8 525 (F_run_whole) := by
  have ok := o_run_whole
  refine sfn_of (c := x_run_whole) W ok (by intro _; rfl) (ps := [Str.ofString "self", Str.ofString "tree"]) (rest := []) rfl ⟨⟨_, _, _, _, _, _, _, _, _, _, _, by k_is, binds_2 (by intro _ _; rfl)⟩, by k_is, rfl, rfl, by decide +kernel⟩ ?_
  refine sb_cons ?_ ?_
  · refine ss_ret ?_
    exact (se_call W ok (by rfl) (by k_is) (by k_is) (plain_of (by rfl)) (sl_cons (se_meth W cls_FlowRun (by k_is) (by k_is) (by k_is) (se_loc ok (by rfl)) (plain_of (by rfl)) (sl_cons (se_loc ok (by rfl)) sl_nil) ((s_run_worth W).le (by lia))) (sl_cons (se_attr W.x cls_FlowRun (by k_is) (se_loc ok (by rfl))) sl_nil)) ((s_whole_of W).le (by lia)))
  exact sb_nil

def x_chosen : Fx := { q := Str.ofString "chosen", sc := { kind := .function, names := [(Str.ofString "number", NameKind.local), (Str.ofString "many", NameKind.local), (Str.ofString "MOST_NUMBER", NameKind.globalImplicit), (Str.ofString "BasicError", NameKind.globalImplicit)], isGenerator := false, isCoroutine := false }, a := 363, cd := .ref 362, nm := [Str.ofString "number", Str.ofString "many"] }

theorem o_chosen : x_chosen.Ok := ⟨rfl, by decide +kernel, by decide +kernel⟩

theorem s_chosen (W : Wd hb (hd.heap_1 w.params) mg mb) : SFn prog w hb 1 363 (F_chosen) := by
  have ok := o_chosen
  refine sfn_of (c := x_chosen) W ok (by intro _; rfl) (ps := [Str.ofString "number", Str.ofString "many"]) (rest := []) rfl ⟨⟨_, _, _, _, _, _, _, _, _, _, _, by k_is, binds_2 (by intro _ _; rfl)⟩, by k_is, rfl, rfl, by decide +kernel⟩ ?_
  refine sb_cons ?_ ?_
  · refine ss_if ?_ ?_ ?_
    · exact (st_not (st_chain se_int (se_loc ok (by rfl)) (se_glob W ok (by rfl) (by k_is) (fun _ _ _ _ => ⟨_, rfl⟩)) cmp_le cmp_le))
    · exact sb_no
    · exact sb_nil
  refine sb_cons ?_ ?_
  · refine ss_ret ?_
    exact (se_if (st_chain se_int (se_loc ok (by rfl)) (se_loc ok (by rfl)) cmp_le cmp_le) (se_bin (se_loc ok (by rfl)) se_int ok_sub) se_none)
  exact sb_nil

def x_put_upon : Fx := { q := Str.ofString "put_upon", sc := { kind := .function, names := [(Str.ofString "control", NameKind.local), (Str.ofString "entry", NameKind.local), (Str.ofString "len", NameKind.globalImplicit), (Str.ofString "BasicError", NameKind.globalImplicit)], isGenerator := false, isCoroutine := false }, a := 276, cd := .ref 275, nm := [Str.ofString "control", Str.ofString "entry"] }

theorem o_put_upon : x_put_upon.Ok := ⟨rfl, by decide +kernel, by decide +kernel⟩

theorem s_put_upon (W : Wd hb (hd.heap_1 w.params) mg mb) : SFn prog w hb 1 276 (F_put_upon) := by
  have ok := o_put_upon
  refine sfn_of (c := x_put_upon) W ok (by intro _; rfl) (ps := [Str.ofString "control", Str.ofString "entry"]) (rest := []) rfl ⟨⟨_, _, _, _, _, _, _, _, _, _, _, by k_is, binds_2 (by intro _ _; rfl)⟩, by k_is, rfl, rfl, by decide +kernel⟩ ?_
  refine sb_cons ?_ ?_
  · refine ss_if ?_ ?_ ?_
    · exact (st_cmp (se_bltin W ok (by rfl) (by k_is) (by decide +kernel) (by decide) (plain_of (by rfl)) (sl_cons (se_attr W.x cls_Control (by k_is) (se_loc ok (by rfl))) sl_nil) ok_len) (se_attr W.x cls_Control (by k_is) (se_loc ok (by rfl))) cmp_ge)
    · exact sb_no
    · exact sb_nil
  refine sb_cons ?_ ?_
  · refine ss_expr ?_ (by intro _; rfl)
    exact (se_append (se_attr W.x cls_Control (by k_is) (se_loc ok (by rfl))) (se_loc ok (by rfl)) (plain_of (by rfl)) ⟨_, by intro _; rfl⟩)
  exact sb_nil

def x_gosub : Fx := { q := Str.ofString "gosub", sc := { kind := .function, names := [(Str.ofString "control", NameKind.local), (Str.ofString "place", NameKind.local), (Str.ofString "put_upon", NameKind.globalImplicit)], isGenerator := false, isCoroutine := false }, a := 349, cd := .ref 348, nm := [Str.ofString "control", Str.ofString "place"] }

theorem o_gosub : x_gosub.Ok := ⟨rfl, by decide +kernel, by decide +kernel⟩

theorem s_gosub (W : Wd hb (hd.heap_1 w.params) mg mb) : SFn prog w hb 2 349 (F_gosub) := by
  have ok := o_gosub
  refine sfn_of (c := x_gosub) W ok (by intro _; rfl) (ps := [Str.ofString "control", Str.ofString "place"]) (rest := []) rfl ⟨⟨_, _, _, _, _, _, _, _, _, _, _, by k_is, binds_2 (by intro _ _; rfl)⟩, by k_is, rfl, rfl, by decide +kernel⟩ ?_
  refine sb_cons ?_ ?_
  · refine ss_expr ?_ (by intro _; rfl)
    exact (se_call W ok (by rfl) (by k_is) (by k_is) (plain_of (by rfl)) (sl_cons (se_loc ok (by rfl)) (sl_cons (se_tup (sl_cons se_str (sl_cons (se_loc ok (by rfl)) sl_nil))) sl_nil)) ((s_put_upon W).le (by lia)))
  exact sb_nil

def x_is_nought : Fx := { q := Str.ofString "is_nought", sc := { kind := .function, names := [(Str.ofString "value", NameKind.local), (Str.ofString "isinstance", NameKind.globalImplicit), (Str.ofString "str", NameKind.globalImplicit), (Str.ofString "BasicError", NameKind.globalImplicit), (Str.ofString "tuple", NameKind.globalImplicit)], isGenerator := false, isCoroutine := false }, a := 93, cd := .ref 92, nm := [Str.ofString "value"] }

theorem o_is_nought : x_is_nought.Ok := ⟨rfl, by decide +kernel, by decide +kernel⟩

theorem s_is_nought (W : Wd hb (hd.heap_1 w.params) mg mb) : SFn prog w hb 1 93 (F_is_nought) := by
  have ok := o_is_nought
  refine sfn_of (c := x_is_nought) W ok (by intro _; rfl) (ps := [Str.ofString "value"]) (rest := []) rfl ⟨⟨_, _, _, _, _, _, _, _, _, _, _, by k_is, binds_1 (by intro _; rfl)⟩, by k_is, rfl, rfl, by decide +kernel⟩ ?_
  refine sb_cons ?_ ?_
  · refine ss_if ?_ ?_ ?_
    · exact (st_val (se_isi W ok (by rfl) (by rfl) (by k_is) (by k_is) (by decide +kernel) (by decide) (se_loc ok (by rfl)) (by intro _ _ h; cases h) (fun _ _ _ _ _ _ _ _ _ _ _ a r h => isi_str a r h)))
    · exact sb_no
    · exact sb_nil
  refine sb_cons ?_ ?_
  · refine ss_ret ?_
    exact (se_if (st_val (se_isi W ok (by rfl) (by rfl) (by k_is) (by k_is) (by decide +kernel) (by decide) (se_loc ok (by rfl)) (by intro _ _ h; cases h) (fun _ _ _ _ _ _ _ _ _ _ _ a r h => isi_tup a r h))) (se_cmp (se_idx (se_loc ok (by rfl)) se_int) se_int (cmp_eq W.nolimit)) (se_cmp (se_loc ok (by rfl)) se_int (cmp_eq W.nolimit)))
  exact sb_nil

def x_is_true : Fx := { q := Str.ofString "is_true", sc := { kind := .function, names := [(Str.ofString "value", NameKind.local), (Str.ofString "is_nought", NameKind.globalImplicit)], isGenerator := false, isCoroutine := false }, a := 100, cd := .ref 99, nm := [Str.ofString "value"] }

theorem o_is_true : x_is_true.Ok := ⟨rfl, by decide +kernel, by decide +kernel⟩

theorem s_is_true (W : Wd hb (hd.heap_1 w.params) mg mb) : SFn prog w hb 2 100 (F_is_true) := by
  have ok := o_is_true
  refine sfn_of (c := x_is_true) W ok (by intro _; rfl) (ps := [Str.ofString "value"]) (rest := []) rfl ⟨⟨_, _, _, _, _, _, _, _, _, _, _, by k_is, binds_1 (by intro _; rfl)⟩, by k_is, rfl, rfl, by decide +kernel⟩ ?_
  refine sb_cons ?_ ?_
  · refine ss_ret ?_
    exact (se_not (se_call W ok (by rfl) (by k_is) (by k_is) (plain_of (by rfl)) (sl_cons (se_loc ok (by rfl)) sl_nil) ((s_is_nought W).le (by lia))))
  exact sb_nil

def x_place_of : Fx := { q := Str.ofString "place_of", sc := { kind := .function, names := [(Str.ofString "flat", NameKind.local), (Str.ofString "line", NameKind.local), (Str.ofString "BasicError", NameKind.globalImplicit)], isGenerator := false, isCoroutine := false }, a := 440, cd := .ref 439, nm := [Str.ofString "flat", Str.ofString "line"] }

theorem o_place_of : x_place_of.Ok := ⟨rfl, by decide +kernel, by decide +kernel⟩

theorem s_place_of (W : Wd hb (hd.heap_1 w.params) mg mb) : SFn prog w hb 1 440 (F_place_of) := by
  have ok := o_place_of
  refine sfn_of (c := x_place_of) W ok (by intro _; rfl) (ps := [Str.ofString "flat", Str.ofString "line"]) (rest := []) rfl ⟨⟨_, _, _, _, _, _, _, _, _, _, _, by k_is, binds_2 (by intro _ _; rfl)⟩, by k_is, rfl, rfl, by decide +kernel⟩ ?_
  refine sb_cons ?_ ?_
  · refine ss_if ?_ ?_ ?_
    · exact (st_cmp (se_loc ok (by rfl)) (se_attr W.x cls_Flat (by k_is) (se_loc ok (by rfl))) (cmp_notin W.nolimit))
    · exact sb_no
    · exact sb_nil
  refine sb_cons ?_ ?_
  · refine ss_ret ?_
    exact (se_idx (se_attr W.x cls_Flat (by k_is) (se_loc ok (by rfl))) (se_loc ok (by rfl)))
  exact sb_nil

def x_cut_to : Fx := { q := Str.ofString "cut_to", sc := { kind := .function, names := [(Str.ofString "control", NameKind.local), (Str.ofString "many", NameKind.local)], isGenerator := false, isCoroutine := false }, a := 297, cd := .ref 296, nm := [Str.ofString "control", Str.ofString "many"] }

theorem o_cut_to : x_cut_to.Ok := ⟨rfl, by decide +kernel, by decide +kernel⟩

theorem s_cut_to (W : Wd hb (hd.heap_1 w.params) mg mb) : SFn prog w hb 1 297 (F_cut_to) := by
  have ok := o_cut_to
  refine sfn_of (c := x_cut_to) W ok (by intro _; rfl) (ps := [Str.ofString "control", Str.ofString "many"]) (rest := []) rfl ⟨⟨_, _, _, _, _, _, _, _, _, _, _, by k_is, binds_2 (by intro _ _; rfl)⟩, by k_is, rfl, rfl, by decide +kernel⟩ ?_
  refine sb_cons ?_ ?_
  · refine ss_asg ?_ ?_ (by intro _; rfl) (by intro _; rfl) (by intro _ _ h; cases h)
    · exact (se_upto (se_attr W.x cls_Control (by k_is) (se_loc ok (by rfl))) (se_loc ok (by rfl)))
    · exact (sg_attr W.x cls_Control (by k_is) (se_loc ok (by rfl)))
  exact sb_nil

def x_floor_of : Fx := { q := Str.ofString "floor_of", sc := { kind := .function, names := [(Str.ofString "pile", NameKind.local), (Str.ofString "at", NameKind.local), (Str.ofString "range", NameKind.globalImplicit), (Str.ofString "len", NameKind.globalImplicit)], isGenerator := false, isCoroutine := false }, a := 283, cd := .ref 282, nm := [Str.ofString "pile", Str.ofString "at"] }

theorem o_floor_of : x_floor_of.Ok := ⟨rfl, by decide +kernel, by decide +kernel⟩

theorem s_floor_of (W : Wd hb (hd.heap_1 w.params) mg mb) : SFn prog w hb 1 283 (F_floor_of) := by
  have ok := o_floor_of
  refine sfn_of (c := x_floor_of) W ok (by intro _; rfl) (ps := [Str.ofString "pile"]) (rest := [Str.ofString "at"]) rfl ⟨⟨_, _, _, _, _, _, _, _, _, _, _, by k_is, binds_1 (by intro _; rfl)⟩, by k_is, rfl, rfl, by decide +kernel⟩ ?_
  refine sb_cons ?_ ?_
  · refine ss_for ?_ ?_ ?_ (by intro _ _; rfl)
    · exact (si_rngD W ok (by rfl) (by k_is) (by decide +kernel) (plain_of (by rfl)) (sl_cons (se_bltin W ok (by rfl) (by k_is) (by decide +kernel) (by decide) (plain_of (by rfl)) (sl_cons (se_loc ok (by rfl)) sl_nil) ok_len) (sl_cons se_int (sl_cons (se_un se_int ok_neg) sl_nil))))
    · exact (sg_name ok (by rfl))
    · refine sb_cons ?_ ?_
      · refine ss_if ?_ ?_ ?_
        · exact (st_cmp (se_idx (se_idx (se_loc ok (by rfl)) (se_bin (se_loc ok (by rfl)) se_int ok_sub)) se_int) se_str (cmp_eq W.nolimit))
        · refine sb_cons ?_ ?_
          · refine ss_ret ?_
            exact (se_loc ok (by rfl))
          exact sb_nil
        · exact sb_nil
      exact sb_nil
  refine sb_cons ?_ ?_
  · refine ss_ret ?_
    exact se_int
  exact sb_nil

def x_return_place : Fx := { q := Str.ofString "return_place", sc := { kind := .function, names := [(Str.ofString "control", NameKind.local), (Str.ofString "many", NameKind.local), (Str.ofString "place", NameKind.local), (Str.ofString "floor_of", NameKind.globalImplicit), (Str.ofString "BasicError", NameKind.globalImplicit), (Str.ofString "cut_to", NameKind.globalImplicit)], isGenerator := false, isCoroutine := false }, a := 356, cd := .ref 355, nm := [Str.ofString "control", Str.ofString "many", Str.ofString "place"] }

theorem o_return_place : x_return_place.Ok := ⟨rfl, by decide +kernel, by decide +kernel⟩

theorem s_return_place (W : Wd hb (hd.heap_1 w.params) mg mb) : SFn prog w hb 2 356 (F_return_place) := by
  have ok := o_return_place
  refine sfn_of (c := x_return_place) W ok (by intro _; rfl) (ps := [Str.ofString "control"]) (rest := [Str.ofString "many", Str.ofString "place"]) rfl ⟨⟨_, _, _, _, _, _, _, _, _, _, _, by k_is, binds_1 (by intro _; rfl)⟩, by k_is, rfl, rfl, by decide +kernel⟩ ?_
  refine sb_cons ?_ ?_
  · refine ss_asg ?_ ?_ (by intro _; rfl) (by intro _; rfl) (by intro _ _ h; cases h)
    · exact (se_call W ok (by rfl) (by k_is) (by k_is) (plain_of (by rfl)) (sl_cons (se_attr W.x cls_Control (by k_is) (se_loc ok (by rfl))) sl_nil) ((s_floor_of W).le (by lia)))
    · exact (sg_name ok (by rfl))
  refine sb_cons ?_ ?_
  · refine ss_if ?_ ?_ ?_
    · exact (st_cmp (se_loc ok (by rfl)) se_int (cmp_eq W.nolimit))
    · exact sb_no
    · exact sb_nil
  refine sb_cons ?_ ?_
  · refine ss_asg ?_ ?_ (by intro _; rfl) (by intro _; rfl) (by intro _ _ h; cases h)
    · exact (se_idx (se_idx (se_attr W.x cls_Control (by k_is) (se_loc ok (by rfl))) (se_bin (se_loc ok (by rfl)) se_int ok_sub)) se_int)
    · exact (sg_name ok (by rfl))
  refine sb_cons ?_ ?_
  · refine ss_expr ?_ (by intro _; rfl)
    exact (se_call W ok (by rfl) (by k_is) (by k_is) (plain_of (by rfl)) (sl_cons (se_loc ok (by rfl)) (sl_cons (se_bin (se_loc ok (by rfl)) se_int ok_sub) sl_nil)) ((s_cut_to W).le (by lia)))
  refine sb_cons ?_ ?_
  · refine ss_ret ?_
    exact (se_loc ok (by rfl))
  exact sb_nil

def x_do_jump : Fx := { q := Str.ofString "do_jump", sc := { kind := .function, names := [(Str.ofString "run", NameKind.local), (Str.ofString "at", NameKind.local), (Str.ofString "statement", NameKind.local), (Str.ofString "word", NameKind.local), (Str.ofString "place", NameKind.local), (Str.ofString "line", NameKind.local), (Str.ofString "which", NameKind.local), (Str.ofString "goal", NameKind.local), (Str.ofString "is_true", NameKind.globalImplicit), (Str.ofString "return_place", NameKind.globalImplicit), (Str.ofString "place_of", NameKind.globalImplicit), (Str.ofString "chosen", NameKind.globalImplicit), (Str.ofString "len", NameKind.globalImplicit), (Str.ofString "gosub", NameKind.globalImplicit)], isGenerator := false, isCoroutine := false }, a := 476, cd := .ref 475, nm := [Str.ofString "run", Str.ofString "at", Str.ofString "statement", Str.ofString "word", Str.ofString "place", Str.ofString "line", Str.ofString "which", Str.ofString "goal"] }

theorem o_do_jump : x_do_jump.Ok := ⟨rfl, by decide +kernel, by decide +kernel⟩

theorem s_do_jump (W : Wd hb (hd.heap_1 w.params) mg mb) : SFn prog w hb 9 476 (F_do_jump) := by
  have ok := o_do_jump
  refine sfn_of (c := x_do_jump) W ok (by intro _; rfl) (ps := [Str.ofString "run", Str.ofString "at", Str.ofString "statement"]) (rest := [Str.ofString "word", Str.ofString "place", Str.ofString "line", Str.ofString "which", Str.ofString "goal"]) rfl ⟨⟨_, _, _, _, _, _, _, _, _, _, _, by k_is, binds_3 (fun _ _ _ => rfl)⟩, by k_is, rfl, rfl, by decide +kernel⟩ ?_
  refine sb_cons ?_ ?_
  · refine ss_asg ?_ ?_ (by intro _; rfl) (by intro _; rfl) (by intro _ _ h; cases h)
    · exact (se_idx (se_loc ok (by rfl)) se_int)
    · exact (sg_name ok (by rfl))
  refine sb_cons ?_ ?_
  · refine ss_if ?_ ?_ ?_
    · exact (st_cmp (se_loc ok (by rfl)) se_str (cmp_eq W.nolimit))
    · refine sb_cons ?_ ?_
      · refine ss_ret ?_
        exact (se_if (st_val (se_call W ok (by rfl) (by k_is) (by k_is) (plain_of (by rfl)) (sl_cons (se_meth W cls_FlowRun (by k_is) (by k_is) (by k_is) (se_loc ok (by rfl)) (plain_of (by rfl)) (sl_cons (se_idx (se_loc ok (by rfl)) se_int) sl_nil) ((s_run_worth W).le (by lia))) sl_nil) ((s_is_true W).le (by lia)))) (se_bin (se_loc ok (by rfl)) se_int ok_add) (se_idx (se_loc ok (by rfl)) se_int))
      exact sb_nil
    · exact sb_nil
  refine sb_cons ?_ ?_
  · refine ss_if ?_ ?_ ?_
    · exact (st_cmp (se_loc ok (by rfl)) se_str (cmp_eq W.nolimit))
    · refine sb_cons ?_ ?_
      · refine ss_ret ?_
        exact (se_idx (se_loc ok (by rfl)) se_int)
      exact sb_nil
    · exact sb_nil
  refine sb_cons ?_ ?_
  · refine ss_if ?_ ?_ ?_
    · exact (st_cmp (se_loc ok (by rfl)) se_str (cmp_eq W.nolimit))
    · refine sb_cons ?_ ?_
      · refine ss_asg ?_ ?_ (by intro _; rfl) (by intro _; rfl) (by intro _ _ h; cases h)
        · exact (se_call W ok (by rfl) (by k_is) (by k_is) (plain_of (by rfl)) (sl_cons (se_attr W.x cls_FlowRun (by k_is) (se_loc ok (by rfl))) sl_nil) ((s_return_place W).le (by lia)))
        · exact (sg_name ok (by rfl))
      refine sb_cons ?_ ?_
      · refine ss_ret ?_
        exact (se_if (st_cmp (se_idx (se_loc ok (by rfl)) se_int) se_none cmp_is) (se_loc ok (by rfl)) (se_call W ok (by rfl) (by k_is) (by k_is) (plain_of (by rfl)) (sl_cons (se_attr W.x cls_FlowRun (by k_is) (se_loc ok (by rfl))) (sl_cons (se_idx (se_loc ok (by rfl)) se_int) sl_nil)) ((s_place_of W).le (by lia))))
      exact sb_nil
    · exact sb_nil
  refine sb_cons ?_ ?_
  · refine ss_asg ?_ ?_ (by intro _; rfl) (by intro _; rfl) (by intro _ _ h; cases h)
    · exact (se_idx (se_loc ok (by rfl)) se_int)
    · exact (sg_name ok (by rfl))
  refine sb_cons ?_ ?_
  · refine ss_if ?_ ?_ ?_
    · exact (st_cmp (se_loc ok (by rfl)) se_str (cmp_eq W.nolimit))
    · refine sb_cons ?_ ?_
      · refine ss_asg ?_ ?_ (by intro _; rfl) (by intro _; rfl) (by intro _ _ h; cases h)
        · exact (se_call W ok (by rfl) (by k_is) (by k_is) (plain_of (by rfl)) (sl_cons (se_meth W cls_FlowRun (by k_is) (by k_is) (by k_is) (se_loc ok (by rfl)) (plain_of (by rfl)) (sl_cons (se_idx (se_loc ok (by rfl)) se_int) sl_nil) ((s_run_whole W).le (by lia))) (sl_cons (se_bltin W ok (by rfl) (by k_is) (by decide +kernel) (by decide) (plain_of (by rfl)) (sl_cons (se_idx (se_loc ok (by rfl)) se_int) sl_nil) ok_len) sl_nil)) ((s_chosen W).le (by lia)))
        · exact (sg_name ok (by rfl))
      refine sb_cons ?_ ?_
      · refine ss_if ?_ ?_ ?_
        · exact (st_cmp (se_loc ok (by rfl)) se_none cmp_is)
        · refine sb_cons ?_ ?_
          · refine ss_ret ?_
            exact (se_bin (se_loc ok (by rfl)) se_int ok_add)
          exact sb_nil
        · exact sb_nil
      refine sb_cons ?_ ?_
      · refine ss_asgR (ks := [3, 5]) (names := [Str.ofString "word", Str.ofString "line"]) ok ?_ (by rfl) (by intro _; rfl) (by intro _; rfl)
        exact (se_tup (sl_cons (se_idx (se_loc ok (by rfl)) se_int) (sl_cons (se_idx (se_idx (se_loc ok (by rfl)) se_int) (se_loc ok (by rfl))) sl_nil)))
      exact sb_nil
    · exact sb_nil
  refine sb_cons ?_ ?_
  · refine ss_asg ?_ ?_ (by intro _; rfl) (by intro _; rfl) (by intro _ _ h; cases h)
    · exact (se_call W ok (by rfl) (by k_is) (by k_is) (plain_of (by rfl)) (sl_cons (se_attr W.x cls_FlowRun (by k_is) (se_loc ok (by rfl))) (sl_cons (se_loc ok (by rfl)) sl_nil)) ((s_place_of W).le (by lia)))
    · exact (sg_name ok (by rfl))
  refine sb_cons ?_ ?_
  · refine ss_if ?_ ?_ ?_
    · exact (st_cmp (se_loc ok (by rfl)) se_str (cmp_eq W.nolimit))
    · refine sb_cons ?_ ?_
      · refine ss_expr ?_ (by intro _; rfl)
        exact (se_call W ok (by rfl) (by k_is) (by k_is) (plain_of (by rfl)) (sl_cons (se_attr W.x cls_FlowRun (by k_is) (se_loc ok (by rfl))) (sl_cons (se_bin (se_loc ok (by rfl)) se_int ok_add) sl_nil)) ((s_gosub W).le (by lia)))
      exact sb_nil
    · exact sb_nil
  refine sb_cons ?_ ?_
  · refine ss_ret ?_
    exact (se_loc ok (by rfl))
  exact sb_nil

def x_found_at : Fx := { q := Str.ofString "found_at", sc := { kind := .function, names := [(Str.ofString "pile", NameKind.local), (Str.ofString "kind", NameKind.local), (Str.ofString "name", NameKind.local), (Str.ofString "at", NameKind.local), (Str.ofString "range", NameKind.globalImplicit), (Str.ofString "len", NameKind.globalImplicit), (Str.ofString "floor_of", NameKind.globalImplicit)], isGenerator := false, isCoroutine := false }, a := 290, cd := .ref 289, nm := [Str.ofString "pile", Str.ofString "kind", Str.ofString "name", Str.ofString "at"] }

theorem o_found_at : x_found_at.Ok := ⟨rfl, by decide +kernel, by decide +kernel⟩

theorem s_found_at (W : Wd hb (hd.heap_1 w.params) mg mb) : SFn prog w hb 2 290 (F_found_at) := by
  have ok := o_found_at
  refine sfn_of (c := x_found_at) W ok (by intro _; rfl) (ps := [Str.ofString "pile", Str.ofString "kind", Str.ofString "name"]) (rest := [Str.ofString "at"]) rfl ⟨⟨_, _, _, _, _, _, _, _, _, _, _, by k_is, binds_3 (fun _ _ _ => rfl)⟩, by k_is, rfl, rfl, by decide +kernel⟩ ?_
  refine sb_cons ?_ ?_
  · refine ss_for ?_ ?_ ?_ (by intro _ _; rfl)
    · exact (si_rngD W ok (by rfl) (by k_is) (by decide +kernel) (plain_of (by rfl)) (sl_cons (se_bin (se_bltin W ok (by rfl) (by k_is) (by decide +kernel) (by decide) (plain_of (by rfl)) (sl_cons (se_loc ok (by rfl)) sl_nil) ok_len) se_int ok_sub) (sl_cons (se_bin (se_call W ok (by rfl) (by k_is) (by k_is) (plain_of (by rfl)) (sl_cons (se_loc ok (by rfl)) sl_nil) ((s_floor_of W).le (by lia))) se_int ok_sub) (sl_cons (se_un se_int ok_neg) sl_nil))))
    · exact (sg_name ok (by rfl))
    · refine sb_cons ?_ ?_
      · refine ss_if ?_ ?_ ?_
        · exact (st_bool (sa_and (st_cmp (se_idx (se_idx (se_loc ok (by rfl)) (se_loc ok (by rfl))) se_int) (se_loc ok (by rfl)) (cmp_eq W.nolimit)) (sa_and (st_cmp (se_loc ok (by rfl)) (se_tup (sl_cons se_str (sl_cons (se_idx (se_idx (se_loc ok (by rfl)) (se_loc ok (by rfl))) se_int) sl_nil))) cmp_in) sa_and_nil)))
        · refine sb_cons ?_ ?_
          · refine ss_ret ?_
            exact (se_loc ok (by rfl))
          exact sb_nil
        · exact sb_nil
      exact sb_nil
  refine sb_cons ?_ ?_
  · refine ss_ret ?_
    exact (se_un se_int ok_neg)
  exact sb_nil

def x_for_begin : Fx := { q := Str.ofString "for_begin", sc := { kind := .function, names := [(Str.ofString "control", NameKind.local), (Str.ofString "name", NameKind.local), (Str.ofString "place", NameKind.local), (Str.ofString "limit", NameKind.local), (Str.ofString "step", NameKind.local), (Str.ofString "at", NameKind.local), (Str.ofString "found_at", NameKind.globalImplicit), (Str.ofString "cut_to", NameKind.globalImplicit), (Str.ofString "put_upon", NameKind.globalImplicit)], isGenerator := false, isCoroutine := false }, a := 311, cd := .ref 310, nm := [Str.ofString "control", Str.ofString "name", Str.ofString "place", Str.ofString "limit", Str.ofString "step", Str.ofString "at"] }

theorem o_for_begin : x_for_begin.Ok := ⟨rfl, by decide +kernel, by decide +kernel⟩

theorem s_for_begin (W : Wd hb (hd.heap_1 w.params) mg mb) : SFn prog w hb 3 311 (F_for_begin) := by
  have ok := o_for_begin
  refine sfn_of (c := x_for_begin) W ok (by intro _; rfl) (ps := [Str.ofString "control", Str.ofString "name", Str.ofString "place", Str.ofString "limit", Str.ofString "step"]) (rest := [Str.ofString "at"]) rfl ⟨⟨_, _, _, _, _, _, _, _, _, _, _, by k_is, binds_5 (fun _ _ _ _ _ => rfl)⟩, by k_is, rfl, rfl, by decide +kernel⟩ ?_
  refine sb_cons ?_ ?_
  · refine ss_asg ?_ ?_ (by intro _; rfl) (by intro _; rfl) (by intro _ _ h; cases h)
    · exact (se_call W ok (by rfl) (by k_is) (by k_is) (plain_of (by rfl)) (sl_cons (se_attr W.x cls_Control (by k_is) (se_loc ok (by rfl))) (sl_cons se_str (sl_cons (se_loc ok (by rfl)) sl_nil))) ((s_found_at W).le (by lia)))
    · exact (sg_name ok (by rfl))
  refine sb_cons ?_ ?_
  · refine ss_if ?_ ?_ ?_
    · exact (st_cmp (se_loc ok (by rfl)) se_int cmp_ge)
    · refine sb_cons ?_ ?_
      · refine ss_expr ?_ (by intro _; rfl)
        exact (se_call W ok (by rfl) (by k_is) (by k_is) (plain_of (by rfl)) (sl_cons (se_loc ok (by rfl)) (sl_cons (se_loc ok (by rfl)) sl_nil)) ((s_cut_to W).le (by lia)))
      exact sb_nil
    · exact sb_nil
  refine sb_cons ?_ ?_
  · refine ss_expr ?_ (by intro _; rfl)
    exact (se_call W ok (by rfl) (by k_is) (by k_is) (plain_of (by rfl)) (sl_cons (se_loc ok (by rfl)) (sl_cons (se_tup (sl_cons se_str (sl_cons (se_loc ok (by rfl)) (sl_cons (se_loc ok (by rfl)) (sl_cons (se_loc ok (by rfl)) (sl_cons (se_loc ok (by rfl)) sl_nil)))))) sl_nil)) ((s_put_upon W).le (by lia)))
  exact sb_nil

def x_is_whole : Fx := { q := Str.ofString "is_whole", sc := { kind := .function, names := [(Str.ofString "value", NameKind.local), (Str.ofString "isinstance", NameKind.globalImplicit), (Str.ofString "str", NameKind.globalImplicit), (Str.ofString "BasicError", NameKind.globalImplicit), (Str.ofString "tuple", NameKind.globalImplicit)], isGenerator := false, isCoroutine := false }, a := 185, cd := .ref 184, nm := [Str.ofString "value"] }

theorem o_is_whole : x_is_whole.Ok := ⟨rfl, by decide +kernel, by decide +kernel⟩

theorem s_is_whole (W : Wd hb (hd.heap_1 w.params) mg mb) : SFn prog w hb 1 185 (F_is_whole) := by
  have ok := o_is_whole
  refine sfn_of (c := x_is_whole) W ok (by intro _; rfl) (ps := [Str.ofString "value"]) (rest := []) rfl ⟨⟨_, _, _, _, _, _, _, _, _, _, _, by k_is, binds_1 (by intro _; rfl)⟩, by k_is, rfl, rfl, by decide +kernel⟩ ?_
  refine sb_cons ?_ ?_
  · refine ss_if ?_ ?_ ?_
    · exact (st_val (se_isi W ok (by rfl) (by rfl) (by k_is) (by k_is) (by decide +kernel) (by decide) (se_loc ok (by rfl)) (by intro _ _ h; cases h) (fun _ _ _ _ _ _ _ _ _ _ _ a r h => isi_str a r h)))
    · exact sb_no
    · exact sb_nil
  refine sb_cons ?_ ?_
  · refine ss_ret ?_
    exact (se_not (se_isi W ok (by rfl) (by rfl) (by k_is) (by k_is) (by decide +kernel) (by decide) (se_loc ok (by rfl)) (by intro _ _ h; cases h) (fun _ _ _ _ _ _ _ _ _ _ _ a r h => isi_tup a r h)))
  exact sb_nil

end
end Mine.E
set_option maxHeartbeats 8000000
namespace Mine.E
section
variable {prog : Program} {w : World} {hb : Base} {mg mb : Str → Option Value} {sa : Nat} {ns : List Int} {svs : List Value}
def x_order_of : Fx := { q := Str.ofString "order_of", sc := { kind := .function, names := [(Str.ofString "a", NameKind.local), (Str.ofString "b", NameKind.local), (Str.ofString "isinstance", NameKind.globalImplicit), (Str.ofString "str", NameKind.globalImplicit), (Str.ofString "BasicError", NameKind.globalImplicit), (Str.ofString "is_whole", NameKind.globalImplicit), (Str.ofString "d_compare", NameKind.globalImplicit), (Str.ofString "tuple", NameKind.globalImplicit)], isGenerator := false, isCoroutine := false }, a := 248, cd := .ref 247, nm := [Str.ofString "a", Str.ofString "b"] }

theorem o_order_of : x_order_of.Ok := ⟨rfl, by decide +kernel, by decide +kernel⟩

theorem s_order_of (W : Wd hb (hd.heap_1 w.params) mg mb) : SFn prog w hb 2 248 (F_order_of) := by
  have ok := o_order_of
  refine sfn_of (c := x_order_of) W ok (by intro _; rfl) (ps := [Str.ofString "a", Str.ofString "b"]) (rest := []) rfl ⟨⟨_, _, _, _, _, _, _, _, _, _, _, by k_is, binds_2 (by intro _ _; rfl)⟩, by k_is, rfl, rfl, by decide +kernel⟩ ?_
  refine sb_cons ?_ ?_
  · refine ss_if ?_ ?_ ?_
    · exact (st_cmp (se_isi W ok (by rfl) (by rfl) (by k_is) (by k_is) (by decide +kernel) (by decide) (se_loc ok (by rfl)) (by intro _ _ h; cases h) (fun _ _ _ _ _ _ _ _ _ _ _ a r h => isi_str a r h)) (se_isi W ok (by rfl) (by rfl) (by k_is) (by k_is) (by decide +kernel) (by decide) (se_loc ok (by rfl)) (by intro _ _ h; cases h) (fun _ _ _ _ _ _ _ _ _ _ _ a r h => isi_str a r h)) cmp_ne)
    · exact sb_no
    · exact sb_nil
  refine sb_cons ?_ ?_
  · refine ss_if ?_ ?_ ?_
    · exact (st_bool (sa_or (st_val (se_isi W ok (by rfl) (by rfl) (by k_is) (by k_is) (by decide +kernel) (by decide) (se_loc ok (by rfl)) (by intro _ _ h; cases h) (fun _ _ _ _ _ _ _ _ _ _ _ a r h => isi_str a r h))) (sa_or (st_bool (sa_and (st_val (se_call W ok (by rfl) (by k_is) (by k_is) (plain_of (by rfl)) (sl_cons (se_loc ok (by rfl)) sl_nil) ((s_is_whole W).le (by lia)))) (sa_and (st_val (se_call W ok (by rfl) (by k_is) (by k_is) (plain_of (by rfl)) (sl_cons (se_loc ok (by rfl)) sl_nil) ((s_is_whole W).le (by lia)))) sa_and_nil))) sa_or_nil)))
    · refine sb_cons ?_ ?_
      · refine ss_ret ?_
        exact (se_bin (se_cmp (se_loc ok (by rfl)) (se_loc ok (by rfl)) cmp_gt) (se_cmp (se_loc ok (by rfl)) (se_loc ok (by rfl)) cmp_lt) ok_sub)
      exact sb_nil
    · exact sb_nil
  exact sb_no

def x_sign_of : Fx := { q := Str.ofString "sign_of", sc := { kind := .function, names := [(Str.ofString "value", NameKind.local), (Str.ofString "size", NameKind.local), (Str.ofString "isinstance", NameKind.globalImplicit), (Str.ofString "str", NameKind.globalImplicit), (Str.ofString "BasicError", NameKind.globalImplicit), (Str.ofString "tuple", NameKind.globalImplicit)], isGenerator := false, isCoroutine := false }, a := 107, cd := .ref 106, nm := [Str.ofString "value", Str.ofString "size"] }

theorem o_sign_of : x_sign_of.Ok := ⟨rfl, by decide +kernel, by decide +kernel⟩

theorem s_sign_of (W : Wd hb (hd.heap_1 w.params) mg mb) : SFn prog w hb 1 107 (F_sign_of) := by
  have ok := o_sign_of
  refine sfn_of (c := x_sign_of) W ok (by intro _; rfl) (ps := [Str.ofString "value"]) (rest := [Str.ofString "size"]) rfl ⟨⟨_, _, _, _, _, _, _, _, _, _, _, by k_is, binds_1 (by intro _; rfl)⟩, by k_is, rfl, rfl, by decide +kernel⟩ ?_
  refine sb_cons ?_ ?_
  · refine ss_if ?_ ?_ ?_
    · exact (st_val (se_isi W ok (by rfl) (by rfl) (by k_is) (by k_is) (by decide +kernel) (by decide) (se_loc ok (by rfl)) (by intro _ _ h; cases h) (fun _ _ _ _ _ _ _ _ _ _ _ a r h => isi_str a r h)))
    · exact sb_no
    · exact sb_nil
  refine sb_cons ?_ ?_
  · refine ss_asg ?_ ?_ (by intro _; rfl) (by intro _; rfl) (by intro _ _ h; cases h)
    · exact (se_if (st_val (se_isi W ok (by rfl) (by rfl) (by k_is) (by k_is) (by decide +kernel) (by decide) (se_loc ok (by rfl)) (by intro _ _ h; cases h) (fun _ _ _ _ _ _ _ _ _ _ _ a r h => isi_tup a r h))) (se_idx (se_loc ok (by rfl)) se_int) (se_loc ok (by rfl)))
    · exact (sg_name ok (by rfl))
  refine sb_cons ?_ ?_
  · refine ss_ret ?_
    exact (se_bin (se_cmp (se_loc ok (by rfl)) se_int cmp_gt) (se_cmp (se_loc ok (by rfl)) se_int cmp_lt) ok_sub)
  exact sb_nil

def x_is_past : Fx := { q := Str.ofString "is_past", sc := { kind := .function, names := [(Str.ofString "value", NameKind.local), (Str.ofString "limit", NameKind.local), (Str.ofString "step", NameKind.local), (Str.ofString "order", NameKind.local), (Str.ofString "sign_of", NameKind.globalImplicit)], isGenerator := false, isCoroutine := false }, a := 304, cd := .ref 303, nm := [Str.ofString "value", Str.ofString "limit", Str.ofString "step", Str.ofString "order"] }

theorem o_is_past : x_is_past.Ok := ⟨rfl, by decide +kernel, by decide +kernel⟩

theorem s_is_past (W : Wd hb (hd.heap_1 w.params) mg mb) : SFn prog w hb 3 304 (F_is_past) := by
  have ok := o_is_past
  refine sfn_of (c := x_is_past) W ok (by intro _; rfl) (ps := [Str.ofString "value", Str.ofString "limit", Str.ofString "step", Str.ofString "order"]) (rest := []) rfl ⟨⟨_, _, _, _, _, _, _, _, _, _, _, by k_is, binds_4 (fun _ _ _ _ => rfl)⟩, by k_is, rfl, rfl, by decide +kernel⟩ ?_
  refine sb_cons ?_ ?_
  · refine ss_ret ?_
    exact (se_if (st_cmp (se_call W ok (by rfl) (by k_is) (by k_is) (plain_of (by rfl)) (sl_cons (se_loc ok (by rfl)) sl_nil) ((s_sign_of W).le (by lia))) se_int cmp_ge) (se_cmp (se_callL W (by k_is) (se_loc ok (by rfl)) (plain_of (by rfl)) (sl_cons (se_loc ok (by rfl)) (sl_cons (se_loc ok (by rfl)) sl_nil)) ((s_order_of W).le (by lia))) se_int cmp_lt) (se_cmp (se_callL W (by k_is) (se_loc ok (by rfl)) (plain_of (by rfl)) (sl_cons (se_loc ok (by rfl)) (sl_cons (se_loc ok (by rfl)) sl_nil)) ((s_order_of W).le (by lia))) se_int cmp_lt))
  exact sb_nil

def x_for_name : Fx := { q := Str.ofString "for_name", sc := { kind := .function, names := [(Str.ofString "control", NameKind.local), (Str.ofString "name", NameKind.local), (Str.ofString "at", NameKind.local), (Str.ofString "found_at", NameKind.globalImplicit), (Str.ofString "BasicError", NameKind.globalImplicit)], isGenerator := false, isCoroutine := false }, a := 318, cd := .ref 317, nm := [Str.ofString "control", Str.ofString "name", Str.ofString "at"] }

theorem o_for_name : x_for_name.Ok := ⟨rfl, by decide +kernel, by decide +kernel⟩

theorem s_for_name (W : Wd hb (hd.heap_1 w.params) mg mb) : SFn prog w hb 3 318 (F_for_name) := by
  have ok := o_for_name
  refine sfn_of (c := x_for_name) W ok (by intro _; rfl) (ps := [Str.ofString "control", Str.ofString "name"]) (rest := [Str.ofString "at"]) rfl ⟨⟨_, _, _, _, _, _, _, _, _, _, _, by k_is, binds_2 (by intro _ _; rfl)⟩, by k_is, rfl, rfl, by decide +kernel⟩ ?_
  refine sb_cons ?_ ?_
  · refine ss_asg ?_ ?_ (by intro _; rfl) (by intro _; rfl) (by intro _ _ h; cases h)
    · exact (se_call W ok (by rfl) (by k_is) (by k_is) (plain_of (by rfl)) (sl_cons (se_attr W.x cls_Control (by k_is) (se_loc ok (by rfl))) (sl_cons se_str (sl_cons (se_loc ok (by rfl)) sl_nil))) ((s_found_at W).le (by lia)))
    · exact (sg_name ok (by rfl))
  refine sb_cons ?_ ?_
  · refine ss_if ?_ ?_ ?_
    · exact (st_cmp (se_loc ok (by rfl)) se_int cmp_lt)
    · exact sb_no
    · exact sb_nil
  refine sb_cons ?_ ?_
  · refine ss_ret ?_
    exact (se_idx (se_idx (se_attr W.x cls_Control (by k_is) (se_loc ok (by rfl))) (se_loc ok (by rfl))) se_int)
  exact sb_nil

def x_settled : Fx := { q := Str.ofString "settled", sc := { kind := .function, names := [(Str.ofString "number", NameKind.local), (Str.ofString "bits", NameKind.local), (Str.ofString "digits", NameKind.local), (Str.ofString "fits", NameKind.globalImplicit), (Str.ofString "made", NameKind.globalImplicit)], isGenerator := false, isCoroutine := false }, a := 192, cd := .ref 191, nm := [Str.ofString "number", Str.ofString "bits", Str.ofString "digits"] }

theorem o_settled : x_settled.Ok := ⟨rfl, by decide +kernel, by decide +kernel⟩

theorem s_settled (W : Wd hb (hd.heap_1 w.params) mg mb) : SFn prog w hb 2 192 (F_settled) := by
  have ok := o_settled
  refine sfn_of (c := x_settled) W ok (by intro _; rfl) (ps := [Str.ofString "number", Str.ofString "bits", Str.ofString "digits"]) (rest := []) rfl ⟨⟨_, _, _, _, _, _, _, _, _, _, _, by k_is, binds_3 (fun _ _ _ => rfl)⟩, by k_is, rfl, rfl, by decide +kernel⟩ ?_
  refine sb_cons ?_ ?_
  · refine ss_ret ?_
    exact (se_if (st_val (se_call W ok (by rfl) (by k_is) (by k_is) (plain_of (by rfl)) (sl_cons (se_loc ok (by rfl)) (sl_cons (se_loc ok (by rfl)) sl_nil)) ((s_fits W).le (by lia)))) (se_loc ok (by rfl)) se_no)
  exact sb_nil

def x_whole_reckoned : Fx := { q := Str.ofString "whole_reckoned", sc := { kind := .function, names := [(Str.ofString "op", NameKind.local), (Str.ofString "a", NameKind.local), (Str.ofString "b", NameKind.local), (Str.ofString "bits", NameKind.local), (Str.ofString "digits", NameKind.local), (Str.ofString "settled", NameKind.globalImplicit)], isGenerator := false, isCoroutine := false }, a := 199, cd := .ref 198, nm := [Str.ofString "op", Str.ofString "a", Str.ofString "b", Str.ofString "bits", Str.ofString "digits"] }

theorem o_whole_reckoned : x_whole_reckoned.Ok := ⟨rfl, by decide +kernel, by decide +kernel⟩

theorem s_whole_reckoned (W : Wd hb (hd.heap_1 w.params) mg mb) : SFn prog w hb 3 199 (F_whole_reckoned) := by
  have ok := o_whole_reckoned
  refine sfn_of (c := x_whole_reckoned) W ok (by intro _; rfl) (ps := [Str.ofString "op", Str.ofString "a", Str.ofString "b", Str.ofString "bits", Str.ofString "digits"]) (rest := []) rfl ⟨⟨_, _, _, _, _, _, _, _, _, _, _, by k_is, binds_5 (fun _ _ _ _ _ => rfl)⟩, by k_is, rfl, rfl, by decide +kernel⟩ ?_
  refine sb_cons ?_ ?_
  · refine ss_if ?_ ?_ ?_
    · exact (st_cmp (se_loc ok (by rfl)) se_str (cmp_eq W.nolimit))
    · refine sb_cons ?_ ?_
      · refine ss_ret ?_
        exact (se_call W ok (by rfl) (by k_is) (by k_is) (plain_of (by rfl)) (sl_cons (se_bin (se_loc ok (by rfl)) (se_loc ok (by rfl)) ok_add) (sl_cons (se_loc ok (by rfl)) (sl_cons (se_loc ok (by rfl)) sl_nil))) ((s_settled W).le (by lia)))
      exact sb_nil
    · exact sb_nil
  refine sb_cons ?_ ?_
  · refine ss_ret ?_
    exact (se_call W ok (by rfl) (by k_is) (by k_is) (plain_of (by rfl)) (sl_cons (se_if (st_cmp (se_loc ok (by rfl)) se_str (cmp_eq W.nolimit)) (se_bin (se_loc ok (by rfl)) (se_loc ok (by rfl)) ok_sub) (se_bin (se_loc ok (by rfl)) (se_loc ok (by rfl)) ok_mul)) (sl_cons (se_loc ok (by rfl)) (sl_cons (se_loc ok (by rfl)) sl_nil))) ((s_settled W).le (by lia)))
  exact sb_nil

def x_reckoned : Fx := { q := Str.ofString "reckoned", sc := { kind := .function, names := [(Str.ofString "op", NameKind.local), (Str.ofString "a", NameKind.local), (Str.ofString "b", NameKind.local), (Str.ofString "bits", NameKind.local), (Str.ofString "digits", NameKind.local), (Str.ofString "is_first", NameKind.local), (Str.ofString "is_second", NameKind.local), (Str.ofString "work", NameKind.local), (Str.ofString "one", NameKind.local), (Str.ofString "other", NameKind.local), (Str.ofString "is_whole", NameKind.globalImplicit), (Str.ofString "raised", NameKind.globalImplicit), (Str.ofString "cut_quotient", NameKind.globalImplicit), (Str.ofString "cut_rest", NameKind.globalImplicit), (Str.ofString "settled", NameKind.globalImplicit), (Str.ofString "whole_of", NameKind.globalImplicit), (Str.ofString "whole_reckoned", NameKind.globalImplicit), (Str.ofString "decimal_of", NameKind.globalImplicit), (Str.ofString "d_add", NameKind.globalImplicit), (Str.ofString "d_sub", NameKind.globalImplicit), (Str.ofString "d_mul", NameKind.globalImplicit), (Str.ofString "d_div", NameKind.globalImplicit)], isGenerator := false, isCoroutine := false }, a := 241, cd := .ref 240, nm := [Str.ofString "op", Str.ofString "a", Str.ofString "b", Str.ofString "bits", Str.ofString "digits", Str.ofString "is_first", Str.ofString "is_second", Str.ofString "work", Str.ofString "one", Str.ofString "other"] }

theorem o_reckoned : x_reckoned.Ok := ⟨rfl, by decide +kernel, by decide +kernel⟩

theorem s_reckoned (W : Wd hb (hd.heap_1 w.params) mg mb) : SFn prog w hb 4 241 (F_reckoned) := by
  have ok := o_reckoned
  refine sfn_of (c := x_reckoned) W ok (by intro _; rfl) (ps := [Str.ofString "op", Str.ofString "a", Str.ofString "b", Str.ofString "bits", Str.ofString "digits"]) (rest := [Str.ofString "is_first", Str.ofString "is_second", Str.ofString "work", Str.ofString "one", Str.ofString "other"]) rfl ⟨⟨_, _, _, _, _, _, _, _, _, _, _, by k_is, binds_5 (fun _ _ _ _ _ => rfl)⟩, by k_is, rfl, rfl, by decide +kernel⟩ ?_
  refine sb_cons ?_ ?_
  · refine ss_asgR (ks := [5, 6]) (names := [Str.ofString "is_first", Str.ofString "is_second"]) ok ?_ (by rfl) (by intro _; rfl) (by intro _; rfl)
    exact (se_tup (sl_cons (se_call W ok (by rfl) (by k_is) (by k_is) (plain_of (by rfl)) (sl_cons (se_loc ok (by rfl)) sl_nil) ((s_is_whole W).le (by lia))) (sl_cons (se_call W ok (by rfl) (by k_is) (by k_is) (plain_of (by rfl)) (sl_cons (se_loc ok (by rfl)) sl_nil) ((s_is_whole W).le (by lia))) sl_nil)))
  refine sb_cons ?_ ?_
  · refine ss_if ?_ ?_ ?_
    · exact (st_cmp (se_loc ok (by rfl)) se_str (cmp_eq W.nolimit))
    · exact sb_no
    · exact sb_nil
  refine sb_cons ?_ ?_
  · refine ss_if ?_ ?_ ?_
    · exact (st_bool (sa_or (st_cmp (se_loc ok (by rfl)) se_str (cmp_eq W.nolimit)) (sa_or (st_cmp (se_loc ok (by rfl)) se_str (cmp_eq W.nolimit)) sa_or_nil)))
    · exact sb_no
    · exact sb_nil
  refine sb_cons ?_ ?_
  · refine ss_if ?_ ?_ ?_
    · exact (st_bool (sa_and (st_cmp (se_loc ok (by rfl)) se_str cmp_ne) (sa_and (st_val (se_loc ok (by rfl))) (sa_and (st_val (se_loc ok (by rfl))) sa_and_nil))))
    · refine sb_cons ?_ ?_
      · refine ss_ret ?_
        exact (se_call W ok (by rfl) (by k_is) (by k_is) (plain_of (by rfl)) (sl_cons (se_loc ok (by rfl)) (sl_cons (se_loc ok (by rfl)) (sl_cons (se_loc ok (by rfl)) (sl_cons (se_loc ok (by rfl)) (sl_cons (se_loc ok (by rfl)) sl_nil))))) ((s_whole_reckoned W).le (by lia)))
      exact sb_nil
    · exact sb_nil
  exact sb_no

def x_run_plus : Fx := { q := Str.ofString "FlowRun.plus", sc := { kind := .function, names := [(Str.ofString "self", NameKind.local), (Str.ofString "value", NameKind.local), (Str.ofString "step", NameKind.local), (Str.ofString "reckoned", NameKind.globalImplicit)], isGenerator := false, isCoroutine := false }, a := 546, cd := .ref 545, nm := [Str.ofString "self", Str.ofString "value", Str.ofString "step"] }

theorem o_run_plus : x_run_plus.Ok := ⟨rfl, by decide +kernel, by decide +kernel⟩

theorem s_run_plus (W : Wd hb (hd.heap_1 w.params) mg mb) : SFn prog w hb 5 546 (F_run_plus) := by
  have ok := o_run_plus
  refine sfn_of (c := x_run_plus) W ok (by intro _; rfl) (ps := [Str.ofString "self", Str.ofString "value", Str.ofString "step"]) (rest := []) rfl ⟨⟨_, _, _, _, _, _, _, _, _, _, _, by k_is, binds_3 (fun _ _ _ => rfl)⟩, by k_is, rfl, rfl, by decide +kernel⟩ ?_
  refine sb_cons ?_ ?_
  · refine ss_ret ?_
    exact (se_call W ok (by rfl) (by k_is) (by k_is) (plain_of (by rfl)) (sl_cons se_str (sl_cons (se_loc ok (by rfl)) (sl_cons (se_loc ok (by rfl)) (sl_cons (se_attr W.x cls_FlowRun (by k_is) (se_loc ok (by rfl))) (sl_cons (se_attr W.x cls_FlowRun (by k_is) (se_loc ok (by rfl))) sl_nil))))) ((s_reckoned W).le (by lia)))
  exact sb_nil

def x_for_next : Fx := { q := Str.ofString "for_next", sc := { kind := .function, names := [(Str.ofString "control", NameKind.local), (Str.ofString "name", NameKind.local), (Str.ofString "value", NameKind.local), (Str.ofString "add", NameKind.local), (Str.ofString "order", NameKind.local), (Str.ofString "at", NameKind.local), (Str.ofString "kind", NameKind.local), (Str.ofString "word", NameKind.local), (Str.ofString "place", NameKind.local), (Str.ofString "limit", NameKind.local), (Str.ofString "step", NameKind.local), (Str.ofString "found_at", NameKind.globalImplicit), (Str.ofString "BasicError", NameKind.globalImplicit), (Str.ofString "is_past", NameKind.globalImplicit), (Str.ofString "cut_to", NameKind.globalImplicit)], isGenerator := false, isCoroutine := false }, a := 325, cd := .ref 324, nm := [Str.ofString "control", Str.ofString "name", Str.ofString "value", Str.ofString "add", Str.ofString "order", Str.ofString "at", Str.ofString "kind", Str.ofString "word", Str.ofString "place", Str.ofString "limit", Str.ofString "step"] }

theorem o_for_next : x_for_next.Ok := ⟨rfl, by decide +kernel, by decide +kernel⟩

theorem s_for_next (W : Wd hb (hd.heap_1 w.params) mg mb) : SFn prog w hb 6 325 (F_for_next) := by
  have ok := o_for_next
  refine sfn_of (c := x_for_next) W ok (by intro _; rfl) (ps := [Str.ofString "control", Str.ofString "name", Str.ofString "value", Str.ofString "add", Str.ofString "order"]) (rest := [Str.ofString "at", Str.ofString "kind", Str.ofString "word", Str.ofString "place", Str.ofString "limit", Str.ofString "step"]) rfl ⟨⟨_, _, _, _, _, _, _, _, _, _, _, by k_is, binds_5 (fun _ _ _ _ _ => rfl)⟩, by k_is, rfl, rfl, by decide +kernel⟩ ?_
  refine sb_cons ?_ ?_
  · refine ss_asg ?_ ?_ (by intro _; rfl) (by intro _; rfl) (by intro _ _ h; cases h)
    · exact (se_call W ok (by rfl) (by k_is) (by k_is) (plain_of (by rfl)) (sl_cons (se_attr W.x cls_Control (by k_is) (se_loc ok (by rfl))) (sl_cons se_str (sl_cons (se_loc ok (by rfl)) sl_nil))) ((s_found_at W).le (by lia)))
    · exact (sg_name ok (by rfl))
  refine sb_cons ?_ ?_
  · refine ss_if ?_ ?_ ?_
    · exact (st_cmp (se_loc ok (by rfl)) se_int cmp_lt)
    · exact sb_no
    · exact sb_nil
  refine sb_cons ?_ ?_
  · refine ss_asg ?_ ?_ (by intro _; rfl) (by intro _; rfl) (by intro _ _ h; cases h)
    · exact (se_idx (se_attr W.x cls_Control (by k_is) (se_loc ok (by rfl))) (se_loc ok (by rfl)))
    · exact (sg_tup (.cons (sg_name ok (by rfl)) (.cons (sg_name ok (by rfl)) (.cons (sg_name ok (by rfl)) (.cons (sg_name ok (by rfl)) (.cons (sg_name ok (by rfl)) .nil))))) (plain_of (by rfl)))
  refine sb_cons ?_ ?_
  · refine ss_asg ?_ ?_ (by intro _; rfl) (by intro _; rfl) (by intro _ _ h; cases h)
    · exact (se_callB W (by k_is) (se_loc ok (by rfl)) (plain_of (by rfl)) (sl_cons (se_loc ok (by rfl)) (sl_cons (se_loc ok (by rfl)) sl_nil)) ((s_run_plus W).le (by lia)))
    · exact (sg_name ok (by rfl))
  refine sb_cons ?_ ?_
  · refine ss_if ?_ ?_ ?_
    · exact (st_val (se_call W ok (by rfl) (by k_is) (by k_is) (plain_of (by rfl)) (sl_cons (se_loc ok (by rfl)) (sl_cons (se_loc ok (by rfl)) (sl_cons (se_loc ok (by rfl)) (sl_cons (se_loc ok (by rfl)) sl_nil)))) ((s_is_past W).le (by lia))))
    · refine sb_cons ?_ ?_
      · refine ss_expr ?_ (by intro _; rfl)
        exact (se_call W ok (by rfl) (by k_is) (by k_is) (plain_of (by rfl)) (sl_cons (se_loc ok (by rfl)) (sl_cons (se_loc ok (by rfl)) sl_nil)) ((s_cut_to W).le (by lia)))
      refine sb_cons ?_ ?_
      · refine ss_ret ?_
        exact (se_tup (sl_cons (se_loc ok (by rfl)) (sl_cons se_none sl_nil)))
      exact sb_nil
    · exact sb_nil
  refine sb_cons ?_ ?_
  · refine ss_expr ?_ (by intro _; rfl)
    exact (se_call W ok (by rfl) (by k_is) (by k_is) (plain_of (by rfl)) (sl_cons (se_loc ok (by rfl)) (sl_cons (se_bin (se_loc ok (by rfl)) se_int ok_add) sl_nil)) ((s_cut_to W).le (by lia)))
  refine sb_cons ?_ ?_
  · refine ss_ret ?_
    exact (se_tup (sl_cons (se_loc ok (by rfl)) (sl_cons (se_loc ok (by rfl)) sl_nil)))
  exact sb_nil

def x_next_from : Fx := { q := Str.ofString "next_from", sc := { kind := .function, names := [(Str.ofString "run", NameKind.local), (Str.ofString "at", NameKind.local), (Str.ofString "names", NameKind.local), (Str.ofString "told", NameKind.local), (Str.ofString "name", NameKind.local), (Str.ofString "value", NameKind.local), (Str.ofString "place", NameKind.local), (Str.ofString "for_name", NameKind.globalImplicit), (Str.ofString "for_next", NameKind.globalImplicit), (Str.ofString "order_of", NameKind.globalImplicit)], isGenerator := false, isCoroutine := false }, a := 497, cd := .ref 496, nm := [Str.ofString "run", Str.ofString "at", Str.ofString "names", Str.ofString "told", Str.ofString "name", Str.ofString "value", Str.ofString "place"] }

theorem o_next_from : x_next_from.Ok := ⟨rfl, by decide +kernel, by decide +kernel⟩

theorem s_next_from (W : Wd hb (hd.heap_1 w.params) mg mb) : SFn prog w hb 7 497 (F_next_from) := by
  have ok := o_next_from
  refine sfn_of (c := x_next_from) W ok (by intro _; rfl) (ps := [Str.ofString "run", Str.ofString "at", Str.ofString "names"]) (rest := [Str.ofString "told", Str.ofString "name", Str.ofString "value", Str.ofString "place"]) rfl ⟨⟨_, _, _, _, _, _, _, _, _, _, _, by k_is, binds_3 (fun _ _ _ => rfl)⟩, by k_is, rfl, rfl, by decide +kernel⟩ ?_
  refine sb_cons ?_ ?_
  · refine ss_for ?_ ?_ ?_ (by intro _ _; rfl)
    · exact (si_val .name (se_loc ok (by rfl)))
    · exact (sg_name ok (by rfl))
    · refine sb_cons ?_ ?_
      · refine ss_asg ?_ ?_ (by intro _; rfl) (by intro _; rfl) (by intro _ _ h; cases h)
        · exact (se_call W ok (by rfl) (by k_is) (by k_is) (plain_of (by rfl)) (sl_cons (se_attr W.x cls_FlowRun (by k_is) (se_loc ok (by rfl))) (sl_cons (se_loc ok (by rfl)) sl_nil)) ((s_for_name W).le (by lia)))
        · exact (sg_name ok (by rfl))
      refine sb_cons ?_ ?_
      · refine ss_asg ?_ ?_ (by intro _; rfl) (by intro _; rfl) (by intro _ _ h; cases h)
        · exact (se_call W ok (by rfl) (by k_is) (by k_is) (plain_of (by rfl)) (sl_cons (se_attr W.x cls_FlowRun (by k_is) (se_loc ok (by rfl))) (sl_cons (se_loc ok (by rfl)) (sl_cons (se_meth W cls_FlowRun (by k_is) (by k_is) (by k_is) (se_loc ok (by rfl)) (plain_of (by rfl)) (sl_cons (se_loc ok (by rfl)) sl_nil) ((s_run_value_of_name W).le (by lia))) (sl_cons (se_bound W.x cls_FlowRun (by k_is) (by k_is) (by k_is) (by k_is) (by decide +kernel) (se_loc ok (by rfl))) (sl_cons (se_glob W ok (by rfl) (by k_is) (fun _ _ _ _ => rfl)) sl_nil))))) ((s_for_next W).le (by lia)))
        · exact (sg_tup (.cons (sg_name ok (by rfl)) (.cons (sg_name ok (by rfl)) .nil)) (plain_of (by rfl)))
      refine sb_cons ?_ ?_
      · refine ss_expr ?_ (by intro _; rfl)
        exact (se_meth W cls_FlowRun (by k_is) (by k_is) (by k_is) (se_loc ok (by rfl)) (plain_of (by rfl)) (sl_cons (se_loc ok (by rfl)) (sl_cons (se_loc ok (by rfl)) sl_nil)) ((s_run_store W).le (by lia)))
      refine sb_cons ?_ ?_
      · refine ss_if ?_ ?_ ?_
        · exact (st_cmp (se_loc ok (by rfl)) se_none cmp_isnot)
        · refine sb_cons ?_ ?_
          · refine ss_ret ?_
            exact (se_loc ok (by rfl))
          exact sb_nil
        · exact sb_nil
      exact sb_nil
  refine sb_cons ?_ ?_
  · refine ss_ret ?_
    exact (se_bin (se_loc ok (by rfl)) se_int ok_add)
  exact sb_nil

def x_next_of_for : Fx := { q := Str.ofString "next_of_for", sc := { kind := .function, names := [(Str.ofString "flat", NameKind.local), (Str.ofString "row", NameKind.local), (Str.ofString "BasicError", NameKind.globalImplicit), (Str.ofString "line_of", NameKind.globalImplicit)], isGenerator := false, isCoroutine := false }, a := 461, cd := .ref 460, nm := [Str.ofString "flat", Str.ofString "row"] }

theorem o_next_of_for : x_next_of_for.Ok := ⟨rfl, by decide +kernel, by decide +kernel⟩

theorem s_next_of_for (W : Wd hb (hd.heap_1 w.params) mg mb) : SFn prog w hb 1 461 (F_next_of_for) := by
  have ok := o_next_of_for
  refine sfn_of (c := x_next_of_for) W ok (by intro _; rfl) (ps := [Str.ofString "flat", Str.ofString "row"]) (rest := []) rfl ⟨⟨_, _, _, _, _, _, _, _, _, _, _, by k_is, binds_2 (by intro _ _; rfl)⟩, by k_is, rfl, rfl, by decide +kernel⟩ ?_
  refine sb_cons ?_ ?_
  · refine ss_if ?_ ?_ ?_
    · exact (st_cmp (se_loc ok (by rfl)) (se_attr W.x cls_Flat (by k_is) (se_loc ok (by rfl))) (cmp_notin W.nolimit))
    · exact sb_no
    · exact sb_nil
  refine sb_cons ?_ ?_
  · refine ss_ret ?_
    exact (se_idx (se_attr W.x cls_Flat (by k_is) (se_loc ok (by rfl))) (se_loc ok (by rfl)))
  exact sb_nil

def x_do_for : Fx := { q := Str.ofString "do_for", sc := { kind := .function, names := [(Str.ofString "run", NameKind.local), (Str.ofString "at", NameKind.local), (Str.ofString "statement", NameKind.local), (Str.ofString "word", NameKind.local), (Str.ofString "name", NameKind.local), (Str.ofString "first", NameKind.local), (Str.ofString "last", NameKind.local), (Str.ofString "stride", NameKind.local), (Str.ofString "begin", NameKind.local), (Str.ofString "limit", NameKind.local), (Str.ofString "step", NameKind.local), (Str.ofString "value", NameKind.local), (Str.ofString "row", NameKind.local), (Str.ofString "which", NameKind.local), (Str.ofString "names", NameKind.local), (Str.ofString "isinstance", NameKind.globalImplicit), (Str.ofString "str", NameKind.globalImplicit), (Str.ofString "BasicError", NameKind.globalImplicit), (Str.ofString "is_past", NameKind.globalImplicit), (Str.ofString "order_of", NameKind.globalImplicit), (Str.ofString "for_begin", NameKind.globalImplicit), (Str.ofString "next_of_for", NameKind.globalImplicit), (Str.ofString "next_from", NameKind.globalImplicit)], isGenerator := false, isCoroutine := false }, a := 490, cd := .ref 489, nm := [Str.ofString "run", Str.ofString "at", Str.ofString "statement", Str.ofString "word", Str.ofString "name", Str.ofString "first", Str.ofString "last", Str.ofString "stride", Str.ofString "begin", Str.ofString "limit", Str.ofString "step", Str.ofString "value", Str.ofString "row", Str.ofString "which", Str.ofString "names"] }

theorem o_do_for : x_do_for.Ok := ⟨rfl, by decide +kernel, by decide +kernel⟩

theorem s_do_for (W : Wd hb (hd.heap_1 w.params) mg mb) : SFn prog w hb 8 490 (F_do_for) := by
  have ok := o_do_for
  refine sfn_of (c := x_do_for) W ok (by intro _; rfl) (ps := [Str.ofString "run", Str.ofString "at", Str.ofString "statement"]) (rest := [Str.ofString "word", Str.ofString "name", Str.ofString "first", Str.ofString "last", Str.ofString "stride", Str.ofString "begin", Str.ofString "limit", Str.ofString "step", Str.ofString "value", Str.ofString "row", Str.ofString "which", Str.ofString "names"]) rfl ⟨⟨_, _, _, _, _, _, _, _, _, _, _, by k_is, binds_3 (fun _ _ _ => rfl)⟩, by k_is, rfl, rfl, by decide +kernel⟩ ?_
  refine sb_cons ?_ ?_
  · refine ss_asg ?_ ?_ (by intro _; rfl) (by intro _; rfl) (by intro _ _ h; cases h)
    · exact (se_loc ok (by rfl))
    · exact (sg_tup (.cons (sg_name ok (by rfl)) (.cons (sg_name ok (by rfl)) (.cons (sg_name ok (by rfl)) (.cons (sg_name ok (by rfl)) (.cons (sg_name ok (by rfl)) .nil))))) (plain_of (by rfl)))
  refine sb_cons ?_ ?_
  · refine ss_asgR (ks := [8, 9]) (names := [Str.ofString "begin", Str.ofString "limit"]) ok ?_ (by rfl) (by intro _; rfl) (by intro _; rfl)
    exact (se_tup (sl_cons (se_meth W cls_FlowRun (by k_is) (by k_is) (by k_is) (se_loc ok (by rfl)) (plain_of (by rfl)) (sl_cons (se_loc ok (by rfl)) sl_nil) ((s_run_worth W).le (by lia))) (sl_cons (se_meth W cls_FlowRun (by k_is) (by k_is) (by k_is) (se_loc ok (by rfl)) (plain_of (by rfl)) (sl_cons (se_loc ok (by rfl)) sl_nil) ((s_run_worth W).le (by lia))) sl_nil)))
  refine sb_cons ?_ ?_
  · refine ss_asg ?_ ?_ (by intro _; rfl) (by intro _; rfl) (by intro _ _ h; cases h)
    · exact (se_if (st_cmp (se_loc ok (by rfl)) se_none cmp_is) se_int (se_meth W cls_FlowRun (by k_is) (by k_is) (by k_is) (se_loc ok (by rfl)) (plain_of (by rfl)) (sl_cons (se_loc ok (by rfl)) sl_nil) ((s_run_worth W).le (by lia))))
    · exact (sg_name ok (by rfl))
  refine sb_cons ?_ ?_
  · refine ss_for ?_ ?_ ?_ (by intro _ _; rfl)
    · exact (si_val .name (se_tup (sl_cons (se_loc ok (by rfl)) (sl_cons (se_loc ok (by rfl)) (sl_cons (se_loc ok (by rfl)) sl_nil)))))
    · exact (sg_name ok (by rfl))
    · refine sb_cons ?_ ?_
      · refine ss_if ?_ ?_ ?_
        · exact (st_val (se_isi W ok (by rfl) (by rfl) (by k_is) (by k_is) (by decide +kernel) (by decide) (se_loc ok (by rfl)) (by intro _ _ h; cases h) (fun _ _ _ _ _ _ _ _ _ _ _ a r h => isi_str a r h)))
        · exact sb_no
        · exact sb_nil
      exact sb_nil
  refine sb_cons ?_ ?_
  · refine ss_expr ?_ (by intro _; rfl)
    exact (se_meth W cls_FlowRun (by k_is) (by k_is) (by k_is) (se_loc ok (by rfl)) (plain_of (by rfl)) (sl_cons (se_loc ok (by rfl)) (sl_cons (se_loc ok (by rfl)) sl_nil)) ((s_run_store W).le (by lia)))
  refine sb_cons ?_ ?_
  · refine ss_if ?_ ?_ ?_
    · exact (st_not (st_val (se_call W ok (by rfl) (by k_is) (by k_is) (plain_of (by rfl)) (sl_cons (se_meth W cls_FlowRun (by k_is) (by k_is) (by k_is) (se_loc ok (by rfl)) (plain_of (by rfl)) (sl_cons (se_loc ok (by rfl)) sl_nil) ((s_run_value_of_name W).le (by lia))) (sl_cons (se_loc ok (by rfl)) (sl_cons (se_loc ok (by rfl)) (sl_cons (se_glob W ok (by rfl) (by k_is) (fun _ _ _ _ => rfl)) sl_nil)))) ((s_is_past W).le (by lia)))))
    · refine sb_cons ?_ ?_
      · refine ss_expr ?_ (by intro _; rfl)
        exact (se_call W ok (by rfl) (by k_is) (by k_is) (plain_of (by rfl)) (sl_cons (se_attr W.x cls_FlowRun (by k_is) (se_loc ok (by rfl))) (sl_cons (se_loc ok (by rfl)) (sl_cons (se_bin (se_loc ok (by rfl)) se_int ok_add) (sl_cons (se_loc ok (by rfl)) (sl_cons (se_loc ok (by rfl)) sl_nil))))) ((s_for_begin W).le (by lia)))
      refine sb_cons ?_ ?_
      · refine ss_ret ?_
        exact (se_bin (se_loc ok (by rfl)) se_int ok_add)
      exact sb_nil
    · exact sb_nil
  refine sb_cons ?_ ?_
  · refine ss_asg ?_ ?_ (by intro _; rfl) (by intro _; rfl) (by intro _ _ h; cases h)
    · exact (se_call W ok (by rfl) (by k_is) (by k_is) (plain_of (by rfl)) (sl_cons (se_attr W.x cls_FlowRun (by k_is) (se_loc ok (by rfl))) (sl_cons (se_loc ok (by rfl)) sl_nil)) ((s_next_of_for W).le (by lia)))
    · exact (sg_tup (.cons (sg_name ok (by rfl)) (.cons (sg_name ok (by rfl)) .nil)) (plain_of (by rfl)))
  refine sb_cons ?_ ?_
  · refine ss_asg ?_ ?_ (by intro _; rfl) (by intro _; rfl) (by intro _ _ h; cases h)
    · exact (se_idx (se_idx (se_idx (se_attr W.x cls_Flat (by k_is) (se_attr W.x cls_FlowRun (by k_is) (se_loc ok (by rfl)))) (se_loc ok (by rfl))) se_int) se_int)
    · exact (sg_name ok (by rfl))
  refine sb_cons ?_ ?_
  · refine ss_ret ?_
    exact (se_call W ok (by rfl) (by k_is) (by k_is) (plain_of (by rfl)) (sl_cons (se_loc ok (by rfl)) (sl_cons (se_loc ok (by rfl)) (sl_cons (se_from (se_loc ok (by rfl)) (se_bin (se_loc ok (by rfl)) se_int ok_add)) sl_nil))) ((s_next_from W).le (by lia)))
  exact sb_nil

def x_end_of_while : Fx := { q := Str.ofString "end_of_while", sc := { kind := .function, names := [(Str.ofString "flat", NameKind.local), (Str.ofString "row", NameKind.local), (Str.ofString "BasicError", NameKind.globalImplicit), (Str.ofString "line_of", NameKind.globalImplicit)], isGenerator := false, isCoroutine := false }, a := 454, cd := .ref 453, nm := [Str.ofString "flat", Str.ofString "row"] }

theorem o_end_of_while : x_end_of_while.Ok := ⟨rfl, by decide +kernel, by decide +kernel⟩

theorem s_end_of_while (W : Wd hb (hd.heap_1 w.params) mg mb) : SFn prog w hb 1 454 (F_end_of_while) := by
  have ok := o_end_of_while
  refine sfn_of (c := x_end_of_while) W ok (by intro _; rfl) (ps := [Str.ofString "flat", Str.ofString "row"]) (rest := []) rfl ⟨⟨_, _, _, _, _, _, _, _, _, _, _, by k_is, binds_2 (by intro _ _; rfl)⟩, by k_is, rfl, rfl, by decide +kernel⟩ ?_
  refine sb_cons ?_ ?_
  · refine ss_if ?_ ?_ ?_
    · exact (st_cmp (se_loc ok (by rfl)) (se_attr W.x cls_Flat (by k_is) (se_loc ok (by rfl))) (cmp_notin W.nolimit))
    · exact sb_no
    · exact sb_nil
  refine sb_cons ?_ ?_
  · refine ss_ret ?_
    exact (se_idx (se_attr W.x cls_Flat (by k_is) (se_loc ok (by rfl))) (se_loc ok (by rfl)))
  exact sb_nil

def x_wend_place : Fx := { q := Str.ofString "wend_place", sc := { kind := .function, names := [(Str.ofString "control", NameKind.local), (Str.ofString "at", NameKind.local), (Str.ofString "found_at", NameKind.globalImplicit), (Str.ofString "BasicError", NameKind.globalImplicit), (Str.ofString "cut_to", NameKind.globalImplicit)], isGenerator := false, isCoroutine := false }, a := 342, cd := .ref 341, nm := [Str.ofString "control", Str.ofString "at"] }

theorem o_wend_place : x_wend_place.Ok := ⟨rfl, by decide +kernel, by decide +kernel⟩

theorem s_wend_place (W : Wd hb (hd.heap_1 w.params) mg mb) : SFn prog w hb 3 342 (F_wend_place) := by
  have ok := o_wend_place
  refine sfn_of (c := x_wend_place) W ok (by intro _; rfl) (ps := [Str.ofString "control"]) (rest := [Str.ofString "at"]) rfl ⟨⟨_, _, _, _, _, _, _, _, _, _, _, by k_is, binds_1 (by intro _; rfl)⟩, by k_is, rfl, rfl, by decide +kernel⟩ ?_
  refine sb_cons ?_ ?_
  · refine ss_asg ?_ ?_ (by intro _; rfl) (by intro _; rfl) (by intro _ _ h; cases h)
    · exact (se_call W ok (by rfl) (by k_is) (by k_is) (plain_of (by rfl)) (sl_cons (se_attr W.x cls_Control (by k_is) (se_loc ok (by rfl))) (sl_cons se_str (sl_cons se_str sl_nil))) ((s_found_at W).le (by lia)))
    · exact (sg_name ok (by rfl))
  refine sb_cons ?_ ?_
  · refine ss_if ?_ ?_ ?_
    · exact (st_cmp (se_loc ok (by rfl)) se_int cmp_lt)
    · exact sb_no
    · exact sb_nil
  refine sb_cons ?_ ?_
  · refine ss_expr ?_ (by intro _; rfl)
    exact (se_call W ok (by rfl) (by k_is) (by k_is) (plain_of (by rfl)) (sl_cons (se_loc ok (by rfl)) (sl_cons (se_bin (se_loc ok (by rfl)) se_int ok_add) sl_nil)) ((s_cut_to W).le (by lia)))
  refine sb_cons ?_ ?_
  · refine ss_ret ?_
    exact (se_idx (se_idx (se_attr W.x cls_Control (by k_is) (se_loc ok (by rfl))) (se_loc ok (by rfl))) se_int)
  exact sb_nil

end
end Mine.E
set_option maxHeartbeats 8000000
namespace Mine.E
section
variable {prog : Program} {w : World} {hb : Base} {mg mb : Str → Option Value} {sa : Nat} {ns : List Int} {svs : List Value}
def x_put (cl : List (Str × Nat)) : Fx := { q := Str.ofString "_law_put", sc := { kind := .function, names := [(Str.ofString "lines", NameKind.local), (Str.ofString "base", NameKind.cell), (Str.ofString "statement", NameKind.local), (Str.ofString "inside", NameKind.local), (Str.ofString "len", NameKind.globalImplicit)], isGenerator := false, isCoroutine := false, more := [(Str.ofString "fast", Const.str (Str.ofString "lines")), (Str.ofString "fast", Const.str (Str.ofString "base")), (Str.ofString "fast", Const.str (Str.ofString "statement")), (Str.ofString "fast", Const.str (Str.ofString "pair")), (Str.ofString "fast", Const.str (Str.ofString "inside"))] }, a := 600, cd := .ref 599, nm := [Str.ofString "lines", Str.ofString "statement", Str.ofString "inside"], cl := fun _ => cl }
theorem o_put (cl : List (Str × Nat)) : (x_put cl).Ok := ⟨rfl, (by decide +kernel : List.Nodup [Str.ofString "lines", Str.ofString "statement", Str.ofString "inside"]), (by decide +kernel : ∀ x ∈ [Str.ofString "lines", Str.ofString "statement", Str.ofString "inside"], List.lookup x [(Str.ofString "lines", NameKind.local), (Str.ofString "base", NameKind.cell), (Str.ofString "statement", NameKind.local), (Str.ofString "inside", NameKind.local), (Str.ofString "len", NameKind.globalImplicit)] = some NameKind.local)⟩

theorem s_put (W : Wd hb (hd.heap_1 w.params) mg mb) : SFn prog w hb 2 600 F_put := by
  refine SFn.mk ?_
  intro A Lc f σ m s nm vs us P Q rm a r h kk
  cases vs with
  | nil => exact h.no
  | cons l vs =>
  obtain ⟨b, st, rfl, g1⟩ := on2_ok h
  obtain ⟨b, rfl, hB⟩ := onInt_ok g1
  obtain ⟨u1, u2, u3, rfl, r1, ⟨t, rfl⟩, r3⟩ := RVs.three_inv r
  refine enter_cells (d := 1) (q := (x_put []).q) (sc := (x_put []).sc) (fa := 600) (cd := .ref 599) (ps := [Str.ofString "lines", Str.ofString "base", Str.ofString "statement"]) (X := [s.heap.objs.size]) W ⟨⟨_, _, _, _, _, _, _, _, _, _, _, by k_is, binds_3 (fun _ _ _ => rfl)⟩, by k_is, rfl, rfl, rfl⟩ (fun L x hx => ?_) (fun b hb => ?_) rm a r rfl ?_ kk
  · simp only [List.mem_cons, List.not_mem_nil, or_false] at hx
    rcases hx with rfl | rfl | rfl
    · exact .inl rfl
    · exact .inr ⟨rfl, rfl⟩
    · exact .inl rfl
  · rw [List.mem_singleton.mp hb]; exact Nat.le_refl _
  intro A' h₁ tk rm' hk hns hcell a1
  have im : Imm s.heap h₁ := .of_keeps hk
  have hc : h₁.IsCell (s.heap.objs.size + 1) (some (.int b t)) := hcell (Str.ofString "base") (s.heap.objs.size + 1) rfl
  have aC : At prog w hb [Str.ofString "lines", Str.ofString "statement", Str.ofString "inside"] s.heap.objs.size f σ [some l, some st, none] h₁ := by
    refine At.enter a rfl a1 hns rfl fun k x v hx hv => ?_
    match k, hx, hv with
    | 0, hx, hv => cases hx; cases hv; exact ⟨u1, rfl, r1.mono im (Nat.le_refl _) fun _ _ => rfl⟩
    | 1, hx, hv => cases hx; cases hv; exact ⟨u3, rfl, r3.mono im (Nat.le_refl _) fun _ _ => rfl⟩
    | 2, hx, hv => cases hv
  have aB := aC.plus (bs := [s.heap.objs.size + 1]) (fun y hy => by
    rw [List.mem_singleton.mp hy]
    exact ⟨Nat.succ_ne_self _, fun i hi => Nat.ne_of_lt (Nat.lt_succ_of_lt (a.flt hi))⟩)
  have h_base := cell_plus (hb := hb) (n := σ.length) (f := f) (bs := [s.heap.objs.size + 1]) hc (.head _)
  have r_base : RV (hb.plus h₁ [s.heap.objs.size + 1] σ.length f).n0 (hb.plus h₁ [s.heap.objs.size + 1] σ.length f).h (hb.plus h₁ [s.heap.objs.size + 1] σ.length f).f0 (.int b) (.int b t) := ⟨t, rfl⟩
  replace W := W.plus (bs := [s.heap.objs.size + 1]) (n := σ.length) (f0 := f) a1.keep
  let clo : List (Str × Nat) := [(Str.ofString "base", s.heap.objs.size + 1)]
  have ok := o_put clo
  have okc : ∀ L, (cin (x_put clo) ⟨.function, [(Str.ofString ".0", .local), (Str.ofString "pair", .local), (Str.ofString "base", .free)], false, false, []⟩ (Str.ofString "pair") clo L).Ok := fun L => ⟨rfl, (by decide +kernel : List.Nodup [Str.ofString "pair"]), fun x hx => by rw [List.mem_singleton.mp hx]; rfl⟩
  refine SB.app (c := x_put clo) (d := 1) (F := B_put (.int b)) ?hp rm' aB hB fun x m' σ' f' u s' p x1 r2 => ⟨x, m', σ', f', _, p, x1.d.toX (.head _), At.minus a1.keep a1.base.1 (fun i hi => a1.base.2 i hi) x1.a, r2⟩
  case hp =>
    refine sb_cons ?_ ?_
    · refine ss_asg ?_ ?_ (by intro _; rfl) (by intro _; rfl) (by intro _ _ h; cases h)
      · exact (se_bltin W ok (by rfl) (by k_is) (by decide +kernel) (by decide) (plain_of (by rfl)) (sl_cons (se_comp (cl := fun _ => clo) (si_val .name (se_loc ok (by rfl))) (by intro _; rfl) okc (by rfl) (by decide +kernel) (by rfl) (by decide +kernel) (fun L => have ok := okc L; (st_cmp (se_idx (se_loc ok (by rfl)) se_int) (se_cell rfl rfl (by intro _; rfl) h_base r_base) cmp_ge)) (by intro _ _; rfl)) sl_nil) ok_len)
      · exact (sg_name ok (by rfl))
    refine sb_cons ?_ ?_
    · refine ss_expr ?_ (by intro _; rfl)
      exact (se_append (se_loc ok (by rfl)) (se_tup (sl_cons (se_bin (se_cell rfl rfl (by intro _; rfl) h_base r_base) (se_loc ok (by rfl)) ok_add) (sl_cons (se_list (sl_cons (se_loc ok (by rfl)) sl_nil)) sl_nil))) (plain_of (by rfl)) ⟨_, by intro _; rfl⟩)
    exact sb_nil

def x_while_begin (cl : List (Str × Nat)) : Fx := { q := Str.ofString "while_begin", sc := { kind := .function, names := [(Str.ofString "control", NameKind.local), (Str.ofString "place", NameKind.cell), (Str.ofString "pile", NameKind.cell), (Str.ofString "spots", NameKind.local), (Str.ofString "range", NameKind.globalImplicit), (Str.ofString "floor_of", NameKind.globalImplicit), (Str.ofString "len", NameKind.globalImplicit), (Str.ofString "cut_to", NameKind.globalImplicit), (Str.ofString "put_upon", NameKind.globalImplicit)], isGenerator := false, isCoroutine := false, more := [(Str.ofString "fast", Const.str (Str.ofString "control")), (Str.ofString "fast", Const.str (Str.ofString "place")), (Str.ofString "fast", Const.str (Str.ofString "pile")), (Str.ofString "fast", Const.str (Str.ofString "at")), (Str.ofString "fast", Const.str (Str.ofString "spots"))] }, a := 330, cd := .ref 329, nm := [Str.ofString "control", Str.ofString "spots"], cl := fun _ => cl }
theorem o_while_begin (cl : List (Str × Nat)) : (x_while_begin cl).Ok := ⟨rfl, (by decide +kernel : List.Nodup [Str.ofString "control", Str.ofString "spots"]), (by decide +kernel : ∀ x ∈ [Str.ofString "control", Str.ofString "spots"], List.lookup x [(Str.ofString "control", NameKind.local), (Str.ofString "place", NameKind.cell), (Str.ofString "pile", NameKind.cell), (Str.ofString "spots", NameKind.local), (Str.ofString "range", NameKind.globalImplicit), (Str.ofString "floor_of", NameKind.globalImplicit), (Str.ofString "len", NameKind.globalImplicit), (Str.ofString "cut_to", NameKind.globalImplicit), (Str.ofString "put_upon", NameKind.globalImplicit)] = some NameKind.local)⟩

theorem s_while_begin (W : Wd hb (hd.heap_1 w.params) mg mb) : SFn prog w hb 3 330 F_while_begin := by
  refine SFn.mk ?_
  intro A Lc f σ m s nm vs us P Q rm a r h kk
  obtain ⟨ct, pl, rfl, g1⟩ := on2_ok h
  obtain ⟨pl, rfl, g2⟩ := onInt_ok g1
  obtain ⟨u1, u2, rfl, r1, ⟨t, rfl⟩⟩ := RVs.two_inv r
  refine enter_cells (d := 2) (q := (x_while_begin []).q) (sc := (x_while_begin []).sc) (fa := 330) (cd := .ref 329) (ps := [Str.ofString "control", Str.ofString "place"]) (X := [s.heap.objs.size, s.heap.objs.size + 2]) W ⟨⟨_, _, _, _, _, _, _, _, _, _, _, by k_is, binds_2 (by intro _ _; rfl)⟩, by k_is, rfl, rfl, rfl⟩ (fun L x hx => ?_) (fun b hb => ?_) rm a r rfl ?_ kk
  · simp only [List.mem_cons, List.not_mem_nil, or_false] at hx
    rcases hx with rfl | rfl
    · exact .inl rfl
    · exact .inr ⟨rfl, rfl⟩
  · simp only [List.mem_cons, List.not_mem_nil, or_false] at hb
    lia
  intro A' h₁ tk rm' hk hns hcell a1
  have aC : At prog w hb [Str.ofString "control", Str.ofString "spots"] s.heap.objs.size f σ [some ct, none] h₁ := by
    refine At.enter a rfl a1 hns rfl fun k x v hx hv => ?_
    match k, hx, hv with
    | 0, hx, hv => cases hx; cases hv; exact ⟨u1, rfl, r1.mono (.of_keeps hk) (Nat.le_refl _) fun _ _ => rfl⟩
    | 1, hx, hv => cases hv
  let clo : List (Str × Nat) := [(Str.ofString "pile", s.heap.objs.size + 2), (Str.ofString "place", s.heap.objs.size + 1)]
  have ok := o_while_begin clo
  refine wpAny_execs_cons (wpAny_Assign_stores (SE.app (c := x_while_begin clo) (d := 2) (F := eUn (attrOf 265 "pile") (eLoc 0)) (P := fun pv σ => onRef pv fun ip => B_while_begin (.int pl) (.ref ip) [some ct, none] σ fun x _ σ => P (flV x) σ) ?hq rm' aC g2 fun v1 σ0 f1 uq s1 hB x1 q1 => ?_) rfl rfl)
  case hq => exact se_attr W.x cls_Control (by k_is) (se_loc ok (by rfl))
  obtain ⟨ip, rfl, hB⟩ := onRef_ok hB
  obtain ⟨e1, e2⟩ := mid_ (s := { s with heap := h₁, toks := tk }) a rfl (hcell (Str.ofString "place") (s.heap.objs.size + 1) rfl) (hcell (Str.ofString "pile") (s.heap.objs.size + 2) rfl) x1 q1
  rw [(assignEach_map (ts := [_]) (env := envOfC _ _ _ _ _) fun y hy => by rw [List.mem_singleton.mp hy]; intro _ _ h; cases h).1]
  show wpAny _ _ (assign (.Name (Str.ofString "pile") _) _ uq) _ _ _
  rw [PySem.assign_Name]
  refine wpAny_bind (wpAny_standAt (wpAny_bindName (wpAny_storeName_cell rfl rfl (c := s.heap.objs.size + 2) rfl e1 fun h₂ hc3 hs => ?_)))
  dsimp only
  have M := e2 h₂ hc3 hs
  have h_place := M.c1
  have h_pile := M.c2
  have r_place : RV (hb.plus h₂ [s.heap.objs.size + 1, s.heap.objs.size + 2] σ0.length f1).n0 (hb.plus h₂ [s.heap.objs.size + 1, s.heap.objs.size + 2] σ0.length f1).h (hb.plus h₂ [s.heap.objs.size + 1, s.heap.objs.size + 2] σ0.length f1).f0 (.int pl) (.int pl t) := ⟨t, rfl⟩
  have r_pile : RV (hb.plus h₂ [s.heap.objs.size + 1, s.heap.objs.size + 2] σ0.length f1).n0 (hb.plus h₂ [s.heap.objs.size + 1, s.heap.objs.size + 2] σ0.length f1).h (hb.plus h₂ [s.heap.objs.size + 1, s.heap.objs.size + 2] σ0.length f1).f0 (.ref ip) uq := M.r
  replace W := W.plus (bs := [s.heap.objs.size + 1, s.heap.objs.size + 2]) (n := σ0.length) (f0 := f1) M.b.keep
  have okc : ∀ L, (cin (x_while_begin clo) ⟨.function, [(Str.ofString ".0", .local), (Str.ofString "at", .local), (Str.ofString "pile", .free), (Str.ofString "place", .free)], false, false, []⟩ (Str.ofString "at") [(Str.ofString "place", s.heap.objs.size + 1), (Str.ofString "pile", s.heap.objs.size + 2)] L).Ok := fun L => ⟨rfl, (by decide +kernel : List.Nodup [Str.ofString "at"]), fun x hx => by rw [List.mem_singleton.mp hx]; rfl⟩
  refine SB.app (c := x_while_begin clo) (d := 2) (F := B_while_begin (.int pl) (.ref ip)) (s := { s1 with heap := h₂ }) ?hp rm' M.a hB fun x m' σ' f' u s' p x2 r2 => ⟨x, m', σ', f', _, p, M.d.trans (x2.d.toX (.head _)), At.minus M.b.keep M.b.base.1 (fun i hi => M.b.base.2 i hi) x2.a, r2⟩
  case hp =>
    refine sb_cons ?_ ?_
    · exact (ss_compA (cl := fun _ => [(Str.ofString "place", s.heap.objs.size + 1), (Str.ofString "pile", s.heap.objs.size + 2)]) ok (by rfl) (si_rng2 W ok (by rfl) (by k_is) (by decide +kernel) (plain_of (by rfl)) (sl_cons (se_call W ok (by rfl) (by k_is) (by k_is) (plain_of (by rfl)) (sl_cons (se_cell rfl rfl (by intro _; rfl) h_pile r_pile) sl_nil) ((s_floor_of W).le (by lia))) (sl_cons (se_bltin W ok (by rfl) (by k_is) (by decide +kernel) (by decide) (plain_of (by rfl)) (sl_cons (se_cell rfl rfl (by intro _; rfl) h_pile r_pile) sl_nil) ok_len) sl_nil))) (by intro _; rfl) okc (by rfl) (by decide +kernel) (by rfl) (by decide +kernel) (fun L => have ok := okc L; (st_cmp (se_idx (se_cell rfl rfl (by intro _; rfl) h_pile r_pile) (se_loc ok (by rfl))) (se_tup (sl_cons se_str (sl_cons (se_cell rfl rfl (by intro _; rfl) h_place r_place) sl_nil))) (cmp_eq W.nolimit))) (by intro _ _; rfl) (by intro _; rfl))
    refine sb_cons ?_ ?_
    · refine ss_if ?_ ?_ ?_
      · exact (st_cmp (se_loc ok (by rfl)) (se_list sl_nil) cmp_ne)
      · refine sb_cons ?_ ?_
        · refine ss_expr ?_ (by intro _; rfl)
          exact (se_call W ok (by rfl) (by k_is) (by k_is) (plain_of (by rfl)) (sl_cons (se_loc ok (by rfl)) (sl_cons (se_bin (se_idx (se_loc ok (by rfl)) se_int) se_int ok_add) sl_nil)) ((s_cut_to W).le (by lia)))
        exact sb_nil
      · refine sb_cons ?_ ?_
        · refine ss_expr ?_ (by intro _; rfl)
          exact (se_call W ok (by rfl) (by k_is) (by k_is) (plain_of (by rfl)) (sl_cons (se_loc ok (by rfl)) (sl_cons (se_tup (sl_cons se_str (sl_cons (se_cell rfl rfl (by intro _; rfl) h_place r_place) sl_nil))) sl_nil)) ((s_put_upon W).le (by lia)))
        exact sb_nil
    exact sb_nil

def x_while_end (cl : List (Str × Nat)) : Fx := { q := Str.ofString "while_end", sc := { kind := .function, names := [(Str.ofString "control", NameKind.local), (Str.ofString "place", NameKind.cell), (Str.ofString "pile", NameKind.cell), (Str.ofString "spots", NameKind.local), (Str.ofString "range", NameKind.globalImplicit), (Str.ofString "floor_of", NameKind.globalImplicit), (Str.ofString "len", NameKind.globalImplicit), (Str.ofString "cut_to", NameKind.globalImplicit)], isGenerator := false, isCoroutine := false, more := [(Str.ofString "fast", Const.str (Str.ofString "control")), (Str.ofString "fast", Const.str (Str.ofString "place")), (Str.ofString "fast", Const.str (Str.ofString "pile")), (Str.ofString "fast", Const.str (Str.ofString "at")), (Str.ofString "fast", Const.str (Str.ofString "spots"))] }, a := 335, cd := .ref 334, nm := [Str.ofString "control", Str.ofString "spots"], cl := fun _ => cl }
theorem o_while_end (cl : List (Str × Nat)) : (x_while_end cl).Ok := ⟨rfl, (by decide +kernel : List.Nodup [Str.ofString "control", Str.ofString "spots"]), (by decide +kernel : ∀ x ∈ [Str.ofString "control", Str.ofString "spots"], List.lookup x [(Str.ofString "control", NameKind.local), (Str.ofString "place", NameKind.cell), (Str.ofString "pile", NameKind.cell), (Str.ofString "spots", NameKind.local), (Str.ofString "range", NameKind.globalImplicit), (Str.ofString "floor_of", NameKind.globalImplicit), (Str.ofString "len", NameKind.globalImplicit), (Str.ofString "cut_to", NameKind.globalImplicit)] = some NameKind.local)⟩

theorem s_while_end (W : Wd hb (hd.heap_1 w.params) mg mb) : SFn prog w hb 3 335 F_while_end := by
  refine SFn.mk ?_
  intro A Lc f σ m s nm vs us P Q rm a r h kk
  obtain ⟨ct, pl, rfl, g1⟩ := on2_ok h
  obtain ⟨pl, rfl, g2⟩ := onInt_ok g1
  obtain ⟨u1, u2, rfl, r1, ⟨t, rfl⟩⟩ := RVs.two_inv r
  refine enter_cells (d := 2) (q := (x_while_end []).q) (sc := (x_while_end []).sc) (fa := 335) (cd := .ref 334) (ps := [Str.ofString "control", Str.ofString "place"]) (X := [s.heap.objs.size, s.heap.objs.size + 2]) W ⟨⟨_, _, _, _, _, _, _, _, _, _, _, by k_is, binds_2 (by intro _ _; rfl)⟩, by k_is, rfl, rfl, rfl⟩ (fun L x hx => ?_) (fun b hb => ?_) rm a r rfl ?_ kk
  · simp only [List.mem_cons, List.not_mem_nil, or_false] at hx
    rcases hx with rfl | rfl
    · exact .inl rfl
    · exact .inr ⟨rfl, rfl⟩
  · simp only [List.mem_cons, List.not_mem_nil, or_false] at hb
    lia
  intro A' h₁ tk rm' hk hns hcell a1
  have aC : At prog w hb [Str.ofString "control", Str.ofString "spots"] s.heap.objs.size f σ [some ct, none] h₁ := by
    refine At.enter a rfl a1 hns rfl fun k x v hx hv => ?_
    match k, hx, hv with
    | 0, hx, hv => cases hx; cases hv; exact ⟨u1, rfl, r1.mono (.of_keeps hk) (Nat.le_refl _) fun _ _ => rfl⟩
    | 1, hx, hv => cases hv
  let clo : List (Str × Nat) := [(Str.ofString "pile", s.heap.objs.size + 2), (Str.ofString "place", s.heap.objs.size + 1)]
  have ok := o_while_end clo
  refine wpAny_execs_cons (wpAny_Assign_stores (SE.app (c := x_while_end clo) (d := 2) (F := eUn (attrOf 265 "pile") (eLoc 0)) (P := fun pv σ => onRef pv fun ip => B_while_end (.int pl) (.ref ip) [some ct, none] σ fun x _ σ => P (flV x) σ) ?hq rm' aC g2 fun v1 σ0 f1 uq s1 hB x1 q1 => ?_) rfl rfl)
  case hq => exact se_attr W.x cls_Control (by k_is) (se_loc ok (by rfl))
  obtain ⟨ip, rfl, hB⟩ := onRef_ok hB
  obtain ⟨e1, e2⟩ := mid_ (s := { s with heap := h₁, toks := tk }) a rfl (hcell (Str.ofString "place") (s.heap.objs.size + 1) rfl) (hcell (Str.ofString "pile") (s.heap.objs.size + 2) rfl) x1 q1
  rw [(assignEach_map (ts := [_]) (env := envOfC _ _ _ _ _) fun y hy => by rw [List.mem_singleton.mp hy]; intro _ _ h; cases h).1]
  show wpAny _ _ (assign (.Name (Str.ofString "pile") _) _ uq) _ _ _
  rw [PySem.assign_Name]
  refine wpAny_bind (wpAny_standAt (wpAny_bindName (wpAny_storeName_cell rfl rfl (c := s.heap.objs.size + 2) rfl e1 fun h₂ hc3 hs => ?_)))
  dsimp only
  have M := e2 h₂ hc3 hs
  have h_place := M.c1
  have h_pile := M.c2
  have r_place : RV (hb.plus h₂ [s.heap.objs.size + 1, s.heap.objs.size + 2] σ0.length f1).n0 (hb.plus h₂ [s.heap.objs.size + 1, s.heap.objs.size + 2] σ0.length f1).h (hb.plus h₂ [s.heap.objs.size + 1, s.heap.objs.size + 2] σ0.length f1).f0 (.int pl) (.int pl t) := ⟨t, rfl⟩
  have r_pile : RV (hb.plus h₂ [s.heap.objs.size + 1, s.heap.objs.size + 2] σ0.length f1).n0 (hb.plus h₂ [s.heap.objs.size + 1, s.heap.objs.size + 2] σ0.length f1).h (hb.plus h₂ [s.heap.objs.size + 1, s.heap.objs.size + 2] σ0.length f1).f0 (.ref ip) uq := M.r
  replace W := W.plus (bs := [s.heap.objs.size + 1, s.heap.objs.size + 2]) (n := σ0.length) (f0 := f1) M.b.keep
  have okc : ∀ L, (cin (x_while_end clo) ⟨.function, [(Str.ofString ".0", .local), (Str.ofString "at", .local), (Str.ofString "pile", .free), (Str.ofString "place", .free)], false, false, []⟩ (Str.ofString "at") [(Str.ofString "place", s.heap.objs.size + 1), (Str.ofString "pile", s.heap.objs.size + 2)] L).Ok := fun L => ⟨rfl, (by decide +kernel : List.Nodup [Str.ofString "at"]), fun x hx => by rw [List.mem_singleton.mp hx]; rfl⟩
  refine SB.app (c := x_while_end clo) (d := 2) (F := B_while_end (.int pl) (.ref ip)) (s := { s1 with heap := h₂ }) ?hp rm' M.a hB fun x m' σ' f' u s' p x2 r2 => ⟨x, m', σ', f', _, p, M.d.trans (x2.d.toX (.head _)), At.minus M.b.keep M.b.base.1 (fun i hi => M.b.base.2 i hi) x2.a, r2⟩
  case hp =>
    refine sb_cons ?_ ?_
    · exact (ss_compA (cl := fun _ => [(Str.ofString "place", s.heap.objs.size + 1), (Str.ofString "pile", s.heap.objs.size + 2)]) ok (by rfl) (si_rng2 W ok (by rfl) (by k_is) (by decide +kernel) (plain_of (by rfl)) (sl_cons (se_call W ok (by rfl) (by k_is) (by k_is) (plain_of (by rfl)) (sl_cons (se_cell rfl rfl (by intro _; rfl) h_pile r_pile) sl_nil) ((s_floor_of W).le (by lia))) (sl_cons (se_bltin W ok (by rfl) (by k_is) (by decide +kernel) (by decide) (plain_of (by rfl)) (sl_cons (se_cell rfl rfl (by intro _; rfl) h_pile r_pile) sl_nil) ok_len) sl_nil))) (by intro _; rfl) okc (by rfl) (by decide +kernel) (by rfl) (by decide +kernel) (fun L => have ok := okc L; (st_cmp (se_idx (se_cell rfl rfl (by intro _; rfl) h_pile r_pile) (se_loc ok (by rfl))) (se_tup (sl_cons se_str (sl_cons (se_cell rfl rfl (by intro _; rfl) h_place r_place) sl_nil))) (cmp_eq W.nolimit))) (by intro _ _; rfl) (by intro _; rfl))
    refine sb_cons ?_ ?_
    · refine ss_if ?_ ?_ ?_
      · exact (st_cmp (se_loc ok (by rfl)) (se_list sl_nil) cmp_ne)
      · refine sb_cons ?_ ?_
        · refine ss_expr ?_ (by intro _; rfl)
          exact (se_call W ok (by rfl) (by k_is) (by k_is) (plain_of (by rfl)) (sl_cons (se_loc ok (by rfl)) (sl_cons (se_idx (se_loc ok (by rfl)) se_int) sl_nil)) ((s_cut_to W).le (by lia)))
        exact sb_nil
      · exact sb_nil
    exact sb_nil

end
end Mine.E
set_option maxHeartbeats 8000000
namespace Mine.E
section
variable {prog : Program} {w : World} {hb : Base} {mg mb : Str → Option Value} {sa : Nat} {ns : List Int} {svs : List Value}
def x_do_loop : Fx := { q := Str.ofString "do_loop", sc := { kind := .function, names := [(Str.ofString "run", NameKind.local), (Str.ofString "at", NameKind.local), (Str.ofString "statement", NameKind.local), (Str.ofString "word", NameKind.local), (Str.ofString "do_for", NameKind.globalImplicit), (Str.ofString "next_from", NameKind.globalImplicit), (Str.ofString "len", NameKind.globalImplicit), (Str.ofString "wend_place", NameKind.globalImplicit), (Str.ofString "is_true", NameKind.globalImplicit), (Str.ofString "while_begin", NameKind.globalImplicit), (Str.ofString "while_end", NameKind.globalImplicit), (Str.ofString "end_of_while", NameKind.globalImplicit)], isGenerator := false, isCoroutine := false }, a := 483, cd := .ref 482, nm := [Str.ofString "run", Str.ofString "at", Str.ofString "statement", Str.ofString "word"] }

theorem o_do_loop : x_do_loop.Ok := ⟨rfl, by decide +kernel, by decide +kernel⟩

theorem s_do_loop (W : Wd hb (hd.heap_1 w.params) mg mb) : SFn prog w hb 9 483 (F_do_loop) := by
  have ok := o_do_loop
  refine sfn_of (c := x_do_loop) W ok (by intro _; rfl) (ps := [Str.ofString "run", Str.ofString "at", Str.ofString "statement"]) (rest := [Str.ofString "word"]) rfl ⟨⟨_, _, _, _, _, _, _, _, _, _, _, by k_is, binds_3 (fun _ _ _ => rfl)⟩, by k_is, rfl, rfl, by decide +kernel⟩ ?_
  refine sb_cons ?_ ?_
  · refine ss_asg ?_ ?_ (by intro _; rfl) (by intro _; rfl) (by intro _ _ h; cases h)
    · exact (se_idx (se_loc ok (by rfl)) se_int)
    · exact (sg_name ok (by rfl))
  refine sb_cons ?_ ?_
  · refine ss_if ?_ ?_ ?_
    · exact (st_cmp (se_loc ok (by rfl)) se_str (cmp_eq W.nolimit))
    · refine sb_cons ?_ ?_
      · refine ss_ret ?_
        exact (se_call W ok (by rfl) (by k_is) (by k_is) (plain_of (by rfl)) (sl_cons (se_loc ok (by rfl)) (sl_cons (se_loc ok (by rfl)) (sl_cons (se_loc ok (by rfl)) sl_nil))) ((s_do_for W).le (by lia)))
      exact sb_nil
    · exact sb_nil
  refine sb_cons ?_ ?_
  · refine ss_if ?_ ?_ ?_
    · exact (st_cmp (se_loc ok (by rfl)) se_str (cmp_eq W.nolimit))
    · refine sb_cons ?_ ?_
      · refine ss_ret ?_
        exact (se_call W ok (by rfl) (by k_is) (by k_is) (plain_of (by rfl)) (sl_cons (se_loc ok (by rfl)) (sl_cons (se_loc ok (by rfl)) (sl_cons (se_if (st_cmp (se_bltin W ok (by rfl) (by k_is) (by decide +kernel) (by decide) (plain_of (by rfl)) (sl_cons (se_idx (se_loc ok (by rfl)) se_int) sl_nil) ok_len) se_int cmp_gt) (se_idx (se_loc ok (by rfl)) se_int) (se_list (sl_cons se_str sl_nil))) sl_nil))) ((s_next_from W).le (by lia)))
      exact sb_nil
    · exact sb_nil
  refine sb_cons ?_ ?_
  · refine ss_if ?_ ?_ ?_
    · exact (st_cmp (se_loc ok (by rfl)) se_str (cmp_eq W.nolimit))
    · refine sb_cons ?_ ?_
      · refine ss_ret ?_
        exact (se_call W ok (by rfl) (by k_is) (by k_is) (plain_of (by rfl)) (sl_cons (se_attr W.x cls_FlowRun (by k_is) (se_loc ok (by rfl))) sl_nil) ((s_wend_place W).le (by lia)))
      exact sb_nil
    · exact sb_nil
  refine sb_cons ?_ ?_
  · refine ss_if ?_ ?_ ?_
    · exact (st_val (se_call W ok (by rfl) (by k_is) (by k_is) (plain_of (by rfl)) (sl_cons (se_meth W cls_FlowRun (by k_is) (by k_is) (by k_is) (se_loc ok (by rfl)) (plain_of (by rfl)) (sl_cons (se_idx (se_loc ok (by rfl)) se_int) sl_nil) ((s_run_worth W).le (by lia))) sl_nil) ((s_is_true W).le (by lia))))
    · refine sb_cons ?_ ?_
      · refine ss_expr ?_ (by intro _; rfl)
        exact (se_call W ok (by rfl) (by k_is) (by k_is) (plain_of (by rfl)) (sl_cons (se_attr W.x cls_FlowRun (by k_is) (se_loc ok (by rfl))) (sl_cons (se_loc ok (by rfl)) sl_nil)) ((s_while_begin W).le (by lia)))
      refine sb_cons ?_ ?_
      · refine ss_ret ?_
        exact (se_bin (se_loc ok (by rfl)) se_int ok_add)
      exact sb_nil
    · exact sb_nil
  refine sb_cons ?_ ?_
  · refine ss_expr ?_ (by intro _; rfl)
    exact (se_call W ok (by rfl) (by k_is) (by k_is) (plain_of (by rfl)) (sl_cons (se_attr W.x cls_FlowRun (by k_is) (se_loc ok (by rfl))) (sl_cons (se_loc ok (by rfl)) sl_nil)) ((s_while_end W).le (by lia)))
  refine sb_cons ?_ ?_
  · refine ss_ret ?_
    exact (se_bin (se_call W ok (by rfl) (by k_is) (by k_is) (plain_of (by rfl)) (sl_cons (se_attr W.x cls_FlowRun (by k_is) (se_loc ok (by rfl))) (sl_cons (se_loc ok (by rfl)) sl_nil)) ((s_end_of_while W).le (by lia))) se_int ok_add)
  exact sb_nil

def x_do_flow : Fx := { q := Str.ofString "do_flow", sc := { kind := .function, names := [(Str.ofString "run", NameKind.local), (Str.ofString "at", NameKind.local), (Str.ofString "statement", NameKind.local), (Str.ofString "JUMPS", NameKind.globalImplicit), (Str.ofString "do_jump", NameKind.globalImplicit), (Str.ofString "do_loop", NameKind.globalImplicit)], isGenerator := false, isCoroutine := false }, a := 469, cd := .ref 468, nm := [Str.ofString "run", Str.ofString "at", Str.ofString "statement"] }

theorem o_do_flow : x_do_flow.Ok := ⟨rfl, by decide +kernel, by decide +kernel⟩

theorem s_do_flow (W : Wd hb (hd.heap_1 w.params) mg mb) : SFn prog w hb 10 469 (F_do_flow) := by
  have ok := o_do_flow
  refine sfn_of (c := x_do_flow) W ok (by intro _; rfl) (ps := [Str.ofString "run", Str.ofString "at", Str.ofString "statement"]) (rest := []) rfl ⟨⟨_, _, _, _, _, _, _, _, _, _, _, by k_is, binds_3 (fun _ _ _ => rfl)⟩, by k_is, rfl, rfl, by decide +kernel⟩ ?_
  refine sb_cons ?_ ?_
  · refine ss_ret ?_
    exact (se_if (st_cmp (se_idx (se_loc ok (by rfl)) se_int) (se_glob W ok (by rfl) (by k_is) (jumps_ok W)) cmp_in) (se_call W ok (by rfl) (by k_is) (by k_is) (plain_of (by rfl)) (sl_cons (se_loc ok (by rfl)) (sl_cons (se_loc ok (by rfl)) (sl_cons (se_loc ok (by rfl)) sl_nil))) ((s_do_jump W).le (by lia))) (se_call W ok (by rfl) (by k_is) (by k_is) (plain_of (by rfl)) (sl_cons (se_loc ok (by rfl)) (sl_cons (se_loc ok (by rfl)) (sl_cons (se_loc ok (by rfl)) sl_nil))) ((s_do_loop W).le (by lia))))
  exact sb_nil

def x_run_go : Fx := { q := Str.ofString "FlowRun.go", sc := { kind := .function, names := [(Str.ofString "self", NameKind.local), (Str.ofString "at", NameKind.local), (Str.ofString "most", NameKind.local), (Str.ofString "turn", NameKind.local), (Str.ofString "statement", NameKind.local), (Str.ofString "range", NameKind.globalImplicit), (Str.ofString "len", NameKind.globalImplicit), (Str.ofString "do_flow", NameKind.globalImplicit)], isGenerator := false, isCoroutine := false }, a := 553, cd := .ref 552, nm := [Str.ofString "self", Str.ofString "at", Str.ofString "most", Str.ofString "turn", Str.ofString "statement"] }

theorem o_run_go : x_run_go.Ok := ⟨rfl, by decide +kernel, by decide +kernel⟩

theorem s_run_go (W : Wd hb (hd.heap_1 w.params) mg mb) : SFn prog w hb 11 553 (F_run_go) := by
  have ok := o_run_go
  refine sfn_of (c := x_run_go) W ok (by intro _; rfl) (ps := [Str.ofString "self", Str.ofString "at", Str.ofString "most"]) (rest := [Str.ofString "turn", Str.ofString "statement"]) rfl ⟨⟨_, _, _, _, _, _, _, _, _, _, _, by k_is, binds_3 (fun _ _ _ => rfl)⟩, by k_is, rfl, rfl, by decide +kernel⟩ ?_
  refine sb_cons ?_ ?_
  · refine ss_for ?_ ?_ ?_ (by intro _ _; rfl)
    · exact (si_rng1 W ok (by rfl) (by k_is) (by decide +kernel) (plain_of (by rfl)) (sl_cons (se_loc ok (by rfl)) sl_nil))
    · exact (sg_name ok (by rfl))
    · refine sb_cons ?_ ?_
      · refine ss_if ?_ ?_ ?_
        · exact (st_cmp (se_loc ok (by rfl)) (se_bltin W ok (by rfl) (by k_is) (by decide +kernel) (by decide) (plain_of (by rfl)) (sl_cons (se_attr W.x cls_Flat (by k_is) (se_attr W.x cls_FlowRun (by k_is) (se_loc ok (by rfl)))) sl_nil) ok_len) cmp_ge)
        · refine sb_cons ?_ ?_
          · refine ss_ret ?_
            exact (se_loc ok (by rfl))
          exact sb_nil
        · exact sb_nil
      refine sb_cons ?_ ?_
      · refine ss_asg ?_ ?_ (by intro _; rfl) (by intro _; rfl) (by intro _ _ h; cases h)
        · exact (se_idx (se_idx (se_attr W.x cls_Flat (by k_is) (se_attr W.x cls_FlowRun (by k_is) (se_loc ok (by rfl)))) (se_loc ok (by rfl))) se_int)
        · exact (sg_name ok (by rfl))
      refine sb_cons ?_ ?_
      · refine ss_if ?_ ?_ ?_
        · exact (st_cmp (se_idx (se_loc ok (by rfl)) se_int) se_str (cmp_eq W.nolimit))
        · refine sb_cons ?_ ?_
          · refine ss_expr ?_ (by intro _; rfl)
            exact (se_meth W cls_FlowRun (by k_is) (by k_is) (by k_is) (se_loc ok (by rfl)) (plain_of (by rfl)) (sl_cons (se_idx (se_idx (se_loc ok (by rfl)) se_int) se_int) (sl_cons (se_meth W cls_FlowRun (by k_is) (by k_is) (by k_is) (se_loc ok (by rfl)) (plain_of (by rfl)) (sl_cons (se_idx (se_loc ok (by rfl)) se_int) sl_nil) ((s_run_worth W).le (by lia))) sl_nil)) ((s_run_store W).le (by lia)))
          refine sb_cons ?_ ?_
          · exact (ss_aug ok (by rfl) se_int ok_iadd)
          exact sb_nil
        · refine sb_cons ?_ ?_
          · refine ss_if ?_ ?_ ?_
            · exact (st_cmp (se_idx (se_loc ok (by rfl)) se_int) se_str (cmp_eq W.nolimit))
            · refine sb_cons ?_ ?_
              · refine ss_expr ?_ (by intro _; rfl)
                exact (se_append (se_attr W.x cls_FlowRun (by k_is) (se_loc ok (by rfl))) (se_tup (sl_cons (se_idx (se_loc ok (by rfl)) se_int) (sl_cons (se_meth W cls_FlowRun (by k_is) (by k_is) (by k_is) (se_loc ok (by rfl)) (plain_of (by rfl)) (sl_cons se_str sl_nil) ((s_run_value_of_name W).le (by lia))) sl_nil))) (plain_of (by rfl)) ⟨_, by intro _; rfl⟩)
              refine sb_cons ?_ ?_
              · exact (ss_aug ok (by rfl) se_int ok_iadd)
              exact sb_nil
            · refine sb_cons ?_ ?_
              · refine ss_if ?_ ?_ ?_
                · exact (st_cmp (se_idx (se_loc ok (by rfl)) se_int) se_str (cmp_eq W.nolimit))
                · refine sb_cons ?_ ?_
                  · refine ss_ret ?_
                    exact (se_bltin W ok (by rfl) (by k_is) (by decide +kernel) (by decide) (plain_of (by rfl)) (sl_cons (se_attr W.x cls_Flat (by k_is) (se_attr W.x cls_FlowRun (by k_is) (se_loc ok (by rfl)))) sl_nil) ok_len)
                  exact sb_nil
                · refine sb_cons ?_ ?_
                  · refine ss_asg ?_ ?_ (by intro _; rfl) (by intro _; rfl) (by intro _ _ h; cases h)
                    · exact (se_call W ok (by rfl) (by k_is) (by k_is) (plain_of (by rfl)) (sl_cons (se_loc ok (by rfl)) (sl_cons (se_loc ok (by rfl)) (sl_cons (se_loc ok (by rfl)) sl_nil))) ((s_do_flow W).le (by lia)))
                    · exact (sg_name ok (by rfl))
                  exact sb_nil
              exact sb_nil
          exact sb_nil
      exact sb_nil
  refine sb_cons ?_ ?_
  · refine ss_ret ?_
    exact (se_un se_int ok_neg)
  exact sb_nil

def x_all : Fx := { q := Str.ofString "_law_all", sc := { kind := .function, names := [(Str.ofString "script", NameKind.local), (Str.ofString "found", NameKind.local), (Str.ofString "one", NameKind.local), (Str.ofString "abs", NameKind.globalImplicit)], isGenerator := false, isCoroutine := false }, a := 574, cd := .ref 573, nm := [Str.ofString "script", Str.ofString "found", Str.ofString "one"] }

theorem o_all : x_all.Ok := ⟨rfl, by decide +kernel, by decide +kernel⟩

theorem s_all (W : Wd hb (hd.heap_1 w.params) mg mb) (hsc : hb.h.IsList sa svs.toArray) (his : IntsAre svs ns) : SFn prog w hb 1 574 (F_all sa ns) := by
  have ok := o_all
  refine sfn_of (c := x_all) W ok (by intro _; rfl) (ps := [Str.ofString "script"]) (rest := [Str.ofString "found", Str.ofString "one"]) rfl ⟨⟨_, _, _, _, _, _, _, _, _, _, _, by k_is, binds_1 (by intro _; rfl)⟩, by k_is, rfl, rfl, by decide +kernel⟩ ?_
  refine sb_cons ?_ ?_
  · refine ss_asg ?_ ?_ (by intro _; rfl) (by intro _; rfl) (by intro _ _ h; cases h)
    · exact se_int
    · exact (sg_name ok (by rfl))
  refine sb_cons ?_ ?_
  · refine ss_for ?_ ?_ ?_ (by intro _ _; rfl)
    · exact (si_val .name (se_rev (se_uptoS hsc his (se_loc ok (by rfl)) se_int)))
    · exact (sg_name ok (by rfl))
    · refine sb_cons ?_ ?_
      · refine ss_asg ?_ ?_ (by intro _; rfl) (by intro _; rfl) (by intro _ _ h; cases h)
        · exact (se_bin (se_bin (se_loc ok (by rfl)) se_int ok_mul) (se_bin (se_bltin W ok (by rfl) (by k_is) (by decide +kernel) (by decide) (plain_of (by rfl)) (sl_cons (se_loc ok (by rfl)) sl_nil) ok_abs) se_int ok_mod) ok_add)
        · exact (sg_name ok (by rfl))
      exact sb_nil
  refine sb_cons ?_ ?_
  · refine ss_ret ?_
    exact (se_loc ok (by rfl))
  exact sb_nil

def x_take : Fx := { q := Str.ofString "_law_take", sc := { kind := .function, names := [(Str.ofString "box", NameKind.local), (Str.ofString "many", NameKind.local), (Str.ofString "digit", NameKind.local)], isGenerator := false, isCoroutine := false }, a := 567, cd := .ref 566, nm := [Str.ofString "box", Str.ofString "many", Str.ofString "digit"] }

theorem o_take : x_take.Ok := ⟨rfl, by decide +kernel, by decide +kernel⟩

theorem s_take (W : Wd hb (hd.heap_1 w.params) mg mb) : SFn prog w hb 1 567 (F_take) := by
  have ok := o_take
  refine sfn_of (c := x_take) W ok (by intro _; rfl) (ps := [Str.ofString "box", Str.ofString "many"]) (rest := [Str.ofString "digit"]) rfl ⟨⟨_, _, _, _, _, _, _, _, _, _, _, by k_is, binds_2 (by intro _ _; rfl)⟩, by k_is, rfl, rfl, by decide +kernel⟩ ?_
  refine sb_cons ?_ ?_
  · refine ss_asg ?_ ?_ (by intro _; rfl) (by intro _; rfl) (by intro _ _ h; cases h)
    · exact (se_bin (se_idx (se_loc ok (by rfl)) se_int) se_int ok_add)
    · exact (sg_sub W.nolimit (se_loc ok (by rfl)) se_int)
  refine sb_cons ?_ ?_
  · refine ss_if ?_ ?_ ?_
    · exact (st_cmp (se_idx (se_loc ok (by rfl)) se_int) se_int cmp_gt)
    · refine sb_cons ?_ ?_
      · refine ss_asg ?_ ?_ (by intro _; rfl) (by intro _; rfl) (by intro _ _ h; cases h)
        · exact (se_bin (se_idx (se_loc ok (by rfl)) se_int) (se_loc ok (by rfl)) ok_mod)
        · exact (sg_name ok (by rfl))
      refine sb_cons ?_ ?_
      · refine ss_asg ?_ ?_ (by intro _; rfl) (by intro _; rfl) (by intro _ _ h; cases h)
        · exact (se_bin (se_idx (se_loc ok (by rfl)) se_int) (se_loc ok (by rfl)) ok_div)
        · exact (sg_sub W.nolimit (se_loc ok (by rfl)) se_int)
      refine sb_cons ?_ ?_
      · refine ss_ret ?_
        exact (se_loc ok (by rfl))
      exact sb_nil
    · exact sb_nil
  refine sb_cons ?_ ?_
  · refine ss_ret ?_
    exact (se_bin (se_bin (se_bin (se_idx (se_loc ok (by rfl)) se_int) se_int ok_mul) (se_bin (se_idx (se_loc ok (by rfl)) se_int) se_int ok_div) ok_add) (se_loc ok (by rfl)) ok_mod)
  exact sb_nil

def x_block : Fx := { q := Str.ofString "_law_block", sc := { kind := .function, names := [(Str.ofString "box", NameKind.local), (Str.ofString "deep", NameKind.local), (Str.ofString "count", NameKind.local), (Str.ofString "found", NameKind.local), (Str.ofString "turn", NameKind.local), (Str.ofString "form", NameKind.local), (Str.ofString "begin", NameKind.local), (Str.ofString "last", NameKind.local), (Str.ofString "pace", NameKind.local), (Str.ofString "range", NameKind.globalImplicit), (Str.ofString "_law_take", NameKind.globalImplicit), (Str.ofString "_law_block", NameKind.globalImplicit), (Str.ofString "str", NameKind.globalImplicit)], isGenerator := false, isCoroutine := false }, a := 588, cd := .ref 587, nm := [Str.ofString "box", Str.ofString "deep", Str.ofString "count", Str.ofString "found", Str.ofString "turn", Str.ofString "form", Str.ofString "begin", Str.ofString "last", Str.ofString "pace"] }

theorem o_block : x_block.Ok := ⟨rfl, by decide +kernel, by decide +kernel⟩

theorem s_block (W : Wd hb (hd.heap_1 w.params) mg mb) (n : Nat) : SFn prog w hb (1 * n + 2) 588 (F_block n) := by
  induction n with
  | zero => exact sfn_no
  | succ n ih =>
  refine SFn.le (d := 1 * n + 2 + 1) ?_ (by lia)
  have ok := o_block
  refine sfn_of (c := x_block) W ok (by intro _; rfl) (ps := [Str.ofString "box", Str.ofString "deep", Str.ofString "count"]) (rest := [Str.ofString "found", Str.ofString "turn", Str.ofString "form", Str.ofString "begin", Str.ofString "last", Str.ofString "pace"]) rfl ⟨⟨_, _, _, _, _, _, _, _, _, _, _, by k_is, binds_3 (fun _ _ _ => rfl)⟩, by k_is, rfl, rfl, by decide +kernel⟩ ?_
  refine sb_cons ?_ ?_
  · refine ss_asg ?_ ?_ (by intro _; rfl) (by intro _; rfl) (by intro _ _ h; cases h)
    · exact (se_list sl_nil)
    · exact (sg_name ok (by rfl))
  refine sb_cons ?_ ?_
  · refine ss_for ?_ ?_ ?_ (by intro _ _; rfl)
    · exact (si_rng1 W ok (by rfl) (by k_is) (by decide +kernel) (plain_of (by rfl)) (sl_cons (se_bin se_int (se_call W ok (by rfl) (by k_is) (by k_is) (plain_of (by rfl)) (sl_cons (se_loc ok (by rfl)) (sl_cons se_int sl_nil)) ((s_take W).le (by lia))) ok_add) sl_nil))
    · exact (sg_name ok (by rfl))
    · refine sb_cons ?_ ?_
      · refine ss_asg ?_ ?_ (by intro _; rfl) (by intro _; rfl) (by intro _ _ h; cases h)
        · exact (se_if (st_cmp (se_loc ok (by rfl)) se_int cmp_gt) (se_call W ok (by rfl) (by k_is) (by k_is) (plain_of (by rfl)) (sl_cons (se_loc ok (by rfl)) (sl_cons se_int sl_nil)) ((s_take W).le (by lia))) (se_call W ok (by rfl) (by k_is) (by k_is) (plain_of (by rfl)) (sl_cons (se_loc ok (by rfl)) (sl_cons se_int sl_nil)) ((s_take W).le (by lia))))
        · exact (sg_name ok (by rfl))
      refine sb_cons ?_ ?_
      · refine ss_if ?_ ?_ ?_
        · exact (st_cmp (se_loc ok (by rfl)) se_int (cmp_eq W.nolimit))
        · refine sb_cons ?_ ?_
          · refine ss_expr ?_ (by intro _; rfl)
            exact (se_append (se_loc ok (by rfl)) (se_tup (sl_cons se_str (sl_cons (se_call W ok (by rfl) (by k_is) (by k_is) (plain_of (by rfl)) (sl_cons (se_loc ok (by rfl)) (sl_cons se_int sl_nil)) ((s_take W).le (by lia))) sl_nil))) (plain_of (by rfl)) ⟨_, by intro _; rfl⟩)
          exact sb_nil
        · refine sb_cons ?_ ?_
          · refine ss_if ?_ ?_ ?_
            · exact (st_cmp (se_loc ok (by rfl)) se_int cmp_lt)
            · refine sb_cons ?_ ?_
              · refine ss_expr ?_ (by intro _; rfl)
                exact (se_append (se_loc ok (by rfl)) (se_tup (sl_cons se_str (sl_cons (se_bin (se_call W ok (by rfl) (by k_is) (by k_is) (plain_of (by rfl)) (sl_cons (se_loc ok (by rfl)) (sl_cons se_int sl_nil)) ((s_take W).le (by lia))) se_int ok_sub) sl_nil))) (plain_of (by rfl)) ⟨_, by intro _; rfl⟩)
              exact sb_nil
            · refine sb_cons ?_ ?_
              · refine ss_if ?_ ?_ ?_
                · exact (st_cmp (se_loc ok (by rfl)) se_int (cmp_eq W.nolimit))
                · refine sb_cons ?_ ?_
                  · refine ss_expr ?_ (by intro _; rfl)
                    exact (se_append (se_loc ok (by rfl)) (se_tup (sl_cons se_str (sl_cons (se_bin (se_call W ok (by rfl) (by k_is) (by k_is) (plain_of (by rfl)) (sl_cons (se_loc ok (by rfl)) (sl_cons se_int sl_nil)) ((s_take W).le (by lia))) se_int ok_sub) (sl_cons (se_call W ok (by rfl) (by k_is) (by k_is) (plain_of (by rfl)) (sl_cons (se_loc ok (by rfl)) (sl_cons se_int sl_nil)) ((s_take W).le (by lia))) (sl_cons (se_call W ok (by rfl) (by k_is) (by k_is) (plain_of (by rfl)) (sl_cons (se_loc ok (by rfl)) (sl_cons se_int sl_nil)) ((s_take W).le (by lia))) sl_nil))))) (plain_of (by rfl)) ⟨_, by intro _; rfl⟩)
                  exact sb_nil
                · refine sb_cons ?_ ?_
                  · refine ss_if ?_ ?_ ?_
                    · exact (st_cmp (se_loc ok (by rfl)) se_int cmp_lt)
                    · refine sb_cons ?_ ?_
                      · refine ss_asgR (ks := [6, 7, 8]) (names := [Str.ofString "begin", Str.ofString "last", Str.ofString "pace"]) ok ?_ (by rfl) (by intro _; rfl) (by intro _; rfl)
                        exact (se_tup (sl_cons (se_call W ok (by rfl) (by k_is) (by k_is) (plain_of (by rfl)) (sl_cons (se_loc ok (by rfl)) (sl_cons se_int sl_nil)) ((s_take W).le (by lia))) (sl_cons (se_call W ok (by rfl) (by k_is) (by k_is) (plain_of (by rfl)) (sl_cons (se_loc ok (by rfl)) (sl_cons se_int sl_nil)) ((s_take W).le (by lia))) (sl_cons (se_idx (se_list (sl_cons se_int (sl_cons se_int (sl_cons (se_un se_int ok_neg) (sl_cons (se_un se_int ok_neg) sl_nil))))) (se_call W ok (by rfl) (by k_is) (by k_is) (plain_of (by rfl)) (sl_cons (se_loc ok (by rfl)) (sl_cons se_int sl_nil)) ((s_take W).le (by lia)))) sl_nil))))
                      refine sb_cons ?_ ?_
                      · refine ss_expr ?_ (by intro _; rfl)
                        exact (se_append (se_loc ok (by rfl)) (se_tup (sl_cons se_str (sl_cons (se_idx se_str (se_loc ok (by rfl))) (sl_cons (se_loc ok (by rfl)) (sl_cons (se_loc ok (by rfl)) (sl_cons (se_loc ok (by rfl)) (sl_cons (se_call W ok (by rfl) (by k_is) (by k_is) (plain_of (by rfl)) (sl_cons (se_loc ok (by rfl)) (sl_cons (se_bin (se_loc ok (by rfl)) se_int ok_sub) (sl_cons (se_loc ok (by rfl)) sl_nil))) (ih.le (by lia))) sl_nil))))))) (plain_of (by rfl)) ⟨_, by intro _; rfl⟩)
                      exact sb_nil
                    · refine sb_cons ?_ ?_
                      · refine ss_if ?_ ?_ ?_
                        · exact (st_cmp (se_loc ok (by rfl)) se_int (cmp_eq W.nolimit))
                        · refine sb_cons ?_ ?_
                          · refine ss_asg ?_ ?_ (by intro _; rfl) (by intro _; rfl) (by intro _ _ h; cases h)
                            · exact (se_bin (se_idx (se_loc ok (by rfl)) se_int) se_int ok_add)
                            · exact (sg_sub W.nolimit (se_loc ok (by rfl)) se_int)
                          refine sb_cons ?_ ?_
                          · refine ss_expr ?_ (by intro _; rfl)
                            exact (se_append (se_loc ok (by rfl)) (se_tup (sl_cons se_str (sl_cons (se_bin se_str (se_type W ok (by rfl) (by k_is) (by decide +kernel) (by decide) (plain_of (by rfl)) (sl_cons (se_idx (se_loc ok (by rfl)) se_int) sl_nil) ok_str) ok_add) (sl_cons (se_call W ok (by rfl) (by k_is) (by k_is) (plain_of (by rfl)) (sl_cons (se_loc ok (by rfl)) (sl_cons se_int sl_nil)) ((s_take W).le (by lia))) (sl_cons (se_call W ok (by rfl) (by k_is) (by k_is) (plain_of (by rfl)) (sl_cons (se_loc ok (by rfl)) (sl_cons (se_bin (se_loc ok (by rfl)) se_int ok_sub) (sl_cons (se_loc ok (by rfl)) sl_nil))) (ih.le (by lia))) sl_nil))))) (plain_of (by rfl)) ⟨_, by intro _; rfl⟩)
                          exact sb_nil
                        · refine sb_cons ?_ ?_
                          · refine ss_expr ?_ (by intro _; rfl)
                            exact (se_append (se_loc ok (by rfl)) (se_tup (sl_cons se_str (sl_cons (se_call W ok (by rfl) (by k_is) (by k_is) (plain_of (by rfl)) (sl_cons (se_loc ok (by rfl)) (sl_cons se_int sl_nil)) ((s_take W).le (by lia))) (sl_cons (se_call W ok (by rfl) (by k_is) (by k_is) (plain_of (by rfl)) (sl_cons (se_loc ok (by rfl)) (sl_cons se_int sl_nil)) ((s_take W).le (by lia))) sl_nil)))) (plain_of (by rfl)) ⟨_, by intro _; rfl⟩)
                          exact sb_nil
                      exact sb_nil
                  exact sb_nil
              exact sb_nil
          exact sb_nil
      exact sb_nil
  refine sb_cons ?_ ?_
  · refine ss_ret ?_
    exact (se_loc ok (by rfl))
  exact sb_nil

def x_go : Fx := { q := Str.ofString "_law_go", sc := { kind := .function, names := [(Str.ofString "block", NameKind.local), (Str.ofString "subs", NameKind.local), (Str.ofString "values", NameKind.local), (Str.ofString "notes", NameKind.local), (Str.ofString "one", NameKind.local), (Str.ofString "value", NameKind.local), (Str.ofString "pace", NameKind.local), (Str.ofString "turn", NameKind.local), (Str.ofString "str", NameKind.globalImplicit), (Str.ofString "_law_go", NameKind.globalImplicit), (Str.ofString "range", NameKind.globalImplicit)], isGenerator := false, isCoroutine := false }, a := 607, cd := .ref 606, nm := [Str.ofString "block", Str.ofString "subs", Str.ofString "values", Str.ofString "notes", Str.ofString "one", Str.ofString "value", Str.ofString "pace", Str.ofString "turn"] }

theorem o_go : x_go.Ok := ⟨rfl, by decide +kernel, by decide +kernel⟩

theorem s_go (W : Wd hb (hd.heap_1 w.params) mg mb) (n : Nat) : SFn prog w hb (1 * n + 1) 607 (F_go n) := by
  induction n with
  | zero => exact sfn_no
  | succ n ih =>
  refine SFn.le (d := 1 * n + 1 + 1) ?_ (by lia)
  have ok := o_go
  refine sfn_of (c := x_go) W ok (by intro _; rfl) (ps := [Str.ofString "block", Str.ofString "subs", Str.ofString "values", Str.ofString "notes"]) (rest := [Str.ofString "one", Str.ofString "value", Str.ofString "pace", Str.ofString "turn"]) rfl ⟨⟨_, _, _, _, _, _, _, _, _, _, _, by k_is, binds_4 (fun _ _ _ _ => rfl)⟩, by k_is, rfl, rfl, by decide +kernel⟩ ?_
  refine sb_cons ?_ ?_
  · refine ss_for ?_ ?_ ?_ (by intro _ _; rfl)
    · exact (si_val .name (se_loc ok (by rfl)))
    · exact (sg_name ok (by rfl))
    · refine sb_cons ?_ ?_
      · refine ss_if ?_ ?_ ?_
        · exact (st_cmp (se_idx (se_loc ok (by rfl)) se_int) se_str (cmp_eq W.nolimit))
        · refine sb_cons ?_ ?_
          · refine ss_expr ?_ (by intro _; rfl)
            exact (se_append (se_loc ok (by rfl)) (se_tup (sl_cons (se_type W ok (by rfl) (by k_is) (by decide +kernel) (by decide) (plain_of (by rfl)) (sl_cons (se_idx (se_loc ok (by rfl)) se_int) sl_nil) ok_str) (sl_cons (se_idx (se_loc ok (by rfl)) se_str) sl_nil))) (plain_of (by rfl)) ⟨_, by intro _; rfl⟩)
          exact sb_nil
        · refine sb_cons ?_ ?_
          · refine ss_if ?_ ?_ ?_
            · exact (st_cmp (se_idx (se_loc ok (by rfl)) se_int) se_str (cmp_eq W.nolimit))
            · refine sb_cons ?_ ?_
              · refine ss_asg ?_ ?_ (by intro _; rfl) (by intro _; rfl) (by intro _ _ h; cases h)
                · exact (se_bin (se_idx (se_loc ok (by rfl)) se_str) (se_idx (se_loc ok (by rfl)) se_int) ok_add)
                · exact (sg_sub W.nolimit (se_loc ok (by rfl)) se_str)
              exact sb_nil
            · refine sb_cons ?_ ?_
              · refine ss_if ?_ ?_ ?_
                · exact (st_cmp (se_idx (se_loc ok (by rfl)) se_int) se_str (cmp_eq W.nolimit))
                · refine sb_cons ?_ ?_
                  · refine ss_if ?_ ?_ ?_
                    · exact (st_cmp (se_idx (se_loc ok (by rfl)) se_str) (se_idx (se_loc ok (by rfl)) se_int) cmp_lt)
                    · refine sb_cons ?_ ?_
                      · refine ss_expr ?_ (by intro _; rfl)
                        exact (se_append (se_loc ok (by rfl)) (se_tup (sl_cons (se_bin se_str (se_type W ok (by rfl) (by k_is) (by decide +kernel) (by decide) (plain_of (by rfl)) (sl_cons (se_idx (se_loc ok (by rfl)) se_int) sl_nil) ok_str) ok_add) (sl_cons (se_idx (se_loc ok (by rfl)) se_str) sl_nil))) (plain_of (by rfl)) ⟨_, by intro _; rfl⟩)
                      refine sb_cons ?_ ?_
                      · refine ss_asg ?_ ?_ (by intro _; rfl) (by intro _; rfl) (by intro _ _ h; cases h)
                        · exact (se_bin (se_idx (se_loc ok (by rfl)) se_str) se_int ok_sub)
                        · exact (sg_sub W.nolimit (se_loc ok (by rfl)) se_str)
                      exact sb_nil
                    · refine sb_cons ?_ ?_
                      · refine ss_if ?_ ?_ ?_
                        · exact (st_cmp (se_idx (se_loc ok (by rfl)) se_int) se_int (cmp_eq W.nolimit))
                        · refine sb_cons ?_ ?_
                          · refine ss_expr ?_ (by intro _; rfl)
                            exact (se_append (se_loc ok (by rfl)) (se_tup (sl_cons se_str (sl_cons (se_idx (se_loc ok (by rfl)) se_str) sl_nil))) (plain_of (by rfl)) ⟨_, by intro _; rfl⟩)
                          exact sb_nil
                        · exact sb_nil
                      exact sb_nil
                  exact sb_nil
                · refine sb_cons ?_ ?_
                  · refine ss_if ?_ ?_ ?_
                    · exact (st_cmp (se_idx (se_loc ok (by rfl)) se_int) se_str (cmp_eq W.nolimit))
                    · refine sb_cons ?_ ?_
                      · refine ss_asgR (ks := [5, 6]) (names := [Str.ofString "value", Str.ofString "pace"]) ok ?_ (by rfl) (by intro _; rfl) (by intro _; rfl)
                        exact (se_tup (sl_cons (se_idx (se_loc ok (by rfl)) se_int) (sl_cons (se_idx (se_loc ok (by rfl)) se_int) sl_nil)))
                      refine sb_cons ?_ ?_
                      · refine ss_while ?_ ?_
                        · exact (st_if (st_cmp (se_loc ok (by rfl)) se_int cmp_gt) (st_cmp (se_loc ok (by rfl)) (se_idx (se_loc ok (by rfl)) se_int) cmp_le) (st_cmp (se_loc ok (by rfl)) (se_idx (se_loc ok (by rfl)) se_int) cmp_ge))
                        · refine sb_cons ?_ ?_
                          · refine ss_asg ?_ ?_ (by intro _; rfl) (by intro _; rfl) (by intro _ _ h; cases h)
                            · exact (se_loc ok (by rfl))
                            · exact (sg_sub W.nolimit (se_loc ok (by rfl)) (se_idx (se_loc ok (by rfl)) se_int))
                          refine sb_cons ?_ ?_
                          · refine ss_expr ?_ (by intro _; rfl)
                            exact (se_call W ok (by rfl) (by k_is) (by k_is) (plain_of (by rfl)) (sl_cons (se_idx (se_loc ok (by rfl)) se_int) (sl_cons (se_loc ok (by rfl)) (sl_cons (se_loc ok (by rfl)) (sl_cons (se_loc ok (by rfl)) sl_nil)))) (ih.le (by lia)))
                          refine sb_cons ?_ ?_
                          · refine ss_asg ?_ ?_ (by intro _; rfl) (by intro _; rfl) (by intro _ _ h; cases h)
                            · exact (se_bin (se_loc ok (by rfl)) (se_loc ok (by rfl)) ok_add)
                            · exact (sg_name ok (by rfl))
                          exact sb_nil
                      refine sb_cons ?_ ?_
                      · refine ss_asg ?_ ?_ (by intro _; rfl) (by intro _; rfl) (by intro _ _ h; cases h)
                        · exact (se_loc ok (by rfl))
                        · exact (sg_sub W.nolimit (se_loc ok (by rfl)) (se_idx (se_loc ok (by rfl)) se_int))
                      exact sb_nil
                    · refine sb_cons ?_ ?_
                      · refine ss_if ?_ ?_ ?_
                        · exact (st_cmp (se_idx (se_loc ok (by rfl)) se_int) se_str (cmp_eq W.nolimit))
                        · refine sb_cons ?_ ?_
                          · refine ss_for ?_ ?_ ?_ (by intro _ _; rfl)
                            · exact (si_rng1 W ok (by rfl) (by k_is) (by decide +kernel) (plain_of (by rfl)) (sl_cons (se_idx (se_loc ok (by rfl)) se_int) sl_nil))
                            · exact (sg_name ok (by rfl))
                            · refine sb_cons ?_ ?_
                              · refine ss_asg ?_ ?_ (by intro _; rfl) (by intro _; rfl) (by intro _ _ h; cases h)
                                · exact (se_loc ok (by rfl))
                                · exact (sg_sub W.nolimit (se_loc ok (by rfl)) (se_idx (se_loc ok (by rfl)) se_int))
                              refine sb_cons ?_ ?_
                              · refine ss_expr ?_ (by intro _; rfl)
                                exact (se_call W ok (by rfl) (by k_is) (by k_is) (plain_of (by rfl)) (sl_cons (se_idx (se_loc ok (by rfl)) se_int) (sl_cons (se_loc ok (by rfl)) (sl_cons (se_loc ok (by rfl)) (sl_cons (se_loc ok (by rfl)) sl_nil)))) (ih.le (by lia)))
                              exact sb_nil
                          refine sb_cons ?_ ?_
                          · refine ss_asg ?_ ?_ (by intro _; rfl) (by intro _; rfl) (by intro _ _ h; cases h)
                            · exact (se_idx (se_loc ok (by rfl)) se_int)
                            · exact (sg_sub W.nolimit (se_loc ok (by rfl)) (se_idx (se_loc ok (by rfl)) se_int))
                          exact sb_nil
                        · refine sb_cons ?_ ?_
                          · refine ss_if ?_ ?_ ?_
                            · exact (st_bool (sa_or (st_cmp (se_idx (se_loc ok (by rfl)) se_int) se_int (cmp_eq W.nolimit)) (sa_or (st_chain se_int (se_idx (se_loc ok (by rfl)) se_int) se_int cmp_le cmp_le) sa_or_nil)))
                            · refine sb_cons ?_ ?_
                              · refine ss_expr ?_ (by intro _; rfl)
                                exact (se_call W ok (by rfl) (by k_is) (by k_is) (plain_of (by rfl)) (sl_cons (se_idx (se_loc ok (by rfl)) (se_if (st_cmp (se_idx (se_loc ok (by rfl)) se_int) se_int (cmp_eq W.nolimit)) (se_bin (se_idx (se_loc ok (by rfl)) se_int) se_int ok_mod) (se_bin (se_idx (se_loc ok (by rfl)) se_int) se_int ok_sub))) (sl_cons (se_loc ok (by rfl)) (sl_cons (se_loc ok (by rfl)) (sl_cons (se_loc ok (by rfl)) sl_nil)))) (ih.le (by lia)))
                              exact sb_nil
                            · exact sb_nil
                          exact sb_nil
                      exact sb_nil
                  exact sb_nil
              exact sb_nil
          exact sb_nil
      exact sb_nil
  exact sb_nil

end
end Mine.E
set_option maxHeartbeats 8000000
namespace Mine.E
section
variable {prog : Program} {w : World} {hb : Base} {mg mb : Str → Option Value} {sa : Nat} {ns : List Int} {svs : List Value}
def x_lines : Fx := { q := Str.ofString "_law_lines", sc := { kind := .function, names := [(Str.ofString "block", NameKind.local), (Str.ofString "lines", NameKind.local), (Str.ofString "base", NameKind.local), (Str.ofString "x", NameKind.local), (Str.ofString "one", NameKind.local), (Str.ofString "rows", NameKind.local), (Str.ofString "told", NameKind.local), (Str.ofString "lines_now", NameKind.local), (Str.ofString "name", NameKind.local), (Str.ofString "row", NameKind.local), (Str.ofString "str", NameKind.globalImplicit), (Str.ofString "_law_put", NameKind.globalImplicit), (Str.ofString "_law_lines", NameKind.globalImplicit)], isGenerator := false, isCoroutine := false }, a := 595, cd := .ref 594, nm := [Str.ofString "block", Str.ofString "lines", Str.ofString "base", Str.ofString "x", Str.ofString "one", Str.ofString "rows", Str.ofString "told", Str.ofString "lines_now", Str.ofString "name", Str.ofString "row"] }

theorem o_lines : x_lines.Ok := ⟨rfl, by decide +kernel, by decide +kernel⟩

theorem s_lines (W : Wd hb (hd.heap_1 w.params) mg mb) (n : Nat) : SFn prog w hb (1 * n + 3) 595 (F_lines n) := by
  induction n with
  | zero => exact sfn_no
  | succ n ih =>
  refine SFn.le (d := 1 * n + 3 + 1) ?_ (by lia)
  have ok := o_lines
  refine sfn_of (c := x_lines) W ok (by intro _; rfl) (ps := [Str.ofString "block", Str.ofString "lines", Str.ofString "base"]) (rest := [Str.ofString "x", Str.ofString "one", Str.ofString "rows", Str.ofString "told", Str.ofString "lines_now", Str.ofString "name", Str.ofString "row"]) rfl ⟨⟨_, _, _, _, _, _, _, _, _, _, _, by k_is, binds_3 (fun _ _ _ => rfl)⟩, by k_is, rfl, rfl, by decide +kernel⟩ ?_
  refine sb_cons ?_ ?_
  · refine ss_asg ?_ ?_ (by intro _; rfl) (by intro _; rfl) (by intro _ _ h; cases h)
    · exact (se_tup (sl_cons se_str (sl_cons se_str sl_nil)))
    · exact (sg_name ok (by rfl))
  refine sb_cons ?_ ?_
  · refine ss_for ?_ ?_ ?_ (by intro _ _; rfl)
    · exact (si_val .name (se_loc ok (by rfl)))
    · exact (sg_name ok (by rfl))
    · refine sb_cons ?_ ?_
      · refine ss_if ?_ ?_ ?_
        · exact (st_cmp (se_idx (se_loc ok (by rfl)) se_int) se_str (cmp_eq W.nolimit))
        · refine sb_cons ?_ ?_
          · refine ss_asg ?_ ?_ (by intro _; rfl) (by intro _; rfl) (by intro _ _ h; cases h)
            · refine se_list ?_
              refine sl_cons ?_ sl_nil
              refine se_tup (sl_cons se_str (sl_cons ?_ sl_nil))
              exact se_type W ok (by rfl) (by k_is) (by decide +kernel) (by decide) (plain_of (by rfl)) (sl_cons (se_idx (se_loc ok (by rfl)) se_int) sl_nil) ok_str
            · exact (sg_name ok (by rfl))
          exact sb_nil
        · refine sb_cons ?_ ?_
          · refine ss_if ?_ ?_ ?_
            · exact (st_cmp (se_idx (se_loc ok (by rfl)) se_int) se_str (cmp_eq W.nolimit))
            · refine sb_cons ?_ ?_
              · refine ss_asg ?_ ?_ (by intro _; rfl) (by intro _; rfl) (by intro _ _ h; cases h)
                · refine se_list ?_
                  refine sl_cons ?_ sl_nil
                  refine se_tup ?_
                  refine sl_cons se_str ?_
                  refine sl_cons (se_loc ok (by rfl)) ?_
                  refine sl_cons ?_ sl_nil
                  refine se_tup ?_
                  refine sl_cons se_str ?_
                  refine sl_cons se_str ?_
                  refine sl_cons (se_loc ok (by rfl)) (sl_cons ?_ sl_nil)
                  exact se_tup (sl_cons se_str (sl_cons (se_idx (se_loc ok (by rfl)) se_int) sl_nil))
                · exact (sg_name ok (by rfl))
              exact sb_nil
            · refine sb_cons ?_ ?_
              · refine ss_if ?_ ?_ ?_
                · exact (st_cmp (se_idx (se_loc ok (by rfl)) se_int) se_str (cmp_eq W.nolimit))
                · refine sb_cons ?_ ?_
                  · refine ss_asg ?_ ?_ (by intro _; rfl) (by intro _; rfl) (by intro _ _ h; cases h)
                    · refine se_list ?_
                      refine sl_cons ?_ ?_
                      · refine se_tup (sl_cons se_str (sl_cons ?_ sl_nil))
                        refine se_bin se_str ?_ ok_add
                        exact se_type W ok (by rfl) (by k_is) (by decide +kernel) (by decide) (plain_of (by rfl)) (sl_cons (se_idx (se_loc ok (by rfl)) se_int) sl_nil) ok_str
                      refine sl_cons ?_ sl_nil
                      refine se_tup ?_
                      refine sl_cons se_str ?_
                      refine sl_cons (se_loc ok (by rfl)) ?_
                      refine sl_cons ?_ sl_nil
                      refine se_tup ?_
                      refine sl_cons se_str ?_
                      refine sl_cons se_str ?_
                      exact sl_cons (se_loc ok (by rfl)) (sl_cons (se_tup (sl_cons se_str (sl_cons se_int sl_nil))) sl_nil)
                    · exact (sg_name ok (by rfl))
                  refine sb_cons ?_ ?_
                  · refine ss_asg ?_ ?_ (by intro _; rfl) (by intro _; rfl) (by intro _ _ h; cases h)
                    · refine se_list ?_
                      refine sl_cons ?_ sl_nil
                      refine se_tup ?_
                      refine sl_cons se_str ?_
                      refine sl_cons ?_ ?_
                      · refine se_tup ?_
                        refine sl_cons se_str ?_
                        refine sl_cons se_str ?_
                        refine sl_cons (se_loc ok (by rfl)) (sl_cons ?_ sl_nil)
                        exact se_tup (sl_cons se_str (sl_cons (se_idx (se_loc ok (by rfl)) se_int) sl_nil))
                      refine sl_cons (se_loc ok (by rfl)) ?_
                      refine sl_cons ?_ sl_nil
                      refine se_bin ?_ (se_idx (se_loc ok (by rfl)) se_int) ok_mul
                      exact se_list (sl_cons (se_tup (sl_cons se_str (sl_cons se_str sl_nil))) sl_nil)
                    · exact (sg_name ok (by rfl))
                  exact sb_nil
                · refine sb_cons ?_ ?_
                  · refine ss_if ?_ ?_ ?_
                    · exact (st_cmp (se_idx (se_loc ok (by rfl)) se_int) se_str (cmp_eq W.nolimit))
                    · refine sb_cons ?_ ?_
                      · refine ss_asg ?_ ?_ (by intro _; rfl) (by intro _; rfl) (by intro _ _ h; cases h)
                        · exact (se_list (sl_cons se_int (sl_cons se_int sl_nil)))
                        · exact (sg_name ok (by rfl))
                      refine sb_cons ?_ ?_
                      · refine ss_asg ?_ ?_ (by intro _; rfl) (by intro _; rfl) (by intro _ _ h; cases h)
                        · refine se_list ?_
                          refine sl_cons ?_ sl_nil
                          refine se_if ?_ ?_ ?_
                          · exact st_cmp (se_idx (se_loc ok (by rfl)) se_int) se_int (cmp_eq W.nolimit)
                          · refine se_tup ?_
                            refine sl_cons se_str ?_
                            refine sl_cons se_str ?_
                            refine sl_cons ?_ (sl_cons (se_loc ok (by rfl)) sl_nil)
                            exact se_tup (sl_cons se_str (sl_cons (se_idx (se_loc ok (by rfl)) se_int) sl_nil))
                          refine se_tup (sl_cons se_str (sl_cons ?_ sl_nil))
                          exact se_idx (se_loc ok (by rfl)) (se_bin (se_idx (se_loc ok (by rfl)) se_int) se_int ok_mod)
                        · exact (sg_name ok (by rfl))
                      exact sb_nil
                    · refine sb_cons ?_ ?_
                      · refine ss_asg ?_ ?_ (by intro _; rfl) (by intro _; rfl) (by intro _ _ h; cases h)
                        · exact (se_tup (sl_cons se_str (sl_cons (se_idx (se_loc ok (by rfl)) se_int) sl_nil)))
                        · exact (sg_name ok (by rfl))
                      refine sb_cons ?_ ?_
                      · refine ss_if ?_ ?_ ?_
                        · exact (st_cmp (se_idx (se_loc ok (by rfl)) se_int) se_str (cmp_eq W.nolimit))
                        · refine sb_cons ?_ ?_
                          · refine ss_expr ?_ (by intro _; rfl)
                            refine se_call W ok (by rfl) (by k_is) (by k_is) (plain_of (by rfl)) ?_ ((s_put W).le (by lia))
                            refine sl_cons (se_loc ok (by rfl)) ?_
                            refine sl_cons (se_loc ok (by rfl)) ?_
                            refine sl_cons ?_ sl_nil
                            refine se_tup ?_
                            refine sl_cons se_str ?_
                            refine sl_cons (se_idx (se_loc ok (by rfl)) se_int) ?_
                            refine sl_cons ?_ ?_
                            · exact se_tup (sl_cons se_str (sl_cons (se_idx (se_loc ok (by rfl)) se_int) sl_nil))
                            refine sl_cons ?_ (sl_cons ?_ sl_nil)
                            · exact se_tup (sl_cons se_str (sl_cons (se_idx (se_loc ok (by rfl)) se_int) sl_nil))
                            exact se_tup (sl_cons se_str (sl_cons (se_idx (se_loc ok (by rfl)) se_int) sl_nil))
                          exact sb_nil
                        · refine sb_cons ?_ ?_
                          · refine ss_expr ?_ (by intro _; rfl)
                            refine se_call W ok (by rfl) (by k_is) (by k_is) (plain_of (by rfl)) ?_ ((s_put W).le (by lia))
                            refine sl_cons (se_loc ok (by rfl)) ?_
                            refine sl_cons (se_loc ok (by rfl)) ?_
                            refine sl_cons ?_ sl_nil
                            refine se_tup ?_
                            refine sl_cons se_str ?_
                            exact sl_cons (se_loc ok (by rfl)) (sl_cons (se_tup (sl_cons se_str (sl_cons se_int sl_nil))) sl_nil)
                          refine sb_cons ?_ ?_
                          · refine ss_expr ?_ (by intro _; rfl)
                            refine se_call W ok (by rfl) (by k_is) (by k_is) (plain_of (by rfl)) ?_ ((s_put W).le (by lia))
                            refine sl_cons (se_loc ok (by rfl)) ?_
                            refine sl_cons (se_loc ok (by rfl)) ?_
                            refine sl_cons ?_ sl_nil
                            refine se_tup ?_
                            refine sl_cons se_str ?_
                            refine sl_cons ?_ sl_nil
                            refine se_tup ?_
                            refine sl_cons se_str ?_
                            refine sl_cons se_str ?_
                            refine sl_cons (se_loc ok (by rfl)) (sl_cons ?_ sl_nil)
                            exact se_tup (sl_cons se_str (sl_cons (se_idx (se_loc ok (by rfl)) se_int) sl_nil))
                          exact sb_nil
                      refine sb_cons ?_ ?_
                      · refine ss_expr ?_ (by intro _; rfl)
                        refine se_call W ok (by rfl) (by k_is) (by k_is) (plain_of (by rfl)) (sl_cons ?_ (sl_cons (se_loc ok (by rfl)) (sl_cons (se_loc ok (by rfl)) sl_nil))) (ih.le (by lia))
                        exact se_idx (se_loc ok (by rfl)) (se_un se_int ok_neg)
                      refine sb_cons ?_ ?_
                      · refine ss_asg ?_ ?_ (by intro _; rfl) (by intro _; rfl) (by intro _ _ h; cases h)
                        · refine se_list ?_
                          refine sl_cons ?_ sl_nil
                          refine se_tup (sl_cons se_str (sl_cons ?_ sl_nil))
                          exact se_list (sl_cons (se_idx (se_loc ok (by rfl)) se_int) sl_nil)
                        · exact (sg_name ok (by rfl))
                      refine sb_cons ?_ ?_
                      · refine ss_if ?_ ?_ ?_
                        · exact (st_cmp (se_idx (se_loc ok (by rfl)) se_int) se_str (cmp_eq W.nolimit))
                        · refine sb_cons ?_ ?_
                          · refine ss_asg ?_ ?_ (by intro _; rfl) (by intro _; rfl) (by intro _ _ h; cases h)
                            · refine se_list ?_
                              refine sl_cons ?_ (sl_cons (se_tup (sl_cons se_str sl_nil)) sl_nil)
                              refine se_tup ?_
                              refine sl_cons se_str ?_
                              refine sl_cons (se_loc ok (by rfl)) ?_
                              refine sl_cons ?_ sl_nil
                              refine se_tup ?_
                              refine sl_cons se_str ?_
                              refine sl_cons se_str ?_
                              exact sl_cons (se_loc ok (by rfl)) (sl_cons (se_tup (sl_cons se_str (sl_cons se_int sl_nil))) sl_nil)
                            · exact (sg_name ok (by rfl))
                          exact sb_nil
                        · exact sb_nil
                      exact sb_nil
                  exact sb_nil
              exact sb_nil
          exact sb_nil
      refine sb_cons ?_ ?_
      · refine ss_for ?_ ?_ ?_ (by intro _ _; rfl)
        · exact (si_val .name (se_loc ok (by rfl)))
        · exact (sg_name ok (by rfl))
        · refine sb_cons ?_ ?_
          · refine ss_expr ?_ (by intro _; rfl)
            exact se_call W ok (by rfl) (by k_is) (by k_is) (plain_of (by rfl)) (sl_cons (se_loc ok (by rfl)) (sl_cons (se_loc ok (by rfl)) (sl_cons (se_loc ok (by rfl)) sl_nil))) ((s_put W).le (by lia))
          exact sb_nil
      exact sb_nil
  exact sb_nil

def x_Flat_init : Fx := { q := Str.ofString "Flat.__init__", sc := { kind := .function, names := [(Str.ofString "self", NameKind.local)], isGenerator := false, isCoroutine := false }, a := 377, cd := .ref 376, nm := [Str.ofString "self"] }

theorem o_Flat_init : x_Flat_init.Ok := ⟨rfl, by decide +kernel, by decide +kernel⟩

theorem s_Flat_init (W : Wd hb (hd.heap_1 w.params) mg mb) : SFn prog w hb 1 377 (F_Flat_init) := by
  have ok := o_Flat_init
  refine sfn_of (c := x_Flat_init) W ok (by intro _; rfl) (ps := [Str.ofString "self"]) (rest := []) rfl ⟨⟨_, _, _, _, _, _, _, _, _, _, _, by k_is, binds_1 (by intro _; rfl)⟩, by k_is, rfl, rfl, by decide +kernel⟩ ?_
  refine sb_cons ?_ ?_
  · refine ss_asg ?_ ?_ (by intro _; rfl) (by intro _; rfl) (by intro _ _ h; cases h)
    · exact (se_list sl_nil)
    · exact (sg_attr W.x cls_Flat (by k_is) (se_loc ok (by rfl)))
  refine sb_cons ?_ ?_
  · refine ss_asg ?_ ?_ (by intro _; rfl) (by intro _; rfl) (by intro _ _ h; cases h)
    · exact se_dict0
    · exact (sg_attr W.x cls_Flat (by k_is) (se_loc ok (by rfl)))
  refine sb_cons ?_ ?_
  · refine ss_asg ?_ ?_ (by intro _; rfl) (by intro _; rfl) (by intro _ _ h; cases h)
    · exact (se_list sl_nil)
    · exact (sg_attr W.x cls_Flat (by k_is) (se_loc ok (by rfl)))
  refine sb_cons ?_ ?_
  · refine ss_asg ?_ ?_ (by intro _; rfl) (by intro _; rfl) (by intro _ _ h; cases h)
    · exact se_dict0
    · exact (sg_attr W.x cls_Flat (by k_is) (se_loc ok (by rfl)))
  refine sb_cons ?_ ?_
  · refine ss_asg ?_ ?_ (by intro _; rfl) (by intro _; rfl) (by intro _ _ h; cases h)
    · exact se_dict0
    · exact (sg_attr W.x cls_Flat (by k_is) (se_loc ok (by rfl)))
  refine sb_cons ?_ ?_
  · refine ss_asg ?_ ?_ (by intro _; rfl) (by intro _; rfl) (by intro _ _ h; cases h)
    · exact se_dict0
    · exact (sg_attr W.x cls_Flat (by k_is) (se_loc ok (by rfl)))
  exact sb_nil

def x_end_loops : Fx := { q := Str.ofString "end_loops", sc := { kind := .function, names := [(Str.ofString "flat", NameKind.local), (Str.ofString "fors", NameKind.local), (Str.ofString "at", NameKind.local), (Str.ofString "many", NameKind.local), (Str.ofString "which", NameKind.local), (Str.ofString "range", NameKind.globalImplicit), (Str.ofString "len", NameKind.globalImplicit)], isGenerator := false, isCoroutine := false }, a := 426, cd := .ref 425, nm := [Str.ofString "flat", Str.ofString "fors", Str.ofString "at", Str.ofString "many", Str.ofString "which"] }

theorem o_end_loops : x_end_loops.Ok := ⟨rfl, by decide +kernel, by decide +kernel⟩

theorem s_end_loops (W : Wd hb (hd.heap_1 w.params) mg mb) : SFn prog w hb 1 426 (F_end_loops) := by
  have ok := o_end_loops
  refine sfn_of (c := x_end_loops) W ok (by intro _; rfl) (ps := [Str.ofString "flat", Str.ofString "fors", Str.ofString "at", Str.ofString "many"]) (rest := [Str.ofString "which"]) rfl ⟨⟨_, _, _, _, _, _, _, _, _, _, _, by k_is, binds_4 (fun _ _ _ _ => rfl)⟩, by k_is, rfl, rfl, by decide +kernel⟩ ?_
  refine sb_cons ?_ ?_
  · refine ss_for ?_ ?_ ?_ (by intro _ _; rfl)
    · exact si_rng1 W ok (by rfl) (by k_is) (by decide +kernel) (plain_of (by rfl)) (sl_cons (se_loc ok (by rfl)) sl_nil)
    · exact (sg_name ok (by rfl))
    · refine sb_cons ?_ ?_
      · refine ss_if ?_ ?_ ?_
        · refine st_cmp ?_ se_int cmp_gt
          exact se_bltin W ok (by rfl) (by k_is) (by decide +kernel) (by decide) (plain_of (by rfl)) (sl_cons (se_loc ok (by rfl)) sl_nil) ok_len
        · refine sb_cons ?_ ?_
          · refine ss_asg ?_ ?_ (by intro _; rfl) (by intro _; rfl) (by intro _ _ h; cases h)
            · exact (se_tup (sl_cons (se_loc ok (by rfl)) (sl_cons (se_loc ok (by rfl)) sl_nil)))
            · refine sg_sub W.nolimit ?_ ?_
              · exact se_attr W.x cls_Flat (by k_is) (se_loc ok (by rfl))
              exact se_pop (se_loc ok (by rfl)) ⟨_, by intro _; rfl⟩
          exact sb_nil
        · exact sb_nil
      exact sb_nil
  exact sb_nil

def x_join_rows : Fx := { q := Str.ofString "join_rows", sc := { kind := .function, names := [(Str.ofString "flat", NameKind.local), (Str.ofString "open_rows", NameKind.local), (Str.ofString "at", NameKind.local), (Str.ofString "begin", NameKind.local), (Str.ofString "len", NameKind.globalImplicit)], isGenerator := false, isCoroutine := false }, a := 419, cd := .ref 418, nm := [Str.ofString "flat", Str.ofString "open_rows", Str.ofString "at", Str.ofString "begin"] }

theorem o_join_rows : x_join_rows.Ok := ⟨rfl, by decide +kernel, by decide +kernel⟩

theorem s_join_rows (W : Wd hb (hd.heap_1 w.params) mg mb) : SFn prog w hb 1 419 (F_join_rows) := by
  have ok := o_join_rows
  refine sfn_of (c := x_join_rows) W ok (by intro _; rfl) (ps := [Str.ofString "flat", Str.ofString "open_rows", Str.ofString "at"]) (rest := [Str.ofString "begin"]) rfl ⟨⟨_, _, _, _, _, _, _, _, _, _, _, by k_is, binds_3 (fun _ _ _ => rfl)⟩, by k_is, rfl, rfl, by decide +kernel⟩ ?_
  refine sb_cons ?_ ?_
  · refine ss_if ?_ ?_ ?_
    · refine st_cmp ?_ se_int cmp_gt
      exact se_bltin W ok (by rfl) (by k_is) (by decide +kernel) (by decide) (plain_of (by rfl)) (sl_cons (se_loc ok (by rfl)) sl_nil) ok_len
    · refine sb_cons ?_ ?_
      · refine ss_asg ?_ ?_ (by intro _; rfl) (by intro _; rfl) (by intro _ _ h; cases h)
        · exact (se_pop (se_loc ok (by rfl)) ⟨_, by intro _; rfl⟩)
        · exact (sg_name ok (by rfl))
      refine sb_cons ?_ ?_
      · refine ss_asg ?_ ?_ (by intro _; rfl) (by intro _; rfl) (by intro _ _ h; cases h)
        · exact (se_loc ok (by rfl))
        · exact (sg_sub W.nolimit (se_attr W.x cls_Flat (by k_is) (se_loc ok (by rfl))) (se_loc ok (by rfl)))
      refine sb_cons ?_ ?_
      · refine ss_asg ?_ ?_ (by intro _; rfl) (by intro _; rfl) (by intro _ _ h; cases h)
        · exact (se_loc ok (by rfl))
        · exact (sg_sub W.nolimit (se_attr W.x cls_Flat (by k_is) (se_loc ok (by rfl))) (se_loc ok (by rfl)))
      exact sb_nil
    · exact sb_nil
  exact sb_nil

def x_gather : Fx := { q := Str.ofString "gather", sc := { kind := .function, names := [(Str.ofString "flat", NameKind.local), (Str.ofString "whiles", NameKind.local), (Str.ofString "fors", NameKind.local), (Str.ofString "heads", NameKind.local), (Str.ofString "at", NameKind.local), (Str.ofString "pair", NameKind.local), (Str.ofString "line", NameKind.local), (Str.ofString "statement", NameKind.local), (Str.ofString "word", NameKind.local), (Str.ofString "text", NameKind.local), (Str.ofString "enumerate", NameKind.globalImplicit), (Str.ofString "join_rows", NameKind.globalImplicit), (Str.ofString "end_loops", NameKind.globalImplicit), (Str.ofString "max", NameKind.globalImplicit), (Str.ofString "len", NameKind.globalImplicit)], isGenerator := false, isCoroutine := false }, a := 412, cd := .ref 411, nm := [Str.ofString "flat", Str.ofString "whiles", Str.ofString "fors", Str.ofString "heads", Str.ofString "at", Str.ofString "pair", Str.ofString "line", Str.ofString "statement", Str.ofString "word", Str.ofString "text"] }

theorem o_gather : x_gather.Ok := ⟨rfl, by decide +kernel, by decide +kernel⟩

theorem s_gather (W : Wd hb (hd.heap_1 w.params) mg mb) : SFn prog w hb 2 412 (F_gather) := by
  have ok := o_gather
  refine sfn_of (c := x_gather) W ok (by intro _; rfl) (ps := [Str.ofString "flat"]) (rest := [Str.ofString "whiles", Str.ofString "fors", Str.ofString "heads", Str.ofString "at", Str.ofString "pair", Str.ofString "line", Str.ofString "statement", Str.ofString "word", Str.ofString "text"]) rfl ⟨⟨_, _, _, _, _, _, _, _, _, _, _, by k_is, binds_1 (by intro _; rfl)⟩, by k_is, rfl, rfl, by decide +kernel⟩ ?_
  refine sb_cons ?_ ?_
  · refine ss_asgR (ks := [1, 2, 3]) (names := [Str.ofString "whiles", Str.ofString "fors", Str.ofString "heads"]) ok ?_ (by rfl) (by intro _; rfl) (by intro _; rfl)
    exact (se_tup (sl_cons (se_list sl_nil) (sl_cons (se_list sl_nil) (sl_cons (se_list sl_nil) sl_nil))))
  refine sb_cons ?_ ?_
  · refine ss_for ?_ ?_ ?_ (by intro _ _; rfl)
    · refine si_enum W ok (by rfl) (by k_is) (by decide +kernel) (plain_of (by rfl)) (sl_cons ?_ sl_nil)
      exact se_attr W.x cls_Flat (by k_is) (se_loc ok (by rfl))
    · exact (sg_tup (.cons (sg_name ok (by rfl)) (.cons (sg_name ok (by rfl)) .nil)) (plain_of (by rfl)))
    · refine sb_cons ?_ ?_
      · refine ss_asg ?_ ?_ (by intro _; rfl) (by intro _; rfl) (by intro _ _ h; cases h)
        · exact (se_loc ok (by rfl))
        · exact (sg_tup (.cons (sg_name ok (by rfl)) (.cons (sg_name ok (by rfl)) .nil)) (plain_of (by rfl)))
      refine sb_cons ?_ ?_
      · refine ss_asg ?_ ?_ (by intro _; rfl) (by intro _; rfl) (by intro _ _ h; cases h)
        · exact (se_idx (se_loc ok (by rfl)) se_int)
        · exact (sg_name ok (by rfl))
      refine sb_cons ?_ ?_
      · refine ss_if ?_ ?_ ?_
        · exact (st_cmp (se_loc ok (by rfl)) se_str (cmp_eq W.nolimit))
        · exact sb_no
        · refine sb_cons ?_ ?_
          · refine ss_if ?_ ?_ ?_
            · exact (st_cmp (se_loc ok (by rfl)) se_str (cmp_eq W.nolimit))
            · refine sb_cons ?_ ?_
              · refine ss_expr ?_ (by intro _; rfl)
                exact (se_append (se_loc ok (by rfl)) (se_loc ok (by rfl)) (plain_of (by rfl)) ⟨_, by intro _; rfl⟩)
              exact sb_nil
            · refine sb_cons ?_ ?_
              · refine ss_if ?_ ?_ ?_
                · exact (st_cmp (se_loc ok (by rfl)) se_str (cmp_eq W.nolimit))
                · refine sb_cons ?_ ?_
                  · refine ss_expr ?_ (by intro _; rfl)
                    exact se_call W ok (by rfl) (by k_is) (by k_is) (plain_of (by rfl)) (sl_cons (se_loc ok (by rfl)) (sl_cons (se_loc ok (by rfl)) (sl_cons (se_loc ok (by rfl)) sl_nil))) ((s_join_rows W).le (by lia))
                  exact sb_nil
                · refine sb_cons ?_ ?_
                  · refine ss_if ?_ ?_ ?_
                    · exact (st_cmp (se_loc ok (by rfl)) se_str (cmp_eq W.nolimit))
                    · exact sb_no
                    · refine sb_cons ?_ ?_
                      · refine ss_if ?_ ?_ ?_
                        · exact (st_cmp (se_loc ok (by rfl)) se_str (cmp_eq W.nolimit))
                        · exact sb_no
                        · refine sb_cons ?_ ?_
                          · refine ss_if ?_ ?_ ?_
                            · exact (st_cmp (se_loc ok (by rfl)) se_str (cmp_eq W.nolimit))
                            · refine sb_cons ?_ ?_
                              · refine ss_expr ?_ (by intro _; rfl)
                                exact (se_append (se_loc ok (by rfl)) (se_loc ok (by rfl)) (plain_of (by rfl)) ⟨_, by intro _; rfl⟩)
                              exact sb_nil
                            · refine sb_cons ?_ ?_
                              · refine ss_if ?_ ?_ ?_
                                · exact (st_cmp (se_loc ok (by rfl)) se_str (cmp_eq W.nolimit))
                                · refine sb_cons ?_ ?_
                                  · refine ss_expr ?_ (by intro _; rfl)
                                    refine se_call W ok (by rfl) (by k_is) (by k_is) (plain_of (by rfl)) ?_ ((s_end_loops W).le (by lia))
                                    refine sl_cons (se_loc ok (by rfl)) ?_
                                    refine sl_cons (se_loc ok (by rfl)) ?_
                                    refine sl_cons (se_loc ok (by rfl)) ?_
                                    refine sl_cons ?_ sl_nil
                                    refine se_bltin W ok (by rfl) (by k_is) (by decide +kernel) (by decide) (plain_of (by rfl)) (sl_cons se_int (sl_cons ?_ sl_nil)) ok_max
                                    exact se_bltin W ok (by rfl) (by k_is) (by decide +kernel) (by decide) (plain_of (by rfl)) (sl_cons (se_idx (se_loc ok (by rfl)) se_int) sl_nil) ok_len
                                  exact sb_nil
                                · exact sb_nil
                              exact sb_nil
                          exact sb_nil
                      exact sb_nil
                  exact sb_nil
              exact sb_nil
          exact sb_nil
      exact sb_nil
  exact sb_nil

def x_put_row_of : Fx := { q := Str.ofString "put_row_of", sc := { kind := .function, names := [(Str.ofString "flat", NameKind.local), (Str.ofString "line", NameKind.local), (Str.ofString "statement", NameKind.local), (Str.ofString "len", NameKind.globalImplicit)], isGenerator := false, isCoroutine := false }, a := 391, cd := .ref 390, nm := [Str.ofString "flat", Str.ofString "line", Str.ofString "statement"] }

theorem o_put_row_of : x_put_row_of.Ok := ⟨rfl, by decide +kernel, by decide +kernel⟩

theorem s_put_row_of (W : Wd hb (hd.heap_1 w.params) mg mb) : SFn prog w hb 1 391 (F_put_row_of) := by
  have ok := o_put_row_of
  refine sfn_of (c := x_put_row_of) W ok (by intro _; rfl) (ps := [Str.ofString "flat", Str.ofString "line", Str.ofString "statement"]) (rest := []) rfl ⟨⟨_, _, _, _, _, _, _, _, _, _, _, by k_is, binds_3 (fun _ _ _ => rfl)⟩, by k_is, rfl, rfl, by decide +kernel⟩ ?_
  refine sb_cons ?_ ?_
  · refine ss_expr ?_ (by intro _; rfl)
    refine se_append ?_ ?_ (plain_of (by rfl)) ⟨_, by intro _; rfl⟩
    · exact se_attr W.x cls_Flat (by k_is) (se_loc ok (by rfl))
    exact se_tup (sl_cons (se_loc ok (by rfl)) (sl_cons (se_loc ok (by rfl)) sl_nil))
  refine sb_cons ?_ ?_
  · refine ss_ret ?_
    refine se_bin ?_ se_int ok_sub
    refine se_bltin W ok (by rfl) (by k_is) (by decide +kernel) (by decide) (plain_of (by rfl)) (sl_cons ?_ sl_nil) ok_len
    exact se_attr W.x cls_Flat (by k_is) (se_loc ok (by rfl))
  exact sb_nil

def x_put_if : Fx := { q := Str.ofString "put_if", sc := { kind := .function, names := [(Str.ofString "flat", NameKind.local), (Str.ofString "line", NameKind.local), (Str.ofString "statement", NameKind.local), (Str.ofString "test", NameKind.local), (Str.ofString "skip", NameKind.local), (Str.ofString "put_row_of", NameKind.globalImplicit), (Str.ofString "put_all", NameKind.globalImplicit), (Str.ofString "len", NameKind.globalImplicit)], isGenerator := false, isCoroutine := false }, a := 398, cd := .ref 397, nm := [Str.ofString "flat", Str.ofString "line", Str.ofString "statement", Str.ofString "test", Str.ofString "skip"] }

theorem o_put_if : x_put_if.Ok := ⟨rfl, by decide +kernel, by decide +kernel⟩

theorem s_put_if (W : Wd hb (hd.heap_1 w.params) mg mb) {G : FF} {d : Nat} (hG : SFn prog w hb (d + 1) 405 G) : SFn prog w hb (d + 2) 398 (F_put_if G) := by
  have ok := o_put_if
  refine sfn_of (c := x_put_if) W ok (by intro _; rfl) (ps := [Str.ofString "flat", Str.ofString "line", Str.ofString "statement"]) (rest := [Str.ofString "test", Str.ofString "skip"]) rfl ⟨⟨_, _, _, _, _, _, _, _, _, _, _, by k_is, binds_3 (fun _ _ _ => rfl)⟩, by k_is, rfl, rfl, by decide +kernel⟩ ?_
  refine sb_cons ?_ ?_
  · refine ss_asg ?_ ?_ (by intro _; rfl) (by intro _; rfl) (by intro _ _ h; cases h)
    · exact se_call W ok (by rfl) (by k_is) (by k_is) (plain_of (by rfl)) (sl_cons (se_loc ok (by rfl)) (sl_cons (se_loc ok (by rfl)) (sl_cons (se_loc ok (by rfl)) sl_nil))) ((s_put_row_of W).le (by lia))
    · exact (sg_name ok (by rfl))
  refine sb_cons ?_ ?_
  · refine ss_expr ?_ (by intro _; rfl)
    exact se_call W ok (by rfl) (by k_is) (by k_is) (plain_of (by rfl)) (sl_cons (se_loc ok (by rfl)) (sl_cons (se_loc ok (by rfl)) (sl_cons (se_idx (se_loc ok (by rfl)) se_int) sl_nil))) hG
  refine sb_cons ?_ ?_
  · refine ss_if ?_ ?_ ?_
    · refine st_cmp ?_ se_int (cmp_eq W.nolimit)
      exact se_bltin W ok (by rfl) (by k_is) (by decide +kernel) (by decide) (plain_of (by rfl)) (sl_cons (se_idx (se_loc ok (by rfl)) se_int) sl_nil) ok_len
    · refine sb_cons ?_ ?_
      · refine ss_asg ?_ ?_ (by intro _; rfl) (by intro _; rfl) (by intro _ _ h; cases h)
        · refine se_tup ?_
          refine sl_cons (se_loc ok (by rfl)) ?_
          refine sl_cons ?_ sl_nil
          refine se_tup ?_
          refine sl_cons se_str (sl_cons (se_idx (se_loc ok (by rfl)) se_int) (sl_cons ?_ sl_nil))
          refine se_bltin W ok (by rfl) (by k_is) (by decide +kernel) (by decide) (plain_of (by rfl)) (sl_cons ?_ sl_nil) ok_len
          exact se_attr W.x cls_Flat (by k_is) (se_loc ok (by rfl))
        · exact (sg_sub W.nolimit (se_attr W.x cls_Flat (by k_is) (se_loc ok (by rfl))) (se_loc ok (by rfl)))
      refine sb_cons ?_ ?_
      · exact ss_retN
      exact sb_nil
    · exact sb_nil
  refine sb_cons ?_ ?_
  · refine ss_asg ?_ ?_ (by intro _; rfl) (by intro _; rfl) (by intro _ _ h; cases h)
    · exact se_call W ok (by rfl) (by k_is) (by k_is) (plain_of (by rfl)) (sl_cons (se_loc ok (by rfl)) (sl_cons (se_loc ok (by rfl)) (sl_cons (se_loc ok (by rfl)) sl_nil))) ((s_put_row_of W).le (by lia))
    · exact (sg_name ok (by rfl))
  refine sb_cons ?_ ?_
  · refine ss_asg ?_ ?_ (by intro _; rfl) (by intro _; rfl) (by intro _ _ h; cases h)
    · refine se_tup ?_
      refine sl_cons (se_loc ok (by rfl)) ?_
      refine sl_cons ?_ sl_nil
      refine se_tup ?_
      refine sl_cons se_str (sl_cons (se_idx (se_loc ok (by rfl)) se_int) (sl_cons ?_ sl_nil))
      refine se_bltin W ok (by rfl) (by k_is) (by decide +kernel) (by decide) (plain_of (by rfl)) (sl_cons ?_ sl_nil) ok_len
      exact se_attr W.x cls_Flat (by k_is) (se_loc ok (by rfl))
    · exact (sg_sub W.nolimit (se_attr W.x cls_Flat (by k_is) (se_loc ok (by rfl))) (se_loc ok (by rfl)))
  refine sb_cons ?_ ?_
  · refine ss_expr ?_ (by intro _; rfl)
    exact se_call W ok (by rfl) (by k_is) (by k_is) (plain_of (by rfl)) (sl_cons (se_loc ok (by rfl)) (sl_cons (se_loc ok (by rfl)) (sl_cons (se_idx (se_loc ok (by rfl)) se_int) sl_nil))) hG
  refine sb_cons ?_ ?_
  · refine ss_asg ?_ ?_ (by intro _; rfl) (by intro _; rfl) (by intro _ _ h; cases h)
    · refine se_tup ?_
      refine sl_cons (se_loc ok (by rfl)) ?_
      refine sl_cons ?_ sl_nil
      refine se_tup (sl_cons se_str (sl_cons ?_ sl_nil))
      refine se_bltin W ok (by rfl) (by k_is) (by decide +kernel) (by decide) (plain_of (by rfl)) (sl_cons ?_ sl_nil) ok_len
      exact se_attr W.x cls_Flat (by k_is) (se_loc ok (by rfl))
    · exact (sg_sub W.nolimit (se_attr W.x cls_Flat (by k_is) (se_loc ok (by rfl))) (se_loc ok (by rfl)))
  exact sb_nil

def x_put_all : Fx := { q := Str.ofString "put_all", sc := { kind := .function, names := [(Str.ofString "flat", NameKind.local), (Str.ofString "line", NameKind.local), (Str.ofString "statements", NameKind.local), (Str.ofString "statement", NameKind.local), (Str.ofString "put_if", NameKind.globalImplicit), (Str.ofString "put_row_of", NameKind.globalImplicit)], isGenerator := false, isCoroutine := false }, a := 405, cd := .ref 404, nm := [Str.ofString "flat", Str.ofString "line", Str.ofString "statements", Str.ofString "statement"] }

theorem o_put_all : x_put_all.Ok := ⟨rfl, by decide +kernel, by decide +kernel⟩

theorem s_put_all (W : Wd hb (hd.heap_1 w.params) mg mb) (n : Nat) : SFn prog w hb (2 * n + 2) 405 (F_put_all n) := by
  induction n with
  | zero => exact sfn_no
  | succ n ih =>
  refine SFn.le (d := 2 * n + 3 + 1) ?_ (by lia)
  have ok := o_put_all
  refine sfn_of (c := x_put_all) W ok (by intro _; rfl) (ps := [Str.ofString "flat", Str.ofString "line", Str.ofString "statements"]) (rest := [Str.ofString "statement"]) rfl ⟨⟨_, _, _, _, _, _, _, _, _, _, _, by k_is, binds_3 (fun _ _ _ => rfl)⟩, by k_is, rfl, rfl, by decide +kernel⟩ ?_
  refine sb_cons ?_ ?_
  · refine ss_for ?_ ?_ ?_ (by intro _ _; rfl)
    · exact (si_val .name (se_loc ok (by rfl)))
    · exact (sg_name ok (by rfl))
    · refine sb_cons ?_ ?_
      · refine ss_if ?_ ?_ ?_
        · exact (st_cmp (se_idx (se_loc ok (by rfl)) se_int) se_str (cmp_eq W.nolimit))
        · refine sb_cons ?_ ?_
          · refine ss_expr ?_ (by intro _; rfl)
            exact se_call W ok (by rfl) (by k_is) (by k_is) (plain_of (by rfl)) (sl_cons (se_loc ok (by rfl)) (sl_cons (se_loc ok (by rfl)) (sl_cons (se_loc ok (by rfl)) sl_nil))) ((s_put_if W ih).le (by lia))
          exact sb_nil
        · refine sb_cons ?_ ?_
          · refine ss_expr ?_ (by intro _; rfl)
            exact se_call W ok (by rfl) (by k_is) (by k_is) (plain_of (by rfl)) (sl_cons (se_loc ok (by rfl)) (sl_cons (se_loc ok (by rfl)) (sl_cons (se_loc ok (by rfl)) sl_nil))) ((s_put_row_of W).le (by lia))
          exact sb_nil
      exact sb_nil
  exact sb_nil

def x_flatten : Fx := { q := Str.ofString "flatten", sc := { kind := .function, names := [(Str.ofString "parsed", NameKind.local), (Str.ofString "flat", NameKind.local), (Str.ofString "line", NameKind.local), (Str.ofString "statements", NameKind.local), (Str.ofString "Flat", NameKind.globalImplicit), (Str.ofString "len", NameKind.globalImplicit), (Str.ofString "put_all", NameKind.globalImplicit), (Str.ofString "put_row_of", NameKind.globalImplicit), (Str.ofString "gather", NameKind.globalImplicit)], isGenerator := false, isCoroutine := false }, a := 433, cd := .ref 432, nm := [Str.ofString "parsed", Str.ofString "flat", Str.ofString "line", Str.ofString "statements"] }

theorem o_flatten : x_flatten.Ok := ⟨rfl, by decide +kernel, by decide +kernel⟩

theorem s_flatten (W : Wd hb (hd.heap_1 w.params) mg mb) : SFn prog w hb 11 433 (F_flatten) := by
  have ok := o_flatten
  refine sfn_of (c := x_flatten) W ok (by intro _; rfl) (ps := [Str.ofString "parsed"]) (rest := [Str.ofString "flat", Str.ofString "line", Str.ofString "statements"]) rfl ⟨⟨_, _, _, _, _, _, _, _, _, _, _, by k_is, binds_1 (by intro _; rfl)⟩, by k_is, rfl, rfl, by decide +kernel⟩ ?_
  refine sb_cons ?_ ?_
  · refine ss_asg ?_ ?_ (by intro _; rfl) (by intro _; rfl) (by intro _ _ h; cases h)
    · exact se_new W ok (by rfl) (by k_is) (by k_is) (by k_is) (by k_is) (by k_is) (plain_of (by rfl)) sl_nil ((s_Flat_init W).le (by lia))
    · exact (sg_name ok (by rfl))
  refine sb_cons ?_ ?_
  · refine ss_for ?_ ?_ ?_ (by intro _ _; rfl)
    · exact (si_val .tup (se_loc ok (by rfl)))
    · exact (sg_tup (.cons (sg_name ok (by rfl)) (.cons (sg_name ok (by rfl)) .nil)) (plain_of (by rfl)))
    · refine sb_cons ?_ ?_
      · refine ss_asg ?_ ?_ (by intro _; rfl) (by intro _; rfl) (by intro _ _ h; cases h)
        · refine se_bltin W ok (by rfl) (by k_is) (by decide +kernel) (by decide) (plain_of (by rfl)) (sl_cons ?_ sl_nil) ok_len
          exact se_attr W.x cls_Flat (by k_is) (se_loc ok (by rfl))
        · exact (sg_sub W.nolimit (se_attr W.x cls_Flat (by k_is) (se_loc ok (by rfl))) (se_loc ok (by rfl)))
      refine sb_cons ?_ ?_
      · refine ss_expr ?_ (by intro _; rfl)
        exact se_call W ok (by rfl) (by k_is) (by k_is) (plain_of (by rfl)) (sl_cons (se_loc ok (by rfl)) (sl_cons (se_loc ok (by rfl)) (sl_cons (se_loc ok (by rfl)) sl_nil))) ((s_put_all W 4).le (by lia))
      refine sb_cons ?_ ?_
      · refine ss_if ?_ ?_ ?_
        · refine st_cmp ?_ ?_ (cmp_eq W.nolimit)
          · exact se_idx (se_attr W.x cls_Flat (by k_is) (se_loc ok (by rfl))) (se_loc ok (by rfl))
          refine se_bltin W ok (by rfl) (by k_is) (by decide +kernel) (by decide) (plain_of (by rfl)) (sl_cons ?_ sl_nil) ok_len
          exact se_attr W.x cls_Flat (by k_is) (se_loc ok (by rfl))
        · refine sb_cons ?_ ?_
          · refine ss_expr ?_ (by intro _; rfl)
            refine se_call W ok (by rfl) (by k_is) (by k_is) (plain_of (by rfl)) ?_ ((s_put_row_of W).le (by lia))
            refine sl_cons (se_loc ok (by rfl)) ?_
            exact sl_cons (se_loc ok (by rfl)) (sl_cons (se_tup (sl_cons se_str (sl_cons se_str sl_nil))) sl_nil)
          exact sb_nil
        · exact sb_nil
      exact sb_nil
  refine sb_cons ?_ ?_
  · refine ss_expr ?_ (by intro _; rfl)
    exact se_call W ok (by rfl) (by k_is) (by k_is) (plain_of (by rfl)) (sl_cons (se_loc ok (by rfl)) sl_nil) ((s_gather W).le (by lia))
  refine sb_cons ?_ ?_
  · refine ss_ret ?_
    exact (se_loc ok (by rfl))
  exact sb_nil

end
def x_law : Fx := { q := Str.ofString "law", sc := { kind := .function, names := [(Str.ofString "script", NameKind.local), (Str.ofString "box", NameKind.local), (Str.ofString "count", NameKind.local), (Str.ofString "subs", NameKind.local), (Str.ofString "main", NameKind.local), (Str.ofString "lines", NameKind.local), (Str.ofString "both", NameKind.local), (Str.ofString "statement", NameKind.local), (Str.ofString "at", NameKind.local), (Str.ofString "values", NameKind.local), (Str.ofString "notes", NameKind.local), (Str.ofString "run", NameKind.local), (Str.ofString "_law_all", NameKind.globalImplicit), (Str.ofString "_law_block", NameKind.globalImplicit), (Str.ofString "_law_lines", NameKind.globalImplicit), (Str.ofString "_law_put", NameKind.globalImplicit), (Str.ofString "range", NameKind.globalImplicit), (Str.ofString "_law_go", NameKind.globalImplicit), (Str.ofString "FlowRun", NameKind.globalImplicit), (Str.ofString "flatten", NameKind.globalImplicit), (Str.ofString "_law_worth", NameKind.globalImplicit), (Str.ofString "len", NameKind.globalImplicit)], isGenerator := false, isCoroutine := false }, a := 614, cd := .ref 613, nm := [Str.ofString "script", Str.ofString "box", Str.ofString "count", Str.ofString "subs", Str.ofString "main", Str.ofString "lines", Str.ofString "both", Str.ofString "statement", Str.ofString "at", Str.ofString "values", Str.ofString "notes", Str.ofString "run"] }

theorem o_law : x_law.Ok := ⟨rfl, by decide +kernel, by decide +kernel⟩


inductive Sm where
  | note (a : Int)
  | add (k : Int)
  | choice (a b c : Int)
  | call (a b : Int)
inductive B where
  | nil
  | sm (s : Sm) (r : B)
  | loop (v : String) (b l p : Int) (body r : B)
  | whil (w lim : Int) (body r : B)
noncomputable def wn (w : Int) : String := "W" ++ toString w
noncomputable def encSm : Sm → V
  | .note a => .tup [.str "note", .int a]
  | .add k => .tup [.str "add", .int k]
  | .choice a b c => .tup [.str "choice", .int a, .int b, .int c]
  | .call a b => .tup [.str "call", .int a, .int b]
noncomputable def Sub (σ : St) (lo hi i : Nat) (l : List V) : Prop := lo ≤ i ∧ i < hi ∧ σ[i]? = some (.list l)
noncomputable def IsB (σ : St) (lo hi : Nat) : B → List V → Prop
  | .nil, l => l = []
  | .sm s r, l => ∃ l', l = encSm s :: l' ∧ IsB σ lo hi r l'
  | .loop v b e p body r, l => ∃ l' i lb, l = .tup [.str "for", .str v, .int b, .int e, .int p, .ref i] :: l' ∧ Sub σ lo hi i lb ∧ IsB σ lo hi body lb ∧ IsB σ lo hi r l'
  | .whil w lim body r, l => ∃ l' i lb, l = .tup [.str "while", .str (wn w), .int lim, .ref i] :: l' ∧ Sub σ lo hi i lb ∧ IsB σ lo hi body lb ∧ IsB σ lo hi r l'

section
variable {σ σ' : St} {lo hi lo' hi' : Nat}
theorem Sub.mono (hl : lo' ≤ lo) (hh : hi ≤ hi') (k : ∀ i, lo ≤ i → i < hi → σ'[i]? = σ[i]?) {i : Nat} {l : List V} (h : Sub σ lo hi i l) : Sub σ' lo' hi' i l := ⟨Nat.le_trans hl h.1, Nat.lt_of_lt_of_le h.2.1 hh, (k i h.1 h.2.1).trans h.2.2⟩
theorem IsB.mono (hl : lo' ≤ lo) (hh : hi ≤ hi') (k : ∀ i, lo ≤ i → i < hi → σ'[i]? = σ[i]?) : ∀ {b : B} ⦃l : List V⦄, IsB σ lo hi b l → IsB σ' lo' hi' b l
  | .nil => by
    intro _ e
    exact e
  | .sm _ _ => by
    intro _ z0_
    obtain ⟨l', e, r⟩ := z0_
    exact ⟨l', e, r.mono hl hh k⟩
  | .loop _ _ _ _ _ _ => by
    intro _ z0_
    obtain ⟨l', i, lb, e, h, h4, r⟩ := z0_
    exact ⟨l', i, lb, e, h.mono hl hh k, h4.mono hl hh k, r.mono hl hh k⟩
  | .whil _ _ _ _ => by
    intro _ z0_
    obtain ⟨l', i, lb, e, h, h4, r⟩ := z0_
    exact ⟨l', i, lb, e, h.mono hl hh k, h4.mono hl hh k, r.mono hl hh k⟩
end

noncomputable def cnt : B → Nat
  | .nil => 0
  | .sm _ r => cnt r + 1
  | .loop _ _ _ _ _ r => cnt r + 1
  | .whil _ _ _ r => cnt r + 1
noncomputable def vn : Nat → String
  | 1 => "J"
  | _ => "K"
noncomputable def names : B → List String
  | .nil => []
  | .sm _ r => names r
  | .loop v _ _ _ body r => v :: (names body ++ names r)
  | .whil w _ body r => wn w :: (names body ++ names r)

noncomputable def WFs (d : Nat) : Sm → Prop
  | .note a => 0 ≤ a ∧ a < 9
  | .add k => -3 ≤ k ∧ k ≤ 3
  | .choice a b e => (-2 ≤ a ∧ a < 7) ∧ (0 ≤ b ∧ b < 9) ∧ (0 ≤ e ∧ e < 2)
  | .call a b => (1 ≤ d ∧ d ≤ 2) ∧ (0 ≤ a ∧ a < 4) ∧ (0 ≤ b ∧ b < 2)
structure LoopC (d : Nat) (v : String) (b l p : Int) (body : B) : Prop where
  hd : 1 ≤ d ∧ d ≤ 2
  hv : v = vn d ∨ (v = "I" ∧ names body = [])
  hb : 0 ≤ b ∧ b < 3
  hl : 0 ≤ l ∧ l < 3
  hp : p = 1 ∨ p = 2 ∨ p = -1 ∨ p = -2
  hc : cnt body ≤ 2
structure WhilC (d : Nat) (lim : Int) (body : B) : Prop where
  hd : 1 ≤ d ∧ d ≤ 2
  hl : 0 ≤ lim ∧ lim < 3
  hc : cnt body ≤ 2
noncomputable def WF : Nat → Int → B → Int → Prop
  | _, c, .nil, c' => c' = c
  | d, c, .sm s r, c' => WFs d s ∧ WF d c r c'
  | d, c, .loop v b l p body r, c' => LoopC d v b l p body ∧ ∃ c1, c ≤ c1 ∧ WF (d - 1) c body c1 ∧ WF d c1 r c'
  | d, c, .whil w lim body r, c' => WhilC d lim body ∧ w = c + 1 ∧ ∃ c1, c + 1 ≤ c1 ∧ WF (d - 1) (c + 1) body c1 ∧ WF d c1 r c'

noncomputable def B.snoc : B → B → B
  | .nil, s => s
  | .sm a r, s => .sm a (r.snoc s)
  | .loop v b l p body r, s => .loop v b l p body (r.snoc s)
  | .whil w lim body r, s => .whil w lim body (r.snoc s)
theorem cnt_snoc : ∀ (b s : B), cnt (b.snoc s) = cnt b + cnt s
  | .nil, s => (Nat.zero_add _).symm
  | .sm _ r, s | .loop _ _ _ _ _ r, s | .whil _ _ _ r, s => (congrArg Nat.succ (cnt_snoc r s)).trans (Nat.succ_add _ _).symm
theorem isB_snoc {σ : St} {lo hi : Nat} {s : B} {l' : List V} (q : IsB σ lo hi s l') : ∀ {b : B} {l : List V}, IsB σ lo hi b l → IsB σ lo hi (b.snoc s) (l ++ l')
  | .nil, _, e => by rw [show _ = [] from e]; exact q
  | .sm _ _, _, ⟨_, e, r⟩ => ⟨_, by rw [e]; rfl, isB_snoc q r⟩
  | .loop _ _ _ _ _ _, _, ⟨_, i, lb, e, h, h4, r⟩ => ⟨_, i, lb, by rw [e]; rfl, h, h4, isB_snoc q r⟩
  | .whil _ _ _ _, _, ⟨_, i, lb, e, h, h4, r⟩ => ⟨_, i, lb, by rw [e]; rfl, h, h4, isB_snoc q r⟩
theorem wf_snoc {d : Nat} {s : B} {c1 c' : Int} (q : WF d c1 s c') : ∀ {b : B} ⦃c : Int⦄, WF d c b c1 → WF d c (b.snoc s) c'
  | .nil => by
    intro _ e
    rw [show _ = _ from e] at q; exact q
  | .sm _ _ => by
    intro _ z0_
    obtain ⟨e, r⟩ := z0_
    exact ⟨e, wf_snoc q r⟩
  | .loop _ _ _ _ _ _ => by
    intro _ z0_
    obtain ⟨e, c2, e7, e8, r⟩ := z0_
    exact ⟨e, c2, e7, e8, wf_snoc q r⟩
  | .whil _ _ _ _ => by
    intro _ z0_
    obtain ⟨e, e2, c2, e7, e8, r⟩ := z0_
    exact ⟨e, e2, c2, e7, e8, wf_snoc q r⟩
theorem wf_le : ∀ {d : Nat} {b : B} {c c' : Int}, WF d c b c' → c ≤ c'
  | _, .nil, _, _, e => Int.le_of_eq (show _ = _ from e).symm
  | _, .sm _ _, _, _, ⟨_, r⟩ => wf_le r
  | _, .loop _ _ _ _ _ _, _, _, ⟨_, c2, e7, _, r⟩ => Int.le_trans e7 (wf_le r)
  | _, .whil _ _ _ _, _, _, ⟨_, _, c2, e7, _, r⟩ => Int.le_trans (Int.le_trans (Int.le_add_one (Int.le_refl _)) e7) (wf_le r)
theorem isB_len {σ : St} {lo hi : Nat} : ∀ {b : B} {l : List V}, IsB σ lo hi b l → l.length = cnt b
  | .nil, _, h => by rw [show _ = [] from h]; rfl
  | .sm _ _, _, ⟨_, e, h⟩ | .loop _ _ _ _ _ _, _, ⟨_, _, _, e, _, _, h⟩ | .whil _ _ _ _, _, ⟨_, _, _, e, _, _, h⟩ => by rw [e]; exact congrArg Nat.succ (isB_len h)

theorem set_same {σ : St} {b : Nat} {o x : O} (h : σ[b]? = some o) : (σ.set b x)[b]? = some x := by
  rw [List.getElem?_eq_some_iff] at h
  exact List.getElem?_set_self h.1
theorem set_other {σ : St} {b i : Nat} {x : O} (h : i ≠ b) : (σ.set b x)[i]? = σ[i]? := List.getElem?_set_ne (Ne.symm h)
theorem get_lt {σ : St} {i : Nat} {o : O} (h : σ[i]? = some o) : i < σ.length := (List.getElem?_eq_some_iff.mp h).1
theorem get_app {σ τ : St} {i : Nat} {o : O} (h : σ[i]? = some o) : (σ ++ τ)[i]? = some o := (List.getElem?_append_left (get_lt h)).trans h
theorem get_end {σ : St} {o : O} : (σ ++ [o])[σ.length]? = some o := (List.getElem?_append_right (Nat.le_refl _)).trans (by rw [Nat.sub_self]; rfl)
structure Vw (N : Nat) (σ0 : St) (l : List (Nat × O)) (σ : St) : Prop where
  at_ : ∀ (k i : Nat) (o : O), l[k]? = some (i, o) → σ[i]? = some o
  ne : ∀ (j k i i' : Nat) (o o' : O), l[j]? = some (i, o) → l[k]? = some (i', o') → j ≠ k → i ≠ i'
  lo : ∀ (k i : Nat) (o : O), l[k]? = some (i, o) → N ≤ i
  old : ∀ i, i < N → σ[i]? = σ0[i]?
  len : N ≤ σ.length
section
variable {N : Nat} {σ0 σ τ : St} {l : List (Nat × O)}
theorem Vw.lt (h : Vw N σ0 l σ) {k i : Nat} {o : O} (e : l[k]? = some (i, o)) : i < σ.length := get_lt (h.at_ k i o e)
theorem Vw.get (h : Vw N σ0 l σ) {i : Nat} {o : O} (hi : i < N) (e : σ0[i]? = some o) : σ[i]? = some o := (h.old i hi).trans e
theorem set_some {α : Type} {l : List α} {k j : Nat} {x y : α} (h : (l.set k x)[j]? = some y) : (j = k ∧ y = x) ∨ (j ≠ k ∧ l[j]? = some y) := by
  by_cases q : j = k
  · subst q
    have hl : j < l.length := by have := (List.getElem?_eq_some_iff.mp h).1; rwa [List.length_set] at this
    rw [List.getElem?_set_self hl] at h
    exact .inl ⟨rfl, (Option.some.inj h).symm⟩
  · rw [List.getElem?_set_ne (Ne.symm q)] at h
    exact .inr ⟨q, h⟩
theorem Vw.set (h : Vw N σ0 l σ) (k : Nat) {i : Nat} {o : O} (o' : O) (e : l[k]? = some (i, o)) : Vw N σ0 (l.set k (i, o')) (σ.set i o') where
  at_ j i' x q := by
    rcases set_some q with ⟨_, q⟩ | ⟨q1, q2⟩
    · cases q; exact set_same (h.at_ _ _ _ e)
    · exact (set_other (h.ne _ _ _ _ _ _ q2 e q1)).trans (h.at_ _ _ _ q2)
  ne j j' a a' x x' q q' hj := by
    rcases set_some q with ⟨q1, q⟩ | ⟨q1, q⟩ <;> rcases set_some q' with ⟨q1', q'⟩ | ⟨q1', q'⟩
    · exact absurd (q1.trans q1'.symm) hj
    · cases q; exact h.ne _ _ _ _ _ _ e q' (Ne.symm q1')
    · cases q'; exact h.ne _ _ _ _ _ _ q e q1
    · exact h.ne _ _ _ _ _ _ q q' hj
  lo j i' x q := by
    rcases set_some q with ⟨_, q⟩ | ⟨_, q⟩
    · cases q; exact h.lo _ _ _ e
    · exact h.lo _ _ _ q
  old j hj := (set_other (Nat.ne_of_lt (Nat.lt_of_lt_of_le hj (h.lo _ _ _ e)))).trans (h.old j hj)
  len := by rw [List.length_set]; exact h.len
theorem Vw.app (h : Vw N σ0 l σ) : Vw N σ0 l (σ ++ τ) :=
  ⟨fun k i o e => get_app (h.at_ k i o e), h.ne, h.lo, fun i hi => (List.getElem?_append_left (Nat.lt_of_lt_of_le hi h.len)).trans (h.old i hi), by rw [List.length_append]; exact Nat.le_trans h.len (Nat.le_add_right _ _)⟩
theorem Vw.move (h : Vw N σ0 l σ) (k : Nat) (o : O) : Vw N σ0 (l.set k (σ.length, o)) (σ ++ [o]) where
  at_ j i' x q := by
    rcases set_some q with ⟨_, q⟩ | ⟨_, q⟩
    · cases q; exact get_end
    · exact get_app (h.at_ _ _ _ q)
  ne j j' a a' x x' q q' hj := by
    rcases set_some q with ⟨q1, q⟩ | ⟨q1, q⟩ <;> rcases set_some q' with ⟨q1', q'⟩ | ⟨q1', q'⟩
    · exact absurd (q1.trans q1'.symm) hj
    · cases q; exact Nat.ne_of_gt (h.lt q')
    · cases q'; exact Nat.ne_of_lt (h.lt q)
    · exact h.ne _ _ _ _ _ _ q q' hj
  lo j i' x q := by
    rcases set_some q with ⟨_, q⟩ | ⟨_, q⟩
    · cases q; exact h.len
    · exact h.lo _ _ _ q
  old := h.app.old
  len := h.app.len
theorem Vw.push (h : Vw N σ0 l σ) (o : O) : Vw N σ0 ((σ.length, o) :: l) (σ ++ [o]) where
  at_ k i x q := by
    cases k with
    | zero => cases q; exact get_end
    | succ k => exact get_app (h.at_ k i x q)
  ne j k a a' x x' q q' hj := by
    cases j <;> cases k
    · exact absurd rfl hj
    · cases q; exact Nat.ne_of_gt (h.lt (show l[_]? = _ from q'))
    · cases q'; exact Nat.ne_of_lt (h.lt (show l[_]? = _ from q))
    · exact h.ne _ _ _ _ _ _ (show l[_]? = _ from q) (show l[_]? = _ from q') fun e => hj (congrArg Nat.succ e)
  lo k i x q := by
    cases k with
    | zero => cases q; exact h.len
    | succ k => exact h.lo k i x q
  old := h.app.old
  len := h.app.len
theorem Vw.nil : Vw σ.length σ [] σ := ⟨fun k i o e => (by cases e), fun j k i i' o o' e => (by cases e), fun k i o e => (by cases e), fun _ _ => rfl, Nat.le_refl _⟩
theorem Vw.sub (h : Vw N σ0 l σ) {p : Nat × O} {l' : List (Nat × O)} (e : l = p :: l') : Vw N σ0 l' σ := by
  subst e
  exact ⟨fun k => h.at_ (k + 1), fun j k i i' o o' q q' hj => h.ne (j + 1) (k + 1) i i' o o' q q' fun e => hj (Nat.succ.inj e), fun k => h.lo (k + 1), h.old, h.len⟩
end

section
variable {σ : St} {i j : Nat} {l : List V} {v : V}
theorem it_l {k : Nat} (h : σ[i]? = some (.list l)) (e : l[k]? = some v) (hk : k < 1000000000 := by decide) : ItI σ i k v := .inl ⟨l, h, ⟨Int.natCast_nonneg k, show (k : Int) < ((1000000000 : Nat) : Int) from Int.ofNat_lt.mpr hk⟩, e⟩
theorem ls_l (h : σ[i]? = some (.list l)) (e : l.length ≤ 1000000) : Lst σ i l := ⟨h, e⟩
theorem isl (h : σ[i]? = some (.list l)) : IsLs σ i := ⟨l, h⟩
theorem nth_l {k : Nat} {o : Option V} (h : σ[i]? = some (.list l)) (e : l[k]? = o) : NthL σ i k o := ⟨l, h, e⟩
theorem attr_of {C : Nat} {x : String} {a : List (String × V)} (h : σ[i]? = some (.inst C j)) (g : σ[j]? = some (.attrs a)) (e : getK x a = some v) : Attr σ i C x v := ⟨j, a, h, g, e⟩
theorem noattr_of {C : Nat} {x : String} {a : List (String × V)} (h : σ[i]? = some (.inst C j)) (g : σ[j]? = some (.attrs a)) (e : getK x a = none) : NoAttr σ i C x := ⟨j, a, h, g, e⟩
end

theorem runs_of {F : FF} {vs : List V} {σ σ' : St} {v : V} (as : List Ans) (h : ∀ P os, P v σ' os → F vs σ P (as ++ os)) : Runs F vs σ v σ' := fun P q => let ⟨os, p⟩ := q; ⟨as ++ os, h P os p⟩
noncomputable def SRuns (b : SF) (m : Ms) (σ : St) (x : Fl) (m' : Ms) (σ' : St) : Prop := ∀ P, Ho (P x m' σ') → Ho (b m σ P)
theorem sruns_of {b : SF} {m m' : Ms} {σ σ' : St} {x : Fl} (as : List Ans) (h : ∀ P os, P x m' σ' os → b m σ P (as ++ os)) : SRuns b m σ x m' σ' := fun P q => let ⟨os, p⟩ := q; ⟨as ++ os, h P os p⟩
theorem seq_r {a b : SF} {m m1 m2 : Ms} {σ σ1 σ2 : St} {x : Fl} (h : SRuns a m σ .next m1 σ1) (k : SRuns b m1 σ1 x m2 σ2) : SRuns (sSeq a b) m σ x m2 σ2 := fun P hp => h (fun x m σ => match x with
  | .next => b m σ P
  | .ret v => P (.ret v) m σ) (k P hp)
noncomputable def ItIs (it : Its) (j : Nat) (σ : St) (o : Option V) : Prop := ∀ k, Ho (k o) → Ho (it j σ k)
theorem itis_of {it : Its} {j : Nat} {σ : St} {o : Option V} (as : List Ans) (h : ∀ k os, k o os → it j σ k (as ++ os)) : ItIs it j σ o := fun k q => let ⟨os, p⟩ := q; ⟨as ++ os, h k os p⟩
section
variable {i j : Nat} {σ : St} {v : V} {x s : Int} {N : Nat}
theorem it_at (h : NthL σ i j (some v)) : ItIs (itList i) j σ (some v) := itis_of [.v v] fun k os q => ⟨h, q⟩
theorem it_end (h : NthL σ i j none) : ItIs (itList i) j σ none := itis_of [.d] fun k os q => ⟨h, q⟩
theorem en_at (h : NthL σ i j (some v)) : ItIs (itEnum i) j σ (some (.tup [.int j, v])) := itis_of [.v v] fun k os q => ⟨h, q⟩
theorem en_end (h : NthL σ i j none) : ItIs (itEnum i) j σ none := itis_of [.d] fun k os q => ⟨h, q⟩
theorem rg_at (h : j < N) : ItIs (itRange x s N) j σ (some (.int (x + j * s))) := itis_of [.b true] fun k os q => ⟨Nat.ble_eq_true_of_le h, q⟩
theorem rg_end (h : N ≤ j) : ItIs (itRange x s N) j σ none := itis_of [.b false] fun k os q => ⟨Bool.eq_false_iff.mpr fun e => absurd (Nat.le_of_ble_eq_true e) (Nat.not_le.mpr (Nat.lt_succ_of_le h)), q⟩
end
inductive Step (it : Its) (g : GF) (b : SF) (j : Nat) (m : Ms) (σ : St) (x : Fl) (m' : Ms) (σ' : St) : Prop where
  | mk (v : V) (m1 : Ms) (i : ItIs it j σ (some v)) (g : ∀ K, Ho (K m1 σ) → Ho (g v m σ K)) (b : SRuns b m1 σ x m' σ')
theorem step_n {it : Its} {k : Nat} {b : SF} {j : Nat} {m : Ms} {σ : St} {x : Fl} {m' : Ms} {σ' : St} {v : V} (i : ItIs it j σ (some v)) (h : SRuns b (m.set k (some v)) σ x m' σ') : Step it (gName k) b j m σ x m' σ' := ⟨v, _, i, fun _ h => h, h⟩
section
variable {it : Its} {g : GF} {b : SF} {j : Nat} {m m' m2 : Ms} {σ σ' σ2 : St} {x : Fl}
noncomputable def onO (g : GF) (b : SF) (m : Ms) (σ : St) (P : Fl → Ms → St → Kt) (q : Ms → St → Kt) (o : Option V) : Kt := match o with
  | none => P .next m σ
  | some v => g v m σ fun m σ => b m σ fun x m σ => match x with
    | .next => q m σ
    | .ret r => P (.ret r) m σ
theorem lp_end (hi : ItIs it j σ none) : Lp it g b j m σ .next m σ := fun P h => ⟨1, hi (onO g b m σ P fun m σ => loopG it g b 0 (j + 1) m σ P) h⟩
theorem lp_step (s : Step it g b j m σ .next m2 σ2) (h : Lp it g b (j + 1) m2 σ2 x m' σ') : Lp it g b j m σ x m' σ' := fun P hp => let ⟨v, m1, i, hg, hb⟩ := s; let ⟨n, q⟩ := h P hp; ⟨n + 1, i (onO g b m σ P fun m σ => loopG it g b n (j + 1) m σ P) (hg _ (hb _ q))⟩
theorem lp_ret {r : V} (s : Step it g b j m σ (.ret r) m2 σ2) : Lp it g b j m σ (.ret r) m2 σ2 := fun P hp => let ⟨v, m1, i, hg, hb⟩ := s; ⟨1, i (onO g b m σ P fun m σ => loopG it g b 0 (j + 1) m σ P) (hg _ (hb _ hp))⟩
structure Sl where
  a : Option V := none
  b : Option V := none
  c : Option V := none
  d : Option V := none
  e : Option V := none
  f : Option V := none
  g : Option V := none
theorem lp_inv (fr : Sl → Ms) (N : Nat) (R : Nat → Sl → St → Prop) (hend : ∀ x σ, R N x σ → ItIs it N σ none) (hstep : ∀ (G : Prop) j x σ, j < N → R j x σ → (∀ x' σ', Step it g b j (fr x) σ .next (fr x') σ' → R (j + 1) x' σ' → G) → G) :
    ∀ k j x σ (G : Prop), j + k = N → R j x σ → (∀ x' σ', R N x' σ' → Lp it g b j (fr x) σ .next (fr x') σ' → G) → G
  | 0, j, x, σ, G, hj, r, kk => by
    have : j = N := hj
    subst this
    exact kk x σ r (lp_end (hend x σ r))
  | k + 1, j, x, σ, G, hj, r, kk => hstep G j x σ (hj ▸ Nat.lt_add_of_pos_right (Nat.succ_pos k)) r fun x1 σ1 s r1 =>
    lp_inv fr N R hend hstep k (j + 1) x1 σ1 G ((Nat.succ_add_eq_add_succ j k).trans hj) r1 fun x' σ' r' l => kk x' σ' r' (lp_step s l)
end

structure Bx (bx ct : Nat) (σ0 : St) (c : Int) (σ : St) : Prop where
  box : ∃ n k : Int, σ[bx]? = some (.list [.int n, .int k]) ∧ 0 ≤ n ∧ 0 ≤ k
  cv : σ[ct]? = some (.list [.int c])
  keep : ∀ i, i < σ0.length → i ≠ bx → i ≠ ct → σ[i]? = σ0[i]?
  len : σ0.length ≤ σ.length
section
variable {G : Prop} {bx ct : Nat} {σ0 σ σ1 τ : St} {c c1 c2 : Int}
theorem Bx.trans (x : Bx bx ct σ0 c1 σ1) (y : Bx bx ct σ1 c2 σ) : Bx bx ct σ0 c2 σ := ⟨y.box, y.cv, fun i h1 h2 h3 => (y.keep i (Nat.lt_of_lt_of_le h1 x.len) h2 h3).trans (x.keep i h1 h2 h3), Nat.le_trans x.len y.len⟩
theorem Bx.refl (h : Bx bx ct σ0 c σ) : Bx bx ct σ c σ := ⟨h.box, h.cv, fun _ _ _ _ => rfl, Nat.le_refl _⟩
theorem Bx.app (h : Bx bx ct σ0 c σ) : Bx bx ct σ0 c (σ ++ τ) := ⟨let ⟨n, k, e, r⟩ := h.box; ⟨n, k, get_app e, r⟩, get_app h.cv, fun i h1 h2 h3 => (List.getElem?_append_left (Nat.lt_of_lt_of_le h1 h.len)).trans (h.keep i h1 h2 h3), by rw [List.length_append]; exact Nat.le_trans h.len (Nat.le_add_right _ _)⟩
theorem Bx.get (h : Bx bx ct σ0 c σ) {i : Nat} {o : O} (e : σ0[i]? = some o) (h1 : i ≠ bx) (h2 : i ≠ ct) : σ[i]? = some o := (h.keep i (get_lt e) h1 h2).trans e
theorem Bx.lb (h : Bx bx ct σ0 c σ) : bx < σ.length := let ⟨_, _, e, _⟩ := h.box; get_lt e
theorem lst1 {i : Nat} {a : V} (h : σ[i]? = some (.list [a])) : Lst σ i [a] := ⟨h, (by decide : 1 ≤ 1000000)⟩
theorem lst2 {i : Nat} {a b : V} (h : σ[i]? = some (.list [a, b])) : Lst σ i [a, b] := ⟨h, (by decide : 2 ≤ 1000000)⟩
theorem in0 {n : Nat} : (0 : Int) ≤ 0 ∧ (0 : Int) < (n + 1 : Nat) := ⟨by decide, Int.ofNat_lt.mpr (Nat.succ_pos n)⟩
theorem in1 {n : Nat} : (0 : Int) ≤ 1 ∧ (1 : Int) < (n + 2 : Nat) := ⟨by decide, Int.ofNat_lt.mpr (Nat.succ_lt_succ (Nat.succ_pos n))⟩
theorem take_ {many : Int} (hne : bx ≠ ct) (h : Bx bx ct σ c σ) (hm : 0 < many) (hm' : many < 1000000) (kk : ∀ d σ', Runs F_take [.ref bx, .int many] σ (.int d) σ' → 0 ≤ d → d < many → Bx bx ct σ c σ' → σ'.length = σ.length → G) : G := by
  obtain ⟨n, k, e, hn, hk⟩ := h.box
  have s1 := set_same (x := .list [.int n, .int (k + 1)]) e
  have out : ∀ {a b : Int}, 0 ≤ a → 0 ≤ b → Bx bx ct σ c (σ.set bx (.list [.int a, .int b])) := fun {a b} ha hb => ⟨⟨a, b, set_same e, ha, hb⟩, (set_other (Ne.symm hne)).trans h.cv, fun i _ h2 _ => set_other h2, by rw [List.length_set]; exact Nat.le_refl _⟩
  by_cases q : 0 < n
  · have s2 := set_same (x := .list [.int (n / many), .int (k + 1)]) s1
    have e2 : ((σ.set bx (.list [.int n, .int (k + 1)])).set bx (.list [.int (n / many), .int (k + 1)])) = σ.set bx (.list [.int (n / many), .int (k + 1)]) := List.set_set ..
    refine kk (n % many) (σ.set bx (.list [.int (n / many), .int (k + 1)])) (runs_of [.v (.int k), .l [.int n, .int k], .v (.int n), .b true, .v (.int n), .v (.int n), .l [.int n, .int (k + 1)]] fun P os hp => ?_) (Int.emod_nonneg _ (Int.ne_of_gt hm)) (Int.emod_lt_of_pos _ hm) (out (Int.ediv_nonneg hn (Int.le_of_lt hm)) (Int.add_nonneg hk (by decide))) List.length_set
    rw [← e2] at hp
    exact (And.intro (it_l (k := 1) e rfl) <| And.intro (lst2 e) <| And.intro (in1 (n := 0)) <| And.intro (it_l (k := 0) s1 rfl) <| And.intro (decide_eq_true q) <| And.intro (it_l (k := 0) s1 rfl) <| And.intro hm <| And.intro (it_l (k := 0) s1 rfl) <| And.intro (And.intro hm hm') <| And.intro (lst2 s1) <| And.intro (in0 (n := 1)) hp :)
  · exact kk (((k + 1) * 7 + (k + 1) / 5) % many) (σ.set bx (.list [.int n, .int (k + 1)])) (runs_of [.v (.int k), .l [.int n, .int k], .v (.int n), .b false, .v (.int (k + 1)), .v (.int (k + 1))] fun P os hp =>
      (And.intro (it_l (k := 1) e rfl) <| And.intro (lst2 e) <| And.intro (in1 (n := 0)) <| And.intro (it_l (k := 0) s1 rfl) <| And.intro (decide_eq_false q) <| And.intro (it_l (k := 1) s1 rfl) <| And.intro (⟨by decide, by decide⟩ : (-1000000 : Int) < 7 ∧ (7:Int) < 1000000) <| And.intro (it_l (k := 1) s1 rfl) <| And.intro (⟨by decide, by decide⟩ : (0:Int) < 5 ∧ (5:Int) < 1000000) <| And.intro hm hp :))
      (Int.emod_nonneg _ (Int.ne_of_gt hm)) (Int.emod_lt_of_pos _ hm) (out hn (Int.add_nonneg hk (by decide))) List.length_set
end

theorem ts_len : ∀ n : Nat, n < 60 → (toString (n : Int)).length ≤ 900 := by decide
theorem ts_len' (c : Int) (h0 : 0 ≤ c) (h : c < 60) : 1 + (toString c).length ≤ 1000 := by
  obtain ⟨n, rfl⟩ := Int.eq_ofNat_of_zero_le h0
  have := ts_len n (by lia)
  lia
noncomputable def wk : Nat → Int
  | 0 => 0
  | d + 1 => 1 + 2 * wk d
theorem wk_nn : ∀ d, 0 ≤ wk d
  | 0 => by decide
  | d + 1 => by have := wk_nn d; unfold wk; lia
theorem wk_body {b : B} {d : Nat} {c1 : Int} {n : Nat} (hd : 1 ≤ d) (hc : cnt b ≤ 2) (h : c1 ≤ cnt b * wk (d - 1) + n) : c1 + 1 ≤ wk d + n := by
  obtain ⟨d, rfl⟩ : ∃ e, d = e + 1 := ⟨d - 1, by lia⟩
  rw [Nat.add_sub_cancel] at h
  have h4 : (cnt b : Int) * wk d ≤ 2 * wk d := Int.mul_le_mul_of_nonneg_right (by lia) (wk_nn d)
  have : wk (d + 1) = 1 + 2 * wk d := rfl
  lia
theorem cnt_mul (n : Nat) (d : Nat) : ((n + 1 : Nat) : Int) * wk d = n * wk d + wk d := by rw [Int.natCast_add, Int.add_mul]; lia
theorem wf_bound : ∀ {b : B} ⦃d : Nat⦄ ⦃c c' : Int⦄, WF d c b c' → c' - c ≤ cnt b * wk d
  | .nil => by
    intro _ _ _ e
    rw [show _ = _ from e]; simp [cnt]
  | .sm _ r => by
    intro d _ _ z0_
    obtain ⟨_, h⟩ := z0_
    have := wf_bound h; have := wk_nn d; rw [cnt, cnt_mul]; lia
  | .loop _ _ _ _ body r => by
    intro d c _ z0_
    obtain ⟨hd, c1, _, hb, h⟩ := z0_
    have h1 := wf_bound h
    have h2 := wk_body (c1 := c1 - c) (n := 0) hd.hd.1 hd.hc (by have := wf_bound hb; lia)
    rw [cnt, cnt_mul]; lia
  | .whil _ _ body r => by
    intro d c _ z0_
    obtain ⟨hd, _, c1, _, hb, h⟩ := z0_
    have h1 := wf_bound h
    have h2 := wk_body (c1 := c1 - c) (n := 1) hd.hd.1 hd.hc (by have := wf_bound hb; lia)
    rw [cnt, cnt_mul]; lia

structure BTurn (σ σ2 : St) (bx ct deep : Nat) (c c1 : Int) (j : Nat) (l : List V) (b : B) : Prop where
  ls : σ2[σ.length]? = some (.list l)
  isB : IsB σ2 (σ.length + 1) σ2.length b l
  wf : WF deep c b c1
  cn : cnt b = j
  bx : Bx bx ct σ c1 σ2
inductive BInv (σ : St) (bx ct deep : Nat) (c : Int) (j : Nat) (σ' : St) : Prop where
  | mk (l : List V) (b : B) (c1 : Int) (h : BTurn σ σ' bx ct deep c c1 j l b)
noncomputable abbrev blkM (bx ct deep n : Nat) (x : Sl) : Ms := [some (.ref bx), some (.int deep), some (.ref ct), some (.ref n), x.a, x.b, x.c, x.d, x.e]

section
variable {G : Prop} {σ σ2 τ : St} {bx ct deep j : Nat} {c c1 c2 : Int} {l : List V} {b s : B} {e : V} {x : Sl}
theorem BTurn.lst (T : BTurn σ σ2 bx ct deep c c1 j l b) (hb : bx < σ.length ∧ ct < σ.length) (h : Bx bx ct σ2 c2 τ) : τ[σ.length]? = some (.list l) := h.get T.ls (Nat.ne_of_gt hb.1) (Nat.ne_of_gt hb.2)
theorem BTurn.end_ (T : BTurn σ σ2 bx ct deep c c1 j l b) (hb : bx < σ.length ∧ ct < σ.length) (h : Bx bx ct σ2 c2 τ) (g1 : IsB τ (σ.length + 1) τ.length s [e]) (g2 : WF deep c1 s c2) (g3 : cnt s = 1) :
    BInv σ bx ct deep c (j + 1) (τ.set σ.length (.list (l ++ [e]))) := by
  have hk : ∀ i, i ≠ σ.length → (τ.set σ.length (.list (l ++ [e])))[i]? = τ[i]? := fun i hi => set_other hi
  have hl : (τ.set σ.length (.list (l ++ [e]))).length = τ.length := List.length_set
  have k2 : ∀ i, σ.length + 1 ≤ i → i < τ.length → (τ.set σ.length (.list (l ++ [e])))[i]? = τ[i]? := fun i h1 _ => hk i (Nat.ne_of_gt h1)
  refine ⟨_, b.snoc s, c2, set_same (T.lst hb h), ?_, wf_snoc g2 T.wf, by rw [cnt_snoc, T.cn, g3], ?_⟩
  · rw [hl]
    exact isB_snoc (g1.mono (Nat.le_refl _) (Nat.le_refl _) k2) (T.isB.mono (Nat.le_refl _) h.len fun i h1 h2 => (k2 i h1 (Nat.lt_of_lt_of_le h2 h.len)).trans (h.keep i h2 (Nat.ne_of_gt (Nat.lt_trans hb.1 h1)) (Nat.ne_of_gt (Nat.lt_trans hb.2 h1))))
  · obtain ⟨⟨n, k, q, r⟩, q2, q3, q4⟩ := T.bx.trans h
    exact ⟨⟨n, k, (hk bx (Nat.ne_of_lt hb.1)).trans q, r⟩, (hk ct (Nat.ne_of_lt hb.2)).trans q2, fun i h1 h2 h3 => (hk i (Nat.ne_of_lt h1)).trans (q3 i h1 h2 h3), by rw [hl]; exact q4⟩

noncomputable def BlkOk (H : FF) (bx ct deep : Nat) : Prop := ∀ (σ : St) (c : Int) (G : Prop), Bx bx ct σ c σ → 0 ≤ c → c + 10 * deep ≤ 40 →
  (∀ i l b c' σ', Runs H [.ref bx, .int deep, .ref ct] σ (.ref i) σ' → Bx bx ct σ c' σ' → Sub σ' σ.length σ'.length i l → IsB σ' σ.length σ'.length b l → WF deep c b c' → cnt b ≤ 2 → G) → G

theorem form_ (hne : bx ≠ ct) (h : Bx bx ct σ2 c1 σ2) {n : Nat} (kk : ∀ fm σ3, SRuns (sAsg (gName 5) (eIf (tCmp cGt (eLoc 1) (eC (.int 0))) (eCall F_take (lCons (eLoc 0) (lCons (eC (.int 8)) lNil))) (eCall F_take (lCons (eLoc 0) (lCons (eC (.int 4)) lNil))))) (blkM bx ct deep n x) σ2 .next (blkM bx ct deep n { x with b := some (.int fm) }) σ3 →
    0 ≤ fm → fm < 8 → (deep = 0 → fm < 4) → Bx bx ct σ2 c1 σ3 → G) : G := by
  by_cases q : deep = 0
  · subst q
    exact take_ (many := 4) hne h (by decide) (by decide) fun d σ3 h1 h2 h2' h3 _ => kk d σ3 (sruns_of [.b false, .c (.int d) σ3] fun P os hp => (And.intro (decide_eq_false (by decide : ¬ (0 : Int) < (0 : Nat))) <| And.intro h1 hp :)) h2 (Int.lt_trans h2' (by decide)) (fun _ => h2') h3
  · exact take_ (many := 8) hne h (by decide) (by decide) fun d σ3 h1 h2 h2' h3 _ => kk d σ3 (sruns_of [.b true, .c (.int d) σ3] fun P os hp => (And.intro (decide_eq_true (Int.ofNat_lt.mpr (Nat.pos_of_ne_zero q))) <| And.intro h1 hp :)) h2 h2' (fun e => absurd e q) h3

theorem pace_ {a : Int} (h0 : 0 ≤ a) (h : a < 4) (kk : ∀ p : Int, [V.int 1, .int 2, .int (-1), .int (-2)][a.toNat]? = some (.int p) → (p = 1 ∨ p = 2 ∨ p = -1 ∨ p = -2) → G) : G := by
  rcases (by lia : a = 0 ∨ a = 1 ∨ a = 2 ∨ a = 3) with e | e | e | e <;> subst e
  · exact kk _ rfl (.inl rfl)
  · exact kk _ rfl (.inr (.inl rfl))
  · exact kk _ rfl (.inr (.inr (.inl rfl)))
  · exact kk _ rfl (.inr (.inr (.inr rfl)))
theorem chr_ (h1 : 1 ≤ deep) (h2 : deep ≤ 2) : ItC "IJK" deep (.str (vn deep)) := by
  rcases (by lia : deep = 1 ∨ deep = 2) with e | e <;> subst e
  · exact ⟨'J', by decide, rfl, rfl⟩
  · exact ⟨'K', by decide, rfl, rfl⟩

set_option maxHeartbeats 1000000 in
theorem turn_ok {H : FF} (hne : bx ≠ ct) (T : BTurn σ σ2 bx ct deep c c1 j l b) (hj : j < 2) (hb : bx < σ.length ∧ ct < σ.length) (hH : 1 ≤ deep → BlkOk H bx ct (deep - 1)) (hd2 : deep ≤ 2) (hc0 : 0 ≤ c) (hc1 : c + 10 * deep ≤ 40)
    (kk : ∀ x' σ', SRuns (L0_block H) (blkM bx ct deep σ.length x) σ2 .next (blkM bx ct deep σ.length x') σ' → BInv σ bx ct deep c (j + 1) σ' → G) : G := by
  refine form_ (deep := deep) (n := σ.length) (x := x) hne T.bx.refl fun fm σ3 r3 f0 f8 f4 b3 => ?_
  have kk := fun x' σ' h => kk x' σ' (seq_r r3 h)
  have tk : ∀ {σ3 : St} {c : Int} (many : Int), 0 < many → many < 1000000 → Bx bx ct σ2 c σ3 → (∀ d σ', Runs F_take [.ref bx, .int many] σ3 (.int d) σ' → 0 ≤ d → d < many → Bx bx ct σ2 c σ' → G) → G := fun many h1 h2 h kk =>
    take_ hne h.refl h1 h2 fun d σ' q1 q2 q2' q3 _ => kk d σ' q1 q2 q2' (h.trans q3)
  have isl3 : IsLs σ3 σ.length := isl (T.lst hb b3)
  have ls : ∀ {τ : St} {c2 : Int}, Bx bx ct σ2 c2 τ → Lst τ σ.length l := fun h => ⟨T.lst hb h, by rw [isB_len T.isB, T.cn]; exact Nat.le_trans (Nat.le_of_lt hj) (by decide)⟩
  by_cases q0 : fm = 0
  · exact tk 9 (by decide) (by decide) b3 fun a σ4 r4 ha ha' b4 => kk _ _ (sruns_of [.b true, .c (.int a) σ4, .l l] fun P os hp => (And.intro (decide_eq_true q0) <| And.intro isl3 <| And.intro r4 <| And.intro (ls b4) hp :)) (T.end_ hb (s := .sm (.note a) .nil) b4 ⟨[], rfl, rfl⟩ ⟨⟨ha, ha'⟩, rfl⟩ rfl)
  have n0 := decide_eq_false q0
  by_cases q1 : fm < 3
  · exact tk 7 (by decide) (by decide) b3 fun a σ4 r4 ha ha' b4 => kk _ _ (sruns_of [.b false, .b true, .c (.int a) σ4, .l l] fun P os hp => (And.intro n0 <| And.intro (decide_eq_true q1) <| And.intro isl3 <| And.intro r4 <| And.intro (ls b4) hp :)) (T.end_ hb (s := .sm (.add (a - 3)) .nil) b4 ⟨[], rfl, rfl⟩ ⟨⟨Int.le_sub_right_of_add_le ha, by lia⟩, rfl⟩ rfl)
  have n1 := decide_eq_false q1
  by_cases q2 : fm = 3
  · exact tk 9 (by decide) (by decide) b3 fun a σ4 r4 ha1 ha2 b4 => tk 9 (by decide) (by decide) b4 fun a' σ5 r5 hb1 hb2 b5 => tk 2 (by decide) (by decide) b5 fun a'' σ6 r6 hc1 hc2 b6 =>
      kk _ _ (sruns_of [.b false, .b false, .b true, .c (.int a) σ4, .c (.int a') σ5, .c (.int a'') σ6, .l l] fun P os hp => (And.intro n0 <| And.intro n1 <| And.intro (decide_eq_true q2) <| And.intro isl3 <| And.intro r4 <| And.intro r5 <| And.intro r6 <| And.intro (ls b6) hp :)) (T.end_ hb (s := .sm (.choice (a - 2) a' a'') .nil) b6 ⟨[], rfl, rfl⟩ ⟨⟨⟨Int.le_sub_right_of_add_le ha1, by lia⟩, ⟨hb1, hb2⟩, hc1, hc2⟩, rfl⟩ rfl)
  have n2 := decide_eq_false q2
  have hdp : 1 ≤ deep := Nat.pos_of_ne_zero fun e => by have := f4 e; lia
  have hcc : 0 ≤ c1 := Int.le_trans hc0 (wf_le T.wf)
  have hc4 : c1 + 10 * ((deep - 1 : Nat) : Int) + 1 ≤ 40 := by
    have e1 := wf_bound T.wf
    rw [T.cn] at e1
    have e3 : (j : Int) * wk deep ≤ 1 * wk deep := Int.mul_le_mul_of_nonneg_right (by lia) (wk_nn deep)
    have e4 : wk deep ≤ 3 := by
      rcases (by lia : deep = 1 ∨ deep = 2) with e | e <;> subst e <;> decide
    lia
  have hpd : (deep : Int) - 1 = ((deep - 1 : Nat) : Int) := (Int.ofNat_sub hdp).symm
  have low : ∀ {τ : St} {c2 : Int}, Bx bx ct σ2 c2 τ → σ.length + 1 ≤ τ.length := fun h => Nat.le_trans (get_lt T.ls) h.len
  by_cases q3 : fm < 6
  · refine tk 3 (by decide) (by decide) b3 fun a σ4 r4 ha1 ha2 b4 => tk 3 (by decide) (by decide) b4 fun a' σ5 r5 hb1 hb2 b5 => take_ (many := 4) hne (b5.app (τ := [O.list [.int 1, .int 2, .int (-1), .int (-2)]])).refl (by decide) (by decide) fun a'' σ6 r6 hc1 hc2 b56 _ => pace_ hc1 hc2 fun p hp hpp => ?_
    have b6 := b5.app.trans b56
    refine hH hdp σ6 c1 G b6.refl hcc (Int.le_trans (Int.le_add_one (Int.le_refl _)) hc4) fun i lb bb c2 σ7 r7 b7 s7 i7 w7 c7 => ?_
    rw [← hpd] at r7
    have b27 := b6.trans b7
    exact kk { a := x.a, b := some (.int fm), c := some (.int a), d := some (.int a'), e := some (.int p) } _ (sruns_of [.b false, .b false, .b false, .b true, .c (.int a) σ4, .c (.int a') σ5, .c (.int a'') σ6, .v (.int p), .v (.str (vn deep)), .c (.ref i) σ7, .l l] fun P os hpq =>
      (And.intro n0 <| And.intro n1 <| And.intro n2 <| And.intro (decide_eq_true q3) <| And.intro r4 <| And.intro r5 <| And.intro r6 <| And.intro (.inl ⟨_, b56.get get_end (Nat.ne_of_gt b5.lb) (Nat.ne_of_gt (get_lt b5.cv)), ⟨hc1, Int.lt_trans hc2 (by decide)⟩, hp⟩ : ItI σ6 σ5.length a'' (.int p)) <| And.intro (isl (T.lst hb b6)) <| And.intro (chr_ hdp hd2) <| And.intro r7 <| And.intro (ls b27) hpq :))
      (T.end_ hb (s := .loop (vn deep) a a' p bb .nil) b27 ⟨[], i, lb, rfl, ⟨Nat.le_trans (low b6) s7.1, s7.2.1, s7.2.2⟩, i7.mono (low b6) (Nat.le_refl _) fun _ _ _ => rfl, rfl⟩ ⟨⟨⟨hdp, hd2⟩, .inl rfl, ⟨ha1, ha2⟩, ⟨hb1, hb2⟩, hpp, c7⟩, c2, wf_le w7, w7, rfl⟩ rfl)
  have n3 := decide_eq_false q3
  by_cases q4 : fm = 6
  · have s4 := set_same (x := .list [.int (c1 + 1)]) b3.cv
    have b4 : Bx bx ct σ2 (c1 + 1) (σ3.set ct (.list [.int (c1 + 1)])) := ⟨let ⟨n, k, e, r⟩ := b3.box; ⟨n, k, (set_other hne).trans e, r⟩, s4, fun i h1 h2 h3 => (set_other h3).trans (b3.keep i h1 h2 h3), by rw [List.length_set]; exact b3.len⟩
    have hc5 : 0 ≤ c1 + 1 := Int.add_nonneg hcc (by decide)
    have hc6 : c1 + 1 < 60 := by lia
    refine tk 3 (by decide) (by decide) b4 fun a σ5 r5 ha1 ha2 b5 => hH hdp σ5 (c1 + 1) G b5.refl hc5 (by lia) fun i lb bb c2 σ7 r7 b7 s7 i7 w7 c7 => ?_
    rw [← hpd] at r7
    have b57 := b5.trans b7
    exact kk _ _ (sruns_of [.b false, .b false, .b false, .b false, .b true, .v (.int c1), .l [.int c1], .v (.int (c1 + 1)), .c (.int a) σ5, .c (.ref i) σ7, .l l] fun P os hp =>
      (And.intro n0 <| And.intro n1 <| And.intro n2 <| And.intro n3 <| And.intro (decide_eq_true q4) <| And.intro (it_l (k := 0) b3.cv rfl) <| And.intro (lst1 b3.cv) <| And.intro (in0 (n := 0)) <| And.intro (isl (T.lst hb b4)) <| And.intro (it_l (k := 0) s4 rfl) <| And.intro (⟨Int.lt_of_lt_of_le (by decide) hc5, Int.lt_trans hc6 (by decide)⟩ : -1000000 < c1 + 1 ∧ c1 + 1 < 1000000) <| And.intro (ts_len' (c1 + 1) hc5 hc6) <| And.intro r5 <| And.intro r7 <| And.intro (ls b57) hp :))
      (T.end_ hb (s := .whil (c1 + 1) a bb .nil) b57 ⟨[], i, lb, rfl, ⟨Nat.le_trans (low b5) s7.1, s7.2.1, s7.2.2⟩, i7.mono (low b5) (Nat.le_refl _) fun _ _ _ => rfl, rfl⟩ ⟨⟨⟨hdp, hd2⟩, ⟨ha1, ha2⟩, c7⟩, rfl, c2, wf_le w7, w7, rfl⟩ rfl)
  · exact tk 4 (by decide) (by decide) b3 fun a σ4 r4 ha1 ha2 b4 => tk 2 (by decide) (by decide) b4 fun a' σ5 r5 hb1 hb2 b5 =>
      kk _ _ (sruns_of [.b false, .b false, .b false, .b false, .b false, .c (.int a) σ4, .c (.int a') σ5, .l l] fun P os hp => (And.intro n0 <| And.intro n1 <| And.intro n2 <| And.intro n3 <| And.intro (decide_eq_false q4) <| And.intro isl3 <| And.intro r4 <| And.intro r5 <| And.intro (ls b5) hp :)) (T.end_ hb (s := .sm (.call a a') .nil) b5 ⟨[], rfl, rfl⟩ ⟨⟨⟨hdp, hd2⟩, ⟨ha1, ha2⟩, hb1, hb2⟩, rfl⟩ rfl)

theorem block_ok : ∀ (n deep : Nat), deep < n → deep ≤ 2 → bx ≠ ct → BlkOk (F_block n) bx ct deep
  | 0, _, h, _, _ => absurd h (Nat.not_lt_zero _)
  | n + 1, deep, hd, hd2, hne => fun σ c G B0 hc0 hc1 kk => take_ (many := 2) hne (B0.app (τ := [O.list []])).refl (by decide) (by decide) fun d σ1 r1 hd0 hd1 b1 l1 => by
    have hN : (1 + d).toNat ≤ 2 := by lia
    refine lp_inv (it := itRange 0 1 (1 + d).toNat) (g := gName 4) (b := L0_block (F_block n)) (blkM bx ct deep σ.length) (1 + d).toNat (fun j x σ' => BInv σ bx ct deep c j σ') (fun _ _ _ => rg_end (Nat.le_refl _))
      (fun G j x σ2 hj r kk => ?_) (1 + d).toNat 0 {} σ1 G (Nat.zero_add _) ⟨[], .nil, c, b1.get get_end (Nat.ne_of_gt B0.lb) (Nat.ne_of_gt (get_lt B0.cv)), rfl, rfl, rfl, B0.app.trans b1⟩ fun x' σ' r hlp => ?_
    · obtain ⟨l, b, c', T⟩ := r
      exact turn_ok (H := F_block n) (x := { x with a := some (.int (0 + j * 1)) }) hne T (Nat.lt_of_lt_of_le hj hN) ⟨B0.lb, get_lt B0.cv⟩ (fun h => block_ok n (deep - 1) (by lia) (Nat.le_trans (Nat.sub_le ..) hd2) hne) hd2 hc0 hc1 fun x' σ' q1 q2 => kk x' σ' (step_n (rg_at hj) q1) q2
    · obtain ⟨l, b, c', T⟩ := r
      exact kk σ.length l b c' σ' (runs_of [.c (.int d) σ1, .f .next _ σ'] fun P os hp => (And.intro r1 <| And.intro (⟨by lia, by lia⟩ : Sml (1 + d)) <| And.intro hlp hp :)) T.bx ⟨Nat.le_refl _, get_lt T.ls, T.ls⟩ (T.isB.mono (Nat.le_succ _) (Nat.le_refl _) fun _ _ _ => rfl) T.wf (by rw [T.cn]; exact hN)
end

structure En where
  vs : List (String × Int)
  ns : List (String × Int)
noncomputable def getI (k : String) : List (String × Int) → Option Int
  | [] => none
  | (j, v) :: r => if j = k then some v else getI k r
noncomputable def setI (k : String) (y : Int) : List (String × Int) → List (String × Int)
  | [] => [(k, y)]
  | (j, v) :: r => if j = k then (j, y) :: r else (j, v) :: setI k y r
noncomputable def encP (p : String × Int) : String × V := (p.1, .int p.2)
noncomputable def encT (p : String × Int) : V := .tup [.str p.1, .int p.2]
noncomputable def encD (e : En) : List (String × V) := e.vs.map encP
noncomputable def encN (e : En) : List V := e.ns.map encT
noncomputable def look (e : En) (v : String) : Int := (getI v e.vs).getD 0
noncomputable abbrev En.x (e : En) : Int := look e "X"
noncomputable def En.setv (e : En) (v : String) (y : Int) : En := { e with vs := setI v y e.vs }
noncomputable def En.note (e : En) (t : String) : En := { e with ns := e.ns ++ [(t, e.x)] }
noncomputable def En.addx (e : En) (k : Int) : En := e.setv "X" (e.x + k)
noncomputable def En.sz (e : En) : Nat := e.vs.length + e.ns.length
noncomputable def En.hasX (e : En) : Prop := (getI "X" e.vs).isSome = true

theorem getI_setI (k j : String) (y : Int) : ∀ l, getI j (setI k y l) = if k = j then some y else getI j l
  | [] => rfl
  | (i, z) :: l => by
    unfold setI
    by_cases h : i = k
    · subst h
      rw [if_pos rfl]
      unfold getI
      by_cases q : i = j
      · rw [if_pos q, if_pos q]
      · rw [if_neg q, if_neg q, if_neg q]
    · rw [if_neg h]
      unfold getI
      rw [getI_setI k j y l]
      by_cases q : i = j
      · rw [if_pos q, if_pos q, if_neg fun e => h (q.trans e.symm)]
      · rw [if_neg q, if_neg q]
theorem len_setI (k : String) (y : Int) : ∀ l, (setI k y l).length ≤ l.length + 1
  | [] => Nat.le_refl _
  | (i, z) :: l => by
    unfold setI
    by_cases h : i = k
    · rw [if_pos h]; exact Nat.le_succ _
    · rw [if_neg h]; exact Nat.succ_le_succ (len_setI k y l)
theorem getK_enc (k : String) : ∀ l : List (String × Int), getK k (l.map encP) = (getI k l).map .int
  | [] => rfl
  | (i, z) :: l => by
    show getK k ((i, V.int z) :: l.map encP) = _
    unfold getK getI
    by_cases h : i = k
    · rw [if_pos h, if_pos h]; rfl
    · rw [if_neg h, if_neg h]; exact getK_enc k l
theorem setK_enc (k : String) (y : Int) : ∀ l : List (String × Int), setK k (.int y) (l.map encP) = (setI k y l).map encP
  | [] => rfl
  | (i, z) :: l => by
    show setK k (V.int y) ((i, V.int z) :: l.map encP) = _
    unfold setK setI
    by_cases h : i = k
    · rw [if_pos h, if_pos h]; rfl
    · rw [if_neg h, if_neg h]; exact congrArg (_ :: ·) (setK_enc k y l)
theorem setv_enc (e : En) (v : String) (y : Int) : setK v (.int y) (encD e) = encD (e.setv v y) := setK_enc v y e.vs
theorem look_enc (e : En) (v : String) : (getK v (encD e)).getD (.int 0) = .int (look e v) := by
  unfold look encD; rw [getK_enc]; cases getI v e.vs <;> rfl
theorem getK_X {e : En} (h : e.hasX) : getK "X" (encD e) = some (.int e.x) := by
  unfold En.hasX at h; unfold En.x look encD; rw [getK_enc]
  cases q : getI "X" e.vs with
  | none => rw [q] at h; cases h
  | some y => rfl
theorem hasX_setv {e : En} {v : String} {y : Int} (h : e.hasX) : (e.setv v y).hasX := by
  show (getI "X" (setI v y e.vs)).isSome = true
  rw [getI_setI]; split
  · rfl
  · exact h
theorem look_setv (e : En) (v w : String) (y : Int) : look (e.setv v y) w = if v = w then y else look e w := by
  show (getI w (setI v y e.vs)).getD 0 = _
  rw [getI_setI]; split <;> rfl
theorem encN_note (e : En) (t : String) : encN (e.note t) = encN e ++ [.tup [.str t, .int e.x]] := List.map_append
theorem sz_setv (e : En) (v : String) (y : Int) : (e.setv v y).sz ≤ e.sz + 1 := by
  have := len_setI v y e.vs
  show (setI v y e.vs).length + e.ns.length ≤ e.vs.length + e.ns.length + 1
  lia
theorem sz_note (e : En) (t : String) : (e.note t).sz = e.sz + 1 := by
  show e.vs.length + (e.ns ++ [_]).length = e.vs.length + e.ns.length + 1
  rw [List.length_append]; rfl
theorem encD_le {e : En} {n : Nat} (h : e.sz ≤ n) : (encD e).length ≤ n := by unfold encD; rw [List.length_map]; exact Nat.le_trans (Nat.le_add_right _ _) h
theorem encN_le {e : En} {n : Nat} (h : e.sz ≤ n) : (encN e).length ≤ n := by unfold encN; rw [List.length_map]; exact Nat.le_trans (Nat.le_add_left _ _) h

noncomputable def within (x l p : Int) : Bool := if 0 < p then decide (x ≤ l) else decide (l ≤ x)
noncomputable def remN (x l p : Int) : Nat := if 0 < p then (l - x + 1).toNat else (x - l + 1).toNat
theorem rem_next {x l p : Int} (hp : p ≠ 0) (h : within x l p = true) : remN (x + p) l p + 1 ≤ remN x l p := by
  unfold within at h; unfold remN
  by_cases q : 0 < p
  · rw [if_pos q] at h; have := of_decide_eq_true h; rw [if_pos q, if_pos q]; lia
  · rw [if_neg q] at h; have := of_decide_eq_true h; rw [if_neg q, if_neg q]; lia

noncomputable def loopRun (body : En → En) (v : String) (l p : Int) : Nat → Int → En → En
  | 0, x, e => e.setv v x
  | n + 1, x, e => if within x l p then loopRun body v l p n (x + p) (body (e.setv v x)) else e.setv v x
noncomputable def whRun (body : En → En) (v : String) : Nat → Int → En → En
  | 0, i, e => e.setv v i
  | k + 1, i, e => whRun body v k (i + 1) (body (e.setv v i))
noncomputable def callRun (s0 s1 : En → En) (a b : Int) (e : En) : En :=
  if b = 0 then (if a % 2 = 0 then s0 e else s1 e) else if a = 1 then s0 e else if a = 2 then s1 e else e
noncomputable def choRun (a b c : Int) (e : En) : En :=
  if e.x < a then (e.note ("t" ++ toString b)).addx (-1) else if c = 1 then e.note "f" else e
noncomputable def runSm (s0 s1 : En → En) : Sm → En → En
  | .note a => fun e => e.note (toString a)
  | .add k => fun e => e.addx k
  | .choice a b c => choRun a b c
  | .call a b => callRun s0 s1 a b
noncomputable def runB (s0 s1 : En → En) : B → En → En
  | .nil => fun e => e
  | .sm s r => fun e => runB s0 s1 r (runSm s0 s1 s e)
  | .loop v b l p body r => fun e => runB s0 s1 r (loopRun (runB s0 s1 body) v l p 8 b e)
  | .whil w lim body r => fun e => runB s0 s1 r (whRun (runB s0 s1 body) (wn w) lim.toNat 0 e)

noncomputable def tS (ts : Nat) : Sm → Nat
  | .note _ => 1
  | .add _ => 1
  | .choice _ _ _ => 4
  | .call _ _ => ts + 2
noncomputable def T (ts : Nat) : B → Nat
  | .nil => 0
  | .sm s r => tS ts s + T ts r
  | .loop _ _ _ _ body r => (3 * (T ts body + 2) + 2) + T ts r
  | .whil _ _ body r => (2 * (T ts body + 4) + 4) + T ts r

section
variable {P : En → Prop} {body s0 s1 : En → En} {v : String} {l p : Int}
theorem loopRun_inv (hb : ∀ e, P e → P (body e)) (hs : ∀ y e, P e → P (e.setv v y)) : ∀ n x e, P e → P (loopRun body v l p n x e)
  | 0, x, e, h => hs x e h
  | n + 1, x, e, h => by
    unfold loopRun; split
    · exact loopRun_inv hb hs n _ _ (hb _ (hs _ _ h))
    · exact hs _ _ h
theorem whRun_inv (hb : ∀ e, P e → P (body e)) (hs : ∀ y e, P e → P (e.setv v y)) : ∀ n x e, P e → P (whRun body v n x e)
  | 0, x, e, h => hs x e h
  | n + 1, x, e, h => whRun_inv hb hs n _ _ (hb _ (hs _ _ h))
theorem runSm_inv (hn : ∀ t e, P e → P (e.note t)) (hx : ∀ k e, P e → P (e.addx k)) (h0 : ∀ e, P e → P (s0 e)) (h1 : ∀ e, P e → P (s1 e)) : ∀ (s : Sm) e, P e → P (runSm s0 s1 s e)
  | .note _, e, h => hn _ e h
  | .add _, e, h => hx _ e h
  | .choice a b c, e, h => by
    show P (choRun a b c e)
    unfold choRun; split
    · exact hx _ _ (hn _ _ h)
    · split
      · exact hn _ _ h
      · exact h
  | .call a b, e, h => by
    show P (callRun s0 s1 a b e)
    unfold callRun; split
    · split
      · exact h0 e h
      · exact h1 e h
    · split
      · exact h0 e h
      · split
        · exact h1 e h
        · exact h
theorem run_inv (hm : ∀ s e, P e → P (runSm s0 s1 s e)) : ∀ b : B, (∀ v ∈ names b, ∀ y e, P e → P (e.setv v y)) → ∀ e, P e → P (runB s0 s1 b e)
  | .nil, _, e, h => h
  | .sm s r, hs, e, h => run_inv hm r hs _ (hm s e h)
  | .loop v b l p body r, hs, e, h => run_inv hm r (fun u hu => hs u (List.mem_cons_of_mem _ (List.mem_append_right _ hu))) _
    (loopRun_inv (run_inv hm body (fun u hu => hs u (List.mem_cons_of_mem _ (List.mem_append_left _ hu)))) (hs v List.mem_cons_self) _ _ _ h)
  | .whil w lim body r, hs, e, h => run_inv hm r (fun u hu => hs u (List.mem_cons_of_mem _ (List.mem_append_right _ hu))) _
    (whRun_inv (run_inv hm body (fun u hu => hs u (List.mem_cons_of_mem _ (List.mem_append_left _ hu)))) (hs (wn w) List.mem_cons_self) _ _ _ h)

theorem loopRun_sz {K : Nat} (hp : p ≠ 0) (hb : ∀ e, (body e).sz ≤ e.sz + K) : ∀ n x e, (loopRun body v l p n x e).sz ≤ e.sz + 1 + remN x l p * (K + 1)
  | 0, x, e => Nat.le_trans (sz_setv e v x) (Nat.le_add_right _ _)
  | n + 1, x, e => by
    have h1 := sz_setv e v x
    unfold loopRun
    by_cases h : within x l p = true
    · rw [if_pos h]
      have h2 := loopRun_sz hp hb n (x + p) (body (e.setv v x))
      have h3 := hb (e.setv v x)
      have h5 : (remN (x + p) l p + 1) * (K + 1) ≤ remN x l p * (K + 1) := Nat.mul_le_mul_right _ (rem_next hp h)
      rw [Nat.add_mul] at h5
      lia
    · rw [if_neg h]; exact Nat.le_trans h1 (Nat.le_add_right _ _)
theorem whRun_sz {K : Nat} (hb : ∀ e, (body e).sz ≤ e.sz + K) : ∀ n x e, (whRun body v n x e).sz ≤ e.sz + 1 + n * (K + 1)
  | 0, x, e => Nat.le_trans (sz_setv e v x) (Nat.le_add_right _ _)
  | n + 1, x, e => by
    have h1 := sz_setv e v x
    have h2 := whRun_sz hb n (x + 1) (body (e.setv v x))
    have h3 := hb (e.setv v x)
    rw [Nat.add_mul]
    exact Nat.le_trans h2 (by lia)
end
theorem rem_le {b l p : Int} (hb : 0 ≤ b ∧ b < 3) (hl : 0 ≤ l ∧ l < 3) : remN b l p ≤ 3 := by unfold remN; split <;> lia
theorem pace_ne {p : Int} (h : p = 1 ∨ p = 2 ∨ p = -1 ∨ p = -2) : p ≠ 0 := by
  rcases h with h | h | h | h <;> subst h <;> decide
theorem loop_mul {b l p : Int} {K : Nat} (hb : 0 ≤ b ∧ b < 3) (hl : 0 ≤ l ∧ l < 3) : remN b l p * K ≤ 3 * K := Nat.mul_le_mul_right _ (rem_le hb hl)
theorem whil_mul {l : Int} {K : Nat} (hl : 0 ≤ l ∧ l < 3) : l.toNat * K ≤ 2 * K := Nat.mul_le_mul_right _ (by lia)
section
variable {s0 s1 : En → En} {ts : Nat}
theorem sm_sz (h0 : ∀ e, (s0 e).sz ≤ e.sz + ts) (h1 : ∀ e, (s1 e).sz ≤ e.sz + ts) (s : Sm) (e : En) : (runSm s0 s1 s e).sz ≤ e.sz + tS ts s := by
  cases s with
  | note a => exact Nat.le_of_eq (sz_note e _)
  | add k => exact sz_setv e _ _
  | choice a b c =>
    show (choRun a b c e).sz ≤ e.sz + 4
    unfold choRun; split
    · exact Nat.le_trans (sz_setv _ _ _) (by rw [sz_note]; exact Nat.add_le_add_left (by decide : 2 ≤ 4) _)
    · split
      · rw [sz_note]; exact Nat.add_le_add_left (by decide) _
      · exact Nat.le_add_right _ _
  | call a b =>
    have h0 := Nat.le_trans (h0 e) (Nat.le_add_right _ 2)
    have h1 := Nat.le_trans (h1 e) (Nat.le_add_right _ 2)
    show (callRun s0 s1 a b e).sz ≤ e.sz + ts + 2
    unfold callRun; split
    · split
      · exact h0
      · exact h1
    · split
      · exact h0
      · split
        · exact h1
        · exact Nat.le_trans (Nat.le_add_right _ _) (Nat.le_add_right _ _)
theorem run_sz (h0 : ∀ e, (s0 e).sz ≤ e.sz + ts) (h1 : ∀ e, (s1 e).sz ≤ e.sz + ts) : ∀ {b : B} ⦃d : Nat⦄ ⦃c c' : Int⦄, WF d c b c' → ∀ e, (runB s0 s1 b e).sz ≤ e.sz + T ts b
  | .nil => by
    intro _ _ _ _ e
    exact Nat.le_refl _
  | .sm s r => by
    intro _ _ _ z0_ e
    obtain ⟨_, w⟩ := z0_
    exact Nat.le_trans (run_sz h0 h1 w _) (Nat.le_trans (Nat.add_le_add_right (sm_sz h0 h1 s e) _) (Nat.le_of_eq (Nat.add_assoc ..)))
  | .loop v b l p body r => by
    intro _ _ _ z0_ e
    obtain ⟨q, c1, _, wb, w⟩ := z0_
    have a1 := run_sz h0 h1 w (loopRun (runB s0 s1 body) v l p 8 b e)
    have a2 := loopRun_sz (v := v) (l := l) (pace_ne q.hp) (run_sz h0 h1 wb) 8 b e
    have a3 := loop_mul (p := p) (K := T ts body + 1) q.hb q.hl
    show (runB s0 s1 r _).sz ≤ e.sz + ((3 * (T ts body + 2) + 2) + T ts r)
    lia
  | .whil w lim body r => by
    intro _ _ _ z0_ e
    obtain ⟨q, _, c1, _, wb, wr⟩ := z0_
    have a1 := run_sz h0 h1 wr (whRun (runB s0 s1 body) (wn w) lim.toNat 0 e)
    have a2 := whRun_sz (v := wn w) (run_sz h0 h1 wb) lim.toNat 0 e
    have a3 := whil_mul (K := T ts body + 1) q.hl
    show (runB s0 s1 r _).sz ≤ e.sz + ((2 * (T ts body + 4) + 4) + T ts r)
    lia
end
noncomputable def tD (ts : Nat) : Nat → Nat
  | 0 => ts + 4
  | d + 1 => 3 * (2 * tD ts d + 2) + ts + 12
theorem tD_ge (ts : Nat) : ∀ d, ts + 4 ≤ tD ts d
  | 0 => Nat.le_refl _
  | d + 1 => by show ts + 4 ≤ 3 * (2 * tD ts d + 2) + ts + 12; lia
theorem tD_body {ts n d t : Nat} (hd : 1 ≤ d) (hn : n ≤ 2) (h : t ≤ n * tD ts (d - 1)) : 3 * (t + 2) + 8 ≤ tD ts d := by
  obtain ⟨d, rfl⟩ : ∃ e, d = e + 1 := ⟨d - 1, (Nat.sub_add_cancel hd).symm⟩
  have a3 : n * tD ts d ≤ 2 * tD ts d := Nat.mul_le_mul_right _ hn
  rw [Nat.add_sub_cancel] at h
  show 3 * (t + 2) + 8 ≤ 3 * (2 * tD ts d + 2) + ts + 12
  lia
theorem T_le {ts : Nat} : ∀ {b : B} ⦃d : Nat⦄ ⦃c c' : Int⦄, WF d c b c' → T ts b ≤ cnt b * tD ts d
  | .nil => by
    intro _ _ _ _
    exact Nat.zero_le _
  | .sm s r => by
    intro d _ _ z0_
    obtain ⟨_, w⟩ := z0_
    have a1 := T_le (ts := ts) w
    have a2 := tD_ge ts d
    have a3 : tS ts s ≤ ts + 4 := by cases s <;> simp only [tS] <;> lia
    show tS ts s + T ts r ≤ (cnt r + 1) * _
    rw [Nat.add_mul, Nat.one_mul]; lia
  | .loop v b l p body r => by
    intro d _ _ z0_
    obtain ⟨q, c1, _, wb, w⟩ := z0_
    have a1 := T_le (ts := ts) w
    have a2 := tD_body q.hd.1 q.hc (T_le (ts := ts) wb)
    show (3 * (T ts body + 2) + 2) + T ts r ≤ (cnt r + 1) * _
    rw [Nat.add_mul, Nat.one_mul]; lia
  | .whil v l body r => by
    intro d _ _ z0_
    obtain ⟨q, _, c1, _, wb, w⟩ := z0_
    have a1 := T_le (ts := ts) w
    have a2 := tD_body q.hd.1 q.hc (T_le (ts := ts) wb)
    show (2 * (T ts body + 4) + 4) + T ts r ≤ (cnt r + 1) * _
    rw [Nat.add_mul, Nat.one_mul]; lia

noncomputable def TRuns (t : TF) (m : Ms) (σ : St) (r : Bool) : Prop := ∀ P, Ho (P r σ) → Ho (t m σ P)
theorem truns_of {t : TF} {m : Ms} {σ : St} {r : Bool} (as : List Ans) (h : ∀ P os, P r σ os → t m σ P (as ++ os)) : TRuns t m σ r := fun P q => let ⟨os, p⟩ := q; ⟨as ++ os, h P os p⟩
section
variable {t : TF} {b : SF} {m m1 m' : Ms} {σ σ1 σ' : St} {x : Fl}
theorem condF {A B : Kt} (h : Ho B) : Ho (condP false A B) := let ⟨os, q⟩ := h; ⟨.d :: os, q⟩
theorem condT {A B : Kt} (h : Ho A) : Ho (condP true A B) := let ⟨os, q⟩ := h; ⟨.d :: os, q⟩
noncomputable def onF (b : SF) (m : Ms) (P : Fl → Ms → St → Kt) (q : Ms → St → Kt) (r : Bool) (σ : St) : Kt := condP r (b m σ fun x m σ => match x with
      | .next => q m σ
      | .ret r => P (.ret r) m σ) (P .next m σ)
theorem lw_end (h : TRuns t m σ false) : Lw t b m σ .next m σ := fun P hp => ⟨1, h (onF b m P fun _ _ => kF) (condF hp)⟩
theorem lw_step (h : TRuns t m σ true) (hb : SRuns b m σ .next m1 σ1) (k : Lw t b m1 σ1 x m' σ') : Lw t b m σ x m' σ' := fun P hp => let ⟨n, q⟩ := k P hp; ⟨n + 1, h (onF b m P fun m σ => whileG t b n m σ P) (condT (hb _ q))⟩
end

structure GX where
  N : Nat
  σ0 : St
  su : Nat
  a0 : Nat
  a1 : Nat
  vi : Nat
  ni : Nat
  b0 : B
  b1 : B
  s0 : En → En
  s1 : En → En
  ts : Nat
inductive SubOk (N : Nat) (σ0 : St) (a : Nat) (b : B) : Prop where
  | mk (l : List V) (c c' : Int) (ha : a < N) (hl : σ0[a]? = some (.list l)) (hb : IsB σ0 0 N b l) (w : WF 0 c b c')
structure GX.Ok (X : GX) : Prop where
  su : X.su < X.N
  sl : X.σ0[X.su]? = some (.list [.ref X.a0, .ref X.a1])
  k0 : SubOk X.N X.σ0 X.a0 X.b0
  k1 : SubOk X.N X.σ0 X.a1 X.b1
  e0 : ∀ e, runB X.s0 X.s1 X.b0 e = X.s0 e
  e1 : ∀ e, runB X.s0 X.s1 X.b1 e = X.s1 e
  z0 : ∀ e, (X.s0 e).sz ≤ e.sz + X.ts
  z1 : ∀ e, (X.s1 e).sz ≤ e.sz + X.ts
  t0 : T X.ts X.b0 ≤ X.ts
  t1 : T X.ts X.b1 ≤ X.ts
structure GS (X : GX) (e : En) (σ : St) : Prop where
  v : Vw X.N X.σ0 [(X.vi, .dictS (encD e)), (X.ni, .list (encN e))] σ
  x : e.hasX
section
variable {X : GX} {e : En} {σ : St}
theorem GS.of {e' : En} (h : GS X e' σ) (q : e = e') : GS X e σ := q ▸ h
theorem GS.vv (g : GS X e σ) : σ[X.vi]? = some (.dictS (encD e)) := g.v.at_ 0 _ _ rfl
theorem GS.nn (g : GS X e σ) : σ[X.ni]? = some (.list (encN e)) := g.v.at_ 1 _ _ rfl
theorem GS.setV (g : GS X e σ) (v : String) (y : Int) : GS X (e.setv v y) (σ.set X.vi (.dictS (setK v (.int y) (encD e)))) := ⟨by rw [setv_enc]; exact g.v.set 0 _ rfl, hasX_setv g.x⟩
theorem GS.setN (g : GS X e σ) (t : String) : GS X (e.note t) (σ.set X.ni (.list (encN e ++ [.tup [.str t, .int e.x]]))) := ⟨by rw [← encN_note]; exact g.v.set 1 _ rfl, g.x⟩
theorem GS.lN (g : GS X e σ) (h : e.sz ≤ 100000) : Lst σ X.ni (encN e) := ⟨g.nn, encN_le (Nat.le_trans h (by decide))⟩
theorem GS.dV (g : GS X e σ) (h : e.sz ≤ 100000) : IsS σ X.vi (encD e) ∧ (encD e).length ≤ 1000000 := ⟨g.vv, encD_le (Nat.le_trans h (by decide))⟩
theorem GS.rX (g : GS X e σ) : ItS σ X.vi "X" (.int e.x) := ⟨_, g.vv, getK_X g.x⟩
theorem GS.isl (g : GS X e σ) : IsLs σ X.ni := ⟨_, g.nn⟩
end
noncomputable def GoH (X : GX) (H : FF) (n : Nat) : Prop := ∀ (d : Nat) (b : B) (i : Nat) (l : List V) (c c' : Int) (e : En) (σ : St) (G : Prop), d < n → WF d c b c' → i < X.N → X.σ0[i]? = some (.list l) → IsB X.σ0 0 X.N b l → GS X e σ → e.sz + T X.ts b ≤ 100000 →
  (∀ σ', Runs H [.ref i, .ref X.su, .ref X.vi, .ref X.ni] σ .none σ' → GS X (runB X.s0 X.s1 b e) σ' → G) → G
noncomputable abbrev goM (X : GX) (i : Nat) (x : Sl) : Ms := [some (.ref i), some (.ref X.su), some (.ref X.vi), some (.ref X.ni), x.a, x.b, x.c, x.d]

theorem drop_cons {α : Type} {l l' : List α} {x : α} {j : Nat} (h : l.drop j = x :: l') : l[j]? = some x ∧ l.drop (j + 1) = l' := by
  constructor
  · have := congrArg (fun q => q[0]?) h
    rw [List.getElem?_drop] at this
    exact this
  · have := congrArg (List.drop 1) h
    rw [List.drop_drop] at this
    exact this
section
variable {G : Prop} {X : GX} {e : En} {σ : St} {H : FF} {i n : Nat} {x : Sl}
theorem sz_of {a b c : Nat} (h : a + b ≤ c) : a ≤ c := Nat.le_trans (Nat.le_add_right _ _) h
theorem call_ (hX : X.Ok) (hH : GoH X H n) (hn : 0 < n) (g : GS X e σ) (hz : e.sz + X.ts ≤ 100000) (a b : Int) (ha : 0 ≤ a ∧ a < 4) (hb : 0 ≤ b ∧ b < 2)
    (kk : ∀ σ', SRuns (L2_go H) (goM X i { x with a := some (encSm (.call a b)) }) σ .next (goM X i { x with a := some (encSm (.call a b)) }) σ' → GS X (callRun X.s0 X.s1 a b e) σ' → G) : G := by
  obtain ⟨l0, c0, c0', h01, h02, h03, h04⟩ := hX.k0
  obtain ⟨l1, c1, c1', h11, h12, h13, h14⟩ := hX.k1
  have sl := g.v.get hX.su hX.sl
  have r0 : (∀ σ', Runs H [.ref X.a0, .ref X.su, .ref X.vi, .ref X.ni] σ .none σ' → GS X (X.s0 e) σ' → G) → G := fun k => hH 0 X.b0 X.a0 l0 c0 c0' e σ G hn h04 h01 h02 h03 g (Nat.le_trans (Nat.add_le_add_left hX.t0 _) hz) (hX.e0 e ▸ k)
  have r1 : (∀ σ', Runs H [.ref X.a1, .ref X.su, .ref X.vi, .ref X.ni] σ .none σ' → GS X (X.s1 e) σ' → G) → G := fun k => hH 0 X.b1 X.a1 l1 c1 c1' e σ G hn h14 h11 h12 h13 g (Nat.le_trans (Nat.add_le_add_left hX.t1 _) hz) (hX.e1 e ▸ k)
  have i0 := it_l (k := 0) sl rfl
  have i1 := it_l (k := 1) sl rfl
  rcases (by lia : b = 0 ∨ b = 1) with q | q <;> subst q <;> rcases (by lia : a = 0 ∨ a = 1 ∨ a = 2 ∨ a = 3) with q | q | q | q <;> subst q
  · exact r0 fun σ' r g' => kk σ' (sruns_of [.v (.ref X.a0), .c .none σ'] fun P os hp => (And.intro (by decide : (2 : Int) > 0) <| And.intro i0 <| And.intro r hp :)) g'
  · exact r1 fun σ' r g' => kk σ' (sruns_of [.v (.ref X.a1), .c .none σ'] fun P os hp => (And.intro (by decide : (2 : Int) > 0) <| And.intro i1 <| And.intro r hp :)) g'
  · exact r0 fun σ' r g' => kk σ' (sruns_of [.v (.ref X.a0), .c .none σ'] fun P os hp => (And.intro (by decide : (2 : Int) > 0) <| And.intro i0 <| And.intro r hp :)) g'
  · exact r1 fun σ' r g' => kk σ' (sruns_of [.v (.ref X.a1), .c .none σ'] fun P os hp => (And.intro (by decide : (2 : Int) > 0) <| And.intro i1 <| And.intro r hp :)) g'
  · exact kk σ (sruns_of [.d, .d, .d, .d, .d, .d, .d, .d, .d] fun P os hp => hp) g
  · exact r0 fun σ' r g' => kk σ' (sruns_of [.v (.ref X.a0), .c .none σ'] fun P os hp => (And.intro i0 <| And.intro r hp :)) g'
  · exact r1 fun σ' r g' => kk σ' (sruns_of [.v (.ref X.a1), .c .none σ'] fun P os hp => (And.intro i1 <| And.intro r hp :)) g'
  · exact kk σ (sruns_of [.d, .d, .d, .d, .d, .d, .d, .d, .d] fun P os hp => hp) g

theorem sm_ {d : Nat} {s : Sm} (hX : X.Ok) (hH : GoH X H n) (hn : 1 ≤ d → 0 < n) (g : GS X e σ) (hw : WFs d s) (hz : e.sz + tS X.ts s ≤ 100000)
    (kk : ∀ σ', SRuns (L2_go H) (goM X i { x with a := some (encSm s) }) σ .next (goM X i { x with a := some (encSm s) }) σ' → GS X (runSm X.s0 X.s1 s e) σ' → G) : G := by
  have hz1 := sz_of hz
  cases s with
  | note a => exact kk _ (sruns_of [.v (.int e.x), .l (encN e)] fun P os hp => (And.intro g.isl <| And.intro (⟨Int.lt_of_lt_of_le (by decide) hw.1, Int.lt_trans hw.2 (by decide)⟩ : -1000000 < a ∧ a < 1000000) <| And.intro g.rX <| And.intro (g.lN hz1) hp :)) (g.setN _)
  | add k => exact kk _ (sruns_of [.v (.int e.x), .p (encD e)] fun P os hp => (And.intro g.rX <| And.intro (g.dV hz1) hp :)) (g.setV _ _)
  | choice a b c =>
    obtain ⟨-, hb, hc⟩ := hw
    by_cases q : e.x < a
    · have g1 := g.setN ("t" ++ toString b)
      have g2 := g1.setV "X" (e.x + -1)
      have e1 : choRun a b c e = (e.note ("t" ++ toString b)).addx (-1) := if_pos q
      exact kk _ (sruns_of [.v (.int e.x), .b true, .v (.int e.x), .l (encN e), .v (.int e.x), .p (encD e)] fun P os hp => (And.intro g.rX <| And.intro (decide_eq_true q) <| And.intro g.isl <| And.intro (⟨Int.lt_of_lt_of_le (by decide) hb.1, Int.lt_trans hb.2 (by decide)⟩ : -1000000 < b ∧ b < 1000000) <| And.intro (ts_len' b hb.1 (Int.lt_trans hb.2 (by decide))) <| And.intro g.rX <| And.intro (g.lN hz1) <| And.intro g1.rX <| And.intro (g1.dV (by rw [sz_note]; exact Nat.le_trans (Nat.add_le_add_left (by decide : 1 ≤ 4) _) hz)) hp :)) (g2.of e1)
    · have n1 := decide_eq_false q
      rcases (by lia : c = 0 ∨ c = 1) with w | w <;> subst w
      · have e1 : choRun a b 0 e = e := if_neg q
        exact kk _ (sruns_of [.v (.int e.x), .b false, .d] fun P os hp => (And.intro g.rX <| And.intro n1 hp :)) (g.of e1)
      · have e1 : choRun a b 1 e = e.note "f" := if_neg q
        exact kk _ (sruns_of [.v (.int e.x), .b false, .v (.int e.x), .l (encN e)] fun P os hp => (And.intro g.rX <| And.intro n1 <| And.intro g.isl <| And.intro g.rX <| And.intro (g.lN hz1) hp :)) ((g.setN "f").of e1)
  | call a b => exact call_ hX hH (hn hw.1.1) g (Nat.le_trans (Nat.add_le_add_left (Nat.le_add_right _ 2) _) hz) a b hw.2.1 hw.2.2 kk

noncomputable abbrev goT : TF := tIf (tCmp cGt (eLoc 6) (eC (.int 0))) (tCmp cLe (eLoc 5) (eIdx (eLoc 4) (eC (.int 3)))) (tCmp cGe (eLoc 5) (eIdx (eLoc 4) (eC (.int 3))))
noncomputable abbrev goL (X : GX) (i : Nat) (x : Sl) (v : String) (bg la p : Int) (ib : Nat) (y : Int) : Ms := goM X i { a := some (.tup [.str "for", .str v, .int bg, .int la, .int p, .ref ib]), b := some (.int y), c := some (.int p), d := x.d }
section
variable {v : String} {bg la p : Int} {ib K : Nat} {rb : En → En}
theorem test_ {y : Int} : TRuns goT (goL X i x v bg la p ib y) σ (within y la p) := by
  by_cases q : 0 < p
  · rw [show within y la p = decide (y ≤ la) from if_pos q]
    exact truns_of [.b true] fun P os hp => (And.intro (decide_eq_true q) hp :)
  · rw [show within y la p = decide (la ≤ y) from if_neg q]
    exact truns_of [.b false] fun P os hp => (And.intro (decide_eq_false q) hp :)
theorem loop_out {y : Int} {e : En} (h : within y la p = false) (k : Nat) : e.setv v y = loopRun rb v la p k y e := by
  cases k with
  | zero => rfl
  | succ k => unfold loopRun; rw [h]; rfl
theorem loop_in {y : Int} {e : En} (h : within y la p = true) (k : Nat) : loopRun rb v la p k (y + p) (rb (e.setv v y)) = loopRun rb v la p (k + 1) y e := by
  rw [loopRun, h]; rfl
theorem go_while (hp : p ≠ 0) (zb : ∀ e, (rb e).sz ≤ e.sz + K)
    (hb : ∀ e σ (G : Prop), GS X e σ → e.sz + K ≤ 100000 → (∀ σ', Runs H [.ref ib, .ref X.su, .ref X.vi, .ref X.ni] σ .none σ' → GS X (rb e) σ' → G) → G) :
    ∀ (k : Nat) (y : Int) (e : En) (σ : St) (G : Prop), remN y la p ≤ k → GS X e σ → e.sz + remN y la p * (K + 1) ≤ 99999 →
      (∀ yf ef σ', Lw goT (L1_go H) (goL X i x v bg la p ib y) σ .next (goL X i x v bg la p ib yf) σ' → GS X ef σ' → ef.setv v yf = loopRun rb v la p k y e → ef.sz ≤ 99999 → G) → G := by
  intro k
  induction k with
  | zero =>
    intro y e σ G hk g hz kk
    cases hw : within y la p with
    | false => exact kk y e σ (lw_end (hw ▸ test_)) g (loop_out hw _) (sz_of hz)
    | true => exact absurd (Nat.le_trans (rem_next hp hw) hk) (Nat.not_succ_le_zero _)
  | succ k ih =>
    intro y e σ G hk g hz kk
    cases hw : within y la p with
    | false => exact kk y e σ (lw_end (hw ▸ test_)) g (loop_out hw _) (sz_of hz)
    | true =>
      have hr := rem_next hp hw
      have hm : (remN (y + p) la p + 1) * (K + 1) ≤ remN y la p * (K + 1) := Nat.mul_le_mul_right _ hr
      rw [Nat.add_mul] at hm
      have h1 := sz_setv e v y
      have h2 := zb (e.setv v y)
      exact hb _ _ G (g.setV v y) (by lia) fun σ1 r1 g1 => ih (y + p) _ σ1 G (Nat.le_of_succ_le_succ (Nat.le_trans hr hk)) g1 (by lia) fun yf ef σ' l g' q z =>
        kk yf ef σ' (lw_step (hw ▸ test_) (sruns_of [.p (encD e), .c .none σ1] fun P os hp => (And.intro (g.dV (Nat.le_trans (sz_of hz) (by decide))) <| And.intro r1 hp :)) l) g' (q.trans (loop_in hw k)) z
end

theorem go_loop {dm : Nat} (hX : X.Ok) (hH : GoH X H n) (hn : dm ≤ n) {i : Nat} {l : List V} (hi : i < X.N) (hl : X.σ0[i]? = some (.list l)) :
    ∀ (b : B) (d j : Nat) (c c' : Int) (e : En) (σ : St) (x : Sl) (l1 : List V) (G : Prop), d ≤ dm → WF d c b c' → l.drop j = l1 → IsB X.σ0 0 X.N b l1 → GS X e σ → e.sz + T X.ts b ≤ 100000 →
      (∀ x' σ', Lp (itList i) (gName 4) (L2_go H) j (goM X i x) σ .next (goM X i x') σ' → GS X (runB X.s0 X.s1 b e) σ' → G) → G
  | .nil => by
    intro d j c c' e σ x l1 G hd wf q hb g hz kk
    exact kk x σ (lp_end (it_end (nth_l (g.v.get hi hl) (List.getElem?_eq_none_iff.mpr (List.drop_eq_nil_iff.mp (q.trans hb)))))) g
  | .sm s r => by
    intro d j c c' e σ x l1 G hd z0_ q z1_ g hz kk
    obtain ⟨hw, wf⟩ := z0_
    obtain ⟨l', e1, hr⟩ := z1_
    have hz1 : e.sz + tS X.ts s ≤ 100000 := Nat.le_trans (Nat.add_le_add_left (Nat.le_add_right _ _) _) hz
    refine sm_ (x := x) (i := i) hX hH (fun h => Nat.lt_of_lt_of_le h (Nat.le_trans hd hn)) g hw hz1 fun σ1 r1 g1 => go_loop hX hH hn hi hl r d (j + 1) c c' _ σ1 _ l' G hd wf (drop_cons (q.trans e1)).2 hr g1 ?_ fun x' σ' l g' => kk x' σ' (lp_step (step_n (it_at (nth_l (g.v.get hi hl) (drop_cons (q.trans e1)).1)) r1) l) g'
    exact Nat.le_trans (Nat.add_le_add_right (sm_sz hX.z0 hX.z1 s e) _) (Nat.le_trans (Nat.le_of_eq (Nat.add_assoc ..)) hz)
  | .loop v bg la p body r => by
    intro d j c c' e σ x l1 G hd z0_ q z1_ g hz kk
    obtain ⟨C, c1, hc1, wb, wf⟩ := z0_
    obtain ⟨l', ib, lb, e1, hs, hb, hr⟩ := z1_
    have hsz := loopRun_sz (v := v) (l := la) (pace_ne C.hp) (run_sz hX.z0 hX.z1 wb) 8 bg e
    have hmul := loop_mul (p := p) (K := T X.ts body + 1) C.hb C.hl
    have hz : e.sz + ((3 * (T X.ts body + 2) + 2) + T X.ts r) ≤ 100000 := hz
    have hdd : d - 1 < n := Nat.lt_of_lt_of_le (Nat.sub_lt C.hd.1 (by decide)) (Nat.le_trans hd hn)
    refine go_while (H := H) (i := i) (x := x) (bg := bg) (v := v) (K := T X.ts body) (pace_ne C.hp) (run_sz hX.z0 hX.z1 wb) (fun e σ G g hz kk => hH (d - 1) body ib lb c c1 e σ G hdd wb hs.2.1 hs.2.2 hb g hz kk) 8 bg e σ G (Nat.le_trans (rem_le C.hb C.hl) (by decide)) g (by lia) fun yf ef σ1 lw g1 q1 z1 => ?_
    refine go_loop hX hH hn hi hl r d (j + 1) c1 c' _ _ _ l' G hd wf (drop_cons (q.trans e1)).2 hr (q1 ▸ g1.setV v yf) (by lia) fun x' σ' l g' => kk x' σ' (lp_step (step_n (it_at (nth_l (g.v.get hi hl) (drop_cons (q.trans e1)).1)) (sruns_of [.f .next (goL X i x v bg la p ib yf) σ1, .p (encD ef)] fun P os hp => (And.intro lw <| And.intro (g1.dV (Nat.le_trans z1 (by decide))) hp :))) l) g'
  | .whil w lim body r => by
    intro d j c c' e σ x l1 G hd z0_ q z1_ g hz kk
    obtain ⟨C, hw, c1, hc1, wb, wf⟩ := z0_
    obtain ⟨l', ib, lb, e1, hs, hb, hr⟩ := z1_
    have hz : e.sz + ((2 * (T X.ts body + 4) + 4) + T X.ts r) ≤ 100000 := hz
    have hdd : d - 1 < n := Nat.lt_of_lt_of_le (Nat.sub_lt C.hd.1 (by decide)) (Nat.le_trans hd hn)
    have hbd : ∀ {e : En} {σ : St}, GS X e σ → e.sz + T X.ts body ≤ 100000 → (∀ σ', Runs H [.ref ib, .ref X.su, .ref X.vi, .ref X.ni] σ .none σ' → GS X (runB X.s0 X.s1 body e) σ' → G) → G := fun g hz kk => hH (d - 1) body ib lb (c + 1) c1 _ _ G hdd wb hs.2.1 hs.2.2 hb g hz kk
    have hsz := run_sz hX.z0 hX.z1 wb
    have hsv := sz_setv
    have rest := fun (e2 : En) (σ2 : St) (x2 : Sl) (g2 : GS X e2 σ2) (hz2 : e2.sz + T X.ts r ≤ 100000) (kk : ∀ x' σ', Lp (itList i) (gName 4) (L2_go H) (j + 1) (goM X i x2) σ2 .next (goM X i x') σ' → GS X (runB X.s0 X.s1 r e2) σ' → G) => go_loop hX hH hn hi hl r d (j + 1) c1 c' e2 σ2 x2 l' G hd wf (drop_cons (q.trans e1)).2 hr g2 hz2 kk
    have st : ∀ {x2 : Sl} {σ2 : St}, SRuns (L2_go H) (goM X i { x with a := some (.tup [.str "while", .str (wn w), .int lim, .ref ib]) }) σ .next (goM X i x2) σ2 → Step (itList i) (gName 4) (L2_go H) j (goM X i x) σ .next (goM X i x2) σ2 := fun r1 => step_n (it_at (nth_l (g.v.get hi hl) (drop_cons (q.trans e1)).1)) r1
    have dv : ∀ {e : En} {σ : St}, GS X e σ → e.sz ≤ 99999 → IsS σ X.vi (encD e) ∧ (encD e).length ≤ 1000000 := fun g h => g.dV (Nat.le_trans h (by decide))
    have h0 := hsv e (wn w) 0
    have h1 := hsz (e.setv (wn w) 0)
    have d0 := dv g (by lia)
    rcases (by have := C.hl; lia : lim = 0 ∨ lim = 1 ∨ lim = 2) with q | q | q <;> subst q
    · exact rest (e.setv (wn w) 0) _ _ (g.setV (wn w) 0) (by lia) fun x' σ' l g' => kk x' σ' (lp_step (st (sruns_of [.n 1, .p (encD e)] fun P os hp => (And.intro (⟨by decide, by decide⟩ : Sml 0) <| And.intro d0 hp :))) l) g'
    · refine hbd (g.setV (wn w) 0) (by lia) fun σ1 r1 g1 => ?_
      have h2 := hsv (runB X.s0 X.s1 body (e.setv (wn w) 0)) (wn w) 1
      exact rest _ _ { x with a := some (.tup [.str "while", .str (wn w), .int 1, .ref ib]), d := some (.int 0) } (g1.setV (wn w) 1) (by lia) fun x' σ' l g' => kk x' σ' (lp_step (st (x2 := { x with a := some (.tup [.str "while", .str (wn w), .int 1, .ref ib]), d := some (.int 0) }) (sruns_of [.n 2, .p (encD e), .c .none σ1, .p (encD (runB X.s0 X.s1 body (e.setv (wn w) 0)))] fun P os hp => (And.intro (⟨by decide, by decide⟩ : Sml 1) <| And.intro d0 <| And.intro r1 <| And.intro (dv g1 (by lia)) hp :))) l) g'
    · refine hbd (g.setV (wn w) 0) (by lia) fun σ1 r1 g1 => ?_
      have h2 := hsv (runB X.s0 X.s1 body (e.setv (wn w) 0)) (wn w) 1
      have h3 := hsz ((runB X.s0 X.s1 body (e.setv (wn w) 0)).setv (wn w) 1)
      refine hbd (g1.setV (wn w) 1) (by lia) fun σ2 r2 g2 => ?_
      have h4 := hsv (runB X.s0 X.s1 body ((runB X.s0 X.s1 body (e.setv (wn w) 0)).setv (wn w) 1)) (wn w) 2
      exact rest _ _ { x with a := some (.tup [.str "while", .str (wn w), .int 2, .ref ib]), d := some (.int 1) } (g2.setV (wn w) 2) (by lia) fun x' σ' l g' => kk x' σ' (lp_step (st (x2 := { x with a := some (.tup [.str "while", .str (wn w), .int 2, .ref ib]), d := some (.int 1) }) (sruns_of [.n 3, .p (encD e), .c .none σ1, .p (encD (runB X.s0 X.s1 body (e.setv (wn w) 0))), .c .none σ2, .p (encD (runB X.s0 X.s1 body ((runB X.s0 X.s1 body (e.setv (wn w) 0)).setv (wn w) 1)))] fun P os hp => (And.intro (⟨by decide, by decide⟩ : Sml 2) <| And.intro d0 <| And.intro r1 <| And.intro (dv g1 (by lia)) <| And.intro r2 <| And.intro (dv g2 (by lia)) hp :))) l) g'
theorem go_ok (hX : X.Ok) : ∀ n, GoH X (F_go n) n
  | 0 => fun d b i l c c' e σ G hd => absurd hd (Nat.not_lt_zero _)
  | n + 1 => fun d b i l c c' e σ G hd wf hi hl hb g hz kk => go_loop hX (go_ok hX n) (Nat.le_refl _) hi hl b d 0 c c' e σ {} l G (Nat.le_of_lt_succ hd) wf rfl hb g hz fun x' σ' lp g' =>
    kk σ' (runs_of [.f .next (goM X i x') σ'] fun P os hp => (And.intro (isl (g.v.get hi hl)) <| And.intro lp hp :)) g'
theorem run0 {s0 s1 t0 t1 : En → En} : ∀ {b : B} ⦃c c' : Int⦄, WF 0 c b c' → ∀ e, runB s0 s1 b e = runB t0 t1 b e
  | .nil => by
    intro _ _ _ _
    exact rfl
  | .sm s r => by
    intro _ _ z0_ e
    obtain ⟨h, w⟩ := z0_
    have : runSm s0 s1 s e = runSm t0 t1 s e := by
      cases s with
      | call a b => exact absurd h.1.1 (by decide)
      | _ => rfl
    show runB s0 s1 r (runSm s0 s1 s e) = runB t0 t1 r (runSm t0 t1 s e)
    rw [this]; exact run0 w _
  | .loop v b l p body r => by
    intro _ _ z0_ _
    obtain ⟨h, _⟩ := z0_
    exact absurd h.hd.1 (by decide)
  | .whil v l body r => by
    intro _ _ z0_ _
    obtain ⟨h, _⟩ := z0_
    exact absurd h.hd.1 (by decide)
end

inductive R where
  | rem (t : String)
  | letA (v : String) (k : Int)
  | letS (v : String) (k : Int)
  | letC (v : String) (k : Int)
  | ifnot (a : Int) (t : Nat)
  | jump (t : Nat)
  | gosub (n : Int)
  | ongo (a : Int)
  | ret
  | for_ (v : String) (b l : Int) (p : Option Int)
  | next (vs : List String)
  | whil (v : String) (lim : Int)
  | wend
  | end_
inductive S where
  | row (r : R)
  | ifs (a b c : Int)

noncomputable def vNam (v : String) : V := .tup [.str "name", .str v]
noncomputable def vWh (k : Int) : V := .tup [.str "whole", .int k]
noncomputable def vTwo (o : String) (v : String) (k : Int) : V := .tup [.str "two", .str o, vNam v, vWh k]
noncomputable def vOpt : Option Int → V
  | none => .none
  | some p => vWh p

noncomputable def IsR (σ : St) (lo hi : Nat) : R → V → Prop
  | .rem t, v => v = .tup [.str "REM", .str t]
  | .letA x k, v => v = .tup [.str "LET", vNam x, vTwo "+" x k]
  | .letS x k, v => v = .tup [.str "LET", vNam x, vTwo "-" x k]
  | .letC x k, v => v = .tup [.str "LET", vNam x, vWh k]
  | .ifnot a t, v => v = .tup [.str "IFNOT", vTwo "<" "X" a, .int t]
  | .jump t, v => v = .tup [.str "JUMP", .int t]
  | .gosub n, v => v = .tup [.str "GOSUB", .int n]
  | .ongo a, v => ∃ i, v = .tup [.str "ONGO", .str "GOSUB", vWh a, .ref i] ∧ Sub σ lo hi i [.int 1000, .int 2000]
  | .ret, v => v = .tup [.str "RETURN", .none]
  | .for_ x b l p, v => v = .tup [.str "FOR", .str x, vWh b, vWh l, vOpt p]
  | .next vs, v => ∃ i, v = .tup [.str "NEXT", .ref i] ∧ Sub σ lo hi i (vs.map .str)
  | .whil x lim, v => v = .tup [.str "WHILE", vTwo "<" x lim]
  | .wend, v => v = .tup [.str "WEND"]
  | .end_, v => v = .tup [.str "END"]
noncomputable def told (b : Int) : List V := [.tup [.str "REM", .str ("t" ++ toString b)], .tup [.str "LET", vNam "X", vTwo "-" "X" 1]]
noncomputable def elsL (c : Int) : List V := (List.replicate c.toNat [V.tup [.str "REM", .str "f"]]).flatten
noncomputable def IsSt (σ : St) (lo hi : Nat) : S → V → Prop
  | .row r, v => IsR σ lo hi r v
  | .ifs a b c, v => ∃ i j, v = .tup [.str "IF", vTwo "<" "X" a, .ref i, .ref j] ∧ Sub σ lo hi i (told b) ∧ Sub σ lo hi j (elsL c)
noncomputable def IsLines (σ : St) (lo hi : Nat) : List (Int × S) → List V → Prop
  | [], l => l = []
  | (n, s) :: r, l => ∃ i v l', l = .tup [.int n, .ref i] :: l' ∧ Sub σ lo hi i [v] ∧ IsSt σ lo hi s v ∧ IsLines σ lo hi r l'
section
variable {σ σ' : St} {lo hi lo' hi' : Nat}
theorem IsR.mono (hl : lo' ≤ lo) (hh : hi ≤ hi') (k : ∀ i, lo ≤ i → i < hi → σ'[i]? = σ[i]?) {r : R} {v : V} (h : IsR σ lo hi r v) : IsR σ' lo' hi' r v := by
  cases r with
  | ongo a => exact let ⟨i, e, h⟩ := h; ⟨i, e, h.mono hl hh k⟩
  | next vs => exact let ⟨i, e, h⟩ := h; ⟨i, e, h.mono hl hh k⟩
  | _ => exact h
theorem IsSt.mono (hl : lo' ≤ lo) (hh : hi ≤ hi') (k : ∀ i, lo ≤ i → i < hi → σ'[i]? = σ[i]?) {s : S} {v : V} (h : IsSt σ lo hi s v) : IsSt σ' lo' hi' s v := by
  cases s with
  | row r => exact IsR.mono hl hh k h
  | ifs a b c => exact let ⟨i, j, e, h1, h2⟩ := h; ⟨i, j, e, h1.mono hl hh k, h2.mono hl hh k⟩
theorem IsLines.mono (hl : lo' ≤ lo) (hh : hi ≤ hi') (k : ∀ i, lo ≤ i → i < hi → σ'[i]? = σ[i]?) : ∀ {s : List (Int × S)} ⦃l : List V⦄, IsLines σ lo hi s l → IsLines σ' lo' hi' s l
  | [] => by
    intro _ h
    exact h
  | (n, s) :: r => by
    intro _ h
    exact let ⟨i, v, l', e, h1, h4, h5⟩ := h; ⟨i, v, l', e, h1.mono hl hh k, IsSt.mono hl hh k h4, IsLines.mono hl hh k h5⟩
theorem IsLines.app {s' : List (Int × S)} {l' : List V} (h' : IsLines σ lo hi s' l') : ∀ {s : List (Int × S)} {l : List V}, IsLines σ lo hi s l → IsLines σ lo hi (s ++ s') (l ++ l')
  | [], _, h => by rw [show _ = [] from h]; exact h'
  | (n, s) :: r, _, h => let ⟨i, v, l2, e, h1, h4, h5⟩ := h; ⟨i, v, _, by rw [e]; rfl, h1, h4, IsLines.app h' h5⟩
end
noncomputable def numb (b : Int) : List S → List (Int × S)
  | [] => []
  | s :: r => (b, s) :: numb (b + 1) r
theorem numb_snoc (s : S) : ∀ (b : Int) (c : List S), numb b (c ++ [s]) = numb b c ++ [(b + c.length, s)]
  | b, [] => by show [(b, s)] = [(b + 0, s)]; rw [Int.add_zero]
  | b, x :: c => by
    have e : b + ((c.length + 1 : Nat) : Int) = b + 1 + c.length := by lia
    show (b, x) :: numb (b + 1) (c ++ [s]) = (b, x) :: (numb (b + 1) c ++ [(b + ((c.length + 1 : Nat) : Int), s)])
    rw [numb_snoc s (b + 1) c, e]
theorem numb_len : ∀ (b : Int) (c : List S), (numb b c).length = c.length
  | _, [] => rfl
  | b, _ :: c => congrArg Nat.succ (numb_len (b + 1) c)
theorem numb_ge : ∀ (b : Int) (c : List S), ∀ p ∈ numb b c, b ≤ p.1
  | _, [], _, h => by cases h
  | b, s :: c, p, h => by
    rcases List.mem_cons.mp h with h | h
    · subst h; exact Int.le_refl _
    · exact Int.le_trans (Int.le_add_one (Int.le_refl b)) (numb_ge (b + 1) c p h)
noncomputable def geq (b : Int) : V → Bool
  | .tup (.int n :: _) => decide (b ≤ n)
  | _ => false
noncomputable def LnForm (v : V) : Prop := ∃ n i, v = .tup [.int n, .ref i]
theorem isLines_form {σ : St} {lo hi : Nat} : ∀ {s : List (Int × S)} ⦃l : List V⦄, IsLines σ lo hi s l → ∀ v ∈ l, LnForm v
  | [] => by
    intro _ h v hv
    rw [show _ = [] from h] at hv; cases hv
  | (n, s) :: r => by
    intro _ z0_ v hv
    obtain ⟨i, w, l', e, _, _, h5⟩ := z0_
    rw [e] at hv
    rcases List.mem_cons.mp hv with hv | hv
    · exact ⟨n, i, hv⟩
    · exact isLines_form h5 v hv
theorem isLines_cnt {σ : St} {lo hi : Nat} (b : Int) : ∀ {s : List (Int × S)} ⦃l : List V⦄, IsLines σ lo hi s l → (l.filter (geq b)).length = (s.filter fun p => decide (b ≤ p.1)).length
  | [] => by
    intro _ h
    rw [show _ = [] from h]; rfl
  | (n, s) :: r => by
    intro _ z0_
    obtain ⟨i, v, l', e, _, _, h5⟩ := z0_
    subst e
    have ih := isLines_cnt b h5
    by_cases q : b ≤ n
    · rw [List.filter_cons_of_pos (show geq b (.tup [.int n, .ref i]) = true from decide_eq_true q), List.filter_cons_of_pos (p := fun p : Int × S => decide (b ≤ p.1)) (a := (n, s)) (decide_eq_true q), List.length_cons, List.length_cons, ih]
    · rw [List.filter_cons_of_neg (show ¬ geq b (.tup [.int n, .ref i]) = true from fun e => q (of_decide_eq_true e)), List.filter_cons_of_neg (p := fun p : Int × S => decide (b ≤ p.1)) (a := (n, s)) (fun e => q (of_decide_eq_true e)), ih]

theorem comp_eq {it : Its} {Tt : TF} {σ : St} {items : List V} {q : V → Bool} (hit : ∀ j acc, ItIs it j (σ ++ [.list acc]) items[j]?) (hT : ∀ v ∈ items, ∀ acc, TRuns Tt [some v] (σ ++ [.list acc]) (q v)) (hz : items.length ≤ 1000000) :
    ∀ k j acc, j + k = items.length → acc.length ≤ j → Lc it Tt σ.length j (σ ++ [.list acc]) (σ ++ [.list (acc ++ (items.drop j).filter q)])
  | 0, j, acc, hj, ha => fun P hp => by
    have hj : items.length ≤ j := Nat.le_of_eq hj.symm
    have h0 : items[j]? = none := List.getElem?_eq_none hj
    rw [List.drop_eq_nil_of_le hj, List.filter_nil, List.append_nil] at hp
    refine ⟨1, hit j acc _ ?_⟩
    rw [h0]; exact hp
  | k + 1, j, acc, hj, ha => fun P hp => by
    have hlt : j < items.length := hj ▸ Nat.lt_add_of_pos_right (Nat.succ_pos k)
    have hj' : j + 1 + k = items.length := (Nat.succ_add_eq_add_succ j k).trans hj
    rw [List.drop_eq_getElem_cons hlt] at hp
    by_cases qq : q items[j] = true
    · rw [List.filter_cons_of_pos qq, List.append_cons acc] at hp
      obtain ⟨n, ih⟩ := comp_eq hit hT hz k (j + 1) (acc ++ [items[j]]) hj' (by rw [List.length_append]; exact Nat.succ_le_succ ha) P hp
      refine ⟨n + 1, hit j acc _ ?_⟩
      rw [List.getElem?_eq_getElem hlt]
      refine hT _ (List.getElem_mem hlt) acc (fun r σ1 => condP r (rdL σ.length σ1 fun l => compG it Tt σ.length n (j + 1) (σ1.set σ.length (.list (l ++ [items[j]]))) P) (compG it Tt σ.length n (j + 1) σ1 P)) ?_
      rw [qq]
      obtain ⟨os, ih⟩ := ih
      refine condT ⟨.l acc :: os, ⟨get_end, Nat.le_trans ha (Nat.le_trans (Nat.le_of_lt hlt) hz)⟩, ?_⟩
      show compG it Tt σ.length n (j + 1) ((σ ++ [O.list acc]).set σ.length (.list (acc ++ [items[j]]))) P os
      rw [List.set_append_right _ _ (Nat.le_refl _), Nat.sub_self]
      exact ih
    · rw [List.filter_cons_of_neg qq] at hp
      obtain ⟨n, ih⟩ := comp_eq hit hT hz k (j + 1) acc hj' (Nat.le_succ_of_le ha) P hp
      refine ⟨n + 1, hit j acc _ ?_⟩
      rw [List.getElem?_eq_getElem hlt]
      refine hT _ (List.getElem_mem hlt) acc (fun r σ1 => condP r (rdL σ.length σ1 fun l => compG it Tt σ.length n (j + 1) (σ1.set σ.length (.list (l ++ [items[j]]))) P) (compG it Tt σ.length n (j + 1) σ1 P)) ?_
      rw [Bool.eq_false_iff.mpr qq]
      exact condF ih

structure LX where
  σ0 : St
  ln : Nat
  pre : List (Int × S)
  base : Int
inductive LS (X : LX) (cur : List S) (σ : St) : Prop where
  | mk (L : List V) (v : Vw X.ln X.σ0 [(X.ln, .list L)] σ) (il : IsLines σ (X.ln + 1) σ.length (X.pre ++ numb X.base cur) L) (len : L.length = X.pre.length + cur.length)
section
variable {G : Prop} {X : LX} {cur : List S} {σ τ : St}
theorem LS.app (h : LS X cur σ) : LS X cur (σ ++ τ) := by
  obtain ⟨L, v, il, len⟩ := h
  exact ⟨L, v.app, il.mono (Nat.le_refl _) (by rw [List.length_append]; exact Nat.le_add_right _ _) fun i _ h => List.getElem?_append_left h, len⟩
theorem put_ {s : S} {st : V} (hpre : ∀ p ∈ X.pre, p.1 < X.base) (h : LS X cur σ) (hz : X.pre.length + cur.length ≤ 10000) (hs : IsSt σ (X.ln + 1) σ.length s st)
    (kk : ∀ σ', Runs F_put [.ref X.ln, .int X.base, st] σ .none σ' → LS X (cur ++ [s]) σ' → (∀ i, i < σ.length → i ≠ X.ln → σ'[i]? = σ[i]?) → σ.length ≤ σ'.length → G) : G := by
  obtain ⟨L, v, il, len⟩ := h
  have h1 : σ[X.ln]? = some (.list L) := v.at_ 0 _ _ rfl
  have hin := get_lt h1
  have hL : L.length ≤ 10000 := len ▸ hz
  have hL6 : L.length ≤ 1000000 := Nat.le_trans hL (by decide)
  have hcnt : (L.filter (geq X.base)).length = cur.length := by
    rw [isLines_cnt X.base il, List.filter_append]
    have e1 : X.pre.filter (fun p => decide (X.base ≤ p.1)) = [] := List.filter_eq_nil_iff.mpr fun p hp q => Int.not_lt.mpr (of_decide_eq_true q) (hpre p hp)
    have e2 : (numb X.base cur).filter (fun p => decide (X.base ≤ p.1)) = numb X.base cur := List.filter_eq_self.mpr fun p hp => decide_eq_true (numb_ge X.base cur p hp)
    rw [e1, e2, List.nil_append, numb_len]
  have hf : (L.filter (geq X.base)).length ≤ 1000000 := Nat.le_trans (List.length_filter_le _ _) hL6
  have hc := comp_eq (it := itList X.ln) (Tt := tCmp cGe (eIdx (eLoc 0) (eC (.int 0))) (eC (.int X.base))) (σ := σ) (items := L) (q := geq X.base) (fun j acc => by
    cases e : L[j]? with
    | none => exact it_end (nth_l (get_app h1) e)
    | some v => exact it_at (nth_l (get_app h1) e)) (fun v hv acc => by
    obtain ⟨n, i, rfl⟩ := isLines_form il v hv
    exact truns_of [] fun P os hp => hp) hL6 L.length 0 [] (Nat.zero_add _) (Nat.le_refl _)
  rw [List.drop_zero, List.nil_append] at hc
  have g2 : (σ ++ [O.list (L.filter (geq X.base))])[X.ln]? = some (.list L) := get_app h1
  have hl2 : ((σ ++ [O.list (L.filter (geq X.base))]) ++ [O.list [st]]).length = σ.length + 2 := by rw [List.length_append, List.length_append]; rfl
  have v2 := (v.app (τ := [O.list (L.filter (geq X.base))])).app (τ := [O.list [st]])
  have kp : ∀ i, i < σ.length → i ≠ X.ln → (((σ ++ [O.list (L.filter (geq X.base))]) ++ [O.list [st]]).set X.ln (O.list (L ++ [V.tup [.int (X.base + (L.filter (geq X.base)).length), .ref (σ ++ [O.list (L.filter (geq X.base))]).length]])))[i]? = σ[i]? := fun i h1 h2 => (set_other h2).trans ((List.getElem?_append_left (by rw [List.length_append]; exact Nat.lt_add_right _ h1)).trans (List.getElem?_append_left h1))
  have hln : (((σ ++ [O.list (L.filter (geq X.base))]) ++ [O.list [st]]).set X.ln (O.list (L ++ [V.tup [.int (X.base + (L.filter (geq X.base)).length), .ref (σ ++ [O.list (L.filter (geq X.base))]).length]]))).length = σ.length + 2 := by rw [List.length_set, hl2]
  refine kk _ (runs_of [.c .none (σ ++ [O.list (L.filter (geq X.base))]), .l (L.filter (geq X.base)), .l L] fun P os hp => (And.intro (isl h1) <| And.intro hc <| And.intro (ls_l get_end hf) <| And.intro (isl g2) <| And.intro (ls_l (get_app (τ := [O.list [st]]) g2) hL6) hp :)) ⟨_, v2.set 0 _ rfl, ?_, by rw [List.length_append, List.length_append (as := cur), len]; exact Nat.add_assoc ..⟩ kp (by rw [hln]; exact Nat.le_add_right _ _)
  generalize hσ' : (((σ ++ [O.list (L.filter (geq X.base))]) ++ [O.list [st]]).set X.ln (O.list (L ++ [V.tup [.int (X.base + (L.filter (geq X.base)).length), .ref (σ ++ [O.list (L.filter (geq X.base))]).length]]))) = σ' at kp hln
  have k2 : ∀ i, X.ln + 1 ≤ i → i < σ.length → σ'[i]? = σ[i]? := fun i h1 h2 => kp i h2 (Nat.ne_of_gt h1)
  have g3 : σ'[(σ ++ [O.list (L.filter (geq X.base))]).length]? = some (.list [st]) := by
    rw [← hσ']; exact (set_other (by rw [List.length_append]; exact Nat.ne_of_gt (Nat.lt_succ_of_lt hin))).trans get_end
  rw [numb_snoc, ← List.append_assoc, hln, hcnt]
  refine IsLines.app (show IsLines σ' _ _ [(X.base + cur.length, s)] _ from ⟨_, st, [], rfl, ⟨?_, ?_, g3⟩, IsSt.mono (Nat.le_refl _) (Nat.le_add_right _ _) k2 hs, rfl⟩) (il.mono (Nat.le_refl _) (Nat.le_add_right _ _) k2)
  · rw [List.length_append]; exact Nat.succ_le_succ (Nat.le_of_lt hin)
  · rw [List.length_append]; exact Nat.lt_succ_self _
end

noncomputable def lineSm : Sm → S
  | .note a => .row (.rem (toString a))
  | .add k => .row (.letA "X" k)
  | .choice a b c => .ifs a b c
  | .call a b => .row (if b = 1 then .ongo a else .gosub (if a % 2 = 0 then 1000 else 2000))
noncomputable def linesB : B → List S
  | .nil => []
  | .sm s r => lineSm s :: linesB r
  | .loop v b l p body r => .row (.for_ v b l (some p)) :: (linesB body ++ .row (.next [v]) :: linesB r)
  | .whil w lim body r => .row (.letC (wn w) 0) :: .row (.whil (wn w) lim) :: (linesB body ++ .row (.letA (wn w) 1) :: .row .wend :: linesB r)
noncomputable abbrev linM (X : LX) (i : Nat) (x : Sl) : Ms := [some (.ref i), some (.ref X.ln), some (.int X.base), some (vNam "X"), x.a, x.b, x.c, x.d, x.e, x.f]
noncomputable abbrev linR : SF := sSeq (sFor (iVal (eLoc 5)) (gName 9) L0_lines) sNil
theorem sml_of {a : Int} {n : Int} (h0 : 0 ≤ a) (h : a < n) (hn : n ≤ 1000000 := by decide) : -1000000 < a ∧ a < 1000000 := ⟨Int.lt_of_lt_of_le (by decide) h0, Int.lt_of_lt_of_le h hn⟩

section
variable {G : Prop} {X : LX} {cur : List S} {σ τ : St} {H : FF} {i n ri : Nat} {x : Sl}
theorem LS.lt (h : LS X cur σ) : X.ln < σ.length := by obtain ⟨L, v, il, len⟩ := h; exact v.lt (k := 0) rfl
theorem LS.old (h : LS X cur σ) {j : Nat} {o : O} (hj : j < X.ln) (e : X.σ0[j]? = some o) : σ[j]? = some o := by obtain ⟨L, v, il, len⟩ := h; exact v.get hj e
theorem row1_ {s : S} {st : V} (hpre : ∀ p ∈ X.pre, p.1 < X.base) (h : LS X cur σ) (hz : X.pre.length + cur.length ≤ 10000) (hs : IsSt σ (X.ln + 1) σ.length s st) (hri : σ[ri]? = some (.list [st])) (hne : ri ≠ X.ln)
    (kk : ∀ x' σ', SRuns linR (linM X i { x with b := some (.ref ri) }) σ .next (linM X i x') σ' → LS X (cur ++ [s]) σ' → G) : G :=
  put_ hpre h hz hs fun σ' r g k _ => kk { x with b := some (.ref ri), f := some st } σ' (sruns_of [.n 2, .v st, .c .none σ', .d] fun P os hp => (And.intro (isl hri) <| And.intro (nth_l (k := 0) hri rfl) <| And.intro r <| And.intro (nth_l (k := 1) ((k ri (get_lt hri) hne).trans hri) rfl) hp :)) g
theorem row2_ {s s' : S} {st st' : V} (hpre : ∀ p ∈ X.pre, p.1 < X.base) (h : LS X cur σ) (hz : X.pre.length + cur.length + 1 ≤ 10000) (hs : IsSt σ (X.ln + 1) σ.length s st) (hs' : ∀ σ hi, IsSt σ (X.ln + 1) hi s' st') (hri : σ[ri]? = some (.list [st, st'])) (hne : ri ≠ X.ln)
    (kk : ∀ x' σ', SRuns linR (linM X i { x with b := some (.ref ri) }) σ .next (linM X i x') σ' → LS X (cur ++ [s] ++ [s']) σ' → G) : G :=
  put_ hpre h (sz_of hz) hs fun σ1 r1 g1 k1 l1 => put_ hpre g1 (by rw [List.length_append]; exact hz) (hs' σ1 _) fun σ' r g k _ =>
    have h1 := (k1 ri (get_lt hri) hne).trans hri
    kk { x with b := some (.ref ri), f := some st' } σ' (sruns_of [.n 3, .v st, .c .none σ1, .v st', .c .none σ', .d] fun P os hp => (And.intro (isl hri) <| And.intro (nth_l (k := 0) hri rfl) <| And.intro r1 <| And.intro (nth_l (k := 1) h1 rfl) <| And.intro r <| And.intro (nth_l (k := 2) ((k ri (get_lt h1) hne).trans h1) rfl) hp :)) g

theorem new_ne (h : LS X cur σ) : (σ ++ τ).length ≠ X.ln := by rw [List.length_append]; exact Nat.ne_of_gt (Nat.lt_add_right _ h.lt)
theorem new_sub {l : List V} (h : LS X cur σ) {o : O} : Sub (σ ++ [.list l] ++ [o]) (X.ln + 1) (σ ++ [O.list l] ++ [o]).length σ.length l := ⟨h.lt, by rw [List.length_append, List.length_append]; exact Nat.lt_succ_of_lt (Nat.lt_succ_self _), get_app get_end⟩
theorem sub_app {l : List V} {lo j : Nat} {o : O} (h : Sub σ lo σ.length j l) : Sub (σ ++ [o]) lo (σ ++ [o]).length j l := ⟨h.1, by rw [List.length_append]; exact Nat.lt_succ_of_lt h.2.1, get_app h.2.2⟩
theorem lsm_ {d : Nat} {s : Sm} (hpre : ∀ p ∈ X.pre, p.1 < X.base) (h : LS X cur σ) (hw : WFs d s) (hz : X.pre.length + cur.length ≤ 10000)
    (kk : ∀ x' σ', SRuns (L1_lines H) (linM X i { x with a := some (encSm s) }) σ .next (linM X i x') σ' → LS X (cur ++ [lineSm s]) σ' → G) : G := by
  have ne0 : σ.length ≠ X.ln := Nat.ne_of_gt h.lt
  cases s with
  | note a => exact row1_ (x := { x with a := some (encSm (.note a)) }) (i := i) (s := .row (.rem (toString a))) hpre h.app hz rfl get_end ne0 fun x' σ' r g => kk x' σ' (seq_r (sruns_of [.d] fun P os hp => (And.intro (sml_of hw.1 hw.2) hp :)) r) g
  | add k => exact row1_ (x := { x with a := some (encSm (.add k)) }) (i := i) (s := .row (.letA "X" k)) hpre h.app hz rfl get_end ne0 fun x' σ' r g => kk x' σ' (seq_r (sruns_of [.d, .d] fun P os hp => hp) r) g
  | choice a b c =>
    obtain ⟨-, hb, hc⟩ := hw
    have h2 := h.app (τ := [O.list (told b)])
    have h3 := h2.app (τ := [O.list [.tup [.str "REM", .str "f"]]])
    have h4 := h3.app (τ := [O.list (elsL c)])
    have s3 := sub_app (o := .list [.tup [.str "IF", vTwo "<" "X" a, .ref σ.length, .ref ((σ ++ [O.list (told b)]) ++ [O.list [.tup [.str "REM", .str "f"]]]).length]]) (sub_app (o := .list (elsL c)) (new_sub (l := told b) (o := .list [.tup [.str "REM", .str "f"]]) h))
    have s4 := new_sub (l := elsL c) (o := .list [.tup [.str "IF", vTwo "<" "X" a, .ref σ.length, .ref ((σ ++ [O.list (told b)]) ++ [O.list [.tup [.str "REM", .str "f"]]]).length]]) h3
    exact row1_ (x := { x with a := some (encSm (.choice a b c)), c := some (.ref σ.length) }) (i := i) (s := .ifs a b c) hpre h4.app hz ⟨_, _, rfl, s3, s4⟩ get_end (new_ne h3) fun x' σ' r g => kk x' σ' (seq_r (sruns_of [.d, .d, .d, .l [.tup [.str "REM", .str "f"]]] fun P os hp =>
      (And.intro (sml_of hb.1 hb.2) <| And.intro (ts_len' b hb.1 (Int.lt_trans hb.2 (by decide))) <| And.intro (lst1 get_end) <| And.intro (⟨(by decide : 1 ≤ 1000), Int.le_trans (by decide) hc.1, Int.le_of_lt (Int.lt_trans hc.2 (by decide))⟩ : [V.tup [.str "REM", .str "f"]].length ≤ 1000 ∧ -1000 ≤ c ∧ c ≤ 1000) hp :)) r) g
  | call a b =>
    have h2 := h.app (τ := [O.list [.int 1000, .int 2000]])
    rcases (by have := hw.2.2; lia : b = 0 ∨ b = 1) with q | q <;> subst q
    · by_cases hm : a % 2 = 0
      · have e : lineSm (.call a 0) = .row (.gosub 1000) := by show S.row (if (0:Int) = 1 then _ else _) = _; rw [if_neg (by decide), if_pos hm]
        rw [e] at kk
        exact row1_ (x := { x with a := some (encSm (.call a 0)), d := some (.ref σ.length) }) (i := i) (s := .row (.gosub 1000)) hpre h2.app hz rfl get_end (new_ne h) fun x' σ' r g => kk x' σ' (seq_r (sruns_of [.d, .d, .d, .d, .d, .v (.int 1000)] fun P os hp => (And.intro (by decide : (2:Int) > 0) <| And.intro (hm ▸ it_l (k := 0) get_end rfl : ItI (σ ++ [O.list [.int 1000, .int 2000]]) σ.length (a % 2) (.int 1000)) hp :)) r) g
      · have hm1 : a % 2 = 1 := by lia
        have e : lineSm (.call a 0) = .row (.gosub 2000) := by show S.row (if (0:Int) = 1 then _ else _) = _; rw [if_neg (by decide), if_neg hm]
        rw [e] at kk
        exact row1_ (x := { x with a := some (encSm (.call a 0)), d := some (.ref σ.length) }) (i := i) (s := .row (.gosub 2000)) hpre h2.app hz rfl get_end (new_ne h) fun x' σ' r g => kk x' σ' (seq_r (sruns_of [.d, .d, .d, .d, .d, .v (.int 2000)] fun P os hp => (And.intro (by decide : (2:Int) > 0) <| And.intro (hm1 ▸ it_l (k := 1) get_end rfl : ItI (σ ++ [O.list [.int 1000, .int 2000]]) σ.length (a % 2) (.int 2000)) hp :)) r) g
    · exact row1_ (x := { x with a := some (encSm (.call a 1)), d := some (.ref σ.length) }) (i := i) (s := .row (.ongo a)) hpre h2.app hz ⟨_, rfl, new_sub h⟩ get_end (new_ne h) fun x' σ' r g => kk x' σ' (seq_r (sruns_of [.d, .d, .d, .d, .d] fun P os hp => hp) r) g

noncomputable def LinH (X : LX) (H : FF) (n : Nat) : Prop := ∀ (d : Nat) (b : B) (i : Nat) (l : List V) (c c' : Int) (cur : List S) (σ : St) (G : Prop), d < n → WF d c b c' → i < X.ln → X.σ0[i]? = some (.list l) → IsB X.σ0 0 X.ln b l → LS X cur σ → X.pre.length + cur.length + (linesB b).length ≤ 10000 →
  (∀ σ', Runs H [.ref i, .ref X.ln, .int X.base] σ .none σ' → LS X (cur ++ linesB b) σ' → G) → G
theorem app_cons {α : Type} (a b : List α) (s : α) : a ++ s :: b = a ++ [s] ++ b := List.append_cons a s b
theorem lines_loop {dm : Nat} (hpre : ∀ p ∈ X.pre, p.1 < X.base) (hH : LinH X H n) (hn : dm ≤ n) {l : List V} (hi : i < X.ln) (hl : X.σ0[i]? = some (.list l)) :
    ∀ (b : B), ∀ (d j : Nat) (c c' : Int) (cur : List S) (σ : St) (x : Sl) (l1 : List V) (G : Prop), d ≤ dm → WF d c b c' → l.drop j = l1 → IsB X.σ0 0 X.ln b l1 → LS X cur σ → X.pre.length + cur.length + (linesB b).length ≤ 10000 →
      (∀ x' σ', Lp (itList i) (gName 4) (L1_lines H) j (linM X i x) σ .next (linM X i x') σ' → LS X (cur ++ linesB b) σ' → G) → G
  | .nil => by
    intro d j c c' cur σ x l1 G hd wf q hb g hz kk
    exact kk x σ (lp_end (it_end (nth_l (g.old hi hl) (List.getElem?_eq_none_iff.mpr (List.drop_eq_nil_iff.mp (q.trans hb)))))) (by rw [linesB, List.append_nil]; exact g)
  | .sm s r => by
    intro d j c c' cur σ x l1 G hd z0_ q z1_ g hz kk
    obtain ⟨hw, wf⟩ := z0_
    obtain ⟨l', e1, hr⟩ := z1_
    have hq := drop_cons (q.trans e1)
    rw [linesB, app_cons] at kk
    refine lsm_ (x := x) (i := i) (H := H) hpre g hw (sz_of hz) fun x1 σ1 r1 g1 => lines_loop hpre hH hn hi hl r d (j + 1) c c' _ σ1 x1 l' G hd wf hq.2 hr g1 ?_ fun x' σ' l g' => kk x' σ' (lp_step (step_n (it_at (nth_l (g.old hi hl) hq.1)) r1) l) g'
    rw [List.length_append]; exact Nat.le_trans (Nat.le_of_eq (by show X.pre.length + (cur.length + 1) + _ = X.pre.length + cur.length + ((linesB r).length + 1); lia)) hz
  | .loop v bg la p body r => by
    intro d j c c' cur σ x l1 G hd z0_ q z1_ g hz kk
    obtain ⟨C, c1, hc1, wb, wf⟩ := z0_
    obtain ⟨l', ib, lb, e1, hs, hb, hr⟩ := z1_
    have hq := drop_cons (q.trans e1)
    rw [linesB, app_cons, ← List.append_assoc, app_cons] at kk
    rw [linesB, List.length_cons, List.length_append, List.length_cons] at hz
    refine put_ hpre g (by lia) (s := .row (.for_ v bg la (some p))) (st := .tup [.str "FOR", .str v, vWh bg, vWh la, vWh p]) rfl fun σ1 r1 g1 _ _ => hH (d - 1) body ib lb c c1 _ σ1 G (Nat.lt_of_lt_of_le (Nat.sub_lt C.hd.1 (by decide)) (Nat.le_trans hd hn)) wb hs.2.1 hs.2.2 hb g1 (by rw [List.length_append]; show X.pre.length + (cur.length + 1) + _ ≤ _; lia) fun σ2 r2 g2 => ?_
    refine row1_ (x := { x with a := some (.tup [.str "for", .str v, .int bg, .int la, .int p, .ref ib]), e := some (vNam v) }) (i := i) (s := .row (.next [v])) hpre (g2.app (τ := [.list [.str v]])).app (by rw [List.length_append, List.length_append]; show X.pre.length + (cur.length + 1 + _) ≤ _; lia) ⟨_, rfl, new_sub g2⟩ get_end (new_ne g2) fun x3 σ3 r3 g3 => ?_
    refine lines_loop hpre hH hn hi hl r d (j + 1) c1 c' _ σ3 x3 l' G hd wf hq.2 hr g3 (by rw [List.length_append, List.length_append, List.length_append]; show X.pre.length + (cur.length + 1 + _ + 1) + _ ≤ _; lia) fun x' σ' l g' => kk x' σ' (lp_step (step_n (it_at (nth_l (g.old hi hl) hq.1)) (seq_r (sruns_of [.c .none σ1, .c .none σ2, .d] fun P os hp => (And.intro r1 <| And.intro r2 hp :)) r3)) l) g'
  | .whil w lim body r => by
    intro d j c c' cur σ x l1 G hd z0_ q z1_ g hz kk
    obtain ⟨C, hw, c1, hc1, wb, wf⟩ := z0_
    obtain ⟨l', ib, lb, e1, hs, hb, hr⟩ := z1_
    have hq := drop_cons (q.trans e1)
    rw [linesB, app_cons, app_cons, ← List.append_assoc, app_cons, app_cons] at kk
    rw [linesB, List.length_cons, List.length_cons, List.length_append, List.length_cons, List.length_cons] at hz
    refine put_ hpre g (by lia) (s := .row (.letC (wn w) 0)) (st := .tup [.str "LET", vNam (wn w), vWh 0]) rfl fun σ1 r1 g1 _ _ => put_ hpre g1 (by rw [List.length_append]; show X.pre.length + (cur.length + 1) ≤ _; lia) (s := .row (.whil (wn w) lim)) (st := .tup [.str "WHILE", vTwo "<" (wn w) lim]) rfl fun σ2 r2 g2 _ _ => ?_
    refine hH (d - 1) body ib lb (c + 1) c1 _ σ2 G (Nat.lt_of_lt_of_le (Nat.sub_lt C.hd.1 (by decide)) (Nat.le_trans hd hn)) wb hs.2.1 hs.2.2 hb g2 (by rw [List.length_append, List.length_append]; show X.pre.length + (cur.length + 1 + 1) + _ ≤ _; lia) fun σ3 r3 g3 => ?_
    have g4 := (g3.app (τ := [.list [.str (wn w)]])).app (τ := [.list [.tup [.str "NEXT", .ref σ3.length]]])
    refine row2_ (x := { x with a := some (.tup [.str "while", .str (wn w), .int lim, .ref ib]), e := some (vNam (wn w)) }) (i := i) (s := .row (.letA (wn w) 1)) (s' := .row .wend) hpre g4.app (by rw [List.length_append, List.length_append, List.length_append]; show X.pre.length + (cur.length + 1 + 1 + _) + 1 ≤ _; lia) rfl (fun _ _ => rfl) get_end (new_ne (g3.app (τ := [.list [.str (wn w)]]))) fun x3 σ5 r5 g5 => ?_
    refine lines_loop hpre hH hn hi hl r d (j + 1) c1 c' _ σ5 x3 l' G hd wf hq.2 hr g5 (by rw [List.length_append, List.length_append, List.length_append, List.length_append, List.length_append]; show X.pre.length + (cur.length + 1 + 1 + _ + 1 + 1) + _ ≤ _; lia) fun x' σ' l g' => kk x' σ' (lp_step (step_n (it_at (nth_l (g.old hi hl) hq.1)) (seq_r (sruns_of [.c .none σ1, .c .none σ2, .c .none σ3, .d] fun P os hp => (And.intro r1 <| And.intro r2 <| And.intro r3 hp :)) r5)) l) g'
theorem lines_ok (hpre : ∀ p ∈ X.pre, p.1 < X.base) : ∀ n, LinH X (F_lines n) n
  | 0 => fun d b i l c c' cur σ G hd => absurd hd (Nat.not_lt_zero _)
  | n + 1 => fun d b i l c c' cur σ G hd wf hi hl hb g hz kk => lines_loop hpre (lines_ok hpre n) (Nat.le_refl _) hi hl b d 0 c c' cur σ {} l G (Nat.le_of_lt_succ hd) wf rfl hb g hz fun x' σ' lp g' =>
    kk σ' (runs_of [.f .next (linM X i x') σ'] fun P os hp => (And.intro (isl (g.old hi hl)) <| And.intro lp hp :)) g'
end

noncomputable def fAt (N : Nat) : List (String × V) := [("rows", .ref (N + 2)), ("places", .ref (N + 3)), ("data", .ref (N + 4)), ("pairs", .ref (N + 5)), ("loops", .ref (N + 6)), ("fns", .ref (N + 7))]
noncomputable abbrev fv (N : Nat) (L : List V) (pl pr lp : List (Int × V)) : List (Nat × O) := [(N, .attrs (fAt N)), (N + 1, .inst 380 N), (N + 2, .list L), (N + 3, .dictI pl), (N + 5, .dictI pr), (N + 6, .dictI lp)]
noncomputable abbrev FS (N : Nat) (σ0 : St) (L : List V) (pl pr lp : List (Int × V)) (σ : St) : Prop := Vw N σ0 (fv N L pl pr lp) σ
structure FA (N : Nat) (σ : St) : Prop where
  a : σ[N]? = some (.attrs (fAt N))
  i : σ[N + 1]? = some (.inst 380 N)
section
variable {N : Nat} {σ : St}
theorem FA.rows (h : FA N σ) : Attr σ (N + 1) 380 "rows" (.ref (N + 2)) := attr_of h.i h.a rfl
theorem FA.places (h : FA N σ) : Attr σ (N + 1) 380 "places" (.ref (N + 3)) := attr_of h.i h.a rfl
theorem FA.pairs (h : FA N σ) : Attr σ (N + 1) 380 "pairs" (.ref (N + 5)) := attr_of h.i h.a rfl
theorem FA.loops (h : FA N σ) : Attr σ (N + 1) 380 "loops" (.ref (N + 6)) := attr_of h.i h.a rfl
end
noncomputable abbrev vRow (n : Int) (v : V) : V := .tup [.int n, v]
section
variable {G : Prop} {N : Nat} {σ0 σ : St} {L : List V} {pl pr lp : List (Int × V)} {n : Int} {H : FF}
theorem FS.fa (h : FS N σ0 L pl pr lp σ) : FA N σ := ⟨h.at_ 0 _ _ rfl, h.at_ 1 _ _ rfl⟩
theorem FS.lst (h : FS N σ0 L pl pr lp σ) (hz : L.length ≤ 5000) : Lst σ (N + 2) L := ⟨h.at_ 2 _ _ rfl, Nat.le_trans hz (by decide)⟩
theorem len_snoc {α : Type} {L : List α} {x : α} : (L ++ [x]).length = L.length + 1 := List.length_append
theorem put_row_ {v : V} (h : FS N σ0 L pl pr lp σ) (hz : L.length < 5000) (kk : ∀ σ', Runs F_put_row_of [.ref (N + 1), .int n, v] σ (.int L.length) σ' → FS N σ0 (L ++ [vRow n v]) pl pr lp σ' → G) : G := by
  have g : FS N σ0 (L ++ [vRow n v]) pl pr lp _ := h.set 2 (.list (L ++ [vRow n v])) rfl
  have e : (((L ++ [vRow n v]).length : Nat) : Int) - 1 = L.length := by rw [len_snoc]; lia
  refine kk _ (runs_of [.v (.ref (N + 2)), .l L, .v (.ref (N + 2)), .l (L ++ [vRow n v])] fun P os hp => ?_) g
  rw [← e] at hp
  exact (And.intro h.fa.rows <| And.intro (isl (h.lst (Nat.le_of_lt hz)).1) <| And.intro (h.lst (Nat.le_of_lt hz)) <| And.intro g.fa.rows <| And.intro (g.lst (len_snoc ▸ hz)) hp :)

noncomputable def NoIf (v : V) : Prop := ∃ t r, v = .tup (.str t :: r) ∧ t ≠ "IF"
noncomputable abbrev paM (N : Nat) (n : Int) (li : Nat) (x : Option V) : Ms := [some (.ref (N + 1)), some (.int n), some (.ref li), x]
theorem put_one {v : V} {li : Nat} (h : FS N σ0 L pl pr lp σ) (hno : NoIf v) (hz : L.length < 5000) (kk : ∀ σ', SRuns (L0_put_all H) (paM N n li (some v)) σ .next (paM N n li (some v)) σ' → FS N σ0 (L ++ [vRow n v]) pl pr lp σ' → G) : G := by
  obtain ⟨t, r, rfl, ht⟩ := hno
  exact put_row_ h hz fun σ' r1 g => kk σ' (sruns_of [.b false, .c (.int L.length) σ'] fun P os hp => (And.intro (decide_eq_false ht) <| And.intro r1 hp :)) g
theorem put_all0 {m li : Nat} (h : FS N σ0 L pl pr lp σ) (hl : σ[li]? = some (.list [])) : Runs (F_put_all (m + 1)) [.ref (N + 1), .int n, .ref li] σ .none σ :=
  runs_of [.n 1, .d] fun P os hp => (And.intro (isl hl) <| And.intro (nth_l (k := 0) hl rfl) hp :)
theorem put_all1 {v : V} {m li : Nat} (h : FS N σ0 L pl pr lp σ) (hli : li < N) (hl : σ0[li]? = some (.list [v])) (hno : NoIf v) (hz : L.length < 5000) (kk : ∀ σ', Runs (F_put_all (m + 1)) [.ref (N + 1), .int n, .ref li] σ .none σ' → FS N σ0 (L ++ [vRow n v]) pl pr lp σ' → G) : G :=
  put_one (H := F_put_all m) (li := li) h hno hz fun σ' r g => kk σ' (runs_of [.f .next (paM N n li (some v)) σ'] fun P os hp => (And.intro (isl (h.get hli hl)) <| And.intro (lp_step (step_n (it_at (nth_l (k := 0) (h.get hli hl) rfl)) r) (lp_end (it_end (nth_l (k := 1) (g.get hli hl) rfl))) : Lp (itList li) (gName 3) (L0_put_all (F_put_all m)) 0 (paM N n li none) σ .next (paM N n li (some v)) σ') hp :)) g
theorem put_all2 {v w : V} {m li : Nat} (h : FS N σ0 L pl pr lp σ) (hli : li < N) (hl : σ0[li]? = some (.list [v, w])) (hno : NoIf v) (hno' : NoIf w) (hz : L.length + 1 < 5000) (kk : ∀ σ', Runs (F_put_all (m + 1)) [.ref (N + 1), .int n, .ref li] σ .none σ' → FS N σ0 (L ++ [vRow n v] ++ [vRow n w]) pl pr lp σ' → G) : G :=
  put_one (H := F_put_all m) (li := li) h hno (Nat.lt_of_succ_lt hz) fun σ1 r1 g1 => put_one (H := F_put_all m) (li := li) g1 hno' (len_snoc ▸ hz) fun σ' r g => kk σ' (runs_of [.f .next (paM N n li (some w)) σ'] fun P os hp => (And.intro (isl (h.get hli hl)) <| And.intro (lp_step (step_n (it_at (nth_l (k := 0) (h.get hli hl) rfl)) r1) (lp_step (step_n (it_at (nth_l (k := 1) (g1.get hli hl) rfl)) r) (lp_end (it_end (nth_l (k := 2) (g.get hli hl) rfl)))) : Lp (itList li) (gName 3) (L0_put_all (F_put_all m)) 0 (paM N n li none) σ .next (paM N n li (some w)) σ') hp :)) g

noncomputable abbrev vIfn (t : V) (k : Int) : V := .tup [.str "IFNOT", t, .int k]
noncomputable abbrev vJmp (k : Int) : V := .tup [.str "JUMP", .int k]
noncomputable abbrev vT1 (b : Int) : V := .tup [.str "REM", .str ("t" ++ toString b)]
noncomputable abbrev vT2 : V := .tup [.str "LET", vNam "X", vTwo "-" "X" 1]
noncomputable abbrev vE1 : V := .tup [.str "REM", .str "f"]
noncomputable def ifRows (n : Int) (at_ : Nat) (t : V) (b c : Int) : List V :=
  if c = 1 then [vRow n (vIfn t (at_ + 4 : Nat)), vRow n (vT1 b), vRow n vT2, vRow n (vJmp (at_ + 5 : Nat)), vRow n vE1]
  else [vRow n (vIfn t (at_ + 3 : Nat)), vRow n (vT1 b), vRow n vT2]
theorem set_at {α : Type} (L r : List α) (a b : α) : (L ++ a :: r).set L.length b = L ++ b :: r := by
  rw [List.set_append_right _ _ (Nat.le_refl _), Nat.sub_self]; rfl
theorem put_if_ {m : Nat} {i j : Nat} {t : V} {b c : Int} (h : FS N σ0 L pl pr lp σ) (hi : i < N) (hj : j < N) (hvs : σ0[i]? = some (.list (told b))) (hes : σ0[j]? = some (.list (elsL c))) (hc : c = 0 ∨ c = 1) (hz : L.length ≤ 4000)
    (kk : ∀ σ', Runs (F_put_if (F_put_all (m + 1))) [.ref (N + 1), .int n, .tup [.str "IF", t, .ref i, .ref j]] σ .none σ' → FS N σ0 (L ++ ifRows n L.length t b c) pl pr lp σ' → G) : G := by
  refine put_row_ (n := n) (v := .tup [.str "IF", t, .ref i, .ref j]) h (Nat.lt_of_le_of_lt hz (by decide)) fun σ1 r1 g1 => put_all2 (m := m) (n := n) g1 hi hvs ⟨_, _, rfl, by decide⟩ ⟨_, _, rfl, by decide⟩ (by rw [len_snoc]; lia) fun σ2 r2 g2 => ?_
  have g2 : FS N σ0 (L ++ [vRow n (.tup [.str "IF", t, .ref i, .ref j]), vRow n (vT1 b), vRow n vT2]) pl pr lp σ2 := by rw [List.append_assoc, List.append_assoc] at g2; exact g2
  generalize vRow n (.tup [.str "IF", t, .ref i, .ref j]) = r0 at g2
  have l3 : (L ++ [r0, vRow n (vT1 b), vRow n vT2]).length = L.length + 3 := List.length_append
  have in2 : ∀ {l : List V} {k : Nat}, L.length + k < l.length → (0 : Int) ≤ (L.length + k : Nat) ∧ ((L.length + k : Nat) : Int) < l.length := fun h => ⟨Int.natCast_nonneg _, Int.ofNat_lt.mpr h⟩
  have ls2 := g2.lst (by rw [l3]; lia)
  rcases hc with q | q <;> subst q
  · have e : (L ++ [r0, vRow n (vT1 b), vRow n vT2]).set L.length (vRow n (vIfn t (L ++ [r0, vRow n (vT1 b), vRow n vT2]).length)) = L ++ ifRows n L.length t b 0 := by rw [l3, set_at]; rfl
    exact kk _ (runs_of [.c (.int L.length) σ1, .c .none σ2, .l [], .v (.ref (N + 2)), .l (L ++ [r0, vRow n (vT1 b), vRow n vT2]), .v (.ref (N + 2)), .l (L ++ [r0, vRow n (vT1 b), vRow n vT2])] fun P os hp => (And.intro r1 <| And.intro r2 <| And.intro (⟨g2.get hj hes, (by decide : 0 ≤ 1000000)⟩ : Lst σ2 j []) <| And.intro g2.fa.rows <| And.intro ls2 <| And.intro g2.fa.rows <| And.intro ls2 <| And.intro (in2 (k := 0) (by rw [l3]; exact Nat.lt_add_of_pos_right (by decide))) hp :)) (by rw [← e]; exact g2.set 2 _ rfl)
  · refine put_row_ (n := n) (v := .tup [.str "IF", t, .ref i, .ref j]) g2 (by rw [l3]; lia) fun σ3 r3 g3 => ?_
    rw [l3] at r3
    have g3 : FS N σ0 (L ++ [r0, vRow n (vT1 b), vRow n vT2, vRow n (.tup [.str "IF", t, .ref i, .ref j])]) pl pr lp σ3 := by rw [List.append_assoc] at g3; exact g3
    generalize vRow n (.tup [.str "IF", t, .ref i, .ref j]) = r4 at g3
    have l4 : (L ++ [r0, vRow n (vT1 b), vRow n vT2, r4]).length = L.length + 4 := List.length_append
    have g4 : FS N σ0 (L ++ [vRow n (vIfn t (L.length + 4 : Nat)), vRow n (vT1 b), vRow n vT2, r4]) pl pr lp (σ3.set (N + 2) (.list ((L ++ [r0, vRow n (vT1 b), vRow n vT2, r4]).set L.length (vRow n (vIfn t (L ++ [r0, vRow n (vT1 b), vRow n vT2, r4]).length))))) := by
      rw [l4, set_at]; exact g3.set 2 _ rfl
    have ls3 := g3.lst (by rw [l4]; lia)
    refine put_all1 (m := m) (n := n) g4 hj hes ⟨_, _, rfl, by decide⟩ (by rw [List.length_append]; show L.length + 4 < 5000; lia) fun σ5 r5 g5 => ?_
    have g5 : FS N σ0 (L ++ [vRow n (vIfn t (L.length + 4 : Nat)), vRow n (vT1 b), vRow n vT2, r4, vRow n vE1]) pl pr lp σ5 := by rw [List.append_assoc] at g5; exact g5
    have l5 : (L ++ [vRow n (vIfn t (L.length + 4 : Nat)), vRow n (vT1 b), vRow n vT2, r4, vRow n vE1]).length = L.length + 5 := List.length_append
    have ls5 := g5.lst (by rw [l5]; lia)
    have e : (L ++ [vRow n (vIfn t (L.length + 4 : Nat)), vRow n (vT1 b), vRow n vT2, r4, vRow n vE1]).set (L.length + 3) (vRow n (vJmp (L ++ [vRow n (vIfn t (L.length + 4 : Nat)), vRow n (vT1 b), vRow n vT2, r4, vRow n vE1]).length)) = L ++ ifRows n L.length t b 1 := by
      rw [l5, List.set_append_right _ _ (Nat.le_add_right ..), Nat.add_sub_cancel_left]; rfl
    exact kk _ (runs_of [.c (.int L.length) σ1, .c .none σ2, .l (elsL 1), .c (.int (L.length + 3 : Nat)) σ3, .v (.ref (N + 2)), .l (L ++ [r0, vRow n (vT1 b), vRow n vT2, r4]), .v (.ref (N + 2)), .l (L ++ [r0, vRow n (vT1 b), vRow n vT2, r4]), .c .none σ5, .v (.ref (N + 2)), .l (L ++ [vRow n (vIfn t (L.length + 4 : Nat)), vRow n (vT1 b), vRow n vT2, r4, vRow n vE1]), .v (.ref (N + 2)), .l (L ++ [vRow n (vIfn t (L.length + 4 : Nat)), vRow n (vT1 b), vRow n vT2, r4, vRow n vE1])] fun P os hp =>
      (And.intro r1 <| And.intro r2 <| And.intro (⟨g2.get hj hes, (by decide : 1 ≤ 1000000)⟩ : Lst σ2 j (elsL 1)) <| And.intro r3 <| And.intro g3.fa.rows <| And.intro ls3 <| And.intro g3.fa.rows <| And.intro ls3 <| And.intro (in2 (k := 0) (by rw [l4]; exact Nat.lt_add_of_pos_right (by decide))) <| And.intro r5 <| And.intro g5.fa.rows <| And.intro ls5 <| And.intro g5.fa.rows <| And.intro ls5 <| And.intro (in2 (k := 3) (by rw [l5]; exact Nat.lt_succ_of_lt (Nat.lt_succ_self _))) hp :)) (by rw [← e]; exact g5.set 2 _ rfl)
end

noncomputable def rowsS (at_ : Nat) : S → List R
  | .row r => [r]
  | .ifs a b c => if c = 1 then [.ifnot a (at_ + 4), .rem ("t" ++ toString b), .letS "X" 1, .jump (at_ + 5), .rem "f"] else [.ifnot a (at_ + 3), .rem ("t" ++ toString b), .letS "X" 1]
noncomputable def lenS : S → Nat
  | .row _ => 1
  | .ifs _ _ c => if c = 1 then 5 else 3
noncomputable def rowsL (at_ : Nat) : List S → List R
  | [] => []
  | s :: r => rowsS at_ s ++ rowsL (at_ + lenS s) r
noncomputable def lenL : List S → Nat
  | [] => 0
  | s :: r => lenS s + lenL r
noncomputable def placesL (at_ : Nat) : List (Int × S) → List (Int × V) → List (Int × V)
  | [], P => P
  | (n, s) :: r, P => placesL (at_ + lenS s) r (setK n (.int at_) P)
theorem rowsS_len (at_ : Nat) (s : S) : (rowsS at_ s).length = lenS s := by
  cases s with
  | row r => rfl
  | ifs a b c => simp only [rowsS, lenS]; split <;> rfl
theorem lenS_b (s : S) : 0 < lenS s ∧ lenS s ≤ 5 := by
  cases s with
  | row r => exact (⟨by decide, by decide⟩ : 0 < 1 ∧ 1 ≤ 5)
  | ifs a b c => simp only [lenS]; split <;> exact ⟨by decide, by decide⟩
theorem rowsL_len : ∀ (at_ : Nat) (ss : List S), (rowsL at_ ss).length = lenL ss
  | _, [] => rfl
  | at_, s :: r => by rw [rowsL, List.length_append, rowsS_len, rowsL_len (at_ + lenS s) r]; rfl
theorem rowsL_app (b : List S) : ∀ (at_ : Nat) (a : List S), rowsL at_ (a ++ b) = rowsL at_ a ++ rowsL (at_ + lenL a) b
  | _, [] => rfl
  | at_, s :: r => by
    show rowsS at_ s ++ rowsL (at_ + lenS s) (r ++ b) = (rowsS at_ s ++ rowsL (at_ + lenS s) r) ++ rowsL (at_ + (lenS s + lenL r)) b
    rw [rowsL_app b (at_ + lenS s) r, List.append_assoc, Nat.add_assoc]
theorem lenL_app (b : List S) : ∀ (a : List S), lenL (a ++ b) = lenL a + lenL b
  | [] => (Nat.zero_add _).symm
  | s :: r => by show lenS s + lenL (r ++ b) = lenS s + lenL r + lenL b; rw [lenL_app b r, Nat.add_assoc]
theorem lenL_le : ∀ (ss : List S), lenL ss ≤ 5 * ss.length
  | [] => Nat.le_refl _
  | s :: r => by have := lenL_le r; have := (lenS_b s).2; show lenS s + lenL r ≤ 5 * (r.length + 1); lia

noncomputable def IsRows (σ : St) (lo hi : Nat) : List R → List V → Prop
  | [], L => L = []
  | r :: rs, L => ∃ n v l', L = vRow n v :: l' ∧ IsR σ lo hi r v ∧ IsRows σ lo hi rs l'
section
variable {σ : St} {lo hi : Nat}
theorem IsRows.app {rs' : List R} {L' : List V} (h' : IsRows σ lo hi rs' L') : ∀ {rs : List R} {L : List V}, IsRows σ lo hi rs L → IsRows σ lo hi (rs ++ rs') (L ++ L')
  | [], _, h => by rw [show _ = [] from h]; exact h'
  | r :: rs, _, h => let ⟨n, v, l, e, h1, h2⟩ := h; ⟨n, v, _, by rw [e]; rfl, h1, IsRows.app h' h2⟩
theorem IsRows.len : ∀ {rs : List R} {L : List V}, IsRows σ lo hi rs L → L.length = rs.length
  | [], _, h => by rw [show _ = [] from h]; rfl
  | r :: rs, _, h => let ⟨n, v, l, e, h1, h2⟩ := h; by rw [e]; exact congrArg Nat.succ h2.len
theorem IsRows.at : ∀ {rs : List R} {L : List V}, IsRows σ lo hi rs L → ∀ {j : Nat} {r : R}, rs[j]? = some r → ∃ n v, L[j]? = some (vRow n v) ∧ IsR σ lo hi r v
  | [], _, _, j, r, e => by cases e
  | q :: rs, _, h, 0, r, e => let ⟨n, v, l, e1, h1, h2⟩ := h; ⟨n, v, by rw [e1]; rfl, by cases e; exact h1⟩
  | q :: rs, _, h, j + 1, r, e => let ⟨n, v, l, e1, h1, h2⟩ := h; let ⟨n', v', q1, q2⟩ := h2.at (j := j) e; ⟨n', v', by rw [e1]; exact q1, q2⟩
noncomputable def vRowsS (n : Int) (at_ : Nat) : S → V → List V
  | .row _, v => [vRow n v]
  | .ifs a b c, _ => ifRows n at_ (vTwo "<" "X" a) b c
noncomputable def okS : S → Prop
  | .ifs _ _ c => c = 0 ∨ c = 1
  | .row (.next vs) => (∃ a, vs = [a]) ∨ ∃ a b, vs = [a, b]
  | _ => True
theorem isRows_S {s : S} {n : Int} {v : V} (at_ : Nat) (hc : okS s) (hs : IsSt σ lo hi s v) : IsRows σ lo hi (rowsS at_ s) (vRowsS n at_ s v) := by
  cases s with
  | row r => exact ⟨n, v, [], rfl, hs, rfl⟩
  | ifs a b c =>
    rcases (show c = 0 ∨ c = 1 from hc) with e | e <;> subst e
    · exact ⟨n, _, _, rfl, rfl, n, _, _, rfl, rfl, n, _, _, rfl, rfl, rfl⟩
    · exact ⟨n, _, _, rfl, rfl, n, _, _, rfl, rfl, n, _, _, rfl, rfl, n, _, _, rfl, rfl, n, _, _, rfl, rfl, rfl⟩
theorem noIf_R {r : R} {v : V} (h : IsR σ lo hi r v) : NoIf v := by
  cases r with
  | ongo a => obtain ⟨i, e, _⟩ := h; exact ⟨_, _, e, by decide⟩
  | next vs => obtain ⟨i, e, _⟩ := h; exact ⟨_, _, e, by decide⟩
  | _ => exact ⟨_, _, h, by decide⟩
end
theorem len_setK {α : Type} [DecidableEq α] (k : α) (x : V) (l : List (α × V)) : (setK k x l).length ≤ l.length + 1 := length_setK k x l
section
variable {G : Prop} {N : Nat} {σ0 σ : St} {L : List V} {pl pr lp : List (Int × V)} {n : Int}
theorem vRowsS_len {at_ : Nat} {s : S} {v : V} (hc : okS s) : (vRowsS n at_ s v).length = lenS s := by
  cases s with
  | row r => rfl
  | ifs a b c => rcases (show c = 0 ∨ c = 1 from hc) with e | e <;> subst e <;> rfl
theorem put_line_ {i : Nat} {s : S} {v : V} {m : Nat} (h : FS N σ0 L pl pr lp σ) (hi : i < N) (hv : σ0[i]? = some (.list [v])) (hc : okS s) (hs : IsSt σ0 0 N s v) (hz : L.length ≤ 4000)
    (kk : ∀ σ', Runs (F_put_all (m + 2)) [.ref (N + 1), .int n, .ref i] σ .none σ' → FS N σ0 (L ++ vRowsS n L.length s v) pl pr lp σ' → G) : G := by
  cases s with
  | row r => exact put_all1 h hi hv (noIf_R hs) (Nat.lt_of_le_of_lt hz (by decide)) kk
  | ifs a b c =>
    obtain ⟨ii, jj, rfl, s1, s2⟩ := hs
    exact put_if_ (m := m) (n := n) (t := vTwo "<" "X" a) h s1.2.1 s2.2.1 s1.2.2 s2.2.2 hc hz fun σ' r g => kk σ' (runs_of [.f .next (paM N n i (some (.tup [.str "IF", vTwo "<" "X" a, .ref ii, .ref jj]))) σ'] fun P os hp => (And.intro (isl (h.get hi hv)) <| And.intro
      (lp_step (step_n (it_at (nth_l (k := 0) (h.get hi hv) rfl)) (sruns_of [.c .none σ'] fun P os hp => (And.intro r hp :))) (lp_end (it_end (nth_l (k := 1) (g.get hi hv) rfl))) : Lp (itList i) (gName 3) (L0_put_all (F_put_all (m + 1))) 0 (paM N n i none) σ .next (paM N n i (some (.tup [.str "IF", vTwo "<" "X" a, .ref ii, .ref jj]))) σ') hp :)) g
end

structure G where
  ws : List Nat
  fs : List Nat
  pr : List (Int × V)
  lp : List (Int × V)
noncomputable def endL (at_ : Nat) : Nat → Nat → List Nat → List (Int × V) → List Nat × List (Int × V)
  | 0, _, fs, lp => (fs, lp)
  | k + 1, w, fs, lp => match fs with
    | [] => endL at_ k (w + 1) [] lp
    | f :: fs => endL at_ k (w + 1) fs (setK (f : Int) (.tup [.int at_, .int w]) lp)
noncomputable def gstep (at_ : Nat) : R → G → G
  | .whil _ _, g => { g with ws := at_ :: g.ws }
  | .wend, g => match g.ws with
    | [] => g
    | w :: ws => { g with ws := ws, pr := setK (at_ : Int) (.int w) (setK (w : Int) (.int at_) g.pr) }
  | .for_ _ _ _ _, g => { g with fs := at_ :: g.fs }
  | .next vs, g => { g with fs := (endL at_ vs.length 0 g.fs g.lp).1, lp := (endL at_ vs.length 0 g.fs g.lp).2 }
  | _, g => g
noncomputable def gath : Nat → List R → G → G
  | _, [], g => g
  | at_, r :: rs, g => gath (at_ + 1) rs (gstep at_ r g)
noncomputable def nls (l : List Nat) : List V := (l.map fun (k : Nat) => V.int (k : Int)).reverse
theorem nls_cons (k : Nat) (l : List Nat) : nls (k :: l) = nls l ++ [.int k] := List.reverse_cons
theorem nls_len (l : List Nat) : (nls l).length = l.length := by unfold nls; rw [List.length_reverse, List.length_map]
noncomputable def gz (g : G) : Nat := g.ws.length + g.fs.length + g.pr.length + g.lp.length
noncomputable abbrev GR (N mw mf : Nat) (σ0 : St) (L : List V) (pl : List (Int × V)) (g : G) (σ : St) : Prop := Vw N σ0 ((mf, .list (nls g.fs)) :: (mw, .list (nls g.ws)) :: fv N L pl g.pr g.lp) σ
section
variable {C : Prop} {N mw mf at_ : Nat} {σ0 σ : St} {L : List V} {pl : List (Int × V)} {g : G}
theorem GR.fa (h : GR N mw mf σ0 L pl g σ) : FA N σ := ⟨h.at_ 2 _ _ rfl, h.at_ 3 _ _ rfl⟩
theorem pos_len {l : List V} {x : V} : decide ((0 : Int) < ((l ++ [x]).length : Nat)) = true := decide_eq_true (Int.ofNat_lt.mpr (by rw [List.length_append]; exact Nat.succ_pos _))
theorem join_ (h : GR N mw mf σ0 L pl g σ) (hz : gz g ≤ 5000) (kk : ∀ σ', Runs F_join_rows [.ref (N + 1), .ref mw, .int at_] σ .none σ' → GR N mw mf σ0 L pl (gstep at_ .wend g) σ' → C) : C := by
  obtain ⟨ws, fs, pr, lp⟩ := g
  have hz : ws.length + fs.length + pr.length + lp.length ≤ 5000 := hz
  cases ws with
  | nil => exact kk σ (runs_of [.l [], .d] fun P os hp => (And.intro (ls_l (h.at_ 1 _ _ rfl) (by decide) : Lst σ mw []) hp :)) h
  | cons w ws =>
    have hz : (ws.length + 1) + fs.length + pr.length + lp.length ≤ 5000 := hz
    have h : Vw N σ0 ((mf, .list (nls fs)) :: (mw, .list (nls (w :: ws))) :: fv N L pl pr lp) σ := h
    rw [nls_cons] at h
    have hl : (nls ws ++ [V.int w]).length ≤ 1000000 := by rw [List.length_append, nls_len]; exact Nat.le_trans (by lia : ws.length + 1 ≤ 5000) (by decide)
    have h1 := h.set 1 (.list (nls ws)) rfl
    have h2 := h1.set 6 (.dictI (setK (w : Int) (.int at_) pr)) rfl
    have h3 := h2.set 6 (.dictI (setK (at_ : Int) (.int w) (setK (w : Int) (.int at_) pr))) rfl
    have f1 : FA N _ := ⟨h1.at_ 2 _ _ rfl, h1.at_ 3 _ _ rfl⟩
    have f2 : FA N _ := ⟨h2.at_ 2 _ _ rfl, h2.at_ 3 _ _ rfl⟩
    have z1 := len_setK (w : Int) (.int at_) pr
    have ed : (nls ws ++ [V.int w]).dropLast = nls ws := List.dropLast_concat
    refine kk _ (runs_of [.l (nls ws ++ [V.int w]), .b true, .l (nls ws ++ [V.int w]), .v (.int w), .v (.ref (N + 5)), .d, .q pr, .v (.ref (N + 5)), .d, .q (setK (w : Int) (.int at_) pr)] fun P os hp => ?_) h3
    rw [← ed] at f1 f2 h1 h2 hp
    exact (And.intro (ls_l (h.at_ 1 _ _ rfl) hl) <| And.intro pos_len <| And.intro (ls_l (h.at_ 1 _ _ rfl) hl) <| And.intro (List.getLast?_concat : (nls ws ++ [V.int w]).getLast? = some (.int w)) <| And.intro f1.pairs <| And.intro (And.intro (h1.at_ 6 _ _ rfl : IsI _ _ _) (Nat.le_trans (by lia : pr.length ≤ 5000) (by decide : 5000 ≤ 1000000))) <| And.intro f2.pairs <| And.intro (And.intro (h2.at_ 6 _ _ rfl : IsI _ _ _) (Nat.le_trans (by lia : (setK (w : Int) (.int at_) pr).length ≤ 5001) (by decide : 5001 ≤ 1000000))) hp :)

noncomputable abbrev elM (N mf at_ many : Nat) (x : Option V) : Ms := [some (.ref (N + 1)), some (.ref mf), some (.int at_), some (.int many), x]
noncomputable def end1 (at_ w : Nat) (g : G) : G := match g.fs with
  | [] => g
  | f :: fs => { g with fs := fs, lp := setK (f : Int) (.tup [.int at_, .int w]) g.lp }
theorem end1_gz (at_ w : Nat) (g : G) : gz (end1 at_ w g) ≤ gz g := by
  obtain ⟨ws, fs, pr, lp⟩ := g
  cases fs with
  | nil => exact Nat.le_refl _
  | cons f fs =>
    have := len_setK (f : Int) (.tup [.int at_, .int w]) lp
    show ws.length + fs.length + pr.length + (setK (f : Int) (.tup [.int at_, .int w]) lp).length ≤ ws.length + (fs.length + 1) + pr.length + lp.length
    lia
theorem end1_ {many w : Nat} {x : Option V} (h : GR N mw mf σ0 L pl g σ) (hz : gz g ≤ 5000) (kk : ∀ σ', SRuns L0_end_loops (elM N mf at_ many (some (.int w))) σ .next (elM N mf at_ many (some (.int w))) σ' → GR N mw mf σ0 L pl (end1 at_ w g) σ' → C) : C := by
  obtain ⟨ws, fs, pr, lp⟩ := g
  have hz : ws.length + fs.length + pr.length + lp.length ≤ 5000 := hz
  cases fs with
  | nil => exact kk σ (sruns_of [.l [], .d] fun P os hp => (And.intro (ls_l (h.at_ 0 _ _ rfl) (by decide) : Lst σ mf []) hp :)) h
  | cons f fs =>
    have hz : ws.length + (fs.length + 1) + pr.length + lp.length ≤ 5000 := hz
    have f0 := GR.fa h
    have h : Vw N σ0 ((mf, .list (nls (f :: fs))) :: (mw, .list (nls ws)) :: fv N L pl pr lp) σ := h
    rw [nls_cons] at h
    have hl : (nls fs ++ [V.int f]).length ≤ 1000000 := by rw [List.length_append, nls_len]; exact Nat.le_trans (by lia : fs.length + 1 ≤ 5000) (by decide)
    have h1 := h.set 0 (.list (nls fs)) rfl
    have h2 := h1.set 7 (.dictI (setK (f : Int) (.tup [.int at_, .int w]) lp)) rfl
    have ed : (nls fs ++ [V.int f]).dropLast = nls fs := List.dropLast_concat
    refine kk _ (sruns_of [.l (nls fs ++ [V.int f]), .b true, .v (.ref (N + 6)), .l (nls fs ++ [V.int f]), .v (.int f), .d, .q lp] fun P os hp => ?_) h2
    rw [← ed] at h1 hp
    exact (And.intro (ls_l (h.at_ 0 _ _ rfl) hl) <| And.intro pos_len <| And.intro f0.loops <| And.intro (ls_l (h.at_ 0 _ _ rfl) hl) <| And.intro (List.getLast?_concat : (nls fs ++ [V.int f]).getLast? = some (.int f)) <| And.intro (And.intro (h1.at_ 7 _ _ rfl : IsI _ _ _) (Nat.le_trans (by lia : lp.length ≤ 5000) (by decide : 5000 ≤ 1000000))) hp :)
theorem endl_ {vs : List String} (hv : (∃ a, vs = [a]) ∨ ∃ a b, vs = [a, b]) (h : GR N mw mf σ0 L pl g σ) (hz : gz g ≤ 5000) (kk : ∀ σ', Runs F_end_loops [.ref (N + 1), .ref mf, .int at_, .int vs.length] σ .none σ' → GR N mw mf σ0 L pl (gstep at_ (.next vs) g) σ' → gz (gstep at_ (.next vs) g) ≤ gz g → C) : C := by
  rcases hv with ⟨a, rfl⟩ | ⟨a, b, rfl⟩
  · have e : gstep at_ (.next [a]) g = end1 at_ 0 g := by
      obtain ⟨ws, fs, pr, lp⟩ := g
      cases fs <;> rfl
    rw [e] at kk
    exact end1_ (at_ := at_) (many := 1) (w := 0) (x := none) h hz fun σ' r g' => kk σ' (runs_of [.f .next (elM N mf at_ 1 (some (.int 0))) σ'] fun P os hp => (And.intro (⟨by decide, by decide⟩ : Sml 1) <| And.intro (lp_step (step_n (rg_at (by decide)) r) (lp_end (rg_end (by decide))) : Lp (itRange 0 1 (1 : Int).toNat) (gName 4) L0_end_loops 0 (elM N mf at_ 1 none) σ .next (elM N mf at_ 1 (some (.int 0))) σ') hp :)) g' (end1_gz ..)
  · have e : gstep at_ (.next [a, b]) g = end1 at_ 1 (end1 at_ 0 g) := by
      obtain ⟨ws, fs, pr, lp⟩ := g
      cases fs with
      | nil => rfl
      | cons f fs => cases fs <;> rfl
    rw [e] at kk
    have z1 := end1_gz at_ 0 g
    exact end1_ (at_ := at_) (many := 2) (w := 0) (x := none) h hz fun σ1 r1 g1 => end1_ (at_ := at_) (many := 2) (w := 1) (x := none) g1 (Nat.le_trans z1 hz) fun σ' r g' => kk σ' (runs_of [.f .next (elM N mf at_ 2 (some (.int 1))) σ'] fun P os hp => (And.intro (⟨by decide, by decide⟩ : Sml 2) <| And.intro (lp_step (step_n (rg_at (by decide)) r1) (lp_step (step_n (rg_at (by decide)) r) (lp_end (rg_end (by decide)))) : Lp (itRange 0 1 (2 : Int).toNat) (gName 4) L0_end_loops 0 (elM N mf at_ 2 none) σ .next (elM N mf at_ 2 (some (.int 1))) σ') hp :)) g' (Nat.le_trans (end1_gz ..) z1)

noncomputable def kd7 (t : String) : List Bool := [decide (t = "DATA"), decide (t = "WHILE"), decide (t = "WEND"), decide (t = "DEFLINES"), decide (t = "FNEND"), decide (t = "FOR"), decide (t = "NEXT")]
noncomputable abbrev no7 : List Bool := [false, false, false, false, false, false, false]
noncomputable abbrev gaM (N mw mf mh : Nat) (x : Sl) : Ms := [some (.ref (N + 1)), some (.ref mw), some (.ref mf), some (.ref mh), x.a, x.b, x.c, x.d, x.e, x.f]
theorem grow_ {mh : Nat} {r : R} {n : Int} {v : V} {x : Sl} (h : GR N mw mf σ0 L pl g σ) (hz : gz g + 2 ≤ 5000) (hr : IsR σ0 0 N r v) (hn : okS (.row r)) (kk : ∀ x' σ', SRuns L0_gather (gaM N mw mf mh { x with a := some (.int at_), b := some (vRow n v) }) σ .next (gaM N mw mf mh x') σ' → GR N mw mf σ0 L pl (gstep at_ r g) σ' → gz (gstep at_ r g) ≤ gz g + 2 → C) : C := by
  have hz1 : gz g ≤ 5000 := Nat.le_trans (Nat.le_add_right _ 2) hz
  have l0 : Lst σ mf (nls g.fs) := ⟨h.at_ 0 _ _ rfl, by rw [nls_len]; exact Nat.le_trans (Nat.le_trans (by unfold gz; lia) hz1) (by decide)⟩
  have l1 : Lst σ mw (nls g.ws) := ⟨h.at_ 1 _ _ rfl, by rw [nls_len]; exact Nat.le_trans (Nat.le_trans (by unfold gz; lia) hz1) (by decide)⟩
  have zz : gz g ≤ gz g + 2 := Nat.le_add_right _ _
  have triv : ∀ {t : String} {vs : List V}, v = .tup (.str t :: vs) → kd7 t = no7 → ∃ x', SRuns L0_gather (gaM N mw mf mh { x with a := some (.int at_), b := some (vRow n v) }) σ .next (gaM N mw mf mh x') σ := fun {t vs} e hh => by
    subst e
    injection hh with h1 hh
    injection hh with h2 hh
    injection hh with h3 hh
    injection hh with h4 hh
    injection hh with h5 hh
    injection hh with h6 hh
    injection hh with h7 hh
    exact ⟨{ a := some (.int at_), b := some (vRow n (.tup (.str t :: vs))), c := some (.int n), d := some (.tup (.str t :: vs)), e := some (.str t), f := x.f }, sruns_of [.b false, .b false, .b false, .b false, .b false, .b false, .b false] fun P os hp => (And.intro h1 <| And.intro h2 <| And.intro h3 <| And.intro h4 <| And.intro h5 <| And.intro h6 <| And.intro h7 hp :)⟩
  cases r with
  | whil y lim =>
    obtain rfl := hr
    have g1 := h.set 1 (.list (nls g.ws ++ [.int at_])) rfl
    rw [← nls_cons] at g1
    exact kk { a := some (.int at_), b := some (vRow n (.tup [.str "WHILE", vTwo "<" y lim])), c := some (.int n), d := some (.tup [.str "WHILE", vTwo "<" y lim]), e := some (.str "WHILE"), f := x.f } _ (sruns_of [.l (nls g.ws)] fun P os hp => (And.intro (isl l1.1) <| And.intro l1 hp :)) (by rw [← nls_cons]; exact g1) (by show (g.ws.length + 1) + g.fs.length + g.pr.length + g.lp.length ≤ g.ws.length + g.fs.length + g.pr.length + g.lp.length + 2; lia)
  | for_ y b l p =>
    obtain rfl := hr
    have g1 := h.set 0 (.list (nls g.fs ++ [.int at_])) rfl
    rw [← nls_cons] at g1
    exact kk { a := some (.int at_), b := some (vRow n (.tup [.str "FOR", .str y, vWh b, vWh l, vOpt p])), c := some (.int n), d := some (.tup [.str "FOR", .str y, vWh b, vWh l, vOpt p]), e := some (.str "FOR"), f := x.f } _ (sruns_of [.l (nls g.fs)] fun P os hp => (And.intro (isl l0.1) <| And.intro l0 hp :)) (by rw [← nls_cons]; exact g1) (by show g.ws.length + (g.fs.length + 1) + g.pr.length + g.lp.length ≤ g.ws.length + g.fs.length + g.pr.length + g.lp.length + 2; lia)
  | wend =>
    obtain rfl := hr
    have z1 : gz (gstep at_ .wend g) ≤ gz g + 2 := by
      obtain ⟨ws, fs, pr, lp⟩ := g
      cases ws with
      | nil => exact zz
      | cons w ws =>
        have h1 := len_setK (at_ : Int) (.int w) (setK (w : Int) (.int at_) pr)
        have h2 := len_setK (w : Int) (.int at_) pr
        show ws.length + fs.length + (setK (at_ : Int) (.int w) (setK (w : Int) (.int at_) pr)).length + lp.length ≤ (ws.length + 1) + fs.length + pr.length + lp.length + 2
        lia
    exact join_ (at_ := at_) h hz1 fun σ' r g' => kk { a := some (.int at_), b := some (vRow n (.tup [.str "WEND"])), c := some (.int n), d := some (.tup [.str "WEND"]), e := some (.str "WEND"), f := x.f } σ' (sruns_of [.c .none σ'] fun P os hp => (And.intro r hp :)) g' z1
  | next vs =>
    obtain ⟨i, rfl, hs⟩ := hr
    have hl : Lst σ i (vs.map .str) := ⟨h.get hs.2.1 hs.2.2, by rw [List.length_map]; rcases (show (∃ a, vs = [a]) ∨ ∃ a b, vs = [a, b] from hn) with ⟨a, rfl⟩ | ⟨a, b, rfl⟩; exact (by decide : 1 ≤ 1000000); exact (by decide : 2 ≤ 1000000)⟩
    exact endl_ (at_ := at_) hn h hz1 fun σ' r g' z => kk { a := some (.int at_), b := some (vRow n (.tup [.str "NEXT", .ref i])), c := some (.int n), d := some (.tup [.str "NEXT", .ref i]), e := some (.str "NEXT"), f := x.f } σ' (by
      rcases (show (∃ a, vs = [a]) ∨ ∃ a b, vs = [a, b] from hn) with ⟨a, rfl⟩ | ⟨a, b, rfl⟩
      · exact sruns_of [.l [.str a], .c .none σ'] fun P os hp => (And.intro hl <| And.intro r hp :)
      · exact sruns_of [.l [.str a, .str b], .c .none σ'] fun P os hp => (And.intro hl <| And.intro r hp :)) g' (Nat.le_trans z zz)
  | ongo a => obtain ⟨i, e, _⟩ := hr; obtain ⟨x', q⟩ := triv e rfl; exact kk x' σ q h zz
  | _ => obtain ⟨x', q⟩ := triv hr rfl; exact kk x' σ q h zz

theorem gather_loop {mh : Nat} {rs0 : List R} (hok : ∀ r ∈ rs0, okS (.row r)) : ∀ (rs : List R) (at_ : Nat) (L1 : List V) (g : G) (σ : St) (x : Sl), (∀ r ∈ rs, okS (.row r)) → L.drop at_ = L1 → IsRows σ0 0 N rs L1 → GR N mw mf σ0 L pl g σ → gz g + 2 * rs.length ≤ 5000 →
    (∀ x' σ', Lp (itEnum (N + 2)) (gTup [(gName 4), (gName 5)]) L0_gather at_ (gaM N mw mf mh x) σ .next (gaM N mw mf mh x') σ' → GR N mw mf σ0 L pl (gath at_ rs g) σ' → C) → C
  | [] => by
    intro at_ L1 g σ x ho q hr h hz kk
    exact kk x σ (lp_end (en_end (nth_l (h.at_ 4 _ _ rfl) (List.getElem?_eq_none_iff.mpr (List.drop_eq_nil_iff.mp (q.trans hr)))))) h
  | r :: rs => by
    intro at_ L1 g σ x ho q z0_ h hz kk
    obtain ⟨n, v, l', e1, h1, h2⟩ := z0_
    have hq := drop_cons (q.trans e1)
    have hz : gz g + 2 * (rs.length + 1) ≤ 5000 := hz
    exact grow_ (at_ := at_) (mh := mh) (n := n) (x := x) h (by lia) h1 (ho r List.mem_cons_self) fun x1 σ1 r1 g1 z1 => gather_loop hok rs (at_ + 1) l' _ σ1 x1 (fun r h => ho r (List.mem_cons_of_mem _ h)) hq.2 h2 g1 (by lia) fun x' σ' l g' => kk x' σ' (lp_step ⟨.tup [.int at_, vRow n v], _, en_at (nth_l (h.at_ 4 _ _ rfl) hq.1), fun _ h => h, r1⟩ l) g'
end
section
variable {C : Prop} {N : Nat} {σ0 σ : St} {L : List V} {pl : List (Int × V)}
theorem gather_ {rs : List R} (h : FS N σ0 L pl [] [] σ) (hr : IsRows σ0 0 N rs L) (hz : rs.length ≤ 400) (hok : ∀ r ∈ rs, okS (.row r)) (kk : ∀ σ', Runs F_gather [.ref (N + 1)] σ .none σ' → FS N σ0 L pl (gath 0 rs ⟨[], [], [], []⟩).pr (gath 0 rs ⟨[], [], [], []⟩).lp σ' → C) : C := by
  have g0 := (h.push (.list [])).push (.list [])
  have g1 : GR N σ.length (σ ++ [O.list []]).length σ0 L pl ⟨[], [], [], []⟩ (((σ ++ [O.list []]) ++ [O.list []]) ++ [O.list []]) := g0.app
  exact gather_loop (mh := ((σ ++ [O.list []]) ++ [O.list []]).length) hok rs 0 L _ _ {} hok rfl hr g1 (by show 0 + 2 * rs.length ≤ 5000; lia) fun x' σ' l g' => kk σ' (runs_of [.v (.ref (N + 2)), .f .next (gaM N σ.length (σ ++ [O.list []]).length ((σ ++ [O.list []]) ++ [O.list []]).length x') σ'] fun P os hp => (And.intro g1.fa.rows <| And.intro (isl (g1.at_ 4 _ _ rfl)) <| And.intro l hp :)) ((g'.sub rfl).sub rfl)
end

theorem vw_of {σ : St} {τ : List O} {ds : List Nat} (hl : ∀ d ∈ ds, d < τ.length) (hd : ds.Pairwise (· ≠ ·)) : Vw σ.length σ (ds.map fun d => (σ.length + d, τ.getD d (.list []))) (σ ++ τ) := by
  have inv : ∀ {k i : Nat} {o : O}, (ds.map fun d => (σ.length + d, τ.getD d (.list [])))[k]? = some (i, o) → ∃ d, ds[k]? = some d ∧ i = σ.length + d ∧ o = τ.getD d (.list []) := fun {k i o} h => by
    rw [List.getElem?_map] at h
    cases q : ds[k]? with
    | none => rw [q] at h; cases h
    | some d => rw [q] at h; cases h; exact ⟨d, rfl, rfl, rfl⟩
  refine ⟨fun k i o h => ?_, fun j k i i' o o' h h' hj => ?_, fun k i o h => ?_, fun i hi => List.getElem?_append_left hi, by rw [List.length_append]; exact Nat.le_add_right _ _⟩
  · obtain ⟨d, q, rfl, rfl⟩ := inv h
    have := hl d (List.mem_of_getElem? q)
    rw [List.getElem?_append_right (Nat.le_add_right ..), Nat.add_sub_cancel_left, List.getElem?_eq_getElem this, List.getD_eq_getElem?_getD, List.getElem?_eq_getElem this, Option.getD_some]
  · obtain ⟨d, q, rfl, rfl⟩ := inv h
    obtain ⟨d', q', rfl, rfl⟩ := inv h'
    obtain ⟨a1, a2⟩ := List.getElem?_eq_some_iff.mp q
    obtain ⟨b1, b2⟩ := List.getElem?_eq_some_iff.mp q'
    have hp := List.pairwise_iff_getElem.mp hd
    intro e
    have e := Nat.add_left_cancel e
    subst a2; subst b2
    rcases Nat.lt_or_gt_of_ne hj with l | l
    · exact hp j k a1 b1 l e
    · exact hp k j b1 a1 l e.symm
  · obtain ⟨d, q, rfl, rfl⟩ := inv h
    exact Nat.le_add_right _ _

theorem init_ {σ : St} {C : Nat} {x : String} {y : V} {e : EF} {fr : Ms} {a : List (String × V)} {r q : List O} (ha : a.length ≤ 100) (he : ∀ P, Ho (P y ((σ ++ .attrs a :: .inst C σ.length :: r) ++ q)) → Ho (e (some (.ref (σ.length + 1)) :: fr) (σ ++ .attrs a :: .inst C σ.length :: r) P)) : SRuns (sAsg (gAttr C x (eLoc 0)) e) (some (.ref (σ.length + 1)) :: fr) (σ ++ .attrs a :: .inst C σ.length :: r) .next (some (.ref (σ.length + 1)) :: fr) (σ ++ .attrs (setK x y a) :: .inst C σ.length :: (r ++ q)) := fun P hp => by
  have i0 : ∀ {τ : List O}, (σ ++ τ)[σ.length]? = τ[0]? := fun {τ} => by rw [List.getElem?_append_right (Nat.le_refl _), Nat.sub_self]
  have i1 : ∀ {τ : List O}, (σ ++ τ)[σ.length + 1]? = τ[1]? := fun {τ} => by rw [List.getElem?_append_right (Nat.le_add_right _ _), Nat.add_sub_cancel_left]
  have e1 : ((σ ++ .attrs a :: .inst C σ.length :: r) ++ q).set σ.length (.attrs (setK x y a)) = σ ++ .attrs (setK x y a) :: .inst C σ.length :: (r ++ q) := by
    rw [List.append_assoc, List.set_append_right _ _ (Nat.le_refl _), Nat.sub_self]; rfl
  obtain ⟨os, hp⟩ := hp
  rw [← e1] at hp
  exact he (fun v σ' => gAttr C x (eLoc 0) v (some (.ref (σ.length + 1)) :: fr) σ' fun m σ => P .next m σ) ⟨.n σ.length :: .p a :: os, (And.intro trivial <| And.intro (⟨by rw [List.append_assoc, i1]; rfl, by rw [List.append_assoc, i0]; rfl, ha⟩ : InA ((σ ++ .attrs a :: .inst C σ.length :: r) ++ q) (σ.length + 1) C σ.length a) hp :)⟩
theorem init_new {σ : St} {C : Nat} {x : String} {o : O} {e : EF} {fr : Ms} {a : List (String × V)} {r : List O} (ha : a.length ≤ 100) (he : ∀ τ P, e (some (.ref (σ.length + 1)) :: fr) τ P = P (.ref τ.length) (τ ++ [o])) : SRuns (sAsg (gAttr C x (eLoc 0)) e) (some (.ref (σ.length + 1)) :: fr) (σ ++ .attrs a :: .inst C σ.length :: r) .next (some (.ref (σ.length + 1)) :: fr) (σ ++ .attrs (setK x (.ref (σ.length + (r.length + 2))) a) :: .inst C σ.length :: (r ++ [o])) :=
  init_ ha fun P hp => by rw [he, List.length_append]; exact hp
section
variable {C : Prop} {σ : St}
theorem flat_init_ : Runs F_Flat_init [.ref (σ.length + 1)] (σ ++ [.attrs []] ++ [.inst 380 σ.length]) .none (σ ++ [.attrs (fAt σ.length), .inst 380 σ.length, .list [], .dictI [], .list [], .dictI [], .dictI [], .dictI []]) := fun P hp => by
  rw [List.append_assoc] at *
  have s : SRuns _ [some (.ref (σ.length + 1))] (σ ++ [.attrs [], .inst 380 σ.length]) .next [some (.ref (σ.length + 1))] (σ ++ [.attrs (fAt σ.length), .inst 380 σ.length, .list [], .dictI [], .list [], .dictI [], .dictI [], .dictI []]) := seq_r (init_new (x := "rows") (e := eList lNil) (r := []) (Nat.le_of_ble_eq_true rfl) fun τ P => rfl) <|
    seq_r (init_new (x := "places") (e := eDict0) (a := (fAt σ.length).take 1) (r := [.list []]) (Nat.le_of_ble_eq_true rfl) fun τ P => rfl) <|
    seq_r (init_new (x := "data") (e := eList lNil) (a := (fAt σ.length).take 2) (r := [.list [], .dictI []]) (Nat.le_of_ble_eq_true rfl) fun τ P => rfl) <|
    seq_r (init_new (x := "pairs") (e := eDict0) (a := (fAt σ.length).take 3) (r := [.list [], .dictI [], .list []]) (Nat.le_of_ble_eq_true rfl) fun τ P => rfl) <|
    seq_r (init_new (x := "loops") (e := eDict0) (a := (fAt σ.length).take 4) (r := [.list [], .dictI [], .list [], .dictI []]) (Nat.le_of_ble_eq_true rfl) fun τ P => rfl) <|
    seq_r (init_new (x := "fns") (e := eDict0) (a := (fAt σ.length).take 5) (r := [.list [], .dictI [], .list [], .dictI [], .dictI []]) (Nat.le_of_ble_eq_true rfl) fun τ P => rfl) (sruns_of (b := sNil) [] fun P os h => h)
  exact s (fun x _ σ => P (flV x) σ) hp
theorem flat_FS : FS σ.length σ [] [] [] [] (σ ++ [.attrs (fAt σ.length), .inst 380 σ.length, .list [], .dictI [], .list [], .dictI [], .dictI [], .dictI []]) :=
  vw_of (ds := [0, 1, 2, 3, 5, 6]) (τ := [.attrs (fAt σ.length), .inst 380 σ.length, .list [], .dictI [], .list [], .dictI [], .dictI [], .dictI []]) (by simp only [List.length_cons, List.length_nil]; decide) (by decide)
end

noncomputable abbrev flM (ln N : Nat) (x : Sl) : Ms := [some (.ref ln), some (.ref (N + 1)), x.a, x.b]
section
variable {C : Prop} {N : Nat} {σ0 σ : St} {L : List V} {pl : List (Int × V)}
theorem rowsS_ok {s : S} (at_ : Nat) (h : okS s) : ∀ r ∈ rowsS at_ s, okS (.row r) := fun r hr => by
  cases s with
  | row q => rw [List.mem_singleton.mp (show r ∈ [q] from hr)]; exact h
  | ifs a b c =>
    rcases (show c = 0 ∨ c = 1 from h) with e | e <;> subst e <;> simp [rowsS] at hr
    · rcases hr with e | e | e <;> subst e <;> exact trivial
    · rcases hr with e | e | e | e | e <;> subst e <;> exact trivial
theorem rows_ok : ∀ {src : List (Int × S)} {at_ : Nat}, (∀ p ∈ src, okS p.2) → ∀ r ∈ rowsL at_ (src.map (·.2)), okS (.row r)
  | [], _, _, r, hr => by cases hr
  | p :: src, at_, h, r, hr => (List.mem_append.mp hr).elim (rowsS_ok at_ (h p List.mem_cons_self) r) (rows_ok (fun p q => h p (List.mem_cons_of_mem _ q)) r)
theorem line_ {ln i : Nat} {n : Int} {s : S} {v : V} (h : FS N σ0 L pl [] [] σ) (hi : i < N) (hv : σ0[i]? = some (.list [v])) (hc : okS s) (hs : IsSt σ0 0 N s v) (hz : L.length ≤ 4000) (hpl : pl.length ≤ 5000)
    (kk : ∀ σ', SRuns L0_flatten (flM ln N { a := some (.int n), b := some (.ref i) }) σ .next (flM ln N { a := some (.int n), b := some (.ref i) }) σ' → FS N σ0 (L ++ vRowsS n L.length s v) (setK n (.int L.length) pl) [] [] σ' → C) : C := by
  have g1 : FS N σ0 L (setK n (.int L.length) pl) [] [] _ := h.set 3 (.dictI (setK n (.int L.length) pl)) rfl
  refine put_line_ (m := 2) (n := n) g1 hi hv hc hs hz fun σ' r g => kk σ' (sruns_of [.v (.ref (N + 2)), .l L, .v (.ref (N + 3)), .d, .q pl, .c .none σ', .v (.ref (N + 3)), .v (.int L.length), .v (.ref (N + 2)), .l (L ++ vRowsS n L.length s v), .b false] fun P os hp => ?_) g
  have hl : (L ++ vRowsS n L.length s v).length = L.length + lenS s := by rw [List.length_append, vRowsS_len hc]
  have hb := lenS_b s
  exact (And.intro h.fa.rows <| And.intro (h.lst (Nat.le_trans hz (by decide))) <| And.intro h.fa.places <| And.intro (And.intro (h.at_ 3 _ _ rfl : IsI _ _ _) (Nat.le_trans hpl (by decide : 5000 ≤ 1000000))) <| And.intro r <| And.intro g.fa.places <| And.intro (Or.inr ⟨_, g.at_ 3 _ _ rfl, (getK_setK ..).trans (if_pos rfl)⟩ : ItI σ' (N + 3) n (.int L.length)) <| And.intro g.fa.rows <| And.intro (g.lst (by rw [hl]; lia)) <| And.intro (decide_eq_false (by rw [hl]; lia) : decide ((L.length : Int) = ((L ++ vRowsS n L.length s v).length : Nat)) = false) hp :)
theorem lines_loop_ {ln : Nat} {Ls : List V} (hln : ln < N) (hl : σ0[ln]? = some (.list Ls)) : ∀ (src : List (Int × S)) (j : Nat) (L1 L : List V) (pl : List (Int × V)) (rs : List R) (σ : St) (x : Sl), Ls.drop j = L1 → IsLines σ0 0 N src L1 → (∀ p ∈ src, okS p.2) → FS N σ0 L pl [] [] σ → IsRows σ0 0 N rs L → rs.length + lenL (src.map (·.2)) ≤ 4000 → pl.length + src.length ≤ 5000 →
    (∀ x' σ' L', Lp (itList ln) (gTup [(gName 2), (gName 3)]) L0_flatten j (flM ln N x) σ .next (flM ln N x') σ' → FS N σ0 L' (placesL rs.length src pl) [] [] σ' → IsRows σ0 0 N (rs ++ rowsL rs.length (src.map (·.2))) L' → C) → C
  | [] => by
    intro j L1 L pl rs σ x q hs hc h hr z1 z2 kk
    exact kk x σ L (lp_end (it_end (nth_l (h.get hln hl) (List.getElem?_eq_none_iff.mpr (List.drop_eq_nil_iff.mp (q.trans hs)))))) h (by rw [show rowsL rs.length (List.map (·.2) ([] : List (Int × S))) = [] from rfl, List.append_nil]; exact hr)
  | (n, s) :: src => by
    intro j L1 L pl rs σ x q z0_ hc h hr z1 z2 kk
    obtain ⟨i, v, l', e, s1, s2, hs⟩ := z0_
    have hq := drop_cons (q.trans e)
    have z1 : rs.length + (lenS s + lenL (src.map (·.2))) ≤ 4000 := z1
    have z2 : pl.length + (src.length + 1) ≤ 5000 := z2
    have hc1 : okS s := hc (n, s) List.mem_cons_self
    have hL := hr.len
    exact line_ (ln := ln) (n := n) h s1.2.1 s1.2.2 hc1 s2 (by lia) (by lia) fun σ1 r1 g1 => by
      have z3 := len_setK n (.int L.length) pl
      have e1 : (rs ++ rowsS L.length s).length = rs.length + lenS s := by rw [List.length_append, rowsS_len]
      have hr1 := IsRows.app (isRows_S (n := n) L.length hc1 s2) hr
      rw [hL] at hr1 g1
      rw [hL] at e1
      refine lines_loop_ hln hl src (j + 1) l' _ _ _ σ1 { a := some (.int n), b := some (.ref i) } hq.2 hs (fun p h => hc p (List.mem_cons_of_mem _ h)) g1 hr1 (by rw [e1]; lia) (by rw [hL] at z3; lia) fun x' σ' L' l g' hr' => kk x' σ' L' (lp_step ⟨.tup [.int n, .ref i], _, it_at (nth_l (h.get hln hl) hq.1), fun _ h => h, r1⟩ l) (by rw [e1] at g'; exact g') (by rw [e1, List.append_assoc] at hr'; exact hr')
theorem flatten_ {ln : Nat} {Ls : List V} {src : List (Int × S)} (hl : σ[ln]? = some (.list Ls)) (hs : IsLines σ 0 σ.length src Ls) (hc : ∀ p ∈ src, okS p.2) (hz : lenL (src.map (·.2)) ≤ 300) (hn : src.length ≤ 1000)
    (kk : ∀ L σ', Runs F_flatten [.ref ln] σ (.ref (σ.length + 1)) σ' → FS σ.length σ L (placesL 0 src []) (gath 0 (rowsL 0 (src.map (·.2))) ⟨[], [], [], []⟩).pr (gath 0 (rowsL 0 (src.map (·.2))) ⟨[], [], [], []⟩).lp σ' → IsRows σ 0 σ.length (rowsL 0 (src.map (·.2))) L → C) : C :=
  lines_loop_ (get_lt hl) hl src 0 Ls [] [] [] _ {} rfl hs hc flat_FS rfl (by show 0 + _ ≤ _; lia) (by show 0 + _ ≤ _; lia) fun x' σ1 L l g hr =>
    gather_ g hr (by rw [List.nil_append, rowsL_len]; exact Nat.le_trans hz (by decide)) (rows_ok hc) fun σ' r g' => kk L σ' (runs_of [.c .none _, .f .next (flM ln σ.length x') σ1, .c .none σ'] fun P os hp => (And.intro flat_init_ <| And.intro (isl (flat_FS.get (get_lt hl) hl)) <| And.intro l <| And.intro r hp :)) g' hr
end

inductive PE where
  | for_ (v : String) (pl : Nat) (l p : Int)
  | whil (a : Nat)
  | gosub (pl : Nat)
noncomputable def encPE : PE → V
  | .for_ v pl l p => .tup [.str "FOR", .str v, .int pl, .int l, .int p]
  | .whil a => .tup [.str "WHILE", .int a]
  | .gosub pl => .tup [.str "GOSUB", .int pl]
noncomputable def encPi (π : List PE) : List V := (π.map encPE).reverse
theorem encPi_cons (x : PE) (π : List PE) : encPi (x :: π) = encPi π ++ [encPE x] := List.reverse_cons
theorem encPi_app (a b : List PE) : encPi (a ++ b) = encPi b ++ encPi a := by unfold encPi; rw [List.map_append, List.reverse_append]
theorem encPi_len (π : List PE) : (encPi π).length = π.length := by unfold encPi; rw [List.length_reverse, List.length_map]
theorem encPi_get (π : List PE) {j : Nat} (h : j < π.length) : ∃ x ∈ π, (encPi π)[j]? = some (encPE x) := by
  refine ⟨π[π.length - 1 - j]'(Nat.lt_of_le_of_lt (Nat.sub_le _ _) (Nat.sub_lt (Nat.zero_lt_of_lt h) Nat.zero_lt_one)), List.getElem_mem _, ?_⟩
  unfold encPi
  rw [List.getElem?_reverse (by rw [List.length_map]; exact h), List.length_map, List.getElem?_map, List.getElem?_eq_getElem (Nat.lt_of_le_of_lt (Nat.sub_le _ _) (Nat.sub_lt (Nat.zero_lt_of_lt h) Nat.zero_lt_one))]
  rfl
theorem encPi_top (x : PE) (π : List PE) : (encPi (x :: π))[π.length]? = some (encPE x) := by
  rw [encPi_cons, List.getElem?_append_right (by rw [encPi_len]; exact Nat.le_refl _), encPi_len, Nat.sub_self]; rfl

structure Cx where
  N : Nat
  D : Nat
  σ1 : St
  L : List V
  pl : List (Int × V)
  pr : List (Int × V)
  lp : List (Int × V)
  rs : List R
structure Cx.Ok (X : Cx) : Prop where
  fa : FA X.N X.σ1
  rows : X.σ1[X.N + 2]? = some (.list X.L)
  places : X.σ1[X.N + 3]? = some (.dictI X.pl)
  pairs : X.σ1[X.N + 5]? = some (.dictI X.pr)
  loops : X.σ1[X.N + 6]? = some (.dictI X.lp)
  hr : IsRows X.σ1 0 X.D X.rs X.L
  hN : X.N + 7 ≤ X.D
  hz : X.rs.length ≤ 900
noncomputable def vCat (ip : Nat) : List (String × V) := [("pile", .ref ip), ("most", .int 20), ("failed_at", .int (-1))]
noncomputable def vRat (N D : Nat) : List (String × V) := [("flat", .ref (N + 1)), ("values", .ref D), ("worth_of", .fn 581), ("bits", .int 16), ("digits", .int 9), ("control", .ref (D + 4)), ("notes", .ref (D + 6))]
noncomputable abbrev mv (X : Cx) (ip : Nat) (e : En) (π : List PE) : List (Nat × O) := [(X.D, .dictS (encD e)), (X.D + 1, .attrs (vRat X.N X.D)), (X.D + 2, .inst 556 (X.D + 1)), (X.D + 3, .attrs (vCat ip)), (X.D + 4, .inst 265 (X.D + 3)), (ip, .list (encPi π)), (X.D + 6, .list (encN e))]
structure M (X : Cx) (ip : Nat) (e : En) (π : List PE) (σ : St) : Prop where
  v : Vw X.D X.σ1 (mv X ip e π) σ
  sz : e.sz ≤ 100000
  pz : π.length ≤ 20
section
variable {X : Cx} {ip : Nat} {e : En} {π : List PE} {σ : St} {x : String} {y : V}
theorem M.old (h : M X ip e π σ) (hX : X.Ok) {k : Nat} {o : O} (hk : k < 7) (q : X.σ1[X.N + k]? = some o) : σ[X.N + k]? = some o := h.v.get (Nat.lt_of_lt_of_le (Nat.add_lt_add_left hk _) hX.hN) q
theorem M.fa (h : M X ip e π σ) (hX : X.Ok) : FA X.N σ := ⟨h.old hX (k := 0) (by decide) hX.fa.a, h.old hX (k := 1) (by decide) hX.fa.i⟩
theorem M.lz (hX : X.Ok) : X.L.length ≤ 1000000 := by rw [hX.hr.len]; exact Nat.le_trans hX.hz (by decide)
theorem M.rows (h : M X ip e π σ) (hX : X.Ok) : Lst σ (X.N + 2) X.L := ⟨h.old hX (by decide) hX.rows, M.lz hX⟩
theorem M.ra (h : M X ip e π σ) (q : getK x (vRat X.N X.D) = some y) : Attr σ (X.D + 2) 556 x y := attr_of (h.v.at_ 2 _ _ rfl) (h.v.at_ 1 _ _ rfl) q
theorem M.no (h : M X ip e π σ) (q : getK x (vRat X.N X.D) = none) : NoAttr σ (X.D + 2) 556 x := noattr_of (h.v.at_ 2 _ _ rfl) (h.v.at_ 1 _ _ rfl) q
theorem M.ca (h : M X ip e π σ) (q : getK x (vCat ip) = some y) : Attr σ (X.D + 4) 265 x y := attr_of (h.v.at_ 4 _ _ rfl) (h.v.at_ 3 _ _ rfl) q
theorem M.pile (h : M X ip e π σ) : Attr σ (X.D + 4) 265 "pile" (.ref ip) := h.ca rfl
theorem M.flat (h : M X ip e π σ) : Attr σ (X.D + 2) 556 "flat" (.ref (X.N + 1)) := h.ra rfl
theorem M.values (h : M X ip e π σ) : Attr σ (X.D + 2) 556 "values" (.ref X.D) := h.ra rfl
theorem M.control (h : M X ip e π σ) : Attr σ (X.D + 2) 556 "control" (.ref (X.D + 4)) := h.ra rfl
theorem M.p (h : M X ip e π σ) : σ[ip]? = some (.list (encPi π)) := h.v.at_ 5 _ _ rfl
theorem M.pl (h : M X ip e π σ) : Lst σ ip (encPi π) := ⟨h.p, by rw [encPi_len]; exact Nat.le_trans h.pz (by decide)⟩
theorem M.app {τ : St} (h : M X ip e π σ) : M X ip e π (σ ++ τ) := ⟨h.v.app, h.sz, h.pz⟩
end

inductive Tree where
  | wh (k : Int)
  | add (v : String) (k : Int)
  | sub (v : String) (k : Int)
  | lt (v : String) (k : Int)
noncomputable def encTr : Tree → V
  | .wh k => vWh k
  | .add v k => vTwo "+" v k
  | .sub v k => vTwo "-" v k
  | .lt v k => vTwo "<" v k
noncomputable def wor (e : En) : Tree → Int
  | .wh k => k
  | .add v k => look e v + k
  | .sub v k => look e v - k
  | .lt v k => 0 - (if decide (look e v < k) = true then 1 else 0)
section
variable {C : Prop} {X : Cx} {ip : Nat} {e : En} {π π' : List PE} {σ : St} {v : String}
theorem M.get (h : M X ip e π σ) (v : String) : GetS σ X.D v (.int 0) (.int (look e v)) := ⟨_, h.v.at_ 0 _ _ rfl, look_enc e v⟩
theorem val_ (h : M X ip e π σ) : Runs F_run_value_of_name [.ref (X.D + 2), .str v] σ (.int (look e v)) σ :=
  runs_of [.v (.ref X.D), .v (.int (look e v))] fun P os hp => (And.intro h.values <| And.intro (⟨_, h.v.at_ 0 _ _ rfl⟩ : IsDs σ X.D) <| And.intro (h.get v) hp :)
theorem put_v {y : Int} (h : M X ip e π σ) (hz : e.sz < 100000) (kk : ∀ σ', Runs F_run_store [.ref (X.D + 2), .str v, .int y] σ .none σ' → M X ip (e.setv v y) π σ' → C) : C :=
  kk (σ.set X.D (.dictS (setK v (.int y) (encD e)))) (runs_of [.v (.ref X.D), .p (encD e)] fun P os hp => (And.intro h.values <| And.intro (And.intro (h.v.at_ 0 _ _ rfl : IsS σ X.D (encD e)) (encD_le (Nat.le_trans h.sz (by decide : 100000 ≤ 1000000)))) hp :)) ⟨by rw [setv_enc]; exact h.v.set 0 _ rfl, Nat.le_trans (sz_setv e v y) hz, h.pz⟩
theorem worth_ (h : M X ip e π σ) : ∀ t : Tree, Runs F_run_worth [.ref (X.D + 2), encTr t] σ (.int (wor e t)) σ := by
  have g : ∀ v, IsDs σ X.D ∧ GetS σ X.D v (.int 0) (.int (look e v)) := fun v => ⟨⟨_, h.v.at_ 0 _ _ rfl⟩, h.get v⟩
  have hw : Attr σ (X.D + 2) 556 "worth_of" (.fn 581) := h.ra rfl
  intro t
  cases t with
  | wh k => exact runs_of [.v (.fn 581), .v (.ref X.D), .d, .d] fun P os hp => (And.intro hw <| And.intro h.values hp :)
  | add v k => exact runs_of [.v (.fn 581), .v (.ref X.D), .d, .d, .d, .d, .d, .d, .v (.int (look e v)), .d, .d, .d] fun P os hp => (And.intro hw <| And.intro h.values <| And.intro (g v).1 <| And.intro (g v).2 hp :)
  | sub v k => exact runs_of [.v (.fn 581), .v (.ref X.D), .d, .d, .d, .d, .d, .d, .v (.int (look e v)), .d, .d, .d, .d] fun P os hp => (And.intro hw <| And.intro h.values <| And.intro (g v).1 <| And.intro (g v).2 hp :)
  | lt v k => exact runs_of [.v (.fn 581), .v (.ref X.D), .d, .d, .d, .d, .d, .d, .v (.int (look e v)), .d, .d, .d, .d] fun P os hp => (And.intro hw <| And.intro h.values <| And.intro (g v).1 <| And.intro (g v).2 hp :)
end
section
variable {C : Prop} {X : Cx} {ip : Nat} {e : En} {π π' : List PE} {σ : St}
theorem encPi_it (hp : σ[ip]? = some (.list (encPi π))) (hz : π.length ≤ 20) {k : Int} (h0 : 0 ≤ k) (h1 : k < π.length) (kk : ∀ y ∈ π, ItI σ ip k (encPE y) → C) : C :=
  let ⟨y, hy, hg⟩ := encPi_get π (j := k.toNat) (by lia)
  kk y hy (.inl ⟨_, hp, ⟨h0, by lia⟩, hg⟩)
theorem it_top (x : PE) (hp : σ[ip]? = some (.list (encPi (x :: π)))) (hz : π.length ≤ 20) : ItI σ ip π.length (encPE x) := it_l hp (encPi_top x π) (Nat.lt_of_le_of_lt hz (by decide))
noncomputable def NoG (π : List PE) : Prop := ∀ x ∈ π, ∀ k, x ≠ PE.gosub k
theorem floor0 (hp : σ[ip]? = some (.list (encPi π))) (hz : π.length ≤ 20) (hn : NoG π) : Runs F_floor_of [.ref ip] σ (.int 0) σ := by
  have el := encPi_len π
  have eN : (((encPi π).length : Int) - 0).toNat = π.length := by rw [el]; lia
  refine lp_inv (it := itRange (encPi π).length (-1) (((encPi π).length : Int) - 0).toNat) (g := gName 1) (b := L0_floor_of) (fun x => [some (.ref ip), x.a]) π.length (fun _ _ σ' => σ' = σ) (fun x σ' _ => rg_end (Nat.le_of_eq eN)) (fun G j x σ' hj q kk => ?_) π.length 0 {} σ _ (Nat.zero_add _) rfl fun x' σ' q l => by subst q; exact runs_of [.l (encPi π), .f .next [some (.ref ip), x'.a] σ'] fun P os hp' => (And.intro (⟨hp, by rw [el]; exact Nat.le_trans hz (by decide)⟩ : Lst σ' ip (encPi π)) <| And.intro (⟨rfl, by unfold Sml; lia, ⟨by decide, by decide⟩⟩ : (-1 : Int) = -1 ∧ Sml (encPi π).length ∧ Sml 0) <| And.intro l hp' :)
  subst q
  refine encPi_it hp hz (k := ((encPi π).length : Int) + j * (-1) - 1) (by lia) (by lia) fun y hy hi => ?_
  have r := rg_at (x := (encPi π).length) (s := -1) (σ := σ') (eN ▸ hj)
  cases y with
  | gosub k => exact absurd rfl (hn _ hy k)
  | for_ v a b c => exact kk { a := some (.int ((encPi π).length + j * (-1))) } σ' (step_n r (sruns_of [.v _, .d] fun P os hp => (And.intro hi hp :))) rfl
  | whil a => exact kk { a := some (.int ((encPi π).length + j * (-1))) } σ' (step_n r (sruns_of [.v _, .d] fun P os hp => (And.intro hi hp :))) rfl
theorem floorG {k : Nat} (hp : σ[ip]? = some (.list (encPi (.gosub k :: π)))) (hz : π.length < 20) : Runs F_floor_of [.ref ip] σ (.int (π.length + 1 : Nat)) σ := by
  have el : (encPi (.gosub k :: π)).length = π.length + 1 := encPi_len _
  have e0 : ((encPi (.gosub k :: π)).length : Int) + (0 : Nat) * (-1) = (π.length + 1 : Nat) := by rw [el]; lia
  have e1 : ((encPi (.gosub k :: π)).length : Int) + (0 : Nat) * (-1) - 1 = π.length := by rw [el]; lia
  have hi := it_top (.gosub k) hp (Nat.le_of_lt hz)
  rw [← e1] at hi
  rw [← e0]
  have l : Lp (itRange (encPi (.gosub k :: π)).length (-1) (((encPi (.gosub k :: π)).length : Int) - 0).toNat) (gName 1) L0_floor_of 0 [some (.ref ip), none] σ (.ret (.int (((encPi (.gosub k :: π)).length : Int) + (0 : Nat) * (-1)))) [some (.ref ip), some (.int (((encPi (.gosub k :: π)).length : Int) + (0 : Nat) * (-1)))] σ :=
    lp_ret (step_n (rg_at (by rw [el]; lia)) (sruns_of [.v (encPE (.gosub k)), .d] fun P os hp => (And.intro hi hp :)))
  exact runs_of [.l (encPi (.gosub k :: π)), .f _ _ σ] fun P os hp' => (And.intro (⟨hp, by rw [el]; lia⟩ : Lst σ ip (encPi (.gosub k :: π))) <| And.intro (⟨rfl, by unfold Sml; lia, ⟨by decide, by decide⟩⟩ : (-1 : Int) = -1 ∧ Sml (encPi (.gosub k :: π)).length ∧ Sml 0) <| And.intro l hp' :)

noncomputable def NoF (v : String) (π : List PE) : Prop := ∀ x ∈ π, ∀ a l p, x ≠ PE.for_ v a l p
theorem found_none {v : String} (hp : σ[ip]? = some (.list (encPi π))) (hz : π.length ≤ 20) (hn : NoG π) (hf : NoF v π) (hv : v ≠ "") : Runs F_found_at [.ref ip, .str "FOR", .str v] σ (.int (-1)) σ := by
  have el := encPi_len π
  have eN : (((encPi π).length : Int) - 1 - (0 - 1)).toNat = π.length := by rw [el]; lia
  refine lp_inv (it := itRange (((encPi π).length : Int) - 1) (-1) (((encPi π).length : Int) - 1 - (0 - 1)).toNat) (g := gName 3) (b := L0_found_at) (fun x => [some (.ref ip), some (.str "FOR"), some (.str v), x.a]) π.length (fun _ _ σ' => σ' = σ) (fun x σ' _ => rg_end (Nat.le_of_eq eN)) (fun G j x σ' hj q kk => ?_) π.length 0 {} σ _ (Nat.zero_add _) rfl fun x' σ' q l => by subst q; exact runs_of [.l (encPi π), .c (.int 0) σ', .f .next [some (.ref ip), some (.str "FOR"), some (.str v), x'.a] σ'] fun P os hp' => (And.intro (⟨hp, by rw [el]; exact Nat.le_trans hz (by decide)⟩ : Lst σ' ip (encPi π)) <| And.intro (floor0 hp hz hn) <| And.intro (⟨rfl, by unfold Sml; lia, ⟨by decide, by decide⟩⟩ : (-1 : Int) = -1 ∧ Sml ((encPi π).length - 1) ∧ Sml (0 - 1)) <| And.intro l hp' :)
  subst q
  refine encPi_it hp hz (k := ((encPi π).length : Int) - 1 + j * (-1)) (by lia) (by lia) fun y hy hi => ?_
  have r := rg_at (x := ((encPi π).length : Int) - 1) (s := -1) (σ := σ') (eN ▸ hj)
  cases y with
  | gosub k => exact absurd rfl (hn _ hy k)
  | for_ w a b c =>
    have hw : (decide ("" = v) || (decide (w = v) || false)) = false := by rw [decide_eq_false (Ne.symm hv), decide_eq_false fun q => hf _ hy a b c (by rw [q])]; rfl
    exact kk { a := some (.int (((encPi π).length : Int) - 1 + j * (-1))) } σ' (step_n r (sruns_of [.v _, .d, .v _, .b false, .d] fun P os hp => (And.intro hi <| And.intro hi <| And.intro hw hp :))) rfl
  | whil a => exact kk { a := some (.int (((encPi π).length : Int) - 1 + j * (-1))) } σ' (step_n r (sruns_of [.v _, .d, .d] fun P os hp => (And.intro hi hp :))) rfl
noncomputable def TopIs (x : PE) (kd nm : String) : Prop := (∃ a l p, x = .for_ nm a l p ∧ kd = "FOR") ∨ ∃ a, x = .whil a ∧ kd = "WHILE" ∧ nm = ""
theorem found_top {x : PE} {kd nm : String} (hp : σ[ip]? = some (.list (encPi (x :: π)))) (hz : π.length < 20) (hn : NoG (x :: π)) (ht : TopIs x kd nm) : Runs F_found_at [.ref ip, .str kd, .str nm] σ (.int π.length) σ := by
  have el : (encPi (x :: π)).length = π.length + 1 := encPi_len _
  have e1 : ((encPi (x :: π)).length : Int) - 1 + (0 : Nat) * (-1) = π.length := by rw [el]; lia
  have hi := it_top x hp (Nat.le_of_lt hz)
  rw [← e1] at hi ⊢
  have l : Lp (itRange (((encPi (x :: π)).length : Int) - 1) (-1) (((encPi (x :: π)).length : Int) - 1 - (0 - 1)).toNat) (gName 3) L0_found_at 0 [some (.ref ip), some (.str kd), some (.str nm), none] σ (.ret (.int (((encPi (x :: π)).length : Int) - 1 + (0 : Nat) * (-1)))) [some (.ref ip), some (.str kd), some (.str nm), some (.int (((encPi (x :: π)).length : Int) - 1 + (0 : Nat) * (-1)))] σ := by
    refine lp_ret (step_n (rg_at (by rw [el]; lia)) ?_)
    rcases ht with ⟨a, l, p, rfl, rfl⟩ | ⟨a, rfl, rfl, rfl⟩
    · have hw : (decide ("" = nm) || (decide (nm = nm) || false)) = true := by rw [decide_eq_true (rfl : nm = nm), Bool.true_or, Bool.or_true]
      exact sruns_of [.v _, .d, .v _, .b true, .d] fun P os hp => (And.intro hi <| And.intro hi <| And.intro hw hp :)
    · exact sruns_of [.v _, .d, .v _, .b true, .d] fun P os hp => (And.intro hi <| And.intro hi <| And.intro rfl hp :)
  exact runs_of [.l (encPi (x :: π)), .c (.int 0) σ, .f _ _ σ] fun P os hp' => (And.intro (⟨hp, by rw [el]; lia⟩ : Lst σ ip (encPi (x :: π))) <| And.intro (floor0 hp hz hn) <| And.intro (⟨rfl, by unfold Sml; lia, ⟨by decide, by decide⟩⟩ : (-1 : Int) = -1 ∧ Sml ((encPi (x :: π)).length - 1) ∧ Sml (0 - 1)) <| And.intro l hp' :)

theorem cut_ {k : Int} (h : M X ip e (π ++ π') σ) (hk : k = π'.length) (kk : ∀ ip' σ', Runs F_cut_to [.ref (X.D + 4), .int k] σ .none σ' → M X ip' e π' σ' → C) : C := by
  subst hk
  have e1 : (encPi (π ++ π')).take π'.length = encPi π' := by rw [encPi_app, List.take_left' (encPi_len _)]
  have hz := h.pz
  rw [List.length_append] at hz
  have g1 := h.v.move 5 (.list (encPi π'))
  have g2 := g1.set 3 (.attrs (vCat σ.length)) rfl
  have i4 : InA (σ ++ [O.list (encPi π')]) (X.D + 4) 265 (X.D + 3) (vCat ip) := ⟨g1.at_ 4 _ _ rfl, g1.at_ 3 _ _ rfl, (by decide : 3 ≤ 100)⟩
  refine kk σ.length ((σ ++ [O.list (encPi π')]).set (X.D + 3) (.attrs (vCat σ.length))) (runs_of [.v (.ref ip), .l (encPi (π ++ π')), .n (X.D + 3), .p (vCat ip)] fun P os hp => ?_) ⟨(g2 : Vw X.D X.σ1 (mv X σ.length e π') _), h.sz, by lia⟩
  rw [← e1] at hp i4
  exact (And.intro h.pile <| And.intro h.pl <| And.intro (Int.natCast_nonneg _) <| And.intro trivial <| And.intro i4 hp :)
theorem push_ {x : PE} (h : M X ip e π σ) (hz : π.length < 20) (kk : ∀ σ', Runs F_put_upon [.ref (X.D + 4), encPE x] σ .none σ' → M X ip e (x :: π) σ' → C) : C := by
  have g : Vw X.D X.σ1 (mv X ip e (x :: π)) (σ.set ip (.list (encPi (x :: π)))) := h.v.set 5 (.list (encPi (x :: π))) rfl
  have hm : Attr σ (X.D + 4) 265 "most" (.int 20) := h.ca rfl
  have hl : decide ((20 : Int) ≤ (encPi π).length) = false := decide_eq_false (by rw [encPi_len]; lia)
  exact kk (σ.set ip (.list (encPi (x :: π)))) (encPi_cons x π ▸ runs_of [.v (.ref ip), .l (encPi π), .v (.int 20), .b false, .v (.ref ip), .l (encPi π)] fun P os hp => (And.intro h.pile <| And.intro h.pl <| And.intro hm <| And.intro hl <| And.intro h.pile <| And.intro (isl h.p) <| And.intro h.pl hp :)) ⟨g, h.sz, hz⟩
end

theorem order_ {a b : Int} {σ : St} : Runs F_order_of [.int a, .int b] σ (.int (b2n (decide (b < a)) - b2n (decide (a < b)))) σ :=
  runs_of [.d, .d, .d, .d, .d, .d, .d, .d, .d, .d] fun P os hp => hp
theorem ord_lt (a b : Int) : decide (b2n (decide (b < a)) - b2n (decide (a < b)) < 0) = decide (a < b) := by
  by_cases h : a < b
  · rw [decide_eq_true h, decide_eq_false (Int.not_lt.mpr (Int.le_of_lt h))]; rfl
  · rw [decide_eq_false h]
    by_cases q : b < a
    · rw [decide_eq_true q]; rfl
    · rw [decide_eq_false q]; rfl
theorem is_past_ {x l p : Int} {σ : St} (hp : p ≠ 0) : Runs F_is_past [.int x, .int l, .int p, .fn 248] σ (.bool (!within x l p)) σ := by
  by_cases h : 0 < p
  · have e : (!within x l p) = decide (b2n (decide (x < l)) - b2n (decide (l < x)) < 0) := by
      rw [ord_lt]; unfold within; rw [if_pos h, ← decide_not]; exact decide_eq_decide.mpr Int.not_le
    have e2 : decide (0 ≤ b2n (decide (0 < p)) - b2n (decide (p < 0))) = true := by rw [decide_eq_true h, decide_eq_false (Int.not_lt.mpr (Int.le_of_lt h))]; rfl
    rw [e]
    exact runs_of [.d, .d, .d, .b true, .c (.int (b2n (decide (x < l)) - b2n (decide (l < x)))) σ] fun P os hp => (And.intro e2 <| And.intro order_ hp :)
  · have h' : p < 0 := by lia
    have e : (!within x l p) = decide (b2n (decide (l < x)) - b2n (decide (x < l)) < 0) := by
      rw [ord_lt]; unfold within; rw [if_neg h, ← decide_not]; exact decide_eq_decide.mpr Int.not_le
    have e2 : decide (0 ≤ b2n (decide (0 < p)) - b2n (decide (p < 0))) = false := by rw [decide_eq_false h, decide_eq_true h']; rfl
    rw [e]
    exact runs_of [.d, .d, .d, .b false, .c (.int (b2n (decide (l < x)) - b2n (decide (x < l)))) σ] fun P os hp => (And.intro e2 <| And.intro order_ hp :)
noncomputable def Fit (x : Int) : Prop := -32768 ≤ x ∧ x < 32768
section
variable {C : Prop} {X : Cx} {ip pc : Nat} {e : En} {π : List PE} {σ : St} {v : String} {a : Nat} {l p : Int}
theorem fits_ {x : Int} (h : Fit x) : Runs F_fits [.int x, .int 16] σ (.bool (decide (x < 32768))) σ :=
  have s : (0 : Int) ≤ 16 - 1 ∧ (16 : Int) - 1 ≤ 1000 ∧ (-1000 : Int) < 1 ∧ (1 : Int) < 1000 := ⟨by decide, by decide, by decide, by decide⟩
  runs_of [.b true] fun P os hp => (And.intro s <| And.intro (decide_eq_true h.1) <| And.intro s hp :)
theorem plus_ {x : Int} (h : M X ip e π σ) (hz : Fit (x + p)) : Runs F_run_plus [.ref (X.D + 2), .int x, .int p] σ (.int (x + p)) σ :=
  have hb : Attr σ (X.D + 2) 556 "bits" (.int 16) := h.ra rfl
  have hd : Attr σ (X.D + 2) 556 "digits" (.int 9) := h.ra rfl
  runs_of [.v (.int 16), .v (.int 9), .d, .d, .d, .d, .d, .d, .d, .d, .d, .d, .d, .d, .d, .d, .d, .d, .c (.bool (decide (x + p < 32768))) σ, .b true] fun P os hp => (And.intro hb <| And.intro hd <| And.intro (fits_ hz) <| And.intro (decide_eq_true hz.2) hp :)

theorem for_begin_ (h : M X ip e π σ) (hv : v ≠ "") (hn : NoG π) (hf : NoF v π) (hz : π.length < 20) (kk : ∀ σ', Runs F_for_begin [.ref (X.D + 4), .str v, .int a, .int l, .int p] σ .none σ' → M X ip e (.for_ v a l p :: π) σ' → C) : C :=
  push_ (x := .for_ v a l p) h hz fun σ' r g => kk σ' (runs_of [.v (.ref ip), .c (.int (-1)) σ, .d, .c .none σ'] fun P os hp => (And.intro h.pile <| And.intro (found_none h.p h.pz hn hf hv) <| And.intro r hp :)) g
theorem nog_cons {x : PE} (h : NoG π) (hx : ∀ k, x ≠ .gosub k) : NoG (x :: π) := fun y hy k => (List.mem_cons.mp hy).elim (fun q => q ▸ hx k) (fun q => h y q k)
theorem nog_for (h : NoG π) : NoG (.for_ v a l p :: π) := nog_cons h fun _ e => by cases e
theorem not_neg {n : Nat} : decide ((n : Int) < 0) = false := decide_eq_false (Int.not_lt.mpr (Int.natCast_nonneg n))
theorem for_name_ (h : M X ip e (.for_ v a l p :: π) σ) (hn : NoG π) : Runs F_for_name [.ref (X.D + 4), .str v] σ (.str v) σ :=
  runs_of [.v (.ref ip), .c (.int π.length) σ, .b false, .v (.ref ip), .v (encPE (.for_ v a l p))] fun P os hp => (And.intro h.pile <| And.intro (found_top h.p h.pz (nog_for hn) (.inl ⟨a, l, p, rfl, rfl⟩)) <| And.intro not_neg <| And.intro h.pile <| And.intro (it_top _ h.p (Nat.le_of_succ_le h.pz)) hp :)
noncomputable def nxV (w : Bool) (a : Nat) : V := match w with
  | true => .int a
  | false => .none
noncomputable def nxP (w : Bool) (x : PE) (π : List PE) : List PE := match w with
  | true => x :: π
  | false => π
noncomputable def nxE (w : Bool) (a b : En) : En := match w with
  | true => a
  | false => b
noncomputable def nxQ (w : Bool) (a b : List PE) : List PE := match w with
  | true => a
  | false => b
noncomputable def nxF (w : Bool) (a : Nat) : Fl := match w with
  | true => .ret (.int a)
  | false => .next
noncomputable def nxA (w : Bool) (a b : Nat) : Nat := match w with
  | true => a
  | false => b
theorem for_next_ {x : Int} {w : Bool} (h : M X ip e (.for_ v a l p :: π) σ) (hn : NoG π) (hp : p ≠ 0) (hz : Fit (x + p)) (hw : within (x + p) l p = w)
    (kk : ∀ ip' σ', Runs F_for_next [.ref (X.D + 4), .str v, .int x, .bound 546 (X.D + 2), .fn 248] σ (.tup [.int (x + p), nxV w a]) σ' → M X ip' e (nxP w (.for_ v a l p) π) σ' → C) : C := by
  have r1 := found_top h.p h.pz (nog_for hn) (.inl ⟨a, l, p, rfl, rfl⟩)
  have r2 := it_top _ h.p (Nat.le_of_succ_le h.pz)
  have r3 := is_past_ (x := x + p) (l := l) (σ := σ) hp
  rw [hw] at r3
  cases w with
  | true => exact cut_ (k := π.length + 1) (π := []) h rfl fun ip' σ' r g => kk ip' σ' (runs_of [.v (.ref ip), .c (.int π.length) σ, .b false, .v (.ref ip), .v (encPE (.for_ v a l p)), .c (.int (x + p)) σ, .c (.bool (!true)) σ, .d, .c .none σ'] fun P os hp => (And.intro h.pile <| And.intro r1 <| And.intro not_neg <| And.intro h.pile <| And.intro r2 <| And.intro (plus_ h hz) <| And.intro r3 <| And.intro r hp :)) g
  | false => exact cut_ (k := π.length) (π := [.for_ v a l p]) h rfl fun ip' σ' r g => kk ip' σ' (runs_of [.v (.ref ip), .c (.int π.length) σ, .b false, .v (.ref ip), .v (encPE (.for_ v a l p)), .c (.int (x + p)) σ, .c (.bool (!false)) σ, .d, .c .none σ'] fun P os hp => (And.intro h.pile <| And.intro r1 <| And.intro not_neg <| And.intro h.pile <| And.intro r2 <| And.intro (plus_ h hz) <| And.intro r3 <| And.intro r hp :)) g
noncomputable abbrev nfM (X : Cx) (pc ni : Nat) (x : Sl) : Ms := [some (.ref (X.D + 2)), some (.int pc), some (.ref ni), x.a, x.b, x.c, x.d]
theorem nx1_ {ni : Nat} {x : Sl} {w : Bool} (h : M X ip e (.for_ v a l p :: π) σ) (hn : NoG π) (hp : p ≠ 0) (hz : Fit (look e v + p)) (he : e.sz < 100000) (hw : within (look e v + p) l p = w)
    (kk : ∀ ip' σ' x', SRuns L0_next_from (nfM X pc ni { x with a := some (.str v) }) σ (nxF w a) (nfM X pc ni x') σ' → M X ip' (e.setv v (look e v + p)) (nxP w (.for_ v a l p) π) σ' → C) : C :=
  for_next_ h hn hp hz hw fun ip1 σ1 r1 g1 => put_v (v := v) (y := look e v + p) g1 he fun σ2 r2 g2 => kk ip1 σ2 { a := some (.str v), b := some (.str v), c := some (.int (look e v + p)), d := some (nxV w a) } (by
    have n1 : NoAttr σ (X.D + 2) 556 "value_of_name" := h.no rfl
    have n2 : NoAttr σ (X.D + 2) 556 "plus" := h.no rfl
    have n3 : NoAttr σ1 (X.D + 2) 556 "store" := g1.no rfl
    cases w <;> exact sruns_of [.v (.ref (X.D + 4)), .c (.str v) σ, .v (.ref (X.D + 4)), .c (.int (look e v)) σ, .c (.tup [.int (look e v + p), nxV _ a]) σ1, .c .none σ2, .d] fun P os hp => (And.intro h.control <| And.intro (for_name_ h hn) <| And.intro h.control <| And.intro n1 <| And.intro (val_ h) <| And.intro n2 <| And.intro r1 <| And.intro n3 <| And.intro r2 hp :)) g2
theorem next_one_ {ni : Nat} {w : Bool} (h : M X ip e (.for_ v a l p :: π) σ) (hi : Sub X.σ1 0 X.D ni [.str v]) (hn : NoG π) (hp : p ≠ 0) (hz : Fit (look e v + p)) (he : e.sz < 100000) (hw : within (look e v + p) l p = w)
    (kk : ∀ ip' σ', Runs F_next_from [.ref (X.D + 2), .int pc, .ref ni] σ (.int (nxA w a (pc + 1))) σ' → M X ip' (e.setv v (look e v + p)) (nxP w (.for_ v a l p) π) σ' → C) : C := by
  have l0 := h.v.get hi.2.1 hi.2.2
  refine nx1_ (pc := pc) (ni := ni) (x := {}) h hn hp hz he hw fun ip' σ' x' r g => kk ip' σ' ?_ g
  have s : Step (itList ni) (gName 3) L0_next_from 0 (nfM X pc ni {}) σ (nxF w a) (nfM X pc ni x') σ' := step_n (it_at (nth_l (k := 0) l0 rfl)) r
  cases w with
  | true => exact runs_of [.f _ _ σ'] fun P os hp => (And.intro (isl l0) <| And.intro (lp_ret s) hp :)
  | false => exact runs_of [.f _ _ σ'] fun P os hp => (And.intro (isl l0) <| And.intro (lp_step s (lp_end (it_end (nth_l (k := 1) (g.v.get hi.2.1 hi.2.2) rfl)))) hp :)
theorem next_two_ {ni : Nat} {u : String} {b : Nat} {m q : Int} {w w2 : Bool} (h : M X ip e (.for_ v a l p :: .for_ u b m q :: π) σ) (hi : Sub X.σ1 0 X.D ni [.str v, .str u]) (hn : NoG π) (hp : p ≠ 0) (hq : q ≠ 0) (hvu : v ≠ u) (hz : Fit (look e v + p)) (hz2 : Fit (look e u + q)) (he : e.sz < 99999) (hw : within (look e v + p) l p = w) (hw2 : within (look e u + q) m q = w2)
    (kk : ∀ ip' σ', Runs F_next_from [.ref (X.D + 2), .int pc, .ref ni] σ (.int (nxA w a (nxA w2 b (pc + 1)))) σ' → M X ip' (nxE w (e.setv v (look e v + p)) ((e.setv v (look e v + p)).setv u (look e u + q))) (nxP w (.for_ v a l p) (nxQ w (.for_ u b m q :: π) (nxP w2 (.for_ u b m q) π))) σ' → C) : C := by
  have l0 := h.v.get hi.2.1 hi.2.2
  refine nx1_ (pc := pc) (ni := ni) (x := {}) h (nog_for hn) hp hz (Nat.lt_of_lt_of_le he (by decide)) hw fun ip' σ1 x1 r g => ?_
  have s : Step (itList ni) (gName 3) L0_next_from 0 (nfM X pc ni {}) σ (nxF w a) (nfM X pc ni x1) σ1 := step_n (it_at (nth_l (k := 0) l0 rfl)) r
  cases w with
  | true => exact kk ip' σ1 (runs_of [.f _ _ σ1] fun P os hp => (And.intro (isl l0) <| And.intro (lp_ret s) hp :)) g
  | false =>
    have el : look (e.setv v (look e v + p)) u = look e u := by rw [look_setv, if_neg hvu]
    refine nx1_ (pc := pc) (ni := ni) (x := x1) g hn hq (el.symm ▸ hz2) (Nat.lt_of_le_of_lt (sz_setv ..) (Nat.succ_lt_succ he)) (el.symm ▸ hw2) fun ip' σ' x' r g2 => kk ip' σ' ?_ (el ▸ g2)
    have s2 : Step (itList ni) (gName 3) L0_next_from 1 (nfM X pc ni x1) σ1 (nxF w2 b) (nfM X pc ni x') σ' := step_n (it_at (nth_l (k := 1) (g.v.get hi.2.1 hi.2.2) rfl)) r
    cases w2 with
    | true => exact runs_of [.f _ _ σ'] fun P os hp => (And.intro (isl l0) <| And.intro (lp_step s (lp_ret s2)) hp :)
    | false => exact runs_of [.f _ _ σ'] fun P os hp => (And.intro (isl l0) <| And.intro (lp_step s (lp_step s2 (lp_end (it_end (nth_l (k := 2) (g2.v.get hi.2.1 hi.2.2) rfl))))) hp :)
end

theorem runs_s {n k : Nat} {b : SF} {vs : List V} {σ σ' : St} {v : V} {m' : Ms} (hl : lenIs n vs = true) (h : SRuns b (vs.map some ++ List.replicate k none) σ (.ret v) m' σ') : Runs (runF n k b) vs σ v σ' := fun P hp => by
  unfold runF
  rw [hl]
  exact h (fun x _ σ => P (flV x) σ) hp
noncomputable def stp (po : Option Int) : Int := match po with
  | none => 1
  | some p => p
section
variable {C : Prop} {X : Cx} {ip pc : Nat} {e : En} {π π' : List PE} {σ : St} {v : String} {b l : Int} {po : Option Int}
noncomputable abbrev dfV (v : String) (b l : Int) (po : Option Int) : V := .tup [.str "FOR", .str v, vWh b, vWh l, vOpt po]
noncomputable abbrev dfM (X : Cx) (pc : Nat) (v : String) (b l : Int) (po : Option Int) (s x : Option V) : Ms := [some (.ref (X.D + 2)), some (.int pc), some (dfV v b l po), some (.str "FOR"), some (.str v), some (vWh b), some (vWh l), some (vOpt po), some (.int b), some (.int l), s, x, none, none, none]
theorem ty_ : Lp (itTup [.int b, .int l, .int (stp po)]) (gName 11) L0_do_for 0 (dfM X pc v b l po (some (.int (stp po))) none) σ .next (dfM X pc v b l po (some (.int (stp po))) (some (.int (stp po)))) σ := fun P h => let ⟨os, q⟩ := h; ⟨4, .d :: .d :: .d :: os, q⟩
theorem M.nw (h : M X ip e π σ) : NoAttr σ (X.D + 2) 556 "worth" := h.no rfl
theorem stp_ (h : M X ip e π σ) : SRuns (sAsg (gName 10) (eIf (tCmp cIs (eLoc 7) (eC .none)) (eC (.int 1)) (eMeth 556 "worth" F_run_worth (eLoc 0) (lCons (eLoc 7) lNil)))) (dfM X pc v b l po none none) σ .next (dfM X pc v b l po (some (.int (stp po))) none) σ := by
  cases po with
  | none => exact sruns_of [.d] fun P os hp => hp
  | some p => exact sruns_of [.d, .c (.int p) σ] fun P os hp => (And.intro h.nw <| And.intro (worth_ h (.wh p)) hp :)
theorem for_in_ (h : M X ip e π σ) (he : e.sz < 100000) (hv : v ≠ "") (hp : stp po ≠ 0) (hn : NoG π) (hf : NoF v π) (hz : π.length < 20) (hw : within b l (stp po) = true)
    (kk : ∀ σ', Runs F_do_for [.ref (X.D + 2), .int pc, dfV v b l po] σ (.int (pc + 1 : Nat)) σ' → M X ip (e.setv v b) (.for_ v (pc + 1) l (stp po) :: π) σ' → C) : C :=
  put_v (v := v) (y := b) h he fun σ1 r1 g1 => for_begin_ (a := pc + 1) (l := l) (p := stp po) g1 hv hn hf hz fun σ' r2 g2 => kk σ' (by
    have n1 : NoAttr σ (X.D + 2) 556 "store" := h.no rfl
    have n2 : NoAttr σ1 (X.D + 2) 556 "value_of_name" := g1.no rfl
    have hl : look (e.setv v b) v = b := by rw [look_setv, if_pos rfl]
    have r3 := is_past_ (x := b) (l := l) (σ := σ1) hp
    rw [hw] at r3
    exact runs_s rfl (seq_r (sruns_of [] fun P os hp => hp) <| seq_r (m1 := dfM X pc v b l po none none) (sruns_of [.c (.int b) σ, .c (.int l) σ] fun P os hp => (And.intro h.nw <| And.intro (worth_ h (.wh b)) <| And.intro h.nw <| And.intro (worth_ h (.wh l)) hp :)) <| seq_r (stp_ h) <|
      seq_r (m1 := dfM X pc v b l po (some (.int (stp po))) (some (.int (stp po)))) (sruns_of [.f .next _ σ] fun P os hp => (And.intro ty_ hp :)) <|
      sruns_of [.c .none σ1, .c (.int b) σ1, .c (.bool (!true)) σ1, .d, .v (.ref (X.D + 4)), .c .none σ'] fun P os hp => (And.intro n1 <| And.intro r1 <| And.intro n2 <| And.intro (hl ▸ val_ g1) <| And.intro r3 <| And.intro g1.control <| And.intro r2 hp :))) g2
theorem for_out_ {j ni : Nat} {n : Int} (hX : X.Ok) (h : M X ip e π σ) (he : e.sz < 100000) (hp : stp po ≠ 0) (hw : within b l (stp po) = false) (hg : getK (pc : Int) X.lp = some (.tup [.int j, .int (0 : Nat)])) (hr : X.L[j]? = some (vRow n (.tup [.str "NEXT", .ref ni]))) (hi : Sub X.σ1 0 X.D ni [.str v])
    (kk : ∀ σ', Runs F_do_for [.ref (X.D + 2), .int pc, dfV v b l po] σ (.int (j + 1 : Nat)) σ' → M X ip (e.setv v b) π σ' → C) : C :=
  put_v (v := v) (y := b) h he fun σ1 r1 g1 => kk (σ1 ++ [.list []]) (by
    have n1 : NoAttr σ (X.D + 2) 556 "store" := h.no rfl
    have n2 : NoAttr σ1 (X.D + 2) 556 "value_of_name" := g1.no rfl
    have hl : look (e.setv v b) v = b := by rw [look_setv, if_pos rfl]
    have r3 := is_past_ (x := b) (l := l) (σ := σ1) hp
    rw [hw] at r3
    have fa := g1.fa hX
    have lo : IsI σ1 (X.N + 6) X.lp := g1.old hX (by decide) hX.loops
    have hno : (getK (pc : Int) X.lp).isNone = false := by rw [hg]; rfl
    have hi1 : ItI σ1 (X.N + 6) pc (.tup [.int j, .int (0 : Nat)]) := .inr ⟨_, lo, hg⟩
    have hj : j < 1000000000 := Nat.lt_of_lt_of_le (List.getElem?_eq_some_iff.mp hr).1 (Nat.le_trans (M.lz hX) (by decide))
    have rw1 := it_l (g1.rows hX).1 hr hj
    have l1 : Lst σ1 ni [.str v] := lst1 (g1.v.get hi.2.1 hi.2.2)
    have l2 : NthL (σ1 ++ [.list []]) σ1.length 0 none := nth_l get_end rfl
    exact runs_s rfl (seq_r (sruns_of [] fun P os hp => hp) <| seq_r (m1 := dfM X pc v b l po none none) (sruns_of [.c (.int b) σ, .c (.int l) σ] fun P os hp => (And.intro h.nw <| And.intro (worth_ h (.wh b)) <| And.intro h.nw <| And.intro (worth_ h (.wh l)) hp :)) <| seq_r (stp_ h) <|
      seq_r (m1 := dfM X pc v b l po (some (.int (stp po))) (some (.int (stp po)))) (sruns_of [.f .next _ σ] fun P os hp => (And.intro ty_ hp :)) <|
      sruns_of [.c .none σ1, .c (.int b) σ1, .c (.bool (!false)) σ1, .d, .v (.ref (X.N + 1)), .d, .v (.ref (X.N + 6)), .q X.lp, .b false, .v (.ref (X.N + 6)), .v (.tup [.int j, .int (0 : Nat)]), .v (.ref (X.N + 1)), .v (.ref (X.N + 2)), .v (vRow n (.tup [.str "NEXT", .ref ni])), .l [.str v], .d, .n 1, .d] fun P os hp => (And.intro n1 <| And.intro r1 <| And.intro n2 <| And.intro (hl ▸ val_ g1) <| And.intro r3 <| And.intro g1.flat <| And.intro fa.loops <| And.intro lo <| And.intro hno <| And.intro fa.loops <| And.intro hi1 <| And.intro g1.flat <| And.intro fa.rows <| And.intro rw1 <| And.intro l1 <| And.intro (by decide : (0 : Int) ≤ (0 : Nat) + 1) <| And.intro (isl get_end) <| And.intro l2 hp :))) g1.app

noncomputable abbrev vW (a : Nat) : V := .tup [.str "WHILE", .int a]
noncomputable def NoW (a : Nat) (π : List PE) : Prop := ∀ x ∈ π, x ≠ .whil a
theorem wh_eq {a : Nat} {x : PE} (h : x ≠ .whil a) : eq1 (encPE x) (vW a) = false := by
  cases x with
  | whil b =>
    have hb : b ≠ a := fun e => h (by rw [e])
    show (decide ("WHILE" = "WHILE") && (decide ((b : Int) = a) && true)) = false
    rw [decide_eq_false fun e => hb (Int.ofNat_inj.mp e)]; rfl
  | _ => rfl
noncomputable def qW (l : List V) (a : Nat) : V → Bool
  | .int k => match l[k.toNat]? with
    | some y => eq1 y (vW a)
    | none => false
  | _ => false
noncomputable def rng (n : Nat) : List V := (List.range n).map fun (k : Nat) => V.int (0 + k * 1)
theorem rng_get (n j : Nat) : (rng n)[j]? = if j < n then some (.int (0 + j * 1)) else none := by
  unfold rng
  rw [List.getElem?_map]
  by_cases h : j < n
  · rw [List.getElem?_range h, if_pos h]; rfl
  · rw [if_neg h, List.getElem?_eq_none (by rw [List.length_range]; exact Nat.not_lt.mp h)]; rfl
theorem rng_len (n : Nat) : (rng n).length = n := by unfold rng; rw [List.length_map, List.length_range]
theorem qW_at {l : List V} {a k : Nat} {y : V} (h : l[k]? = some y) : qW l a (.int (0 + k * 1)) = eq1 y (vW a) := by
  show (match l[(0 + (k : Int) * 1).toNat]? with | some y => eq1 y (vW a) | none => false) = _
  rw [show (0 + (k : Int) * 1).toNat = k by lia, h]
theorem rng_none {l : List V} {a : Nat} (n : Nat) (h : ∀ j < n, ∃ y, l[j]? = some y ∧ eq1 y (vW a) = false) : (rng n).filter (qW l a) = [] := by
  refine List.filter_eq_nil_iff.mpr fun v hv => ?_
  obtain ⟨k, hk, rfl⟩ := List.mem_map.mp hv
  obtain ⟨y, h1, h2⟩ := h k (List.mem_range.mp hk)
  rw [qW_at h1, h2]; exact Bool.false_ne_true
noncomputable def spots (a : Nat) (π : List PE) : List V := (rng π.length).filter (qW (encPi π) a)
theorem spots_none {a : Nat} (h : NoW a π) : spots a π = [] :=
  rng_none _ fun j hj => let ⟨x, hx, hg⟩ := encPi_get π hj; ⟨_, hg, wh_eq (h x hx)⟩
theorem spots_top {a : Nat} (h : NoW a π) : spots a (.whil a :: π) = [.int (0 + π.length * 1)] := by
  have e1 : (rng π.length).filter (qW (encPi (.whil a :: π)) a) = [] := rng_none _ fun j hj => let ⟨x, hx, hg⟩ := encPi_get π hj; ⟨_, by rw [encPi_cons, List.getElem?_append_left (by rw [encPi_len]; exact hj)]; exact hg, wh_eq (h x hx)⟩
  have e2 : qW (encPi (.whil a :: π)) a (.int (0 + π.length * 1)) = true := by
    rw [qW_at (encPi_top _ _)]
    show (decide ("WHILE" = "WHILE") && (decide ((a : Int) = a) && true)) = true
    rw [decide_eq_true (rfl : (a : Int) = a)]; rfl
  show (rng (π.length + 1)).filter _ = _
  rw [show rng (π.length + 1) = rng π.length ++ [.int (0 + π.length * 1)] by unfold rng; rw [List.range_succ, List.map_append]; rfl, List.filter_append, e1, List.filter_cons_of_pos e2]; rfl
theorem comp_ {a : Nat} (h : M X ip e π σ) : Lc (itRange 0 1 (((encPi π).length : Int) - 0).toNat) (tCmp cEq (eIdx (eC (.ref ip)) (eLoc 0)) (eTup (lCons (eC (.str "WHILE")) (lCons (eC (.int a)) lNil)))) σ.length 0 (σ ++ [.list []]) (σ ++ [.list (spots a π)]) := by
  have eN : (((encPi π).length : Int) - 0).toNat = π.length := by rw [encPi_len]; lia
  refine comp_eq (items := rng π.length) (q := qW (encPi π) a) (fun j acc => ?_) (fun v hv acc => ?_) (by rw [rng_len]; exact Nat.le_trans h.pz (by decide)) π.length 0 [] (by rw [rng_len]; exact Nat.zero_add _) (Nat.le_refl _)
  · rw [eN, rng_get]
    by_cases hj : j < π.length
    · rw [if_pos hj]; exact rg_at hj
    · rw [if_neg hj]; exact rg_end (Nat.not_lt.mp hj)
  · obtain ⟨k, hk, rfl⟩ := List.mem_map.mp hv
    have hk := List.mem_range.mp hk
    obtain ⟨y, hy, hg⟩ := encPi_get π hk
    rw [qW_at hg]
    have hi : ItI (σ ++ [.list acc]) ip (0 + k * 1) (encPE y) := .inl ⟨_, get_app h.p, by have := h.pz; lia, by rw [show (0 + (k : Int) * 1).toNat = k by lia]; exact hg⟩
    cases y <;> exact truns_of [.v _] fun P os hp => (And.intro hi hp :)
theorem sm20 (h : M X ip e π σ) : Sml 0 ∧ Sml (encPi π).length := ⟨⟨by decide, by decide⟩, by have := h.pz; rw [encPi_len]; unfold Sml; lia⟩
theorem while_begin_ {a : Nat} (h : M X ip e π σ) (hn : NoG π) (hh : (∃ π1, π = .whil a :: π1 ∧ NoW a π1 ∧ π' = π) ∨ (NoW a π ∧ π' = .whil a :: π)) (hz : π.length < 20)
    (kk : ∀ ip' σ', Runs F_while_begin [.ref (X.D + 4), .int a] σ .none σ' → M X ip' e π' σ' → C) : C := by
  have g := (h.app (τ := [O.list (spots a π)])).app (τ := [O.list []])
  have f0 := floor0 h.p h.pz hn
  have c := comp_ (a := a) h
  have l1 : Lst ((σ ++ [O.list (spots a π)]) ++ [O.list []]) (σ ++ [O.list (spots a π)]).length [] := ls_l get_end (by decide)
  rcases hh with ⟨π1, e1, e2, e3⟩ | ⟨e2, e3⟩
  · subst e3; subst e1
    have es := spots_top e2
    rw [es] at g c l1
    have l2 : Lst ((σ ++ [O.list [.int (0 + π1.length * 1)]]) ++ [O.list []]) σ.length [.int (0 + π1.length * 1)] := lst1 (get_app get_end)
    have i2 := it_l (k := 0) l2.1 rfl
    exact cut_ (π := []) (k := 0 + π1.length * 1 + 1) g (by show _ = ((π1.length + 1 : Nat) : Int); lia) fun ip' σ' r g' => kk ip' σ' (runs_of [.v (.ref ip), .c (.int 0) σ, .l (encPi (.whil a :: π1)), .c .none (σ ++ [O.list [.int (0 + π1.length * 1)]]), .l [.int (0 + π1.length * 1)], .l [], .d, .v (.int (0 + π1.length * 1)), .c .none σ'] fun P os hp => (And.intro h.pile <| And.intro f0 <| And.intro h.pl <| And.intro (sm20 h) <| And.intro c <| And.intro l2 <| And.intro l1 <| And.intro (And.intro rfl rfl : ([V.int (0 + π1.length * 1)].all flat1 = true) ∧ (([] : List V).all flat1 = true)) <| And.intro i2 <| And.intro r hp :)) g'
  · subst e3
    have es := spots_none e2
    rw [es] at g c l1
    have l2 : Lst ((σ ++ [O.list []]) ++ [O.list []]) σ.length [] := ls_l (get_app get_end) (by decide)
    exact push_ (x := .whil a) g hz fun σ' r g' => kk ip σ' (runs_of [.v (.ref ip), .c (.int 0) σ, .l (encPi π), .c .none (σ ++ [O.list []]), .l [], .l [], .d, .c .none σ'] fun P os hp => (And.intro h.pile <| And.intro f0 <| And.intro h.pl <| And.intro (sm20 h) <| And.intro c <| And.intro l2 <| And.intro l1 <| And.intro (And.intro rfl rfl : (([] : List V).all flat1 = true) ∧ (([] : List V).all flat1 = true)) <| And.intro r hp :)) g'
theorem while_end_ {a : Nat} (h : M X ip e π σ) (hn : NoG π) (hh : (π = .whil a :: π' ∧ NoW a π') ∨ (NoW a π ∧ π' = π))
    (kk : ∀ ip' σ', Runs F_while_end [.ref (X.D + 4), .int a] σ .none σ' → M X ip' e π' σ' → C) : C := by
  have g := (h.app (τ := [O.list (spots a π)])).app (τ := [O.list []])
  have f0 := floor0 h.p h.pz hn
  have c := comp_ (a := a) h
  have l1 : Lst ((σ ++ [O.list (spots a π)]) ++ [O.list []]) (σ ++ [O.list (spots a π)]).length [] := ls_l get_end (by decide)
  rcases hh with ⟨e1, e2⟩ | ⟨e2, e3⟩
  · subst e1
    have es := spots_top e2
    rw [es] at g c l1
    have l2 : Lst ((σ ++ [O.list [.int (0 + π'.length * 1)]]) ++ [O.list []]) σ.length [.int (0 + π'.length * 1)] := lst1 (get_app get_end)
    have i2 := it_l (k := 0) l2.1 rfl
    exact cut_ (π := [.whil a]) (k := 0 + π'.length * 1) g (by lia) fun ip' σ' r g' => kk ip' σ' (runs_of [.v (.ref ip), .c (.int 0) σ, .l (encPi (.whil a :: π')), .c .none (σ ++ [O.list [.int (0 + π'.length * 1)]]), .l [.int (0 + π'.length * 1)], .l [], .d, .v (.int (0 + π'.length * 1)), .c .none σ'] fun P os hp => (And.intro h.pile <| And.intro f0 <| And.intro h.pl <| And.intro (sm20 h) <| And.intro c <| And.intro l2 <| And.intro l1 <| And.intro (And.intro rfl rfl : ([V.int (0 + π'.length * 1)].all flat1 = true) ∧ (([] : List V).all flat1 = true)) <| And.intro i2 <| And.intro r hp :)) g'
  · subst e3
    have es := spots_none e2
    rw [es] at g c l1
    have l2 : Lst ((σ ++ [O.list []]) ++ [O.list []]) σ.length [] := ls_l (get_app get_end) (by decide)
    exact kk ip _ (runs_of [.v (.ref ip), .c (.int 0) σ, .l (encPi π'), .c .none (σ ++ [O.list []]), .l [], .l [], .d] fun P os hp => (And.intro h.pile <| And.intro f0 <| And.intro h.pl <| And.intro (sm20 h) <| And.intro c <| And.intro l2 <| And.intro l1 <| And.intro (And.intro rfl rfl : (([] : List V).all flat1 = true) ∧ (([] : List V).all flat1 = true)) hp :)) g
theorem wend_ {a : Nat} (h : M X ip e (.whil a :: π) σ) (hn : NoG π) (kk : ∀ ip' σ', Runs F_wend_place [.ref (X.D + 4)] σ (.int a) σ' → M X ip' e (.whil a :: π) σ' → C) : C :=
  cut_ (π := []) (k := π.length + 1) h rfl fun ip' σ' r g => kk ip' σ' (runs_of [.v (.ref ip), .c (.int π.length) σ, .b false, .c .none σ', .v (.ref ip'), .v (encPE (.whil a))] fun P os hp => (And.intro h.pile <| And.intro (found_top h.p h.pz (nog_cons hn fun k q => by cases q) (.inr ⟨a, rfl, rfl, rfl⟩)) <| And.intro not_neg <| And.intro r <| And.intro g.pile <| And.intro (it_top _ g.p (Nat.le_of_succ_le g.pz)) hp :)) g
end

noncomputable abbrev Mst := Nat × En × List PE
noncomputable abbrev goF (X : Cx) (pc : Nat) (x : Sl) : Ms := [some (.ref (X.D + 2)), some (.int pc), x.a, x.b, x.c]
noncomputable def StepOk (X : Cx) (s s' : Mst) : Prop := ∀ (ip : Nat) (σ : St) (x : Sl) (C : Prop), M X ip s.2.1 s.2.2 σ → (∀ x' ip' σ', SRuns L0_run_go (goF X s.1 x) σ .next (goF X s'.1 x') σ' → M X ip' s'.2.1 s'.2.2 σ' → C) → C
section
variable {C : Prop} {X : Cx} {ip pc : Nat} {e : En} {π π' : List PE} {σ σ' : St} {x : Sl}
theorem true_ {k : Int} : Runs F_is_true [.int k] σ (.bool (!decide (k = 0))) σ := runs_of [.d, .d, .d] fun P os hp => hp
theorem wl_ (v : String) (k : Int) : (!decide (wor e (.lt v k) = 0)) = decide (look e v < k) := by
  show (!decide (0 - (if decide (look e v < k) = true then (1 : Int) else 0) = 0)) = _
  cases decide (look e v < k) <;> rfl
theorem pre_ {n : Int} {v : V} {b : SF} {m' : Ms} {fl : Fl} (hX : X.Ok) (h : M X ip e π σ) (hr : X.L[pc]? = some (vRow n v)) (k : SRuns b (goF X pc { x with c := some v }) σ fl m' σ') :
    SRuns (sSeq (sIf (tCmp cGe (eLoc 1) (eBlt bLen (lCons (eUn (attrOf 380 "rows") (eUn (attrOf 556 "flat") (eLoc 0))) lNil))) (sSeq (sRet (eLoc 1)) sNil) sNil) (sSeq (sAsg (gName 4) (eIdx (eIdx (eUn (attrOf 380 "rows") (eUn (attrOf 556 "flat") (eLoc 0))) (eLoc 1)) (eC (.int 1)))) b)) (goF X pc x) σ fl m' σ' := by
  have hlt := (List.getElem?_eq_some_iff.mp hr).1
  have fa := h.fa hX
  have hl := h.rows hX
  have h1 : decide ((X.L.length : Int) ≤ pc) = false := decide_eq_false (Int.not_le.mpr (Int.ofNat_lt.mpr hlt))
  have hi := it_l hl.1 hr (Nat.lt_of_lt_of_le hlt (Nat.le_trans hl.2 (by decide)))
  exact seq_r (sruns_of [.v (.ref (X.N + 1)), .v (.ref (X.N + 2)), .l X.L, .b false] fun P os hp => (And.intro h.flat <| And.intro fa.rows <| And.intro hl <| And.intro h1 hp :)) <| seq_r (m1 := goF X pc { x with c := some v }) (sruns_of [.v (.ref (X.N + 1)), .v (.ref (X.N + 2)), .v (vRow n v)] fun P os hp => (And.intro h.flat <| And.intro fa.rows <| And.intro hi hp :)) k
noncomputable def isJ (t : String) : Bool := [V.str "IFNOT", .str "JUMP", .str "GOTO", .str "GOSUB", .str "ONGO", .str "RETURN"].any fun y => eqS y (.str t)
noncomputable def kind (t : String) : Bool × Bool × Bool × Bool := (decide (t = "LET"), decide (t = "REM"), decide (t = "END"), isJ t)
noncomputable def flowF (b : Bool) : FF := match b with
  | true => F_do_jump
  | false => F_do_loop
theorem turn_ {n : Int} {t : String} {r : List V} {pc' : Nat} {b : Bool} (hX : X.Ok) (h : M X ip e π σ) (hr : X.L[pc]? = some (vRow n (.tup (.str t :: r)))) (hk : kind t = (false, false, false, b)) (k : Runs (flowF b) [.ref (X.D + 2), .int pc, .tup (.str t :: r)] σ (.int pc') σ') :
    SRuns L0_run_go (goF X pc x) σ .next (goF X pc' { x with c := some (.tup (.str t :: r)) }) σ' := by
  injection hk with k1 hk
  injection hk with k2 hk
  injection hk with k3 k4
  refine pre_ hX h hr ?_
  cases b <;> exact sruns_of [.b false, .b false, .b false, .d, .b _, .c (.int pc') σ'] fun P os hp => (And.intro k1 <| And.intro k2 <| And.intro k3 <| And.intro k4 <| And.intro k hp :)

theorem place_ {n : Int} {t : Nat} (hX : X.Ok) (h : M X ip e π σ) (hg : getK n X.pl = some (.int t)) : Runs F_place_of [.ref (X.N + 1), .int n] σ (.int t) σ :=
  have lo : IsI σ (X.N + 3) X.pl := h.old hX (by decide) hX.places
  have hno : (getK n X.pl).isNone = false := by rw [hg]; rfl
  have fa := h.fa hX
  runs_of [.v (.ref (X.N + 3)), .q X.pl, .b false, .v (.ref (X.N + 3)), .v (.int t)] fun P os hp => (And.intro fa.places <| And.intro lo <| And.intro hno <| And.intro fa.places <| And.intro (.inr ⟨_, lo, hg⟩ : ItI σ (X.N + 3) n (.int t)) hp :)
theorem ret_ {k : Nat} (h : M X ip e (.gosub k :: π) σ) (kk : ∀ ip' σ', Runs F_return_place [.ref (X.D + 4)] σ (.int k) σ' → M X ip' e π σ' → C) : C := by
  have e1 : ((π.length + 1 : Nat) : Int) - 1 = π.length := by lia
  have h1 : decide (((π.length + 1 : Nat) : Int) = 0) = false := decide_eq_false (by lia)
  have hi := it_top (.gosub k) h.p (Nat.le_of_succ_le h.pz)
  rw [← e1] at hi
  exact cut_ (π := [.gosub k]) h e1 fun ip' σ' r g => kk ip' σ' (runs_of [.v (.ref ip), .c (.int (π.length + 1 : Nat)) σ, .b false, .v (.ref ip), .v (encPE (.gosub k)), .c .none σ'] fun P os hp => (And.intro h.pile <| And.intro (floorG h.p h.pz) <| And.intro h1 <| And.intro h.pile <| And.intro hi <| And.intro r hp :)) g
theorem whole_ {a : Int} (h : M X ip e π σ) (ha : Fit a) : Runs F_run_whole [.ref (X.D + 2), vWh a] σ (.int a) σ :=
  have hb : Attr σ (X.D + 2) 556 "bits" (.int 16) := h.ra rfl
  have h2 : (!decide (a < 32768)) = false := by rw [decide_eq_true ha.2]; rfl
  runs_of [.c (.int a) σ, .v (.int 16), .d, .d, .d, .c (.bool (decide (a < 32768))) σ, .b false] fun P os hp => (And.intro h.nw <| And.intro (worth_ h (.wh a)) <| And.intro hb <| And.intro (fits_ ha) <| And.intro h2 hp :)
theorem st_jump (hX : X.Ok) {t : Nat} (h : X.rs[pc]? = some (.jump t)) : StepOk X (pc, e, π) (t, e, π) := by
  intro ip σ x C hm kk
  obtain ⟨n, w, h1, rfl⟩ := hX.hr.at h
  exact kk _ ip σ (turn_ hX hm h1 rfl (runs_of [.d, .d] fun P os hp => hp)) hm
theorem st_ifnot (hX : X.Ok) {a : Int} {t : Nat} {w : Bool} (h : X.rs[pc]? = some (.ifnot a t)) (hw : decide (e.x < a) = w) : StepOk X (pc, e, π) (nxA w (pc + 1) t, e, π) := by
  intro ip σ x C hm kk
  obtain ⟨n, v, h1, rfl⟩ := hX.hr.at h
  have r2 := (wl_ (e := e) "X" a).trans hw
  have r1 := true_ (k := wor e (.lt "X" a)) (σ := σ)
  cases w <;> exact kk _ ip σ (turn_ hX hm h1 rfl (runs_of [.d, .c (.int (wor e (.lt "X" a))) σ, .c (.bool (!decide (wor e (.lt "X" a) = 0))) σ, .b _] fun P os hp => (And.intro hm.nw <| And.intro (worth_ hm (.lt "X" a)) <| And.intro r1 <| And.intro r2 hp :))) hm
theorem st_gosub (hX : X.Ok) {n : Int} {t : Nat} (h : X.rs[pc]? = some (.gosub n)) (hg : getK n X.pl = some (.int t)) (hz : π.length < 20) : StepOk X (pc, e, π) (t, e, .gosub (pc + 1) :: π) := by
  intro ip σ x C hm kk
  obtain ⟨m, v, h1, rfl⟩ := hX.hr.at h
  exact push_ (x := .gosub (pc + 1)) hm hz fun σ' r g => kk _ ip σ' (turn_ hX hm h1 rfl (runs_of [.d, .d, .d, .d, .v (.ref (X.N + 1)), .c (.int t) σ, .d, .v (.ref (X.D + 4)), .d, .c .none σ'] fun P os hp => (And.intro hm.flat <| And.intro (place_ hX hm hg) <| And.intro hm.control <| And.intro r hp :))) g
theorem st_ongo (hX : X.Ok) {a : Int} {t : Nat} (h : X.rs[pc]? = some (.ongo a)) (ha : a = 1 ∧ getK 1000 X.pl = some (.int t) ∨ a = 2 ∧ getK 2000 X.pl = some (.int t)) (hz : π.length < 20) : StepOk X (pc, e, π) (t, e, .gosub (pc + 1) :: π) := by
  intro ip σ x C hm kk
  obtain ⟨m, v, h1, i, rfl, hi⟩ := hX.hr.at h
  have l0 := lst2 (hm.v.get hi.2.1 hi.2.2)
  have nw : NoAttr σ (X.D + 2) 556 "whole" := hm.no rfl
  refine push_ (x := .gosub (pc + 1)) hm hz fun σ' r g => kk _ ip σ' (turn_ hX hm h1 rfl ?_) g
  rcases ha with ⟨rfl, hg⟩ | ⟨rfl, hg⟩
  · exact runs_of [.d, .d, .d, .d, .c (.int 1) σ, .l [.int 1000, .int 2000], .d, .d, .d, .d, .d, .d, .v (.int 1000), .v (.ref (X.N + 1)), .c (.int t) σ, .d, .v (.ref (X.D + 4)), .d, .c .none σ'] fun P os hp => (And.intro nw <| And.intro (whole_ (a := 1) hm ⟨by decide, by decide⟩) <| And.intro l0 <| And.intro (it_l (k := 0) l0.1 rfl) <| And.intro hm.flat <| And.intro (place_ hX hm hg) <| And.intro hm.control <| And.intro r hp :)
  · exact runs_of [.d, .d, .d, .d, .c (.int 2) σ, .l [.int 1000, .int 2000], .d, .d, .d, .d, .d, .d, .v (.int 2000), .v (.ref (X.N + 1)), .c (.int t) σ, .d, .v (.ref (X.D + 4)), .d, .c .none σ'] fun P os hp => (And.intro nw <| And.intro (whole_ (a := 2) hm ⟨by decide, by decide⟩) <| And.intro l0 <| And.intro (it_l (k := 1) l0.1 rfl) <| And.intro hm.flat <| And.intro (place_ hX hm hg) <| And.intro hm.control <| And.intro r hp :)
theorem st_ongo_out (hX : X.Ok) {a : Int} (h : X.rs[pc]? = some (.ongo a)) (ha : a = 0 ∨ a = 3) : StepOk X (pc, e, π) (pc + 1, e, π) := by
  intro ip σ x C hm kk
  obtain ⟨m, v, h1, i, rfl, hi⟩ := hX.hr.at h
  have l0 := lst2 (hm.v.get hi.2.1 hi.2.2)
  have nw : NoAttr σ (X.D + 2) 556 "whole" := hm.no rfl
  refine kk _ ip σ (turn_ hX hm h1 rfl ?_) hm
  rcases ha with rfl | rfl
  · exact runs_of [.d, .d, .d, .d, .c (.int 0) σ, .l [.int 1000, .int 2000], .d, .d, .d, .d, .d, .d] fun P os hp => (And.intro nw <| And.intro (whole_ (a := 0) hm ⟨by decide, by decide⟩) <| And.intro l0 hp :)
  · exact runs_of [.d, .d, .d, .d, .c (.int 3) σ, .l [.int 1000, .int 2000], .d, .d, .d, .d, .d, .d] fun P os hp => (And.intro nw <| And.intro (whole_ (a := 3) hm ⟨by decide, by decide⟩) <| And.intro l0 hp :)
theorem st_ret (hX : X.Ok) {k : Nat} (h : X.rs[pc]? = some .ret) : StepOk X (pc, e, .gosub k :: π) (k, e, π) := by
  intro ip σ x C hm kk
  obtain ⟨m, v, h1, rfl⟩ := hX.hr.at h
  exact ret_ hm fun ip' σ' r g => kk _ ip' σ' (turn_ hX hm h1 rfl (runs_of [.d, .d, .d, .v (.ref (X.D + 4)), .c (.int k) σ', .d] fun P os hp => (And.intro hm.control <| And.intro r hp :))) g

theorem st_for_in (hX : X.Ok) {v : String} {b l : Int} {po : Option Int} (h : X.rs[pc]? = some (.for_ v b l po)) (he : e.sz < 100000) (hv : v ≠ "") (hp : stp po ≠ 0) (hn : NoG π) (hf : NoF v π) (hz : π.length < 20) (hw : within b l (stp po) = true) : StepOk X (pc, e, π) (pc + 1, e.setv v b, .for_ v (pc + 1) l (stp po) :: π) := by
  intro ip σ x C hm kk
  obtain ⟨m, w, h1, rfl⟩ := hX.hr.at h
  exact for_in_ (pc := pc) hm he hv hp hn hf hz hw fun σ' r g => kk _ ip σ' (turn_ hX hm h1 rfl (runs_of [.d, .c (.int (pc + 1 : Nat)) σ'] fun P os hp => (And.intro r hp :))) g
theorem st_for_out (hX : X.Ok) {v : String} {b l : Int} {po : Option Int} {j : Nat} (h : X.rs[pc]? = some (.for_ v b l po)) (he : e.sz < 100000) (hp : stp po ≠ 0) (hw : within b l (stp po) = false) (hl : getK (pc : Int) X.lp = some (.tup [.int j, .int (0 : Nat)])) (hj : X.rs[j]? = some (.next [v])) : StepOk X (pc, e, π) (j + 1, e.setv v b, π) := by
  intro ip σ x C hm kk
  obtain ⟨m, w, h1, rfl⟩ := hX.hr.at h
  obtain ⟨n2, w2, h2, ni, rfl, hi⟩ := hX.hr.at hj
  exact for_out_ (pc := pc) hX hm he hp hw hl h2 hi fun σ' r g => kk _ ip σ' (turn_ hX hm h1 rfl (runs_of [.d, .c (.int (j + 1 : Nat)) σ'] fun P os hp => (And.intro r hp :))) g
theorem st_next (hX : X.Ok) {v : String} {a : Nat} {l p : Int} {w : Bool} (h : X.rs[pc]? = some (.next [v])) (he : e.sz < 100000) (hn : NoG π) (hp : p ≠ 0) (hz : Fit (look e v + p)) (hw : within (look e v + p) l p = w) :
    StepOk X (pc, e, .for_ v a l p :: π) (nxA w a (pc + 1), e.setv v (look e v + p), nxP w (.for_ v a l p) π) := by
  intro ip σ x C hm kk
  obtain ⟨m, w, h1, ni, rfl, hi⟩ := hX.hr.at h
  have l0 := lst1 (hm.v.get hi.2.1 hi.2.2)
  exact next_one_ (pc := pc) hm hi hn hp hz he hw fun ip' σ' r g => kk _ ip' σ' (turn_ hX hm h1 rfl (runs_of [.d, .d, .l [.str v], .d, .c _ σ'] fun P os hp => (And.intro l0 <| And.intro r hp :))) g
theorem st_next2 (hX : X.Ok) {v u : String} {a b : Nat} {l p m q : Int} {w w2 : Bool} (h : X.rs[pc]? = some (.next [v, u])) (he : e.sz < 99999) (hn : NoG π) (hp : p ≠ 0) (hq : q ≠ 0) (hvu : v ≠ u) (hz : Fit (look e v + p)) (hz2 : Fit (look e u + q)) (hw : within (look e v + p) l p = w) (hw2 : within (look e u + q) m q = w2) :
    StepOk X (pc, e, .for_ v a l p :: .for_ u b m q :: π) (nxA w a (nxA w2 b (pc + 1)), (nxE w (e.setv v (look e v + p)) ((e.setv v (look e v + p)).setv u (look e u + q))), nxP w (.for_ v a l p) (nxQ w (.for_ u b m q :: π) (nxP w2 (.for_ u b m q) π))) := by
  intro ip σ x C hm kk
  obtain ⟨m, w, h1, ni, rfl, hi⟩ := hX.hr.at h
  have l0 := lst2 (hm.v.get hi.2.1 hi.2.2)
  exact next_two_ (pc := pc) hm hi hn hp hq hvu hz hz2 he hw hw2 fun ip' σ' r g => kk _ ip' σ' (turn_ hX hm h1 rfl (runs_of [.d, .d, .l [.str v, .str u], .d, .c _ σ'] fun P os hp => (And.intro l0 <| And.intro r hp :))) g
theorem st_wend (hX : X.Ok) {a : Nat} (h : X.rs[pc]? = some .wend) (hn : NoG π) : StepOk X (pc, e, .whil a :: π) (a, e, .whil a :: π) := by
  intro ip σ x C hm kk
  obtain ⟨m, w, h1, rfl⟩ := hX.hr.at h
  exact wend_ hm hn fun ip' σ' r g => kk _ ip' σ' (turn_ hX hm h1 rfl (runs_of [.d, .d, .d, .v (.ref (X.D + 4)), .c (.int a) σ'] fun P os hp => (And.intro hm.control <| And.intro r hp :))) g
theorem st_whil_in (hX : X.Ok) {v : String} {k : Int} (h : X.rs[pc]? = some (.whil v k)) (hn : NoG π) (hx : look e v < k) (hz : π.length < 20) (hh : (∃ π1, π = .whil pc :: π1 ∧ NoW pc π1 ∧ π' = π) ∨ (NoW pc π ∧ π' = .whil pc :: π)) : StepOk X (pc, e, π) (pc + 1, e, π') := by
  intro ip σ x C hm kk
  obtain ⟨m, w, h1, rfl⟩ := hX.hr.at h
  have r2 := (wl_ (e := e) v k).trans (decide_eq_true hx)
  have r1 := true_ (k := wor e (.lt v k)) (σ := σ)
  exact while_begin_ hm hn hh hz fun ip' σ' r g => kk _ ip' σ' (turn_ hX hm h1 rfl (runs_of [.d, .d, .d, .c (.int (wor e (.lt v k))) σ, .c (.bool (!decide (wor e (.lt v k) = 0))) σ, .b true, .v (.ref (X.D + 4)), .c .none σ'] fun P os hp => (And.intro hm.nw <| And.intro (worth_ hm (.lt v k)) <| And.intro r1 <| And.intro r2 <| And.intro hm.control <| And.intro r hp :))) g
theorem st_whil_out (hX : X.Ok) {v : String} {k : Int} {q : Nat} (h : X.rs[pc]? = some (.whil v k)) (hn : NoG π) (hx : ¬ look e v < k) (hh : (π = .whil pc :: π' ∧ NoW pc π') ∨ (NoW pc π ∧ π' = π)) (hg : getK (pc : Int) X.pr = some (.int q)) : StepOk X (pc, e, π) (q + 1, e, π') := by
  intro ip σ x C hm kk
  obtain ⟨m, w, h1, rfl⟩ := hX.hr.at h
  have r2 := (wl_ (e := e) v k).trans (decide_eq_false hx)
  have r1 := true_ (k := wor e (.lt v k)) (σ := σ)
  have hno : (getK (pc : Int) X.pr).isNone = false := by rw [hg]; rfl
  exact while_end_ hm hn hh fun ip' σ' r g => kk _ ip' σ' (turn_ hX hm h1 rfl (by
    have lo : IsI σ' (X.N + 5) X.pr := g.old hX (by decide) hX.pairs
    have fa := g.fa hX
    exact runs_of [.d, .d, .d, .c (.int (wor e (.lt v k))) σ, .c (.bool (!decide (wor e (.lt v k) = 0))) σ, .b false, .v (.ref (X.D + 4)), .c .none σ', .v (.ref (X.N + 1)), .d, .v (.ref (X.N + 5)), .q X.pr, .b false, .v (.ref (X.N + 5)), .v (.int q)] fun P os hp => (And.intro hm.nw <| And.intro (worth_ hm (.lt v k)) <| And.intro r1 <| And.intro r2 <| And.intro hm.control <| And.intro r <| And.intro g.flat <| And.intro fa.pairs <| And.intro lo <| And.intro hno <| And.intro fa.pairs <| And.intro (.inr ⟨_, lo, hg⟩ : ItI σ' (X.N + 5) pc (.int q)) hp :))) g

theorem st_rem (hX : X.Ok) {t : String} (h : X.rs[pc]? = some (.rem t)) (he : e.sz < 100000) : StepOk X (pc, e, π) (pc + 1, e.note t, π) := by
  intro ip σ x C hm kk
  obtain ⟨m, w, h1, rfl⟩ := hX.hr.at h
  have n1 : NoAttr σ (X.D + 2) 556 "value_of_name" := hm.no rfl
  have hn : Attr σ (X.D + 2) 556 "notes" (.ref (X.D + 6)) := hm.ra rfl
  have ln : Lst σ (X.D + 6) (encN e) := ⟨hm.v.at_ 6 _ _ rfl, encN_le (Nat.le_trans hm.sz (by decide : 100000 ≤ 1000000))⟩
  exact kk { x with c := some (.tup [.str "REM", .str t]) } ip (σ.set (X.D + 6) (.list (encN e ++ [V.tup [.str t, .int e.x]]))) (pre_ hX hm h1 (sruns_of [.d, .d, .v (.ref (X.D + 6)), .c (.int e.x) σ, .l (encN e)] fun P os hp => (And.intro hn <| And.intro (isl ln.1) <| And.intro n1 <| And.intro (val_ (v := "X") hm) <| And.intro ln hp :))) ⟨by rw [← encN_note]; exact hm.v.set 6 _ rfl, by rw [sz_note]; exact he, hm.pz⟩
theorem let_ {v : String} {t : Tree} (hX : X.Ok) {n : Int} (h : X.L[pc]? = some (vRow n (.tup [.str "LET", vNam v, encTr t]))) (he : e.sz < 100000) : StepOk X (pc, e, π) (pc + 1, e.setv v (wor e t), π) := by
  intro ip σ x C hm kk
  have n1 : NoAttr σ (X.D + 2) 556 "store" := hm.no rfl
  exact put_v (v := v) (y := wor e t) hm he fun σ' r g => kk { x with c := some (.tup [.str "LET", vNam v, encTr t]) } ip σ' (pre_ hX hm h (sruns_of [.d, .c (.int (wor e t)) σ, .c .none σ'] fun P os hp => (And.intro n1 <| And.intro hm.nw <| And.intro (worth_ hm t) <| And.intro r hp :))) g
theorem st_letA (hX : X.Ok) {v : String} {k : Int} (h : X.rs[pc]? = some (.letA v k)) (he : e.sz < 100000) : StepOk X (pc, e, π) (pc + 1, e.setv v (look e v + k), π) :=
  let ⟨_, _, h1, q⟩ := hX.hr.at h; let_ (t := .add v k) hX (q ▸ h1) he
theorem st_letS (hX : X.Ok) {v : String} {k : Int} (h : X.rs[pc]? = some (.letS v k)) (he : e.sz < 100000) : StepOk X (pc, e, π) (pc + 1, e.setv v (look e v - k), π) :=
  let ⟨_, _, h1, q⟩ := hX.hr.at h; let_ (t := .sub v k) hX (q ▸ h1) he
theorem st_letC (hX : X.Ok) {v : String} {k : Int} (h : X.rs[pc]? = some (.letC v k)) (he : e.sz < 100000) : StepOk X (pc, e, π) (pc + 1, e.setv v k, π) :=
  let ⟨_, _, h1, q⟩ := hX.hr.at h; let_ (t := .wh k) hX (q ▸ h1) he
theorem st_end (hX : X.Ok) (h : X.rs[pc]? = some .end_) (hm : M X ip e π σ) : SRuns L0_run_go (goF X pc x) σ (.ret (.int X.L.length)) (goF X pc { x with c := some (.tup [.str "END"]) }) σ := by
  obtain ⟨m, w, h1, rfl⟩ := hX.hr.at h
  exact pre_ hX hm h1 (sruns_of [.d, .d, .d, .v (.ref (X.N + 1)), .v (.ref (X.N + 2)), .l X.L] fun P os hp => (And.intro hm.flat <| And.intro (hm.fa hX).rows <| And.intro (hm.rows hX) hp :))
end

noncomputable def Seg (rs : List R) (at_ : Nat) (seg : List R) : Prop := ∃ a b, rs = a ++ seg ++ b ∧ a.length = at_
section
variable {rs a b : List R} {at_ : Nat} {r : R} {seg : List R}
theorem Seg.head (h : Seg rs at_ (r :: seg)) : rs[at_]? = some r := by
  obtain ⟨p, q, rfl, rfl⟩ := h
  rw [List.append_assoc, List.getElem?_append_right (Nat.le_refl _), Nat.sub_self]; rfl
theorem Seg.tail (h : Seg rs at_ (r :: seg)) : Seg rs (at_ + 1) seg := by
  obtain ⟨p, q, rfl, rfl⟩ := h
  exact ⟨p ++ [r], q, by rw [List.append_assoc p [r]]; rfl, List.length_append⟩
theorem Seg.left (h : Seg rs at_ (a ++ b)) : Seg rs at_ a := by
  obtain ⟨p, q, rfl, rfl⟩ := h
  exact ⟨p, b ++ q, by rw [List.append_assoc, List.append_assoc, List.append_assoc], rfl⟩
theorem Seg.right (h : Seg rs at_ (a ++ b)) : Seg rs (at_ + a.length) b := by
  obtain ⟨p, q, rfl, rfl⟩ := h
  exact ⟨p ++ a, q, by rw [← List.append_assoc p a b], List.length_append⟩
end
theorem gath_app : ∀ (a b : List R) (at_ : Nat) (g : G), gath at_ (a ++ b) g = gath (at_ + a.length) b (gath at_ a g)
  | [], b, at_, g => rfl
  | r :: a, b, at_, g => by
    show gath (at_ + 1) (a ++ b) (gstep at_ r g) = gath (at_ + (a.length + 1)) b _
    rw [gath_app a b, Nat.add_right_comm, Nat.add_assoc]; rfl
noncomputable def len (b : B) : Nat := lenL (linesB b)
noncomputable def rowsB (at_ : Nat) (b : B) : List R := rowsL at_ (linesB b)
theorem rowsB_len (at_ : Nat) (b : B) : (rowsB at_ b).length = len b := rowsL_len _ _
section
variable {v : String} {b l p w lim : Int} {s : Sm} {body r : B} {at_ : Nat}
theorem len_sm : len (.sm s r) = lenS (lineSm s) + len r := rfl
theorem len_loop : len (.loop v b l p body r) = 1 + (len body + (1 + len r)) := by
  show 1 + lenL (linesB body ++ _ :: linesB r) = _
  rw [lenL_app]; rfl
theorem len_whil : len (.whil w lim body r) = 1 + (1 + (len body + (1 + (1 + len r)))) := by
  show 1 + (1 + lenL (linesB body ++ _ :: _ :: linesB r)) = _
  rw [lenL_app]; rfl
theorem rows_loop : rowsB at_ (.loop v b l p body r) = .for_ v b l (some p) :: (rowsB (at_ + 1) body ++ .next [v] :: rowsB (at_ + 1 + len body + 1) r) := by
  show _ :: rowsL (at_ + 1) (linesB body ++ _ :: linesB r) = _
  rw [rowsL_app]; rfl
theorem rows_whil : rowsB at_ (.whil w lim body r) = .letC (wn w) 0 :: .whil (wn w) lim :: (rowsB (at_ + 2) body ++ .letA (wn w) 1 :: .wend :: rowsB (at_ + 2 + len body + 2) r) := by
  show _ :: _ :: rowsL (at_ + 2) (linesB body ++ _ :: _ :: linesB r) = _
  rw [rowsL_app]; rfl
end
noncomputable def LpOK (pr lp : List (Int × V)) : Nat → B → Prop
  | _, .nil => True
  | at_, .sm s r => LpOK pr lp (at_ + lenS (lineSm s)) r
  | at_, .loop _ _ _ _ body r => getK (at_ : Int) lp = some (.tup [.int (at_ + 1 + len body : Nat), .int (0 : Nat)]) ∧ LpOK pr lp (at_ + 1) body ∧ LpOK pr lp (at_ + 1 + len body + 1) r
  | at_, .whil _ _ body r => getK ((at_ + 1 : Nat) : Int) pr = some (.int (at_ + 2 + len body + 1 : Nat)) ∧ LpOK pr lp (at_ + 2) body ∧ LpOK pr lp (at_ + 2 + len body + 2) r
theorem LpOK.mono {pr lp pr' lp' : List (Int × V)} {lo hi : Nat} (h : ∀ k : Int, (lo : Int) ≤ k → k < hi → getK k pr' = getK k pr ∧ getK k lp' = getK k lp) : ∀ {at_ : Nat} {b : B}, lo ≤ at_ → at_ + len b ≤ hi → LpOK pr lp at_ b → LpOK pr' lp' at_ b
  | _, .nil, _, _, _ => trivial
  | at_, .sm s r, h1, h2, w => LpOK.mono h (b := r) (Nat.le_trans h1 (Nat.le_add_right _ _)) (by rw [len_sm] at h2; lia) w
  | at_, .loop v b l p body r, h1, h2, ⟨w1, w2, w3⟩ => by
    rw [len_loop] at h2
    exact ⟨(h at_ (by lia) (by lia)).2.trans w1, w2.mono h (by lia) (by lia), w3.mono h (by lia) (by lia)⟩
  | at_, .whil w l body r, h1, h2, ⟨w1, w2, w3⟩ => by
    rw [len_whil] at h2
    exact ⟨(h (at_ + 1 : Nat) (by lia) (by lia)).1.trans w1, w2.mono h (by lia) (by lia), w3.mono h (by lia) (by lia)⟩

structure GB (at_ hi : Nat) (g g' : G) : Prop where
  ws : g'.ws = g.ws
  fs : g'.fs = g.fs
  keep : ∀ k : Int, (k < at_ ∨ (hi : Int) ≤ k) → getK k g'.pr = getK k g.pr ∧ getK k g'.lp = getK k g.lp
theorem gath_sm (at_ : Nat) (s : Sm) (g : G) : gath at_ (rowsS at_ (lineSm s)) g = g := by
  cases s with
  | choice a b c => by_cases q : c = 1 <;> simp only [lineSm, rowsS, q, if_true, if_false] <;> rfl
  | call a b => by_cases q : b = 1 <;> simp only [lineSm, q, if_true, if_false] <;> rfl
  | _ => rfl
theorem gath_B : ∀ (b : B) (at_ hi : Nat) (g g' : G), hi = at_ + len b → g' = gath at_ (rowsB at_ b) g → GB at_ hi g g' ∧ LpOK g'.pr g'.lp at_ b
  | .nil, at_, hi, g, _, _, rfl => ⟨⟨rfl, rfl, fun _ _ => ⟨rfl, rfl⟩⟩, trivial⟩
  | .sm s r, at_, hi, g, g', e, q => by
    have q : g' = gath at_ (rowsS at_ (lineSm s) ++ rowsB (at_ + lenS (lineSm s)) r) g := q
    rw [gath_app, rowsS_len, gath_sm] at q
    rw [len_sm] at e
    obtain ⟨h, o⟩ := gath_B r _ hi g g' (by lia) q
    exact ⟨⟨h.ws, h.fs, fun k hk => h.keep k (by lia)⟩, o⟩
  | .loop v b l p body r, at_, hi, g, g', e, q => by
    rw [rows_loop] at q
    have q : g' = gath (at_ + 1) (rowsB (at_ + 1) body ++ .next [v] :: rowsB (at_ + 1 + len body + 1) r) { g with fs := at_ :: g.fs } := q
    rw [gath_app, rowsB_len] at q
    rw [len_loop] at e
    obtain ⟨⟨e1, e2, k1⟩, o1⟩ := gath_B body (at_ + 1) (at_ + 1 + len body) { g with fs := at_ :: g.fs } _ rfl rfl
    generalize gath (at_ + 1) (rowsB (at_ + 1) body) { g with fs := at_ :: g.fs } = g1 at q e1 e2 k1 o1
    obtain ⟨ws1, fs1, pr1, lp1⟩ := g1
    obtain rfl : fs1 = at_ :: g.fs := e2
    obtain ⟨⟨f1, f2, k2⟩, o2⟩ := gath_B r (at_ + 1 + len body + 1) hi ⟨ws1, g.fs, pr1, setK (at_ : Int) (.tup [.int (at_ + 1 + len body : Nat), .int (0 : Nat)]) lp1⟩ g' (by lia) q
    have k3 : ∀ k : Int, (k < at_ + 1 + len body + 1 ∨ (hi : Int) ≤ k) → k ≠ at_ → getK k g'.pr = getK k pr1 ∧ getK k g'.lp = getK k lp1 := fun k hk hne => ⟨(k2 k hk).1, (k2 k hk).2.trans ((getK_setK ..).trans (if_neg (Ne.symm hne)))⟩
    exact ⟨⟨f1.trans e1, f2, fun k hk => ⟨(k3 k (by lia) (by lia)).1.trans (k1 k (by lia)).1, (k3 k (by lia) (by lia)).2.trans (k1 k (by lia)).2⟩⟩,
      (k2 at_ (by lia)).2.trans ((getK_setK ..).trans (if_pos rfl)), o1.mono (fun k h1 h2 => k3 k (by lia) (by lia)) (Nat.le_refl _) (Nat.le_refl _), o2⟩
  | .whil w l body r, at_, hi, g, g', e, q => by
    rw [rows_whil] at q
    have q : g' = gath (at_ + 2) (rowsB (at_ + 2) body ++ .letA (wn w) 1 :: .wend :: rowsB (at_ + 2 + len body + 2) r) { g with ws := (at_ + 1) :: g.ws } := q
    rw [gath_app, rowsB_len] at q
    rw [len_whil] at e
    obtain ⟨⟨e1, e2, k1⟩, o1⟩ := gath_B body (at_ + 2) (at_ + 2 + len body) { g with ws := (at_ + 1) :: g.ws } _ rfl rfl
    generalize gath (at_ + 2) (rowsB (at_ + 2) body) { g with ws := (at_ + 1) :: g.ws } = g1 at q e1 e2 k1 o1
    obtain ⟨ws1, fs1, pr1, lp1⟩ := g1
    obtain rfl : ws1 = (at_ + 1) :: g.ws := e1
    obtain ⟨⟨f1, f2, k2⟩, o2⟩ := gath_B r (at_ + 2 + len body + 2) hi ⟨g.ws, fs1, setK ((at_ + 2 + len body + 1 : Nat) : Int) (.int (at_ + 1 : Nat)) (setK ((at_ + 1 : Nat) : Int) (.int (at_ + 2 + len body + 1 : Nat)) pr1), lp1⟩ g' (by lia) q
    have k4 : ∀ k : Int, (k < at_ + 2 + len body + 1 ∨ (hi : Int) ≤ k) → getK k g'.pr = (if ((at_ + 1 : Nat) : Int) = k then some (.int (at_ + 2 + len body + 1 : Nat)) else getK k pr1) := fun k hk => (k2 k (by lia)).1.trans (((getK_setK ..).trans (if_neg (by lia))).trans (getK_setK ..))
    have k3 : ∀ k : Int, (k < at_ + 2 + len body + 1 ∨ (hi : Int) ≤ k) → k ≠ (at_ + 1 : Nat) → getK k g'.pr = getK k pr1 ∧ getK k g'.lp = getK k lp1 := fun k hk hne => ⟨(k4 k hk).trans (if_neg (Ne.symm hne)), (k2 k (by lia)).2⟩
    exact ⟨⟨f1, f2.trans e2, fun k hk => ⟨(k3 k (by lia) (by lia)).1.trans (k1 k (by lia)).1, (k3 k (by lia) (by lia)).2.trans (k1 k (by lia)).2⟩⟩,
      (k4 _ (by lia)).trans (if_pos rfl), o1.mono (fun k h1 h2 => k3 k (by lia) (by lia)) (Nat.le_refl _) (Nat.le_refl _), o2⟩

theorem wn_inj {a b : Int} (h : wn a = wn b) : a = b := by
  have h1 := congrArg String.toList h
  simp only [wn, String.toList_append, List.append_cancel_left_eq] at h1
  have h2 : a.repr = b.repr := String.toList_inj.mp h1
  exact Int.repr_inj.mp h2
theorem wn_ne {w : Int} {v : String} (h : v.toList.head? ≠ some 'W') : wn w ≠ v := fun e => h (e ▸ (by unfold wn; rw [String.toList_append]; rfl))
theorem vn_cases (d : Nat) : vn d = "J" ∨ vn d = "K" := by unfold vn; split <;> simp
theorem wn_vn {w : Int} {d : Nat} : wn w ≠ vn d := by
  rcases vn_cases d with h | h <;> rw [h] <;> exact wn_ne (by decide)
inductive NmOf (d : Nat) (c c' : Int) (u : String) : Prop
  | loop (k : Nat) (h1 : 1 ≤ k) (h2 : k ≤ d) (e : u = vn k)
  | i (e : u = "I")
  | whil (w : Int) (h1 : c < w) (h2 : w ≤ c') (e : u = wn w)
theorem NmOf.mono {d d' : Nat} {c c' a a' : Int} {u : String} (hd : d ≤ d') (h1 : a ≤ c) (h2 : c' ≤ a') : NmOf d c c' u → NmOf d' a a' u
  | .loop k q1 q2 e => .loop k q1 (Nat.le_trans q2 hd) e
  | .i e => .i e
  | .whil w q1 q2 e => .whil w (Int.lt_of_le_of_lt h1 q1) (Int.le_trans q2 h2) e
theorem names_in {u : String} : ∀ {b : B} ⦃d : Nat⦄ ⦃c c' : Int⦄, WF d c b c' → u ∈ names b → NmOf d c c' u
  | .nil => by
    intro _ _ _ _ hu
    cases hu
  | .sm _ r => by
    intro _ _ _ z0_ hu
    obtain ⟨_, w⟩ := z0_
    exact names_in (b := r) w hu
  | .loop v _ _ _ body r => by
    intro d c c' z0_ hu
    obtain ⟨q, c1, hc, wb, w⟩ := z0_
    rcases List.mem_cons.mp hu with e | hu
    · subst e
      rcases q.hv with e | ⟨e, _⟩
      · exact .loop d q.hd.1 (Nat.le_refl _) e
      · exact .i e
    · rcases List.mem_append.mp hu with hu | hu
      · exact (names_in wb hu).mono (Nat.sub_le _ _) (Int.le_refl _) (wf_le w)
      · exact (names_in w hu).mono (Nat.le_refl _) hc (Int.le_refl _)
  | .whil v _ body r => by
    intro d c c' z0_ hu
    obtain ⟨q, e0, c1, hc, wb, w⟩ := z0_
    have h1 := wf_le w
    rcases List.mem_cons.mp hu with e | hu
    · exact .whil v (by lia) (by lia) e
    · rcases List.mem_append.mp hu with hu | hu
      · exact (names_in wb hu).mono (Nat.sub_le _ _) (by lia) h1
      · exact (names_in w hu).mono (Nat.le_refl _) (by lia) (Int.le_refl _)
theorem own_loop {v : String} {b l p : Int} {body : B} {d : Nat} {c c1 : Int} (q : LoopC d v b l p body) (wb : WF (d - 1) c body c1) : v ∉ names body := by
  intro h
  rcases q.hv with e | ⟨_, e⟩
  · subst e
    cases names_in wb h with
    | loop k h1 h2 e =>
      have := q.hd
      obtain ⟨rfl, rfl⟩ : d = 2 ∧ k = 1 := by lia
      exact absurd e (by decide)
    | i e => rcases vn_cases d with z | z <;> rw [z] at e <;> exact absurd e (by decide)
    | whil w h1 h2 e => exact wn_vn e.symm
  · rw [e] at h; cases h
theorem own_while {body : B} {d : Nat} {w c c1 : Int} (hw : w ≤ c) (wb : WF d c body c1) : wn w ∉ names body := by
  intro h
  cases names_in wb h with
  | loop k h1 h2 e => exact wn_vn e
  | i e => exact wn_ne (by decide) e
  | whil w' h1 h2 e => exact absurd h1 (Int.not_lt.mpr (wn_inj e ▸ hw))
theorem name_ne {b : B} {d : Nat} {c c' : Int} (h : WF d c b c') {u : String} (hu : u ∈ names b) : u ≠ "X" ∧ u ≠ "" ∧ u ≠ "A" ∧ u ≠ "B" := by
  cases names_in h hu with
  | loop k h1 h2 e => subst e; rcases vn_cases k with q | q <;> rw [q] <;> decide
  | i e => subst e; decide
  | whil w h1 h2 e => subst e; exact ⟨wn_ne (by decide), wn_ne (by decide), wn_ne (by decide), wn_ne (by decide)⟩
theorem look_run {s0 s1 : En → En} {u : String} (hu : u ≠ "X") (h0 : ∀ e, look (s0 e) u = look e u) (h1 : ∀ e, look (s1 e) u = look e u) (b : B) (h : u ∉ names b) (e : En) : look (runB s0 s1 b e) u = look e u :=
  run_inv (P := fun e' => look e' u = look e u) (runSm_inv (fun _ _ q => q) (fun k e' q => (look_setv ..).trans ((if_neg (Ne.symm hu)).trans q)) (fun e' q => (h0 e').trans q) fun e' q => (h1 e').trans q) b (fun v hv y e' q => (look_setv ..).trans ((if_neg fun z : v = u => h (z ▸ hv)).trans q)) e rfl

noncomputable abbrev LpG (X : Cx) (j pc : Nat) (x : Sl) (σ : St) (fl : Fl) (m : Ms) (τ : St) : Prop := Lp (itRange 0 1 (3000 : Int).toNat) (gName 3) L0_run_go j (goF X pc x) σ fl m τ
noncomputable def RL (X : Cx) (k : Nat) (s s' : Mst) : Prop := ∀ (ip : Nat) (σ : St) (x : Sl) (j : Nat) (C : Prop), M X ip s.2.1 s.2.2 σ → j + k ≤ 3000 →
  (∀ x' ip' σ' j', j' ≤ j + k → M X ip' s'.2.1 s'.2.2 σ' → (∀ fl m τ, LpG X j' s'.1 x' σ' fl m τ → LpG X j s.1 x σ fl m τ) → C) → C
section
variable {X : Cx} {k l : Nat} {s s1 s2 : Mst}
theorem RL.refl : RL X k s s := fun ip σ x j C m _ kk => kk x ip σ j (Nat.le_add_right _ _) m fun _ _ _ q => q
theorem RL.mono (h : RL X k s s1) (hl : k ≤ l) : RL X l s s1 := fun ip σ x j C m hj kk => h ip σ x j C m (Nat.le_trans (Nat.add_le_add_left hl _) hj) fun x' ip' σ' j' hj' => kk x' ip' σ' j' (Nat.le_trans hj' (Nat.add_le_add_left hl _))
theorem RL.one (h : StepOk X s s1) : RL X 1 s s1 := fun ip σ x j C m hj kk => h ip σ { x with b := some (.int (0 + j * 1)) } C m fun x' ip' σ' r m' => kk x' ip' σ' (j + 1) (Nat.le_refl _) m' fun fl m'' τ q => lp_step (step_n (rg_at hj) r) q
theorem RL.trans (h : RL X k s s1) (h' : RL X l s1 s2) : RL X (k + l) s s2 := fun ip σ x j C m hj kk => h ip σ x j C m (by lia) fun x1 ip1 σ1 j1 hj1 m1 q1 => h' ip1 σ1 x1 j1 C m1 (by lia) fun x' ip' σ' j' hj' m' q' => kk x' ip' σ' j' (by lia) m' fun fl m'' τ q => q1 fl m'' τ (q' fl m'' τ q)
end
theorem nog_whil {a : Nat} {π : List PE} (h : NoG π) : NoG (.whil a :: π) := nog_cons h fun _ e => by cases e
theorem rem_pos {x l p : Int} (hp : p ≠ 0) (h : within x l p = true) : ∃ r, remN x l p = r + 1 ∧ remN (x + p) l p ≤ r := ⟨remN x l p - 1, by have := rem_next hp h; lia, by have := rem_next hp h; lia⟩
theorem loop_over {rb : En → En} {v : String} {l p x : Int} {e : En} (h : within x l p = false) : ∀ k, loopRun rb v l p k x e = e.setv v x
  | 0 => rfl
  | k + 1 => if_neg (by rw [h]; exact Bool.false_ne_true)
section
variable {X : Cx} {rb : En → En} {Tb : Nat} {π : List PE}
theorem sim_loop (hX : X.Ok) {at_ j : Nat} {v : String} {l p : Int} (hj : X.rs[j]? = some (.next [v])) (hp : p ≠ 0) (hp2 : -2 ≤ p ∧ p ≤ 2) (hl : 0 ≤ l ∧ l < 3) (hn : NoG π)
    (hbz : ∀ e, (rb e).sz ≤ e.sz + Tb) (hbv : ∀ e, look (rb e) v = look e v)
    (hb : ∀ e : En, e.sz + Tb ≤ 90000 → RL X Tb (at_, e, .for_ v at_ l p :: π) (j, rb e, .for_ v at_ l p :: π)) :
    ∀ (k : Nat) (x : Int) (e : En), remN x l p ≤ k → within x l p = true → (-10 ≤ x ∧ x ≤ 10) → e.sz + remN x l p * (Tb + 2) ≤ 90000 → RL X (remN x l p * (Tb + 1)) (at_, e.setv v x, .for_ v at_ l p :: π) (j + 1, loopRun rb v l p k x e, π)
  | 0, x, e, hk, hw, _, _ => let ⟨r, q, _⟩ := rem_pos hp hw; absurd (Nat.le_trans (Nat.le_of_eq q.symm) hk) (Nat.not_succ_le_zero r)
  | k + 1, x, e, hk, hw, hx, hz => by
    have hs1 := sz_setv e v x
    have hs2 := hbz (e.setv v x)
    obtain ⟨r, hr, hrn⟩ := rem_pos hp hw
    rw [hr] at hz hk ⊢
    rw [Nat.add_mul] at hz
    have h1 := hb (e.setv v x) (by lia)
    have hlk : look (rb (e.setv v x)) v = x := (hbv _).trans ((look_setv ..).trans (if_pos rfl))
    have hxp : -10 ≤ x + p ∧ x + p ≤ 10 := by
      unfold within at hw
      split at hw <;> have := of_decide_eq_true hw <;> lia
    have h2 := fun w hw => st_next (X := X) (pc := j) (e := rb (e.setv v x)) (π := π) (a := at_) (l := l) (p := p) (w := w) hX hj (by lia) hn hp (by rw [hlk]; unfold Fit; lia) hw
    rw [hlk] at h2
    rw [show loopRun rb v l p (k + 1) x e = loopRun rb v l p k (x + p) (rb (e.setv v x)) from if_pos hw, Nat.add_mul, Nat.one_mul, Nat.add_comm (r * (Tb + 1))]
    cases hw2 : within (x + p) l p with
    | true =>
      have hmul : remN (x + p) l p * (Tb + 2) ≤ r * (Tb + 2) := Nat.mul_le_mul_right _ hrn
      exact (h1.trans (.one (h2 true hw2))).trans ((sim_loop hX hj hp hp2 hl hn hbz hbv hb k (x + p) (rb (e.setv v x)) (Nat.le_trans hrn (Nat.le_of_succ_le_succ hk)) hw2 hxp (by lia)).mono (Nat.mul_le_mul_right _ hrn))
    | false =>
      rw [loop_over hw2]
      exact (h1.trans (.one (h2 false hw2))).mono (Nat.le_add_right _ _)
theorem sim_while (hX : X.Ok) {pc j : Nat} {v : String} {lim : Int} (hw : X.rs[pc]? = some (.whil v lim)) (hj : X.rs[j]? = some (.letA v 1)) (hq : X.rs[j + 1]? = some .wend) (hpr : getK (pc : Int) X.pr = some (.int (j + 1 : Nat))) (hn : NoG π) (hnw : NoW pc π) (hz0 : π.length < 19)
    (hbz : ∀ e, (rb e).sz ≤ e.sz + Tb) (hbv : ∀ e, look (rb e) v = look e v)
    (hb : ∀ e : En, e.sz + Tb ≤ 90000 → RL X Tb (pc + 1, e, .whil pc :: π) (j, rb e, .whil pc :: π)) :
    ∀ (k : Nat) (i : Int) (e : En) (π' : List PE), lim = i + k → (π' = π ∨ π' = .whil pc :: π) → e.sz + k * (Tb + 2) ≤ 90000 → RL X (k * (Tb + 3) + 1) (pc, e.setv v i, π') (j + 2, whRun rb v k i e, π)
  | 0, i, e, π', hk, hp, hz => by
    have hlk : look (e.setv v i) v = i := (look_setv ..).trans (if_pos rfl)
    refine (RL.one (st_whil_out hX hw ?_ (by rw [hlk]; lia) ?_ hpr)).mono (Nat.le_add_left _ _)
    · rcases hp with e | e <;> subst e
      · exact hn
      · exact nog_whil hn
    · rcases hp with e | e <;> subst e
      · exact .inr ⟨hnw, rfl⟩
      · exact .inl ⟨rfl, hnw⟩
  | k + 1, i, e, π', hk, hp, hz => by
    have hs1 := sz_setv e v i
    have hs2 := hbz (e.setv v i)
    rw [Nat.add_mul] at hz
    have hlk : look (e.setv v i) v = i := (look_setv ..).trans (if_pos rfl)
    have hx : look (e.setv v i) v < lim := by rw [hlk]; lia
    have h1 : StepOk X (pc, e.setv v i, π') (pc + 1, e.setv v i, .whil pc :: π) := by
      rcases hp with e | e <;> subst e
      · exact st_whil_in hX hw hn hx (Nat.lt_succ_of_lt hz0) (.inr ⟨hnw, rfl⟩)
      · exact st_whil_in hX hw (nog_whil hn) hx (Nat.succ_lt_succ hz0) (.inl ⟨π, rfl, hnw, rfl⟩)
    have h2 := hb (e.setv v i) (by lia)
    have h3 := st_letA (X := X) (pc := j) (e := rb (e.setv v i)) (π := .whil pc :: π) hX hj (by lia)
    rw [(hbv _).trans hlk] at h3
    have h4 := st_wend (X := X) (pc := j + 1) (e := (rb (e.setv v i)).setv v (i + 1)) (π := π) (a := pc) hX hq hn
    have h5 := sim_while hX hw hj hq hpr hn hnw hz0 hbz hbv hb k (i + 1) (rb (e.setv v i)) (.whil pc :: π) (by lia) (.inr rfl) (by lia)
    refine (((((RL.one h1).trans h2).trans (.one h3)).trans (.one h4)).trans h5).mono ?_
    rw [Nat.add_mul]; lia
end

section
variable {X : Cx} {at_ ts : Nat} {e : En} {π : List PE} {s0 s1 : En → En}
theorem rl_choice (hX : X.Ok) {a b c : Int} (h : Seg X.rs at_ (rowsS at_ (.ifs a b c))) (hc : 0 ≤ c ∧ c < 2) (he : e.sz + 4 ≤ 99000) : RL X 4 (at_, e, π) (at_ + lenS (.ifs a b c), choRun a b c e, π) := by
  have hsz := sz_note e ("t" ++ toString b)
  have ht : ∀ {pc pc2 : Nat}, X.rs[pc]? = some (.rem ("t" ++ toString b)) → X.rs[pc + 1]? = some (.letS "X" 1) → RL X 2 (pc, e, π) (pc + 2, (e.note ("t" ++ toString b)).addx (-1), π) := fun {pc _} h1 h2 => (RL.one (st_rem hX h1 (by lia))).trans (.one (st_letS hX h2 (by lia)))
  rcases (by lia : c = 0 ∨ c = 1) with q | q <;> subst q
  · have h : Seg X.rs at_ [.ifnot a (at_ + 3), .rem ("t" ++ toString b), .letS "X" 1] := h
    have s1 := fun w hw => RL.one (st_ifnot (e := e) (π := π) (w := w) hX h.head hw)
    by_cases hx : e.x < a
    · rw [show choRun a b 0 e = _ from if_pos hx]
      exact ((s1 true (decide_eq_true hx)).trans (ht (pc2 := 0) h.tail.head h.tail.tail.head)).mono (by decide)
    · rw [show choRun a b 0 e = _ from if_neg hx]
      exact (s1 false (decide_eq_false hx)).mono (by decide)
  · have h : Seg X.rs at_ [.ifnot a (at_ + 4), .rem ("t" ++ toString b), .letS "X" 1, .jump (at_ + 5), .rem "f"] := h
    have s1 := fun w hw => RL.one (st_ifnot (e := e) (π := π) (w := w) hX h.head hw)
    by_cases hx : e.x < a
    · rw [show choRun a b 1 e = _ from if_pos hx]
      exact ((s1 true (decide_eq_true hx)).trans (ht (pc2 := 0) h.tail.head h.tail.tail.head)).trans (.one (st_jump hX h.tail.tail.tail.head))
    · rw [show choRun a b 1 e = _ from if_neg hx]
      exact ((s1 false (decide_eq_false hx)).trans (.one (st_rem hX h.tail.tail.tail.tail.head (by lia)))).mono (by decide)
noncomputable def CallOk (X : Cx) (s0 s1 : En → En) (ts : Nat) : Prop := ∀ (at_ : Nat) (e : En) (π : List PE) (a b : Int), (0 ≤ a ∧ a < 4) → (0 ≤ b ∧ b < 2) → X.rs[at_]? = some (if b = 1 then .ongo a else .gosub (if a % 2 = 0 then 1000 else 2000)) → π.length ≤ 14 → e.sz + ts ≤ 90000 → RL X (ts + 2) (at_, e, π) (at_ + 1, callRun s0 s1 a b e, π)
theorem rl_sm (hX : X.Ok) {d : Nat} {s : Sm} (hcall : 1 ≤ d → CallOk X s0 s1 ts) (hw : WFs d s) (h : Seg X.rs at_ (rowsS at_ (lineSm s))) (hz : 1 ≤ d → π.length ≤ 14) (he : e.sz + tS ts s ≤ 90000) : RL X (tS ts s) (at_, e, π) (at_ + lenS (lineSm s), runSm s0 s1 s e, π) := by
  cases s with
  | note a => exact .one (st_rem hX (Seg.head (seg := []) h) (by have : e.sz + 1 ≤ 90000 := he; lia))
  | add k => exact .one (st_letA hX (Seg.head (seg := []) h) (by have : e.sz + 1 ≤ 90000 := he; lia))
  | choice a b c => exact rl_choice hX h hw.2.2 (Nat.le_trans he (by decide))
  | call a b => exact hcall hw.1.1 at_ e π a b hw.2.1 hw.2.2 (Seg.head (seg := []) h) (hz hw.1.1) (Nat.le_trans (Nat.add_le_add_left (Nat.le_add_right _ 2) _) he)
end

structure Pok (at_ : Nat) (b : B) (π : List PE) : Prop where
  g : NoG π
  w : ∀ a, .whil a ∈ π → a < at_
  f : ∀ v ∈ names b, NoF v π
theorem Pok.mono {at_ at2 : Nat} {b b2 : B} {π : List PE} (h : Pok at_ b π) (ha : at_ ≤ at2) (hb : ∀ v ∈ names b2, v ∈ names b) : Pok at2 b2 π := ⟨h.g, fun a q => Nat.lt_of_lt_of_le (h.w a q) ha, fun v q => h.f v (hb v q)⟩
structure SimC (X : Cx) (s0 s1 : En → En) (ts : Nat) : Prop where
  hX : X.Ok
  z0 : ∀ e, (s0 e).sz ≤ e.sz + ts
  z1 : ∀ e, (s1 e).sz ≤ e.sz + ts
  k0 : ∀ u, u ≠ "X" → ∀ e, look (s0 e) u = look e u
  k1 : ∀ u, u ≠ "X" → ∀ e, look (s1 e) u = look e u
theorem sim {X : Cx} {s0 s1 : En → En} {ts : Nat} (S : SimC X s0 s1 ts) : ∀ (b : B) (d : Nat) (c c' : Int) (at_ : Nat) (e : En) (π : List PE), (1 ≤ d → CallOk X s0 s1 ts) → WF d c b c' → Seg X.rs at_ (rowsB at_ b) → LpOK X.pr X.lp at_ b → (1 ≤ d → Pok at_ b π) → π.length + d ≤ 15 → e.sz + T ts b ≤ 90000 → RL X (T ts b) (at_, e, π) (at_ + len b, runB s0 s1 b e, π)
  | .nil => by
    intro _ _ _ at_ e π _ _ _ _ _ _ _
    exact .refl
  | .sm s r => by
    intro d c c' at_ e π hcall z0_ hs hl hp hz he
    obtain ⟨ws, w⟩ := z0_
    have hs : Seg X.rs at_ (rowsS at_ (lineSm s) ++ rowsB (at_ + lenS (lineSm s)) r) := hs
    have he : e.sz + (tS ts s + T ts r) ≤ 90000 := he
    have hsz := sm_sz S.z0 S.z1 s e
    have hr := hs.right
    rw [rowsS_len] at hr
    have h1 := rl_sm (e := e) (π := π) S.hX hcall ws hs.left (fun _ => by lia) (by lia)
    have h2 := sim S r d _ _ (at_ + lenS (lineSm s)) (runSm s0 s1 s e) π hcall w hr hl (fun q => (hp q).mono (Nat.le_add_right _ _) fun v q => q) hz (by lia)
    rw [len_sm, ← Nat.add_assoc]
    exact h1.trans h2
  | .loop v b l p body r => by
    intro d c _ at_ e π hcall z0_ hs z1_ hp hz he
    obtain ⟨q, c1, hc1, wb, w⟩ := z0_
    obtain ⟨l1, l2, l3⟩ := z1_
    rw [rows_loop] at hs
    have hp := hp q.hd.1
    have hvn := name_ne (b := .loop v b l p body r) ⟨q, c1, hc1, wb, w⟩ List.mem_cons_self
    have own := own_loop q wb
    have hs1 := hs.tail.left
    have hs2 := hs.tail.right
    rw [rowsB_len] at hs2
    have hnb : ∀ u ∈ names body, u ∈ names (.loop v b l p body r) := fun u q => List.mem_cons_of_mem _ (List.mem_append_left _ q)
    have hnr : ∀ u ∈ names r, u ∈ names (.loop v b l p body r) := fun u q => List.mem_cons_of_mem _ (List.mem_append_right _ q)
    have hpok : Pok (at_ + 1) body (.for_ v (at_ + 1) l p :: π) := by
      refine ⟨nog_for hp.g, fun a ha => ?_, fun u hu x hx a l' p' e => ?_⟩
      · rcases List.mem_cons.mp ha with q | q
        · cases q
        · exact Nat.lt_succ_of_lt (hp.w a q)
      · rcases List.mem_cons.mp hx with q | q
        · rw [q] at e; injection e with e; exact own (e ▸ hu)
        · exact hp.f u (hnb u hu) x q a l' p' e
    have he : e.sz + ((3 * (T ts body + 2) + 2) + T ts r) ≤ 90000 := he
    have hbz := run_sz S.z0 S.z1 wb
    have hp0 := pace_ne q.hp
    have hr3 := rem_le (p := p) q.hb q.hl
    have hmul : remN b l p * (T ts body + 2) ≤ 3 * (T ts body + 2) := Nat.mul_le_mul_right _ hr3
    have hmul1 : remN b l p * (T ts body + 1) ≤ 3 * (T ts body + 1) := Nat.mul_le_mul_right _ hr3
    have hlen := len_loop (v := v) (b := b) (l := l) (p := p) (body := body) (r := r)
    have he2 := loopRun_sz (v := v) (l := l) hp0 hbz 8 b e
    have key : RL X (3 * (T ts body + 1) + 1) (at_, e, π) (at_ + 1 + len body + 1, loopRun (runB s0 s1 body) v l p 8 b e, π) := by
      cases hw : within b l p with
      | true =>
        have h1 := st_for_in (X := X) (pc := at_) (e := e) (π := π) S.hX hs.head (by lia) hvn.2.1 hp0 hp.g (hp.f v List.mem_cons_self) (by lia) hw
        have h2 := sim_loop (Tb := T ts body) (rb := runB s0 s1 body) (π := π) S.hX (at_ := at_ + 1) (j := at_ + 1 + len body) hs2.head hp0 (by rcases q.hp with e | e | e | e <;> subst e <;> decide) q.hl hp.g hbz (fun e => look_run hvn.1 (S.k0 v hvn.1) (S.k1 v hvn.1) body own e)
          (fun e' hz' => sim S body (d - 1) _ _ (at_ + 1) e' _ (fun _ => hcall q.hd.1) wb hs1 l2 (fun _ => hpok) (by show π.length + 1 + _ ≤ _; have := q.hd; lia) hz') 8 b e (Nat.le_trans hr3 (by decide)) hw (by have := q.hb; lia) (by lia)
        exact ((RL.one h1).trans h2).mono (by lia)
      | false =>
        have h1 := st_for_out (X := X) (pc := at_) (e := e) (π := π) S.hX hs.head (by lia) hp0 hw l1 hs2.head
        rw [loop_over hw]
        exact (RL.one h1).mono (by lia)
    have h3 := sim S r d _ _ (at_ + 1 + len body + 1) (loopRun (runB s0 s1 body) v l p 8 b e) π hcall w hs2.tail l3 (fun _ => hp.mono (by lia) hnr) hz (by lia)
    rw [show at_ + len (.loop v b l p body r) = at_ + 1 + len body + 1 + len r by lia]
    exact (key.trans h3).mono (by show _ ≤ (3 * (T ts body + 2) + 2) + T ts r; lia)
  | .whil wi lim body r => by
    intro d c _ at_ e π hcall z0_ hs z1_ hp hz he
    obtain ⟨q, hw, c1, hc1, wb, w⟩ := z0_
    obtain ⟨l1, l2, l3⟩ := z1_
    rw [rows_whil] at hs
    have hp := hp q.hd.1
    have hvn := name_ne (b := .whil wi lim body r) ⟨q, hw, c1, hc1, wb, w⟩ List.mem_cons_self
    have own : wn wi ∉ names body := own_while (Int.le_of_eq hw) wb
    have hs1 := hs.tail.tail.left
    have hs2 := hs.tail.tail.right
    rw [rowsB_len] at hs2
    have hnb : ∀ u ∈ names body, u ∈ names (.whil wi lim body r) := fun u q => List.mem_cons_of_mem _ (List.mem_append_left _ q)
    have hnr : ∀ u ∈ names r, u ∈ names (.whil wi lim body r) := fun u q => List.mem_cons_of_mem _ (List.mem_append_right _ q)
    have hpok : Pok (at_ + 2) body (.whil (at_ + 1) :: π) := by
      refine ⟨nog_whil hp.g, fun a ha => ?_, fun u hu x hx a l' p' e => ?_⟩
      · rcases List.mem_cons.mp ha with q | q
        · injection q with q; exact q ▸ Nat.lt_succ_self _
        · exact Nat.lt_succ_of_lt (Nat.lt_succ_of_lt (hp.w a q))
      · rcases List.mem_cons.mp hx with q | q
        · rw [q] at e; cases e
        · exact hp.f u (hnb u hu) x q a l' p' e
    have hnw : NoW (at_ + 1) π := fun x hx e => absurd (hp.w (at_ + 1) (e ▸ hx)) (Nat.not_lt.mpr (Nat.le_succ _))
    have he : e.sz + ((2 * (T ts body + 4) + 4) + T ts r) ≤ 90000 := he
    have hbz := run_sz S.z0 S.z1 wb
    have hq := q.hl
    have hmul : lim.toNat * (T ts body + 2) ≤ 2 * (T ts body + 2) := Nat.mul_le_mul_right _ (by lia)
    have hmul1 : lim.toNat * (T ts body + 3) ≤ 2 * (T ts body + 3) := Nat.mul_le_mul_right _ (by lia)
    have hmul2 : lim.toNat * (T ts body + 1) ≤ 2 * (T ts body + 1) := Nat.mul_le_mul_right _ (by lia)
    have hlen := len_whil (w := wi) (lim := lim) (body := body) (r := r)
    have he2 := whRun_sz (v := wn wi) hbz lim.toNat 0 e
    have h1 := st_letC (X := X) (pc := at_) (e := e) (π := π) S.hX hs.head (by lia)
    have h2 := sim_while (Tb := T ts body) (rb := runB s0 s1 body) (π := π) S.hX hs.tail.head (j := at_ + 2 + len body) hs2.head hs2.tail.head l1 hp.g hnw (by lia) hbz (fun e => look_run hvn.1 (S.k0 _ hvn.1) (S.k1 _ hvn.1) body own e)
      (fun e' hz' => sim S body (d - 1) _ _ (at_ + 2) e' _ (fun _ => hcall q.hd.1) wb hs1 l2 (fun _ => hpok) (by show π.length + 1 + _ ≤ _; have := q.hd; lia) hz') lim.toNat 0 e π (by lia) (.inl rfl) (by lia)
    have h3 := sim S r d _ _ (at_ + 2 + len body + 2) (whRun (runB s0 s1 body) (wn wi) lim.toNat 0 e) π hcall w hs2.tail.tail l3 (fun _ => hp.mono (by lia) hnr) hz (by lia)
    rw [show at_ + len (.whil wi lim body r) = at_ + 2 + len body + 2 + len r by lia]
    exact ((RL.one h1).trans (h2.trans h3)).mono (by show _ ≤ (2 * (T ts body + 4) + 4) + T ts r; lia)
structure SubP (X : Cx) (s : En → En) (ts : Nat) (n : Int) (t : Nat) (b : B) : Prop where
  p : getK n X.pl = some (.int t)
  g : Seg X.rs t (rowsB t b ++ [.ret])
  w : ∃ c c', WF 0 c b c'
  l : LpOK X.pr X.lp t b
  n : T ts b ≤ ts
theorem sub_ {X : Cx} {s0 s1 s : En → En} {ts t pc : Nat} {n : Int} {b : B} {e : En} {π : List PE} (S : SimC X s0 s1 ts) (P : SubP X s ts n t b) (e0 : ∀ e, runB s0 s1 b e = s e) (hpi : π.length ≤ 14) (hz : e.sz + ts ≤ 90000) : RL X (ts + 1) (t, e, .gosub pc :: π) (pc, s e, π) := by
  obtain ⟨c, c', w⟩ := P.w
  have h1 := sim S b 0 c c' t e (.gosub pc :: π) (fun h => absurd h (by decide)) w P.g.left P.l (fun h => absurd h (by decide)) (by show π.length + 1 + 0 ≤ 15; lia) (by have := P.n; lia)
  rw [e0] at h1
  have hr := P.g.right.head
  rw [rowsB_len] at hr
  exact (h1.mono P.n).trans (.one (st_ret S.hX hr))

noncomputable def law_1 (sa : Nat) (ns : List Int) : SF := (sAsgR [1, 2] (eTup (lCons (eList (lCons (eCall (F_all sa ns) (lCons (eLoc 0) lNil)) (lCons (eC (.int 0)) lNil))) (lCons (eList (lCons (eC (.int 0)) lNil)) lNil))))
noncomputable def law_2 : SF := (sAsg (gName 3) (eList (lCons (eList (lCons (eTup (lCons (eC (.str "note")) (lCons (eC (.int 8)) lNil))) (lCons (eTup (lCons (eC (.str "add")) (lCons (eC (.int 2)) lNil))) lNil))) (lCons (eCall (F_block 4) (lCons (eLoc 1) (lCons (eC (.int 0)) (lCons (eLoc 2) lNil)))) lNil))))
noncomputable def law_3 : SF := (sAsg (gName 4) (eBin opAdd (eList (lCons (eTup (lCons (eC (.str "for")) (lCons (eC (.str "I")) (lCons (eC (.int 2)) (lCons (eC (.int 1)) (lCons (eC (.int 1)) (lCons (eList (lCons (eTup (lCons (eC (.str "note")) (lCons (eC (.int 5)) lNil))) lNil)) lNil))))))) lNil)) (eCall (F_block 4) (lCons (eLoc 1) (lCons (eC (.int 2)) (lCons (eLoc 2) lNil))))))
noncomputable def law_4 : SF := (sAsg (gName 5) (eList lNil))
noncomputable def law_5 : SF := (sExpr (eCall (F_lines 6) (lCons (eLoc 4) (lCons (eLoc 5) (lCons (eC (.int 10)) lNil)))))
noncomputable def law_6 : SF := (sAsg (gName 6) (eList (lCons (eTup (lCons (eC (.str "FOR")) (lCons (eC (.str "A")) (lCons (eTup (lCons (eC (.str "whole")) (lCons (eC (.int 1)) lNil))) (lCons (eTup (lCons (eC (.str "whole")) (lCons (eC (.int 2)) lNil))) (lCons (eC .none) lNil)))))) (lCons (eTup (lCons (eC (.str "FOR")) (lCons (eC (.str "B")) (lCons (eTup (lCons (eC (.str "whole")) (lCons (eC (.int 1)) lNil))) (lCons (eTup (lCons (eC (.str "whole")) (lCons (eC (.int 2)) lNil))) (lCons (eC .none) lNil)))))) lNil))))
noncomputable def law_7 : SF := (sFor (iVal (eBin opAdd (eLoc 6) (eList (lCons (eTup (lCons (eC (.str "REM")) (lCons (eC (.str "ab")) lNil))) (lCons (eTup (lCons (eC (.str "NEXT")) (lCons (eList (lCons (eC (.str "B")) (lCons (eC (.str "A")) lNil))) lNil))) (lCons (eTup (lCons (eC (.str "END")) lNil)) lNil)))))) (gName 7) L1_law)
noncomputable def law_8 : SF := (sFor (iRng1 (lCons (eC (.int 2)) lNil)) (gName 8) L0_law)
noncomputable def law_9 : SF := (sAsgR [9, 10] (eTup (lCons (eDict1 "X" 0) (lCons (eList lNil) lNil))))
noncomputable def law_10 : SF := (sExpr (eCall (F_go 12) (lCons (eLoc 4) (lCons (eLoc 3) (lCons (eLoc 9) (lCons (eLoc 10) lNil))))))
noncomputable def law_11 : SF := (sAsg (gTup [(gSub (eLoc 9) (eC (.str "A"))), (gSub (eLoc 9) (eC (.str "B")))]) (eTup (lCons (eC (.int 3)) (lCons (eC (.int 3)) lNil))))
noncomputable def law_12 : SF := (sAsg (gName 11) (eNew 556 F_FlowRun_init (lCons (eCall F_flatten (lCons (eLoc 5) lNil)) (lCons (eDict1 "X" 0) (lCons (eC (.fn 581)) (lCons (eC (.int 16)) (lCons (eC (.int 9)) lNil)))))))
noncomputable def law_13 : SF := (sIf (tCmp cNe (eMeth 556 "go" F_run_go (eLoc 11) (lCons (eC (.int 0)) (lCons (eC (.int 3000)) lNil))) (eBlt bLen (lCons (eUn (attrOf 380 "rows") (eUn (attrOf 556 "flat") (eLoc 11))) lNil))) (sSeq (sRet (eC (.bool false))) sNil) sNil)
noncomputable def law_14 : SF := (sRet (eAnd (eCmp cEq (eUn (attrOf 556 "notes") (eLoc 11)) (eBin opAdd (eLoc 10) (eBin opMul (eList (lCons (eTup (lCons (eC (.str "ab")) (lCons (eIdx (eLoc 9) (eC (.str "X"))) lNil))) lNil)) (eC (.int 4))))) (eCmp cEq (eUn (attrOf 556 "values") (eLoc 11)) (eLoc 9))))
noncomputable abbrev lawM (sa bx ct : Nat) (su mn ln : Option V) (x : Sl) : Ms := [some (.fn sa), some (.ref bx), some (.ref ct), su, mn, ln, x.a, x.b, x.c, x.d, x.e, x.f]
noncomputable def subB : B := .sm (.note 8) (.sm (.add 2) .nil)
noncomputable def mainB (b : B) : B := .loop "I" 2 1 1 (.sm (.note 5) .nil) b
section
variable {C : Prop} {sa bx ct : Nat} {σ : St} {x : Sl} {su mn ln : Option V}
theorem all_ {ns : List Int} (hn : ns.length ≤ 1000000) (σ : St) (kk : ∀ n σ', Runs (F_all sa ns) [.fn sa] σ (.int n) σ' → 0 ≤ n → C) : C := by
  have hl : ((ns.take 24).map V.int).length ≤ 1000000 := by rw [List.length_map]; exact Nat.le_trans (List.length_take_le _ _) (by decide)
  have l1 : Lst (σ ++ [O.list ((ns.take 24).map V.int)]) σ.length ((ns.take 24).map V.int) := ls_l get_end hl
  have l2 : ((σ ++ [O.list ((ns.take 24).map V.int)]) ++ [O.list ((ns.take 24).map V.int).reverse])[(σ ++ [O.list ((ns.take 24).map V.int)]).length]? = some (.list ((ns.take 24).map V.int).reverse) := get_end
  refine lp_inv (it := itList (σ ++ [O.list ((ns.take 24).map V.int)]).length) (g := gName 2) (b := L0_all) (fun x => [some (.fn sa), x.a, x.b]) ((ns.take 24).map V.int).reverse.length
    (fun _ x σ' => σ' = ((σ ++ [O.list ((ns.take 24).map V.int)]) ++ [O.list ((ns.take 24).map V.int).reverse]) ∧ ∃ n, x.a = some (.int n) ∧ 0 ≤ n) (fun x σ' q => ?_) (fun G j x σ' hj q kk => ?_) _ 0 { a := some (.int 0) } _ C (Nat.zero_add _) ⟨rfl, 0, rfl, Int.le_refl _⟩ fun x' σ' q l => ?_
  · rw [q.1]; exact it_end (nth_l l2 (List.getElem?_eq_none (Nat.le_refl _)))
  · obtain ⟨rfl, n, e, hn⟩ := q
    obtain ⟨a, b, c, d, e', f, g⟩ := x
    obtain rfl : a = _ := e
    have h1 := List.getElem?_eq_getElem hj
    obtain ⟨k, _, e⟩ := List.mem_map.mp (List.mem_reverse.mp (List.getElem_mem hj))
    rw [← e] at h1
    exact kk { a := some (.int (n * 65536 + (if k < 0 then -k else k) % 65536)), b := some (.int k) } _ (step_n (it_at (nth_l l2 h1)) (sruns_of [] fun P os hp => (And.intro (by decide : (-1000000 : Int) < 65536 ∧ (65536 : Int) < 1000000) <| And.intro (by decide : (0 : Int) < 65536) hp :))) ⟨rfl, _, rfl, Int.add_nonneg (Int.mul_nonneg hn (by decide)) (Int.emod_nonneg _ (by decide))⟩
  · obtain ⟨rfl, n, e, hn'⟩ := q
    refine kk n ((σ ++ [O.list ((ns.take 24).map V.int)]) ++ [O.list ((ns.take 24).map V.int).reverse]) (runs_of [.l ((ns.take 24).map V.int), .f .next [some (.fn sa), some (.int n), x'.b] ((σ ++ [O.list ((ns.take 24).map V.int)]) ++ [O.list ((ns.take 24).map V.int).reverse])] fun P os hp => ?_) hn'
    rw [e] at l
    show okC (Nat.beq sa sa) _ _
    rw [show Nat.beq sa sa = true from Nat.beq_refl sa]
    exact (And.intro (⟨by decide, hn⟩ : (0 : Int) ≤ 24 ∧ ns.length ≤ 1000000) <| And.intro l1 <| And.intro (isl l2) <| And.intro l hp :)
theorem law1_ {ns : List Int} (hn : ns.length ≤ 1000000) (kk : ∀ bx ct σ, SRuns (law_1 sa ns) [some (.fn sa), none, none, none, none, none, none, none, none, none, none, none] [] .next (lawM sa bx ct none none none {}) σ → Bx bx ct σ 0 σ → bx ≠ ct → C) : C :=
  all_ (sa := sa) hn [] fun n τ r h0 => kk τ.length (τ ++ [O.list [.int n, .int 0]]).length ((τ ++ [O.list [.int n, .int 0]]) ++ [O.list [.int 0]]) (sruns_of [.c (.int n) τ] fun P os hp => (And.intro r hp :))
    ⟨⟨n, 0, get_app get_end, h0, Int.le_refl _⟩, get_end, fun _ _ _ _ => rfl, Nat.le_refl _⟩ (by rw [List.length_append]; exact Nat.ne_of_lt (Nat.lt_succ_self _))
inductive LawS (lo hi su : Nat) (b1 : B) (σ : St) : Prop
  | mk (a0 a1 : Nat) (l0 l1 : List V) (c c' : Int) (h : Sub σ lo hi su [.ref a0, .ref a1]) (s0 : Sub σ lo hi a0 l0) (s1 : Sub σ lo hi a1 l1) (i0 : IsB σ lo hi subB l0) (i1 : IsB σ lo hi b1 l1) (w1 : WF 0 c b1 c') (k : cnt b1 ≤ 2)
theorem LawS.mono {lo hi su lo' hi' : Nat} {b1 : B} {σ' : St} (hl : lo' ≤ lo) (hh : hi ≤ hi') (k : ∀ i, lo ≤ i → i < hi → σ'[i]? = σ[i]?) : LawS lo hi su b1 σ → LawS lo' hi' su b1 σ'
  | .mk a0 a1 l0 l1 c c' h s0 s1 i0 i1 w1 q => .mk a0 a1 l0 l1 c c' (h.mono hl hh k) (s0.mono hl hh k) (s1.mono hl hh k) (i0.mono hl hh k) (i1.mono hl hh k) w1 q
theorem wf0 : ∀ {b : B} ⦃c c' : Int⦄, WF 0 c b c' → c' = c
  | .nil => by
    intro _ _ e
    exact e
  | .sm _ r => by
    intro _ _ z0_
    obtain ⟨_, w⟩ := z0_
    exact wf0 (b := r) w
  | .loop _ _ _ _ _ _ => by
    intro _ _ z0_
    obtain ⟨q, _⟩ := z0_
    exact absurd q.hd.1 (by decide)
  | .whil _ _ _ _ => by
    intro _ _ z0_
    obtain ⟨q, _⟩ := z0_
    exact absurd q.hd.1 (by decide)
noncomputable abbrev sub0 : List V := [.tup [.str "note", .int 8], .tup [.str "add", .int 2]]
theorem law2_ (hne : bx ≠ ct) (h : Bx bx ct σ 0 σ) (kk : ∀ su b1 σ', SRuns law_2 (lawM sa bx ct none none none x) σ .next (lawM sa bx ct (some (.ref su)) none none x) σ' → Bx bx ct σ 0 σ' → LawS σ.length σ'.length su b1 σ' → C) : C :=
  block_ok 4 0 (by decide) (by decide) hne (σ ++ [O.list sub0]) 0 C (h.app (τ := [O.list sub0])).refl (Int.le_refl _) (by decide) fun i l b c' σ' r hb hs hi w hc => by
    obtain rfl := wf0 w
    have e1 : (σ ++ [O.list sub0]).length = σ.length + 1 := List.length_append
    have hl := hb.len
    have hlb := h.lb
    have hlc := get_lt h.cv
    rw [e1] at hl hs hi
    have k0 : ∀ i, σ.length + 1 ≤ i → i < σ'.length → (σ' ++ [O.list [.ref σ.length, .ref i]])[i]? = σ'[i]? := fun i _ h => List.getElem?_append_left h
    have e2 : (σ' ++ [O.list [V.ref σ.length, .ref i]]).length = σ'.length + 1 := List.length_append
    exact kk σ'.length b (σ' ++ [O.list [.ref σ.length, .ref i]]) (sruns_of [.c (.ref i) σ'] fun P os hp => (And.intro r hp :)) (h.app.trans hb).app
      (.mk σ.length i sub0 l _ _ ⟨by lia, by lia, get_end⟩ ⟨Nat.le_refl _, by lia, get_app (hb.get get_end (Nat.ne_of_gt hlb) (Nat.ne_of_gt hlc))⟩ (hs.mono (Nat.le_succ _) (by lia) fun i _ h => List.getElem?_append_left h) ⟨_, rfl, _, rfl, rfl⟩ (hi.mono (Nat.le_succ _) (by lia) fun i _ h => List.getElem?_append_left h) w hc)
structure LawA (su mn : Nat) (b1 b2 : B) (σ : St) : Prop where
  s : LawS 0 σ.length su b1 σ
  m : ∃ lm, Sub σ 0 σ.length mn lm ∧ IsB σ 0 σ.length (mainB b2) lm
  w : ∃ c', WF 2 0 b2 c'
  k : cnt b2 ≤ 2
noncomputable abbrev for0 (i : Nat) : V := .tup [.str "for", .str "I", .int 2, .int 1, .int 1, .ref i]
theorem law3_ {lo su : Nat} {b1 : B} (hne : bx ≠ ct) (h : Bx bx ct σ 0 σ) (hb : bx < lo ∧ ct < lo) (hS : LawS lo σ.length su b1 σ)
    (kk : ∀ mn b2 σ', SRuns law_3 (lawM sa bx ct (some (.ref su)) none none x) σ .next (lawM sa bx ct (some (.ref su)) (some (.ref mn)) none x) σ' → LawA su mn b1 b2 σ' → C) : C :=
  block_ok 4 2 (by decide) (by decide) hne ((σ ++ [O.list [.tup [.str "note", .int 5]]]) ++ [O.list [for0 σ.length]]) 0 C (h.app.app (τ := [O.list [for0 σ.length]])).refl (Int.le_refl _) (by decide) fun i l b c' σ' r hB hs hi w hc => by
    have e0 : (σ ++ [O.list [V.tup [.str "note", .int 5]]]).length = σ.length + 1 := List.length_append
    have e1 : ((σ ++ [O.list [V.tup [.str "note", .int 5]]]) ++ [O.list [for0 σ.length]]).length = σ.length + 2 := by rw [List.length_append, e0]; rfl
    have hl := hB.len
    have hlb := h.lb
    have hlc := get_lt h.cv
    rw [e1] at hl hs hi
    have f1 : σ'[σ.length]? = some (.list [V.tup [.str "note", .int 5]]) := hB.get (get_app get_end) (Nat.ne_of_gt hlb) (Nat.ne_of_gt hlc)
    have f2 : σ'[(σ ++ [O.list [V.tup [.str "note", .int 5]]]).length]? = some (.list [for0 σ.length]) := hB.get get_end (by rw [e0]; lia) (by rw [e0]; lia)
    have hlen : l.length ≤ 2 := isB_len hi ▸ hc
    have l2 : Lst σ' i l := ls_l hs.2.2 (Nat.le_trans hlen (by decide))
    have e2 : (σ' ++ [O.list ([for0 σ.length] ++ l)]).length = σ'.length + 1 := List.length_append
    refine kk σ'.length b (σ' ++ [O.list ([for0 σ.length] ++ l)]) (sruns_of [.c (.ref i) σ', .l [for0 σ.length], .l l] fun P os hp => (And.intro r <| And.intro (lst1 f2) <| And.intro l2 <| And.intro (show [for0 σ.length].length + l.length ≤ 1000000 from Nat.le_trans (Nat.add_le_add_left hlen 1) (by decide)) hp :))
      ⟨hS.mono (Nat.zero_le _) (by lia) fun i h1 h2 => (List.getElem?_append_left (by lia)).trans ((hB.keep i (by rw [e1]; lia) (by lia) (by lia)).trans ((List.getElem?_append_left (by rw [e0]; lia)).trans (List.getElem?_append_left h2))),
       ⟨_, ⟨Nat.zero_le _, by lia, get_end⟩, l, σ.length, _, rfl, ⟨Nat.zero_le _, by lia, get_app f1⟩, ⟨_, rfl, rfl⟩, hi.mono (Nat.zero_le _) (by lia) fun i _ h => List.getElem?_append_left h⟩, ⟨c', w⟩, hc⟩
end

noncomputable def kL : Nat → Nat
  | 0 => 1
  | d + 1 => 2 * kL d + 4
theorem kL_pos : ∀ d, 1 ≤ kL d
  | 0 => Nat.le_refl _
  | d + 1 => Nat.le_trans (by decide : 1 ≤ 4) (Nat.le_add_left _ _)
theorem kL_body {n d t : Nat} (hd : 1 ≤ d) (hn : n ≤ 2) (h : t ≤ n * kL (d - 1)) : t + 4 ≤ kL d := by
  obtain ⟨d, rfl⟩ : ∃ e, d = e + 1 := ⟨d - 1, (Nat.sub_add_cancel hd).symm⟩
  exact Nat.add_le_add_right (Nat.le_trans h (Nat.mul_le_mul_right _ hn)) 4
theorem nl_le : ∀ {b : B} ⦃d : Nat⦄ ⦃c c' : Int⦄, WF d c b c' → (linesB b).length ≤ cnt b * kL d
  | .nil => by
    intro _ _ _ _
    exact Nat.zero_le _
  | .sm s r => by
    intro d _ _ z0_
    obtain ⟨_, h⟩ := z0_
    have := nl_le h
    have := kL_pos d
    show (linesB r).length + 1 ≤ (cnt r + 1) * kL d
    rw [Nat.add_mul, Nat.one_mul]; lia
  | .loop _ _ _ _ body r => by
    intro d _ _ z0_
    obtain ⟨q, c1, _, hb, h⟩ := z0_
    have := nl_le h
    have := kL_body q.hd.1 q.hc (nl_le hb)
    show (linesB body ++ _ :: linesB r).length + 1 ≤ (cnt r + 1) * kL d
    rw [Nat.add_mul, Nat.one_mul, List.length_append, List.length_cons]; lia
  | .whil _ _ body r => by
    intro d _ _ z0_
    obtain ⟨q, _, c1, _, hb, h⟩ := z0_
    have := nl_le h
    have := kL_body q.hd.1 q.hc (nl_le hb)
    show (linesB body ++ _ :: _ :: linesB r).length + 1 + 1 ≤ (cnt r + 1) * kL d
    rw [Nat.add_mul, Nat.one_mul, List.length_append, List.length_cons, List.length_cons]; lia
theorem wf_main {b : B} {c c' : Int} (h : WF 2 c b c') : WF 2 c (mainB b) c' :=
  ⟨⟨⟨by decide, by decide⟩, .inr ⟨rfl, rfl⟩, ⟨by decide, by decide⟩, ⟨by decide, by decide⟩, .inl rfl, by decide⟩, c, Int.le_refl _, ⟨⟨by decide, by decide⟩, rfl⟩, h⟩
theorem wf_sub : WF 0 0 subB 0 := ⟨⟨by decide, by decide⟩, ⟨by decide, by decide⟩, rfl⟩
section
variable {C : Prop} {sa bx ct ln : Nat} {σ σ0 : St} {x : Sl} {su mn : Option V} {pre : List (Int × S)} {cur : List S}
theorem LS.next {b b' : Int} (h : LS ⟨σ0, ln, pre, b⟩ cur σ) : LS ⟨σ0, ln, pre ++ numb b cur, b'⟩ [] σ := by
  obtain ⟨L, v, il, len⟩ := h
  exact ⟨L, v, by rw [show numb b' [] = [] from rfl, List.append_nil]; exact il, len.trans (by rw [List.length_append, numb_len]; rfl)⟩
theorem law5_ {mi : Nat} {lm : List V} {b : B} {c c' : Int} (w : WF 2 c b c') (hm : Sub σ 0 σ.length mi lm) (hb : IsB σ 0 σ.length b lm) (hz : (linesB b).length ≤ 1000)
    (kk : ∀ σ', SRuns law_5 (lawM sa bx ct su (some (.ref mi)) (some (.ref σ.length)) x) (σ ++ [O.list []]) .next (lawM sa bx ct su (some (.ref mi)) (some (.ref σ.length)) x) σ' → LS ⟨σ, σ.length, [], 10⟩ (linesB b) σ' → C) : C :=
  lines_ok (X := ⟨σ, σ.length, [], 10⟩) (fun p h => by cases h) 6 2 b mi lm c c' [] (σ ++ [O.list []]) C (by decide) w hm.2.1 hm.2.2 hb ⟨[], Vw.nil.push (.list []), rfl, rfl⟩ (by show 0 + 0 + _ ≤ _; lia) fun σ' r h => kk σ' (sruns_of [.c .none σ'] fun P os hp => (And.intro r hp :)) h

noncomputable def tail5 : List S := [.row (.for_ "A" 1 2 none), .row (.for_ "B" 1 2 none), .row (.rem "ab"), .row (.next ["B", "A"]), .row .end_]
noncomputable abbrev vBoth : List V := [.tup [.str "FOR", .str "A", vWh 1, vWh 2, .none], .tup [.str "FOR", .str "B", vWh 1, vWh 2, .none]]
noncomputable abbrev vLast (i : Nat) : List V := [.tup [.str "REM", .str "ab"], .tup [.str "NEXT", .ref i], .tup [.str "END"]]
theorem puts_ {q : Nat} {Lq : List V} (hpre : ∀ p ∈ pre, p.1 < 10) (hq : q ≠ ln) : ∀ (ss : List (S × V)) (j : Nat) (cur : List S) (σ : St) (x : Sl), Lq.drop j = ss.map (·.2) → (∀ p ∈ ss, IsSt σ (ln + 1) σ.length p.1 p.2) → σ[q]? = some (.list Lq) → LS ⟨σ0, ln, pre, 10⟩ cur σ → pre.length + cur.length + ss.length ≤ 10000 →
    (∀ x' σ', Lp (itList q) (gName 7) L1_law j (lawM sa bx ct su mn (some (.ref ln)) x) σ .next (lawM sa bx ct su mn (some (.ref ln)) x') σ' → LS ⟨σ0, ln, pre, 10⟩ (cur ++ ss.map (·.1)) σ' → C) → C
  | [] => by
    intro j cur σ x e hs hl h hz kk
    exact kk x σ (lp_end (it_end (nth_l hl (List.getElem?_eq_none_iff.mpr (List.drop_eq_nil_iff.mp e))))) (by rw [List.map_nil, List.append_nil]; exact h)
  | (s, v) :: ss => by
    intro j cur σ x e hs hl h hz kk
    have e := drop_cons (show Lq.drop j = v :: ss.map (·.2) from e)
    have hz : pre.length + cur.length + (ss.length + 1) ≤ 10000 := hz
    refine put_ (X := ⟨σ0, ln, pre, 10⟩) hpre h (show pre.length + cur.length ≤ 10000 by lia) (hs (s, v) List.mem_cons_self) fun σ1 r1 h1 k1 l1 => ?_
    refine puts_ hpre hq ss (j + 1) (cur ++ [s]) σ1 { x with b := some v } e.2 (fun p hp => IsSt.mono (Nat.le_refl _) l1 (fun i a b => k1 i b (Nat.ne_of_gt a)) (hs p (List.mem_cons_of_mem _ hp))) ((k1 q (get_lt hl) hq).trans hl) h1 (by rw [List.length_append]; show _ + (cur.length + 1) + _ ≤ _; lia) fun x' σ' l h' => kk x' σ' (lp_step (step_n (it_at (nth_l hl e.1)) (sruns_of [.c .none σ1] fun P os hp => (And.intro r1 hp :))) l) ?_
    rw [List.append_assoc] at h'; exact h'
theorem law7_ (h : LS ⟨σ0, ln, [], 10⟩ cur σ) (hz : cur.length ≤ 1000) (kk : ∀ x' σ', SRuns law_7 (lawM sa bx ct su mn (some (.ref ln)) { x with a := some (.ref σ.length) }) (σ ++ [O.list vBoth]) .next (lawM sa bx ct su mn (some (.ref ln)) x') σ' → LS ⟨σ0, ln, [], 10⟩ (cur ++ tail5) σ' → C) : C := by
  have h3 := ((h.app (τ := [O.list vBoth])).app (τ := [O.list [.str "B", .str "A"]])).app (τ := [O.list (vLast (σ ++ [O.list vBoth]).length)])
  have h4 := h3.app (τ := [O.list (vBoth ++ vLast (σ ++ [O.list vBoth]).length)])
  have hlt : ln < σ.length := h.lt
  have e1 : (σ ++ [O.list vBoth]).length = σ.length + 1 := List.length_append
  have e2 : ((σ ++ [O.list vBoth]) ++ [O.list [V.str "B", .str "A"]]).length = σ.length + 2 := by rw [List.length_append, e1]; rfl
  have e3 : (((σ ++ [O.list vBoth]) ++ [O.list [V.str "B", .str "A"]]) ++ [O.list (vLast (σ ++ [O.list vBoth]).length)]).length = σ.length + 3 := by rw [List.length_append, e2]; rfl
  have g1 : (((σ ++ [O.list vBoth]) ++ [O.list [V.str "B", .str "A"]]) ++ [O.list (vLast (σ ++ [O.list vBoth]).length)])[σ.length]? = some (.list vBoth) := get_app (get_app get_end)
  have g2 : (((σ ++ [O.list vBoth]) ++ [O.list [V.str "B", .str "A"]]) ++ [O.list (vLast (σ ++ [O.list vBoth]).length)])[((σ ++ [O.list vBoth]) ++ [O.list [V.str "B", .str "A"]]).length]? = some (.list (vLast (σ ++ [O.list vBoth]).length)) := get_end
  have g4 : ((((σ ++ [O.list vBoth]) ++ [O.list [V.str "B", .str "A"]]) ++ [O.list (vLast (σ ++ [O.list vBoth]).length)]) ++ [O.list (vBoth ++ vLast (σ ++ [O.list vBoth]).length)])[(((σ ++ [O.list vBoth]) ++ [O.list [V.str "B", .str "A"]]) ++ [O.list (vLast (σ ++ [O.list vBoth]).length)]).length]? = some (.list (vBoth ++ vLast (σ ++ [O.list vBoth]).length)) := get_end
  have sn : Sub ((((σ ++ [O.list vBoth]) ++ [O.list [V.str "B", .str "A"]]) ++ [O.list (vLast (σ ++ [O.list vBoth]).length)]) ++ [O.list (vBoth ++ vLast (σ ++ [O.list vBoth]).length)]) (ln + 1) ((((σ ++ [O.list vBoth]) ++ [O.list [V.str "B", .str "A"]]) ++ [O.list (vLast (σ ++ [O.list vBoth]).length)]) ++ [O.list (vBoth ++ vLast (σ ++ [O.list vBoth]).length)]).length (σ ++ [O.list vBoth]).length [.str "B", .str "A"] := ⟨by rw [e1]; lia, get_lt (get_app (get_app get_end)), get_app (get_app get_end)⟩
  refine puts_ (pre := []) (σ0 := σ0) (ln := ln) (fun p h => by cases h) (by rw [e3]; lia) [(.row (.for_ "A" 1 2 none), .tup [.str "FOR", .str "A", vWh 1, vWh 2, .none]), (.row (.for_ "B" 1 2 none), .tup [.str "FOR", .str "B", vWh 1, vWh 2, .none]), (.row (.rem "ab"), .tup [.str "REM", .str "ab"]), (.row (.next ["B", "A"]), .tup [.str "NEXT", .ref (σ ++ [O.list vBoth]).length]), (.row .end_, .tup [.str "END"])] 0 cur _ { x with a := some (.ref σ.length) } rfl (fun p hp => ?_) g4 h4 (by show 0 + cur.length + 5 ≤ _; lia) fun x' σ' l h' => kk x' σ' (sruns_of [.l vBoth, .l (vLast (σ ++ [O.list vBoth]).length), .f .next _ σ'] fun P os hp => (And.intro (lst2 g1) <| And.intro (ls_l g2 (by decide : 3 ≤ 1000000)) <| And.intro (by decide : 2 + 3 ≤ 1000000) <| And.intro (isl g4) <| And.intro l hp :)) h'
  rcases List.mem_cons.mp hp with e | hp
  · subst e; exact rfl
  rcases List.mem_cons.mp hp with e | hp
  · subst e; exact rfl
  rcases List.mem_cons.mp hp with e | hp
  · subst e; exact rfl
  rcases List.mem_cons.mp hp with e | hp
  · subst e; exact ⟨_, rfl, sn⟩
  rw [List.mem_singleton.mp hp]; exact rfl
theorem turn8_ {jv : Int} {si aj : Nat} {lj : List V} {b : B} {c c' : Int} (hpre : ∀ p ∈ pre, p.1 < 1000 * (jv + 1)) (h : LS ⟨σ0, ln, pre, 1000 * (jv + 1)⟩ [] σ) (hj : -1000000 < jv + 1 ∧ jv + 1 < 1000000) (hi : ItI σ si jv (.ref aj)) (w : WF 0 c b c') (ha : Sub σ0 0 ln aj lj) (hb : IsB σ0 0 ln b lj) (hz : pre.length + (linesB b).length ≤ 9000)
    (kk : ∀ σ', SRuns L0_law (lawM sa bx ct (some (.ref si)) mn (some (.ref ln)) { x with c := some (.int jv) }) σ .next (lawM sa bx ct (some (.ref si)) mn (some (.ref ln)) { x with c := some (.int jv) }) σ' → LS ⟨σ0, ln, pre, 1000 * (jv + 1)⟩ (linesB b ++ [.row .ret]) σ' → C) : C :=
  lines_ok (X := ⟨σ0, ln, pre, 1000 * (jv + 1)⟩) hpre 6 0 b aj lj c c' [] σ C (by decide) w ha.2.1 ha.2.2 hb h (by show pre.length + 0 + _ ≤ _; lia) fun σ1 r1 h1 =>
    put_ (X := ⟨σ0, ln, pre, 1000 * (jv + 1)⟩) hpre h1 (by show pre.length + (linesB b).length ≤ _; lia) (s := .row .ret) (st := .tup [.str "RETURN", .none]) rfl fun σ' r h' _ _ => kk σ' (sruns_of [.v (.ref aj), .c .none σ1, .c .none σ'] fun P os hp => (And.intro hi <| And.intro hj <| And.intro r1 <| And.intro hj <| And.intro r hp :)) h'
theorem numb_lt : ∀ (b : Int) (c : List S), ∀ p ∈ numb b c, p.1 < b + c.length
  | _, [], _, h => by cases h
  | b, s :: c, p, h => by
    rcases List.mem_cons.mp h with h | h
    · subst h; exact Int.lt_add_of_pos_right _ (Int.ofNat_lt.mpr (Nat.succ_pos _))
    · have := numb_lt (b + 1) c p h
      show p.1 < b + ((c.length + 1 : Nat) : Int)
      lia
noncomputable def srcOf (C : List S) (b0 b1 : B) : List (Int × S) := (numb 10 C ++ numb 1000 (linesB b0 ++ [.row .ret])) ++ numb 2000 (linesB b1 ++ [.row .ret])
theorem law8_ {si : Nat} {b1 : B} (h : LS ⟨σ0, ln, [], 10⟩ cur σ) (hC : cur.length ≤ 200) (hS : LawS 0 ln si b1 σ0) (z1 : (linesB b1).length ≤ 100)
    (kk : ∀ x' σ', SRuns law_8 (lawM sa bx ct (some (.ref si)) mn (some (.ref ln)) x) σ .next (lawM sa bx ct (some (.ref si)) mn (some (.ref ln)) x') σ' → LS ⟨σ0, ln, srcOf cur subB b1, 3000⟩ [] σ' → C) : C := by
  obtain ⟨a0, a1, l0, l1, c, c', hs, s0, s1, i0, i1, w1, k⟩ := hS
  have n1 := numb_lt 10 cur
  have n2 := numb_lt 1000 (linesB subB ++ [.row .ret])
  have p1 : ∀ p ∈ numb 10 cur, p.1 < 1000 := fun p hp => Int.lt_trans (n1 p hp) (by lia)
  refine turn8_ (sa := sa) (bx := bx) (ct := ct) (mn := mn) (x := x) (jv := 0 + (0 : Nat) * 1) p1 (h.next (b' := 1000)) (by decide) (it_l (k := 0) (h.old hs.2.1 hs.2.2) rfl) wf_sub s0 i0 (by rw [numb_len]; exact Nat.le_trans (Nat.add_le_add_right hC 2) (by decide)) fun σ1 r1 h1 => ?_
  refine turn8_ (sa := sa) (bx := bx) (ct := ct) (mn := mn) (x := { x with c := some (.int (0 + (0 : Nat) * 1)) }) (jv := 0 + (1 : Nat) * 1) (fun p hp => ?_) (h1.next (b' := 2000)) (by decide) (it_l (k := 1) (h1.old hs.2.1 hs.2.2) rfl) w1 s1 i1 (by rw [List.length_append, numb_len, numb_len]; show cur.length + 3 + _ ≤ _; lia) fun σ2 r2 h2 => ?_
  · rcases List.mem_append.mp hp with hp | hp
    · exact Int.lt_trans (p1 p hp) (by decide)
    · exact Int.lt_trans (n2 p hp) (by decide)
  · exact kk { x with c := some (.int (0 + (1 : Nat) * 1)) } σ2 (sruns_of [.f .next _ σ2] fun P os hp => (And.intro (⟨by decide, by decide⟩ : Sml 2) <| And.intro (lp_step (step_n (rg_at (by decide)) r1) (lp_step (step_n (rg_at (by decide)) r2) (lp_end (rg_end (by decide)))) : Lp (itRange 0 1 (2 : Int).toNat) (gName 8) L0_law 0 (lawM sa bx ct (some (.ref si)) mn (some (.ref ln)) x) σ .next (lawM sa bx ct (some (.ref si)) mn (some (.ref ln)) { x with c := some (.int (0 + (1 : Nat) * 1)) }) σ2) hp :)) (h2.next (b' := 3000))
end

noncomputable def env0 : En := ⟨[("X", 0)], []⟩
noncomputable def sOf (b : B) : En → En := runB id id b
theorem T0 {ts : Nat} : ∀ {b : B} ⦃c c' : Int⦄, WF 0 c b c' → T ts b ≤ 4 * cnt b
  | .nil => by
    intro _ _ _
    exact Nat.zero_le _
  | .sm s r => by
    intro _ _ z0_
    obtain ⟨h, w⟩ := z0_
    have := T0 (ts := ts) w
    have : tS ts s ≤ 4 := by
      cases s with
      | call a b => exact absurd h.1.1 (by decide)
      | choice a b c => exact Nat.le_refl _
      | _ => exact (by decide : 1 ≤ 4)
    show tS ts s + T ts r ≤ 4 * (cnt r + 1)
    lia
  | .loop _ _ _ _ _ _ => by
    intro _ _ z0_
    obtain ⟨h, _⟩ := z0_
    exact absurd h.hd.1 (by decide)
  | .whil _ _ _ _ => by
    intro _ _ z0_
    obtain ⟨h, _⟩ := z0_
    exact absurd h.hd.1 (by decide)
section
variable {C : Prop} {sa bx ct : Nat} {σ : St} {x : Sl} {su mn ln : Option V} {b : B} {c c' : Int}
theorem T8 (w : WF 0 c b c') (h : cnt b ≤ 2) : T 8 b ≤ 8 := Nat.le_trans (T0 w) (Nat.mul_le_mul_left 4 h)
theorem sOf_sz (w : WF 0 c b c') (h : cnt b ≤ 2) (e : En) : (sOf b e).sz ≤ e.sz + 8 := Nat.le_trans (run_sz (ts := 8) (fun e => Nat.le_add_right _ _) (fun e => Nat.le_add_right _ _) w e) (Nat.add_le_add_left (T8 w h) _)
noncomputable abbrev finE (e : En) : En := (e.setv "A" 3).setv "B" 3
theorem law9_11_ {si mi : Nat} {b1 bm : B} {lm : List V} (hS : LawS 0 σ.length si b1 σ) (hm : Sub σ 0 σ.length mi lm) (hb : IsB σ 0 σ.length bm lm) (w : WF 2 c bm c') (hz : T 8 bm ≤ 50000)
    (kk : ∀ σ1 σ2 σ3, SRuns law_9 (lawM sa bx ct (some (.ref si)) (some (.ref mi)) ln x) σ .next (lawM sa bx ct (some (.ref si)) (some (.ref mi)) ln { x with d := some (.ref σ.length), e := some (.ref (σ.length + 1)) }) σ1 → SRuns law_10 (lawM sa bx ct (some (.ref si)) (some (.ref mi)) ln { x with d := some (.ref σ.length), e := some (.ref (σ.length + 1)) }) σ1 .next (lawM sa bx ct (some (.ref si)) (some (.ref mi)) ln { x with d := some (.ref σ.length), e := some (.ref (σ.length + 1)) }) σ2 →
      SRuns law_11 (lawM sa bx ct (some (.ref si)) (some (.ref mi)) ln { x with d := some (.ref σ.length), e := some (.ref (σ.length + 1)) }) σ2 .next (lawM sa bx ct (some (.ref si)) (some (.ref mi)) ln { x with d := some (.ref σ.length), e := some (.ref (σ.length + 1)) }) σ3 → Vw σ.length σ [(σ.length, .dictS (encD (finE (runB (sOf subB) (sOf b1) bm env0)))), (σ.length + 1, .list (encN (finE (runB (sOf subB) (sOf b1) bm env0))))] σ3 → C) : C := by
  obtain ⟨a0, a1, l0, l1, c1, c1', hs, s0, s1, i0, i1, w1, k⟩ := hS
  let X : GX := ⟨σ.length, σ, si, a0, a1, σ.length, σ.length + 1, subB, b1, sOf subB, sOf b1, 8⟩
  have hX : X.Ok := ⟨hs.2.1, hs.2.2, ⟨l0, 0, 0, s0.2.1, s0.2.2, i0, wf_sub⟩, ⟨l1, c1, c1', s1.2.1, s1.2.2, i1, w1⟩, run0 wf_sub, run0 w1, sOf_sz wf_sub (Nat.le_refl 2), sOf_sz w1 k, Nat.le_refl 8 |> fun _ => T8 wf_sub (Nat.le_refl 2), T8 w1 k⟩
  have e1 : (σ ++ [O.dictS [("X", V.int 0)]]).length = σ.length + 1 := List.length_append
  have v0 : Vw σ.length σ [(σ.length, .dictS (encD env0)), (σ.length + 1, .list (encN env0))] (σ ++ [.dictS [("X", .int 0)], .list []]) := vw_of (ds := [0, 1]) (τ := [.dictS [("X", .int 0)], .list []]) (by simp only [List.length_cons, List.length_nil]; decide) (by decide)
  rw [List.append_cons σ (O.dictS [("X", V.int 0)])] at v0
  have hsz := run_sz hX.z0 hX.z1 w env0
  have z0 : env0.sz = 1 := rfl
  refine go_ok hX 12 2 bm mi lm c c' env0 _ C (by decide) w hm.2.1 hm.2.2 hb ⟨v0, rfl⟩ (show env0.sz + T 8 bm ≤ 100000 by lia) fun σ2 r2 g2 => ?_
  have g2 : GS X (runB (sOf subB) (sOf b1) bm env0) σ2 := g2
  have hsz : (runB (sOf subB) (sOf b1) bm env0).sz ≤ env0.sz + T 8 bm := hsz
  generalize runB (sOf subB) (sOf b1) bm env0 = er at g2 hsz kk
  have g3 := g2.setV "A" 3
  have g4 := g3.setV "B" 3
  have z3 := sz_setv er "A" 3
  refine kk ((σ ++ [O.dictS [("X", .int 0)]]) ++ [O.list []]) σ2 _ (sruns_of [] fun P os hp => ?_) (sruns_of [.c .none σ2] fun P os hp => (And.intro r2 hp :)) (sruns_of [.p (encD er), .p (encD (er.setv "A" 3))] fun P os hp => (And.intro (g2.dV (by lia)) <| And.intro (g3.dV (by lia)) hp :)) g4.v
  rw [← e1] at hp
  exact hp

theorem control_init_ (H : St) : Runs F_Control_init [.ref (H.length + 1), .int 20] (H ++ [.attrs []] ++ [.inst 265 H.length]) .none (H ++ [.attrs (vCat (H.length + 2)), .inst 265 H.length, .list []]) := fun P hp => by
  rw [List.append_assoc] at *
  have s : SRuns _ [some (.ref (H.length + 1)), some (.int 20)] (H ++ [.attrs [], .inst 265 H.length]) .next [some (.ref (H.length + 1)), some (.int 20)] (H ++ [.attrs (vCat (H.length + 2)), .inst 265 H.length, .list []]) := seq_r (init_new (x := "pile") (e := eList lNil) (r := []) (Nat.le_of_ble_eq_true rfl) fun τ P => rfl) <|
    seq_r (init_ (x := "most") (y := .int 20) (e := eLoc 1) (a := (vCat (H.length + 2)).take 1) (r := [.list []]) (q := []) (Nat.le_of_ble_eq_true rfl) fun P h => by rw [List.append_nil] at h; exact h) <|
    seq_r (init_ (x := "failed_at") (y := .int (-1)) (e := eUn unNeg (eC (.int 1))) (a := (vCat (H.length + 2)).take 2) (r := [.list []]) (q := []) (Nat.le_of_ble_eq_true rfl) fun P h => by rw [List.append_nil] at h; exact h) (sruns_of (b := sNil) [] fun P os h => h)
  exact s (fun x _ σ => P (flV x) σ) hp
theorem run_init_ (N D : Nat) (H : St) (hH : H.length = D + 1) : Runs F_FlowRun_init [.ref (H.length + 1), .ref (N + 1), .ref D, .fn 581, .int 16, .int 9] (H ++ [.attrs []] ++ [.inst 556 H.length]) .none (H ++ [.attrs (vRat N D), .inst 556 (D + 1), .attrs (vCat (D + 5)), .inst 265 (D + 3), .list [], .list []]) := fun P hp => by
  rw [List.append_assoc]
  have ctl : Runs F_Control_init [.ref ((H ++ [O.attrs ((vRat N D).take 5), O.inst 556 H.length]).length + 1), .int 20] ((H ++ [O.attrs ((vRat N D).take 5), O.inst 556 H.length]) ++ [O.attrs []] ++ [O.inst 265 (H ++ [O.attrs ((vRat N D).take 5), O.inst 556 H.length]).length]) .none _ := control_init_ _
  have e2 : (H ++ [O.attrs ((vRat N D).take 5), O.inst 556 H.length]).length = D + 3 := by rw [List.length_append, hH]; rfl
  have s : SRuns _ [some (.ref (H.length + 1)), some (.ref (N + 1)), some (.ref D), some (.fn 581), some (.int 16), some (.int 9)] (H ++ [.attrs [], .inst 556 H.length]) .next [some (.ref (H.length + 1)), some (.ref (N + 1)), some (.ref D), some (.fn 581), some (.int 16), some (.int 9)] (H ++ [.attrs (vRat N D), .inst 556 H.length, .attrs (vCat (D + 5)), .inst 265 (D + 3), .list [], .list []]) :=
    seq_r (init_ (x := "flat") (y := .ref (N + 1)) (e := eLoc 1) (r := []) (q := []) (Nat.le_of_ble_eq_true rfl) fun P h => by rw [List.append_nil] at h; exact h) <|
    seq_r (init_ (x := "values") (y := .ref D) (e := eLoc 2) (a := (vRat N D).take 1) (r := []) (q := []) (Nat.le_of_ble_eq_true rfl) fun P h => by rw [List.append_nil] at h; exact h) <|
    seq_r (init_ (x := "worth_of") (y := .fn 581) (e := eLoc 3) (a := (vRat N D).take 2) (r := []) (q := []) (Nat.le_of_ble_eq_true rfl) fun P h => by rw [List.append_nil] at h; exact h) <|
    seq_r (init_ (x := "bits") (y := .int 16) (e := eLoc 4) (a := (vRat N D).take 3) (r := []) (q := []) (Nat.le_of_ble_eq_true rfl) fun P h => by rw [List.append_nil] at h; exact h) <|
    seq_r (init_ (x := "digits") (y := .int 9) (e := eLoc 5) (a := (vRat N D).take 4) (r := []) (q := []) (Nat.le_of_ble_eq_true rfl) fun P h => by rw [List.append_nil] at h; exact h) <|
    seq_r (init_ (x := "control") (y := .ref (D + 4)) (e := eNew 265 F_Control_init (lCons (eC (.int 20)) lNil)) (a := (vRat N D).take 5) (r := []) (q := [.attrs (vCat (D + 5)), .inst 265 (D + 3), .list []]) (Nat.le_of_ble_eq_true rfl) fun P h => by
      obtain ⟨os, h⟩ := h
      refine ⟨.c .none _ :: os, ctl, ?_⟩
      rw [e2]
      exact h) <|
    seq_r (init_ (x := "notes") (y := .ref (D + 6)) (e := eList lNil) (a := (vRat N D).take 6) (r := [.attrs (vCat (D + 5)), .inst 265 (D + 3), .list []]) (q := [.list []]) (Nat.le_of_ble_eq_true rfl) fun P h => by
      have e6 : (H ++ [O.attrs ((vRat N D).take 6), O.inst 556 H.length, .attrs (vCat (D + 5)), .inst 265 (D + 3), .list []]).length = D + 6 := by rw [List.length_append, hH]; rfl
      rw [← e6] at h
      exact h) (sruns_of (b := sNil) [] fun P os h => h)
  rw [hH] at s ⊢
  exact s (fun x _ σ => P (flV x) σ) hp
end

theorem IsRows.mono {σ σ' : St} {lo hi lo' hi' : Nat} (hl : lo' ≤ lo) (hh : hi ≤ hi') (k : ∀ i, lo ≤ i → i < hi → σ'[i]? = σ[i]?) : ∀ {rs : List R} {L : List V}, IsRows σ lo hi rs L → IsRows σ' lo' hi' rs L
  | [], _, h => h
  | r :: rs, _, h => let ⟨n, v, l, e, h1, h2⟩ := h; ⟨n, v, l, e, IsR.mono hl hh k h1, IsRows.mono hl hh k h2⟩
section
variable {C : Prop} {sa bx ct : Nat} {σ : St} {x : Sl} {su mn ln : Option V}
noncomputable abbrev cxOf (N D : Nat) (σ1 : St) (L : List V) (src : List (Int × S)) : Cx := ⟨N, D, σ1, L, placesL 0 src [], (gath 0 (rowsL 0 (src.map (·.2))) ⟨[], [], [], []⟩).pr, (gath 0 (rowsL 0 (src.map (·.2))) ⟨[], [], [], []⟩).lp, rowsL 0 (src.map (·.2))⟩
noncomputable abbrev hM (N : Nat) (σ1 : St) : St := (σ1 ++ [O.dictS [("X", V.int 0)]]) ++ [O.attrs (vRat N σ1.length), .inst 556 (σ1.length + 1), .attrs (vCat (σ1.length + 5)), .inst 265 (σ1.length + 3), .list [], .list []]
theorem law12_ {li : Nat} {Ls : List V} {src : List (Int × S)} (hl : σ[li]? = some (.list Ls)) (hs : IsLines σ 0 σ.length src Ls) (hc : ∀ p ∈ src, okS p.2) (hz : lenL (src.map (·.2)) ≤ 300) (hn : src.length ≤ 1000)
    (kk : ∀ D σ1 L σ2, SRuns law_12 (lawM sa bx ct su mn (some (.ref li)) x) σ .next (lawM sa bx ct su mn (some (.ref li)) { x with f := some (.ref (D + 2)) }) σ2 → (cxOf σ.length D σ1 L src).Ok → M (cxOf σ.length D σ1 L src) (D + 5) env0 [] σ2 → (∀ i, i < σ.length → σ1[i]? = σ[i]?) → C) : C :=
  flatten_ hl hs hc hz hn fun L σ1 r h hr => by
    have e1 : (σ1 ++ [O.dictS [("X", V.int 0)]]).length = σ1.length + 1 := List.length_append
    have hN : σ.length + 7 ≤ σ1.length := get_lt (h.at_ 5 _ _ rfl)
    have ri := run_init_ σ.length σ1.length (σ1 ++ [O.dictS [("X", V.int 0)]]) e1
    have v0 : Vw σ1.length σ1 (mv (cxOf σ.length σ1.length σ1 L src) (σ1.length + 5) env0 []) (σ1 ++ [.dictS [("X", .int 0)], .attrs (vRat σ.length σ1.length), .inst 556 (σ1.length + 1), .attrs (vCat (σ1.length + 5)), .inst 265 (σ1.length + 3), .list [], .list []]) :=
      vw_of (ds := [0, 1, 2, 3, 4, 5, 6]) (τ := [.dictS [("X", .int 0)], .attrs (vRat σ.length σ1.length), .inst 556 (σ1.length + 1), .attrs (vCat (σ1.length + 5)), .inst 265 (σ1.length + 3), .list [], .list []]) (by simp only [List.length_cons, List.length_nil]; decide) (by decide)
    rw [List.append_cons σ1 (O.dictS [("X", V.int 0)])] at v0
    refine kk σ1.length σ1 L (hM σ.length σ1) (sruns_of [.c (.ref (σ.length + 1)) σ1, .c .none (hM σ.length σ1)] fun P os hp => ?_)
      ⟨h.fa, h.at_ 2 _ _ rfl, h.at_ 3 _ _ rfl, h.at_ 4 _ _ rfl, h.at_ 5 _ _ rfl, hr.mono (Nat.le_refl _) (Nat.le_trans (Nat.le_add_right _ 7) hN) fun i _ hi => h.old i hi, hN, by show (rowsL 0 _).length ≤ 900; rw [rowsL_len]; exact Nat.le_trans hz (by decide)⟩ ⟨v0, by decide, by decide⟩ h.old
    rw [show σ1.length + 2 = (σ1 ++ [O.dictS [("X", V.int 0)]]).length + 1 by rw [e1]] at hp
    exact (And.intro r <| And.intro ri hp :)
theorem law13_ {X : Cx} {pcE k ip : Nat} {e ef : En} {πf : List PE} (hX : X.Ok) (hend : X.rs[pcE]? = some .end_) (h : RL X k (0, e, []) (pcE, ef, πf)) (hk : k < 3000) (hm : M X ip e [] σ)
    (kk : ∀ ip' σ', SRuns law_13 (lawM sa bx ct su mn ln { x with f := some (.ref (X.D + 2)) }) σ .next (lawM sa bx ct su mn ln { x with f := some (.ref (X.D + 2)) }) σ' → M X ip' ef πf σ' → C) : C :=
  h ip σ { a := some (.int 3000) } 0 C hm (by lia) fun x' ip' σ' j hj m' q => kk ip' σ' (by
    have r1 := q _ _ _ (lp_ret (step_n (x := .ret (.int X.L.length)) (rg_at (show j < (3000 : Int).toNat from Nat.lt_of_le_of_lt hj (by lia))) (st_end (x := { x' with b := some (.int (0 + j * 1)) }) hX hend m')))
    have r2 : Runs F_run_go [.ref (X.D + 2), .int 0, .int 3000] σ (.int X.L.length) σ' := runs_of [.f _ _ σ'] fun P os hp => (And.intro (⟨by decide, by decide⟩ : Sml 3000) <| And.intro r1 hp :)
    have n1 : NoAttr σ (X.D + 2) 556 "go" := hm.no rfl
    have fa := m'.fa hX
    have h3 : (!decide ((X.L.length : Int) = X.L.length)) = false := by rw [decide_eq_true rfl]; rfl
    exact sruns_of [.c (.int X.L.length) σ', .v (.ref (X.N + 1)), .v (.ref (X.N + 2)), .l X.L, .b false] fun P os hp => (And.intro n1 <| And.intro r2 <| And.intro m'.flat <| And.intro fa.rows <| And.intro (m'.rows hX) <| And.intro h3 hp :)) m'

noncomputable def keysOf (l : List (String × Int)) : List String := l.map (·.1)
noncomputable def KN (e : En) : Prop := (keysOf e.vs).Nodup
theorem keys_mem {k i : String} {y : Int} : ∀ {l : List (String × Int)}, i ∈ keysOf (setI k y l) → i = k ∨ i ∈ keysOf l
  | [], h => .inl (List.mem_singleton.mp h)
  | (j, z) :: l, h => by
    unfold setI at h
    by_cases q : j = k
    · rw [if_pos q] at h; exact .inr h
    · rw [if_neg q] at h
      rcases List.mem_cons.mp h with h | h
      · exact .inr (List.mem_cons.mpr (.inl h))
      · exact (keys_mem h).imp_right (List.mem_cons_of_mem _)
theorem kn_setI {k : String} {y : Int} : ∀ {l : List (String × Int)}, (keysOf l).Nodup → (keysOf (setI k y l)).Nodup
  | [], _ => List.nodup_cons.mpr ⟨List.not_mem_nil, List.nodup_nil⟩
  | (j, z) :: l, h => by
    have h := List.nodup_cons.mp (show (j :: keysOf l).Nodup from h)
    unfold setI
    by_cases q : j = k
    · rw [if_pos q]; exact List.nodup_cons.mpr h
    · rw [if_neg q]; exact List.nodup_cons.mpr ⟨fun m => (keys_mem m).elim q h.1, kn_setI h.2⟩
theorem getI_mem : ∀ {l : List (String × Int)} {p : String × Int}, (keysOf l).Nodup → p ∈ l → getI p.1 l = some p.2
  | [], _, _, h => by cases h
  | (i, z) :: l, p, hn, h => by
    have hn := List.nodup_cons.mp (show (i :: keysOf l).Nodup from hn)
    unfold getI
    rcases List.mem_cons.mp h with h | h
    · subst h; exact if_pos rfl
    · rw [if_neg fun e : i = p.1 => hn.1 (e ▸ List.mem_map_of_mem h)]; exact getI_mem hn.2 h
theorem eqD_self {e : En} (h : KN e) : eqD (encD e) (encD e) = true := by
  unfold eqD
  rw [Bool.and_eq_true]
  refine ⟨beq_self_eq_true _, List.all_eq_true.mpr fun p hp => ?_⟩
  obtain ⟨a, ha, rfl⟩ := List.mem_map.mp hp
  show (match getK a.1 (encD e) with | some v => eqS (.int a.2) v | none => false) = true
  unfold encD
  rw [getK_enc, getI_mem h ha]
  exact decide_eq_true rfl
theorem eq1s_self : ∀ l : List (String × Int), eq1s (l.map encT) (l.map encT) = true
  | [] => rfl
  | p :: l => by
    show ((decide (p.1 = p.1) && (decide (p.2 = p.2) && true)) && eq1s (l.map encT) (l.map encT)) = true
    rw [eq1s_self l, decide_eq_true rfl, decide_eq_true rfl]; rfl
theorem flat_encT (l : List (String × Int)) : (l.map encT).all flat1 = true := List.all_eq_true.mpr fun v hv => let ⟨p, _, e⟩ := List.mem_map.mp hv; e ▸ rfl
theorem scal_encD (e : En) : (encD e).all (fun p => scal p.2) = true := List.all_eq_true.mpr fun v hv => let ⟨p, _, e⟩ := List.mem_map.mp hv; e ▸ rfl
noncomputable abbrev ab4 (y : Int) : List V := [.tup [.str "ab", .int y], .tup [.str "ab", .int y], .tup [.str "ab", .int y], .tup [.str "ab", .int y]]
noncomputable abbrev h14 (σ : St) (e2 : En) : St := ((σ ++ [O.list [V.tup [.str "ab", .int e2.x]]]) ++ [O.list (ab4 e2.x)]) ++ [O.list (encN e2 ++ ab4 e2.x)]
theorem law14_ {X : Cx} {ip vi ni : Nat} {e e2 : En} (hm : M X ip e [] σ) (hvi : vi < X.D) (hni : ni < X.D) (hv : X.σ1[vi]? = some (.dictS (encD e2))) (hn : X.σ1[ni]? = some (.list (encN e2))) (hvs : e.vs = e2.vs) (hns : e.ns = e2.ns ++ [("ab", e2.x), ("ab", e2.x), ("ab", e2.x), ("ab", e2.x)]) (hk : KN e2) (hx : e2.hasX) :
    ∃ σ', SRuns law_14 (lawM sa bx ct su mn ln { x with d := some (.ref vi), e := some (.ref ni), f := some (.ref (X.D + 2)) }) σ (.ret (.bool true)) (lawM sa bx ct su mn ln { x with d := some (.ref vi), e := some (.ref ni), f := some (.ref (X.D + 2)) }) σ' := by
  have gv := hm.v.get hvi hv
  have gn := hm.v.get hni hn
  have hz := hm.sz
  have hN : encN e = encN e2 ++ ab4 e2.x := by unfold encN; rw [hns, List.map_append]; rfl
  have hD : encD e = encD e2 := congrArg (List.map encP) hvs
  have hl : (encN e).length ≤ 100000 := encN_le hz
  have hl2 := hl
  rw [hN, List.length_append] at hl2
  have hl4 : (encN e2).length + 4 ≤ 100000 := hl2
  have a1 : Attr σ (X.D + 2) 556 "notes" (.ref (X.D + 6)) := hm.ra rfl
  have i1 : ItS σ vi "X" (.int e2.x) := ⟨_, gv, getK_X hx⟩
  have l1 : Lst (σ ++ [O.list [.tup [.str "ab", .int e2.x]]]) σ.length [.tup [.str "ab", .int e2.x]] := lst1 get_end
  have l2 : Lst ((σ ++ [O.list [.tup [.str "ab", .int e2.x]]]) ++ [O.list (ab4 e2.x)]) ni (encN e2) := ls_l (get_app (get_app gn)) (by lia)
  have l3 : Lst ((σ ++ [O.list [.tup [.str "ab", .int e2.x]]]) ++ [O.list (ab4 e2.x)]) (σ ++ [O.list [V.tup [.str "ab", .int e2.x]]]).length (ab4 e2.x) := ls_l get_end (by decide : 4 ≤ 1000000)
  have m3 := ((hm.app (τ := [O.list [.tup [.str "ab", .int e2.x]]])).app (τ := [O.list (ab4 e2.x)])).app (τ := [O.list (encN e2 ++ ab4 e2.x)])
  have l4 : Lst (h14 σ e2) (X.D + 6) (encN e) := ls_l (m3.v.at_ 6 _ _ rfl) (Nat.le_trans hl (by decide))
  have l5 : Lst (h14 σ e2) ((σ ++ [O.list [V.tup [.str "ab", .int e2.x]]]) ++ [O.list (ab4 e2.x)]).length (encN e) := ls_l (hN ▸ get_end) (Nat.le_trans hl (by decide))
  have v1 : IsS (h14 σ e2) X.D (encD e2) := hD ▸ m3.v.at_ 0 _ _ rfl
  have v2 : IsS (h14 σ e2) vi (encD e2) := get_app (get_app (get_app gv))
  refine ⟨h14 σ e2, sruns_of [.v (.ref (X.D + 6)), .v (.int e2.x), .l [.tup [.str "ab", .int e2.x]], .l (encN e2), .l (ab4 e2.x), .l (encN e), .l (encN e), .b true, .v (.ref X.D), .d, .p (encD e2), .p (encD e2)] fun P os hp => ?_⟩
  rw [← eqD_self hk] at hp
  exact (And.intro a1 <| And.intro i1 <| And.intro l1 <| And.intro (by decide : 1 ≤ 1000 ∧ (-1000 : Int) ≤ 4 ∧ (4 : Int) ≤ 1000) <| And.intro l2 <| And.intro l3 <| And.intro (show (encN e2).length + (ab4 e2.x).length ≤ 1000000 from Nat.le_trans hl4 (by decide)) <| And.intro l4 <| And.intro l5 <| And.intro (And.intro (flat_encT e.ns) (flat_encT e.ns)) <| And.intro (eq1s_self e.ns) <| And.intro m3.values <| And.intro v1 <| And.intro v2 <| And.intro (And.intro (scal_encD e2) (scal_encD e2)) hp :)
end

section
variable {X : Cx}
noncomputable abbrev mid1 (e : En) : En := ((e.setv "B" 1).note "ab").setv "B" 2
noncomputable abbrev mid2 (e : En) : En := ((mid1 e).note "ab").setv "B" 3
noncomputable abbrev forA (pc : Nat) : PE := .for_ "A" (pc + 1) 2 1
theorem look_B (e : En) (y : Int) : look (e.setv "B" y) "B" = y := (look_setv ..).trans (if_pos rfl)
theorem look_AB (e : En) (y : Int) : look (e.setv "B" y) "A" = look e "A" := (look_setv ..).trans (if_neg (by decide))
theorem pass_ (hX : X.Ok) {pc : Nat} {e : En} {a : Int} {w : Bool} (h1 : X.rs[pc + 1]? = some (.for_ "B" 1 2 none)) (h2 : X.rs[pc + 2]? = some (.rem "ab")) (h3 : X.rs[pc + 3]? = some (.next ["B", "A"])) (he : e.sz ≤ 90100) (ha : look e "A" = a) (hf : Fit (a + 1)) (hw : within (a + 1) 2 1 = w) :
    RL X 5 (pc + 1, e, [forA pc]) (nxA w (pc + 1) (pc + 3 + 1), (mid2 e).setv "A" (a + 1), nxP w (forA pc) []) := by
  have nG : NoG [] := fun x h => by cases h
  have nF : NoF "B" [forA pc] := fun x h a l p e => by rw [List.mem_singleton.mp h] at e; injection e with e; exact absurd e (by decide)
  have z1 := sz_setv e "B" 1
  have z2 := sz_note (e.setv "B" 1) "ab"
  have z3 := sz_setv ((e.setv "B" 1).note "ab") "B" 2
  have z4 := sz_note (mid1 e) "ab"
  have q1 : look ((e.setv "B" 1).note "ab") "A" = a := (look_AB e 1).trans ha
  have q2 : look ((mid1 e).note "ab") "A" = a := (look_AB _ 2).trans q1
  have b1 : look ((e.setv "B" 1).note "ab") "B" = 1 := look_B e 1
  have b2 : look ((mid1 e).note "ab") "B" = 2 := look_B ((e.setv "B" 1).note "ab") 2
  have s1 := st_for_in (X := X) (pc := pc + 1) (e := e) (π := [forA pc]) (po := none) hX h1 (by lia) (by decide) (by decide) (nog_for nG) nF (show 1 < 20 by decide) rfl
  have s2 := st_rem (X := X) (pc := pc + 2) (e := e.setv "B" 1) (π := [.for_ "B" (pc + 2) 2 1, forA pc]) hX h2 (by lia)
  have s3 := st_next2 (X := X) (pc := pc + 3) (e := (e.setv "B" 1).note "ab") (π := []) (a := pc + 2) (b := pc + 1) (l := 2) (p := 1) (m := 2) (q := 1) (w := true) (w2 := w) hX h3 (by lia) nG (by decide) (by decide) (by decide) (b1.symm ▸ ⟨by decide, by decide⟩) (q1.symm ▸ hf) (by rw [b1]; decide) (q1.symm ▸ hw)
  rw [b1] at s3
  have s4 := st_rem (X := X) (pc := pc + 2) (e := mid1 e) (π := [.for_ "B" (pc + 2) 2 1, forA pc]) hX h2 (by lia)
  have s5 := st_next2 (X := X) (pc := pc + 3) (e := (mid1 e).note "ab") (π := []) (a := pc + 2) (b := pc + 1) (l := 2) (p := 1) (m := 2) (q := 1) (w := false) (w2 := w) hX h3 (by lia) nG (by decide) (by decide) (by decide) (b2.symm ▸ ⟨by decide, by decide⟩) (q2.symm ▸ hf) (by rw [b2]; decide) (q2.symm ▸ hw)
  rw [b2, q2] at s5
  exact (((((RL.one s1).trans (.one s2)).trans (.one s3)).trans (.one s4)).trans (.one s5))
noncomputable abbrev abE (e : En) : En := (mid2 ((mid2 (e.setv "A" 1)).setv "A" 2)).setv "A" 3
theorem ab_run (hX : X.Ok) {pc : Nat} {e : En} (h0 : X.rs[pc]? = some (.for_ "A" 1 2 none)) (h1 : X.rs[pc + 1]? = some (.for_ "B" 1 2 none)) (h2 : X.rs[pc + 2]? = some (.rem "ab")) (h3 : X.rs[pc + 3]? = some (.next ["B", "A"])) (he : e.sz ≤ 90000) :
    RL X 11 (pc, e, []) (pc + 4, abE e, []) := by
  have nG : NoG [] := fun x h => by cases h
  have nF : NoF "A" [] := fun x h => by cases h
  have z1 := sz_setv e "A" 1
  have z2 := sz_setv (e.setv "A" 1) "B" 1
  have z3 := sz_setv (((e.setv "A" 1).setv "B" 1).note "ab") "B" 2
  have z4 := sz_setv ((mid1 (e.setv "A" 1)).note "ab") "B" 3
  have z5 := sz_setv (mid2 (e.setv "A" 1)) "A" 2
  rw [sz_note] at z3 z4
  have s0 := st_for_in (X := X) (pc := pc) (e := e) (π := []) (po := none) hX h0 (by lia) (by decide) (by decide) nG nF (by decide) rfl
  have p1 := pass_ (w := true) hX h1 h2 h3 (e := e.setv "A" 1) (by lia) ((look_setv ..).trans (if_pos rfl)) ⟨by decide, by decide⟩ (by decide)
  have p2 := pass_ (w := false) hX h1 h2 h3 (e := (mid2 (e.setv "A" 1)).setv "A" 2) (by lia) ((look_setv ..).trans (if_pos rfl)) ⟨by decide, by decide⟩ (by decide)
  exact ((RL.one s0).trans p1).trans p2
end
theorem setI_fresh {k : String} {y : Int} : ∀ {l r : List (String × Int)}, getI k l = none → setI k y (l ++ r) = l ++ setI k y r
  | [], _, _ => rfl
  | (i, z) :: l, r, h => by
    unfold getI at h
    by_cases q : i = k
    · rw [if_pos q] at h; cases h
    · rw [if_neg q] at h
      exact (if_neg q).trans (congrArg _ (setI_fresh h))
theorem ab_env {e : En} (hA : getI "A" e.vs = none) (hB : getI "B" e.vs = none) : (abE e).vs = (finE e).vs ∧ (abE e).ns = e.ns ++ [("ab", e.x), ("ab", e.x), ("ab", e.x), ("ab", e.x)] ∧ (finE e).x = e.x := by
  have xs : ∀ {e : En} {v : String} {y : Int}, v ≠ "X" → (e.setv v y).x = e.x := fun h => (look_setv ..).trans (if_neg h)
  have xn : ∀ {e : En} {t : String}, (e.note t).x = e.x := rfl
  have hb : "B" ≠ "X" := by decide
  have ha : "A" ≠ "X" := by decide
  refine ⟨?_, ?_, (xs hb).trans (xs ha)⟩
  · have h1 : ∀ y (r : List (String × Int)), setI "A" y (e.vs ++ r) = e.vs ++ setI "A" y r := fun y r => setI_fresh hA
    have h2 : ∀ y (r : List (String × Int)), setI "B" y (e.vs ++ r) = e.vs ++ setI "B" y r := fun y r => setI_fresh hB
    have h3 : ∀ y, setI "A" y e.vs = e.vs ++ [("A", y)] := fun y => by have := h1 y []; rwa [List.append_nil] at this
    show setI "A" 3 (setI "B" 3 (setI "B" 2 (setI "B" 1 (setI "A" 2 (setI "B" 3 (setI "B" 2 (setI "B" 1 (setI "A" 1 e.vs)))))))) = setI "B" 3 (setI "A" 3 e.vs)
    rw [h3, h2, h2, h2, h1, h2, h2, h2, h1, h3, h2]; rfl
  · have q : ∀ e : En, (mid2 e).ns = e.ns ++ [("ab", e.x), ("ab", e.x)] := fun e => by
      show (e.ns ++ [("ab", (e.setv "B" 1).x)]) ++ [("ab", (mid1 e).x)] = _
      rw [xs hb, xs hb, xn, xs hb, List.append_assoc]; rfl
    have q2 : ∀ e : En, (mid2 e).x = e.x := fun e => by rw [xs hb, xn, xs hb, xn, xs hb]
    show (mid2 ((mid2 (e.setv "A" 1)).setv "A" 2)).ns = _
    rw [q, xs ha, q2, xs ha]
    show (mid2 (e.setv "A" 1)).ns ++ _ = _
    rw [q, xs ha, List.append_assoc]; rfl

noncomputable def rtail : List R := [.for_ "A" 1 2 none, .for_ "B" 1 2 none, .rem "ab", .next ["B", "A"], .end_]
noncomputable def mainS (b2 : B) : List S := linesB (mainB b2) ++ tail5
noncomputable def srcL (b1 b2 : B) : List (Int × S) := srcOf (mainS b2) subB b1
noncomputable def allS (b1 b2 : B) : List S := (mainS b2 ++ (linesB subB ++ [.row .ret])) ++ (linesB b1 ++ [.row .ret])
theorem numb_map : ∀ (b : Int) (c : List S), (numb b c).map (·.2) = c
  | _, [] => rfl
  | b, s :: c => congrArg (s :: ·) (numb_map (b + 1) c)
theorem src_map (b1 b2 : B) : (srcL b1 b2).map (·.2) = allS b1 b2 := by unfold srcL srcOf allS; rw [List.map_append, List.map_append, numb_map, numb_map, numb_map]
noncomputable def t0L (b2 : B) : Nat := len (mainB b2) + 5
noncomputable def t1L (b2 : B) : Nat := t0L b2 + 3
theorem len_mainS (b2 : B) : lenL (mainS b2) = t0L b2 := lenL_app _ _
theorem len_subS (b2 : B) : lenL (mainS b2 ++ (linesB subB ++ [.row .ret])) = t1L b2 := by rw [lenL_app, len_mainS]; rfl
theorem rows_all (b1 b2 : B) : rowsL 0 (allS b1 b2) = ((rowsB 0 (mainB b2) ++ rtail) ++ (rowsB (t0L b2) subB ++ [.ret])) ++ (rowsB (t1L b2) b1 ++ [.ret]) := by
  unfold allS
  rw [rowsL_app, rowsL_app, Nat.zero_add, Nat.zero_add, len_mainS, len_subS]
  unfold mainS
  rw [rowsL_app, rowsL_app _ _ (linesB subB), rowsL_app _ _ (linesB b1)]; rfl
theorem places_app : ∀ (a b : List (Int × S)) (at_ : Nat) (P : List (Int × V)), placesL at_ (a ++ b) P = placesL (at_ + lenL (a.map (·.2))) b (placesL at_ a P)
  | [], _, _, _ => rfl
  | (n, s) :: a, b, at_, P => by
    show placesL (at_ + lenS s) (a ++ b) _ = placesL (at_ + (lenS s + lenL (a.map (·.2)))) b _
    rw [places_app a b, Nat.add_assoc]; rfl
theorem places_keep {k : Int} : ∀ (a : List (Int × S)) (at_ : Nat) (P : List (Int × V)), (∀ p ∈ a, p.1 ≠ k) → getK k (placesL at_ a P) = getK k P
  | [], _, _, _ => rfl
  | (n, s) :: a, at_, P, h => (places_keep a (at_ + lenS s) (setK n (.int at_) P) fun p hp => h p (List.mem_cons_of_mem _ hp)).trans ((getK_setK ..).trans (if_neg (h (n, s) List.mem_cons_self)))
theorem places_first {b : Int} {r : List S} {at_ : Nat} {P : List (Int × V)} (h : r ≠ []) : getK b (placesL at_ (numb b r) P) = some (.int at_) := by
  cases r with
  | nil => exact absurd rfl h
  | cons s r => exact (places_keep (numb (b + 1) r) (at_ + lenS s) (setK b (.int at_) P) fun p hp => Int.ne_of_gt (numb_ge (b + 1) r p hp)).trans ((getK_setK ..).trans (if_pos rfl))
theorem places_ok (b1 b2 : B) : getK 1000 (placesL 0 (srcL b1 b2) []) = some (.int (t0L b2)) ∧ getK 2000 (placesL 0 (srcL b1 b2) []) = some (.int (t1L b2)) := by
  have e1 : 0 + lenL ((numb 10 (mainS b2)).map (·.2)) = t0L b2 := by rw [numb_map, Nat.zero_add, len_mainS]
  have e2 : 0 + lenL ((numb 10 (mainS b2) ++ numb 1000 (linesB subB ++ [.row .ret])).map (·.2)) = t1L b2 := by rw [List.map_append, numb_map, numb_map, Nat.zero_add, len_subS]
  unfold srcL srcOf
  rw [places_app, places_app, e1, e2]
  have ne : ∀ (l : List S), l ++ [S.row R.ret] ≠ [] := fun l h => by cases l <;> cases h
  exact ⟨(places_keep _ _ _ fun p hp => Int.ne_of_gt (Int.lt_of_lt_of_le (by decide) (numb_ge 2000 _ p hp))).trans (places_first (ne _)), places_first (ne _)⟩
theorem lp0 {pr lp : List (Int × V)} : ∀ {b : B} ⦃c c' : Int⦄ ⦃at_ : Nat⦄, WF 0 c b c' → LpOK pr lp at_ b
  | .nil => by
    intro _ _ _ _
    exact trivial
  | .sm _ r => by
    intro _ _ _ z0_
    obtain ⟨_, w⟩ := z0_
    exact lp0 (b := r) w
  | .loop _ _ _ _ _ _ => by
    intro _ _ _ z0_
    obtain ⟨h, _⟩ := z0_
    exact absurd h.hd.1 (by decide)
  | .whil _ _ _ _ => by
    intro _ _ _ z0_
    obtain ⟨h, _⟩ := z0_
    exact absurd h.hd.1 (by decide)
theorem gath_all (b1 b2 : B) : LpOK (gath 0 (rowsL 0 (allS b1 b2)) ⟨[], [], [], []⟩).pr (gath 0 (rowsL 0 (allS b1 b2)) ⟨[], [], [], []⟩).lp 0 (mainB b2) := by
  rw [rows_all, gath_app, gath_app, gath_app, gath_app, gath_app, rowsB_len 0 (mainB b2), Nat.zero_add, Nat.zero_add, Nat.zero_add]
  obtain ⟨⟨e1, e2, k1⟩, o1⟩ := gath_B (mainB b2) 0 (len (mainB b2)) ⟨[], [], [], []⟩ _ (Nat.zero_add _).symm rfl
  generalize gath 0 (rowsB 0 (mainB b2)) ⟨[], [], [], []⟩ = g1 at e1 e2 k1 o1
  obtain ⟨ws1, fs1, pr1, lp1⟩ := g1
  obtain rfl : ws1 = [] := e1
  obtain rfl : fs1 = [] := e2
  obtain ⟨g2, hg2, k2⟩ : ∃ g2, gath (len (mainB b2)) rtail ⟨[], [], pr1, lp1⟩ = g2 ∧ ∀ k : Int, k < len (mainB b2) → getK k g2.pr = getK k pr1 ∧ getK k g2.lp = getK k lp1 :=
    ⟨_, rfl, fun k hk => ⟨rfl, (getK_setK ..).trans ((if_neg (Int.ne_of_gt hk)).trans ((getK_setK ..).trans (if_neg (Int.ne_of_gt (Int.lt_trans hk (Int.ofNat_lt.mpr (Nat.lt_succ_self _)))))))⟩⟩
  rw [hg2]
  have e3 : (rowsB 0 (mainB b2) ++ rtail).length = t0L b2 := by rw [List.length_append, rowsB_len]; rfl
  have e4 : ((rowsB 0 (mainB b2) ++ rtail) ++ (rowsB (t0L b2) subB ++ [R.ret])).length = t1L b2 := by rw [List.length_append, e3]; rfl
  rw [e3, e4]
  have k3 := (gath_B subB (t0L b2) _ g2 _ rfl rfl).1.keep
  generalize gath (t0L b2) (rowsB (t0L b2) subB) g2 = g3 at k3
  have k4 := (gath_B b1 (t1L b2) _ g3 _ rfl rfl).1.keep
  refine o1.mono (fun k hk1 hk2 => ?_) (Nat.le_refl _) (Nat.le_of_eq (Nat.zero_add _))
  have q0 : t0L b2 = len (mainB b2) + 5 := rfl
  have q1 : t1L b2 = t0L b2 + 3 := rfl
  have q2 := k4 k (by lia)
  have q3 := k3 k (by lia)
  have q4 := k2 k hk2
  exact ⟨q2.1.trans (q3.1.trans q4.1), q2.2.trans (q3.2.trans q4.2)⟩
theorem ok_lines : ∀ {b : B} ⦃d : Nat⦄ ⦃c c' : Int⦄, WF d c b c' → ∀ s ∈ linesB b, okS s
  | .nil => by
    intro _ _ _ _ s h
    cases h
  | .sm a r => by
    intro _ _ _ z0_ s h
    obtain ⟨q, w⟩ := z0_
    rcases List.mem_cons.mp h with e | h
    · subst e
      cases a with
      | choice a b c => exact (by have := q.2.2; lia : c = 0 ∨ c = 1)
      | call a b => by_cases z : b = 1 <;> simp only [lineSm, z, if_true, if_false] <;> exact trivial
      | _ => exact trivial
    · exact ok_lines w s h
  | .loop v _ _ _ body r => by
    intro _ _ _ z0_ s h
    obtain ⟨_, c1, _, wb, w⟩ := z0_
    rcases List.mem_cons.mp h with e | h
    · subst e; exact trivial
    · rcases List.mem_append.mp h with h | h
      · exact ok_lines wb s h
      · rcases List.mem_cons.mp h with e | h
        · subst e; exact .inl ⟨v, rfl⟩
        · exact ok_lines w s h
  | .whil _ _ body r => by
    intro _ _ _ z0_ s h
    obtain ⟨_, _, c1, _, wb, w⟩ := z0_
    rcases List.mem_cons.mp h with e | h
    · subst e; exact trivial
    rcases List.mem_cons.mp h with e | h
    · subst e; exact trivial
    rcases List.mem_append.mp h with h | h
    · exact ok_lines wb s h
    rcases List.mem_cons.mp h with e | h
    · subst e; exact trivial
    rcases List.mem_cons.mp h with e | h
    · subst e; exact trivial
    · exact ok_lines w s h
theorem ok_all {b1 b2 : B} {c1 c1' c2 c2' : Int} (w1 : WF 0 c1 b1 c1') (w2 : WF 2 c2 b2 c2') : ∀ s ∈ allS b1 b2, okS s := by
  have hret : ∀ s ∈ [S.row R.ret], okS s := fun s h => by rw [List.mem_singleton.mp h]; exact trivial
  intro s hs
  rcases List.mem_append.mp hs with hs | hs
  · rcases List.mem_append.mp hs with hs | hs
    · rcases List.mem_append.mp hs with hs | hs
      · exact ok_lines (wf_main w2) s hs
      · rcases List.mem_cons.mp hs with e | hs
        · subst e; exact trivial
        rcases List.mem_cons.mp hs with e | hs
        · subst e; exact trivial
        rcases List.mem_cons.mp hs with e | hs
        · subst e; exact trivial
        rcases List.mem_cons.mp hs with e | hs
        · subst e; exact .inr ⟨"B", "A", rfl⟩
        · rw [List.mem_singleton.mp hs]; exact trivial
    · exact (List.mem_append.mp hs).elim (ok_lines wf_sub s) (hret s)
  · exact (List.mem_append.mp hs).elim (ok_lines w1 s) (hret s)

theorem seq_ret {a b : SF} {m m1 : Ms} {σ σ1 : St} {v : V} (h : SRuns a m σ (.ret v) m1 σ1) : SRuns (sSeq a b) m σ (.ret v) m1 σ1 := fun P hp => h (fun x m σ => match x with
  | .next => b m σ P
  | .ret v => P (.ret v) m σ) hp
theorem names0 : ∀ {b : B} ⦃c c' : Int⦄, WF 0 c b c' → names b = []
  | .nil => by
    intro _ _ _
    exact rfl
  | .sm _ r => by
    intro _ _ z0_
    obtain ⟨_, w⟩ := z0_
    exact names0 (b := r) w
  | .loop _ _ _ _ _ _ => by
    intro _ _ z0_
    obtain ⟨h, _⟩ := z0_
    exact absurd h.hd.1 (by decide)
  | .whil _ _ _ _ => by
    intro _ _ z0_
    obtain ⟨h, _⟩ := z0_
    exact absurd h.hd.1 (by decide)
theorem get_run {s0 s1 : En → En} {u : String} (hu : u ≠ "X") (h0 : ∀ e, getI u (s0 e).vs = getI u e.vs) (h1 : ∀ e, getI u (s1 e).vs = getI u e.vs) (b : B) (h : u ∉ names b) (e : En) : getI u (runB s0 s1 b e).vs = getI u e.vs :=
  run_inv (P := fun e' => getI u e'.vs = getI u e.vs) (runSm_inv (fun _ _ q => q) (fun k e' q => (getI_setI ..).trans ((if_neg (Ne.symm hu)).trans q)) (fun e' q => (h0 e').trans q) fun e' q => (h1 e').trans q) b (fun v hv y e' q => (getI_setI ..).trans ((if_neg fun z : v = u => h (z ▸ hv)).trans q)) e rfl
theorem sOf_get {b : B} {c c' : Int} (w : WF 0 c b c') {u : String} (hu : u ≠ "X") (e : En) : getI u (sOf b e).vs = getI u e.vs := get_run hu (fun _ => rfl) (fun _ => rfl) b (by rw [names0 w]; exact List.not_mem_nil) e
theorem sOf_look {b : B} {c c' : Int} (w : WF 0 c b c') (u : String) (hu : u ≠ "X") (e : En) : look (sOf b e) u = look e u := congrArg (·.getD 0) (sOf_get w hu e)
noncomputable def Kept (e : En) : Prop := KN e ∧ e.hasX
theorem kept_setv (v : String) (y : Int) (e : En) (h : Kept e) : Kept (e.setv v y) := ⟨kn_setI h.1, hasX_setv h.2⟩
theorem kept_run {s0 s1 : En → En} (h0 : ∀ e, Kept e → Kept (s0 e)) (h1 : ∀ e, Kept e → Kept (s1 e)) (b : B) (e : En) (h : Kept e) : Kept (runB s0 s1 b e) :=
  run_inv (runSm_inv (fun _ _ q => q) (fun _ _ q => kept_setv _ _ _ q) h0 h1) b (fun v _ y e q => kept_setv v y e q) e h
theorem len_a (b2 : B) : (rowsB 0 (mainB b2) ++ rtail).length = t0L b2 := by rw [List.length_append, rowsB_len]; rfl
theorem len_b (b2 : B) : ((rowsB 0 (mainB b2) ++ rtail) ++ (rowsB (t0L b2) subB ++ [R.ret])).length = t1L b2 := by rw [List.length_append, len_a]; rfl
section
variable {X : Cx} {b1 b2 : B} {c c' cm : Int}
theorem call_ok (S : SimC X (sOf subB) (sOf b1) 8) (P0 : SubP X (sOf subB) 8 1000 (t0L b2) subB) (P1 : SubP X (sOf b1) 8 2000 (t1L b2) b1) (w1 : WF 0 c b1 c') : CallOk X (sOf subB) (sOf b1) 8 := by
  intro at_ e π a b ha hb hr hz he
  have r0 := sub_ (pc := at_ + 1) S P0 (run0 wf_sub) hz he
  have r1 := sub_ (pc := at_ + 1) S P1 (run0 w1) hz he
  have hz : π.length < 20 := Nat.lt_of_le_of_lt hz (by decide)
  rcases (by lia : b = 0 ∨ b = 1) with q | q <;> subst q
  · rw [if_neg (by decide)] at hr
    rw [show callRun (sOf subB) (sOf b1) a 0 e = _ from if_pos rfl]
    by_cases h2 : a % 2 = 0
    · rw [if_pos h2] at hr ⊢
      exact ((RL.one (st_gosub S.hX hr P0.p hz)).trans r0).mono (by decide)
    · rw [if_neg h2] at hr ⊢
      exact ((RL.one (st_gosub S.hX hr P1.p hz)).trans r1).mono (by decide)
  · rw [if_pos rfl] at hr
    rw [show callRun (sOf subB) (sOf b1) a 1 e = _ from if_neg (by decide)]
    by_cases h1 : a = 1
    · rw [if_pos h1]
      exact ((RL.one (st_ongo S.hX hr (.inl ⟨h1, P0.p⟩) hz)).trans r0).mono (by decide)
    · rw [if_neg h1]
      by_cases h2 : a = 2
      · rw [if_pos h2]
        exact ((RL.one (st_ongo S.hX hr (.inr ⟨h2, P1.p⟩) hz)).trans r1).mono (by decide)
      · rw [if_neg h2]
        exact (RL.one (st_ongo_out S.hX hr (by lia))).mono (by decide)
theorem all_run (hX : X.Ok) (hpl : X.pl = placesL 0 (srcL b1 b2) []) (hpr : X.pr = (gath 0 (rowsL 0 (allS b1 b2)) ⟨[], [], [], []⟩).pr) (hlp : X.lp = (gath 0 (rowsL 0 (allS b1 b2)) ⟨[], [], [], []⟩).lp) (hrs : X.rs = rowsL 0 (allS b1 b2)) (w1 : WF 0 c b1 c') (k1 : cnt b1 ≤ 2) (w2 : WF 2 0 b2 cm) (hT : T 8 (mainB b2) ≤ 2000) :
    RL X (T 8 (mainB b2) + 11) (0, env0, []) (len (mainB b2) + 4, abE (runB (sOf subB) (sOf b1) (mainB b2) env0), []) ∧ X.rs[len (mainB b2) + 4]? = some .end_ := by
  rw [rows_all] at hrs
  have hA : Seg X.rs 0 (((rowsB 0 (mainB b2) ++ rtail) ++ (rowsB (t0L b2) subB ++ [.ret])) ++ (rowsB (t1L b2) b1 ++ [.ret])) := ⟨[], [], by rw [List.append_nil]; exact hrs, rfl⟩
  have gt := hA.left.left.right
  have g0 := hA.left.right
  have g1 := hA.right
  rw [rowsB_len, Nat.zero_add] at gt
  rw [len_a, Nat.zero_add] at g0
  rw [len_b, Nat.zero_add] at g1
  have pl := places_ok b1 b2
  have k0 : cnt subB ≤ 2 := Nat.le_refl 2
  have S : SimC X (sOf subB) (sOf b1) 8 := ⟨hX, sOf_sz wf_sub k0, sOf_sz w1 k1, sOf_look wf_sub, sOf_look w1⟩
  have P0 : SubP X (sOf subB) 8 1000 (t0L b2) subB := ⟨hpl ▸ pl.1, g0, ⟨0, 0, wf_sub⟩, lp0 wf_sub, T8 wf_sub k0⟩
  have P1 : SubP X (sOf b1) 8 2000 (t1L b2) b1 := ⟨hpl ▸ pl.2, g1, ⟨c, c', w1⟩, lp0 w1, T8 w1 k1⟩
  have wm := wf_main w2
  have z0 : env0.sz = 1 := rfl
  have r1 := sim S (mainB b2) 2 0 cm 0 env0 [] (fun _ => call_ok S P0 P1 w1) wm hA.left.left.left (by rw [hpr, hlp]; exact gath_all b1 b2) (fun _ => ⟨fun x h => (by cases h), fun a h => (by cases h), fun v _ x h => (by cases h)⟩) (by decide) (by lia)
  have hz := run_sz S.z0 S.z1 wm env0
  rw [Nat.zero_add] at r1
  exact ⟨r1.trans (ab_run hX gt.head gt.tail.head gt.tail.tail.head gt.tail.tail.tail.head (by lia)), gt.tail.tail.tail.tail.head⟩
end
noncomputable def lawSF (sa : Nat) (ns : List Int) : SF := sSeq (law_1 sa ns) (sSeq law_2 (sSeq law_3 (sSeq law_4 (sSeq law_5 (sSeq law_6 (sSeq law_7 (sSeq law_8 (sSeq law_9 (sSeq law_10 (sSeq law_11 (sSeq law_12 (sSeq law_13 (sSeq law_14 sNil)))))))))))))
theorem law_true {sa : Nat} {ns : List Int} (hn : ns.length ≤ 1000000) : ∃ m σ, SRuns (lawSF sa ns) [some (.fn sa), none, none, none, none, none, none, none, none, none, none, none] [] (.ret (.bool true)) m σ := by
  refine law1_ (sa := sa) hn fun bx ct σ1 r1 hB hne => law2_ (sa := sa) (x := {}) hne hB fun su b1 σ2 r2 hB2 hS => law3_ (sa := sa) (x := {}) hne hB2.refl ⟨hB.lb, get_lt hB.cv⟩ hS fun mn b2 σ3 r3 hA => ?_
  obtain ⟨hS, ⟨lm, hm, hb⟩, ⟨cm, w⟩, k⟩ := hA
  have wm := wf_main w
  have z2 : (linesB (mainB b2)).length ≤ 48 := Nat.le_trans (nl_le wm) (Nat.mul_le_mul_right 16 (Nat.succ_le_succ k))
  have tm : T 8 (mainB b2) ≤ 1842 := Nat.le_trans (T_le wm) (Nat.mul_le_mul_right 614 (Nat.succ_le_succ k))
  have zS : (mainS b2).length ≤ 53 := by unfold mainS; rw [List.length_append]; exact Nat.add_le_add_right z2 5
  have r4 : SRuns law_4 (lawM sa bx ct (some (.ref su)) (some (.ref mn)) none {}) σ3 .next (lawM sa bx ct (some (.ref su)) (some (.ref mn)) (some (.ref σ3.length)) {}) (σ3 ++ [O.list []]) := sruns_of [] fun P os hp => hp
  refine law5_ (sa := sa) (bx := bx) (ct := ct) (su := some (.ref su)) (x := {}) wm hm hb (Nat.le_trans z2 (by decide)) fun σ4 r5 h5 => ?_
  have r6 : SRuns law_6 (lawM sa bx ct (some (.ref su)) (some (.ref mn)) (some (.ref σ3.length)) {}) σ4 .next (lawM sa bx ct (some (.ref su)) (some (.ref mn)) (some (.ref σ3.length)) { a := some (.ref σ4.length) }) (σ4 ++ [O.list vBoth]) := sruns_of [] fun P os hp => hp
  refine law7_ (sa := sa) (bx := bx) (ct := ct) (su := some (.ref su)) (mn := some (.ref mn)) (x := {}) h5 (Nat.le_trans z2 (by decide)) fun x7 σ5 r7 h7 => ?_
  have hS' := hS
  obtain ⟨a0, a1, l0, l1, c1, c1', -, -, -, -, -, w1, k1⟩ := hS'
  have z1 : (linesB b1).length ≤ 2 := Nat.le_trans (nl_le w1) (Nat.le_trans (Nat.le_of_eq (Nat.mul_one _)) k1)
  refine law8_ (sa := sa) (bx := bx) (ct := ct) (mn := some (.ref mn)) (x := x7) h7 (Nat.le_trans zS (by decide)) hS (Nat.le_trans z1 (by decide)) fun x8 σ6 r8 h8 => ?_
  obtain ⟨L, v, il, len⟩ := h8
  have il : IsLines σ6 (σ3.length + 1) σ6.length (srcL b1 b2) L := by rw [← List.append_nil (srcL b1 b2)]; exact il
  have k6 : ∀ i, 0 ≤ i → i < σ3.length → σ6[i]? = σ3[i]? := fun i _ h => v.old i h
  have hlt : σ3.length < σ6.length := v.lt (k := 0) rfl
  have hle := Nat.le_of_lt hlt
  refine law9_11_ (sa := sa) (bx := bx) (ct := ct) (ln := some (.ref σ3.length)) (x := x8) (hS.mono (Nat.le_refl _) hle k6) (hm.mono (Nat.le_refl _) hle k6) (hb.mono (Nat.le_refl _) hle k6) wm (Nat.le_trans tm (by decide)) fun σ7 σ8 σ9 r9 r10 r11 v9 => ?_
  have hl9 : σ6.length ≤ σ9.length := v9.len
  have nS : (allS b1 b2).length ≤ 59 := by
    unfold allS; rw [List.length_append, List.length_append, List.length_append (as := linesB b1)]
    exact Nat.add_le_add (Nat.add_le_add_right zS 3) (Nat.add_le_add_right z1 1)
  have hok := ok_all w1 w
  refine law12_ (sa := sa) (bx := bx) (ct := ct) (su := some (.ref su)) (mn := some (.ref mn)) (x := { x8 with d := some (.ref σ6.length), e := some (.ref (σ6.length + 1)) }) (v9.get hlt (v.at_ 0 _ _ rfl)) (il.mono (Nat.zero_le _) hl9 fun i _ h => v9.old i h) (fun p hp => hok p.2 (src_map b1 b2 ▸ List.mem_map_of_mem hp)) (by rw [src_map]; exact Nat.le_trans (lenL_le _) (Nat.le_trans (Nat.mul_le_mul_left 5 nS) (by decide))) (by rw [← List.length_map (f := (·.2)), src_map]; exact Nat.le_trans nS (by decide)) fun D σ10 L10 σ11 r12 hX hM hold => ?_
  have hr := all_run hX rfl (by rw [← src_map]) (by rw [← src_map]) (by rw [← src_map]) w1 k1 w (Nat.le_trans tm (by decide))
  have hN := hX.hN
  have hN : σ9.length + 7 ≤ D := hN
  have hA := get_run (s0 := sOf subB) (s1 := sOf b1) (u := "A") (by decide) (sOf_get wf_sub (by decide)) (sOf_get w1 (by decide)) (mainB b2) (fun h => (name_ne wm h).2.2.1 rfl) env0
  have hBB := get_run (s0 := sOf subB) (s1 := sOf b1) (u := "B") (by decide) (sOf_get wf_sub (by decide)) (sOf_get w1 (by decide)) (mainB b2) (fun h => (name_ne wm h).2.2.2 rfl) env0
  have hk0 : Kept env0 := ⟨List.nodup_cons.mpr ⟨List.not_mem_nil, List.nodup_nil⟩, rfl⟩
  have hK := kept_run (kept_run (fun _ q => q) (fun _ q => q) subB) (kept_run (fun _ q => q) (fun _ q => q) b1) (mainB b2) env0 hk0
  obtain ⟨q1, q2, q3⟩ := ab_env hA hBB
  have hF := kept_setv "B" 3 _ (kept_setv "A" 3 _ hK)
  refine law13_ (sa := sa) (bx := bx) (ct := ct) (su := some (.ref su)) (mn := some (.ref mn)) (ln := some (.ref σ3.length)) (x := { x8 with d := some (.ref σ6.length), e := some (.ref (σ6.length + 1)) }) hX hr.2 hr.1 (by lia) hM fun ip σ12 r13 hM2 => ?_
  obtain ⟨σ13, r14⟩ := law14_ (sa := sa) (bx := bx) (ct := ct) (su := some (.ref su)) (mn := some (.ref mn)) (ln := some (.ref σ3.length)) (x := x8) (vi := σ6.length) (ni := σ6.length + 1) (e2 := finE (runB (sOf subB) (sOf b1) (mainB b2) env0)) hM2 (show σ6.length < D by lia) (show σ6.length + 1 < D by lia) ((hold _ (v9.lt (k := 0) rfl)).trans (v9.at_ 0 _ _ rfl)) ((hold _ (v9.lt (k := 1) rfl)).trans (v9.at_ 1 _ _ rfl)) q1 (by rw [q2, q3]; rfl) hF.1 hF.2
  exact ⟨_, _, seq_r r1 (seq_r r2 (seq_r r3 (seq_r r4 (seq_r r5 (seq_r r6 (seq_r r7 (seq_r r8 (seq_r r9 (seq_r r10 (seq_r r11 (seq_r r12 (seq_r r13 (seq_ret r14)))))))))))))⟩
end Mine.E
set_option maxHeartbeats 8000000
namespace Mine.E
section
variable {prog : Program} {w : World} {mg mb : Str → Option Value} {sa : Nat} {ns : List Int} {svs : List Value}
noncomputable def y_law (fa : Nat) (cd : Value) : Fx := { x_law with a := fa, cd := cd, fn := some fa }
theorem oy_law (fa : Nat) (cd : Value) : (y_law fa cd).Ok := ⟨o_law.kind, o_law.nd, o_law.loc⟩
theorem post_true (l : OpenLaw) (args ds : List WData) : l.row.claim.post args (.bool true) ds = true := by
  simp only [RowW.claim, OpenLaw.row]
  rw [Bool.and_eq_true]
  refine ⟨by simp [WShape.has, WShape.arms], holdsW_of_value (X := true) (w_eq_bool (k := true) (l := true) ?_ ?_)⟩
  · simp [WTm.value]
  · simp [WTm.value]
theorem room_law (e : PySem.Env) : Room (callerA.deeper e) 13 := ⟨rfl, by show 1 + 300 + 1 + 13 < 1000; lia, by show 4 + 3 + 8 * 13 + 100 < 9900; lia⟩
theorem join {p : Program} {loose : List Str} {mean : ExcName → Option Value} {s₁ : Shared} {h₁ : Heap} {mm : Str → Option Value} {fa : Nat} {cd : Value} {body : List Stmt} {A : Around} {tk : Nat} (KX : (hd.heap_1 w.params).In s₁.heap) (T : Top p loose mean mg mb s₁.heap) (hg : s₁.gens = #[]) (F : Fr s₁.heap s₁.heap.objs.size h₁ mm) (hm : mm (Str.ofString "script") = some (.ref sa)) (hsc : s₁.heap.IsList sa svs.toArray) (his : IntsAre svs ns) (hn : ns.length ≤ 1000000)
    (hB : Wd ⟨s₁.heap, 0, id⟩ (hd.heap_1 w.params) mg mb → (y_law fa cd).Ok → (⟨s₁.heap, 0, id⟩ : Base).h.IsList sa svs.toArray → IntsAre svs ns → SB prog w ⟨s₁.heap, 0, id⟩ (y_law fa cd) 13 body (lawSF sa ns)) (rm : Room A 13) :
    wpAny (model prog w) A (execs body (envOf (Str.ofString "law") x_law.sc s₁.heap.objs.size fa cd)) (fun u s' => u = .ret (.bool true) ∧ (∀ b o, s₁.heap.get? b = some o → s'.heap.get? b = some o) ∧ s'.os = s₁.os ∧ s'.gens = #[]) noE { heap := h₁, gens := s₁.gens, drawn := s₁.drawn, toks := tk, os := s₁.os } := by
  have W : Wd ⟨s₁.heap, 0, id⟩ (hd.heap_1 w.params) mg mb := ⟨KX, T.g, T.b, T.nolimit, T.builtins⟩
  obtain ⟨m', σ', e⟩ := law_true (sa := sa) hn
  have hnone : ∀ b o, s₁.heap.get? b = some o → b ≠ s₁.heap.objs.size := fun b o h => Nat.ne_of_lt (Heap.lt_size h)
  have a : At prog w ⟨s₁.heap, 0, id⟩ (y_law fa cd).nm s₁.heap.objs.size id [] [some (.fn sa), none, none, none, none, none, none, none, none, none, none, none] h₁ := by
    refine ⟨rfl, ⟨mm, fr0 F.ns, fun k x v hx hv => ?_⟩, F.keep, ?_, fun i j hi => absurd hi (Nat.not_lt_zero _), fun i hi => absurd hi (Nat.not_lt_zero _), fun i hi => absurd hi (Nat.not_lt_zero _), modules_low T.nolimit, fun i hi => absurd hi (Nat.not_lt_zero _), ⟨Nat.le_refl _, fun i hi => absurd hi (Nat.not_lt_zero _)⟩, fun i o h => by cases h⟩
    · have hk : k = 0 := by
        rcases Nat.eq_zero_or_pos k with q | q
        · exact q
        · obtain ⟨k, rfl⟩ : ∃ j, k = j + 1 := ⟨k - 1, by lia⟩
          rw [List.getElem?_cons_succ] at hv
          have := List.mem_of_getElem? hv
          simp at this
      subst hk
      have hx : x = Str.ofString "script" := by
        have : some (Str.ofString "script") = some x := hx
        exact (Option.some.inj this).symm
      have hv : V.fn sa = v := by
        have : some (some (V.fn sa)) = some (some v) := hv
        exact Option.some.inj (Option.some.inj this)
      subst hx; subst hv
      exact ⟨_, hm, rfl⟩
    · cases q : s₁.heap.get? s₁.heap.objs.size with
      | none => rfl
      | some o => exact absurd rfl (hnone _ _ q)
  refine hB W (oy_law fa cd) hsc his A s₁.heap.objs.size id [] _ { heap := h₁, gens := s₁.gens, drawn := s₁.drawn, toks := tk, os := s₁.os } (fun x _ _ _ => x = .ret (.bool true)) _ rm a (e _ ⟨[], rfl⟩) fun x m2 σ2 f' u s' ⟨_, hx⟩ nx r => ?_
  subst hx
  obtain ⟨y, rfl, r⟩ := r
  have r : y = .bool true := r
  subst r
  exact ⟨rfl, fun b o hb => nx.d.keep b o (F.keep b o hb) (fun i hi => absurd hi (Nat.not_lt_zero _)) (hnone b o hb), nx.d.os, nx.d.gens.trans hg⟩
end
end Mine.E
set_option maxHeartbeats 2000000
namespace Mine.E
theorem t : PySem.Challenge.rw_pc0009_01.Holds := hd (by
  k_go0
  refine wpAny_mono (join ‹(hd.heap_1 _).In _› ‹Top _ _ _ _ _ _› ‹_ = #[]› ‹Fr _ _ _ _› rfl ‹Heap.IsList _ _ _› ‹IntsAre _ _› (by omega) (fun W ok hsc his => ?_) (room_law _)) (fun u s' h => ?_) (fun _ _ e => e.elim)
  · unfold lawSF
    refine sb_cons ?_ ?_
    · refine ss_asgR (ks := [1, 2]) (names := [Str.ofString "box", Str.ofString "count"]) ok ?_ (by rfl) (by intro _; rfl) (by intro _; rfl)
      refine se_tup ?_
      refine sl_cons ?_ ?_ ?_
      · refine se_list ?_
        refine sl_cons ?_ ?_ ?_
        · refine se_call W ok (by rfl) (by k_is) (by k_is) (plain_of (by rfl)) ?_ ((s_all W hsc his).le (by omega))
          refine sl_cons ?_ ?_ ?_
          · exact se_loc ok (by rfl)
          · exact sl_nil
          exact rfl
        · refine sl_cons ?_ ?_ ?_
          · exact se_int
          · exact sl_nil
          exact rfl
        exact rfl
      · refine sl_cons ?_ ?_ ?_
        · refine se_list ?_
          refine sl_cons ?_ ?_ ?_
          · exact se_int
          · exact sl_nil
          exact rfl
        · exact sl_nil
        exact rfl
      exact rfl
    refine sb_cons ?_ ?_
    · refine ss_asg ?_ ?_ ?_ ?_ ?_
      · refine se_list ?_
        refine sl_cons ?_ ?_ ?_
        · refine se_list ?_
          refine sl_cons ?_ ?_ ?_
          · refine se_tup ?_
            refine sl_cons ?_ ?_ ?_
            · exact se_str
            · refine sl_cons ?_ ?_ ?_
              · exact se_int
              · exact sl_nil
              exact rfl
            exact rfl
          · refine sl_cons ?_ ?_ ?_
            · refine se_tup ?_
              refine sl_cons ?_ ?_ ?_
              · exact se_str
              · refine sl_cons ?_ ?_ ?_
                · exact se_int
                · exact sl_nil
                exact rfl
              exact rfl
            · exact sl_nil
            exact rfl
          exact rfl
        · refine sl_cons ?_ ?_ ?_
          · refine se_call W ok (by rfl) (by k_is) (by k_is) (plain_of (by rfl)) ?_ ((s_block W 4).le (by omega))
            refine sl_cons ?_ ?_ ?_
            · exact se_loc ok (by rfl)
            · refine sl_cons ?_ ?_ ?_
              · exact se_int
              · refine sl_cons ?_ ?_ ?_
                · exact se_loc ok (by rfl)
                · exact sl_nil
                exact rfl
              exact rfl
            exact rfl
          · exact sl_nil
          exact rfl
        exact rfl
      · exact (sg_name ok (by rfl))
      · intro _; rfl
      · intro _; rfl
      · intro _ _ h; cases h
    refine sb_cons ?_ ?_
    · refine ss_asg ?_ ?_ ?_ ?_ ?_
      · refine se_bin ?_ ?_ ?_
        · refine se_list ?_
          refine sl_cons ?_ ?_ ?_
          · refine se_tup ?_
            refine sl_cons ?_ ?_ ?_
            · exact se_str
            · refine sl_cons ?_ ?_ ?_
              · exact se_str
              · refine sl_cons ?_ ?_ ?_
                · exact se_int
                · refine sl_cons ?_ ?_ ?_
                  · exact se_int
                  · refine sl_cons ?_ ?_ ?_
                    · exact se_int
                    · refine sl_cons ?_ ?_ ?_
                      · refine se_list ?_
                        refine sl_cons ?_ ?_ ?_
                        · refine se_tup ?_
                          refine sl_cons ?_ ?_ ?_
                          · exact se_str
                          · refine sl_cons ?_ ?_ ?_
                            · exact se_int
                            · exact sl_nil
                            exact rfl
                          exact rfl
                        · exact sl_nil
                        exact rfl
                      · exact sl_nil
                      exact rfl
                    exact rfl
                  exact rfl
                exact rfl
              exact rfl
            exact rfl
          · exact sl_nil
          exact rfl
        · refine se_call W ok (by rfl) (by k_is) (by k_is) (plain_of (by rfl)) ?_ ((s_block W 4).le (by omega))
          refine sl_cons ?_ ?_ ?_
          · exact se_loc ok (by rfl)
          · refine sl_cons ?_ ?_ ?_
            · exact se_int
            · refine sl_cons ?_ ?_ ?_
              · exact se_loc ok (by rfl)
              · exact sl_nil
              exact rfl
            exact rfl
          exact rfl
        exact ok_add
      · exact (sg_name ok (by rfl))
      · intro _; rfl
      · intro _; rfl
      · intro _ _ h; cases h
    refine sb_cons ?_ ?_
    · refine ss_asg ?_ ?_ (by intro _; rfl) (by intro _; rfl) (by intro _ _ h; cases h)
      · exact (se_list sl_nil)
      · exact (sg_name ok (by rfl))
    refine sb_cons ?_ ?_
    · refine ss_expr ?_ (by intro _; rfl)
      exact (se_call W ok (by rfl) (by k_is) (by k_is) (plain_of (by rfl)) (sl_cons (se_loc ok (by rfl)) (sl_cons (se_loc ok (by rfl)) (sl_cons se_int sl_nil))) ((s_lines W 6).le (by omega)))
    refine sb_cons ?_ ?_
    · refine ss_asg ?_ ?_ ?_ ?_ ?_
      · refine se_list ?_
        refine sl_cons ?_ ?_ ?_
        · refine se_tup ?_
          refine sl_cons ?_ ?_ ?_
          · exact se_str
          · refine sl_cons ?_ ?_ ?_
            · exact se_str
            · refine sl_cons ?_ ?_ ?_
              · refine se_tup ?_
                refine sl_cons ?_ ?_ ?_
                · exact se_str
                · refine sl_cons ?_ ?_ ?_
                  · exact se_int
                  · exact sl_nil
                  exact rfl
                exact rfl
              · refine sl_cons ?_ ?_ ?_
                · refine se_tup ?_
                  refine sl_cons ?_ ?_ ?_
                  · exact se_str
                  · refine sl_cons ?_ ?_ ?_
                    · exact se_int
                    · exact sl_nil
                    exact rfl
                  exact rfl
                · refine sl_cons ?_ ?_ ?_
                  · exact se_none
                  · exact sl_nil
                  exact rfl
                exact rfl
              exact rfl
            exact rfl
          exact rfl
        · refine sl_cons ?_ ?_ ?_
          · refine se_tup ?_
            refine sl_cons ?_ ?_ ?_
            · exact se_str
            · refine sl_cons ?_ ?_ ?_
              · exact se_str
              · refine sl_cons ?_ ?_ ?_
                · refine se_tup ?_
                  refine sl_cons ?_ ?_ ?_
                  · exact se_str
                  · refine sl_cons ?_ ?_ ?_
                    · exact se_int
                    · exact sl_nil
                    exact rfl
                  exact rfl
                · refine sl_cons ?_ ?_ ?_
                  · refine se_tup ?_
                    refine sl_cons ?_ ?_ ?_
                    · exact se_str
                    · refine sl_cons ?_ ?_ ?_
                      · exact se_int
                      · exact sl_nil
                      exact rfl
                    exact rfl
                  · refine sl_cons ?_ ?_ ?_
                    · exact se_none
                    · exact sl_nil
                    exact rfl
                  exact rfl
                exact rfl
              exact rfl
            exact rfl
          · exact sl_nil
          exact rfl
        exact rfl
      · exact (sg_name ok (by rfl))
      · intro _; rfl
      · intro _; rfl
      · intro _ _ h; cases h
    refine sb_cons ?_ ?_
    · refine ss_for ?_ ?_ ?_ (by intro _ _; rfl)
      · refine si_val .name ?_
        refine se_bin ?_ ?_ ?_
        · exact se_loc ok (by rfl)
        · refine se_list ?_
          refine sl_cons ?_ ?_ ?_
          · refine se_tup ?_
            refine sl_cons ?_ ?_ ?_
            · exact se_str
            · refine sl_cons ?_ ?_ ?_
              · exact se_str
              · exact sl_nil
              exact rfl
            exact rfl
          · refine sl_cons ?_ ?_ ?_
            · refine se_tup ?_
              refine sl_cons ?_ ?_ ?_
              · exact se_str
              · refine sl_cons ?_ ?_ ?_
                · refine se_list ?_
                  refine sl_cons ?_ ?_ ?_
                  · exact se_str
                  · refine sl_cons ?_ ?_ ?_
                    · exact se_str
                    · exact sl_nil
                    exact rfl
                  exact rfl
                · exact sl_nil
                exact rfl
              exact rfl
            · refine sl_cons ?_ ?_ ?_
              · refine se_tup ?_
                refine sl_cons ?_ ?_ ?_
                · exact se_str
                · exact sl_nil
                exact rfl
              · exact sl_nil
              exact rfl
            exact rfl
          exact rfl
        exact ok_add
      · exact (sg_name ok (by rfl))
      · refine sb_cons ?_ ?_
        · refine ss_expr ?_ (by intro _; rfl)
          exact (se_call W ok (by rfl) (by k_is) (by k_is) (plain_of (by rfl)) (sl_cons (se_loc ok (by rfl)) (sl_cons se_int (sl_cons (se_loc ok (by rfl)) sl_nil))) ((s_put W).le (by omega)))
        exact sb_nil
    refine sb_cons ?_ ?_
    · refine ss_for ?_ ?_ ?_ (by intro _ _; rfl)
      · exact (si_rng1 W ok (by rfl) (by k_is) (by decide +kernel) (plain_of (by rfl)) (sl_cons se_int sl_nil))
      · exact (sg_name ok (by rfl))
      · refine sb_cons ?_ ?_
        · refine ss_expr ?_ (by intro _; rfl)
          exact (se_call W ok (by rfl) (by k_is) (by k_is) (plain_of (by rfl)) (sl_cons (se_idx (se_loc ok (by rfl)) (se_loc ok (by rfl))) (sl_cons (se_loc ok (by rfl)) (sl_cons (se_bin se_int (se_bin (se_loc ok (by rfl)) se_int ok_add) ok_mul) sl_nil))) ((s_lines W 6).le (by omega)))
        refine sb_cons ?_ ?_
        · refine ss_expr ?_ (by intro _; rfl)
          exact (se_call W ok (by rfl) (by k_is) (by k_is) (plain_of (by rfl)) (sl_cons (se_loc ok (by rfl)) (sl_cons (se_bin se_int (se_bin (se_loc ok (by rfl)) se_int ok_add) ok_mul) (sl_cons (se_tup (sl_cons se_str (sl_cons se_none sl_nil))) sl_nil))) ((s_put W).le (by omega)))
        exact sb_nil
    refine sb_cons ?_ ?_
    · refine ss_asgR (ks := [9, 10]) (names := [Str.ofString "values", Str.ofString "notes"]) ok ?_ (by rfl) (by intro _; rfl) (by intro _; rfl)
      exact (se_tup (sl_cons se_dict1 (sl_cons (se_list sl_nil) sl_nil)))
    refine sb_cons ?_ ?_
    · refine ss_expr ?_ (by intro _; rfl)
      exact (se_call W ok (by rfl) (by k_is) (by k_is) (plain_of (by rfl)) (sl_cons (se_loc ok (by rfl)) (sl_cons (se_loc ok (by rfl)) (sl_cons (se_loc ok (by rfl)) (sl_cons (se_loc ok (by rfl)) sl_nil)))) ((s_go W 12).le (by omega)))
    refine sb_cons ?_ ?_
    · refine ss_asg ?_ ?_ (by intro _; rfl) (by intro _; rfl) (by intro _ _ h; cases h)
      · exact (se_tup (sl_cons se_int (sl_cons se_int sl_nil)))
      · exact (sg_tup (.cons (sg_sub W.nolimit (se_loc ok (by rfl)) se_str) (.cons (sg_sub W.nolimit (se_loc ok (by rfl)) se_str) .nil)) (plain_of (by rfl)))
    refine sb_cons ?_ ?_
    · refine ss_asg ?_ ?_ (by intro _; rfl) (by intro _; rfl) (by intro _ _ h; cases h)
      · exact (se_new W ok (by rfl) (by k_is) (by k_is) (by k_is) (by k_is) (by k_is) (plain_of (by rfl)) (sl_cons (se_call W ok (by rfl) (by k_is) (by k_is) (plain_of (by rfl)) (sl_cons (se_loc ok (by rfl)) sl_nil) ((s_flatten W).le (by omega))) (sl_cons se_dict1 (sl_cons (se_glob W ok (by rfl) (by k_is) (fun _ _ _ _ => rfl)) (sl_cons se_int (sl_cons se_int sl_nil))))) ((s_FlowRun_init W).le (by omega)))
      · exact (sg_name ok (by rfl))
    refine sb_cons ?_ ?_
    · refine ss_if ?_ ?_ ?_
      · exact (st_cmp (se_meth W cls_FlowRun (by k_is) (by k_is) (by k_is) (se_loc ok (by rfl)) (plain_of (by rfl)) (sl_cons se_int (sl_cons se_int sl_nil)) ((s_run_go W).le (by omega))) (se_bltin W ok (by rfl) (by k_is) (by decide +kernel) (by decide) (plain_of (by rfl)) (sl_cons (se_attr W.x cls_Flat (by k_is) (se_attr W.x cls_FlowRun (by k_is) (se_loc ok (by rfl)))) sl_nil) ok_len) cmp_ne)
      · refine sb_cons ?_ ?_
        · refine ss_ret ?_
          exact se_bool
        exact sb_nil
      · exact sb_nil
    refine sb_cons ?_ ?_
    · refine ss_ret ?_
      exact (se_and (se_cmp (se_attr W.x cls_FlowRun (by k_is) (se_loc ok (by rfl))) (se_bin (se_loc ok (by rfl)) (se_bin (se_list (sl_cons (se_tup (sl_cons se_str (sl_cons (se_idx (se_loc ok (by rfl)) se_str) sl_nil))) sl_nil)) se_int ok_mul) ok_add) (cmp_eq W.nolimit)) (se_cmp (se_attr W.x cls_FlowRun (by k_is) (se_loc ok (by rfl))) (se_loc ok (by rfl)) (cmp_eq W.nolimit)))
    exact sb_nil
  · obtain ⟨e, h1, h2, h3⟩ := h
    subst e
    exact ⟨.inl ⟨_, _, _, rfl, fun _ => rfl, .bool true, post_true _ _ _, fun _ => ⟨List.nodup_nil, fun _ h => by cases h⟩⟩, h1, h2, h3⟩)
end Mine.E
theorem PySem.Challenge.cw_pc0009_01_holds : PySem.Challenge.rw_pc0009_01.Holds :=
  Mine.E.t
