import PyProof.Rows.All
import Wide.All
import OpenK.AllK
import Wide.FinOn
import Lean
import PySem.Challenge.RW_pc0173_01
set_option Elab.async false
set_option maxRecDepth 100000
set_option linter.unusedVariables false
set_option genInjectivity false
set_option genSizeOfSpec false
set_option tactic.hygienic false
open PySem PySem.W
namespace Mine
section
open PyProof.Rows
theorem nLT {a b c : Nat} (h : a <= b) (k : b <= c) : a <= c := Nat.le_trans h k
theorem wBD {α β : Type} {M : Model} {A : Around} {E : Value -> Shared -> Prop} {s : Shared} {m : Sem α} {f : α -> Sem β} {Q : β -> Shared -> Prop} (h : wpAny M A m (λ a s' => wpAny M A (f a) Q E s') E s) : wpAny M A (m >>= f) Q E s := wpAny_bind h
theorem sIJ {α : Type _} {a b : α} (h : some a = some b) : a = b := Option.some.inj h
theorem mCM {α : Type _} {a b : α} {l : List α} (h : a ∈ b :: l) : a = b \/ a ∈ l := List.mem_cons.mp h
end
section
open PyProof.Rows
set_option tactic.hygienic true
noncomputable def qp (tb : String -> Option Builtin) (p : Program) (w : World) (n₀ : Nat) (ann : Option Value) : Nat -> SharedT -> Thread -> Option SharedT
 | 0, _, _ => none
 | n + 1, s, t => match through t with
  | true => some s
  | false => match stepOk n₀ ann t with
   | false => none
   | true => match stepT (denote tb) p w s t with
    | some (s', t') => qp tb p w n₀ ann n s' t'
    | none => none
theorem kE {tb : String -> Option Builtin} {p : Program} {w : World} {n₀ : Nat} {ann : Option Value} : ∀ {n : Nat} {s s' : SharedT} {t : Thread}, qp tb p w n₀ ann n s t = some s' -> topRun tb p w n₀ ann n s.abs t = some s'.abs
 | 0, _, _, _, h => by cases h
 | n + 1, s, s', t, h => by
  unfold qp at h
  unfold topRun
  cases ht : through t with
  | true => rw [ht] at h; cases h; rfl
  | false =>
   rw [ht] at h
   cases hk : stepOk n₀ ann t with
   | false => rw [hk] at h; cases h
   | true =>
    rw [hk] at h
    cases hs : stepT (denote tb) p w s t with
    | none => rw [hs] at h; cases h
    | some r => obtain ⟨s₂, t₂⟩ := r; rw [hs] at h; rw [stepT_spec hs]; exact kE h
noncomputable def zaO (P : Params) : BT := ((boot_heap P).objs.toList.foldl (λ (t : BT × Nat) o => (t.1.ins t.2 o, t.2 + 1)) (.nil, 0)).1
theorem zaP (P : Params) : absHeap (zaO P) 11 {} = boot_heap P := by kernel_rfl
theorem aj (P : Params) : ((boot_heap P).isNs mainGlobals, (boot_heap P).objs.size, (boot_heap P).nsMap mainGlobals "__annotations__") = (true, 11, some (.ref 6)) := by kernel_rfl
theorem zaQ {p : Program} {N : Nat} {β : Type} {F : Shared -> β} {r : World -> β} (e : opening p = plainProg p.main.scope.names) (hN : Nat.ble 600 N = true) (f : ∀ s, fenceModules? p s = some s)
  (h : ∀ (w : World) (os : OsState), (qp treeTable p w 11 (some (.ref 6)) N ⟨zaO w.params, 11, {}, Array.mk [], boot_drawn, boot_toks, os⟩ (topStub p)).map (λ s => (staticsOk (importedModules p.main.body) (boot_heap w.params) s.abs.heap && namesBound p s.abs.heap && gensDone s.abs && laidKept (boot_heap w.params) s.abs.heap, F s.abs)) = some (true, r w)) : ∀ w, (openEnds treeTable p w N).map F = some (r w) := λ w => by
 obtain ⟨⟨hp, gs, d, k, os⟩, e1, e2⟩ := Option.map_eq_some_iff.mp (boot_open e hN f w)
 obtain ⟨rfl, rfl, rfl, rfl⟩ : hp = boot_heap w.params /\ gs = Array.mk [] /\ d = boot_drawn /\ k = boot_toks := by simpa using e2
 obtain ⟨s, e3, e4⟩ := Option.map_eq_some_iff.mp (h w os)
 have e5 := kE e3
 obtain ⟨b1, b2, b3⟩ : _ /\ _ /\ _ := by simpa only [Prod.mk.injEq] using aj w.params
 obtain ⟨c1, c2⟩ : _ /\ _ := by simpa only [Prod.mk.injEq] using e4
 have e6 : (⟨zaO w.params, 11, {}, Array.mk [], boot_drawn, boot_toks, os⟩ : SharedT).abs = ⟨boot_heap w.params, Array.mk [], boot_drawn, boot_toks, os⟩ := by
  show Shared.mk (absHeap (zaO w.params) 11 {}) _ _ _ _ = _
  rw [zaP]
 rw [e6] at e5
 unfold openEnds
 rw [e1]
 show (topFrom treeTable p w N _).map F = _
 unfold topFrom
 dsimp only
 rw [b1, b2, b3, e5]
 show Option.map F (match staticsOk (importedModules p.main.body) (boot_heap w.params) s.abs.heap && namesBound p s.abs.heap && gensDone s.abs && laidKept (boot_heap w.params) s.abs.heap with | true => some s.abs | false => none) = _
 rw [c1]
 exact congrArg some c2
noncomputable def lp : Program := PySem.Challenge.rw_pc0173_01.row.prog
noncomputable def vw : Program := view lp [0, 2, 3, 4, 5, 6, 7, 9, 10, 11, 12, 13, 14, 15, 16, 17, 18, 19, 21, 22, 23, 24, 25, 26, 27, 28, 29, 30, 31, 32, 33, 34, 35, 36, 37, 38, 39, 40, 41, 42, 43, 44, 45, 46, 47, 48, 49, 50, 51, 52, 53, 54, 55, 56, 57, 58, 59, 60, 61, 62, 63, 64, 65, 67, 68, 69, 70, 71, 72, 73, 74, 75, 76, 77, 78, 79, 80, 81]
noncomputable def ls : List Str := ["is_blank_values", "RESERVED", "OTHER_TEXTS", "is_blank_lexer", "_law_pieces"]
noncomputable def dh (w : World) (os : OsState) : Option SharedT := qp treeTable lp w 11 (some (.ref 6)) 7418 ⟨zaO w.params, 11, {}, Array.mk [], boot_drawn, boot_toks, os⟩ (topStub lp)
theorem said : OpenLaw.wellSaid PySem.Challenge.rw_pc0173_01 = true := by kernel_rfl
theorem l1 (w : World) (os : OsState) : (dh w os).map (λ s => (staticsOk (importedModules lp.main.body) (boot_heap w.params) s.abs.heap && namesBound lp s.abs.heap && gensDone s.abs && laidKept (boot_heap w.params) s.abs.heap, seen ((recsOf vw).map (·.name)) (ownsOf vw) [] { s.abs with gens := #[] }, s.abs.heap.bltView)) = some (true, expectedOf vw, bltViewBooted) := by kernel_rfl
theorem l2 (w : World) (os : OsState) : (dh w os).map (λ s => s.abs.heap.keysOk (looseW vw ls) ((recsOf vw).map (·.name)) ((litsOf vw).map (·.1)) ((clssOf vw (looseW vw ls)).map (·.name)) && s.abs.heap.accountedOkI (importedModules lp.main.body) && s.abs.heap.isNs mainGlobals && s.abs.heap.isNs builtinsNs) = some true := by kernel_rfl
theorem l5 (w : World) (os : OsState) : (dh w os).map (λ s => (tablesOk vw s.abs.heap && (xlAt vw [] s.abs && recOk PySem.Challenge.rw_pc0173_01.row.records s.abs) && (if true then s.abs.gens.size == 0 else !leftWithCleanup s.abs.gens), tabsOk vw s.abs)) = some (true, true) := by kernel_rfl
theorem l3 (w : World) (os : OsState) : (dh w os).map (λ s => pinSeenD vw (drecsOf vw) s.abs) = some (pinGoodD (drecsOf vw)) := by kernel_rfl
theorem l6 (w : World) (os : OsState) : (dh w os).map (λ s => plainSeenE vw (looseW vw ls) s.abs) = some (plainGoodE vw (looseW vw ls)) := by kernel_rfl
theorem l4 (w : World) (os : OsState) : (dh w os).map (λ s => (plainSeenD vw ls s.abs, wideSeen vw s.abs, clsSeenW vw ls s.abs)) = some (plainGoodD vw ls, wideGood vw, clsGoodW vw ls) := by kernel_rfl
end
section
open PyProof.Rows
theorem zlO {P G : Prop} (h : P) (f : P -> G) : G := f h
theorem zlP {t0 : Sort _} {P : t0 -> Prop} {G : Prop} (h : ∃ x, P x) (f : ∀ x, P x -> G) : G := h.elim f
theorem zlQ {t0 : Sort _} {t1 : Sort _} {P : t0 -> t1 -> Prop} {G : Prop} (h : ∃ x0 x1, P x0 x1) (f : ∀ x0 x1, P x0 x1 -> G) : G := h.elim λ x0 h => h.elim λ x1 h => f x0 x1 h
theorem zlR {t0 : Sort _} {t1 : Sort _} {t2 : Sort _} {P : t0 -> t1 -> t2 -> Prop} {G : Prop} (h : ∃ x0 x1 x2, P x0 x1 x2) (f : ∀ x0 x1 x2, P x0 x1 x2 -> G) : G := h.elim λ x0 h => h.elim λ x1 h => h.elim λ x2 h => f x0 x1 x2 h
theorem zlS {t0 : Sort _} {t1 : Sort _} {t2 : Sort _} {t3 : Sort _} {P : t0 -> t1 -> t2 -> t3 -> Prop} {G : Prop} (h : ∃ x0 x1 x2 x3, P x0 x1 x2 x3) (f : ∀ x0 x1 x2 x3, P x0 x1 x2 x3 -> G) : G := h.elim λ x0 h => h.elim λ x1 h => h.elim λ x2 h => h.elim λ x3 h => f x0 x1 x2 x3 h
theorem zlT {t0 : Sort _} {t1 : Sort _} {t2 : Sort _} {t3 : Sort _} {t4 : Sort _} {P : t0 -> t1 -> t2 -> t3 -> t4 -> Prop} {G : Prop} (h : ∃ x0 x1 x2 x3 x4, P x0 x1 x2 x3 x4) (f : ∀ x0 x1 x2 x3 x4, P x0 x1 x2 x3 x4 -> G) : G := h.elim λ x0 h => h.elim λ x1 h => h.elim λ x2 h => h.elim λ x3 h => h.elim λ x4 h => f x0 x1 x2 x3 x4 h
theorem zkv {t0 : Sort _} {t1 : Sort _} {t2 : Sort _} {t3 : Sort _} {t4 : Sort _} {t5 : Sort _} {P : t0 -> t1 -> t2 -> t3 -> t4 -> t5 -> Prop} {G : Prop} (h : ∃ x0 x1 x2 x3 x4 x5, P x0 x1 x2 x3 x4 x5) (f : ∀ x0 x1 x2 x3 x4 x5, P x0 x1 x2 x3 x4 x5 -> G) : G := h.elim λ x0 h => h.elim λ x1 h => h.elim λ x2 h => h.elim λ x3 h => h.elim λ x4 h => h.elim λ x5 h => f x0 x1 x2 x3 x4 x5 h
theorem zlU {t0 : Sort _} {t1 : Sort _} {t2 : Sort _} {t3 : Sort _} {t4 : Sort _} {t5 : Sort _} {t6 : Sort _} {P : t0 -> t1 -> t2 -> t3 -> t4 -> t5 -> t6 -> Prop} {G : Prop} (h : ∃ x0 x1 x2 x3 x4 x5 x6, P x0 x1 x2 x3 x4 x5 x6) (f : ∀ x0 x1 x2 x3 x4 x5 x6, P x0 x1 x2 x3 x4 x5 x6 -> G) : G := h.elim λ x0 h => h.elim λ x1 h => h.elim λ x2 h => h.elim λ x3 h => h.elim λ x4 h => h.elim λ x5 h => h.elim λ x6 h => f x0 x1 x2 x3 x4 x5 x6 h
theorem zkw {t0 : Sort _} {t1 : Sort _} {t2 : Sort _} {t3 : Sort _} {t4 : Sort _} {t5 : Sort _} {t6 : Sort _} {t7 : Sort _} {P : t0 -> t1 -> t2 -> t3 -> t4 -> t5 -> t6 -> t7 -> Prop} {G : Prop} (h : ∃ x0 x1 x2 x3 x4 x5 x6 x7, P x0 x1 x2 x3 x4 x5 x6 x7) (f : ∀ x0 x1 x2 x3 x4 x5 x6 x7, P x0 x1 x2 x3 x4 x5 x6 x7 -> G) : G := h.elim λ x0 h => h.elim λ x1 h => h.elim λ x2 h => h.elim λ x3 h => h.elim λ x4 h => h.elim λ x5 h => h.elim λ x6 h => h.elim λ x7 h => f x0 x1 x2 x3 x4 x5 x6 x7 h
theorem zlV {A G : Prop} (h : A) (f : A -> G) : G := f h
theorem zlW {A B G : Prop} (h : A /\ B) (f : A -> B -> G) : G := f h.1 h.2
theorem zlX {A0 A1 A2 G : Prop} (h : A0 /\ A1 /\ A2) (f : A0 -> A1 -> A2 -> G) : G := f h.1 h.2.1 h.2.2
theorem zlY {A0 A1 A2 A3 G : Prop} (h : A0 /\ A1 /\ A2 /\ A3) (f : A0 -> A1 -> A2 -> A3 -> G) : G := f h.1 h.2.1 h.2.2.1 h.2.2.2
theorem zlZ {A0 A1 A2 A3 A4 G : Prop} (h : A0 /\ A1 /\ A2 /\ A3 /\ A4) (f : A0 -> A1 -> A2 -> A3 -> A4 -> G) : G := f h.1 h.2.1 h.2.2.1 h.2.2.2.1 h.2.2.2.2
theorem zl0 {A0 A1 A2 A3 A4 A5 G : Prop} (h : A0 /\ A1 /\ A2 /\ A3 /\ A4 /\ A5) (f : A0 -> A1 -> A2 -> A3 -> A4 -> A5 -> G) : G := f h.1 h.2.1 h.2.2.1 h.2.2.2.1 h.2.2.2.2.1 h.2.2.2.2.2
theorem zl1 {A0 A1 A2 A3 A4 A5 A6 G : Prop} (h : A0 /\ A1 /\ A2 /\ A3 /\ A4 /\ A5 /\ A6) (f : A0 -> A1 -> A2 -> A3 -> A4 -> A5 -> A6 -> G) : G := f h.1 h.2.1 h.2.2.1 h.2.2.2.1 h.2.2.2.2.1 h.2.2.2.2.2.1 h.2.2.2.2.2.2
theorem zkx {A0 A1 A2 A3 A4 A5 A6 A7 G : Prop} (h : A0 /\ A1 /\ A2 /\ A3 /\ A4 /\ A5 /\ A6 /\ A7) (f : A0 -> A1 -> A2 -> A3 -> A4 -> A5 -> A6 -> A7 -> G) : G := f h.1 h.2.1 h.2.2.1 h.2.2.2.1 h.2.2.2.2.1 h.2.2.2.2.2.1 h.2.2.2.2.2.2.1 h.2.2.2.2.2.2.2
theorem zl2 {A0 A1 A2 A3 A4 A5 A6 A7 A8 G : Prop} (h : A0 /\ A1 /\ A2 /\ A3 /\ A4 /\ A5 /\ A6 /\ A7 /\ A8) (f : A0 -> A1 -> A2 -> A3 -> A4 -> A5 -> A6 -> A7 -> A8 -> G) : G := f h.1 h.2.1 h.2.2.1 h.2.2.2.1 h.2.2.2.2.1 h.2.2.2.2.2.1 h.2.2.2.2.2.2.1 h.2.2.2.2.2.2.2.1 h.2.2.2.2.2.2.2.2
theorem zjv {A0 A1 A2 A3 A4 A5 A6 A7 A8 A9 G : Prop} (h : A0 /\ A1 /\ A2 /\ A3 /\ A4 /\ A5 /\ A6 /\ A7 /\ A8 /\ A9) (f : A0 -> A1 -> A2 -> A3 -> A4 -> A5 -> A6 -> A7 -> A8 -> A9 -> G) : G := f h.1 h.2.1 h.2.2.1 h.2.2.2.1 h.2.2.2.2.1 h.2.2.2.2.2.1 h.2.2.2.2.2.2.1 h.2.2.2.2.2.2.2.1 h.2.2.2.2.2.2.2.2.1 h.2.2.2.2.2.2.2.2.2
theorem zky {A0 A1 A2 A3 A4 A5 A6 A7 A8 A9 A10 G : Prop} (h : A0 /\ A1 /\ A2 /\ A3 /\ A4 /\ A5 /\ A6 /\ A7 /\ A8 /\ A9 /\ A10) (f : A0 -> A1 -> A2 -> A3 -> A4 -> A5 -> A6 -> A7 -> A8 -> A9 -> A10 -> G) : G := f h.1 h.2.1 h.2.2.1 h.2.2.2.1 h.2.2.2.2.1 h.2.2.2.2.2.1 h.2.2.2.2.2.2.1 h.2.2.2.2.2.2.2.1 h.2.2.2.2.2.2.2.2.1 h.2.2.2.2.2.2.2.2.2.1 h.2.2.2.2.2.2.2.2.2.2
theorem zkz {A0 A1 A2 A3 A4 A5 A6 A7 A8 A9 A10 A11 G : Prop} (h : A0 /\ A1 /\ A2 /\ A3 /\ A4 /\ A5 /\ A6 /\ A7 /\ A8 /\ A9 /\ A10 /\ A11) (f : A0 -> A1 -> A2 -> A3 -> A4 -> A5 -> A6 -> A7 -> A8 -> A9 -> A10 -> A11 -> G) : G := f h.1 h.2.1 h.2.2.1 h.2.2.2.1 h.2.2.2.2.1 h.2.2.2.2.2.1 h.2.2.2.2.2.2.1 h.2.2.2.2.2.2.2.1 h.2.2.2.2.2.2.2.2.1 h.2.2.2.2.2.2.2.2.2.1 h.2.2.2.2.2.2.2.2.2.2.1 h.2.2.2.2.2.2.2.2.2.2.2
theorem zkA {A0 A1 A2 A3 A4 A5 A6 A7 A8 A9 A10 A11 A12 G : Prop} (h : A0 /\ A1 /\ A2 /\ A3 /\ A4 /\ A5 /\ A6 /\ A7 /\ A8 /\ A9 /\ A10 /\ A11 /\ A12) (f : A0 -> A1 -> A2 -> A3 -> A4 -> A5 -> A6 -> A7 -> A8 -> A9 -> A10 -> A11 -> A12 -> G) : G := f h.1 h.2.1 h.2.2.1 h.2.2.2.1 h.2.2.2.2.1 h.2.2.2.2.2.1 h.2.2.2.2.2.2.1 h.2.2.2.2.2.2.2.1 h.2.2.2.2.2.2.2.2.1 h.2.2.2.2.2.2.2.2.2.1 h.2.2.2.2.2.2.2.2.2.2.1 h.2.2.2.2.2.2.2.2.2.2.2.1 h.2.2.2.2.2.2.2.2.2.2.2.2
theorem uo {α : Type} {M : Model} {A : Around} {t : Sem α} {Q : α -> Shared -> Prop} {E : Value -> Shared -> Prop} {s : Shared} (h : ∀ Q' : α -> Shared -> Prop, (∀ v s', Q v s' -> Q' v s') -> wpAny M A t Q' E s) : wpAny M A t Q E s := h Q λ z z q => q
theorem qu {α : Type} {M : Model} {A : Around} {t : Sem α} {Q : α -> Shared -> Prop} {E : Value -> Shared -> Prop} {s : Shared} (h : ∀ E', wpAny M A t Q E' s) : wpAny M A t Q E s := h E
theorem ak {M : Model} {A : Around} {env : Env} {st : Stmt} {ss : List Stmt} {Q : Flow -> Shared -> Prop} {E : Value -> Shared -> Prop} {s : Shared} (h : ∀ Q' : Flow -> Shared -> Prop, (∀ s', wpAny M A (execs ss env) Q E s' -> Q' .next s') -> wpAny M A (exec st env) Q' E s) : wpAny M A (execs (st :: ss) env) Q E s := wpAny_execs_cons (h _ λ z q => q)
theorem ifT {p : Prop} [Decidable p] {a b : Prop} (h : p) (x : a) : if p then a else b := (if_pos h).mpr x
theorem ifF {p : Prop} [Decidable p] {a b : Prop} (h : ¬p) (x : b) : if p then a else b := (if_neg h).mpr x
theorem zdm {G : Prop} (h : ∀ G' : Prop, (G -> G') -> G') : G := h G id
noncomputable abbrev Bs := List UInt8
inductive AV where
 | none
 | bool (b : Bool)
 | int (i : Int)
 | bytes (b : Bs)
 | tup (vs : List AV)
 | lst (vs : List AV)
 | list (a : Addr)
 | inst (c : Nat) (vs : List AV)
 | lex
 | buf
 | kinds
structure GS where
 lx : Option (List AV)
 buf : Bs
 hp : Addr -> Option (List AV)
noncomputable abbrev Loc := List (Option AV)
noncomputable abbrev QE := AV -> GS -> Prop
noncomputable abbrev XE := Bs -> Prop
inductive Out where
 | nx (l : Loc) (g : GS)
 | bk (l : Loc) (g : GS)
 | rt (v : AV) (g : GS)
 | xc (m : Bs)
inductive PX where
 | const (v : AV)
 | glob (x : Str) (v : AV)
 | loc (i : Nat)
 | attr (e : PX) (f : Nat)
 | tup (es : List PX)
 | lst (es : List PX)
 | bin (op : Operator) (l r : PX)
 | not (e : PX)
 | neg (e : PX)
 | and (es : List PX)
 | or (es : List PX)
 | cmp (l : PX) (ops : List CmpOp) (rs : List PX)
 | ite (t a b : PX)
 | call (k : Nat) (args : List PX)
 | meth (k : Nat) (o : PX) (args : List PX)
 | len (e : PX)
 | abs (e : PX)
 | max (a b : PX)
 | isi (e : PX) (k : Nat)
 | sub (e i : PX)
 | slice (e : PX) (lo hi : Option PX)
 | bytes1 (e : PX)
 | bytesL (e : PX)
 | find1 (o a : PX)
 | find2 (o a b : PX)
 | index (o a : PX)
 | bufBytes
 | bufLen
 | bufCut (lo hi : Option PX)
 | tok (k v : PX)
 | kget (e : PX)
 | countNl (e : PX)
inductive IX where
 | pure (e : PX)
 | call (k : Nat) (args : List PX)
 | meth (k : Nat) (o : PX) (args : List PX)
 | tokM (t : PX) (k : Nat) (o : PX) (args : List PX)
 | eqM (k : Nat) (o : PX) (args : List PX) (e : PX)
 | newl
 | newLex (args : List PX)
inductive MS where
 | assign (i : Nat) (x : IX)
 | assignT (i j : Nat) (x : IX)
 | assignP (i j : Nat) (x y : IX)
 | setattr (f : Nat) (x : IX)
 | aug (i : Nat) (e : PX)
 | augattr (f : Nat) (e : PX)
 | ifs (t : IX) (a b : List MS)
 | while (t : IX) (b : List MS)
 | ret (x : IX)
 | retNone
 | brk
 | pass
 | expr (x : IX)
 | app (i : Nat) (e : PX)
 | rev (i : Nat)
 | bufApp (e : PX)
 | bufNew
 | bufKeep (e : PX)
 | forBytes (i : Nat) (e : PX) (b : List MS)
 | forEnum (i j : Nat) (e : PX) (b : List MS)
 | raise (e : PX)
noncomputable def fieldNames : List Str := ["text", "source", "chunk", "limits", "kinds", "at", "sign", "line", "last_line", "buffer", "current", "ahead", "kind", "value", "width", "registers", "upvalues", "local_names", "ccalls", "frames", "stack", "flush", "steps"]
noncomputable def zh0 : List Nat := [0, 1, 2, 3, 4, 5, 6, 7, 8, 9, 10, 11]
noncomputable def tokF : List Nat := [12, 13]
noncomputable def rM : List Nat := [14, 15, 16, 17, 18, 19, 20, 21, 22, 0]
noncomputable def zdn (c : Nat) : List Nat := match c with
 | 0 => tokF
 | _ => rM
noncomputable def vH : List Nat -> Nat -> Option Nat
 | [], _ => none
 | x :: r, f => match Nat.beq x f with
  | true => some 0
  | false => (vH r f).map (· + 1)
noncomputable def yj {α : Type} : List α -> Nat -> Option α
 | [], _ => none
 | a :: _, 0 => some a
 | _ :: l, i + 1 => yj l i
noncomputable def zm : List Bs := [[97,110,100],[98,114,101,97,107],[100,111],[101,108,115,101],[101,108,115,101,105,102],[101,110,100],[102,97,108,115,101],[102,111,114],[102,117,110,99,116,105,111,110],[105,102],[105,110],[108,111,99,97,108],[110,105,108],[110,111,116],[111,114],[114,101,112,101,97,116],[114,101,116,117,114,110],[116,104,101,110],[116,114,117,101],[117,110,116,105,108],[119,104,105,108,101]]
noncomputable def zfj : List Bs := [[46,46],[46,46,46],[61,61],[62,61],[60,61],[126,61],[60,110,117,109,98,101,114,62],[60,110,97,109,101,62],[60,115,116,114,105,110,103,62],[60,101,111,102,62]]
noncomputable def xG (g : GS) (v : AV) (f : Nat) : Option AV := match v with
 | .lex => match g.lx with
  | some fs => yj fs f
  | none => none
 | .inst c vs => (vH (zdn c) f).bind (yj vs)
 | _ => none
noncomputable def zQ : Loc -> Nat -> Option AV
 | [], _ => none
 | a :: _, 0 => a
 | _ :: l, i + 1 => zQ l i
noncomputable def setL : Loc -> Nat -> AV -> Loc
 | [], _, _ => []
 | _ :: l, 0, v => some v :: l
 | a :: l, i + 1, v => a :: setL l i v
noncomputable def mL : Int := 9223372036854775808
noncomputable def dj (i : Int) : Prop := -mL < i /\ i < mL
noncomputable def truth : AV -> Bool
 | .bool b => b
 | _ => false
noncomputable def boC (v : AV) (P : Prop) : Prop := match v with
 | .bool _ => P
 | _ => False
noncomputable def dec (b : Bool) (P : Prop) : Prop := match b with
 | true => P
 | false => False
noncomputable def zh1 (op : Operator) (a b : AV) : AV := match op, a, b with
 | .Add, .int x, .int y => .int (x + y)
 | .Sub, .int x, .int y => .int (x - y)
 | .Mult, .int x, .int y => .int (x * y)
 | .FloorDiv, .int x, .int y => .int (Int.fdiv x y)
 | .Mod, .int x, .int y => .int (Int.fmod x y)
 | .Pow, .int x, .int y => .int (x ^ y.toNat)
 | .LShift, .int x, .int y => .int (x * 2 ^ y.toNat)
 | .BitAnd, .int x, .int y => .int (Builtin.bitAnd x y)
 | .Add, .bytes x, .bytes y => .bytes (x ++ y)
 | .Mult, .bytes x, .int n => .bytes ((List.replicate n.toNat x).flatten)
 | _, _, _ => .none
noncomputable def zdd (op : Operator) (a b : AV) (P : Prop) : Prop := match a, b with
 | .int x, .int y => match op with
  | .Add => P
  | .Sub => P
  | .Mult => (dj x \/ dj y) /\ P
  | .FloorDiv => dec (decide (0 < y) && decide (y < 1000)) P
  | .Mod => dec (!(decide (y = 0))) P
  | .Pow => dec (decide (x = 2) && (decide (y = 63) || decide (y = 64))) P
  | .LShift => dec (decide (x = 1) && (decide (y = 63) || decide (y = 64))) P
  | .BitAnd => P
  | _ => False
 | .bytes x, .bytes y => match op with
  | .Add => (x.length <= 1000 /\ y.length <= 1000) /\ P
  | _ => False
 | .bytes x, .int n => match op with
  | .Mult => (x.length = 1 /\ 0 <= n /\ n <= 1000) /\ P
  | _ => False
 | _, _ => False
noncomputable def eqB : AV -> AV -> Bool
 | .int x, .int y => decide (x = y)
 | .bytes x, .bytes y => decide (x = y)
 | _, _ => false
noncomputable def wV : AV -> AV -> Bool
 | .int _, .int _ => true
 | .bytes _, .bytes _ => true
 | _, _ => false
noncomputable def inB (a b : AV) : Bool := match b with
 | .tup vs => vs.any (eqB a)
 | .lst vs => vs.any (eqB a)
 | .bytes bs => match a with
  | .int x => bs.any λ c => decide ((c.toNat : Int) = x)
  | _ => false
 | _ => false
noncomputable def inC (a b : AV) (P : Prop) : Prop := match b with
 | .tup vs => dec (vs.all (wV a)) P
 | .lst vs => dec (vs.all (wV a)) P
 | .bytes _ => match a with
  | .int x => (0 <= x /\ x < 256) /\ P
  | _ => False
 | _ => False
noncomputable def wW (a : AV) : Bool := match a with | .none => true | _ => false
noncomputable def zhG (op : CmpOp) (a b : AV) : Bool := match op with
 | .Eq => eqB a b
 | .NotEq => !(eqB a b)
 | .Lt => match a, b with | .int x, .int y => decide (x < y) | _, _ => false
 | .LtE => match a, b with | .int x, .int y => decide (x <= y) | _, _ => false
 | .Gt => match a, b with | .int x, .int y => decide (y < x) | _, _ => false
 | .GtE => match a, b with | .int x, .int y => decide (y <= x) | _, _ => false
 | .Is => wW a
 | .IsNot => !(wW a)
 | .In => inB a b
 | .NotIn => !(inB a b)
noncomputable def iW (a b : AV) (P : Prop) : Prop := match a, b with
 | .int _, .int _ => P
 | _, _ => False
noncomputable def zaR (b : AV) (P : Prop) : Prop := match b with | .none => P | _ => False
noncomputable def zjw (op : CmpOp) (a b : AV) (P : Prop) : Prop := match op with
 | .Eq => dec (wV a b) P
 | .NotEq => dec (wV a b) P
 | .Lt => iW a b P
 | .LtE => iW a b P
 | .Gt => iW a b P
 | .GtE => iW a b P
 | .Is => zaR b P
 | .IsNot => zaR b P
 | .In => inC a b P
 | .NotIn => inC a b P
noncomputable def zdo (c : Bool) (a b : AV) : AV := match a, b with
 | .int x, .int y => .int (cond c x y)
 | .bytes x, .bytes y => .bytes (cond c x y)
 | a, b => cond c a b
noncomputable def zaL (v : AV) : Option (Option Int) := match v with
 | .none => some none
 | .int i => some (some i)
 | _ => none
noncomputable def yq {α : Type} (l : List α) (lo hi : Option Int) : List α := (l.drop (lo.elim 0 (clipAt l.length))).take (hi.elim l.length (clipAt l.length) - lo.elim 0 (clipAt l.length))
noncomputable def zhH (b : Bs) (i j : AV) : AV := match zaL i, zaL j with
 | some i, some j => .bytes (yq b i j)
 | _, _ => .none
noncomputable def zjx (i j : AV) (P : Prop) : Prop := match zaL i, zaL j with
 | some _, some _ => P
 | _, _ => False
noncomputable def zaS (v i j : AV) : AV := match v with
 | .bytes b => zhH b i j
 | _ => .none
noncomputable def zfk (v i j : AV) (P : Prop) : Prop := match v with
 | .bytes b => b.length <= 1000000 /\ zjx i j P
 | _ => False
noncomputable def subV (v i : AV) : AV := match v, i with
 | .bytes b, .int k => .int (b.getD k.toNat 0).toNat
 | .tup vs, .int k => (yj vs k.toNat).getD .none
 | .lst vs, .int k => (yj vs k.toNat).getD .none
 | _, _ => .none
noncomputable def zjy (v i : AV) (P : Prop) : Prop := match v, i with
 | .bytes b, .int k => (0 <= k /\ k < b.length /\ b.length <= 1000000) /\ P
 | .tup vs, .int k => dec (decide (0 <= k) && decide (k < vs.length) && Nat.ble vs.length 1000) P
 | .lst vs, .int k => (0 <= k /\ k < vs.length /\ vs.length <= 1000) /\ P
 | _, _ => False
noncomputable def findZ (b p : Bs) (k : Nat) : Int := match Builtin.Bytes.find? b.toArray p.toArray k b.length with
 | some i => (i : Int)
 | none => -1
noncomputable def ao (b p i : AV) : AV := match b, p, i with
 | .bytes b, .bytes p, .int i => .int (findZ b p i.toNat)
 | _, _, _ => .none
noncomputable def zaT (b p i : AV) (P : Prop) : Prop := match b, p, i with
 | .bytes b, .bytes p, .int i => (b.length <= 1000000 /\ p.length <= 1000 /\ 0 <= i /\ i <= 1000000) /\ P
 | _, _, _ => False
noncomputable def iY (a : AV) : List AV -> Nat -> Option Nat
 | [], _ => none
 | b :: r, k => match eqB a b with
  | true => some k
  | false => iY a r (k + 1)
noncomputable def zaU (v a : AV) : AV := match v with
 | .lst vs => .int (((iY a vs 0).getD 0 : Nat) : Int)
 | _ => .none
noncomputable def zaV (v a : AV) (P : Prop) : Prop := match v with
 | .lst vs => dec (vs.all (wV a)) (((iY a vs 0).isSome = true /\ vs.length <= 1000) /\ P)
 | _ => False
noncomputable def kindOf (w : Bs) : List Bs -> Int -> Option Int
 | [], _ => none
 | b :: r, k => if b = w then some k else kindOf w r (k + 1)
noncomputable def zaW (v : AV) : AV := match v with
 | .bytes w => match kindOf w zm 257 with
  | some k => .int k
  | none => .none
 | _ => .none
noncomputable def sY (v : AV) (P : Prop) : Prop := match v with
 | .bytes b => b.length <= 1000000 /\ P
 | _ => False
noncomputable def lenV : AV -> AV
 | .bytes b => .int b.length
 | .lst vs => .int vs.length
 | _ => .none
noncomputable def zjz (v : AV) (P : Prop) : Prop := match v with
 | .bytes b => b.length <= 1000000 /\ P
 | .lst vs => dec (Nat.ble vs.length 1000) P
 | _ => False
noncomputable def zjA : AV -> AV
 | .int i => .int (-i)
 | _ => .none
noncomputable def zjB : AV -> AV
 | .int i => .int i.natAbs
 | _ => .none
noncomputable def zf2 (v : AV) (P : Prop) : Prop := match v with
 | .int _ => P
 | _ => False
noncomputable def maxV : AV -> AV -> AV
 | .int i, .int j => .int (if j > i then j else i)
 | _, _ => .none
noncomputable def zkB (k : Nat) : Bool := Nat.beq k 1
noncomputable def xH (v : AV) : UInt8 := match v with
 | .int i => i.toNat.toUInt8
 | _ => 0
noncomputable def qw (v : AV) : Prop := match v with
 | .int i => 0 <= i /\ i < 256
 | _ => False
noncomputable def zaX (v : AV) (P : Prop) : Prop := match v with
 | .int i => (0 <= i /\ i < 256) /\ P
 | _ => False
noncomputable def mO (g : GS) (v : AV) : AV := match v with
 | .list a => .bytes (((g.hp a).getD []).map xH)
 | _ => .none
noncomputable def zf3 (g : GS) (v : AV) (P : Prop) : Prop := match v with
 | .list a => (∃ vs, g.hp a = some vs /\ vs.length <= 1000000 /\ ∀ x ∈ vs, qw x) /\ P
 | _ => False
noncomputable def countV (v : AV) : AV := match v with
 | .bytes b => .int (b.filter λ c => c == 10).length
 | _ => .none
noncomputable def kI (v : AV) : Bool := match v with | .buf => false | _ => true
noncomputable def nD (g : GS) : Bool := match g.lx with
 | some fs => Nat.blt 9 fs.length
 | none => false
noncomputable def lexC (v : Option AV) (P : Prop) : Prop := match v with
 | some .lex => P
 | _ => False
noncomputable def zhI (l : Loc) (g : GS) (P : Prop) : Prop := dec (nD g) (lexC (zQ l 0) (g.buf.length <= 1000000 /\ P))
noncomputable def ou (v : Option AV) (P : Prop) : Prop := match v with
 | some x => dec (kI x) P
 | none => False
noncomputable def zja (v : Option AV) (P : Prop) : Prop := match v with
 | some _ => P
 | none => False
noncomputable def nF (v : AV) (P : Prop) : Prop := match v with
 | .lex => P
 | _ => False
noncomputable def dw (v : AV) (P : Prop) : Prop := match v with
 | .bytes _ => P
 | _ => False
noncomputable def zaY (v : AV) (P : Prop) : Prop := match v with
 | .lst _ => P
 | _ => False
noncomputable def zfl (v : Option AV) (P : Prop) : Prop := match v with
 | some .kinds => P
 | _ => False
noncomputable def uV (hp : Addr -> Option (List AV)) (a : Addr) (vs : List AV) : Addr -> Option (List AV) := λ b => if b = a then some vs else hp b
noncomputable def pZ : List AV -> Nat -> AV -> Option (List AV)
 | [], 0, v => some [v]
 | [], _ + 1, _ => none
 | _ :: l, 0, v => some (v :: l)
 | a :: l, i + 1, v => (pZ l i v).map (a :: ·)
noncomputable def zjb (g : GS) (f : Nat) (v : AV) : Option GS := match g.lx with
 | some fs => (pZ fs f v).map λ fs' => { g with lx := some fs' }
 | none => none
end
section
open Lean Lean.Parser.Tactic in
local macro_rules
 | `(tactic| obtain ⟨$ps,*⟩ := $e:term) => do
  let n := ps.getElems.size
  if n < 3 then Macro.throwUnsupported
  let rs : TSyntaxArray `rintroPat := ⟨ps.getElems.toList.map λ p => ⟨mkNode ``rintroPat.one #[p.raw[0][0][0]]⟩⟩
  let c : Ident := if e.raw.isIdent then ⟨e.raw⟩ else mkIdent `x_
  let mut t <- `(tactic| rcases $e:term with ⟨$ps,*⟩)
  for i in [0:n] do
   t <- `(tactic| first | (refine $(mkIdent (.mkSimple s!"ex_{i}")) $e ?_; (try clear $c); rintro $(rs.extract 0 i)* hx; refine $(mkIdent (.mkSimple s!"an_{n - i}")) hx ?_; clear hx; rintro $(rs.extract i n)*) | $t:tactic)
  return t
section
noncomputable def tW (c : UInt8) : Bool := c == 10 || c == 13
noncomputable def alike : Bs -> Bs
 | [] => []
 | [c] => [if c = 13 then 10 else c]
 | c :: d :: r => if (tW c && tW d && c != d) = true then 10 :: alike r else (if c = 13 then 10 else c) :: alike (d :: r)
noncomputable def qx (s : Int) : Bool := decide (48 <= s) && decide (s <= 57)
noncomputable def zf4 (s : Int) : Bool := (decide (65 <= s) && decide (s <= 90)) || (decide (97 <= s) && decide (s <= 122)) || decide (s = 95)
noncomputable def zfm (s : Int) : Bool := zf4 s || qx s
noncomputable def zhJ (s : Int) : Bool := decide (s = 32) || (decide (9 <= s) && decide (s <= 13))
noncomputable def iv (c : UInt8) : Int := (c.toNat : Int)
noncomputable def isD (c : UInt8) : Bool := qx (iv c)
noncomputable def isN (c : UInt8) : Bool := zfm (iv c)
noncomputable def isB (c : UInt8) : Bool := zhJ (iv c)
theorem aq (c : UInt8) : 0 <= iv c := Int.natCast_nonneg _
theorem zf5 (c : UInt8) : iv c < 256 := by
 have := c.toNat_lt
 unfold iv; omega
theorem xJ {c d : UInt8} : iv c = iv d ↔ c = d := by
 constructor
 ·intro h
  exact UInt8.toNat_inj.mp (by unfold iv at h; omega)
 ·rintro rfl; rfl
theorem iZ (c : UInt8) : (iv c).toNat.toUInt8 = c := by
 unfold iv; simp
theorem uI {c : UInt8} {r : Bs} (h1 : c ≠ 10) (h2 : c ≠ 13) : alike (c :: r) = c :: alike r := by
 cases r with
 | nil => simp [alike, h2]
 | cons d r => simp [alike, tW, h1, h2]
theorem zdp {c : UInt8} {r : Bs} (h : tW c = true) : ∃ r', alike (c :: r) = 10 :: alike r' /\ ((r' = r /\ (r = [] \/ ∃ d t, r = d :: t /\ (tW d = false \/ d = c))) \/ ∃ d, r = d :: r' /\ tW d = true /\ d ≠ c) := by
 have hc : (if c = 13 then (10 : UInt8) else c) = 10 := by
  simp only [tW, Bool.or_eq_true, beq_iff_eq] at h
  rcases h with rfl | rfl <;> rfl
 cases r with
 | nil => exact ⟨[], by simp [alike, hc], .inl ⟨rfl, .inl rfl⟩⟩
 | cons d r =>
  by_cases hd : tW d = true /\ d ≠ c
  ·exact ⟨r, by simp [alike, h, hd.1, Ne.symm hd.2], .inr ⟨d, rfl, hd.1, hd.2⟩⟩
  ·refine ⟨d :: r, ?_, .inl ⟨rfl, .inr ⟨d, r, rfl, ?_⟩⟩⟩
   ·have : (tW c && tW d && c != d) = false := by
     rw [h]
     cases q : tW d with
     | false => rfl
     | true =>
      have : d = c := Classical.byContradiction λ z => hd ⟨q, z⟩
      subst this; simp
    rw [alike, this, hc]; rfl
   ·cases q : tW d with
    | false => exact .inl rfl
    | true => exact .inr (Classical.byContradiction λ z => hd ⟨q, z⟩)
theorem xK : ∀ r : Bs, (alike r).length <= r.length
 | [] => Nat.le_refl _
 | [_] => Nat.le_refl _
 | d :: e :: r => by
  unfold alike
  split
  ·have := xK r
   simp only [List.length_cons]; omega
  ·have := xK (e :: r)
   simp only [List.length_cons] at this ⊢; omega
theorem zaZ : ∀ {r : Bs}, alike r = [] -> r = []
 | [], _ => rfl
 | [_], h => by simp [alike] at h
 | d :: e :: r, h => by
  unfold alike at h
  split at h <;> cases h
noncomputable def cnt (a : Bs) : Nat := (a.filter λ c => c == 10).length
theorem cnt_cons (c : UInt8) (a : Bs) : cnt (c :: a) = (if c = 10 then 1 else 0) + cnt a := by
 unfold cnt
 by_cases h : c = 10
 ·subst h; simp; omega
 ·simp [h]
theorem cnt_append (a b : Bs) : cnt (a ++ b) = cnt a + cnt b := by
 unfold cnt; simp
theorem za0 (a : Bs) : cnt a <= a.length := List.length_filter_le _ _
theorem zdq (A : Bs) (k : Nat) : cnt (A.take k) + cnt (A.drop k) = cnt A := by
 rw [<- cnt_append, List.take_append_drop]
noncomputable def zV : Bs -> Option Nat
 | c :: r => if c = 91 /\ (r.dropWhile (· == 61)).head? = some 91 then some (r.takeWhile (· == 61)).length else none
 | [] => none
noncomputable def closer (n : Nat) : Bs := 93 :: (List.replicate n 61 ++ [93])
inductive SR where
 | done (t rest : Bs)
 | nest (rest : Bs)
 | unf
noncomputable def SR.put (c : UInt8) : SR -> SR
 | .done t r => .done (c :: t) r
 | x => x
noncomputable def zY (n : Nat) : Bs -> SR
 | [] => .unf
 | c :: r => if (closer n).isPrefixOf (c :: r) = true then .done [] ((c :: r).drop (n + 2)) else
   if n = 0 /\ [91, 91].isPrefixOf (c :: r) = true then .nest (c :: r) else (zY n r).put c
noncomputable def zW : Bs -> Bs
 | c :: r => if c = 10 then r else c :: r
 | [] => []
noncomputable def kJ : Bs := [110, 101, 115, 116, 105, 110, 103, 32, 111, 102, 32, 91, 91, 46, 46, 46, 93, 93, 32, 105, 115, 32, 100, 101, 112, 114, 101, 99, 97, 116, 101, 100]
noncomputable def zf6 : Bs := [117, 110, 102, 105, 110, 105, 115, 104, 101, 100, 32, 108, 111, 110, 103, 32, 115, 116, 114, 105, 110, 103]
noncomputable def za1 : Bs := [117, 110, 102, 105, 110, 105, 115, 104, 101, 100, 32, 108, 111, 110, 103, 32, 99, 111, 109, 109, 101, 110, 116]
noncomputable def zjc : Bs := [105, 110, 118, 97, 108, 105, 100, 32, 108, 111, 110, 103, 32, 115, 116, 114, 105, 110, 103, 32, 100, 101, 108, 105, 109, 105, 116, 101, 114]
noncomputable def zjd : Bs := [117, 110, 102, 105, 110, 105, 115, 104, 101, 100, 32, 115, 116, 114, 105, 110, 103]
noncomputable def zje : Bs := [101, 115, 99, 97, 112, 101, 32, 115, 101, 113, 117, 101, 110, 99, 101, 32, 116, 111, 111, 32, 108, 97, 114, 103, 101]
noncomputable def zjC : Bs := [109, 97, 108, 102, 111, 114, 109, 101, 100, 32, 110, 117, 109, 98, 101, 114]
noncomputable def zdr (l : Bs) : Int := l.foldl (λ v c => 10 * v + iv c - 48) 0
noncomputable def vJ (a : Bs) : Bs := (a.take 3).takeWhile isD
noncomputable def xO : List (Int × Int) := [(97, 7), (98, 8), (102, 12), (110, 10), (114, 13), (116, 9), (118, 11)]
noncomputable def vM (k : Int) (d : Int) : List (Int × Int) -> Int
 | [] => d
 | (a, v) :: r => if a = k then v else vM k d r
noncomputable def nameE (c : UInt8) : UInt8 := (vM (iv c) (iv c) xO).toNat.toUInt8
noncomputable def wR (c : UInt8) : Bool := isD c || c == 46
noncomputable def isE (c : UInt8) : Bool := c == 69 || c == 101
noncomputable def aA (c : UInt8) : Bool := c == 43 || c == 45
noncomputable def mQ : Bs -> Bs
 | c :: d :: _ => if isE c = true then (if aA d = true then [c, d] else [c]) else []
 | [c] => if isE c = true then [c] else []
 | [] => []
noncomputable def ur (a : Bs) : Bs :=
 let d := a.takeWhile wR
 let e := mQ (a.dropWhile wR)
 d ++ e ++ ((a.dropWhile wR).drop e.length).takeWhile isN
noncomputable def oF (s : Int) : Int := if 48 <= s /\ s <= 57 then s - 48 else if 97 <= s /\ s <= 122 then s - 87 else if 65 <= s /\ s <= 90 then s - 55 else -1
noncomputable def oG (x : Int) : Int := if x % 2 ^ 64 >= 2 ^ 63 then x % 2 ^ 64 - 2 ^ 64 else x % 2 ^ 64
noncomputable def foldZ (b : Int) (w : Bs) (v : Int) : Int := w.foldl (λ v c => v * b + oF (iv c)) v
noncomputable def aB (b : Int) (w : Bs) : Bool := w.all λ c => decide (0 <= oF (iv c)) && decide (oF (iv c) < b)
noncomputable def oH (b : Int) (w : Bs) : Option Int := if aB b w = true then some (oG (foldZ b w 0)) else none
noncomputable def rN : Bs -> Option Int
 | c :: d :: e :: r => if c = 48 /\ (d = 120 \/ d = 88) then oH 16 (e :: r) else oH 10 (c :: d :: e :: r)
 | w => oH 10 w
noncomputable def rG (s : Int) : Bool := decide (s = 10) || decide (s = 13)
noncomputable def zkC (s : Int) : Bool := (decide (0 <= s) && decide (s < 32)) || decide (s = 127)
noncomputable def okd (b : Int) (c : UInt8) : Bool := decide (0 <= oF (iv c)) && decide (oF (iv c) < b)
noncomputable def oJ : Option Int -> AV
 | some v => .int v
 | none => .none
noncomputable def optN : Option Nat -> AV
 | some v => .int (v : Int)
 | none => .none
noncomputable def zds : Nat -> Nat -> Bs
 | 0, _ => []
 | f + 1, u => if u > 9 then (48 + u % 10).toUInt8 :: zds f (u / 10) else [(48 + u).toUInt8]
noncomputable def kO (m : Nat) : Bs := (zds 4 m).reverse
noncomputable def sgn (r : Bs) : Int := match r with
 | c :: _ => iv c
 | [] => -1
noncomputable def zdu (s : Int) : AV := match vM s (-1) xO with
 | .negSucc _ => .none
 | v => .int v
noncomputable def tX (k : Int) : Bs := if k = 287 then [60, 101, 111, 102, 62] else [91]
noncomputable def zh2 : List Bs := [[46, 46, 46], [46, 46], [61, 61], [62, 61], [60, 61], [126, 61]]
noncomputable def zdv (w : Bs) : Prop := w ≠ [] /\ w.length <= 900 /\ (∀ c ∈ w, isB c = false) /\ ∀ c r, w = c :: r -> c ≠ 43 /\ c ≠ 45
noncomputable def za2 (m : AV) (P : Prop) : Prop := match m with
 | .inst c (.int w :: _) => dec (Nat.beq c 1 && decide (w = 64)) P
 | _ => False
noncomputable def zde (a : Bs) : AV × Nat := match a with
 | c :: _ => if isD c = true then (if zdr (vJ a) < 256 then .int (zdr (vJ a)) else .none, (vJ a).length) else (.int (vM (iv c) (iv c) xO), 1)
 | [] => (.none, 0)
noncomputable def za3 (v : AV) (i : Int) (n : Nat) : AV := .tup [v, .int (i + (n : Int))]
noncomputable def arg (vs : List AV) (i : Nat) : AV := (yj vs i).getD .none
noncomputable def vI : AV -> Int
 | .int i => i
 | _ => 0
noncomputable def vB : AV -> Bs
 | .bytes b => b
 | _ => []
noncomputable def fI (g : GS) (f : Nat) : Int := vI ((xG g .lex f).getD .none)
noncomputable def fB (g : GS) (f : Nat) : Bs := vB ((xG g .lex f).getD .none)
noncomputable def PF (k : Nat) (vs : List AV) (g : GS) : AV := match k with
 | 0 => .bool true
 | 1 => .int (oG (vI (arg vs 0)))
 | 2 => .bool (zhJ (vI (arg vs 0)))
 | 3 => .int (oF (vI (arg vs 0)))
 | 4 => .tup [.int (foldZ (vI (arg vs 2)) (((vB (arg vs 0)).drop (vI (arg vs 1)).toNat).takeWhile (okd (vI (arg vs 2)))) 0), .int (vI (arg vs 1) + ((((vB (arg vs 0)).drop (vI (arg vs 1)).toNat).takeWhile (okd (vI (arg vs 2)))).length : Nat))]
 | 5 => arg vs 1
 | 6 => oJ (rN (vB (arg vs 0)))
 | 7 => oJ (rN (vB (arg vs 0)))
 | 8 => .bytes (kO (vI (arg vs 0)).toNat)
 | 9 => .bytes (kO (vI (arg vs 0)).toNat)
 | 10 => arg vs 0
 | 12 => .bytes [113]
 | 13 => .bool (qx (vI (arg vs 0)))
 | 14 => .bool (zf4 (vI (arg vs 0)))
 | 15 => .bool (zfm (vI (arg vs 0)))
 | 16 => .bool (zhJ (vI (arg vs 0)))
 | 17 => .bool (zkC (vI (arg vs 0)))
 | 18 => .bool (rG (vI (arg vs 0)))
 | 19 => zdu (vI (arg vs 0))
 | 20 => .kinds
 | 21 => .bytes (tX (vI (arg vs 0)))
 | 23 => .lst (zm.map .bytes)
 | 24 => .lst (zh2.map .bytes)
 | 25 => .bytes (alike (vB (arg vs 0)))
 | 26 => .int ((1 + cnt ((vB (arg vs 0)).take (vI (arg vs 1)).toNat) : Nat) : Int)
 | 27 => optN (zV ((vB (arg vs 0)).drop (vI (arg vs 1)).toNat))
 | 29 => za3 (zde ((vB (arg vs 0)).drop (vI (arg vs 1)).toNat)).1 (vI (arg vs 1)) (zde ((vB (arg vs 0)).drop (vI (arg vs 1)).toNat)).2
 | 32 => za3 (oJ (rN (ur ((vB (arg vs 0)).drop (vI (arg vs 1)).toNat)))) (vI (arg vs 1)) (ur ((vB (arg vs 0)).drop (vI (arg vs 1)).toNat)).length
 | 31 => .bool (match (vB (arg vs 0)).drop (vI (arg vs 1)).toNat with | c :: _ => isN c | [] => false)
 | 54 => .bytes (cond (decide (vI (arg vs 1) = 284) || decide (vI (arg vs 1) = 286)) g.buf (tX (vI (arg vs 1))))
 | 63 => .int (sgn ((fB g 0).drop (fI g 5 + 1).toNat))
 | _ => .none
noncomputable def kd : AV -> Nat
 | .none => 0
 | .bool _ => 1
 | .int _ => 2
 | .bytes _ => 3
 | .lex => 8
 | _ => 9
noncomputable def shp : List AV -> List Nat -> Bool
 | [], [] => true
 | v :: vs, k :: ks => Nat.beq (kd v) k && shp vs ks
 | _, _ => false
noncomputable def dz (vs : List AV) (C : Int -> Prop -> Prop) (P : Prop) : Prop := dec (shp vs [2]) (C (vI (arg vs 0)) P)
noncomputable def byI (vs : List AV) (C : Bs -> Int -> Prop -> Prop) (P : Prop) : Prop := dec (shp vs [3, 2]) (C (vB (arg vs 0)) (vI (arg vs 1)) P)
noncomputable def zfn (_ : Int) (P : Prop) : Prop := P
noncomputable def zh3 (i : Int) (P : Prop) : Prop := (0 <= i /\ i < 256) /\ P
noncomputable def zke (i : Int) (P : Prop) : Prop := (0 <= i /\ i < 10000) /\ P
noncomputable def tt1 (i : Int) (P : Prop) : Prop := (i = 287 \/ i = 91) /\ P
noncomputable def at2 (b : Bs) (i : Int) (P : Prop) : Prop := (b.length <= 1000 /\ 0 <= i /\ i <= 1000) /\ P
noncomputable def pc5 (b : Bs) (i : Int) (P : Prop) : Prop := ((b.length <= 1000 /\ 0 <= i) /\ ∀ c ∈ b, isB c = false) /\ P
noncomputable def zkD (b : Bs) (i : Int) (P : Prop) : Prop := (b.length <= 1000 /\ 0 <= i /\ i < b.length) /\ P
noncomputable def zkE (b : Bs) (i : Int) (P : Prop) : Prop := ((b.length <= 900 /\ 0 <= i) /\ ∃ c r, b.drop i.toNat = c :: r /\ wR c = true) /\ P
noncomputable def nilC (vs : List AV) (P : Prop) : Prop := dec (shp vs []) P
noncomputable def pc4 (vs : List AV) (P : Prop) : Prop := dec (shp vs [3, 2, 2]) (((vB (arg vs 0)).length <= 1000 /\ 0 <= vI (arg vs 1) /\ 0 < vI (arg vs 2) /\ vI (arg vs 2) < 1000) /\ P)
noncomputable def pc6 (vs : List AV) (P : Prop) : Prop := dec (shp vs [3, 2, 9] && decide (vI (arg vs 1) = 0)) (za2 (arg vs 2) (zdv (vB (arg vs 0)) /\ P))
noncomputable def pc7 (vs : List AV) (P : Prop) : Prop := dec (shp vs [3, 9]) (za2 (arg vs 1) (zdv (vB (arg vs 0)) /\ P))
noncomputable def zkF (vs : List AV) (P : Prop) : Prop := dec (shp vs [3] && decide (vB (arg vs 0) = [61, 113])) P
noncomputable def zkG (b : Bs) (i : Int) (P : Prop) : Prop := dec (decide (b = [61, 113]) && decide (i = 80)) P
noncomputable def zkH (vs : List AV) (P : Prop) : Prop := dec (shp vs [3]) ((vB (arg vs 0)).length <= 900 /\ P)
noncomputable def pc1 (vs : List AV) (P : Prop) : Prop := dec (shp vs [2, 2] && decide (vI (arg vs 1) = 64)) (0 <= vI (arg vs 0) /\ P)
noncomputable def zkI (g : GS) (vs : List AV) (P : Prop) : Prop := dec (shp vs [8, 2] && nD g) ((g.buf.length <= 900 /\ (vI (arg vs 1) = 284 \/ vI (arg vs 1) = 286 \/ vI (arg vs 1) = 287 \/ vI (arg vs 1) = 91)) /\ P)
noncomputable def zh4 (g : GS) : Prop := ∃ T a b c d k r, g.lx = some (.bytes T :: a :: b :: c :: d :: .int (k : Nat) :: r) /\ T.length <= 1000
noncomputable def zkJ (g : GS) (vs : List AV) (P : Prop) : Prop := dec (shp vs [8]) (zh4 g /\ P)
noncomputable def PC (k : Nat) (vs : List AV) (g : GS) (P : Prop) : Prop := match k with
 | 0 => dz vs zfn P
 | 1 => pc1 vs P
 | 2 => dz vs zh3 P
 | 3 => dz vs zfn P
 | 4 => pc4 vs P
 | 5 => byI vs pc5 P
 | 6 => pc6 vs P
 | 7 => pc7 vs P
 | 8 => dz vs zke P
 | 9 => dz vs zke P
 | 10 => zkF vs P
 | 12 => byI vs zkG P
 | 13 => dz vs zfn P
 | 14 => dz vs zfn P
 | 15 => dz vs zfn P
 | 16 => dz vs zfn P
 | 17 => dz vs zfn P
 | 18 => dz vs zfn P
 | 19 => dz vs zh3 P
 | 20 => nilC vs P
 | 21 => dz vs tt1 P
 | 23 => nilC vs P
 | 24 => nilC vs P
 | 25 => zkH vs P
 | 26 => byI vs at2 P
 | 27 => byI vs at2 P
 | 29 => byI vs zkD P
 | 32 => byI vs zkE P
 | 31 => byI vs at2 P
 | 54 => zkI g vs P
 | 63 => zkJ g vs P
 | _ => False
end
section
open PyProof.Rows
mutual
noncomputable def val : PX -> Loc -> GS -> AV
 | .const v, _, _ => v
 | .glob _ v, _, _ => v
 | .loc i, l, _ => (zQ l i).getD .none
 | .attr e f, l, g => (xG g (val e l g) f).getD .none
 | .tup es, l, g => .tup (uJ es l g)
 | .lst es, l, g => .lst (uJ es l g)
 | .bin op a b, l, g => zh1 op (val a l g) (val b l g)
 | .not e, l, g => .bool (!(truth (val e l g)))
 | .neg e, l, g => zjA (val e l g)
 | .and es, l, g => .bool ((uJ es l g).all truth)
 | .or es, l, g => .bool ((uJ es l g).any truth)
 | .cmp a ops rs, l, g => .bool (aC ops (val a l g) (uJ rs l g))
 | .ite t a b, l, g => zdo (truth (val t l g)) (val a l g) (val b l g)
 | .call k es, l, g => PF k (uJ es l g) g
 | .meth k _ es, l, g => PF k (.lex :: uJ es l g) g
 | .len e, l, g => lenV (val e l g)
 | .abs e, l, g => zjB (val e l g)
 | .max a b, l, g => maxV (val a l g) (val b l g)
 | .isi _ k, _, _ => .bool (zkB k)
 | .sub e i, l, g => subV (val e l g) (val i l g)
 | .slice e lo hi, l, g => zaS (val e l g) (zdf lo l g) (zdf hi l g)
 | .bytes1 e, l, g => .bytes [xH (val e l g)]
 | .bytesL e, l, g => mO g (val e l g)
 | .find1 o a, l, g => ao (val o l g) (val a l g) (.int 0)
 | .find2 o a i, l, g => ao (val o l g) (val a l g) (val i l g)
 | .index o a, l, g => zaU (val o l g) (val a l g)
 | .bufBytes, _, g => .bytes g.buf
 | .bufLen, _, g => .int g.buf.length
 | .bufCut lo hi, l, g => zhH g.buf (zdf lo l g) (zdf hi l g)
 | .tok k v, l, g => .inst 0 [val k l g, val v l g]
 | .kget e, l, g => zaW (val e l g)
 | .countNl e, l, g => countV (val e l g)
noncomputable def uJ : List PX -> Loc -> GS -> List AV
 | [], _, _ => []
 | e :: r, l, g => val e l g :: uJ r l g
noncomputable def zdf : Option PX -> Loc -> GS -> AV
 | none, _, _ => .none
 | some e, l, g => val e l g
noncomputable def aC : List CmpOp -> AV -> List AV -> Bool
 | [op], a, [b] => zhG op a b
 | op :: ops, a, b :: bs => zhG op a b && aC ops b bs
 | _, _, _ => false
end
mutual
noncomputable def cnd : PX -> Loc -> GS -> Prop -> Prop
 | .const _, _, _, P => P
 | .glob _ _, _, _, P => P
 | .loc i, l, _, P => zja (zQ l i) P
 | .attr e f, l, g, P => cnd e l g (ou (xG g (val e l g) f) P)
 | .tup es, l, g, P => kj es l g P
 | .lst es, l, g, P => kj es l g P
 | .bin op a b, l, g, P => cnd a l g (cnd b l g (zdd op (val a l g) (val b l g) P))
 | .not e, l, g, P => cnd e l g (boC (val e l g) P)
 | .neg e, l, g, P => cnd e l g (zf2 (val e l g) P)
 | .and es, l, g, P => zh5 true es l g P
 | .or es, l, g, P => zh5 false es l g P
 | .cmp a ops rs, l, g, P => cnd a l g (za4 ops rs (val a l g) l g P)
 | .ite t a b, l, g, P => cnd t l g (boC (val t l g) ((truth (val t l g) = true -> cnd a l g True) /\ (truth (val t l g) = false -> cnd b l g True) /\ P))
 | .call k es, l, g, P => kj es l g (PC k (uJ es l g) g P)
 | .meth k o es, l, g, P => cnd o l g (nF (val o l g) (kj es l g (PC k (.lex :: uJ es l g) g P)))
 | .len e, l, g, P => cnd e l g (zjz (val e l g) P)
 | .abs e, l, g, P => cnd e l g (zf2 (val e l g) P)
 | .max a b, l, g, P => cnd a l g (cnd b l g (iW (val a l g) (val b l g) P))
 | .isi e k, l, g, P => cnd e l g (dec (Nat.blt k 3) (zf2 (val e l g) P))
 | .sub e i, l, g, P => cnd e l g (cnd i l g (zjy (val e l g) (val i l g) P))
 | .slice e lo hi, l, g, P => cnd e l g (zhK lo l g (zhK hi l g (zfk (val e l g) (zdf lo l g) (zdf hi l g) P)))
 | .bytes1 e, l, g, P => cnd e l g (zaX (val e l g) P)
 | .bytesL e, l, g, P => cnd e l g (zf3 g (val e l g) P)
 | .find1 o a, l, g, P => cnd o l g (dw (val o l g) (cnd a l g (zaT (val o l g) (val a l g) (.int 0) P)))
 | .find2 o a i, l, g, P => cnd o l g (dw (val o l g) (cnd a l g (cnd i l g (zaT (val o l g) (val a l g) (val i l g) P))))
 | .index o a, l, g, P => cnd o l g (zaY (val o l g) (cnd a l g (zaV (val o l g) (val a l g) P)))
 | .bufBytes, l, g, P => zhI l g P
 | .bufLen, l, g, P => zhI l g P
 | .bufCut lo hi, l, g, P => zhI l g (zhK lo l g (zhK hi l g (zjx (zdf lo l g) (zdf hi l g) P)))
 | .tok k v, l, g, P => cnd k l g (cnd v l g P)
 | .kget e, l, g, P => lexC (zQ l 0) (zfl (xG g .lex 4) (cnd e l g (sY (val e l g) P)))
 | .countNl e, l, g, P => cnd e l g (sY (val e l g) P)
noncomputable def kj : List PX -> Loc -> GS -> Prop -> Prop
 | [], _, _, P => P
 | e :: r, l, g, P => cnd e l g (kj r l g P)
noncomputable def zhK : Option PX -> Loc -> GS -> Prop -> Prop
 | none, _, _, P => P
 | some e, l, g, P => cnd e l g P
noncomputable def zh5 : Bool -> List PX -> Loc -> GS -> Prop -> Prop
 | _, [], _, _, _ => False
 | c, e :: r, l, g, P => cnd e l g (boC (val e l g) (match r with
  | [] => P
  | _ :: _ => (truth (val e l g) = c -> zh5 c r l g True) /\ P))
noncomputable def za4 : List CmpOp -> List PX -> AV -> Loc -> GS -> Prop -> Prop
 | op :: ops, e :: es, v, l, g, P => cnd e l g (zjw op v (val e l g) (match ops with
  | [] => P
  | _ :: _ => za4 ops es (val e l g) l g P))
 | _, _, _, _, _, _ => False
end
section
variable (C : Nat -> List AV -> GS -> QE -> XE -> Prop)
noncomputable def exX : IX -> Loc -> GS -> QE -> XE -> Prop
 | .pure e, l, g, Q, _ => cnd e l g (Q (val e l g) g)
 | .call k es, l, g, Q, X => kj es l g (C k (uJ es l g) g Q X)
 | .meth k o es, l, g, Q, X => cnd o l g (nF (val o l g) (kj es l g (C k (.lex :: uJ es l g) g Q X)))
 | .tokM t k o es, l, g, Q, X => cnd t l g (cnd o l g (nF (val o l g) (kj es l g (C k (.lex :: uJ es l g) g (λ v g' => Q (.inst 0 [val t l g, v]) g') X))))
 | .eqM k o es e, l, g, Q, X => cnd o l g (nF (val o l g) (kj es l g (C k (.lex :: uJ es l g) g (λ v g' => cnd e l g' (dec (wV v (val e l g')) (Q (.bool (eqB v (val e l g'))) g'))) X)))
 | .newl, _, g, Q, _ => ∀ a, g.hp a = none -> Q (.list a) { g with hp := uV g.hp a [] }
 | .newLex es, l, g, Q, X => kj es l g (g.lx = none /\ C 50 (.lex :: uJ es l g) { g with lx := some [] } (λ v g' => zaR v (Q .lex g')) X)
noncomputable def zkf (k : Loc -> GS -> Prop) (K : Out -> Prop) : Out -> Prop
 | .nx l g => k l g
 | o => K o
noncomputable def zdw (n : Loc -> GS -> Prop) (K : Out -> Prop) : Out -> Prop
 | .nx l g => n l g
 | .bk l g => K (.nx l g)
 | o => K o
noncomputable def zh6 (T : Loc -> GS -> QE -> Prop) (B : Loc -> GS -> (Out -> Prop) -> Prop) (l : Loc) (g : GS) (K : Out -> Prop) : Prop :=
 ∃ (I : Nat -> Loc -> GS -> Prop) (n : Nat), I n l g /\ ∀ n l g, I n l g -> T l g λ v g' => boC v ((truth v = true -> B l g' (zdw (λ l' g'' => ∃ m, m < n /\ I m l' g'') K)) /\ (truth v = false -> K (.nx l g')))
noncomputable def zfo (B : Loc -> GS -> (Out -> Prop) -> Prop) (i : Nat) (bs : Bs) (l : Loc) (g : GS) (K : Out -> Prop) : Prop :=
 ∃ I : Bs -> Loc -> GS -> Prop, I bs l g /\ (∀ l g, I [] l g -> K (.nx l g)) /\ ∀ c r l g, I (c :: r) l g -> B (setL l i (.int (iv c))) g (zdw (I r) K)
noncomputable def za5 (B : Loc -> GS -> (Out -> Prop) -> Prop) (i j : Nat) : List AV -> Nat -> Loc -> GS -> (Out -> Prop) -> Prop
 | [], _, l, g, K => K (.nx l g)
 | v :: r, k, l, g, K => B (setL (setL l i (.int (k : Int))) j v) g (zdw (λ l' g' => za5 B i j r (k + 1) l' g' K) K)
noncomputable def asT (v : AV) (C : AV -> AV -> Prop) : Prop := match v with
 | .tup [a, b] => C a b
 | _ => False
noncomputable def zf7 (g : Option GS) (k : GS -> Prop) : Prop := match g with
 | some g => k g
 | none => False
noncomputable def zjD (a : Option AV) (b : AV) (k : Int -> Int -> Prop) : Prop := match a, b with
 | some (.int x), .int y => k x y
 | _, _ => False
noncomputable def zf8 (v : Option AV) (k : Addr -> Prop) : Prop := match v with
 | some (.list a) => k a
 | _ => False
noncomputable def gb (f : Nat) (P : Prop) : Prop := dec (!(Nat.beq f 9) && Nat.blt f 12) P
mutual
noncomputable def exS : MS -> Loc -> GS -> (Out -> Prop) -> Prop
 | .assign i x, l, g, K => exX C x l g (λ v g => K (.nx (setL l i v) g)) (λ m => K (.xc m))
 | .assignT i j x, l, g, K => exX C x l g (λ v g => asT v λ a b => K (.nx (setL (setL l i a) j b) g)) (λ m => K (.xc m))
 | .assignP i j x y, l, g, K => exX C x l g (λ v g => exX C y l g (λ w g => K (.nx (setL (setL l i v) j w) g)) (λ m => K (.xc m))) (λ m => K (.xc m))
 | .setattr f x, l, g, K => exX C x l g (λ v g => lexC (zQ l 0) (gb f (zf7 (zjb g f v) λ g => K (.nx l g)))) (λ m => K (.xc m))
 | .aug i e, l, g, K => zja (zQ l i) (cnd e l g (zjD (zQ l i) (val e l g) λ x y => K (.nx (setL l i (.int (x + y))) g)))
 | .augattr f e, l, g, K => lexC (zQ l 0) (ou (xG g .lex f) (cnd e l g (zjD (xG g .lex f) (val e l g) λ x y => gb f (zf7 (zjb g f (.int (x + y))) λ g => K (.nx l g)))))
 | .ifs t a b, l, g, K => exX C t l g (λ v g => boC v ((truth v = true -> exL a l g K) /\ (truth v = false -> exL b l g K))) (λ m => K (.xc m))
 | .while t b, l, g, K => zh6 (λ l g Q => exX C t l g Q (λ m => K (.xc m))) (λ l g K => exL b l g K) l g K
 | .ret x, l, g, K => exX C x l g (λ v g => K (.rt v g)) (λ m => K (.xc m))
 | .retNone, _, g, K => K (.rt .none g)
 | .brk, l, g, K => K (.bk l g)
 | .pass, l, g, K => K (.nx l g)
 | .expr x, l, g, K => exX C x l g (λ z g => K (.nx l g)) (λ m => K (.xc m))
 | .app i e, l, g, K => zf8 (zQ l i) λ a => ∃ vs, g.hp a = some vs /\ cnd e l g (vs.length <= 1000000 /\ K (.nx l { g with hp := uV g.hp a (vs ++ [val e l g]) }))
 | .rev i, l, g, K => zf8 (zQ l i) λ a => ∃ vs, g.hp a = some vs /\ vs.length <= 1000000 /\ K (.nx l { g with hp := uV g.hp a vs.reverse })
 | .bufApp e, l, g, K => zhI l g (cnd e l g (zaX (val e l g) (g.buf.length < 1000000 /\ K (.nx l { g with buf := g.buf ++ [xH (val e l g)] }))))
 | .bufNew, l, g, K => lexC (zQ l 0) (zf7 (zjb g 9 .buf) λ g => K (.nx l { g with buf := [] }))
 | .bufKeep e, l, g, K => zhI l g (cnd e l g (zf2 (val e l g) (0 <= vI (val e l g) /\ K (.nx l { g with buf := g.buf.take (vI (val e l g)).toNat }))))
 | .forBytes i e b, l, g, K => cnd e l g (sY (val e l g) (zfo (λ l g K => exL b l g K) i (vB (val e l g)) l g K))
 | .forEnum i j e b, l, g, K => cnd e l g (match val e l g with
   | .lst vs => dec (Nat.ble vs.length 1000) (za5 (λ l g K => exL b l g K) i j vs 0 l g K)
   | _ => False)
 | .raise e, l, g, K => cnd e l g (match val e l g with | .bytes b => b.length <= 1000 /\ K (.xc b) | _ => False)
noncomputable def exL : List MS -> Loc -> GS -> (Out -> Prop) -> Prop
 | [], l, g, K => K (.nx l g)
 | s :: r, l, g, K => exS s l g (zkf (λ l g => exL r l g K) K)
end
end
structure FD where
 nloc : Nat
 nargs : Nat
 body : List MS
noncomputable def yR (args : List AV) (n : Nat) : Loc := args.map some ++ List.replicate (n - args.length) none
noncomputable def yt (Q : QE) (X : XE) : Out -> Prop
 | .rt v g => Q v g
 | .nx _ g => Q .none g
 | .xc m => X m
 | .bk _ _ => False
noncomputable def zh7 (C : Nat -> List AV -> GS -> QE -> XE -> Prop) (d : Option FD) (args : List AV) (g : GS) (Q : QE) (X : XE) : Prop := match d with
 | some d => dec (Nat.beq args.length d.nargs) (exL C d.body (yR args d.nloc) g (yt Q X))
 | none => False
noncomputable def callC (tab : Nat -> Option FD) : Nat -> Nat -> List AV -> GS -> QE -> XE -> Prop
 | 0 => λ z z z z z => False
 | n + 1 => λ f args g Q X => zh7 (callC tab n) (tab f) args g Q X
structure Cfg where
 prog : Program
 w : World
 K : Frag
 p : Program
 loose : List Str
 mean : ExcName -> Option Value
 mg : Str -> Option Value
 mb : Str -> Option Value
 tokC : Addr
 lexC : Addr
 limC : Addr
 excC : Addr
structure Pl where
 news : List (Addr × Obj)
 M : Addr -> Prop
 x : Option Addr
noncomputable def cA (c : Cfg) (k : Nat) : Addr := match k with
 | 0 => c.tokC
 | _ => c.limC
noncomputable def zf (f : Nat) : Str := (yj fieldNames f).getD Str.empty
noncomputable abbrev za6 (ws : List Value) (n : Nat) : Obj := { cls := .type "tuple", data := .seq ws.toArray n }
noncomputable abbrev baO (b : Bs) : Obj := { cls := .type "bytearray", data := .bytearray b.toArray }
noncomputable def Own (P : Pl) (a : Addr) (o : Obj) : Prop := (a, o) ∈ P.news /\ ¬ P.M a
noncomputable def Mut (P : Pl) (a : Addr) (o : Obj) : Prop := (a, o) ∈ P.news /\ P.M a
noncomputable def KV {α : Type} (R : α -> Value -> Prop) : List α -> List DictEntry -> List Nat -> Prop
 | [], [], _ => True
 | v :: vs, e :: es, f :: fs => ((∃ t, e.key = .str (zf f) t) /\ R v e.val) /\ KV R vs es fs
 | _, _, _ => False
noncomputable def yx {α β : Type} (R : α -> β -> Prop) : List α -> List β -> Prop
 | [], [] => True
 | a :: as, b :: bs => R a b /\ yx R as bs
 | _, _ => False
noncomputable def zjf (c : Cfg) (o : Obj) : Prop := ∃ kvs : List (List UInt8 × Value), o.IsDictOf (bytesKind c.prog c.w) kvs /\ ∀ b, match kindOf b zm 257 with
 | some k => ∃ t, valueAt kvs b = some (.int k t)
 | none => valueAt kvs b = none
inductive xX (i : Int) : Value -> Prop
 | mk (t : Tok) : xX i (.int i t)
inductive wU (b : Bs) : Value -> Prop
 | mk (t : Tok) : wU b (.bytes b.toArray t)
inductive za7 (P : Pl) (ws : List Value) : Value -> Prop
 | mk (a : Addr) (n : Nat) : Own P a (za6 ws n) -> za7 P ws (.ref a)
inductive dB (c : Cfg) (P : Pl) (ws : List Value) : Value -> Prop
 | own (a : Addr) (n : Nat) : Own P a (listOf ws.toArray n) -> dB c P ws (.ref a)
 | std (a : Addr) (n : Nat) : (∀ h, c.K.In h -> h.get? a = some (listOf ws.toArray n)) -> dB c P ws (.ref a)
inductive zdx (c : Cfg) (P : Pl) (k : Nat) (ws : List Value) : Value -> Prop
 | mk (a d : Addr) (es : List DictEntry) (n : Nat) : Own P a (instObj (cA c k) d) -> Own P d (dictOf es n) -> KV Eq ws es (zdn k) -> zdx c P k ws (.ref a)
inductive aF (c : Cfg) (P : Pl) : Value -> Prop
 | mk (a : Addr) (o : Obj) : Own P a o -> zjf c o -> (a == sysModules) = false -> aF c P (.ref a)
inductive oh (P : Pl) : Value -> Prop
 | mk (a : Addr) : P.x = some a -> oh P (.ref a)
mutual
noncomputable def VR (c : Cfg) (P : Pl) : AV -> Value -> Prop
 | .none, v => Value.none = v
 | .bool b, v => Value.bool b = v
 | .int i, v => xX i v
 | .bytes b, v => wU b v
 | .tup vs, v => ∃ ws, VRs c P vs ws /\ za7 P ws v
 | .lst vs, v => ∃ ws, VRs c P vs ws /\ dB c P ws v
 | .list a, v => Value.ref a = v
 | .inst k vs, v => ∃ ws, VRs c P vs ws /\ zdx c P k ws v
 | .lex, v => oh P v
 | .buf, _ => False
 | .kinds, v => aF c P v
noncomputable def VRs (c : Cfg) (P : Pl) : List AV -> List Value -> Prop
 | [], ws => [] = ws
 | v :: vs, ws => match ws with
  | [] => False
  | w :: r => VR c P v w /\ VRs c P vs r
end
section
variable {α β : Type} {R R' : α -> β -> Prop}
theorem yx.ind {M : List α -> List β -> Prop} (n : M [] []) (k : ∀ a b as bs, R a b -> M as bs -> M (a :: as) (b :: bs)) : ∀ as bs, yx R as bs -> M as bs := λ as => by
 induction as with
 | nil => exact λ bs => List.rec (λ z => n) (λ z z z h => h.elim) bs
 | cons a as ih => exact λ bs => List.rec (λ h => h.elim) (λ b bs z h => k a b as bs h.1 (ih bs h.2)) bs
theorem yx.mono (k : ∀ a b, R a b -> R' a b) {as : List α} {bs : List β} (h : yx R as bs) : yx R' as bs := yx.ind (M := yx R') trivial (λ z z z z h i => ⟨k _ _ h, i⟩) as bs h
theorem yx.len {as : List α} {bs : List β} (h : yx R as bs) : bs.length = as.length := yx.ind (R := R) (M := λ (as : List α) (bs : List β) => bs.length = as.length) rfl (λ z z z z z i => congrArg (· + 1) i) as bs h
theorem yx.get {as : List α} {bs : List β} (h : yx R as bs) : ∀ {i : Nat} {a : α}, yj as i = some a -> ∃ b, yj bs i = some b /\ R a b :=
 yx.ind (R := R) (M := λ as bs => ∀ {i : Nat} {a : α}, yj as i = some a -> ∃ b, yj bs i = some b /\ R a b) (λ e => (nomatch e)) (λ a b as bs h ih i => Nat.rec (λ e => ⟨b, rfl, sIJ e ▸ h⟩) (λ z z e => ih e) i) as bs h
theorem yx.append {as' : List α} {bs' : List β} (h' : yx R as' bs') {as : List α} {bs : List β} (h : yx R as bs) : yx R (as ++ as') (bs ++ bs') := yx.ind (R := R) (M := λ as bs => yx R (as ++ as') (bs ++ bs')) h' (λ z z z z h i => ⟨h, i⟩) as bs h
theorem yx.one {a : α} {b : β} (h : R a b) : yx R [a] [b] := ⟨h, trivial⟩
theorem yx.rev {as : List α} {bs : List β} (h : yx R as bs) : yx R as.reverse bs.reverse :=
 yx.ind (R := R) (M := λ as bs => ∀ as' bs', yx R as' bs' -> yx R (as.reverseAux as') (bs.reverseAux bs')) (λ z z h => h) (λ a b as bs h ih as' bs' h' => ih (a :: as') (b :: bs') ⟨h, h'⟩) as bs h [] [] trivial
end
theorem VRs.to {c : Cfg} {P : Pl} : ∀ {vs : List AV} {ws : List Value}, VRs c P vs ws -> yx (VR c P) vs ws := λ {vs} => by
 induction vs with
 | nil => exact λ {ws} h => (show [] = ws from h) ▸ (trivial : yx (VR c P) [] [])
 | cons v vs ih => exact λ {ws} => List.rec (λ h => h.elim) (λ w ws z h => ⟨h.1, ih h.2⟩) ws
theorem VRs.of {c : Cfg} {P : Pl} {vs : List AV} {ws : List Value} (h : yx (VR c P) vs ws) : VRs c P vs ws := yx.ind (M := VRs c P) rfl (λ z z z z h i => ⟨h, i⟩) vs ws h
theorem gj {α : Type} {x : α} {l : List α} : ∀ {i : Nat}, yj l i = some x -> x ∈ l := by
 induction l with
 | nil => exact λ e => (nomatch e)
 | cons y l ih => exact λ {i} => Nat.rec (λ e => sIJ e ▸ .head _) (λ z z e => .tail _ (ih e)) i
theorem gk {α β : Type} (k : α -> β) {l : List α} {x : α} : ∀ {i : Nat}, yj l i = some x -> yj (l.map k) i = some (k x) := by
 induction l with
 | nil => exact λ e => (nomatch e)
 | cons y l ih => exact λ {i} => Nat.rec (λ e => congrArg some (congrArg k (sIJ e))) (λ z z e => ih e) i
theorem zf9 {α : Type} {x : α} {l : List α} : ∀ {i j : Nat}, l.Nodup -> yj l i = some x -> yj l j = some x -> i = j := by
 induction l with
 | nil => exact λ z e => (nomatch e)
 | cons y l ih =>
  intro i j nd e e'
  have n := List.nodup_cons.mp nd
  cases i with
  | zero => cases j with
   | zero => rfl
   | succ j => exact (n.1 ((sIJ e).symm ▸ gj e')).elim
  | succ i => cases j with
   | zero => exact (n.1 ((sIJ e').symm ▸ gj e)).elim
   | succ j => exact congrArg (· + 1) (ih n.2 e e')
structure Ext (P P' : Pl) : Prop where
 own : ∀ a o, Own P a o -> Own P' a o
 xs : ∀ a, P.x = some a -> P'.x = some a
theorem Ext.refl (P : Pl) : Ext P P := ⟨λ z z h => h, λ z h => h⟩
theorem Ext.trans {P Q R : Pl} (a : Ext P Q) (b : Ext Q R) : Ext P R := ⟨λ x o h => b.own x o (a.own x o h), λ x h => b.xs x (a.xs x h)⟩
noncomputable def kW (s : String) : Bool := s == "bytes_iterator" || (s == "enumerate" || s == "list_iterator")
noncomputable def noIt (o : Obj) : Bool := match o.cls with
 | .type s => !(kW s)
 | _ => true
structure gn (P P' : Pl) : Prop where
 own : ∀ a o, noIt o = true -> Own P a o -> Own P' a o
 xs : ∀ a, P.x = some a -> P'.x = some a
theorem Ext.V {P P' : Pl} (E : Ext P P') : gn P P' := ⟨λ a o z => E.own a o, E.xs⟩
theorem zh8 : (!(kW "tuple")) = true := by decide +kernel
theorem za8 : (!(kW "list")) = true := by decide +kernel
theorem gq : (!(kW "dict")) = true := by decide +kernel
theorem zjf.noIt {c : Cfg} {o : Obj} : zjf c o -> noIt o = true := λ ⟨_, ⟨_, _, h, _⟩, _⟩ => by
 unfold Mine.noIt
 rw [h.1]
 exact gq
theorem za7.mono {P P' : Pl} (E : gn P P') {ws : List Value} {w : Value} (h : za7 P ws w) : za7 P' ws w := za7.rec (motive := λ w z => za7 P' ws w) (λ a n o => .mk a n (E.own _ _ zh8 o)) h
theorem dB.mono {c : Cfg} {P P' : Pl} (E : gn P P') {ws : List Value} {w : Value} (h : dB c P ws w) : dB c P' ws w := dB.rec (motive := λ w z => dB c P' ws w) (λ a n o => .own a n (E.own _ _ za8 o)) (λ a n o => .std a n o) h
theorem zdx.mono {c : Cfg} {P P' : Pl} (E : gn P P') {k : Nat} {ws : List Value} {w : Value} (h : zdx c P k ws w) : zdx c P' k ws w := zdx.rec (motive := λ w z => zdx c P' k ws w) (λ a d es n o o2 kv => .mk a d es n (E.own _ _ rfl o) (E.own _ _ gq o2) kv) h
theorem aF.mono {c : Cfg} {P P' : Pl} (E : gn P P') {w : Value} (h : aF c P w) : aF c P' w := aF.rec (motive := λ w z => aF c P' w) (λ a o h k e => .mk a o (E.own _ _ k.noIt h) k e) h
theorem oh.monoV {P P' : Pl} (E : gn P P') {w : Value} (h : oh P w) : oh P' w := oh.rec (motive := λ w z => oh P' w) (λ a e => .mk a (E.xs a e)) h
theorem oh.mono {P P' : Pl} (E : Ext P P') {w : Value} (h : oh P w) : oh P' w := h.monoV E.V
mutual
theorem VR.monoV {c : Cfg} {P P' : Pl} (E : gn P P') : ∀ (v : AV) {w : Value}, VR c P v w -> VR c P' v w
 | .none, _, h => h
 | .bool _, _, h => h
 | .int _, _, h => h
 | .bytes _, _, h => h
 | .tup vs, _, h => Exists.imp (λ z h => ⟨VRs.monoV E vs h.1, h.2.mono E⟩) h
 | .lst vs, _, h => Exists.imp (λ z h => ⟨VRs.monoV E vs h.1, h.2.mono E⟩) h
 | .list _, _, h => h
 | .inst _ vs, _, h => Exists.imp (λ z h => ⟨VRs.monoV E vs h.1, h.2.mono E⟩) h
 | .lex, _, h => oh.monoV E h
 | .buf, _, h => h
 | .kinds, _, h => aF.mono E h
theorem VRs.monoV {c : Cfg} {P P' : Pl} (E : gn P P') : ∀ (vs : List AV) {ws : List Value}, VRs c P vs ws -> VRs c P' vs ws
 | [], _, h => h
 | v :: vs, _ :: _, h => ⟨VR.monoV E v h.1, VRs.monoV E vs h.2⟩
end
theorem VR.mono {c : Cfg} {P P' : Pl} (E : Ext P P') (v : AV) {w : Value} (h : VR c P v w) : VR c P' v w := VR.monoV E.V v h
structure Frm where
 A₁ : Around
 base : Heap
 h₀ : Heap
 outer : List Env
 qual : Str
 scope : Scope
 L : Addr
 fa : Addr
 cd : Value
noncomputable def Frm.env (f : Frm) : Env := envOf f.qual f.scope f.L f.fa f.cd
noncomputable def Frm.A (f : Frm) : Around := f.A₁.deeper f.env
noncomputable def FR (c : Cfg) (P : Pl) (b : Addr) (v : AV) (w : Value) : Prop := (v = .buf /\ w = .ref b) \/ VR c P v w
theorem FR.monoV {c : Cfg} {P P' : Pl} (E : gn P P') {b : Addr} {v : AV} {w : Value} (h : FR c P b v w) : FR c P' b v w := h.imp id (VR.monoV E v)
theorem FR.mono {c : Cfg} {P P' : Pl} (E : Ext P P') {b : Addr} {v : AV} {w : Value} (h : FR c P b v w) : FR c P' b v w := h.monoV E.V
theorem FR.plain {c : Cfg} {P : Pl} {b : Addr} {v : AV} {w : Value} (h : FR c P b v w) (hp : kI v = true) : VR c P v w := h.elim (λ q => by rw [q.1] at hp; cases hp) id
structure zhL (c : Cfg) (P : Pl) (bf : Bs) (fs : List AV) (x d b : Addr) (es : List DictEntry) (n : Nat) : Prop where
 px : P.x = some x
 ox : Own P x (instObj c.lexC d)
 od : Mut P d (dictOf es n)
 kv : KV (FR c P b) fs es zh0
 buf : 9 < fs.length -> yj fs 9 = some .buf /\ Mut P b (baO bf)
 only : ∀ i, yj fs i = some .buf -> i = 9
inductive zfp (c : Cfg) (P : Pl) (bf : Bs) (fs : List AV) : Prop
 | mk (x d b : Addr) (es : List DictEntry) (n : Nat) (h : zhL c P bf fs x d b es n) : zfp c P bf fs
inductive HpR (c : Cfg) (P : Pl) (a : Addr) (vs : List AV) : Prop
 | mk (ws : List Value) (n : Nat) (o : Mut P a (listOf ws.toArray n)) (h : yx (VR c P) vs ws) : HpR c P a vs
structure StR (c : Cfg) (P : Pl) (g : GS) : Prop where
 lex : ∀ fs, g.lx = some fs -> zfp c P g.buf fs
 hp : ∀ a vs, g.hp a = some vs -> HpR c P a vs
 nl : g.lx = none -> P.x = none
structure Led (P : Pl) : Prop where
 nd : (P.news.map (·.1)).Nodup
 mem : ∀ a, P.M a -> a ∈ P.news.map (·.1)
inductive zhM (c : Cfg) (P : Pl) (m : Str -> Option Value) (x : Str) (v : AV) : Prop
 | mk (w : Value) (e : m x = some w) (h : VR c P v w) : zhM c P m x v
noncomputable def zkK (c : Cfg) (P : Pl) (names : List (Str × NameKind)) (m : Str -> Option Value) (l : Loc) : Prop := ∀ i v x, zQ l i = some v -> yj names i = some (x, .local) -> zhM c P m x v
structure Lc where
 l : Loc
 g : GS
 m : Str -> Option Value
structure Cx where
 c : Cfg
 f : Frm
structure Wd where
 P : Pl
 s : Shared
structure Rl (x : Cx) (y : Lc) (a : Wd) : Prop where
 F : Fr x.f.h₀ x.f.L a.s.heap y.m
 N : News x.f.h₀ x.f.L a.s.heap a.P.news
 led : Led a.P
 st : StR x.c a.P y.g
 loc : zkK x.c a.P x.f.scope.names y.m y.l
structure Up (a b : Wd) : Prop where
 ext : Ext a.P b.P
 st : b.s = { a.s with heap := b.s.heap, toks := b.s.toks }
theorem Up.refl (a : Wd) : Up a a := ⟨Ext.refl _, rfl⟩
theorem Up.trans {a b d : Wd} (u : Up a b) (v : Up b d) : Up a d := ⟨u.ext.trans v.ext, by rw [v.st, u.st]⟩
structure At (x : Cx) (y : Lc) (a : Wd) (v : AV) (w : Value) (b : Wd) : Prop where
 R : Rl x y b
 u : Up a b
 v : VR x.c b.P v w
theorem At.up {x : Cx} {y : Lc} {a b d : Wd} {v : AV} {w : Value} (h : At x y b v w d) (u : Up a b) : At x y a v w d := ⟨h.R, u.trans h.u, h.v⟩
theorem At.tk {x : Cx} {y : Lc} {a b : Wd} {v v' : AV} {w w' : Value} (h : At x y a v w b) (hv : VR x.c b.P v' w') {t : Nat} : At x y a v' w' ⟨b.P, { b.s with toks := t }⟩ :=
 ⟨⟨h.R.F, h.R.N, h.R.led, h.R.st, h.R.loc⟩, ⟨h.u.ext, by rw [h.u.st]⟩, hv⟩
noncomputable abbrev Go (x : Cx) (y : Lc) (a : Wd) (Q : Prop) (v : AV) (Qc : Value -> Shared -> Prop) : Prop := Q -> ∀ w b, At x y a v w b -> Qc w b.s
theorem Go.up {x : Cx} {y : Lc} {a b : Wd} {Q : Prop} {v : AV} {Qc : Value -> Shared -> Prop} (k : Go x y a Q v Qc) (u : Up a b) : Go x y b Q v Qc := λ q w d h => k q w d (h.up u)
theorem za9 : ∀ f : Fin 23, ∀ g : Fin 23, zf f.val = zf g.val -> f = g := by decide +kernel
theorem wG {f g : Nat} (hf : f < 23) (hg : g < 23) (e : zf f = zf g) : f = g := congrArg Fin.val (za9 ⟨f, hf⟩ ⟨g, hg⟩ e)
noncomputable def oK (fs : List Nat) : Prop := ∀ f ∈ fs, f < 23
theorem kY : oK zh0 := by unfold oK; decide
theorem qy (k : Nat) : oK (zdn k) := match k with
 | 0 => by unfold oK; decide
 | _ + 1 => (by unfold oK; decide : oK rM)
theorem qz {f : Nat} {e : DictEntry} (he : ∃ t, e.key = .str (zf f) t) : e.key.isStr (zf f) = true := by
 obtain ⟨t, he⟩ := he
 rw [he]
 exact beq_self_eq_true (zf f)
theorem vY {f : Nat} {x : Str} {e : DictEntry} (he : ∃ t, e.key = .str (zf f) t) (h : zf f ≠ x) : e.key.isStr x = false := by
 obtain ⟨t, he⟩ := he
 rw [he]
 exact beq_eq_false_iff_ne.mpr h
theorem qC {f : Nat} {e : DictEntry} (he : ∃ t, e.key = .str (zf f) t) : e.refKey = false := by
 obtain ⟨t, he⟩ := he
 unfold DictEntry.refKey
 rw [he]
theorem zdy {n : Str} {e : DictEntry} {es : List DictEntry} (h : e.key.isStr n = true) : getL n (e :: es) = some (some e.val) := by
 unfold getL
 rw [List.find?_cons, h]
theorem gw {n : Str} {e : DictEntry} {es : List DictEntry} (h : e.key.isStr n = false) (r : e.refKey = false) : getL n (e :: es) = getL n es := by
 unfold getL
 rw [List.find?_cons, h, List.any_cons, r]
 rfl
theorem vZ {x f i : Nat} {fs : List Nat} (e : vH (x :: fs) f = some i) : (x = f /\ i = 0) \/ x ≠ f /\ ∃ j, vH fs f = some j /\ i = j + 1 := by
 unfold vH at e
 cases q : Nat.beq x f with
 | true => rw [q] at e; exact .inl ⟨Nat.eq_of_beq_eq_true q, (sIJ e).symm⟩
 | false =>
  rw [q] at e
  cases p : vH fs f with
  | none => rw [p] at e; cases e
  | some j => rw [p] at e; exact .inr ⟨Nat.ne_of_beq_eq_false q, j, rfl, (sIJ e).symm⟩
section
variable {α : Type} {R : α -> Value -> Prop}
theorem KV.ind {M : List α -> List DictEntry -> List Nat -> Prop} (n : ∀ fs, M [] [] fs) (k : ∀ v vs e es f fs, (∃ t, e.key = .str (zf f) t) -> R v e.val -> KV R vs es fs -> M vs es fs -> M (v :: vs) (e :: es) (f :: fs)) : ∀ vs es fs, KV R vs es fs -> M vs es fs := λ vs => by
 induction vs with
 | nil => exact λ es => List.rec (λ fs z => n fs) (λ z z z z h => h.elim) es
 | cons v vs ih => exact λ es => List.rec (λ z h => h.elim) (λ e es z fs => List.rec (λ h => h.elim) (λ f fs z h => k v vs e es f fs h.1.1 h.1.2 h.2 (ih es fs h.2)) fs) es
theorem KV.noRef {vs : List α} {es : List DictEntry} {fs : List Nat} (h : KV R vs es fs) : es.any (·.refKey) = false :=
 KV.ind (R := R) (M := λ z es z => es.any (·.refKey) = false) (λ z => rfl) (λ v vs e es f fs he z z ih => by rw [List.any_cons, qC he, ih]; rfl) vs es fs h
theorem KV.len {vs : List α} {es : List DictEntry} {fs : List Nat} (h : KV R vs es fs) : es.length = vs.length :=
 KV.ind (R := R) (M := λ (vs : List α) (es : List DictEntry) _ => es.length = vs.length) (λ z => rfl) (λ z z z z z z z z z ih => congrArg (· + 1) ih) vs es fs h
theorem KV.le {vs : List α} {es : List DictEntry} {fs : List Nat} (h : KV R vs es fs) : vs.length <= fs.length :=
 KV.ind (R := R) (M := λ (vs : List α) _ fs => vs.length <= fs.length) (λ z => Nat.zero_le _) (λ z z z z z z z z z ih => Nat.succ_le_succ ih) vs es fs h
theorem KV.mono {R' : α -> Value -> Prop} (k : ∀ v w, R v w -> R' v w) {vs : List α} {es : List DictEntry} {fs : List Nat} (h : KV R vs es fs) : KV R' vs es fs :=
 KV.ind (R := R) (M := KV R') (λ z => trivial) (λ z z z z z z he h z ih => ⟨⟨he, k _ _ h⟩, ih⟩) vs es fs h
theorem KV.get {f : Nat} (hf : f < 23) {vs : List α} {es : List DictEntry} {fs : List Nat} (h : KV R vs es fs) : oK fs -> ∀ {i : Nat} {v : α}, vH fs f = some i -> yj vs i = some v -> ∃ w, getL (zf f) es = some (some w) /\ R v w :=
 KV.ind (R := R) (M := λ (vs : List α) (es : List DictEntry) fs => oK fs -> ∀ {i : Nat} {v : α}, vH fs f = some i -> yj vs i = some v -> ∃ w, getL (zf f) es = some (some w) /\ R v w) (λ y y y y y e => (nomatch e))
  (λ v vs e es g fs he h y ih a i u p q => (vZ p).elim
   (λ z => by
    obtain ⟨rfl, rfl⟩ := z
    exact ⟨e.val, zdy (qz he), sIJ q ▸ h⟩)
   (λ z => by
    obtain ⟨n, j, z, rfl⟩ := z
    obtain ⟨w, e1, e2⟩ := ih (λ x hx => a x (.tail _ hx)) z q
    exact ⟨w, (gw (vY he λ x => n (wG (a g (.head _)) hf x)) (qC he)).trans e1, e2⟩)) vs es fs h
theorem KV.absent {x : Str} {vs : List α} {es : List DictEntry} {fs : List Nat} (h : KV R vs es fs) : (fs.all λ f => !(zf f == x)) = true -> getL x es = some none :=
 KV.ind (R := R) (M := λ z es fs => (fs.all λ f => !(zf f == x)) = true -> getL x es = some none) (λ z z => rfl)
  (λ v vs e es f fs he z z ih a => by
   have a := Bool.and_eq_true_iff.mp (List.all_cons ▸ a)
   exact (gw (vY he (bne_iff_ne.mp a.1)) (qC he)).trans (ih a.2)) vs es fs h
theorem kZ {x : Str} {vs : List α} {es : List DictEntry} {fs : List Nat} (h : KV R vs es fs) : (getL x es).isSome = true := by
 unfold getL
 cases es.find? (·.key.isStr x) with
 | some e => rfl
 | none => rw [KV.noRef h]; rfl
end
theorem KV.put {R : AV -> Value -> Prop} {f : Nat} {v : AV} {w : Value} {hs : Int} {t : Tok} (hf : f < 23) (hv : R v w) : ∀ {fs : List Nat} {vs vs' : List AV} {es : List DictEntry} {i : Nat}, KV R vs es fs -> oK fs -> vH fs f = some i -> pZ vs i v = some vs' -> KV R vs' (putL (zf f) hs (.str (zf f) t) w es) fs := λ {fs} => by
 induction fs with
 | nil => exact λ y y p => (nomatch p)
 | cons g fs ih =>
  intro vs vs' es i h a p q
  rcases vZ p with ⟨e1, e2⟩ | ⟨n, j, z, e2⟩
  ·subst e1 e2
   cases vs with
   | nil => cases es with
    | nil => rw [<- sIJ q]; exact ⟨⟨⟨t, rfl⟩, hv⟩, trivial⟩
    | cons => exact h.elim
   | cons u vs => cases es with
    | nil => exact h.elim
    | cons e es =>
     rw [<- sIJ q]
     unfold putL
     rw [if_pos (qz h.1.1)]
     exact ⟨⟨h.1.1, hv⟩, h.2⟩
  ·subst e2
   cases vs with
   | nil => cases q
   | cons u vs => cases es with
    | nil => exact h.elim
    | cons e es =>
     obtain ⟨us, q2, e3⟩ := Option.map_eq_some_iff.mp (show (pZ vs j v).map (u :: ·) = some vs' from q)
     subst e3
     unfold putL
     rw [if_neg (by rw [vY h.1.1 λ x => n (wG (a g (.head _)) hf x)]; exact Bool.false_ne_true)]
     exact ⟨h.1, ih h.2 (λ x hx => a x (.tail _ hx)) z q2⟩
noncomputable def zaM (d : Addr) (o : Obj) : List (Addr × Obj) -> List (Addr × Obj)
 | [] => []
 | p :: r => if p.1 = d then (d, o) :: r else p :: zaM d o r
noncomputable abbrev Pl.keys (P : Pl) : List Addr := P.news.map (·.1)
noncomputable abbrev Pl.push (P : Pl) (a : Addr) (o : Obj) : Pl := ⟨(a, o) :: P.news, P.M, P.x⟩
noncomputable abbrev Pl.pushM (P : Pl) (a : Addr) (o : Obj) : Pl := ⟨(a, o) :: P.news, λ b => b = a \/ P.M b, P.x⟩
noncomputable abbrev Pl.upd (P : Pl) (d : Addr) (o : Obj) : Pl := ⟨zaM d o P.news, P.M, P.x⟩
theorem mem_keys {a : Addr} {o : Obj} {l : List (Addr × Obj)} (h : (a, o) ∈ l) : a ∈ l.map (·.1) := List.mem_map_of_mem (f := (·.1)) h
theorem jc (d : Addr) (o : Obj) (l : List (Addr × Obj)) : (zaM d o l).map (·.1) = l.map (·.1) := by
 induction l with
 | nil => rfl
 | cons p r ih =>
  unfold zaM
  by_cases h : p.1 = d
  ·rw [if_pos h]; exact congrArg (· :: r.map (·.1)) h.symm
  ·rw [if_neg h]; exact congrArg (p.1 :: ·) ih
theorem dD {d : Addr} {o o' : Obj} {l : List (Addr × Obj)} : (l.map (·.1)).Nodup -> (d, o) ∈ l -> Upd d o o' l (zaM d o' l) := by
 induction l with
 | nil => exact λ z m => (nomatch m)
 | cons p r ih =>
  intro nd m
  have nd := List.nodup_cons.mp nd
  unfold zaM
  by_cases h : p.1 = d
  ·rw [if_pos h]
   have hr : ∀ q ∈ r, q.1 ≠ d := λ q hq e => nd.1 (show p.1 ∈ r.map (·.1) by rw [h, <- e]; exact List.mem_map_of_mem (f := (·.1)) hq)
   rcases mCM m with m | m
   ·rw [<- m]; exact .head hr
   ·exact (hr _ m rfl).elim
  ·rw [if_neg h]
   rcases mCM m with m | m
   ·exact (h (m ▸ rfl)).elim
   ·exact .tail h (ih nd.2 m)
theorem jd {d : Addr} {o : Obj} {l : List (Addr × Obj)} : d ∈ l.map (·.1) -> (d, o) ∈ zaM d o l := by
 induction l with
 | nil => exact λ m => (nomatch m)
 | cons p r ih =>
  intro h
  unfold zaM
  by_cases q : p.1 = d
  ·rw [if_pos q]; exact .head _
  ·rw [if_neg q]; exact .tail _ (ih ((mCM h).resolve_left λ e => q e.symm))
theorem wH {d a : Addr} {o oa : Obj} (ne : a ≠ d) {l : List (Addr × Obj)} : (a, oa) ∈ l -> (a, oa) ∈ zaM d o l := by
 induction l with
 | nil => exact λ m => (nomatch m)
 | cons p r ih =>
  intro h
  unfold zaM
  by_cases q : p.1 = d
  ·rw [if_pos q]; exact .tail _ ((mCM h).resolve_left λ e => ne ((congrArg Prod.fst e).trans q))
  ·rw [if_neg q]; exact List.mem_cons.mpr ((mCM h).imp_right ih)
theorem key_eq {l : List (Addr × Obj)} {a : Addr} {o o' : Obj} : (l.map (·.1)).Nodup -> (a, o) ∈ l -> (a, o') ∈ l -> o = o' := by
 induction l with
 | nil => exact λ z h => (nomatch h)
 | cons p r ih =>
  intro nd h h'
  have nd := List.nodup_cons.mp nd
  rcases mCM h with e | h
  ·rcases mCM h' with e' | h'
   ·exact congrArg Prod.snd (e.trans e'.symm)
   ·exact (nd.1 (e ▸ mem_keys h')).elim
  ·rcases mCM h' with e' | h'
   ·exact (nd.1 (e' ▸ mem_keys h)).elim
   ·exact ih nd.2 h h'
theorem mR {h₀ h h' : Heap} {L a : Addr} {news : List (Addr × Obj)} {o o' : Obj} (N : News h₀ L h news) (nd : (news.map (·.1)).Nodup) (hm : (a, o) ∈ news) (hs : Heap.SameBut a h h') (ho : h'.get? a = some o') : News h₀ L h' (zaM a o' news) := by
 obtain ⟨pre, post, e1, e2, a1, a2⟩ := (dD (o' := o') nd hm).split
 rw [e2]
 rw [e1] at N
 exact N.setIn a1 a2 hs ho
section
variable {c : Cfg} {P P' : Pl} {g : GS} {a b d : Addr} {o o' : Obj}
theorem Mut.ne (L : Led P) (h : Mut P a o) (h' : Mut P b o') (hc : o.cls ≠ o'.cls) : a ≠ b := λ e => hc (congrArg Obj.cls (key_eq L.nd h.1 (e ▸ h'.1)))
structure vL (P P' : Pl) : Prop where
 ext : Ext P P'
 mu : ∀ a o, Mut P a o -> Mut P' a o
 x : P'.x = P.x
theorem vL.push : vL P (P.push a o) := ⟨⟨λ z z h => ⟨.tail _ h.1, h.2⟩, λ z h => h⟩, λ z z h => ⟨.tail _ h.1, h.2⟩, rfl⟩
theorem vL.pushM (hf : a ∉ P.keys) : vL P (P.pushM a o) := ⟨⟨λ z z h => ⟨.tail _ h.1, λ q => q.elim (λ e => hf (e ▸ mem_keys h.1)) h.2⟩, λ z h => h⟩, λ z z h => ⟨.tail _ h.1, .inr h.2⟩, rfl⟩
theorem Ext.upd (hM : P.M d) : Ext P (P.upd d o) := ⟨λ a z h => ⟨wH (λ e : a = d => h.2 (e ▸ hM)) h.1, h.2⟩, λ z h => h⟩
theorem Mut.upd (h : Mut P a o') (n : a ≠ d) : Mut (P.upd d o) a o' := ⟨wH n h.1, h.2⟩
theorem Mut.set (h : Mut P a o') : Mut (P.upd a o) a o := ⟨jd (mem_keys h.1), h.2⟩
theorem Led.push (L : Led P) (h : a ∉ P.keys) : Led (P.push a o) := ⟨List.nodup_cons.mpr ⟨h, L.nd⟩, λ b q => .tail _ (L.mem b q)⟩
theorem Led.pushM (L : Led P) (h : a ∉ P.keys) : Led (P.pushM a o) := ⟨List.nodup_cons.mpr ⟨h, L.nd⟩, λ b q => List.mem_cons.mpr (q.imp_right (L.mem b))⟩
theorem Led.upd (L : Led P) : Led (P.upd d o) := ⟨jc d o P.news ▸ L.nd, λ b q => jc d o P.news ▸ L.mem b q⟩
theorem zfp.keep {bf : Bs} {fs : List AV} (E : gn P P') (k : ∀ a o, Mut P a o -> o.cls ≠ .type "list" -> Mut P' a o) (h : zfp c P bf fs) : zfp c P' bf fs := by
 obtain ⟨x, d, b, es, n, h⟩ := h
 exact ⟨x, d, b, es, n, E.xs _ h.px, E.own _ _ rfl h.ox, k _ _ h.od (by decide +kernel : ¬ Value.type "dict" = Value.type "list"), h.kv.mono λ z z => FR.monoV E, λ q => ⟨(h.buf q).1, k _ _ (h.buf q).2 (by decide +kernel : ¬ Value.type "bytearray" = Value.type "list")⟩, h.only⟩
theorem HpR.keep {vs : List AV} (E : gn P P') (h : HpR c P a vs) (k : ∀ ws n, Mut P a (listOf ws n) -> Mut P' a (listOf ws n)) : HpR c P' a vs := by
 obtain ⟨ws, n, o, h⟩ := h
 exact ⟨ws, n, k _ _ o, h.mono λ v z => VR.monoV E v⟩
theorem StR.grow (S : StR c P g) (G : vL P P') : StR c P' g :=
 ⟨λ fs e => (S.lex fs e).keep G.ext.V λ a o h z => G.mu a o h, λ a vs e => (S.hp a vs e).keep G.ext.V λ z z => G.mu _ _, λ e => G.x.trans (S.nl e)⟩
theorem je {hp : Addr -> Option (List AV)} {vs us : List AV} {C : Addr -> List AV -> Prop} (h : uV hp a vs b = some us) (y : C a vs) (n : b ≠ a -> hp b = some us -> C b us) : C b us := by
 unfold uV at h
 by_cases q : b = a
 ·rw [if_pos q] at h
  rw [q]
  exact sIJ h ▸ y
 ·rw [if_neg q] at h
  exact n q h
theorem StR.newL {vs : List AV} (S : StR c P g) (h : HpR c P a vs) : StR c P { g with hp := uV g.hp a vs } :=
 ⟨S.lex, λ b us e => je (C := HpR c P) e h λ z e => S.hp b us e, S.nl⟩
theorem StR.setL {vs us : List AV} {us' : List Value} {k : Nat} (L : Led P) (S : StR c P g) (hp : g.hp a = some vs) (hv : yx (VR c P) us us') : StR c (P.upd a (listOf us'.toArray k)) { g with hp := uV g.hp a us } := by
 obtain ⟨ws, n, o, h⟩ := S.hp a vs hp
 have E : Ext P (P.upd a (listOf us'.toArray k)) := Ext.upd o.2
 exact ⟨λ fs e => (S.lex fs e).keep E.V λ b o' q hc => q.upd (q.ne L o hc), λ b ts e => je (C := HpR c _) e
  ⟨us', k, o.set, hv.mono λ v y => VR.mono E v⟩ λ q e => (S.hp b ts e).keep E.V λ y y z => z.upd q, S.nl⟩
theorem StR.setX {fs : List AV} {bf : Bs} (S : StR c P g) (E : Ext P P') (k : ∀ a ws n, Mut P a (listOf ws n) -> Mut P' a (listOf ws n)) (h : zfp c P' bf fs) : StR c P' { g with lx := some fs, buf := bf } :=
 ⟨λ gs e => sIJ e ▸ h, λ a vs e => (S.hp a vs e).keep E.V λ z z => k a _ _, λ e => (nomatch e)⟩
theorem zhM.mono {m : Str -> Option Value} {x : Str} {v : AV} (E : gn P P') (h : zhM c P m x v) : zhM c P' m x v := by
 obtain ⟨w, e, h⟩ := h
 exact ⟨w, e, VR.monoV E v h⟩
end
theorem aG {l : Loc} {i j : Nat} {v u : AV} : zQ (setL l i v) j = some u -> (j = i /\ u = v) \/ (j ≠ i /\ zQ l j = some u) := by
 induction l generalizing i j with
 | nil => exact λ e => (nomatch e)
 | cons a l ih =>
  cases i with
  | zero => cases j with
   | zero => exact λ e => .inl ⟨rfl, (sIJ e).symm⟩
   | succ j => exact λ e => .inr ⟨Nat.succ_ne_zero j, e⟩
  | succ i => cases j with
   | zero => exact λ e => .inr ⟨(Nat.succ_ne_zero i).symm, e⟩
   | succ j => exact λ e => (ih (i := i) (j := j) e).imp (λ h => ⟨congrArg (· + 1) h.1, h.2⟩) λ h => ⟨λ q => h.1 (Nat.succ.inj q), h.2⟩
section
variable {x : Cx} {y : Lc} {a b : Wd}
theorem Rl.fresh (R : Rl x y a) : a.s.heap.objs.size ∉ a.P.keys := λ q => by
 obtain ⟨p, hp, e⟩ := List.mem_map.mp q
 exact Nat.lt_irrefl _ (e ▸ Heap.lt_size (R.N p hp).1)
theorem Rl.move (R : Rl x y a) {P' : Pl} {g' : GS} {h' : Heap} {t : Nat} (E : Ext a.P P') (F : Fr x.f.h₀ x.f.L h' y.m) (N : News x.f.h₀ x.f.L h' P'.news) (L : Led P') (S : StR x.c P' g') : Rl x ⟨y.l, g', y.m⟩ ⟨P', { a.s with heap := h', toks := t }⟩ :=
 ⟨F, N, L, S, λ i v z e n => (R.loc i v z e n).mono E.V⟩
theorem Rl.grown (R : Rl x y a) {h' : Heap} {t : Nat} (hk : ∀ b o, a.s.heap.get? b = some o -> h'.get? b = some o) : Rl x y ⟨a.P, { a.s with heap := h', toks := t }⟩ := ⟨R.F.keeps hk, R.N.keepsAll hk, R.led, R.st, R.loc⟩
theorem Rl.push (R : Rl x y a) {o : Obj} {d : Addr} {h' : Heap} {t : Nat} (hf : d ∉ a.P.keys) (F : Fr x.f.h₀ x.f.L h' y.m) (N : News x.f.h₀ x.f.L h' ((d, o) :: a.P.news)) : Rl x y ⟨a.P.push d o, { a.s with heap := h', toks := t }⟩ :=
 R.move vL.push.ext F N (R.led.push hf) (R.st.grow vL.push)
theorem Rl.pushL (R : Rl x y a) {vs : List AV} {ws : List Value} {d : Addr} {n : Nat} {h' : Heap} {t : Nat} (hf : d ∉ a.P.keys) (hv : yx (VR x.c a.P) vs ws) (F : Fr x.f.h₀ x.f.L h' y.m) (N : News x.f.h₀ x.f.L h' ((d, listOf ws.toArray n) :: a.P.news)) :
  Rl x ⟨y.l, { y.g with hp := uV y.g.hp d vs }, y.m⟩ ⟨a.P.pushM d (listOf ws.toArray n), { a.s with heap := h', toks := t }⟩ :=
 R.move (vL.pushM hf).ext F N (R.led.pushM hf) ((R.st.grow (vL.pushM hf)).newL ⟨ws, n, ⟨.head _, .inl rfl⟩, hv.mono λ v z => VR.mono (vL.pushM hf).ext v⟩)
theorem Rl.noList (R : Rl x y a) {d : Addr} (hf : d ∉ a.P.keys) : y.g.hp d = none := by
 cases q : y.g.hp d with
 | none => rfl
 | some vs =>
  obtain ⟨ws, n, o, _⟩ := R.st.hp d vs q
  exact (hf (mem_keys o.1)).elim
theorem Rl.setL (R : Rl x y a) {vs us : List AV} {us' : List Value} {d : Addr} {k : Nat} {h' : Heap} {t : Nat} (hp : y.g.hp d = some vs) (hM : a.P.M d) (hv : yx (VR x.c a.P) us us') (F : Fr x.f.h₀ x.f.L h' y.m) (N : News x.f.h₀ x.f.L h' (zaM d (listOf us'.toArray k) a.P.news)) :
  Rl x ⟨y.l, { y.g with hp := uV y.g.hp d us }, y.m⟩ ⟨a.P.upd d (listOf us'.toArray k), { a.s with heap := h', toks := t }⟩ :=
 R.move (Ext.upd hM) F N R.led.upd (R.st.setL R.led hp hv)
theorem StR.keepV {c : Cfg} {P P' : Pl} {g : GS} (S : StR c P g) (E : gn P P') (k : ∀ a o, noIt o = true -> Mut P a o -> Mut P' a o) (hx : P'.x = P.x) : StR c P' g :=
 ⟨λ fs e => zfp.rec (motive := λ y => zfp c P' g.buf fs) (λ z d b es n h => ⟨z, d, b, es, n, E.xs _ h.px, E.own _ _ rfl h.ox, k _ _ gq h.od, h.kv.mono λ y y => FR.monoV E, λ q => ⟨(h.buf q).1, k _ _ (by decide +kernel : (!(kW "bytearray")) = true) (h.buf q).2⟩, h.only⟩) (S.lex fs e),
 λ a vs e => (S.hp a vs e).keep E λ y y => k a _ za8, λ e => hx.trans (S.nl e)⟩
theorem Rl.iter (R : Rl x y a) {it : Addr} {o o' : Obj} {h' : Heap} {t : Nat} (hm : (it, o) ∈ a.P.news) (ho : noIt o = false) (hs : Heap.SameBut it a.s.heap h') (hg : h'.get? it = some o') : Rl x y ⟨a.P.upd it o', { a.s with heap := h', toks := t }⟩ :=
 have hN := R.N (it, o) hm
 have ne : ∀ b u, noIt u = true -> (b, u) ∈ a.P.news -> b ≠ it := λ b u hu hb e => by
  have q : u = o := key_eq (a := it) R.led.nd (e ▸ hb) hm
  rw [q, ho] at hu
  exact absurd hu Bool.false_ne_true
 have E : gn a.P (a.P.upd it o') := ⟨λ b u hu h => ⟨wH (ne b u hu h.1) h.1, h.2⟩, λ w h => h⟩
 ⟨R.F.change hs hN.2.1 hN.2.2, mR R.N R.led.nd hm hs hg, R.led.upd, R.st.keepV E (λ b u hu h => ⟨wH (ne b u hu h.1) h.1, h.2⟩) rfl, λ i v z e n => (R.loc i v z e n).mono E⟩
theorem Rl.store (R : Rl x y a) {i : Nat} {n : Str} {v : AV} {w : Value} {h' : Heap} {t : Nat} (hx : yj x.f.scope.names i = some (n, .local)) (hnd : (x.f.scope.names.map (·.1)).Nodup) (hv : VR x.c a.P v w)
  (F : Fr x.f.h₀ x.f.L h' λ z => if z = n then some w else y.m z) (N : News x.f.h₀ x.f.L h' a.P.news) : Rl x ⟨Mine.setL y.l i v, y.g, λ z => if z = n then some w else y.m z⟩ ⟨a.P, { a.s with heap := h', toks := t }⟩ :=
 ⟨F, N, R.led, R.st, λ j u z e hz => (aG e).elim
  (λ q => by
   obtain ⟨rfl, rfl⟩ := q
   have e := hx.symm.trans hz
   exact ⟨w, if_pos (congrArg Prod.fst (sIJ e)).symm, hv⟩)
  λ q => by
   obtain ⟨w', e', h⟩ := R.loc j u z q.2 hz
   exact ⟨w', (if_neg λ r => q.1 (zf9 hnd (gk (·.1) (r ▸ hz)) (gk (·.1) hx))).trans e', h⟩⟩
end
end
section
open PyProof.Rows PySem.Builtin
theorem zq {b : Bool} {P : Prop} (h : dec b P) : b = true /\ P := by
 cases b with
 | true => exact ⟨rfl, h⟩
 | false => exact h.elim
noncomputable def Kt (c : Cfg) (P : Pl) (s : Shared) (Q : Prop) (v : AV) (Qc : Value -> Shared -> Prop) : Prop := Q -> ∀ w t, VR c P v w -> Qc w { s with toks := t }
section
variable {prog : Program} {w : World} {A : Around} {E : Value -> Shared -> Prop} {s : Shared} {c : Cfg} {P : Pl} {a b : AV} {wa wb : Value} {Q : Prop}
theorem qD {x : Int} (h : dj x) : Builtin.Int.intBits x <= 64 := intBits_le_64 (Int.lt_of_le_of_lt (by decide : _ <= -mL) h.1) (Int.lt_of_lt_of_le h.2 (by decide : mL <= _))
theorem zga {op : Operator} {x y : Int} {t u : Tok} {Qc : Value -> Shared -> Prop} (h : zdd op (.int x) (.int y) Q) (k : Kt c P s Q (zh1 op (.int x) (.int y)) Qc) : wpAny (model prog w) A (binaryOp op (.int x t) (.int y u)) Qc E s := by
 cases op with
 | Add => exact add_int (k h _ _ ⟨_⟩)
 | Sub => exact PyProof.Rows.sub_int (k h _ _ ⟨_⟩)
 | Mult => exact PyProof.Rows.mul_int (k h.2 _ _ ⟨_⟩) (h.1.elim (λ z => IntMulOk.of_left (qD z)) λ z => IntMulOk.of_right (qD z))
 | FloorDiv =>
  have d := Bool.and_eq_true_iff.mp (zq h).1
  have d1 := of_decide_eq_true d.1
  exact floordiv_int (Int.ne_of_gt d1) (k (zq h).2 _ _ ⟨_⟩) (.inl (PyProof.noPylong_small (by have := of_decide_eq_true d.2; exact Int.natAbs_lt_natAbs_of_nonneg_of_lt (Int.le_of_lt d1) (Int.lt_trans this (by decide : (1000 : Int) < 1073741824)))))
 | Mod => exact mod_int' (of_decide_eq_false (Bool.not_eq_true' _ ▸ (zq h).1)) (k (zq h).2 _ _ ⟨_⟩)
 | Pow =>
  have d := Bool.and_eq_true_iff.mp (zq h).1
  have d1 := of_decide_eq_true d.1
  subst d1
  have d2 := (Bool.or_eq_true_iff.mp d.2).imp of_decide_eq_true of_decide_eq_true
  exact pow_int_small (d2.elim (λ e => e ▸ by decide) (λ e => e ▸ by decide)) (d2.elim (λ e => e ▸ by decide) (λ e => e ▸ by decide)) (by decide) (k (zq h).2 _ _ ⟨_⟩)
 | LShift =>
  have d := Bool.and_eq_true_iff.mp (zq h).1
  have d1 := of_decide_eq_true d.1
  subst d1
  have d2 := (Bool.or_eq_true_iff.mp d.2).imp of_decide_eq_true of_decide_eq_true
  exact lshift_int_small (d2.elim (λ e => e ▸ by decide) (λ e => e ▸ by decide)) (d2.elim (λ e => e ▸ by decide) (λ e => e ▸ by decide)) (by decide) (k (zq h).2 _ _ ⟨_⟩)
 | BitAnd => exact and_int (k h _ _ ⟨_⟩)
 | _ => exact h.elim
theorem xP {n : Nat} (h : n <= 1000000) : n <= sizeLine := nLT h (by rw [sizeLine_eq]; decide)
theorem zba {M : AV -> AV -> Prop} {op : Operator} (h : zdd op a b Q) (ii : ∀ x y, zdd op (.int x) (.int y) Q -> M (.int x) (.int y)) (bb : ∀ x y, zdd op (.bytes x) (.bytes y) Q -> M (.bytes x) (.bytes y))
  (bi : ∀ x y, zdd op (.bytes x) (.int y) Q -> M (.bytes x) (.int y)) : M a b := by
 cases a with
 | int x => cases b with
  | int y => exact ii x y h
  | _ => exact h.elim
 | bytes x => cases b with
  | bytes y => exact bb x y h
  | int n => exact bi x n h
  | _ => exact h.elim
 | _ => exact h.elim
theorem zgb {op : Operator} {x y : Bs} (h : zdd op (.bytes x) (.bytes y) Q) : Operator.Add = op /\ (x.length <= 1000 /\ y.length <= 1000) /\ Q := by
 cases op with
 | Add => exact ⟨rfl, h⟩
 | _ => exact h.elim
theorem zgc {op : Operator} {x : Bs} {n : Int} (h : zdd op (.bytes x) (.int n) Q) : Operator.Mult = op /\ (x.length = 1 /\ 0 <= n /\ n <= 1000) /\ Q := by
 cases op with
 | Mult => exact ⟨rfl, h⟩
 | _ => exact h.elim
theorem zfq {op : Operator} {Qc : Value -> Shared -> Prop} (h : zdd op a b Q) (ha : VR c P a wa) (hb : VR c P b wb) (k : Kt c P s Q (zh1 op a b) Qc) : wpAny (model prog w) A (binaryOp op wa wb) Qc E s := by
 refine zba (M := λ a b => VR c P a wa -> VR c P b wb -> (Kt c P s Q (zh1 op a b) Qc) -> wpAny (model prog w) A (binaryOp op wa wb) Qc E s) h (λ x y h ha hb k => ?_) (λ x y h ha hb k => ?_) (λ x n h ha hb k => ?_) ha hb k
 ·obtain ⟨t⟩ : xX x wa := ha
  obtain ⟨u⟩ : xX y wb := hb
  exact zga h k
 ·obtain ⟨t⟩ : wU x wa := ha
  obtain ⟨u⟩ : wU y wb := hb
  obtain ⟨e, z, q⟩ := zgb h
  subst e
  exact bytes_add_K (xP (nLT (Nat.add_le_add z.1 z.2) (by decide))) rfl λ t' k' => k q _ _ ⟨_⟩
 ·obtain ⟨t⟩ : wU x wa := ha
  obtain ⟨u⟩ : xX n wb := hb
  obtain (⟨e, z, q⟩) := zgc h
  subst e
  exact bytes_mul_any (λ n => Nat.zero_ne_one (n ▸ z.1 : ([] : Bs).length = 1)) (Int.le_trans (by decide) z.2.1) (Int.le_trans z.2.2 (by decide)) (nLT (Nat.le_of_eq z.1) (by decide)) λ t' k' => k q _ _ ⟨_⟩
theorem uc {M : AV -> AV -> Prop} (h : wV a b = true) (i : ∀ x y, M (.int x) (.int y)) (s : ∀ x y, M (.bytes x) (.bytes y)) : M a b := by
 cases a with
 | int x => cases b with
  | int y => exact i x y
  | _ => exact absurd h Bool.false_ne_true
 | bytes x => cases b with
  | bytes y => exact s x y
  | _ => exact absurd h Bool.false_ne_true
 | _ => exact absurd h Bool.false_ne_true
theorem dG (x y : Bs) : (x.toArray.toList == y.toArray.toList) = decide (x = y) := by
 by_cases q : x = y
 ·subst q; rw [beq_self_eq_true, decide_eq_true rfl]
 ·rw [decide_eq_false q]; exact beq_eq_false_iff_ne.mpr q
theorem zjE {Qc : Value -> Shared -> Prop} (h : wV a b = true) (ha : VR c P a wa) (hb : VR c P b wb) (k : Qc (.bool (eqB a b)) s) : wpAny (model prog w) A (compareOp .Eq wa wb) Qc E s := by
 refine uc (M := λ a b => VR c P a wa -> VR c P b wb -> Qc (.bool (eqB a b)) s -> wpAny (model prog w) A (compareOp .Eq wa wb) Qc E s) h (λ x y ha hb k => ?_) (λ x y ha hb k => ?_) ha hb k
 ·obtain ⟨t⟩ : xX x wa := ha
  obtain ⟨u⟩ : xX y wb := hb
  exact eq_int k
 ·obtain ⟨t⟩ : wU x wa := ha
  obtain ⟨u⟩ : wU y wb := hb
  exact eq_bytes (by rw [dG]; exact k)
theorem zjF {Qc : Value -> Shared -> Prop} (h : wV a b = true) (ha : VR c P a wa) (hb : VR c P b wb) (k : Qc (.bool (!(eqB a b))) s) : wpAny (model prog w) A (compareOp .NotEq wa wb) Qc E s := by
 refine uc (M := λ a b => VR c P a wa -> VR c P b wb -> Qc (.bool (!(eqB a b))) s -> wpAny (model prog w) A (compareOp .NotEq wa wb) Qc E s) h (λ x y ha hb k => ?_) (λ x y ha hb k => ?_) ha hb k
 ·obtain ⟨t⟩ : xX x wa := ha
  obtain ⟨u⟩ : xX y wb := hb
  exact PyProof.Rows.ne_int k
 ·obtain ⟨t⟩ : wU x wa := ha
  obtain ⟨u⟩ : wU y wb := hb
  refine ne_bytes ?_
  show Qc (.bool (!(x.toArray.toList == y.toArray.toList))) s
  rw [dG]
  exact k
theorem eqBool_bytes {x y : Bs} {t u : Tok} {Q : Bool -> Shared -> Prop} (h : Q (decide (x = y)) s) : wpAny (model prog w) A (eqBool (.bytes x.toArray t) (.bytes y.toArray u)) Q E s := by
 unfold eqBool
 show wpAny _ _ (if (Value.bytes x.toArray t == Value.bytes y.toArray u) = true then _ else _) Q E s
 by_cases hab : (Value.bytes x.toArray t == Value.bytes y.toArray u) = true
 ·rw [if_pos hab]
  have e : x = y := by
   have := eq_of_beq hab
   injection this with h1
   exact congrArg Array.toList h1
  rw [decide_eq_true e] at h
  exact wBD (wpAny_rule (wpAny_pure h))
 ·rw [if_neg hab]
  refine wBD (wpAny_mono (eq_bytes (Q := λ v s' => v = .bool (decide (x = y)) /\ s' = s) ⟨by rw [dG], rfl⟩) (λ v s' z => ?_) λ r r z => z)
  rw [z.1, z.2]
  exact wpAny_of_eq (a := decide (x = y)) rfl h
noncomputable def tY (x : Value) : Value -> Bool := λ y => match y, x with
 | .int j _, .int i _ => i == j
 | .bytes b _, .bytes a _ => decide (a = b)
 | _, _ => false
theorem mU (h : wV a b = true) (ha : VR c P a wa) (hb : VR c P b wb) : tY wa wb = eqB a b := by
 refine uc (M := λ a b => VR c P a wa -> VR c P b wb -> tY wa wb = eqB a b) h (λ x y ha hb => ?_) (λ x y ha hb => ?_) ha hb
 ·obtain ⟨t⟩ : xX x wa := ha
  obtain ⟨u⟩ : xX y wb := hb
  exact (rfl : decide (x = y) = decide (x = y))
 ·obtain ⟨t⟩ : wU x wa := ha
  obtain ⟨u⟩ : wU y wb := hb
  exact decide_eq_decide.mpr ⟨λ z => congrArg Array.toList z, λ z => congrArg List.toArray z⟩
theorem zgd (h : wV a b = true) (ha : VR c P a wa) (hb : VR c P b wb) (A : Around) (s : Shared) : PySem.SeqAt.EqAt A s wb wa (eqB a b) := by
 refine uc (M := λ a b => VR c P a wa -> VR c P b wb -> PySem.SeqAt.EqAt A s wb wa (eqB a b)) h (λ x y ha hb => ?_) (λ x y ha hb => ?_) ha hb
 ·obtain ⟨t⟩ : xX x wa := ha
  obtain ⟨u⟩ : xX y wb := hb
  intro prog w E Q hq
  refine wpAny_eqBool_int ?_
  rw [show (y == x) = decide (x = y) from decide_eq_decide.mpr eq_comm]; exact hq
 ·obtain ⟨t⟩ : wU x wa := ha
  obtain ⟨u⟩ : wU y wb := hb
  intro prog w E Q hq
  refine eqBool_bytes ?_
  rw [show decide (y = x) = decide (x = y) from decide_eq_decide.mpr eq_comm]; exact hq
theorem mV (ha : VR c P a wa) {vs : List AV} {ws : List Value} (hv : yx (VR c P) vs ws) : (vs.all (wV a)) = true -> (∀ y, y ∈ ws -> ∀ (A : Around) (s : Shared), PySem.SeqAt.EqAt A s y wa (tY wa y)) /\ ws.any (tY wa) = vs.any (eqB a) :=
 yx.ind (R := VR c P) (M := λ vs ws => (vs.all (wV a)) = true -> (∀ y, y ∈ ws -> ∀ (A : Around) (s : Shared), PySem.SeqAt.EqAt A s y wa (tY wa y)) /\ ws.any (tY wa) = vs.any (eqB a)) (λ x => ⟨λ x z => (nomatch z), rfl⟩)
  (λ v w vs ws h ih q => by
   have q := Bool.and_eq_true_iff.mp (List.all_cons ▸ q)
   have i := ih q.2
   refine ⟨λ y hy A s => (mCM hy).elim (λ e => ?_) λ hy => i.1 y hy A s, ?_⟩
   ·rw [e, mU q.1 ha h]; exact zgd q.1 ha h A s
   ·rw [List.any_cons, List.any_cons, i.2, mU q.1 ha h]) vs ws hv
end
section
variable {prog : Program} {w : World} {A : Around} {E : Value -> Shared -> Prop} {s : Shared}
theorem oM (b : Array UInt8) (x : Int) (t u : Tok) (h0 : 0 <= x) (h1 : x < 256) : Gives («bytes.__contains__» ⟨[.bytes b t, .int x u], []⟩) (.val (.bool (b.contains x.toNat.toUInt8))) := by
 refine .of_wp λ M A E s Q hq => ?_
 show wpAny M A (Bytes.containsIn "bytes.__contains__" (.bytes b t) (.int x u) >>= λ r => _) _ E s
 refine wBD ?_
 unfold Bytes.containsIn
 refine wBD (wpAny_of_eq (a := Except.ok x) rfl ?_)
 refine wBD (wpAny_of_eq KBy.buffer_eq ?_)
 show wpAny M A (if (decide (x < 0) || decide (x >= 256)) = true then _ else _) _ E s
 rw [if_neg (by simp only [Bool.or_eq_true, decide_eq_true_eq]; omega)]
 exact wpAny_pure (wpAny_pure ⟨_, rfl, hq⟩)
theorem zdz {bs : Bs} {x : Int} {t u : Tok} {Q : Value -> Shared -> Prop} (h0 : 0 <= x) (h1 : x < 256) (h : Q (.bool (bs.any λ c => decide ((c.toNat : Int) = x))) s) :
  wpAny (model prog w) A (compareOp .In (.int x u) (.bytes bs.toArray t)) Q E s := by
 refine in_gives (typeIs_bytes s _ t) FB.slot_bytes_contains FB.entry_bytes_contains (FB.args_bytes_contains_2 _ _) (oM _ x t u h0 h1) ?_
 have e : ∀ l : Bs, (l.contains x.toNat.toUInt8) = l.any λ c => decide ((c.toNat : Int) = x) := by
  intro l
  induction l with
  | nil => rfl
  | cons d r ih =>
   rw [List.contains_cons, List.any_cons, ih]
   congr 1
   by_cases q : (d.toNat : Int) = x
   ·rw [decide_eq_true q]
    subst q
    simp
   ·rw [decide_eq_false q]
    have : x.toNat.toUInt8 ≠ d := λ z => q (by rw [<- z]; exact byte_back h0 h1)
    simpa using this
 rw [List.contains_toArray, e]; exact h
theorem qF : Slot "bytes" "find" "bytes.find" :=
 .of (owner := "bytes") (n := "find") (by rw [typeLookup_type, builtinLookup_eq_fast]; kernel_rfl) (by decide +kernel) (by decide +kernel) (by decide +kernel)
  (by first | exact .inl (by decide +kernel) | exact .inr (by decide +kernel)) (by rw [isSubtype_type]; kernel_rfl)
theorem zbb : typeOf (.builtin "bytes.find") = pure (.type "method_descriptor") := by show builtinType _ = _; rw [builtinType_eq_fast]; kernel_rfl
theorem nG : entryFor table "bytes.find" = some Builtin.«bytes.find» := entryFor_of_tree (by kernel_rfl)
theorem aH (a b : Value) : argsOk "bytes.find" ⟨[a, b], []⟩ := by unfold argsOk; kernel_rfl
theorem aJ (a b d : Value) : argsOk "bytes.find" ⟨[a, b, d], []⟩ := by unfold argsOk; kernel_rfl
theorem zge {n p : Nat} {k : Int} (h0 : 0 <= k) (q : (n : Int) - k < (p : Int)) : n + 1 - (k.toNat + p) = 0 := by
 obtain ⟨m, rfl⟩ := Int.eq_ofNat_of_zero_le h0
 rw [Int.toNat_natCast]
 exact Nat.sub_eq_zero_of_le (Nat.add_comm p m ▸ Int.ofNat_lt.mp (Int.lt_add_of_sub_right_lt q))
theorem dH {M : Model} {Q : Fin -> Shared -> Prop} {b p : Bs} {k : Int} {A : Around} (h0 : 0 <= k)
  (h : Q (.done (.ret (.int (findZ b p k.toNat) s.toks))) { s with toks := s.toks + 1 }) :
  wpAny M A (match (if (min (b.toArray.size : Int) (b.toArray.size : Int)) - k < (p.toArray.size : Int) then none else some (k.toNat, (min (b.toArray.size : Int) (b.toArray.size : Int)).toNat)).bind (λ (x : Nat × Nat) => Bytes.find? b.toArray p.toArray x.1 x.2) with
   | some i => retInt i
   | none => (do rule "bytes.find.not-found"; retInt (-1))) Q E s := by
 have e : ((if (min (b.toArray.size : Int) (b.toArray.size : Int)) - k < (p.toArray.size : Int) then none else some (k.toNat, (min (b.toArray.size : Int) (b.toArray.size : Int)).toNat)).bind (λ (x : Nat × Nat) => Bytes.find? b.toArray p.toArray x.1 x.2)) = Bytes.find? b.toArray p.toArray k.toNat b.length := by
  rw [Int.min_self, List.size_toArray, List.size_toArray, Int.toNat_natCast]
  split
  ·rename_i q
   show none = _
   unfold Bytes.find?
   have : b.length + 1 - (k.toNat + p.toArray.size) = 0 := by rw [List.size_toArray]; exact zge h0 q
   rw [this]; rfl
  ·rfl
 rw [e]
 unfold findZ at h
 cases q : Bytes.find? b.toArray p.toArray k.toNat b.length with
 | some i => rw [q] at h; exact wBD (wpAny_mkInt (wpAny_pure h))
 | none => rw [q] at h; exact wBD (wpAny_rule (wBD (wpAny_mkInt (wpAny_pure h))))
theorem zbc {M : Model} {Q : Fin -> Shared -> Prop} {b p : Bs} {k : Int} {A : Around} {wd : Int × Int} (ew : wd = (k, min (b.toArray.size : Int) (b.toArray.size : Int))) (h0 : 0 <= k)
  (h : Q (.done (.ret (.int (findZ b p k.toNat) s.toks))) { s with toks := s.toks + 1 }) :
  wpAny M A (match (if wd.2 - wd.1 < (p.toArray.size : Int) then none else some (wd.1.toNat, wd.2.toNat)).bind (λ (x : Nat × Nat) => Bytes.find? b.toArray p.toArray x.1 x.2) with
   | some i => retInt i
   | none => (do rule "bytes.find.not-found"; retInt (-1))) Q E s := by
 subst ew
 exact dH h0 h
theorem gA (b p : Bs) (t u : Tok) : Gives («bytes.find» ⟨[.bytes b.toArray t, .bytes p.toArray u], []⟩) (.int (findZ b p 0)) := by
 refine .of_wp λ M A E s Q hq => ?_
 show wpAny M A (Bytes.searchM .bytes "find" false false ⟨[.bytes b.toArray t, .bytes p.toArray u], []⟩) _ E s
 unfold Bytes.searchM
 refine wBD ?_
 unfold Bytes.searchArgs
 refine wBD (wpAny_of_eq (a := (Value.bytes b.toArray t, [Value.bytes p.toArray u])) (by kernel_rfl) ?_)
 refine wBD (wpAny_of_eq (a := none) rfl ?_)
 refine wBD (wpAny_of_eq (a := none) rfl ?_)
 refine wBD (wpAny_of_eq KBy.buffer_eq ?_)
 refine wBD (wpAny_pure (wBD (wpAny_of_eq (a := b.toArray) rfl (wpAny_pure ?_))))
 exact dH (k := 0) (Int.le_refl 0) ⟨_, rfl, hq⟩
theorem gB (b p : Bs) (k : Int) (t u v : Tok) (h0 : 0 <= k) : Gives («bytes.find» ⟨[.bytes b.toArray t, .bytes p.toArray u, .int k v], []⟩) (.int (findZ b p k.toNat)) := by
 refine .of_wp λ M A E s Q hq => ?_
 show wpAny M A (Bytes.searchM .bytes "find" false false ⟨[.bytes b.toArray t, .bytes p.toArray u, .int k v], []⟩) _ E s
 unfold Bytes.searchM
 refine wBD ?_
 unfold Bytes.searchArgs
 refine wBD (wpAny_of_eq (a := (Value.bytes b.toArray t, [Value.bytes p.toArray u, Value.int k v])) (by kernel_rfl) ?_)
 refine wBD ?_
 show wpAny M A (Bytes.bound? (some (.int k v))) _ E s
 unfold Bytes.bound?
 refine wBD (wpAny_specialOf (typeIs_int s k v) PySem.F.slot_int_index.lookup ?_)
 refine wBD (wpAny_of_eq (a := k) rfl (wpAny_pure ?_))
 refine wBD (wpAny_of_eq (a := none) rfl ?_)
 refine wBD (wpAny_of_eq KBy.buffer_eq ?_)
 refine wBD (wpAny_pure (wBD (wpAny_of_eq (a := b.toArray) rfl (wpAny_pure ?_))))
 have e : Bytes.window b.toArray.size (some k) none = (k, min (b.toArray.size : Int) (b.toArray.size : Int)) := by
  unfold Bytes.window
  have k1 : ¬ k < 0 := by omega
  have k2 : ¬ ((b.toArray.size : Int) < 0) := by omega
  simp only [Option.getD_some, Option.getD_none, if_neg k1, if_neg k2]
 exact zbc (k := k) (wd := Bytes.window b.toArray.size (some k) none) e h0 ⟨_, rfl, hq⟩
end
section
variable {c : Cfg} {P : Pl} {A : Around} {E : Value -> Shared -> Prop} {s : Shared} {a b : AV} {wa wb : Value} {Q : Prop} {Qc : Value -> Shared -> Prop}
structure Std (c : Cfg) (P : Pl) (h : Heap) : Prop where
 N : ∀ a o, (a, o) ∈ P.news -> h.get? a = some o
 K : c.K.In h
theorem dB.at {ws : List Value} {w : Value} {h : Heap} (S : Std c P h) (r : dB c P ws w) : ∃ a, w = .ref a /\ h.IsList a ws.toArray := by
 cases r with
 | own a n o => exact ⟨a, rfl, _, S.N a _ o.1, rfl, n, rfl⟩
 | std a n o => exact ⟨a, rfl, _, o h S.K, rfl, n, rfl⟩
theorem za7.at {ws : List Value} {w : Value} {h : Heap} (S : Std c P h) (r : za7 P ws w) : ∃ a, w = .ref a /\ h.IsTuple a ws.toArray := by
 obtain ⟨a, n, o⟩ := r
 exact ⟨a, rfl, _, S.N a _ o.1, rfl, n, rfl⟩
theorem zbd (ws : List Value) (p : Value -> Bool) : ws.toArray.any p = ws.any p := List.any_toArray
theorem gC {M : AV -> AV -> Prop} (h : inC a b Q) (t : ∀ vs, vs.all (wV a) = true -> Q -> M a (.tup vs)) (l : ∀ vs, vs.all (wV a) = true -> Q -> M a (.lst vs)) (y : ∀ i bs, (0 <= i /\ i < 256) -> Q -> M (.int i) (.bytes bs)) : M a b := by
 cases b with
 | tup vs => exact t vs (zq h).1 (zq h).2
 | lst vs => exact l vs (zq h).1 (zq h).2
 | bytes bs => cases a with
  | int i => exact y i bs h.1 h.2
  | _ => exact h.elim
 | _ => exact h.elim
theorem zh9 (S : Std c P s.heap) (h : inC a b Q) (ha : VR c P a wa) (hb : VR c P b wb) (k : Q -> Qc (.bool (inB a b)) s) : wpAny (model c.prog c.w) A (compareOp .In wa wb) Qc E s := by
 refine gC (M := λ a b => VR c P a wa -> VR c P b wb -> (Q -> Qc (.bool (inB a b)) s) -> wpAny (model c.prog c.w) A (compareOp .In wa wb) Qc E s) h (λ vs h q ha hb k => ?_) (λ vs h q ha hb k => ?_) (λ x y h q ha hb k => ?_) ha hb k
 ·obtain ⟨ws, hv, r⟩ := hb
  obtain ⟨d, e, r2⟩ := r.at S
  subst e
  have i := mV ha hv.to h
  refine PySem.SeqAt.in_tupleAt (tY wa) r2 (λ y hy => i.1 y (List.mem_toArray.mp hy) _ _) ?_
  rw [zbd, i.2]
  exact k q
 ·obtain ⟨ws, hv, r⟩ := hb
  obtain ⟨d, e, r2⟩ := r.at S
  subst e
  have i := mV ha hv.to h
  refine PySem.SeqAt.in_listAt (tY wa) r2 (λ y hy => i.1 y (List.mem_toArray.mp hy) _ _) ?_
  rw [zbd, i.2]
  exact k q
 ·obtain ⟨t⟩ : xX x wa := ha
  obtain ⟨u⟩ : wU y wb := hb
  exact zdz h.1 h.2 (k q)
theorem zdA {M : Model} (h : wpAny M A (compareOp .In wa wb) (λ v s' => ∃ b, v = .bool b /\ Qc (.bool (!b)) s') E s) : wpAny M A (compareOp .NotIn wa wb) Qc E s := by
 have h' : wpAny M A (do return Value.bool (<- contains wb wa)) (λ v s' => ∃ b, v = .bool b /\ Qc (.bool (!b)) s') E s := h
 show wpAny M A (do return Value.bool (!(<- contains wb wa))) Qc E s
 intro Γ p hΓ
 have z := h' Γ p hΓ
 rw [Sem.wp_bind'] at z ⊢
 refine Sem.wp_mono M Γ _ (λ b p' s' y => ?_) (λ x x x y => y) _ _ z
 obtain ⟨b', e, q⟩ := y
 exact (show b = b' from Value.bool.inj e) ▸ q
theorem jf {v : AV} {w : Value} (h : VR c P v w) : (w == Value.none) = wW v := by
 cases v with
 | none => exact (show Value.none = w from h) ▸ rfl
 | bool b => exact (show Value.bool b = w from h) ▸ rfl
 | int i => exact xX.rec (motive := λ w z => (w == Value.none) = false) (λ z => rfl) (show xX i w from h)
 | bytes b => exact wU.rec (motive := λ w z => (w == Value.none) = false) (λ z => rfl) (show wU b w from h)
 | tup vs => exact h.elim λ ws h => za7.rec (motive := λ w z => (w == Value.none) = false) (λ z z z => rfl) h.2
 | lst vs => exact h.elim λ ws h => dB.rec (motive := λ w z => (w == Value.none) = false) (λ z z z => rfl) (λ z z z => rfl) h.2
 | list a => exact (show Value.ref a = w from h) ▸ rfl
 | inst k vs => exact h.elim λ ws h => zdx.rec (motive := λ w z => (w == Value.none) = false) (λ z z z z z z z => rfl) h.2
 | lex => exact oh.rec (motive := λ w z => (w == Value.none) = false) (λ z z => rfl) (show oh P w from h)
 | buf => exact h.elim
 | kinds => exact aF.rec (motive := λ w z => (w == Value.none) = false) (λ z z z z z => rfl) (show aF c P w from h)
theorem jg {v : AV} {w : Value} (h : VR c P v w) : handedIn w = true := by
 cases v with
 | none => exact (show Value.none = w from h) ▸ rfl
 | bool b => exact (show Value.bool b = w from h) ▸ rfl
 | int i => exact xX.rec (motive := λ w z => handedIn w = true) (λ z => rfl) (show xX i w from h)
 | bytes b => exact wU.rec (motive := λ w z => handedIn w = true) (λ z => rfl) (show wU b w from h)
 | tup vs => exact h.elim λ ws h => za7.rec (motive := λ w z => handedIn w = true) (λ z z z => rfl) h.2
 | lst vs => exact h.elim λ ws h => dB.rec (motive := λ w z => handedIn w = true) (λ z z z => rfl) (λ z z z => rfl) h.2
 | list a => exact (show Value.ref a = w from h) ▸ rfl
 | inst k vs => exact h.elim λ ws h => zdx.rec (motive := λ w z => handedIn w = true) (λ z z z z z z z => rfl) h.2
 | lex => exact oh.rec (motive := λ w z => handedIn w = true) (λ z z => rfl) (show oh P w from h)
 | buf => exact h.elim
 | kinds => exact aF.rec (motive := λ w z => handedIn w = true) (λ z z z z z => rfl) (show aF c P w from h)
theorem wI {M : AV -> AV -> Prop} (h : iW a b Q) (k : ∀ x y, Q -> M (.int x) (.int y)) : M a b := by
 cases a with
 | int x => cases b with
  | int y => exact k x y h
  | _ => exact h.elim
 | _ => exact h.elim
theorem uX {M : AV -> Prop} (h : zf2 a Q) (k : ∀ x, Q -> M (.int x)) : M a := by
 cases a with
 | int x => exact k x h
 | _ => exact h.elim
theorem vN (h : zaR b Q) : b = .none /\ Q := by
 cases b with
 | none => exact ⟨rfl, h⟩
 | _ => exact h.elim
theorem rO {op : CmpOp} (x : Int -> Int -> Bool) (h : iW a b Q) (ha : VR c P a wa) (hb : VR c P b wb) (k : Q -> Qc (.bool (zhG op a b)) s) (e : ∀ i j, zhG op (.int i) (.int j) = x i j)
  (z : ∀ {i j t u} {Qc : Value -> Shared -> Prop}, Qc (.bool (x i j)) s -> wpAny (model c.prog c.w) A (compareOp op (.int i t) (.int j u)) Qc E s) : wpAny (model c.prog c.w) A (compareOp op wa wb) Qc E s := by
 refine wI (M := λ a b => VR c P a wa -> VR c P b wb -> (Q -> Qc (.bool (zhG op a b)) s) -> wpAny (model c.prog c.w) A (compareOp op wa wb) Qc E s) h (λ i j q ha hb k => ?_) ha hb k
 obtain ⟨t⟩ : xX i wa := ha
 obtain ⟨u⟩ : xX j wb := hb
 exact z (e i j ▸ k q)
theorem dI (S : Std c P s.heap) {op : CmpOp} (h : zjw op a b Q) (ha : VR c P a wa) (hb : VR c P b wb) (k : Q -> Qc (.bool (zhG op a b)) s) : wpAny (model c.prog c.w) A (compareOp op wa wb) Qc E s := by
 cases op with
 | Eq => exact zjE (zq h).1 ha hb (k (zq h).2)
 | NotEq => exact zjF (zq h).1 ha hb (k (zq h).2)
 | Lt => exact rO _ h ha hb k (λ z z => rfl) PyProof.Rows.lt_int
 | LtE => exact rO _ h ha hb k (λ z z => rfl) PyProof.Rows.le_int
 | Gt => exact rO _ h ha hb k (λ z z => rfl) PyProof.Rows.gt_int
 | GtE => exact rO _ h ha hb k (λ z z => rfl) PyProof.Rows.ge_int
 | Is =>
  obtain ⟨e, q⟩ := vN h
  subst e
  obtain rfl : Value.none = wb := hb
  exact is_none (by rw [jf ha]; exact k q)
 | IsNot =>
  obtain ⟨e, q⟩ := vN h
  subst e
  obtain rfl : Value.none = wb := hb
  exact isNot_none (by rw [jf ha]; exact k q)
 | In => exact zh9 S h ha hb k
 | NotIn => exact zdA (zh9 S h ha hb λ q => ⟨_, rfl, k q⟩)
end
end
section
open PyProof.Rows
noncomputable def zX (e : Expr) (n : Str -> Pos -> Bool) (at' : Expr -> Str -> Pos -> Bool) (ca : Expr -> List Expr -> List Keyword -> Pos -> Bool) (bi : Expr -> Operator -> Expr -> Bool) (un : UnaryOp -> Expr -> Bool) (bo : BoolOp -> List Expr -> Bool)
  (cm : Expr -> List CmpOp -> List Expr -> Bool) (it : Expr -> Expr -> Expr -> Bool) (su : Expr -> Expr -> Bool) (sl : Option Expr -> Option Expr -> Option Expr -> Bool) (tu li : List Expr -> Bool) (co : Const -> Bool) : Bool := match e with
 | .Name y p => n y p
 | .Attribute o y p => at' o y p
 | .Call f as ks p => ca f as ks p
 | .BinOp l op r _ => bi l op r
 | .UnaryOp op x _ => un op x
 | .BoolOp op es _ => bo op es
 | .Compare l ops rs _ => cm l ops rs
 | .IfExp t a b _ => it t a b
 | .Subscript v i _ => su v i
 | .Slice a b c _ => sl a b c
 | .Tuple es _ _ => tu es
 | .List es _ => li es
 | .Constant v _ _ => co v
 | _ => false
theorem zX.of {M : Expr -> Prop} {e : Expr} {n at' ca bi un bo cm it su sl tu li co} (h : zX e n at' ca bi un bo cm it su sl tu li co = true) (kn : ∀ y p, n y p = true -> M (.Name y p)) (ka : ∀ o y p, at' o y p = true -> M (.Attribute o y p)) (kc : ∀ f as ks p, ca f as ks p = true -> M (.Call f as ks p))
  (kb : ∀ l op r p, bi l op r = true -> M (.BinOp l op r p)) (ku : ∀ op x p, un op x = true -> M (.UnaryOp op x p)) (ko : ∀ op es p, bo op es = true -> M (.BoolOp op es p)) (km : ∀ l ops rs p, cm l ops rs = true -> M (.Compare l ops rs p)) (ki : ∀ t a b p, it t a b = true -> M (.IfExp t a b p))
  (ks : ∀ v i p, su v i = true -> M (.Subscript v i p)) (kl : ∀ a b c p, sl a b c = true -> M (.Slice a b c p)) (kt : ∀ es k p, tu es = true -> M (.Tuple es k p)) (kli : ∀ es p, li es = true -> M (.List es p)) (kco : ∀ v k p, co v = true -> M (.Constant v k p)) : M e := by
 cases e with
 | Name y p => exact kn y p h
 | Attribute o y p => exact ka o y p h
 | Call f as ks p => exact kc f as ks p h
 | BinOp l op r p => exact kb l op r p h
 | UnaryOp op x p => exact ku op x p h
 | BoolOp op es p => exact ko op es p h
 | Compare l ops rs p => exact km l ops rs p h
 | IfExp t a b p => exact ki t a b p h
 | Subscript v i p => exact ks v i p h
 | Slice a b c p => exact kl a b c p h
 | Tuple es k p => exact kt es k p h
 | List es p => exact kli es p h
 | Constant v k p => exact kco v k p h
 | _ => exact absurd h Bool.false_ne_true
noncomputable abbrev n1 {α : Sort _} : α -> Bool := λ z => false
noncomputable abbrev n2 {α β : Sort _} : α -> β -> Bool := λ z z => false
noncomputable abbrev n3 {α β γ : Sort _} : α -> β -> γ -> Bool := λ z z z => false
noncomputable abbrev n4 {α β γ δ : Sort _} : α -> β -> γ -> δ -> Bool := λ z z z z => false
theorem no {P : Prop} (h : false = true) : P := absurd h Bool.false_ne_true
section
variable {M : Expr -> Prop} {e : Expr}
noncomputable def zj (e : Expr) (F : Str -> Bool) : Bool := zX e (λ y z => F y) n3 n4 n3 n2 n2 n3 n3 n2 n3 n1 n1 n1
theorem zj.of {F} (h : zj e F = true) (k : ∀ y p, F y = true -> M (.Name y p)) : M e :=
 zX.of h k (λ z z z => no) (λ z z z z => no) (λ z z z z => no) (λ z z z => no) (λ z z z => no) (λ z z z z => no) (λ z z z z => no) (λ z z z => no) (λ z z z z => no) (λ z z z => no) (λ z z => no) (λ z z z => no)
noncomputable def zJ (e : Expr) (F : Expr -> Str -> Pos -> Bool) : Bool := zX e n2 F n4 n3 n2 n2 n3 n3 n2 n3 n1 n1 n1
theorem zJ.of {F} (h : zJ e F = true) (k : ∀ o y p, F o y p = true -> M (.Attribute o y p)) : M e :=
 zX.of h (λ z z => no) k (λ z z z z => no) (λ z z z z => no) (λ z z z => no) (λ z z z => no) (λ z z z z => no) (λ z z z z => no) (λ z z z => no) (λ z z z z => no) (λ z z z => no) (λ z z => no) (λ z z z => no)
noncomputable def isNil {α : Type} : List α -> Bool
 | [] => true
 | _ => false
theorem isNil.of {α : Type} {l : List α} (h : isNil l = true) : l = [] := List.rec (motive := λ l => isNil l = true -> l = []) (λ z => rfl) (λ z z z => no) l h
noncomputable def zu (e : Expr) (F : Expr -> List Expr -> Pos -> Bool) : Bool := zX e n2 n3 (λ f as ks p => isNil ks && F f as p) n3 n2 n2 n3 n3 n2 n3 n1 n1 n1
theorem zu.of {F} (h : zu e F = true) (k : ∀ f as p, F f as p = true -> M (.Call f as [] p)) : M e :=
 zX.of h (λ z z => no) (λ z z z => no) (λ f as ks p h => isNil.of (Bool.and_eq_true_iff.mp h).1 ▸ k f as p (Bool.and_eq_true_iff.mp h).2) (λ z z z z => no) (λ z z z => no) (λ z z z => no) (λ z z z z => no) (λ z z z z => no) (λ z z z => no) (λ z z z z => no) (λ z z z => no) (λ z z => no) (λ z z z => no)
noncomputable def aK (e : Expr) (F : Expr -> Operator -> Expr -> Bool) : Bool := zX e n2 n3 n4 F n2 n2 n3 n3 n2 n3 n1 n1 n1
theorem aK.of {F} (h : aK e F = true) (k : ∀ l op r p, F l op r = true -> M (.BinOp l op r p)) : M e :=
 zX.of h (λ z z => no) (λ z z z => no) (λ z z z z => no) k (λ z z z => no) (λ z z z => no) (λ z z z z => no) (λ z z z z => no) (λ z z z => no) (λ z z z z => no) (λ z z z => no) (λ z z => no) (λ z z z => no)
noncomputable def zhN (e : Expr) (F : UnaryOp -> Expr -> Bool) : Bool := zX e n2 n3 n4 n3 F n2 n3 n3 n2 n3 n1 n1 n1
theorem zhN.of {F} (h : zhN e F = true) (k : ∀ op x p, F op x = true -> M (.UnaryOp op x p)) : M e :=
 zX.of h (λ z z => no) (λ z z z => no) (λ z z z z => no) (λ z z z z => no) k (λ z z z => no) (λ z z z z => no) (λ z z z z => no) (λ z z z => no) (λ z z z z => no) (λ z z z => no) (λ z z => no) (λ z z z => no)
noncomputable def nH (e : Expr) (F : BoolOp -> List Expr -> Bool) : Bool := zX e n2 n3 n4 n3 n2 F n3 n3 n2 n3 n1 n1 n1
theorem nH.of {F} (h : nH e F = true) (k : ∀ op es p, F op es = true -> M (.BoolOp op es p)) : M e :=
 zX.of h (λ z z => no) (λ z z z => no) (λ z z z z => no) (λ z z z z => no) (λ z z z => no) k (λ z z z z => no) (λ z z z z => no) (λ z z z => no) (λ z z z z => no) (λ z z z => no) (λ z z => no) (λ z z z => no)
noncomputable def aL (e : Expr) (F : Expr -> List CmpOp -> List Expr -> Bool) : Bool := zX e n2 n3 n4 n3 n2 n2 F n3 n2 n3 n1 n1 n1
theorem aL.of {F} (h : aL e F = true) (k : ∀ l ops rs p, F l ops rs = true -> M (.Compare l ops rs p)) : M e :=
 zX.of h (λ z z => no) (λ z z z => no) (λ z z z z => no) (λ z z z z => no) (λ z z z => no) (λ z z z => no) k (λ z z z z => no) (λ z z z => no) (λ z z z z => no) (λ z z z => no) (λ z z => no) (λ z z z => no)
noncomputable def zjg (e : Expr) (F : Expr -> Expr -> Expr -> Bool) : Bool := zX e n2 n3 n4 n3 n2 n2 n3 F n2 n3 n1 n1 n1
theorem zjg.of {F} (h : zjg e F = true) (k : ∀ t a b p, F t a b = true -> M (.IfExp t a b p)) : M e :=
 zX.of h (λ z z => no) (λ z z z => no) (λ z z z z => no) (λ z z z z => no) (λ z z z => no) (λ z z z => no) (λ z z z z => no) k (λ z z z => no) (λ z z z z => no) (λ z z z => no) (λ z z => no) (λ z z z => no)
noncomputable def oN (e : Expr) (F : Expr -> Expr -> Bool) : Bool := zX e n2 n3 n4 n3 n2 n2 n3 n3 F n3 n1 n1 n1
theorem oN.of {F} (h : oN e F = true) (k : ∀ v i p, F v i = true -> M (.Subscript v i p)) : M e :=
 zX.of h (λ z z => no) (λ z z z => no) (λ z z z z => no) (λ z z z z => no) (λ z z z => no) (λ z z z => no) (λ z z z z => no) (λ z z z z => no) k (λ z z z z => no) (λ z z z => no) (λ z z => no) (λ z z z => no)
noncomputable def isNone {α : Type} : Option α -> Bool
 | none => true
 | _ => false
theorem isNone.of {α : Type} {l : Option α} (h : isNone l = true) : l = none := Option.rec (motive := λ l => isNone l = true -> l = none) (λ z => rfl) (λ z => no) l h
noncomputable def vO (e : Expr) (F : Option Expr -> Option Expr -> Bool) : Bool := zX e n2 n3 n4 n3 n2 n2 n3 n3 n2 (λ a b c => isNone c && F a b) n1 n1 n1
theorem vO.of {F} (h : vO e F = true) (k : ∀ a b p, F a b = true -> M (.Slice a b none p)) : M e :=
 zX.of h (λ z z => no) (λ z z z => no) (λ z z z z => no) (λ z z z z => no) (λ z z z => no) (λ z z z => no) (λ z z z z => no) (λ z z z z => no) (λ z z z => no) (λ a b c p h => isNone.of (Bool.and_eq_true_iff.mp h).1 ▸ k a b p (Bool.and_eq_true_iff.mp h).2) (λ z z z => no) (λ z z => no) (λ z z z => no)
noncomputable def aM (e : Expr) (F : List Expr -> Bool) : Bool := zX e n2 n3 n4 n3 n2 n2 n3 n3 n2 n3 F n1 n1
theorem aM.of {F} (h : aM e F = true) (k : ∀ es i p, F es = true -> M (.Tuple es i p)) : M e :=
 zX.of h (λ z z => no) (λ z z z => no) (λ z z z z => no) (λ z z z z => no) (λ z z z => no) (λ z z z => no) (λ z z z z => no) (λ z z z z => no) (λ z z z => no) (λ z z z z => no) k (λ z z => no) (λ z z z => no)
noncomputable def sZ (e : Expr) (F : List Expr -> Bool) : Bool := zX e n2 n3 n4 n3 n2 n2 n3 n3 n2 n3 n1 F n1
theorem sZ.of {F} (h : sZ e F = true) (k : ∀ es p, F es = true -> M (.List es p)) : M e :=
 zX.of h (λ z z => no) (λ z z z => no) (λ z z z z => no) (λ z z z z => no) (λ z z z => no) (λ z z z => no) (λ z z z z => no) (λ z z z z => no) (λ z z z => no) (λ z z z z => no) (λ z z z => no) k (λ z z z => no)
noncomputable def tZ (e : Expr) (F : Const -> Bool) : Bool := zX e n2 n3 n4 n3 n2 n2 n3 n3 n2 n3 n1 n1 F
theorem tZ.of {F} (h : tZ e F = true) (k : ∀ v i p, F v = true -> M (.Constant v i p)) : M e :=
 zX.of h (λ z z => no) (λ z z z => no) (λ z z z z => no) (λ z z z z => no) (λ z z z => no) (λ z z z => no) (λ z z z z => no) (λ z z z z => no) (λ z z z => no) (λ z z z z => no) (λ z z z => no) (λ z z => no) k
end
noncomputable abbrev T1 {α : Sort _} : α -> Bool := λ z => true
noncomputable abbrev T2 {α β : Sort _} : α -> β -> Bool := λ z z => true
noncomputable abbrev T3 {α β γ : Sort _} : α -> β -> γ -> Bool := λ z z z => true
noncomputable abbrev T4 {α β γ δ : Sort _} : α -> β -> γ -> δ -> Bool := λ z z z z => true
noncomputable def okE (e : Expr) : Bool := zX e T2 T3 T4 T3 T2 T2 T3 T3 T2 n3 T1 T1 T1
noncomputable def okT (e : Expr) : Bool := zX e T2 T3 T4 T3 T2 T2 T3 T3 T2 n3 n1 T1 T1
noncomputable def zdg (e : Expr) : Bool := zX e T2 T3 T4 T3 T2 T2 T3 n3 T2 n3 T1 T1 T1
noncomputable def okB (e : Expr) : Bool := zX e T2 T3 (λ f as ks y => isNil as && (isNil ks && zj f λ z => !(z == ("super" : Str)))) T3 T2 T2 T3 T3 T2 n3 T1 T1 T1
noncomputable def on1 (es : List Expr) (F : Expr -> Bool) : Bool := match es with
 | [x] => F x
 | _ => false
noncomputable def on2 (es : List Expr) (F : Expr -> Expr -> Bool) : Bool := match es with
 | [x, y] => F x y
 | _ => false
theorem on1.of {M : List Expr -> Prop} {es : List Expr} {F} (h : on1 es F = true) (k : ∀ x, F x = true -> M [x]) : M es := by
 cases es with
 | nil => exact no h
 | cons x r => cases r with
  | nil => exact k x h
  | cons => exact no h
theorem on2.of {M : List Expr -> Prop} {es : List Expr} {F} (h : on2 es F = true) (k : ∀ x y, F x y = true -> M [x, y]) : M es := by
 cases es with
 | nil => exact no h
 | cons x r => cases r with
  | nil => exact no h
  | cons y r => cases r with
   | nil => exact k x y h
   | cons => exact no h
theorem a2 {a b : Bool} {P : Prop} (h : (a && b) = true) (k : a = true -> b = true -> P) : P := k (Bool.and_eq_true_iff.mp h).1 (Bool.and_eq_true_iff.mp h).2
theorem a3 {a b c : Bool} {P : Prop} (h : (a && (b && c)) = true) (k : a = true -> b = true -> c = true -> P) : P := a2 h λ h1 h => a2 h (k h1)
theorem a4 {a b c d : Bool} {P : Prop} (h : (a && (b && (c && d))) = true) (k : a = true -> b = true -> c = true -> d = true -> P) : P := a2 h λ h1 h => a3 h (k h1)
theorem a5 {a b c d e : Bool} {P : Prop} (h : (a && (b && (c && (d && e)))) = true) (k : a = true -> b = true -> c = true -> d = true -> e = true -> P) : P := a2 h λ h1 h => a4 h (k h1)
theorem ltB {a b : Nat} (h : Nat.blt a b = true) : a < b := Nat.le_of_ble_eq_true h
section
variable {e : Expr} {env : Env}
theorem wX (h : okE e = true) (rest : List Expr) : starEach (e :: rest) env = (false, eval e env) :: starEach rest env :=
 zX.of h (M := λ e => starEach (e :: rest) env = (false, eval e env) :: starEach rest env) (λ z z z => rfl) (λ z z z z => rfl) (λ z z z z z => rfl) (λ z z z z z => rfl) (λ z z z z => rfl) (λ z z z z => rfl) (λ z z z z z => rfl) (λ z z z z z => rfl) (λ z z z z => rfl) (λ z z z z => no) (λ z z z z => rfl) (λ z z z => rfl) (λ z z z z => rfl)
theorem z6 (h : okE e = true) (t : Option Expr) (line : Nat) : swapsWith e t line env = pure false :=
 zX.of h (M := λ e => swapsWith e t line env = pure false) (λ z z z => rfl) (λ z z z z => rfl) (λ z z z z z => rfl) (λ z z z z z => rfl) (λ z z z z => rfl) (λ z z z z => rfl) (λ z z z z z => rfl) (λ z z z z z => rfl) (λ z z z z => rfl) (λ z z z z => no) (λ z z z z => rfl) (λ z z z => rfl) (λ z z z z => rfl)
theorem gD (h : okE e = true) (x) : foldedSetIterable e env x = pure x :=
 zX.of h (M := λ e => foldedSetIterable e env x = pure x) (λ z z z => rfl) (λ z z z z => rfl) (λ z z z z z => rfl) (λ z z z z z => rfl) (λ z z z z => rfl) (λ z z z z => rfl) (λ z z z z z => rfl) (λ z z z z z => rfl) (λ z z z z => rfl) (λ z z z z => no) (λ z z z z => rfl) (λ z z z => rfl) (λ z z z z => rfl)
theorem dJ (h : okE e = true) (o i : Value) : subscripted e false o i = operate [o, i] (getItem o i) :=
 zX.of h (M := λ e => subscripted e false o i = operate [o, i] (getItem o i)) (λ z z z => rfl) (λ z z z z => rfl) (λ z z z z z => rfl) (λ z z z z z => rfl) (λ z z z z => rfl) (λ z z z z => rfl) (λ z z z z z => rfl) (λ z z z z z => rfl) (λ z z z z => rfl) (λ z z z z => no) (λ z z z z => rfl) (λ z z z => rfl) (λ z z z z => rfl)
theorem zgf (h : okE e = true) (op : CmpOp) : behindInMarks op e = false :=
 zX.of h (M := λ e => behindInMarks op e = false) (λ z z z => rfl) (λ z z z z => rfl) (λ z z z z z => rfl) (λ z z z z z => rfl) (λ z z z z => rfl) (λ z z z z => rfl) (λ z z z z z => rfl) (λ z z z z z => rfl) (λ z z z z => rfl) (λ z z z z => no) (λ z z z z => rfl) (λ z z z => rfl) (λ z z z z => rfl)
theorem sy (h : okB e = true) (n : Str) (w : Sem Value) : attributeBase e n env w = w :=
 zX.of h (M := λ e => attributeBase e n env w = w) (λ y y y => rfl) (λ y y y y => rfl) (λ f as ks p h => a3 h λ h1 h2 h3 => by
  rw [isNil.of h1, isNil.of h2]
  refine zj.of (M := λ f => attributeBase (.Call f [] [] p) n env w = w) h3 λ z q hz => ?_
  have hz : (z != ("super" : Str)) = true := hz
  exact if_pos (by rw [hz]; rfl)) (λ y y y y y => rfl) (λ y y y y => rfl) (λ y y y y => rfl) (λ y y y y y => rfl) (λ y y y y y => rfl) (λ y y y y => rfl) (λ y y y y => no) (λ y y y y => rfl) (λ y y y => rfl) (λ y y y y => rfl)
end
structure Names where
 fn : Nat -> Str
 meth : Nat -> Str
 has : Str -> AV -> Bool
noncomputable abbrev NS := List (Str × NameKind)
noncomputable def zfr (y : Str) : Bool := !(y == ("__debug__" : Str))
noncomputable def zy (ns : NS) (y x : Str) : Bool := y == x && (zfr y && ns.lookup y == some .globalImplicit)
noncomputable def zB (ns : NS) (i : Nat) (y : Str) : Bool := yj ns i == some (y, .local) && (zfr y && ns.lookup y == some .local)
noncomputable def uK (ns : NS) (e : Expr) : Bool := zJ e λ o n z => n == zf 9 && zj o λ s => zB ns 0 s
noncomputable def dK (v : AV) (c : Const) : Bool := match v, c with
 | .none, .none => true
 | .bool b, .bool c => b == c
 | .int i, .int j => decide (i = j)
 | .bytes b, .bytes c => decide (b = c)
 | _, _ => false
noncomputable def zbe (p : PX) : Bool := PX.casesOn (motive_1 := λ z => Bool) p (λ z => true) n2 (λ z => true) n2 n1 n1 n3 n1 n1 n1 n1 n3 n3 n2 n3 n1 n1 n2 n2 n2 n3 n1 n1 n2 n3 n2 false false n2 n2 n1 n1
noncomputable def zbf (ops : List CmpOp) (ps : List PX) : Bool := match ops, ps with
 | [_], [_] => true
 | [_, _], [_, p] => zbe p
 | _, _ => false
noncomputable def oO (e : Option Expr) (n : Bool) (F : Expr -> Bool) : Bool := match e with
 | none => n
 | some e => F e
section
variable (T : Names) (ns : NS) (n : Nat)
noncomputable def zia (p : PX) (e : Expr) : Bool := PX.casesOn (motive_1 := λ z => Bool) p (λ v => tZ e (dK v)) n2 (λ i => zj e (zB ns i)) n2 n1 n1 n3 n1 n1 n1 n1 n3 n3 n2 n3 n1 n1 n2 n2 n2 n3 n1 n1 n2 n3 n2 false (zu e λ f es z => zj f λ y => on1 es λ x => zy ns y "len" && uK ns x) n2 n2 n1 n1
noncomputable def zjG (F : PX -> Expr -> Bool) (p : PX) (e : Expr) : Bool := F p e || PX.casesOn (motive_1 := λ z => Bool) p n1 n2 n1 n2 n1 n1 (λ op a b => aK e λ l o r => decide (op = o) && (F a l && F b r)) n1 n1 n1 n1 n3 n3 n2 n3 n1 n1 n2 n2 n2 n3 n1 n1 n2 n3 n2 false false n2 n2 n1 n1
noncomputable def zhO (p : PX) (e : Expr) : Bool := zjG (zjG (zia ns)) p e
noncomputable def zbg : Option PX -> Option Expr -> Bool
 | none, e => isNone e
 | some m, e => oO e false (zhO ns m)
mutual
noncomputable def xW : PX -> Expr -> Bool
 | .const v, e => tZ e (dK v)
 | .glob x v, e => zj e λ y => zy ns y x && T.has x v
 | .loc i, e => zj e (zB ns i)
 | .attr m f, e => zJ e λ o nm w => nm == zf f && (Nat.blt f 23 && (okB o && xW m o))
 | .tup ms, e => aM e λ es => Nat.blt es.length 100 && gF ms es
 | .lst ms, e => sZ e λ es => Nat.blt es.length 100 && gF ms es
 | .bin op a b, e => aK e λ l o r => decide (op = o) && (xW a l && xW b r)
 | .not a, e => zhN e λ o x => decide (o = .Not) && (zdg x && xW a x)
 | .neg a, e => zhN e λ o x => decide (o = .USub) && xW a x
 | .and ms, e => nH e λ o es => decide (o = .And) && (es.all zdg && gF ms es)
 | .or ms, e => nH e λ o es => decide (o = .Or) && (es.all zdg && gF ms es)
 | .cmp a ops rs, e => aL e λ l os es => decide (ops = os) && (zbf ops rs && (xW a l && gF rs es))
 | .ite t a b, e => zjg e λ x y z => zdg x && (xW t x && (xW a y && xW b z))
 | .call k ms, e => zu e λ f es w => zj f λ y => zy ns y (T.fn k) && (Nat.blt k 50 && (Nat.blt k n && gF ms es))
 | .meth k o ms, e => zu e λ f es p => zJ f λ x nm ap => (nm == T.meth k && ap.endLine == p.line) && ((Nat.blt 50 k && Nat.blt k n) && (Nat.blt es.length 20 && ((okB x && xW o x) && gF ms es)))
 | .len a, e => zu e λ f es w => zj f λ y => on1 es λ x => zy ns y "len" && (okE x && xW a x)
 | .abs a, e => zu e λ f es w => zj f λ y => on1 es λ x => zy ns y "abs" && (okE x && xW a x)
 | .max a b, e => zu e λ f es w => zj f λ y => on2 es λ x z => zy ns y "max" && ((okE x && okE z) && (xW a x && xW b z))
 | .isi a k, e => zu e λ f es w => zj f λ y => on2 es λ x z => zy ns y "isinstance" && (zj z (λ z => zy ns z (if k == 0 then "bytes" else if k == 1 then "int" else "bool")) && (okE x && xW a x))
 | .sub a i, e => oN e λ v j => okE j && (xW a v && xW i j)
 | .slice a lo hi, e => oN e λ v j => vO j λ x y => xW a v && (zjH lo x && zjH hi y)
 | .bytes1 a, e => zu e λ f es w => zj f λ y => on1 es λ z => sZ z λ zs => on1 zs λ x => zy ns y "bytes" && (okE x && xW a x)
 | .bytesL a, e => zu e λ f es w => zj f λ y => on1 es λ x => zy ns y "bytes" && (okE x && xW a x)
 | .find1 o a, e => zu e λ f es p => zJ f λ x nm ap => on1 es λ y => (nm == ("find" : Str) && ap.endLine == p.line) && (okE y && ((okB x && xW o x) && xW a y))
 | .find2 o a b, e => zu e λ f es p => zJ f λ x nm ap => on2 es λ y z => (nm == ("find" : Str) && ap.endLine == p.line) && ((okE y && okE z) && ((okB x && xW o x) && (xW a y && xW b z)))
 | .index o a, e => zu e λ f es p => zJ f λ x nm ap => on1 es λ y => (nm == ("index" : Str) && ap.endLine == p.line) && (okE y && ((okB x && xW o x) && xW a y))
 | .bufBytes, e => zu e λ f es w => zj f λ y => on1 es λ x => zy ns y "bytes" && uK ns x
 | .bufLen, e => zu e λ f es w => zj f λ y => on1 es λ x => zy ns y "len" && uK ns x
 | .bufCut lo hi, e => zu e λ f es w => zj f λ y => on1 es λ z => oN z λ x j => vO j λ u v => (zy ns y "bytes" && uK ns x) && (zbg ns lo u && zbg ns hi v)
 | .tok k v, e => zu e λ f es w => zj f λ y => on2 es λ x z => zy ns y "Token" && ((okE x && okE z) && (xW k x && xW v z))
 | .kget a, e => zu e λ f es p => zJ f λ o nm ap => zJ o λ s k w => on1 es λ x => (nm == ("get" : Str) && ap.endLine == p.line) && ((k == zf 4 && zj s (zB ns 0)) && (okE x && xW a x))
 | .countNl _, _ => false
noncomputable def gF : List PX -> List Expr -> Bool
 | [], es => isNil es
 | m :: ms, es => match es with
  | [] => false
  | e :: es => okE e && (xW m e && gF ms es)
noncomputable def zjH : Option PX -> Option Expr -> Bool
 | none, e => isNone e
 | some m, e => oO e false λ e => xW m e
end
end
end
section
open PyProof.Rows PySem.Builtin
noncomputable def Cx.M (x : Cx) : Model := model x.c.prog x.c.w
noncomputable def Cx.A (x : Cx) : Around := x.f.A
noncomputable def Cx.env (x : Cx) : Env := x.f.env
noncomputable def Cx.ns (x : Cx) : NS := x.f.scope.names
noncomputable abbrev zbh (Qc Ec : Value -> Shared -> Prop) : Result -> Shared -> Prop := λ r s' => match r with | .ok (.ret v) => Qc v s' | .ok _ => False | .error e => Ec e s'
structure Here (c : Cfg) (f : Frm) (A : Around) (n : Nat) : Prop where
 below : Below f.A₁ f.base f.outer f.h₀
 kin : c.K.In f.h₀
 top : Top c.p c.loose c.mean c.mg c.mb f.h₀
 kind : f.scope.kind = .function
 stack : A.frames = some (f.env :: f.outer)
 hh : A.handled = none
 depth : A.depth + 3 * n + 10 < recursionLimit
 units : A.units + 12 * n + 40 < cLine
noncomputable def rH (c : Cfg) (fa : Nat -> Addr) (k : Nat) : Prop :=
 ∀ {f : Frm} {A : Around} {y : Lc} {b : Wd} {ws : List Value} {vs : List AV} {Q : Prop} {Qc Ec : Value -> Shared -> Prop}, Here c f A (k + 1) -> PC k vs y.g Q -> Rl ⟨c, f⟩ y b -> yx (VR c b.P) vs ws -> Go ⟨c, f⟩ y b Q (PF k vs y.g) Qc -> codeAny (model c.prog c.w) A (.call (.ref (fa k)) ⟨ws, []⟩) (zbh Qc Ec) b.s
noncomputable def zib (c : Cfg) : Prop :=
 ∀ {f : Frm} {A : Around} {y : Lc} {b : Wd} {wk wv : Value} {k v : AV} {Qc Ec : Value -> Shared -> Prop}, Here c f A 0 -> Rl ⟨c, f⟩ y b -> VR c b.P k wk -> VR c b.P v wv -> Go ⟨c, f⟩ y b True (.inst 0 [k, v]) Qc -> codeAny (model c.prog c.w) A (.call (.ref c.tokC) ⟨[wk, wv], []⟩) (zbh Qc Ec) b.s
noncomputable abbrev rP : List Str := ["len", "abs", "max", "isinstance", "bytes", "int", "bool", "enumerate", "bytearray"]
structure Fx (c : Cfg) (T : Names) (fa : Nat -> Addr) : Prop where
 fnN : ∀ k, k < 50 -> nsIn c.K mainGlobals (T.fn k) = some (some (.ref (fa k)))
 fnK : ∀ k, k < 50 -> keepIn c.K (.ref (fa k)) = true
 meN : ∀ k, 50 < k -> findIn c.K (.ref c.lexC) (T.meth k) = some (some (.ref (fa k)))
 meF : ∀ k, 50 < k -> isFn c.K (.ref (fa k)) = true
 meK : ∀ k, 50 < k -> keepIn c.K (.ref (fa k)) = true
 meX : ∀ k, 50 < k -> (zh0.all λ f => !(zf f == T.meth k)) = true
 con : ∀ x v, T.has x v = true -> ∃ w, nsIn c.K mainGlobals x = some (some w) /\ ∀ P, VR c P v w
 lexAt : plainGet c.K c.lexC "at" = true
 lexDict : hasDictIn c.K c.lexC = true
 lexGet : ∀ f, f < 12 -> ∃ attr, findIn c.K (.ref c.lexC) (zf f) = some attr /\ noGet c.K attr = true
 setA : findIn c.K (.ref c.lexC) "__setattr__" = some (some (.builtin "object.__setattr__"))
 setO : plainOver c.K c.lexC = true
 setT : ∀ f, f < 12 -> takerIn c.K c.lexC (zf f) = some none
 insAt : ∀ k, plainGet c.K (cA c k) "at" = true
 insDict : ∀ k, hasDictIn c.K (cA c k) = true
 insGet : ∀ k f, f ∈ zdn k -> ∃ attr, findIn c.K (.ref (cA c k)) (zf f) = some attr /\ noGet c.K attr = true
 tok : zib c
 tokN : nsIn c.K mainGlobals "Token" = some (some (.ref c.tokC))
 tokK : keepIn c.K (.ref c.tokC) = true
 blt : ∀ x ∈ rP, nsIn c.K mainGlobals x = some none
structure St (x : Cx) (T : Names) (fa : Nat -> Addr) (n : Nat) : Prop where
 here : Here x.c x.f x.A n
 nodup : (x.f.scope.names.map (·.1)).Nodup
 fx : Fx x.c T fa
 calls : ∀ k, k < n -> rH x.c fa k
theorem Here.less {c : Cfg} {f : Frm} {A : Around} {n k : Nat} (h : Here c f A n) (l : k <= n) : Here c f A k :=
 ⟨h.below, h.kin, h.top, h.kind, h.stack, h.hh, Nat.lt_of_le_of_lt (Nat.add_le_add_right (Nat.add_le_add_left (Nat.mul_le_mul_left 3 l) _) 10) h.depth, Nat.lt_of_le_of_lt (Nat.add_le_add_right (Nat.add_le_add_left (Nat.mul_le_mul_left 12 l) _) 40) h.units⟩
noncomputable def yd (x : Cx) (e : Expr) (p : PX) : Prop :=
 ∀ {y : Lc} {a : Wd} {Q : Prop} {Qc Ec : Value -> Shared -> Prop}, cnd p y.l y.g Q -> Rl x y a -> Go x y a Q (val p y.l y.g) Qc -> wpAny x.M x.A (eval e x.env) Qc Ec a.s
noncomputable abbrev GoT (x : Cx) (y : Lc) (a : Wd) (Q : Prop) (t : Bool) (Qc : Bool -> Shared -> Prop) : Prop := Q -> ∀ b, Rl x y b -> Up a b -> Qc t b.s
noncomputable def zic (x : Cx) (e : Expr) (p : PX) : Prop :=
 ∀ {y : Lc} {a : Wd} {Q : Prop} {Qc : Bool -> Shared -> Prop} {Ec : Value -> Shared -> Prop}, cnd p y.l y.g (boC (val p y.l y.g) Q) -> Rl x y a -> GoT x y a Q (truth (val p y.l y.g)) Qc -> wpAny x.M x.A (isTrue e x.env (eval e x.env)) Qc Ec a.s
structure Sim (x : Cx) (e : Expr) (p : PX) : Prop where
 E : yd x e p
 T : zdg e = true -> zic x e p
structure AtL (x : Cx) (y : Lc) (a : Wd) (vs : List AV) (ws : List Value) (b : Wd) : Prop where
 R : Rl x y b
 u : Up a b
 v : yx (VR x.c b.P) vs ws
noncomputable def zbi (x : Cx) (es : List Expr) (ps : List PX) : Prop :=
 ∀ {y : Lc} {a : Wd} {Q : Prop} {Qc : List Value -> Shared -> Prop} {Ec : Value -> Shared -> Prop}, kj ps y.l y.g Q -> Rl x y a -> (Q -> ∀ ws b, AtL x y a (uJ ps y.l y.g) ws b -> Qc ws b.s) -> ∀ pos, wpAny x.M x.A (spliced (backTo pos (starEach es x.env))) Qc Ec a.s
noncomputable def zid (x : Cx) (e : Option Expr) (p : Option PX) : Prop :=
 ∀ {y : Lc} {a : Wd} {Q : Prop} {Qc Ec : Value -> Shared -> Prop}, zhK p y.l y.g Q -> Rl x y a -> Go x y a Q (zdf p y.l y.g) Qc -> wpAny x.M x.A (evalPart e x.env) Qc Ec a.s
section
variable {M : Model} {A : Around} {E : Value -> Shared -> Prop} {s : Shared} {env : Env}
theorem dM {pos : Pos} {es : List Expr} (h : es.all okE = true) : (backTo pos (starEach es env)).any (·.1) = false := by
 induction es with
 | nil => rfl
 | cons e es ih => exact a2 (List.all_cons ▸ h) λ h1 h2 => by rw [wX h1]; exact ih h2
theorem dN {pos : Pos} {es : List Expr} (h : es.all okE = true) : (backTo pos (starEach es env)).all (λ x => !x.1) = true := by
 induction es with
 | nil => rfl
 | cons e es ih => exact a2 (List.all_cons ▸ h) λ h1 h2 => by rw [wX h1]; exact ih h2
theorem yZ {P : Heap -> Prop} {f : Value} {first : List Value} {es : List Expr} {pos : Pos} {Q : Value -> Shared -> Prop} (hst : es.all okE = true)
  (hk : ∀ h, P h -> ∃ k, (k = Keeper.frame \/ k = Keeper.machine \/ k = Keeper.boundFrame) /\ Looks M h (keeperOf f) k)
  (h : wpAny M A (spliced (backTo pos (starEach es env))) (λ vs s₁ => P s₁.heap /\ wpAny M A (call f (first ++ vs)) Q E s₁) E s) :
  wpAny M A (callWith pos f first (backTo pos (starEach es env)) []) Q E s := by
 refine callWith_of (by rw [dM hst]; rfl) hk ?_
 cases es with
 | nil =>
  intro Γ p hΓ
  have z : P s.heap /\ wpAny M A (call f (first ++ [])) Q E s := h Γ p hΓ
  exact PyProof.Rows.evalArgs_none (f := f) (Q := λ a s₁ => P s₁.heap /\ wpAny M A (call f (first ++ a.pos) a.kw) Q E s₁) z Γ p hΓ
 | cons e es =>
  refine a2 (List.all_cons ▸ hst) λ h1 y => ?_
  rw [wX h1] at h ⊢
  exact Calls.evalArgs_plain h
theorem zG {f : Value} (hf : ∀ a, f ≠ .ref a) (h : Heap) (_ : True) : ∃ k, (k = Keeper.frame \/ k = Keeper.machine \/ k = Keeper.boundFrame) /\ Looks M h (keeperOf f) k :=
 ⟨.machine, .inr (.inl rfl), Looks.of_pure (by cases f <;> first | rfl | exact absurd rfl (hf _))⟩
theorem args1 {x : Expr} {pos : Pos} {Q : List Value -> Shared -> Prop} (hs : okE x = true) (h : wpAny M A (eval x env) (λ w s₁ => Q [w] s₁) E s) :
  wpAny M A (spliced (backTo pos (starEach [x] env))) Q E s :=
 args_cons (wpAny_mono h (λ y y q => args_nil q) λ y y z => z) (wX hs _)
theorem args2 {x y : Expr} {pos : Pos} {Q : List Value -> Shared -> Prop} (hs : okE x = true) (hs' : okE y = true) (h : wpAny M A (eval x env) (λ w s₁ => wpAny M A (eval y env) (λ v s₂ => Q [w, v] s₂) E s₁) E s) :
  wpAny M A (spliced (backTo pos (starEach [x, y] env))) Q E s :=
 args_cons (wpAny_mono h (λ u u q => args1 hs' q) λ u u z => z) (wX hs _)
theorem yC {x : Expr} (h : okE x = true) : [x].all okE = true := by rw [List.all_cons, h]; rfl
theorem s6 {x y : Expr} (h : okE x = true) (h' : okE y = true) : [x, y].all okE = true := by rw [List.all_cons, List.all_cons, h, h']; rfl
theorem sE {T : Names} {ns : NS} {n : Nat} {ms : List PX} : ∀ {es : List Expr}, gF T ns n ms es = true -> es.all okE = true := by
 induction ms with
 | nil => exact λ h => isNil.of h ▸ rfl
 | cons m ms ih =>
  intro es h
  cases es with
  | nil => exact no h
  | cons e es => exact a3 h λ h1 z h3 => by rw [List.all_cons, h1, ih h3]; rfl
theorem dO {T : Names} {ns : NS} {n : Nat} {ms : List PX} : ∀ {es : List Expr}, gF T ns n ms es = true -> es.length = ms.length := by
 induction ms with
 | nil => exact λ h => isNil.of h ▸ rfl
 | cons m ms ih =>
  intro es h
  cases es with
  | nil => exact no h
  | cons e es => exact a3 h λ z z h3 => congrArg (· + 1) (ih h3)
theorem dR {l : Loc} {g : GS} : ∀ ms : List PX, (uJ ms l g).length = ms.length := List.rec rfl λ z z ih => congrArg (· + 1) ih
theorem gG {M : AV -> Prop} {v : AV} {Q : Prop} (h : boC v Q) (k : ∀ b, Q -> M (.bool b)) : M v := by
 cases v with
 | bool b => exact k b h
 | _ => exact h.elim
theorem rQ {M : Model} {A : Around} {c : Cfg} {P : Pl} {v : AV} {w : Value} {Q : Prop} {Qc : Bool -> Shared -> Prop} (h : boC v Q) (hv : VR c P v w) (k : Q -> Qc (truth v) s) : wpAny M A (truthy w) Qc E s :=
 gG (M := λ v => VR c P v w -> (Q -> Qc (truth v) s) -> wpAny M A (truthy w) Qc E s) h (λ b q hv k => (show Value.bool b = w from hv) ▸ wpAny_truthy_bool (k q)) hv k
end
section
variable {x : Cx} {T : Names} {fa : Nat -> Addr} {n : Nat} {y : Lc} {a : Wd} {e : Expr} {p : PX}
theorem Rl.tk (R : Rl x y a) {t : Nat} : Rl x y ⟨a.P, { a.s with toks := t }⟩ := ⟨R.F, R.N, R.led, R.st, R.loc⟩
theorem Up.tk {a : Wd} {t : Nat} : Up a ⟨a.P, { a.s with toks := t }⟩ := ⟨Ext.refl _, rfl⟩
theorem Rl.val (R : Rl x y a) {v : AV} {w : Value} (h : VR x.c a.P v w) {t : Nat} : At x y a v w ⟨a.P, { a.s with toks := t }⟩ := ⟨R.tk, Up.tk, h⟩
theorem St.kin (S : St x T fa n) (R : Rl x y a) : x.c.K.In a.s.heap := S.here.kin.keeps R.F.keep
theorem St.std (S : St x T fa n) (R : Rl x y a) : Std x.c a.P a.s.heap := ⟨λ z z h => R.N.get h, S.kin R⟩
theorem zF (h : yd x e p) (e2 : isTrue e x.env (eval e x.env) = (do let v <- eval e x.env; standAt e.pos; holding [v] (truthy v))) : Sim x e p :=
 ⟨h, λ _ {y a Q Qc Ec} hp R k => e2 ▸ wBD (h hp R λ q w b B => wBD (wpAny_standAt (wpAny_holding (rQ q B.v λ q => k q b B.R B.u))))⟩
theorem yH {ns : NS} {z n : Str} {P : Prop} (h : zy ns z n = true) (k : z = n -> (z == ("__debug__" : Str)) = false -> ns.lookup z = some .globalImplicit -> P) : P :=
 a3 h λ h1 h2 h3 => k (eq_of_beq h1) (Bool.not_eq_true' _ ▸ h2) (eq_of_beq h3)
theorem xQ {ns : NS} {i : Nat} {z : Str} {P : Prop} (h : zB ns i z = true) (k : yj ns i = some (z, .local) -> (z == ("__debug__" : Str)) = false -> ns.lookup z = some .local -> P) : P :=
 a3 h λ h1 h2 h3 => k (eq_of_beq h1) (Bool.not_eq_true' _ ▸ h2) (eq_of_beq h3)
theorem xR (S : St x T fa n) (R : Rl x y a) {z v : Str} {pos : Pos} {w : Value} {Qc : Value -> Shared -> Prop} {Ec} (h : zy x.ns z v = true) (hx : nsIn x.c.K mainGlobals v = some (some w)) (q : Qc w a.s) : wpAny x.M x.A (eval (.Name z pos) x.env) Qc Ec a.s :=
 yH h λ h1 h2 h3 => name_K R.F S.here.kin (topRead_of S.here.top) (h1 ▸ hx) q S.here.kind h3 h2
theorem rR {v : Option AV} {Q P : Prop} (h : zja v Q) (k : ∀ u, v = some u -> Q -> P) : P := by
 cases v with
 | none => exact h.elim
 | some u => exact k u rfl h
theorem yL (S : St x T fa n) (R : Rl x y a) {i : Nat} {z : Str} {pos : Pos} {v : AV} {Qc : Value -> Shared -> Prop} {Ec} (h : zB x.ns i z = true) (hv : zQ y.l i = some v) (q : ∀ w, VR x.c a.P v w -> Qc w a.s) : wpAny x.M x.A (eval (.Name z pos) x.env) Qc Ec a.s :=
 xQ h λ h1 h2 h3 => zhM.rec (motive := λ u => wpAny x.M x.A (eval (.Name z pos) x.env) Qc Ec a.s) (λ w e r => ld R.F e (q w r) S.here.kind h3 h2) (R.loc i v z hv h1)
theorem nJ {M : AV -> Const -> Prop} {v : AV} {c : Const} (h : dK v c = true) (kn : M .none .none) (kb : ∀ b, M (.bool b) (.bool b)) (ki : ∀ i, M (.int i) (.int i)) (ky : ∀ b, M (.bytes b) (.bytes b)) : M v c := by
 cases v with
 | none => cases c with
  | none => exact kn
  | _ => exact no h
 | bool b => cases c with
  | bool c => exact eq_of_beq h ▸ kb b
  | _ => exact no h
 | int b => cases c with
  | int c => exact of_decide_eq_true h ▸ ki b
  | _ => exact no h
 | bytes b => cases c with
  | bytes c => exact of_decide_eq_true h ▸ ky b
  | _ => exact no h
 | _ => exact no h
theorem zbj {v : AV} {c : Const} {i : Nat} {pos : Pos} (h : dK v c = true) : Sim x (.Constant c i pos) (.const v) :=
 nJ (M := λ v c => Sim x (.Constant c i pos) (.const v)) h
  (zF (λ q R k => wpAny_Constant_none (k q _ _ (R.val (v := .none) rfl (t := _)))) rfl) (λ b => zF (λ q R k => wpAny_Constant_bool (k q _ _ (R.val (v := .bool b) rfl (t := _)))) rfl)
  (λ j => zF (λ q R k => wpAny_Constant_int (k q _ _ (R.val (v := .int j) ⟨_⟩))) rfl) (λ b => zF (λ q R k => Constant_bytes (k q _ _ (R.val (v := .bytes b) ⟨_⟩))) rfl)
theorem zdB (S : St x T fa n) {z v : Str} {u : AV} {pos : Pos} (h : (zy x.ns z v && T.has v u) = true) : Sim x (.Name z pos) (.glob v u) :=
 zF (λ q R k => a2 h λ h1 h2 => (S.fx.con v u h2).elim λ w hw => xR S R h1 hw.1 (k q w _ (R.val (hw.2 _)))) rfl
theorem zbk (S : St x T fa n) {i : Nat} {z : Str} {pos : Pos} (h : zB x.ns i z = true) : Sim x (.Name z pos) (.loc i) :=
 zF (λ q R k => rR q λ u e q => yL S R h e λ w r => k q w _ (R.val (show VR _ _ ((zQ _ i).getD .none) w by rw [e]; exact r))) rfl
end
section
variable {prog : Program} {w : World} {A : Around} {E : Value -> Shared -> Prop} {s : Shared} {env : Env}
theorem yD {o : Expr} {name : Str} {apos pos : Pos} {args : List Expr} {Q : Value -> Shared -> Prop}
  (hb : okB o = true) (hst : args.all okE = true) (hln : args.length < 20) (hline : (apos.endLine == pos.line) = true)
  (h : wpAny (model prog w) A (eval o env) (λ ov s₁ => ∀ pl, wpAny (model prog w) A (getMethod ov name pl) (λ fx s₂ => wpAny (model prog w) A (callWith pos fx.1 fx.2 (backTo pos (starEach args env)) []) Q E s₂) E s₁) E s) :
  wpAny (model prog w) A (eval (.Call (.Attribute o name apos) args [] pos) env) Q E s := by
 rw [arm_eval_Call, sy hb]
 have hform : methodCallForm (args.length + ([] : List Keyword).length) (backTo pos (starEach args env)) (backToKw pos (keywordEach [] env)) = true := by
  show ((backTo pos (starEach args env)).all (λ x => !x.1) && (backToKw pos (keywordEach [] env)).all (λ x => x.1.isSome) && decide (args.length + 0 + 0 < 30)) = true
  rw [dN hst, decide_eq_true (show args.length + 0 + 0 < 30 from Nat.lt_trans hln (by decide))]
  rfl
 have hpos : methodCallPos true o env apos pos = pure pos := by unfold methodCallPos; rw [hline]; rfl
 refine wBD (wpAny_mono h (λ ov s₁ h₁ => wBD (wpAny_standAt ?_)) λ z z e => e)
 unfold methodCall
 rw [hform, hpos]
 exact wBD (wpAny_holding (wpAny_mono (h₁ _) (λ fx s₂ h₂ => wBD (wpAny_pure h₂)) λ z z e => e))
end
section
variable {x : Cx} {T : Names} {fa : Nat -> Addr} {n : Nat} {y : Lc} {a b : Wd} {e : Expr} {p : PX}
theorem zgg : zbi x [] [] := λ q R k z => args_nil (k q [] _ ⟨R, Up.refl _, trivial⟩)
theorem dU {es : List Expr} {ps : List PX} (h1 : yd x e p) (h2 : zbi x es ps) (hs : okE e = true) : zbi x (e :: es) (p :: ps) := λ hp R k pos =>
 args_cons (h1 hp R λ q w b B => h2 q B.R (λ q ws d D => k q (w :: ws) d ⟨D.R, B.u.trans D.u, VR.mono D.u.ext _ B.v, D.v⟩) pos) (wX hs _)
theorem nM (R : Rl x y b) {w : Value} (hx : oh b.P w) {fs : List AV} (hl : y.g.lx = some fs) : ∃ z d u es i, w = .ref z /\ zhL x.c b.P y.g.buf fs z d u es i := by
 obtain ⟨z, hx⟩ := hx
 obtain ⟨z', d, u, es, i, h⟩ := R.st.lex fs hl
 have e : z' = z := sIJ (h.px.symm.trans hx)
 exact ⟨z', d, u, es, i, congrArg Value.ref e.symm, h⟩
theorem jh : ∀ k : Fin 12, vH zh0 k.val = some k.val := by decide
theorem ji {f : Nat} : ∀ {fs : List Nat} {i : Nat}, vH fs f = some i -> f ∈ fs := λ {fs} => by
 induction fs with
 | nil => exact λ e => (nomatch e)
 | cons g fs ih => exact λ e => (vZ e).elim (λ z => z.1 ▸ .head _) λ ⟨_, _, z, _⟩ => .tail _ (ih z)
theorem zbl {α : Type} {v : α} : ∀ {l : List α} {i : Nat}, yj l i = some v -> i < l.length := λ {l} => by
 induction l with
 | nil => exact λ e => (nomatch e)
 | cons u l ih => exact λ {i} => Nat.rec (λ z => Nat.zero_lt_succ _) (λ i z e => Nat.succ_lt_succ (ih e)) i
theorem aN {M : AV -> Option AV -> Prop} {g : GS} {u : AV} {f : Nat} {Q : Prop} (h : ou (xG g u f) Q) (lex : ∀ fs v, g.lx = some fs -> yj fs f = some v -> kI v = true -> Q -> M .lex (some v))
  (ins : ∀ j vs i v, vH (zdn j) f = some i -> yj vs i = some v -> Q -> M (.inst j vs) (some v)) : M u (xG g u f) := by
 cases u with
 | lex =>
  revert h
  show ou (match g.lx with | some fs => yj fs f | none => none) Q -> M .lex (match g.lx with | some fs => yj fs f | none => none)
  cases e : g.lx with
  | none => exact λ h => h.elim
  | some fs =>
   show ou (yj fs f) Q -> M .lex (yj fs f)
   cases e2 : yj fs f with
   | none => exact λ h => h.elim
   | some v => exact λ h => lex fs v e e2 (zq h).1 (zq h).2
 | inst j vs =>
  revert h
  show ou ((vH (zdn j) f).bind (yj vs)) Q -> M (.inst j vs) ((vH (zdn j) f).bind (yj vs))
  cases e : vH (zdn j) f with
  | none => exact λ h => h.elim
  | some i =>
   show ou (yj vs i) Q -> M _ (yj vs i)
   cases e2 : yj vs i with
   | none => exact λ h => h.elim
   | some v => exact λ h => ins j vs i v e e2 (zq h).2
 | _ => exact h.elim
theorem gH (S : St x T fa n) (R : Rl x y b) {z d u : Addr} {es : List DictEntry} {i f : Nat} {fs : List AV} {v : AV} {b' : Bool} {Qc : Value -> Shared -> Prop} {Ec} (h : zhL x.c b.P y.g.buf fs z d u es i) (e : yj fs f = some v)
  (k : ∀ w, FR x.c b.P u v w -> handedIn w = true /\ Qc w { b.s with toks := b.s.toks + 1 }) : wpAny x.M x.A (getAttr (.ref z) (zf f) b') Qc Ec b.s := by
 have l : f < 12 := Nat.lt_of_lt_of_le (zbl e) h.kv.le
 obtain ⟨w, e1, r⟩ := h.kv.get (Nat.lt_trans l (by decide)) kY (jh ⟨f, l⟩) e
 obtain ⟨attr, f1, f2⟩ := S.fx.lexGet f l
 exact get_own R.F S.here.kin (InstAt.of_news R.N h.ox.1 h.od.1) S.fx.lexAt S.fx.lexDict f1 f2 e1 (k w r).1 (k w r).2
theorem get_ins (S : St x T fa n) (R : Rl x y b) {f j i : Nat} {vs : List AV} {v : AV} {w : Value} {b' : Bool} {Qc : Value -> Shared -> Prop} {Ec} (h : VR x.c b.P (.inst j vs) w) (hp : vH (zdn j) f = some i) (e : yj vs i = some v)
  (k : ∀ w, VR x.c b.P v w -> Qc w { b.s with toks := b.s.toks + 1 }) : wpAny x.M x.A (getAttr w (zf f) b') Qc Ec b.s := by
 obtain ⟨ws, hv, h⟩ := h
 obtain ⟨z, d, es, m, o, o2, kv⟩ := h
 obtain ⟨u, e1, r⟩ := hv.to.get e
 obtain ⟨u2, e2, r2⟩ := kv.get (qy j f (ji hp)) (qy j) hp e1
 subst r2
 obtain ⟨attr, f1, f2⟩ := S.fx.insGet j f (ji hp)
 exact get_own R.F S.here.kin (InstAt.of_news R.N o.1 o2.1) (S.fx.insAt j) (S.fx.insDict j) f1 f2 e2 (jg r) (k u r)
theorem zfs (S : St x T fa n) (R : Rl x y b) {u : AV} {f : Nat} {w : Value} {b' : Bool} {Q : Prop} {Qc : Value -> Shared -> Prop} {Ec} (h : ou (xG y.g u f) Q) (hx : VR x.c b.P u w)
  (k : Q -> ∀ w, VR x.c b.P ((xG y.g u f).getD .none) w -> Qc w { b.s with toks := b.s.toks + 1 }) : wpAny x.M x.A (getAttr w (zf f) b') Qc Ec b.s := by
 refine aN (M := λ u v => VR x.c b.P u w -> (Q -> ∀ w, VR x.c b.P (v.getD .none) w -> Qc w { b.s with toks := b.s.toks + 1 }) -> wpAny x.M x.A (getAttr w (zf f) b') Qc Ec b.s) h (λ fs v hl e hp q hx k => ?_) (λ j vs i v hp e q hx k => get_ins S R hx hp e (k q)) hx k
 obtain ⟨z, d, u, es, i, e1, h⟩ := nM R hx hl
 subst e1
 exact gH S R h e λ w r => ⟨jg (r.plain hp), k q w (r.plain hp)⟩
theorem dW (S : St x T fa n) {f : Nat} {pos : Pos} (h : yd x e p) (hb : okB e = true) : yd x (.Attribute e (zf f) pos) (.attr p f) := λ hp R k =>
 Attribute_any_ (h hp R λ q w b B => zfs S B.R q B.v λ q w r => k q w _ (B.tk r)) (by rw [arm_eval_Attribute, sy hb])
theorem zgh {op : Operator} {l r : Expr} {pl pr : PX} {pos : Pos} (h1 : yd x l pl) (h2 : yd x r pr) : yd x (.BinOp l op r pos) (.bin op pl pr) := λ hp R k =>
 wpAny_BinOp (h1 hp R λ q w b B => h2 q B.R λ q w2 d D => zfq q (VR.mono D.u.ext _ B.v) D.v λ q w t r => k q w _ ((D.up B.u).tk r))
theorem zgi {pos : Pos} (h : Sim x e p) (hn : zdg e = true) : Sim x (.UnaryOp .Not e pos) (.not p) :=
 ⟨λ hp R k => wpAny_UnaryOp (h.E hp R λ q w b B => not_of (rQ q B.v λ q => k q _ b ⟨B.R, B.u, rfl⟩)), λ _ {y a Q Qc Ec} hp R k => isTrue_not (h.T hn hp R k)⟩
theorem zie {A : Around} {E} {s : Shared} {c : Cfg} {P : Pl} {v : AV} {w : Value} {Q : Prop} {Qc : Value -> Shared -> Prop} (h : zf2 v Q) (hv : VR c P v w) (k : Kt c P s Q (zjA v) Qc) : wpAny (model c.prog c.w) A (unaryOp .USub w) Qc E s := by
 refine uX (M := λ v => VR c P v w -> (Kt c P s Q (zjA v) Qc) -> wpAny (model c.prog c.w) A (unaryOp .USub w) Qc E s) h (λ i q hv k => ?_) hv k
 obtain ⟨t⟩ : xX i w := hv
 exact PyProof.Rows.neg_int (k q _ _ ⟨_⟩)
theorem zgj {pos : Pos} (h : yd x e p) : yd x (.UnaryOp .USub e pos) (.neg p) := λ hp R k =>
 wpAny_UnaryOp (h hp R λ q w b B => zie q B.v λ q w t r => k q w _ (B.tk r))
theorem zif (c : Bool) (u v : AV) : zdo c u v = cond c u v := by
 cases u with
 | int i => cases v with
  | int j => cases c <;> rfl
  | _ => rfl
 | bytes i => cases v with
  | bytes j => cases c <;> rfl
  | _ => rfl
 | _ => rfl
theorem boT {v : AV} {Q : Prop} (h : boC v Q) : Q := gG (M := λ z => Q) h λ z q => q
theorem zgk {t u v : Expr} {pt pu pv : PX} {pos : Pos} (h1 : zic x t pt) (h2 : yd x u pu) (h3 : yd x v pv) : yd x (.IfExp t u v pos) (.ite pt pu pv) := λ {y a Q Qc Ec} hp R k => by
 refine wpAny_IfExp (h1 hp R λ q b R' U => ?_)
 have k' : ∀ w d, At x y a (cond (truth (val pt y.l y.g)) (val pu y.l y.g) (val pv y.l y.g)) w d -> Qc w d.s := λ w d D => k q.2.2 w d (show At x y a (zdo _ _ _) w d by rw [zif]; exact D)
 clear k
 cases e : truth (val pt y.l y.g) with
 | true => rw [e] at k'; exact h2 (q.1 e) R' λ z w d D => k' w d (D.up U)
 | false => rw [e] at k'; exact h3 (q.2.1 e) R' λ z w d D => k' w d (D.up U)
theorem zgl {es : List Expr} {ps : List PX} {i : Nat} {pos : Pos} (h : zbi x es ps) (hz : es.length < 100) (hl : es.length = ps.length) : yd x (.Tuple es i pos) (.tup ps) := λ hp R k =>
 Tuple_ (h hp R (λ q ws b B => newTuple_N B.R.F B.R.N (λ h' F' N' => k q _ ⟨b.P.push b.s.heap.objs.size (za6 ws 0), { b.s with heap := h', toks := b.s.toks }⟩ ⟨B.R.push B.R.fresh F' N', B.u.trans ⟨vL.push.ext, rfl⟩, ws, VRs.of (B.v.mono λ v y => VR.mono vL.push.ext v), ⟨_, 0, .head _, λ z => B.R.fresh (B.R.led.mem _ z)⟩⟩)
  (xP (by rw [B.v.len, dR, <- hl]; exact nLT (Nat.le_of_lt hz) (by decide)))) _)
theorem zgm {es : List Expr} {ps : List PX} {pos : Pos} (h : zbi x es ps) (hz : es.length < 100) (hl : es.length = ps.length) : yd x (.List es pos) (.lst ps) := λ hp R k =>
 List_ (h hp R (λ q ws b B => newList_N B.R.F B.R.N (λ h' F' N' => k q _ ⟨b.P.push b.s.heap.objs.size (listOf ws.toArray 0), { b.s with heap := h', toks := b.s.toks }⟩ ⟨B.R.push B.R.fresh F' N', B.u.trans ⟨vL.push.ext, rfl⟩, ws, VRs.of (B.v.mono λ v y => VR.mono vL.push.ext v), .own _ 0 ⟨.head _, λ z => B.R.fresh (B.R.led.mem _ z)⟩⟩)
  (xP (by rw [B.v.len, dR, <- hl]; exact nLT (Nat.le_of_lt hz) (by decide)))) _)
theorem zdC : zid x none none := λ q R k => wpAny_pure (k q _ _ ⟨R, Up.refl _, rfl⟩)
theorem zdD (h : yd x e p) : zid x (some e) (some p) := h
end
noncomputable abbrev bop (c : Bool) : BoolOp := match c with | true => .And | false => .Or
noncomputable abbrev aO (c : Bool) (vs : List AV) : Bool := match c with | true => vs.all truth | false => vs.any truth
theorem zbm {c : Bool} {v : AV} {vs : List AV} (h : truth v = c) : aO c (v :: vs) = aO c vs := by
 cases c with
 | true => show (truth v && vs.all truth) = _; rw [h]; rfl
 | false => show (truth v || vs.any truth) = _; rw [h]; rfl
theorem jk {c : Bool} {v : AV} {vs : List AV} (h : truth v = !c) : aO c (v :: vs) = !c := by
 cases c with
 | true => show (truth v && vs.all truth) = _; rw [h]; rfl
 | false => show (truth v || vs.any truth) = _; rw [h]; rfl
section
variable {M : Model} {A : Around} {E : Value -> Shared -> Prop} {s : Shared} {env : Env}
theorem uL {pos : Pos} {c : Bool} {x y : Sem Value} {r : List (Sem Value)} {Q : Value -> Shared -> Prop}
  (h : wpAny M A x (λ v s₁ => wpAny M A (truthy v) (λ t s₂ => (t = c -> wpAny M A (boolOp pos (bop c) (y :: r)) Q E s₂) /\ (t = (!c) -> Q v s₂)) E s₁) E s) :
  wpAny M A (boolOp pos (bop c) (x :: y :: r)) Q E s := by
 show wpAny M A (do
  let v <- x
  standAt pos
  let t <- holding [v] (truthy v)
  match bop c, t with
  | .And, false | .Or, true => pure v
  | _, _ => boolOp pos (bop c) (y :: r)) Q E s
 refine wBD (wpAny_mono h (λ v s₁ h₁ => wBD (wpAny_standAt (wBD (wpAny_holding (wpAny_mono h₁ (λ t s₂ h₂ => ?_) λ z z x => x))))) λ z z x => x)
 cases c <;> cases t <;> first | exact h₂.1 rfl | exact wpAny_pure (h₂.2 rfl)
theorem s7 {c : Bool} {x : Expr} {rest : List Expr} {Q : Bool -> Shared -> Prop}
  (h : wpAny M A (isTrue x env (eval x env)) (λ t s₁ => (t = c -> wpAny M A (allTrue (bop c) rest env) Q E s₁) /\ (t = (!c) -> Q (!c) s₁)) E s) : wpAny M A (allTrue (bop c) (x :: rest) env) Q E s := by
 show wpAny M A (do match bop c, <- isTrue x env (eval x env) with | .And, false => pure false | .Or, true => pure true | _, _ => allTrue (bop c) rest env) Q E s
 refine wBD (wpAny_mono h (λ t s₁ h₁ => ?_) λ z z x => x)
 cases c <;> cases t <;> first | exact h₁.1 rfl | exact wpAny_pure (h₁.2 rfl)
theorem gJ {c : Bool} {Q : Bool -> Shared -> Prop} (h : Q c s) : wpAny M A (allTrue (bop c) [] env) Q E s := by
 cases c with
 | true => exact wpAny_allTrue_And_nil h
 | false => exact wpAny_allTrue_Or_nil h
end
section
variable {x : Cx} {T : Names} {fa : Nat -> Addr} {n : Nat} {y : Lc} {a b : Wd} {e : Expr} {p : PX}
noncomputable def zjh (x : Cx) (c : Bool) (es : List Expr) (ps : List PX) : Prop :=
 ∀ {y : Lc} {a : Wd} {Q : Prop} {Qc Ec : Value -> Shared -> Prop}, zh5 c ps y.l y.g Q -> Rl x y a -> Go x y a Q (.bool (aO c (uJ ps y.l y.g))) Qc -> ∀ pos, wpAny x.M x.A (boolOp pos (bop c) (evalEach es x.env)) Qc Ec a.s
noncomputable def zji (x : Cx) (c : Bool) (es : List Expr) (ps : List PX) : Prop :=
 ∀ {y : Lc} {a : Wd} {Q : Prop} {Qc : Bool -> Shared -> Prop} {Ec : Value -> Shared -> Prop}, zh5 c ps y.l y.g Q -> Rl x y a -> GoT x y a Q (aO c (uJ ps y.l y.g)) Qc -> wpAny x.M x.A (allTrue (bop c) es x.env) Qc Ec a.s
theorem boV {c : Cfg} {P : Pl} {v : AV} {w : Value} {Q : Prop} (h : boC v Q) (hv : VR c P v w) : VR c P (.bool (truth v)) w := gG (M := λ v => VR c P v w -> VR c P (.bool (truth v)) w) h (λ z z h => h) hv
theorem mW (c : Bool) (v : AV) : aO c [v] = truth v := by
 cases c with
 | true => exact Bool.and_true _
 | false => exact Bool.or_false _
theorem At.cast {v v' : AV} {w : Value} (e : v = v') (h : At x y a v w b) : At x y a v' w b := e ▸ h
theorem zdE {c : Bool} (h : yd x e p) : zjh x c [e] [p] := λ hp R k z =>
 h hp R λ q w b B => k (boT q) w b (At.cast (congrArg AV.bool (mW c _).symm) ⟨B.R, B.u, boV q B.v⟩)
theorem zbn {c : Bool} {e' : Expr} {es : List Expr} {p' : PX} {ps : List PX} (h : yd x e p) (h2 : zjh x c (e' :: es) (p' :: ps)) : zjh x c (e :: e' :: es) (p :: p' :: ps) := λ hp R k pos =>
 uL (h hp R λ q w b B => rQ q B.v λ q2 => ⟨λ t => h2 (q2.1 t) B.R (λ z w d D => k q2.2 w d (At.cast (congrArg AV.bool (zbm t).symm) (D.up B.u))) pos,
  λ t => k q2.2 w b (At.cast (congrArg AV.bool (t.trans (jk t).symm)) ⟨B.R, B.u, boV q B.v⟩)⟩)
theorem GoT.at {Q : Prop} {t t' : Bool} {Qc : Bool -> Shared -> Prop} (k : GoT x y a Q t Qc) (e : t = t') (q : Q) (R : Rl x y b) (U : Up a b) : Qc t' b.s := e ▸ k q b R U
theorem zdF {c : Bool} (h : zic x e p) : zji x c [e] [p] := λ hp R k =>
 s7 (h hp R λ q b R' U => ⟨λ t => gJ (GoT.at k ((mW c _).trans t) q R' U), λ t => GoT.at k ((mW c _).trans t) q R' U⟩)
theorem zbo {c : Bool} {e' : Expr} {es : List Expr} {p' : PX} {ps : List PX} (h : zic x e p) (h2 : zji x c (e' :: es) (p' :: ps)) : zji x c (e :: e' :: es) (p :: p' :: ps) := λ hp R k =>
 s7 (h hp R λ q b R' U => ⟨λ t => h2 (q.1 t) R' λ z d R2 V => GoT.at k (zbm t) q.2 R2 (U.trans V), λ t => GoT.at k (jk t) q.2 R' U⟩)
structure s8 (x : Cx) (es : List Expr) (ps : List PX) : Prop where
 L : zbi x es ps
 B : ∀ c, zjh x c es ps
 A : es.all zdg = true -> ∀ c, zji x c es ps
 each : yx (Sim x) es ps
theorem zgn {es : List Expr} {ps : List PX} {pos : Pos} (h : s8 x es ps) (hn : es.all zdg = true) : Sim x (.BoolOp .And es pos) (.and ps) :=
 ⟨λ hp R k => h.B true hp R k _, λ _ {y a Q Qc Ec} hp R k => wpAny_isTrue_BoolOp (h.A hn true hp R k)⟩
theorem zig {es : List Expr} {ps : List PX} {pos : Pos} (h : s8 x es ps) (hn : es.all zdg = true) : Sim x (.BoolOp .Or es pos) (.or ps) :=
 ⟨λ hp R k => h.B false hp R k _, λ _ {y a Q Qc Ec} hp R k => wpAny_isTrue_BoolOp (h.A hn false hp R k)⟩
structure dX (x : Cx) (ops : List CmpOp) (rs : List Expr) (ps : List PX) : Prop where
 go : ∀ {y : Lc} {a : Wd} {v : AV} {wv : Value} {Q : Prop} {Ec : Value -> Shared -> Prop}, za4 ops ps v y.l y.g Q -> Rl x y a -> VR x.c a.P v wv -> ∀ pos,
  (∀ {Qc : Value -> Shared -> Prop}, GoT x y a Q (aC ops v (uJ ps y.l y.g)) (λ t => Qc (.bool t)) -> wpAny x.M x.A (compareChain pos wv ops (evalEach rs x.env)) Qc Ec a.s) /\
  (∀ {Qc : Bool -> Shared -> Prop}, GoT x y a Q (aC ops v (uJ ps y.l y.g)) Qc -> wpAny x.M x.A (testChain pos wv ops (evalEach rs x.env)) Qc Ec a.s)
theorem mX (S : St x T fa n) {op : CmpOp} (h : yd x e p) : dX x [op] [e] [p] := ⟨λ hp R hv pos =>
 ⟨λ k => chain_last (h hp R λ q w b B => dI (S.std B.R) q (VR.mono B.u.ext _ hv) B.v λ q => k q b B.R B.u),
 λ k => test_last (h hp R λ q w b B => dI (S.std B.R) q (VR.mono B.u.ext _ hv) B.v λ q => wpAny_truthy_bool (k q b B.R B.u))⟩⟩
theorem zbp {t : Bool} {X Y : Prop} (h1 : t = true -> X) (h2 : t = false -> Y) : if t then X else Y := by
 cases t with
 | true => exact h1 rfl
 | false => exact h2 rfl
theorem zbq {a b : Bool} (h : a = true) : (a && b) = b := by rw [h]; rfl
theorem zft {a b : Bool} (h : a = false) : (a && b) = false := by rw [h]; rfl
theorem dY {l : Loc} {g : GS} {P : Prop} {p : PX} (h : zbe p = true) (hp : cnd p l g P) : P := by
 cases p with
 | const v => exact hp
 | loc i => exact rR hp λ z z q => q
 | _ => exact no h
theorem dZ {op : CmpOp} {u v : AV} {P : Prop} (h : zjw op u v P) : P := by
 cases op with
 | Eq => exact (zq h).2
 | NotEq => exact (zq h).2
 | Lt => exact wI (M := λ z z => P) h λ z z q => q
 | LtE => exact wI (M := λ z z => P) h λ z z q => q
 | Gt => exact wI (M := λ z z => P) h λ z z q => q
 | GtE => exact wI (M := λ z z => P) h λ z z q => q
 | Is => exact (vN h).2
 | IsNot => exact (vN h).2
 | In => exact gC (M := λ z z => P) h (λ z z q => q) (λ z z q => q) λ z z z q => q
 | NotIn => exact gC (M := λ z z => P) h (λ z z q => q) (λ z z q => q) λ z z z q => q
theorem zdG (S : St x T fa n) {op op' : CmpOp} {e' : Expr} {p' : PX} (h : yd x e p) (h2 : yd x e' p') (hl : zbe p' = true) : dX x [op, op'] [e, e'] [p, p'] := ⟨λ hp R hv pos =>
 have z {y : Lc} {b : Wd} {v : AV} {wv : Value} {Q : Prop} {Ec : Value -> Shared -> Prop} := (mX S (op := op') h2).go (y := y) (a := b) (v := v) (wv := wv) (Q := Q) (Ec := Ec)
 ⟨λ k => chain_link (h hp R λ q w b B => dI (S.std B.R) q (VR.mono B.u.ext _ hv) B.v λ q => wpAny_truthy_bool (zbp (λ t => (z q B.R B.v pos).1 λ q d R2 V => GoT.at k (zbq t) q R2 (B.u.trans V)) λ t => t ▸ GoT.at k (zft t) (dZ (dY hl q)) B.R B.u)),
 λ k => test_link (h hp R λ q w b B => dI (S.std B.R) q (VR.mono B.u.ext _ hv) B.v λ q => wpAny_truthy_bool (zbp (λ t => (z q B.R B.v pos).2 λ q d R2 V => GoT.at k (zbq t) q R2 (B.u.trans V)) λ t => GoT.at k (zft t) (dZ (dY hl q)) B.R B.u))⟩⟩
theorem uY : ∀ {ops : List CmpOp} {rs : List Expr}, rs.all okE = true -> lastMarks ops rs = false
 | [], _, _ => by unfold lastMarks; rfl
 | [op], [], _ => rfl
 | _ :: _ :: _, [], _ => rfl
 | [op], [e], h => a2 (List.all_cons ▸ h) λ h1 z => zgf h1 op
 | [op], e :: e' :: es, h => rfl
 | op :: op' :: ops, e :: es, h => a2 (List.all_cons ▸ h) λ z h2 => uY (ops := op' :: ops) h2
theorem zgo {ops : List CmpOp} {l : Expr} {pl : PX} {rs : List Expr} {ps : List PX} {pos : Pos} (h1 : yd x l pl) (h2 : dX x ops rs ps) (hs : rs.all okE = true) : Sim x (.Compare l ops rs pos) (.cmp pl ops ps) :=
 ⟨λ hp R k => by
  show wpAny _ _ (do compareChain pos (<- eval l x.env) ops (markedEach ops rs (evalEach rs x.env))) _ _ _
  rw [markedEach_of_false _ _ _ (uY hs)]
  exact wBD (h1 hp R λ q w b B => (h2.go q B.R B.v pos).1 λ q d R2 V => k q _ d ⟨R2, B.u.trans V, rfl⟩), λ _ {y a Q Qc Ec} hp R k => by
  show wpAny _ _ (do testChain pos (<- eval l x.env) ops (markedEach ops rs (evalEach rs x.env))) _ _ _
  rw [markedEach_of_false _ _ _ (uY hs)]
  exact wBD (h1 hp R λ q w b B => (h2.go q B.R B.v pos).2 λ q d R2 V => k q d R2 (B.u.trans V))⟩
theorem zbr (S : St x T fa n) (R : Rl x y b) {k : Nat} {vs : List AV} {ws : List Value} {Q : Prop} {Qc Ec} (hk : k < n) (hp : PC k vs y.g Q) (hv : yx (VR x.c b.P) vs ws) (kq : Go x y b Q (PF k vs y.g) Qc) : wpAny x.M x.A (call (.ref (fa k)) ws) Qc Ec b.s :=
 wpAny_call (S.calls k hk (S.here.less hk) hp R hv kq)
theorem zdH (S : St x T fa n) {k : Nat} {ps : List PX} {es : List Expr} {z : Str} {np pos : Pos} (h : zbi x es ps) (hs : es.all okE = true) (hg : zy x.ns z (T.fn k) = true) (hk : k < 50) (hn : k < n) : Sim x (.Call (.Name z np) es [] pos) (.call k ps) :=
 zF (λ hp R kq => Call_ (xR S R hg (S.fx.fnN k hk) (yZ (P := x.c.K.In) hs (λ h X => keeps_K (S.fx.fnK k hk) h X) (h hp R (λ q ws b B => ⟨S.kin B.R, zbr S B.R hn q B.v (kq.up B.u)⟩) pos)))) rfl
theorem nO {M : AV -> Prop} {v : AV} {Q : Prop} (h : nF v Q) (k : Q -> M .lex) : M v := by
 cases v with
 | lex => exact k h
 | _ => exact h.elim
theorem zbs (S : St x T fa n) (R : Rl x y b) {k : Nat} {w : Value} {pl : Sem Bool} {Qc : Value × List Value -> Shared -> Prop} {Ec} (hx : oh b.P w) (hk : 50 < k) (h : Qc (.ref (fa k), [w]) b.s) : wpAny x.M x.A (getMethod w (T.meth k) pl) Qc Ec b.s := by
 cases hl : y.g.lx with
 | none =>
  obtain ⟨z, hx⟩ := hx
  exact nomatch (R.st.nl hl).symm.trans hx
 | some fs =>
  obtain ⟨z, d, u, es, i, e1, hd⟩ := nM R hx hl
  subst e1
  exact method_inst R.F S.here.kin (InstAt.of_news R.N hd.ox.1 hd.od.1) S.fx.lexAt (S.fx.meN k hk) (S.fx.meF k hk) (hd.kv.absent (S.fx.meX k hk)) h
theorem zdI (S : St x T fa n) {k : Nat} {ps : List PX} {es : List Expr} {ap pos : Pos} (ho : yd x e p) (h : zbi x es ps) (hs : es.all okE = true) (hz : es.length < 20) (hk : 50 < k) (hn : k < n) (hb : okB e = true) (hline : (ap.endLine == pos.line) = true) : Sim x (.Call (.Attribute e (T.meth k) ap) es [] pos) (.meth k p ps) :=
 zF (λ {y a Q Qc Ec} hp R kq => yD hb hs hz hline (ho hp R λ q w b B pl => by
  refine nO (M := λ v => VR x.c b.P v w -> _) q (λ q hx => ?_) B.v
  exact zbs S B.R hx hk (yZ (P := x.c.K.In) hs (λ h X => keeps_K (S.fx.meK k hk) h X) (h q B.R (λ q ws d D => ⟨S.kin D.R, zbr S D.R hn q ⟨oh.mono D.u.ext hx, D.v⟩ (kq.up (B.u.trans D.u))⟩) pos)))) rfl
end
theorem sG {α : Type} {l : List α} : ∀ i : Nat, yj l i = l[i]? := by
 induction l with
 | nil => exact λ z => rfl
 | cons a l ih => exact λ i => Nat.rec rfl (λ i z => (ih i).trans List.getElem?_cons_succ.symm) i
theorem mY {α : Type} {l : List α} {i : Nat} (h : i < l.length) : ∃ v, yj l i = some v := ⟨l[i], (sG i).trans (List.getElem?_eq_getElem h)⟩
structure Blt (v : Str) (w : Value) : Prop where
 mem : v ∈ rP
 boot : bootBuiltins v = some w
 ne : v ≠ "__name__"
 nr : ∀ a, w ≠ .ref a
theorem zbt : Blt "len" (.builtin "len") := ⟨.head _, boot_len, by decide, λ z e => nomatch e⟩
theorem zgp : Blt "abs" (.builtin "abs") := ⟨.tail _ (.head _), boot_abs, by decide, λ z e => nomatch e⟩
theorem zgq : Blt "max" (.builtin "max") := ⟨.tail _ (.tail _ (.head _)), boot_max, by decide, λ z e => nomatch e⟩
theorem zgr : Blt "isinstance" (.builtin "isinstance") := ⟨.tail _ (.tail _ (.tail _ (.head _))), boot_isinstance, by decide, λ z e => nomatch e⟩
theorem vP : Blt "bytes" (.type "bytes") := ⟨.tail _ (.tail _ (.tail _ (.tail _ (.head _)))), boot_bytes, by decide, λ z e => nomatch e⟩
theorem zgs : Blt "int" (.type "int") := ⟨.tail _ (.tail _ (.tail _ (.tail _ (.tail _ (.head _))))), PyProof.Rows.boot_int, by decide, λ z e => nomatch e⟩
theorem zdJ : Blt "bool" (.type "bool") := ⟨.tail _ (.tail _ (.tail _ (.tail _ (.tail _ (.tail _ (.head _)))))), PyProof.Rows.boot_bool, by decide, λ z e => nomatch e⟩
section
variable {c : Cfg} {P : Pl} {A : Around} {E : Value -> Shared -> Prop} {s : Shared} {u v : AV} {wu wv : Value} {Q : Prop} {Qc : Value -> Shared -> Prop}
theorem zdK {M : AV -> Prop} (h : zjz v Q) (b : ∀ b, b.length <= 1000000 -> Q -> M (.bytes b)) (l : ∀ vs, vs.length <= 1000 -> Q -> M (.lst vs)) : M v := by
 cases v with
 | bytes x => exact b x h.1 h.2
 | lst vs => exact l vs (Nat.le_of_ble_eq_true (zq h).1) (zq h).2
 | _ => exact h.elim
theorem zih (S : Std c P s.heap) (h : zjz v Q) (hv : VR c P v wv) (k : Kt c P s Q (lenV v) Qc) : wpAny (model c.prog c.w) A (call (.builtin "len") [wv]) Qc E s := by
 refine zdK (M := λ v => VR c P v wv -> (Kt c P s Q (lenV v) Qc) -> wpAny (model c.prog c.w) A (call (.builtin "len") [wv]) Qc E s) h (λ b l q hv k => ?_) (λ vs l q hv k => ?_) hv k
 ·obtain ⟨t⟩ : wU b wv := hv
  exact len_bytes (nLT l (by decide)) (k q _ _ ⟨_⟩)
 ·obtain ⟨ws, hv2, r0⟩ := hv
  obtain ⟨d, e, r⟩ := r0.at S
  subst e
  have e : ws.length = vs.length := hv2.to.len
  exact PySem.Calls.call_len_list r (by rw [List.size_toArray, e]; exact Int.lt_of_le_of_lt (Int.ofNat_le.mpr l) (by decide)) (k q _ _ (by rw [List.size_toArray, e]; exact ⟨_⟩))
theorem zii (h : zf2 v Q) (hv : VR c P v wv) (k : Kt c P s Q (zjB v) Qc) : wpAny (model c.prog c.w) A (call (.builtin "abs") [wv]) Qc E s := by
 refine uX (M := λ v => VR c P v wv -> (Kt c P s Q (zjB v) Qc) -> wpAny (model c.prog c.w) A (call (.builtin "abs") [wv]) Qc E s) h (λ i q hv k => ?_) hv k
 obtain ⟨t⟩ : xX i wv := hv
 exact call_abs_int λ u tk => (show (if i < 0 then -i else i) = (i.natAbs : Int) by split <;> omega) ▸ k q _ _ ⟨_⟩
theorem zdL {M : AV -> AV -> Prop} (h : zjy u v Q) (b : ∀ b k, (0 <= k /\ k < b.length /\ b.length <= 1000000) -> Q -> M (.bytes b) (.int k)) (t : ∀ vs k, (0 <= k /\ k < vs.length /\ vs.length <= 1000) -> Q -> M (.tup vs) (.int k)) (l : ∀ vs k, (0 <= k /\ k < vs.length /\ vs.length <= 1000) -> Q -> M (.lst vs) (.int k)) : M u v := by
 cases u with
 | bytes x => cases v with
  | int k => exact b x k h.1 h.2
  | _ => exact h.elim
 | tup vs => cases v with
  | int k => exact t vs k (a2 (zq h).1 λ h1 h3 => a2 h1 λ h1 h2 => ⟨of_decide_eq_true h1, of_decide_eq_true h2, Nat.le_of_ble_eq_true h3⟩) (zq h).2
  | _ => exact h.elim
 | lst vs => cases v with
  | int k => exact l vs k h.1 h.2
  | _ => exact h.elim
 | _ => exact h.elim
theorem toNat_lt {k : Int} {n : Nat} (h0 : 0 <= k) (h1 : k < n) : k.toNat < n := (Int.toNat_lt h0).mpr h1
theorem zij {k : Int} {n : Nat} (h0 : 0 <= k) (h1 : k < n) : seqIndex? k n = some k.toNat := by
 have a1 : ¬ k < 0 := Int.not_lt.mpr h0
 unfold seqIndex?
 simp only [a1, if_false, h0, h1, decide_true, Bool.and_true, if_true]
theorem item_at {ws : List Value} {vs : List AV} (hv : yx (VR c P) vs ws) {k : Nat} (h : k < vs.length) : ∃ w, ws.toArray[k]? = some w /\ VR c P ((yj vs k).getD .none) w := by
 obtain ⟨v, e⟩ := mY h
 obtain ⟨w, e2, r⟩ := hv.get e
 exact ⟨w, (List.getElem?_toArray ..).trans ((sG k).symm.trans e2), e ▸ r⟩
theorem k63 {k : Int} {n m : Nat} (h : k < n) (l : n <= m) (hm : (m : Int) <= 2 ^ 63) : k < 2 ^ 63 := Int.lt_of_lt_of_le h (Int.le_trans (Int.ofNat_le.mpr l) hm)
theorem zik (S : Std c P s.heap) {x : Expr} {e : Expr} (he : okE e = true) (h : zjy u v Q) (hu : VR c P u wu) (hv : VR c P v wv) (k : Kt c P s Q (subV u v) Qc) : wpAny (model c.prog c.w) A (subscriptTail x e wu wv) Qc E s := by
 refine zdL (M := λ u v => VR c P u wu -> VR c P v wv -> (Kt c P s Q (subV u v) Qc) -> wpAny (model c.prog c.w) A (subscriptTail x e wu wv) Qc E s) h (λ b i l q hu hv k => ?_) (λ vs i l q hu hv k => ?_) (λ vs i l q hu hv k => ?_) hu hv k
 ·obtain ⟨t⟩ : wU b wu := hu
  obtain ⟨t2⟩ : xX i wv := hv
  exact tail_any (typeIs_bytes _ _ _) FB.slot_bytes_getitem.lookup (getItem_bytes (nLT l.2.2 (by decide)) l.1 l.2.1 (k q _ _ ⟨_⟩)) (dJ he _ _)
 ·obtain ⟨ws, hu2, r0⟩ := hu
  obtain ⟨t2⟩ : xX i wv := hv
  obtain ⟨d, e, r⟩ := r0.at S
  subst e
  obtain ⟨w, e, r3⟩ := item_at hu2.to (toNat_lt l.1 l.2.1)
  have hz : ws.toArray.size = vs.length := hu2.to.len
  exact tail_any r.typeIs slot_tuple_getitem.lookup (PyProof.Rows.getItem_tuple r (by have := l.1; omega) (k63 l.2.1 l.2.2 (by decide)) (by rw [hz]; exact zij l.1 l.2.1) e (k q _ _ r3)) (dJ he _ _)
 ·obtain ⟨ws, hu2, r0⟩ := hu
  obtain ⟨t2⟩ : xX i wv := hv
  obtain ⟨d, e, r⟩ := r0.at S
  subst e
  obtain ⟨w, e, r3⟩ := item_at hu2.to (toNat_lt l.1 l.2.1)
  exact tail_any r.typeIs slot_list_getitem.lookup (wpAny_getItem_list r l.1 (k63 l.2.1 l.2.2 (by decide)) e (k q _ _ r3)) (dJ he _ _)
theorem zbu {M : AV -> Option Int -> Prop} {v : AV} {i : Option Int} (h : zaL v = some i) (n : M .none none) (k : ∀ i, M (.int i) (some i)) : M v i := by
 cases v with
 | none => exact sIJ h ▸ n
 | int j => exact sIJ h ▸ k j
 | _ => exact nomatch h
theorem part_of {i : Option Int} (h : zaL v = some i) (hv : VR c P v wv) : IsPart wv i :=
 zbu (M := λ v i => VR c P v wv -> IsPart wv i) h (λ hv => (show Value.none = wv from hv) ▸ .none) (λ i hv => xX.rec (motive := λ w z => IsPart w (some i)) (λ t => .int _ _) hv) hv
theorem d7 {M : Prop} (h : zjx u v Q) (k : ∀ i j, zaL u = some i -> zaL v = some j -> Q -> M) : M := by
 revert h
 show (match zaL u, zaL v with | some _, some _ => Q | _, _ => False) -> M
 cases e : zaL u with
 | none => exact λ h => h.elim
 | some i => cases e2 : zaL v with
  | none => exact λ h => h.elim
  | some j => exact λ h => k i j e e2 h
theorem uM {M : AV -> Prop} (h : sY v Q) (b : ∀ b, b.length <= 1000000 -> Q -> M (.bytes b)) : M v := by
 cases v with
 | bytes x => exact b x h.1 h.2
 | _ => exact h.elim
end
section
variable {x : Cx} {T : Names} {fa : Nat -> Addr} {n : Nat} {y : Lc} {a b : Wd} {e : Expr} {p : PX}
theorem mZ (S : St x T fa n) (R : Rl x y a) {z v : Str} {w : Value} {es : List Expr} {np pos : Pos} {Qc Ec} (B : Blt v w) (hg : zy x.ns z v = true) (hs : es.all okE = true)
  (h : wpAny x.M x.A (spliced (backTo pos (starEach es x.env))) (λ ws s₁ => wpAny x.M x.A (call w ws) Qc Ec s₁) Ec a.s) : wpAny x.M x.A (eval (.Call (.Name z np) es [] pos) x.env) Qc Ec a.s :=
 yH hg λ h1 h2 h3 => Call_ (name_B R.F S.here.kin (topRead_of S.here.top) (h1 ▸ S.fx.blt v B.mem) (h1 ▸ B.boot) (h1 ▸ B.ne) (yZ (P := λ u => True) hs (zG B.nr) (wpAny_mono h (λ u u z => ⟨trivial, z⟩) λ u u z => z)) S.here.kind h3 h2)
theorem zgt (S : St x T fa n) {z : Str} {np pos : Pos} (h : yd x e p) (hs : okE e = true) (hg : zy x.ns z "len" = true) : yd x (.Call (.Name z np) [e] [] pos) (.len p) := λ hp R k =>
 mZ S R zbt hg (yC hs) (args1 hs (h hp R λ q w b B => zih (S.std B.R) q B.v λ q w t r => k q w _ (B.tk r)))
theorem zgu (S : St x T fa n) {z : Str} {np pos : Pos} (h : yd x e p) (hs : okE e = true) (hg : zy x.ns z "abs" = true) : yd x (.Call (.Name z np) [e] [] pos) (.abs p) := λ hp R k =>
 mZ S R zgp hg (yC hs) (args1 hs (h hp R λ q w b B => zii q B.v λ q w t r => k q w _ (B.tk r)))
theorem zgv (S : St x T fa n) {e' : Expr} {p' : PX} {z : Str} {np pos : Pos} (h : yd x e p) (h2 : yd x e' p') (hs : okE e = true) (hs2 : okE e' = true) (hg : zy x.ns z "max" = true) : yd x (.Call (.Name z np) [e, e'] [] pos) (.max p p') := λ {y a Q Qc Ec} hp R k =>
 mZ S R zgq hg (s6 hs hs2) (args2 hs hs2 (h hp R λ q w b B => h2 q B.R λ q w2 d D => by
  refine wI (M := λ u v => VR x.c b.P u w -> VR x.c d.P v w2 -> Go x y a Q (maxV u v) Qc -> wpAny x.M x.A (call (.builtin "max") [w, w2]) Qc Ec d.s) q (λ i j q hu hv k => ?_) B.v D.v k
  obtain ⟨t⟩ : xX i w := hu
  obtain ⟨t2⟩ : xX j w2 := hv
  exact max_two_N S.here.hh D.R.F D.R.N λ h3 tk3 F3 N3 => k q _ ⟨d.P, { d.s with heap := h3, toks := tk3 }⟩ ⟨⟨F3, N3, D.R.led, D.R.st, D.R.loc⟩, B.u.trans (D.u.trans ⟨Ext.refl _, rfl⟩), ⟨_⟩⟩))
theorem m7 (S : St x T fa n) (R : Rl x y a) {z v : Str} {w : Value} {np : Pos} {Qc Ec} (B : Blt v w) (hg : zy x.ns z v = true) (h : Qc w a.s) : wpAny x.M x.A (eval (.Name z np) x.env) Qc Ec a.s :=
 yH hg λ h1 h2 h3 => name_B R.F S.here.kin (topRead_of S.here.top) (h1 ▸ S.fx.blt v B.mem) (h1 ▸ B.boot) (h1 ▸ B.ne) h S.here.kind h3 h2
theorem zgw (S : St x T fa n) {i : Nat} {z z' : Str} {np zp pos : Pos} (h : yd x e p) (hs : okE e = true) (hg : zy x.ns z "isinstance" = true) (hz : zy x.ns z' (if i == 0 then "bytes" else if i == 1 then "int" else "bool") = true) : Sim x (.Call (.Name z np) [e, .Name z' zp] [] pos) (.isi p i) :=
 zF (λ {y a Q Qc Ec} hp R k => mZ S R zgr hg (s6 hs rfl) (args2 hs rfl (h hp R λ q w b B => by
  refine uX (M := λ v => VR x.c b.P v w -> wpAny x.M x.A (eval (.Name z' zp) x.env) (λ v s₂ => wpAny x.M x.A (call (.builtin "isinstance") [w, v]) Qc Ec s₂) Ec b.s) (zq q).2 (λ j q2 hv => ?_) B.v
  obtain ⟨t⟩ : xX j w := hv
  have lt := (zq q).1
  clear q
  cases i with
  | zero => exact m7 S B.R vP hz (PySem.IsiPair.int_bytes (k q2 _ _ (B.tk (show VR _ _ (.bool _) (.bool _) from rfl))))
  | succ i => cases i with
   | zero => exact m7 S B.R zgs hz (PySem.IsiPair.int_int (k q2 _ _ (B.tk (show VR _ _ (.bool _) (.bool _) from rfl))))
   | succ i => cases i with
    | zero => exact m7 S B.R zdJ hz (PySem.IsiPair.int_bool (k q2 _ _ (B.tk (show VR _ _ (.bool _) (.bool _) from rfl))))
    | succ i => exact no lt))) rfl
theorem zgx (S : St x T fa n) {e' : Expr} {p' : PX} {pos : Pos} (h : yd x e p) (h2 : yd x e' p') (hs : okE e' = true) : yd x (.Subscript e e' pos) (.sub p p') := λ hp R k =>
 Subscript_ (h hp R λ q w b B => h2 q B.R λ q w2 d D => zik (S.std D.R) hs q (VR.mono D.u.ext _ B.v) D.v λ q w t r => k q w _ ((D.up B.u).tk r))
theorem zdM {P : Pl} {s : Shared} {u v i : AV} {wu w1 w2 : Value} {Q : Prop} {Qc : Value -> Shared -> Prop} {Ec} {z r : Expr} (h : zfk u v i Q) (hu : VR x.c P u wu) (h1 : VR x.c P v w1) (h2 : VR x.c P i w2)
  (k : Q -> ∀ w o t, VR x.c P (zaS u v i) w -> Qc w { s with heap := s.heap.push o, toks := t }) {ops : Value -> Value -> List Value} (hz : ∀ o i, subscripted r false o i = operate (ops o i) (getItem o i)) : wpAny x.M x.A (subscriptTail z r wu (.ref s.heap.objs.size)) Qc Ec { s with heap := s.heap.push { cls := .type "slice", data := .fields #[w1, w2, .none] } } := by
 refine uM (M := λ u => VR x.c P u wu -> (Q -> ∀ w o t, VR x.c P (zaS u v i) w -> Qc w { s with heap := s.heap.push o, toks := t }) -> wpAny x.M x.A (subscriptTail z r wu (.ref s.heap.objs.size)) Qc Ec { s with heap := s.heap.push { cls := .type "slice", data := .fields #[w1, w2, .none] } }) h (λ bs l q hu k => d7 q λ i j e1 e2 q => ?_) hu k
 obtain ⟨t⟩ : wU bs wu := hu
 refine tail_any (typeIs_bytes _ _ _) FB.slot_bytes_getitem.lookup (getItem_meets (typeIs_bytes _ _ _) (by decide) FB.slot_bytes_getitem FB.entry_bytes_getitem (FB.args_bytes_getitem_2 _ _) (KBc.meets_slice2 bs.toArray t _ (part_of e1 h1) (part_of e2 h2))
   ⟨Heap.IsSliceOf.new _ _ _ _, nLT (KBc.size_picked_le _ i j) (xP l), λ t' kk => k q _ _ _ ?_⟩) (hz _ _)
 show VR x.c P (zhH bs _ _) _
 unfold zhH
 rw [e1, e2, KBc.picked_eq]
 exact ⟨_⟩
theorem zbv {lo hi : Option PX} {u v : Option Expr} {q pos : Pos} (h : yd x e p) (h1 : zid x u lo) (h2 : zid x v hi) : yd x (.Subscript e (.Slice u v none q) pos) (.slice p lo hi) := λ hp R k =>
 Subscript_ (h hp R λ q w b B => wpAny_Slice (h1 q B.R λ q w1 b1 B1 => h2 q B1.R λ q w2 d D => wpAny_pure
  (zdM q (VR.mono (B1.u.ext.trans D.u.ext) _ B.v) (VR.mono D.u.ext _ B1.v) D.v (λ q w o t r => k q w ⟨d.P, { d.s with heap := d.s.heap.push o, toks := t }⟩ ⟨D.R.grown λ b o e => Heap.get?_push_of_some _ e, B.u.trans (B1.u.trans (D.u.trans ⟨Ext.refl _, rfl⟩)), r⟩) λ z z => rfl)))
end
section
variable {c : Cfg} {P : Pl} {A : Around} {E : Value -> Shared -> Prop} {s : Shared} {u v : AV} {wu wv : Value} {Q : Prop} {Qc : Value -> Shared -> Prop}
theorem zbw {M : AV -> Prop} (h : zaX v Q) (b : ∀ i, (0 <= i /\ i < 256) -> Q -> M (.int i)) : M v := by
 cases v with
 | int x => exact b x h.1 h.2
 | _ => exact h.elim
theorem ints_of {vs : List AV} {ws : List Value} (hv : yx (VR c P) vs ws) : (∀ x ∈ vs, qw x) -> ∃ ns, IntsAre ws ns /\ (∀ n ∈ ns, 0 <= n /\ n < 256) /\ byteArr ns = (vs.map xH).toArray :=
 yx.ind (R := VR c P) (M := λ vs ws => (∀ x ∈ vs, qw x) -> ∃ ns, IntsAre ws ns /\ (∀ n ∈ ns, 0 <= n /\ n < 256) /\ byteArr ns = (vs.map xH).toArray) (λ z => ⟨[], .nil, λ z h => (nomatch h), rfl⟩)
  (λ v w vs ws h ih q => by
   obtain ⟨ns, i1, i2, i3⟩ := ih λ x hx => q x (.tail _ hx)
   have qb := q v (.head _)
   cases v with
   | int i =>
    obtain ⟨t⟩ : xX i w := h
    exact ⟨i :: ns, .cons i t i1, λ m hm => (mCM hm).elim (λ e => e ▸ qb) (i2 m), congrArg (λ l : Array UInt8 => (i.toNat.toUInt8 :: l.toList).toArray) i3⟩
   | _ => exact qb.elim) vs ws hv
theorem zil {a : AV} {wa : Value} (ha : VR c P a wa) {vs : List AV} {ws : List Value} (hv : yx (VR c P) vs ws) : vs.all (wV a) = true -> ∀ {k i : Nat}, iY a vs k = some i -> ∃ j, i = k + j /\ (∃ w, ws[j]? = some w /\ tY wa w = true) /\ ∀ m w, m < j -> ws[m]? = some w -> tY wa w = false :=
 yx.ind (R := VR c P) (M := λ vs ws => vs.all (wV a) = true -> ∀ {k i : Nat}, iY a vs k = some i -> ∃ j, i = k + j /\ (∃ w, ws[j]? = some w /\ tY wa w = true) /\ ∀ m w, m < j -> ws[m]? = some w -> tY wa w = false) (λ z z z e => (nomatch e))
  (λ v w vs ws h ih q k i e => a2 (List.all_cons ▸ q) λ q1 q2 => by
   have ve := mU q1 ha h
   have e : (match eqB a v with | true => some k | false => iY a vs (k + 1)) = some i := e
   cases b : eqB a v with
   | true =>
    rw [b] at e ve
    exact ⟨0, (sIJ e).symm, ⟨w, rfl, ve⟩, λ m z hm => absurd hm (Nat.not_lt_zero m)⟩
   | false =>
    rw [b] at e ve
    obtain ⟨j, e1, e2, e3⟩ := ih q2 e
    exact ⟨j + 1, by rw [e1]; omega, e2, λ m u hm hu => by
     cases m with
     | zero => exact sIJ hu ▸ ve
     | succ m => exact e3 m u (Nat.lt_of_succ_lt_succ hm) hu⟩) vs ws hv
theorem aP {M : AV -> Prop} (h : zaV u v Q) (l : ∀ vs i, vs.all (wV v) = true -> iY v vs 0 = some i -> vs.length <= 1000 -> Q -> M (.lst vs)) : M u := by
 cases u with
 | lst vs =>
  have q := (zq h).2
  obtain ⟨i, e⟩ := Option.isSome_iff_exists.mp q.1.1
  exact l vs i (zq h).1 e q.1.2 q.2
 | _ => exact h.elim
theorem jl {M : AV -> AV -> AV -> Prop} {i : AV} (h : zaT u v i Q) (k : ∀ b p j, (b.length <= 1000000 /\ p.length <= 1000 /\ 0 <= j /\ j <= 1000000) -> Q -> M (.bytes b) (.bytes p) (.int j)) : M u v i := by
 cases u with
 | bytes b => cases v with
  | bytes p => cases i with
   | int j => exact k b p j h.1 h.2
   | _ => exact h.elim
  | _ => exact h.elim
 | _ => exact h.elim
end
section
variable {x : Cx} {T : Names} {fa : Nat -> Addr} {n : Nat} {y : Lc} {a b : Wd} {e : Expr} {p : PX}
theorem aQ (S : St x T fa n) {z : Str} {np lp pos : Pos} (h : yd x e p) (hs : okE e = true) (hg : zy x.ns z "bytes" = true) : yd x (.Call (.Name z np) [.List [e] lp] [] pos) (.bytes1 p) := λ {y a Q Qc Ec} hp R k =>
 mZ S R vP hg rfl (args1 rfl (List_ (args1 hs (h hp R λ q w b B => by
  refine zbw (M := λ v => VR x.c b.P v w -> Go x y a Q (.bytes [xH v]) Qc -> wpAny x.M x.A (newList [w]) (λ w s₁ => wpAny x.M x.A (call (.type "bytes") [w]) Qc Ec s₁) Ec b.s) q (λ i l q hv k => ?_) B.v k
  obtain ⟨t⟩ : xX i w := hv
  refine newList_N B.R.F B.R.N (λ h2 F2 N2 => ?_) (xP (by decide : 1 <= 1000000))
  refine call_bytes_ints (s := { b.s with heap := h2 }) (ns := [i]) ⟨_, (N2 _ (.head _)).1, rfl, 0, rfl⟩ (.cons i t .nil) (λ j hj => (List.mem_singleton.mp hj) ▸ l) (xP (by decide : 1 <= 1000000)) S.here.hh λ h3 t3 k3 hk => ?_
  exact k q _ ⟨b.P, { b.s with heap := h3, toks := k3 }⟩ ⟨⟨F2.keeps hk, λ p hp => ⟨hk _ _ (N2 p (.tail _ hp)).1, (N2 p (.tail _ hp)).2⟩, B.R.led, B.R.st, B.R.loc⟩, B.u.trans ⟨Ext.refl _, rfl⟩, ⟨_⟩⟩))))
theorem aR (S : St x T fa n) {z : Str} {np pos : Pos} (h : yd x e p) (hs : okE e = true) (hg : zy x.ns z "bytes" = true) : yd x (.Call (.Name z np) [e] [] pos) (.bytesL p) := λ {y a Q Qc Ec} hp R k =>
 mZ S R vP hg (yC hs) (args1 hs (h hp R λ q w b B => by
  obtain ⟨d, vs, e, hg, l, hb, q⟩ : ∃ d vs, val p y.l y.g = .list d /\ y.g.hp d = some vs /\ vs.length <= 1000000 /\ (∀ x ∈ vs, qw x) /\ Q := by
   revert q
   cases val p y.l y.g with
   | list d => exact λ q => q.1.elim λ vs z => ⟨d, vs, rfl, z.1, z.2.1, z.2.2, q.2⟩
   | _ => exact λ q => q.elim
  have hv := B.v
  rw [e] at hv
  subst hv
  obtain ⟨ws, m, o, hv⟩ := B.R.st.hp d vs hg
  obtain ⟨ns, i1, i2, i3⟩ := ints_of hv hb
  refine call_bytes_ints ⟨_, B.R.N.get o.1, rfl, m, rfl⟩ i1 i2 (xP (by rw [hv.len]; exact l)) S.here.hh λ h3 t3 k3 hk => ?_
  refine k q _ ⟨b.P, { b.s with heap := h3, toks := k3 }⟩ ⟨B.R.grown hk, B.u.trans ⟨Ext.refl _, rfl⟩, ?_⟩
  show VR x.c b.P (mO y.g (val p y.l y.g)) _
  rw [e, i3]
  show wU (((y.g.hp d).getD []).map xH) _
  rw [hg]
  exact ⟨t3⟩))
theorem aU {M : AV -> Prop} {v : AV} {Q : Prop} (h : dw v Q) (k : ∀ b, Q -> M (.bytes b)) : M v := by
 cases v with
 | bytes b => exact k b h
 | _ => exact h.elim
theorem aV {M : AV -> Prop} {v : AV} {Q : Prop} (h : zaY v Q) (k : ∀ vs, Q -> M (.lst vs)) : M v := by
 cases v with
 | lst b => exact k b h
 | _ => exact h.elim
theorem jm {c : Cfg} {P : Pl} {A : Around} {E : Value -> Shared -> Prop} {s : Shared} {v : AV} {w : Value} {Q : Prop} {pl : Sem Bool} {Qc : Value × List Value -> Shared -> Prop} (h : dw v Q) (hv : VR c P v w) (k : Q -> Qc (.builtin "bytes.find", [w]) s) : wpAny (model c.prog c.w) A (getMethod w "find" pl) Qc E s :=
 aU (M := λ v => VR c P v w -> wpAny (model c.prog c.w) A (getMethod w "find" pl) Qc E s) h (λ b q hv => by
  obtain ⟨t⟩ : wU b w := hv
  exact getMethod_builtin (typeIs_bytes _ _ _) FB.plainAttrs_bytes qF zbb (λ a e => nomatch e) (k q)) hv
theorem zdN {c : Cfg} {P : Pl} {A : Around} {E : Value -> Shared -> Prop} {s : Shared} {u v : AV} {wu wv : Value} {Q : Prop} {Qc : Value -> Shared -> Prop} (h : zaT u v (.int 0) Q) (hu : VR c P u wu) (hv : VR c P v wv) (k : Kt c P s Q (ao u v (.int 0)) Qc) : wpAny (model c.prog c.w) A (call (.builtin "bytes.find") [wu, wv]) Qc E s := by
 refine jl (M := λ u v i => VR c P u wu -> VR c P v wv -> i = .int 0 -> Kt c P s Q (ao u v i) Qc -> wpAny (model c.prog c.w) A (call (.builtin "bytes.find") [wu, wv]) Qc E s) h (λ b p j l q hu hv e k => ?_) hu hv rfl k
 obtain ⟨t⟩ : wU b wu := hu
 obtain ⟨t2⟩ : wU p wv := hv
 rw [e] at k
 exact call_gives qF (typeIs_bytes _ _ _) nG (aH _ _) (gA _ _ _ _) (k q _ _ ⟨_⟩)
theorem zdO {c : Cfg} {P : Pl} {A : Around} {E : Value -> Shared -> Prop} {s : Shared} {u v i : AV} {wu wv wi : Value} {Q : Prop} {Qc : Value -> Shared -> Prop} (h : zaT u v i Q) (hu : VR c P u wu) (hv : VR c P v wv) (hi : VR c P i wi) (k : Kt c P s Q (ao u v i) Qc) : wpAny (model c.prog c.w) A (call (.builtin "bytes.find") [wu, wv, wi]) Qc E s := by
 refine jl (M := λ u v i => VR c P u wu -> VR c P v wv -> VR c P i wi -> Kt c P s Q (ao u v i) Qc -> wpAny (model c.prog c.w) A (call (.builtin "bytes.find") [wu, wv, wi]) Qc E s) h (λ b p j l q hu hv hi k => ?_) hu hv hi k
 obtain ⟨t⟩ : wU b wu := hu
 obtain ⟨t2⟩ : wU p wv := hv
 obtain ⟨t3⟩ : xX j wi := hi
 exact call_gives qF (typeIs_bytes _ _ _) nG (aJ _ _ _) (gB _ _ _ _ _ _ l.2.2.1) (k q _ _ ⟨_⟩)
theorem zbx (S : St x T fa n) {e' : Expr} {p' : PX} {ap pos : Pos} (h : yd x e p) (h2 : yd x e' p') (hs : okE e' = true) (hb : okB e = true) (hline : (ap.endLine == pos.line) = true) : yd x (.Call (.Attribute e "find" ap) [e'] [] pos) (.find1 p p') := λ hp R k =>
 yD hb (yC hs) (by decide : 1 < 20) hline (h hp R λ q w b B pl => jm q B.v λ q => yZ (P := λ z => True) (yC hs) (zG (λ z e => nomatch e)) (args1 hs (h2 q B.R λ q w2 d D =>
  ⟨trivial, zdN q (VR.mono D.u.ext _ B.v) D.v λ q w t r => k q w _ ((D.up B.u).tk r)⟩)))
theorem zby (S : St x T fa n) {e1 e2 : Expr} {p1 p2 : PX} {ap pos : Pos} (h : yd x e p) (h1 : yd x e1 p1) (h2 : yd x e2 p2) (hs : okE e1 = true) (hs2 : okE e2 = true) (hb : okB e = true) (hline : (ap.endLine == pos.line) = true) : yd x (.Call (.Attribute e "find" ap) [e1, e2] [] pos) (.find2 p p1 p2) := λ hp R k =>
 yD hb (s6 hs hs2) (by decide : 2 < 20) hline (h hp R λ q w b B pl => jm q B.v λ q => yZ (P := λ z => True) (s6 hs hs2) (zG (λ z e => nomatch e)) (args2 hs hs2 (h1 q B.R λ q w1 d D => h2 q D.R λ q w2 d2 D2 =>
  ⟨trivial, zdO q (VR.mono (D.u.ext.trans D2.u.ext) _ B.v) (VR.mono D2.u.ext _ D.v) D2.v λ q w t r => k q w _ ((D2.up (B.u.trans D.u)).tk r)⟩)))
theorem dB.obj {c : Cfg} {P : Pl} {ws : List Value} {w : Value} {h : Heap} (S : Std c P h) (r : dB c P ws w) : ∃ a n, w = .ref a /\ h.get? a = some (listOf ws.toArray n) := by
 cases r with
 | own a n o => exact ⟨a, n, rfl, S.N a _ o.1⟩
 | std a n o => exact ⟨a, n, rfl, o h S.K⟩
theorem aW {c : Cfg} {P : Pl} {A : Around} {E : Value -> Shared -> Prop} {s : Shared} {v : AV} {w : Value} {Q : Prop} {pl : Sem Bool} {Qc : Value × List Value -> Shared -> Prop} (S : Std c P s.heap) (h : zaY v Q) (hv : VR c P v w) (k : Q -> Qc (.builtin "list.index", [w]) s) : wpAny (model c.prog c.w) A (getMethod w "index" pl) Qc E s :=
 aV (M := λ v => VR c P v w -> wpAny (model c.prog c.w) A (getMethod w "index" pl) Qc E s) h (λ b q hv => by
  obtain ⟨ws, _, r0⟩ := hv
  obtain ⟨d, m, e, o⟩ := r0.obj S
  subst e
  exact getMethod_builtin ⟨_, o, rfl⟩ PySem.F.plainAttrs_list PySem.F.slot_list_index PySem.F.type_list_index (λ a e => ⟨_, Value.ref.inj e ▸ o, rfl⟩) (k q)) hv
theorem zdP {c : Cfg} {P : Pl} {A : Around} {E : Value -> Shared -> Prop} {s : Shared} {u v : AV} {wu wv : Value} {Q : Prop} {Qc : Value -> Shared -> Prop} (S : Std c P s.heap) (h : zaV u v Q) (hu : VR c P u wu) (hv : VR c P v wv) (k : Kt c P s Q (zaU u v) Qc) : wpAny (model c.prog c.w) A (call (.builtin "list.index") [wu, wv]) Qc E s := by
 refine aP (M := λ u => VR c P u wu -> Kt c P s Q (zaU u v) Qc -> wpAny (model c.prog c.w) A (call (.builtin "list.index") [wu, wv]) Qc E s) h (λ vs i hc hi l q hu k => ?_) hu k
 obtain ⟨ws, hu2, r0⟩ := hu
 obtain ⟨d, m, e, o⟩ := r0.obj S
 subst e
 have hu3 := hu2.to
 obtain ⟨j, e1, ⟨w, e2, e3⟩, e4⟩ := zil hv hu3 hc hi
 have hj : j < ws.length := (List.getElem?_eq_some_iff.mp e2).1
 have hI := mV hv hu3 hc
 refine call_meets PySem.F.slot_list_index ⟨_, o, rfl⟩ PySem.F.entry_list_index (PySem.F.args_list_index_2 _ _)
  (PySem.SeqAt.list_indexAt d ws.toArray m none #[] wv (tY wv) j hj (Int.lt_of_lt_of_le (Int.ofNat_lt.mpr (Nat.lt_of_lt_of_le hj (hu3.len ▸ l))) (by decide)) ((List.getElem?_eq_some_iff.mp e2).2.symm ▸ e3) λ m hm lt => e4 m _ lt (List.getElem?_eq_getElem hm)) ⟨o, λ y hy => hI.1 y (List.mem_toArray.mp hy) _ _, k q _ _ ?_⟩
 show VR c P (.int (((iY v vs 0).getD 0 : Nat) : Int)) _
 rw [hi, e1, Nat.zero_add]
 exact ⟨_⟩
theorem zbz (S : St x T fa n) {e' : Expr} {p' : PX} {ap pos : Pos} (h : yd x e p) (h2 : yd x e' p') (hs : okE e' = true) (hb : okB e = true) (hline : (ap.endLine == pos.line) = true) : yd x (.Call (.Attribute e "index" ap) [e'] [] pos) (.index p p') := λ hp R k =>
 yD hb (yC hs) (by decide : 1 < 20) hline (h hp R λ q w b B pl => aW (S.std B.R) q B.v λ q => yZ (P := λ z => True) (yC hs) (zG (λ z e => nomatch e)) (args1 hs (h2 q B.R λ q w2 d D =>
  ⟨trivial, zdP (S.std D.R) q (VR.mono D.u.ext _ B.v) D.v λ q w t r => k q w _ ((D.up B.u).tk r)⟩)))
end
end
section
open PyProof.Rows PySem.Builtin PySem.Calls
theorem zbA : mroOf (.type "bytearray") = pure [.type "bytearray", .type "object"] := by rw [mroOf_type]; kernel_rfl
theorem m8 : typeLookup (.type "bytearray") "__new__" = pure (some (.builtin "bytearray.__new__")) := by rw [typeLookup_type, builtinLookup_eq_fast]; kernel_rfl
theorem yO : Slot "bytearray" "__init__" "bytearray.__init__" :=
 .of (owner := "bytearray") (n := "__init__") (by rw [typeLookup_type, builtinLookup_eq_fast]; kernel_rfl) (by decide +kernel) (by decide +kernel) (by decide +kernel)
  (by first | exact .inl (by decide +kernel) | exact .inr (by decide +kernel)) (by rw [isSubtype_type]; kernel_rfl)
theorem jo : TypeCalled "bytearray" "bytearray.__new__" "bytearray.__init__" :=
 ⟨by decide +kernel, by decide +kernel, ⟨_, _, zbA⟩, madeBy_type zbA m8 (by decide +kernel), by decide +kernel, by rw [isSubtype_type]; kernel_rfl, yO⟩
theorem gK : checkTypeCall "bytearray" ⟨[], []⟩ = pure () := by kernel_rfl
theorem aX : checkBuiltinCall "bytearray.__new__" ⟨[.type "bytearray"], []⟩ = pure () := by kernel_rfl
theorem jq : entryFor table "bytearray.__new__" = some Builtin.«list.__new__» := entryFor_alias (id' := "list.__new__") (by decide +kernel) (by decide +kernel) (by decide +kernel) (by kernel_rfl)
theorem rm : plainId "bytearray.__new__" = true := by decide +kernel
theorem lg : entryFor table "bytearray.__init__" = some Builtin.«bytearray.__init__» := entryFor_of_tree (by kernel_rfl)
theorem jr (a : Value) : argsOk "bytearray.__init__" ⟨[a], []⟩ := by unfold argsOk; kernel_rfl
theorem wY : isSubtype (.type "bytearray") (.type "bytearray") = pure true := by rw [isSubtype_type]; kernel_rfl
set_option maxRecDepth 1000000 in
set_option maxHeartbeats 4000000 in
theorem jt : ("bytearray.__new__".splitOn ".__new__").headD "" = "bytearray" := by simp +decide [String.splitOn, String.splitOnAux]
theorem qG : Slot "bytearray" "__len__" "bytearray.__len__" :=
 .of (owner := "bytearray") (n := "__len__") (by rw [typeLookup_type, builtinLookup_eq_fast]; kernel_rfl) (by decide +kernel) (by decide +kernel) (by decide +kernel)
  (by first | exact .inl (by decide +kernel) | exact .inr (by decide +kernel)) (by rw [isSubtype_type]; kernel_rfl)
theorem ju : entryFor table "bytearray.__len__" = some Builtin.«bytearray.__len__» := entryFor_of_tree (by kernel_rfl)
theorem gM (a : Value) : argsOk "bytearray.__len__" ⟨[a], []⟩ := by unfold argsOk; kernel_rfl
theorem yE : Slot "bytearray" "__getitem__" "bytearray.__getitem__" :=
 .of (owner := "bytearray") (n := "__getitem__") (by rw [typeLookup_type, builtinLookup_eq_fast]; kernel_rfl) (by decide +kernel) (by decide +kernel) (by decide +kernel)
  (by first | exact .inl (by decide +kernel) | exact .inr (by decide +kernel)) (by rw [isSubtype_type]; kernel_rfl)
theorem rI : entryFor table "bytearray.__getitem__" = some Builtin.«bytearray.__getitem__» := entryFor_of_tree (by kernel_rfl)
theorem qH (a b : Value) : argsOk "bytearray.__getitem__" ⟨[a, b], []⟩ := by unfold argsOk; kernel_rfl
theorem wC : Slot "bytearray" "append" "bytearray.append" :=
 .of (owner := "bytearray") (n := "append") (by rw [typeLookup_type, builtinLookup_eq_fast]; kernel_rfl) (by decide +kernel) (by decide +kernel) (by decide +kernel)
  (by first | exact .inl (by decide +kernel) | exact .inr (by decide +kernel)) (by rw [isSubtype_type]; kernel_rfl)
theorem oR : typeOf (.builtin "bytearray.append") = pure (.type "method_descriptor") := by show builtinType _ = _; rw [builtinType_eq_fast]; kernel_rfl
theorem qI : entryFor table "bytearray.append" = some Builtin.«bytearray.append» := entryFor_of_tree (by kernel_rfl)
theorem oU (a b : Value) : argsOk "bytearray.append" ⟨[a, b], []⟩ := by unfold argsOk; kernel_rfl
theorem lq : PlainAttrs "bytearray" :=
 ⟨⟨"bytearray.__getattribute__", by rw [typeLookup_type, builtinLookup_eq_fast]; kernel_rfl, by decide +kernel⟩, by rw [typeLookup_type, builtinLookup_eq_fast]; kernel_rfl⟩
theorem gO : typeLookup (.type "bytearray") "__bytes__" = pure none := by rw [typeLookup_type, builtinLookup_eq_fast]; kernel_rfl
theorem gP : typeLookup (.type "bytearray") "__index__" = pure none := by rw [typeLookup_type, builtinLookup_eq_fast]; kernel_rfl
theorem qJ : typeLookup (.type "bytearray") "__buffer__" = pure (some (.builtin "bytearray.__buffer__")) := by rw [typeLookup_type, builtinLookup_eq_fast]; kernel_rfl
theorem aY : typeLookup (.type "bytearray") "__release_buffer__" = pure (some (.builtin "bytearray.__release_buffer__")) := by rw [typeLookup_type, builtinLookup_eq_fast]; kernel_rfl
set_option maxRecDepth 1000000 in
set_option maxHeartbeats 4000000 in
theorem zdQ : ("bytearray.__buffer__" : String).endsWith ("." ++ "__buffer__") = true := by decide +kernel
theorem zdR : ("bytearray.__release_buffer__" : String).endsWith ("." ++ "__release_buffer__") = true := by decide +kernel
theorem zdS : ("bytearray.__buffer__" : String).dropRight ("__buffer__".length + 1) = "bytearray" := by decide +kernel
theorem zdT : ("bytearray.__release_buffer__" : String).dropRight ("__release_buffer__".length + 1) = "bytearray" := by decide +kernel
section
variable {prog : Program} {w : World} {A : Around} {E : Value -> Shared -> Prop} {s : Shared}
theorem zO {a : Addr} {b : Bs} (h : s.heap.get? a = some (baO b)) : s.TypeIs (.ref a) "bytearray" := ⟨_, h, rfl⟩
theorem sH {M : Model} {a : Addr} {b : Bs} {Q : Array UInt8 -> Shared -> Prop} (h : s.heap.get? a = some (baO b)) (q : Q b.toArray s) : wpAny M A (Bytes.payload (.ref a)) Q E s := by
 unfold Bytes.payload Bytes.payload?
 exact wBD (wBD (wpAny_load h (wpAny_pure (wpAny_pure q))))
theorem zim {a : Addr} {b : Bs} {Q : Value -> Shared -> Prop} (hb : s.heap.get? a = some (baO b)) (hz : b.length <= 1000000) (h : ∀ t k, Q (.int b.length t) { s with toks := k }) : wpAny (model prog w) A (call (.builtin "len") [.ref a]) Q E s := by
 refine call_function_entry kind_len plain_len entry_len (args_len1 _) ?_
 unfold Builtin.«len»
 refine wBD (m := oneArg "len" _) (wpAny_pure ?_)
 refine wBD (m := callSpecial? (.ref a) (Str.ofString "__len__")) (wpAny_callSpecial?_slot (name := Str.ofString "__len__") (zO hb) qG
  (wpAny_call_entry qG (zO hb) ju ?_ (gM _)))
 show wpAny _ _ (do retInt (<- Bytes.payload (.ref a)).size) _ _ s
 refine wBD (sH hb ?_)
 refine wBD (wpAny_mkInt (wpAny_pure ⟨_, rfl, ?_⟩))
 refine wBD (wpAny_holding (wpAny_pure ?_))
 refine wBD (wpAny_letGo ?_)
 show wpAny _ _ (if ((b.toArray.size : Nat) : Int) < 0 then _ else _) _ _ _
 rw [if_neg (Int.not_lt.mpr (Int.natCast_nonneg _))]
 show wpAny _ _ (if ((b.toArray.size : Nat) : Int) >= 2 ^ 63 then _ else _) _ _ _
 rw [if_neg (show ¬((b.toArray.size : Int) >= 2 ^ 63) from λ h => absurd (Int.le_trans h (Int.ofNat_le.mpr hz)) (by decide))]
 exact wBD (wpAny_mkInt (wpAny_pure ⟨_, rfl, h _ _⟩))
theorem zgy {M : Model} {a : Addr} {b : Bs} {Q : Bool -> Shared -> Prop} (h : s.heap.get? a = some (baO b)) (q : Q true s) : wpAny M A (Bytes.slotIsOwn (.ref a) "__buffer__") Q E s := by
 unfold Bytes.slotIsOwn
 refine wBD (wpAny_specialOf (zO h) qJ ?_)
 dsimp only
 rw [zdQ]
 simp only [Bool.not_true, Bool.false_eq_true, if_false]
 refine wpAny_isInstance (zO h) ?_ q
 have := zdS
 rw [this]
 exact wY
theorem zbB {M : Model} {a : Addr} {b : Bs} {Q : Bool -> Shared -> Prop} (h : s.heap.get? a = some (baO b)) (q : Q false s) : wpAny M A (Bytes.ownRelease (.ref a)) Q E s := by
 unfold Bytes.ownRelease Bytes.slotIsOwn
 refine wBD (wBD (wpAny_specialOf (zO h) aY ?_))
 dsimp only
 rw [zdR]
 simp only [Bool.not_true, Bool.false_eq_true, if_false]
 refine wpAny_isInstance (b := true) (zO h) ?_ (wpAny_pure q)
 have := zdT
 rw [this]
 exact wY
theorem aZ {M : Model} {a : Addr} {b : Bs} {full : Bool} {Q : Option (Array UInt8) -> Shared -> Prop} {id : String} (h : s.heap.get? a = some (baO b)) (q : Q (some b.toArray) s) : wpAny M A (Bytes.buffer? id (.ref a) full) Q E s := by
 unfold Bytes.buffer?
 refine wBD (wpAny_specialOf (zO h) qJ ?_)
 refine wBD (zgy h ?_)
 refine bm_if_false rfl ?_
 refine wBD (wpAny_specialOf (zO h) qJ ?_)
 refine wBD (zbB h ?_)
 refine bm_if_false rfl ?_
 exact wBD (sH h (wpAny_pure q))
theorem d8 {a : Addr} {b : Bs} {Q : Value -> Shared -> Prop} (hb : s.heap.get? a = some (baO b)) (hz : b.length <= 1000000) (h : ∀ t k, Q (.bytes b.toArray t) { s with toks := k }) : wpAny (model prog w) A (call (.type "bytes") [.ref a]) Q E s := by
 refine callType_codes (Q₁ := λ obj s₁ => s₁.TypeIs obj "bytes" /\ Q obj s₁) PySem.F.bm_called (PySem.F.bm_typeCall _) PySem.F.entry_object_init ?_ λ obj s₁ h₁ =>
  ⟨h₁.1, PySem.F.args_object_init_2 obj _, object_init_meets PySem.F.bm_called.init.lookup PySem.F.bm_called.made (by decide) prog w A.in1 _ s₁ ⟨h₁.1, rfl, h₁.2⟩⟩
 refine codeAny_of_tree ?_
 show wpAny _ A.in1.in1 (do checkBuiltinCall "bytes.__new__" ⟨[.type "bytes", .ref a], []⟩; again (.builtin "bytes.__new__" ⟨[.type "bytes", .ref a], []⟩)) _ _ s
 refine wBD (wpAny_of_eq (PySem.F.bm_newCall _) (wpAny_pure ⟨plainId_quiet PySem.F.bm_plain _, codeAny_builtin PySem.F.bm_entry ?_⟩))
 rw [Around.under_plainId PySem.F.bm_plain _]
 have hT := zO hb
 unfold Builtin.«bytes.__new__»
 refine wBD (wpAny_of_eq (a := true) rfl ?_)
 refine bm_if_false rfl ?_
 refine wBD (wpAny_of_eq PySem.F.bm_sub ?_)
 refine bm_if_false rfl ?_
 refine wBD (wpAny_of_eq (PySem.F.bm_bind _) ?_)
 refine wBD (wpAny_of_eq (a := ()) rfl ?_)
 refine wBD (wpAny_of_eq (a := ()) rfl ?_)
 refine bm_if_false rfl ?_
 refine wBD (wpAny_specialOf hT gO ?_)
 refine wBD (wBD ?_)
 show wpAny _ _ (load a >>= _) _ _ _
 refine wBD (wpAny_load hb ?_)
 refine wpAny_pure (wpAny_pure ?_)
 refine bm_if_false rfl ?_
 refine wBD (wpAny_specialOf hT gP ?_)
 refine bm_if_true rfl ?_
 first
  | show wpAny _ _ (Builtin.Bytes.buffer? "bytes.__new__" (.ref a) true >>= _) _ _ _
  | (refine wBD ?_; show wpAny _ _ (Builtin.Bytes.buffer? "bytes.__new__" (.ref a) true >>= _) _ _ _)
 refine wBD (aZ hb ?_)
 refine wBD (wpAny_rule ?_)
 refine wBD (wpAny_mkBytes ?_ (by rw [sizeLine_eq, List.size_toArray]; exact nLT hz (by decide)))
 show wpAny _ _ (if (Value.type "bytes" == Value.type "bytes") = true then _ else _) _ _ _
 refine bm_if_true (by decide) ?_
 first
  | exact wpAny_pure ⟨typeIs_bytes _ _ _, h _ _⟩
  | exact wBD (wpAny_pure (wpAny_pure ⟨typeIs_bytes _ _ _, h _ _⟩))
theorem d9 {a sl : Addr} {b : Bs} {l u : Value} {lo hi : Option Int} {Q : Value -> Shared -> Prop} (hb : s.heap.get? a = some (baO b)) (hz : b.length <= 1000000) (hs : s.heap.IsSliceOf sl l u .none) (hl : IsPart l lo) (hu : IsPart u hi)
  (h : Q (.ref s.heap.objs.size) { s with heap := s.heap.push (baO (yq b lo hi)) }) : wpAny (model prog w) A (getItem (.ref a) (.ref sl)) Q E s := by
 refine wpAny_getItem_slot (zO hb) (by decide) yE (wpAny_call_entry yE (zO hb) rI ?_ (qH _ _))
 obtain (⟨o, ho, hc, hd⟩) := hs
 have hT : s.TypeIs (.ref sl) "slice" := ⟨o, ho, hc⟩
 show wpAny _ _ (Bytes.subscript? (.ref sl) >>= λ r => _) _ _ s
 refine wBD ?_
 unfold Bytes.subscript?
 refine wBD (wpAny_specialOf hT slice_no_index (wpAny_pure ?_))
 refine wBD (wpAny_typeOf hT ?_)
 show wpAny _ _ (Bytes.sliceParts (.ref sl) >>= λ r => _) _ _ s
 refine wBD ?_
 unfold Bytes.sliceParts
 refine wBD (wpAny_field (x := .none) ho hd rfl ?_)
 kby_none
 refine wpAny_ite (KBy.ite_no (show ¬ ((Value.none == rawInt 0) = true) from Bool.false_ne_true) ?_)
 refine wBD (wpAny_field (x := l) ho hd rfl ?_)
 have go : wpAny (model prog w) A.in1 (sliceIndices (rawPart lo) (rawPart hi) (rawPart none) b.toArray.size) (λ r s' => r = sliceBounds lo hi none b.toArray.size /\ s' = s) (λ v v => False) s :=
  wpAny_of_eq (sliceIndices_raw lo hi none b.toArray.size (λ e => nomatch e)) ⟨rfl, rfl⟩
 have e0 : ∀ x y z : Int, (x, y, z) = sliceBounds lo hi none b.toArray.size -> Bytes.sliced b.toArray x y z = (yq b lo hi).toArray := by
  intro x y z e
  have := KBc.picked_eq b.toArray lo hi
  unfold KBy.picked at this
  rw [<- e] at this
  rw [this]
  simp only [List.size_toArray, yq]
 have hsz : (yq b lo hi).length <= 1000000 := by
  unfold yq
  rw [List.length_take, List.length_drop]
  exact nLT (Nat.min_le_right _ _) (nLT (Nat.sub_le _ _) hz)
 cases hl <;> cases hu <;> (first
  | (kby_none; (refine wBD (wpAny_field (x := .none) ho hd rfl ?_)); kby_none)
  | (kby_none; (refine wBD (wpAny_field (x := .int _ _) ho hd rfl ?_)); kby_int)
  | (kby_int; (refine wBD (wpAny_field (x := .none) ho hd rfl ?_)); kby_none)
  | (kby_int; (refine wBD (wpAny_field (x := .int _ _) ho hd rfl ?_)); kby_int)) <;> refine wpAny_pure ?_
 all_goals
  refine wBD (sH hb ?_)
  refine wBD (wpAny_mono go (λ r s' hr => ?_) λ v v e => e.elim)
  obtain (⟨x, y, z⟩) := r
  obtain (⟨hr1, hr2⟩) := hr
  subst hr2
  dsimp only
  rw [e0 x y z hr1]
  refine wBD ?_
  unfold Bytes.newBytearray
  refine wpAny_newObj_type ?_ ?_
  ·exact wpAny_pure ⟨_, rfl, h⟩
  ·show (yq b _ _).toArray.size <= sizeLine
   rw [List.size_toArray, sizeLine_eq]; exact nLT hsz (by decide)
end
theorem vQ {M : Prop} {v : Option AV} {Q : Prop} (h : lexC v Q) (k : v = some .lex -> Q -> M) : M := by
 cases v with
 | none => exact h.elim
 | some v => cases v with
  | lex => exact k rfl h
  | _ => exact h.elim
theorem vR {M : Prop} {l : Loc} {g : GS} {Q : Prop} (h : zhI l g Q) (k : nD g = true -> zQ l 0 = some .lex -> g.buf.length <= 1000000 -> Q -> M) : M :=
 vQ (zq h).2 λ e q => k (zq h).1 e q.1 q.2
section
variable {x : Cx} {T : Names} {fa : Nat -> Addr} {n : Nat} {y : Lc} {a b : Wd} {e : Expr} {p : PX}
theorem rT {ns : NS} (h : uK ns e = true) : okE e = true := zJ.of (M := λ e => okE e = true) h λ z z z z => rfl
theorem qK {M : Prop} {g : GS} (h : nD g = true) (k : ∀ fs, g.lx = some fs -> 9 < fs.length -> M) : M := by
 revert h
 show (match g.lx with | some fs => Nat.blt 9 fs.length | none => false) = true -> M
 cases e : g.lx with
 | none => exact λ h => no h
 | some fs => exact λ h => k fs e (ltB h)
theorem lu (S : St x T fa n) (R : Rl x y a) {Qc : Value -> Shared -> Prop} {Ec} (h : nD y.g = true) (hl : zQ y.l 0 = some .lex) (he : uK x.ns e = true) (k : ∀ b t, Mut a.P b (baO y.g.buf) -> a.s.heap.get? b = some (baO y.g.buf) -> Qc (.ref b) { a.s with toks := t }) : wpAny x.M x.A (eval e x.env) Qc Ec a.s :=
 zJ.of (M := λ e => wpAny x.M x.A (eval e x.env) Qc Ec a.s) he λ o nm ap h0 => a2 h0 λ h1 h2 => zj.of (M := λ o => wpAny x.M x.A (eval (.Attribute o nm ap) x.env) Qc Ec a.s) h2 λ z zp h2 => qK h λ fs hx h9 => by
  rw [eq_of_beq h1]
  refine Attribute_any_ (yL S R h2 hl λ w r => ?_) (by rw [arm_eval_Attribute, sy rfl])
  obtain ⟨za, d, u, es, i, e1, hd⟩ := nM R r hx
  subst e1
  have hb := hd.buf h9
  exact gH S R hd hb.1 λ w r => (show w = .ref u from r.elim (λ q => q.2) λ q => q.elim) ▸ ⟨rfl, k u _ hb.2 (R.N.get hb.2.1)⟩
theorem jw (S : St x T fa n) {z : Str} {np pos : Pos} (he : uK x.ns e = true) (hg : zy x.ns z "bytes" = true) : yd x (.Call (.Name z np) [e] [] pos) .bufBytes := λ {y a Q Qc Ec} q R k =>
 vR q λ h1 h2 h3 q => mZ S R vP hg (yC (rT he)) (args1 (rT he) (lu S R h1 h2 he λ b t m hb => d8 (s := { a.s with toks := t }) hb h3 λ t k' => k q _ _ (R.val (show VR _ _ (.bytes _) _ from ⟨t⟩) (t := k'))))
structure cg (x : Cx) (e : Expr) (p : PX) : Prop where
 go : ∀ {y : Lc} {a : Wd} {Q : Prop} {Qc Ec : Value -> Shared -> Prop}, cnd p y.l y.g Q -> Rl x y a -> Kt x.c a.P a.s Q (val p y.l y.g) Qc -> wpAny x.M x.A (eval e x.env) Qc Ec a.s
theorem nP (S : St x T fa n) {z : Str} {np pos : Pos} (he : uK x.ns e = true) (hg : zy x.ns z "len" = true) : cg x (.Call (.Name z np) [e] [] pos) .bufLen := ⟨λ {y a Q Qc Ec} q R k =>
 vR q λ h1 h2 h3 q => mZ S R zbt hg (yC (rT he)) (args1 (rT he) (lu S R h1 h2 he λ b t m hb => zim (s := { a.s with toks := t }) hb h3 λ t k' => k q _ _ ⟨_⟩))⟩
theorem cg.E (h : cg x e p) : yd x e p := λ q R k => h.go q R λ q w t r => k q w _ (R.val r)
theorem zjI (S : St x T fa n) (h : zia x.ns p e = true) : cg x e p := by
 cases p with
 | const v => exact tZ.of (M := λ e => cg x e (.const v)) h λ c i pos h => nJ (M := λ v c => cg x (.Constant c i pos) (.const v)) h ⟨λ {y a Q Qc Ec} q R k => wpAny_Constant_none (k q .none a.s.toks rfl)⟩ (λ b => ⟨λ {y a Q Qc Ec} q R k => wpAny_Constant_bool (k q (.bool b) a.s.toks rfl)⟩) (λ j => ⟨λ q R k => wpAny_Constant_int (k q _ _ ⟨_⟩)⟩) (λ b => ⟨λ q R k => Constant_bytes (k q _ _ ⟨_⟩)⟩)
 | loc i => exact zj.of (M := λ e => cg x e (.loc i)) h λ z pos h => ⟨λ {y a Q Qc Ec} q R k => rR q λ u e q => yL S R h e λ w r => k q w a.s.toks (show VR _ _ ((zQ _ i).getD .none) w by rw [e]; exact r)⟩
 | bufLen => exact zu.of (M := λ e => cg x e .bufLen) h λ f es pos h => zj.of (M := λ f => cg x (.Call f es [] pos) .bufLen) h λ z np h => on1.of (M := λ es => cg x (.Call (.Name z np) es [] pos) .bufLen) h λ e h => a2 h λ h1 h2 => nP S h2 h1
 | _ => exact no h
theorem zkg {F : PX -> Expr -> Bool} (hF : ∀ p e, F p e = true -> cg x e p) (h : zjG F p e = true) : cg x e p := (Bool.or_eq_true_iff.mp h).elim (hF p e) λ h => by
 cases p with
 | bin op l r => exact aK.of (M := λ e => cg x e (.bin op l r)) h λ el o er pos h => a3 h λ h1 h2 h3 => of_decide_eq_true h1 ▸ ⟨λ {y a Q Qc Ec} q R k => wpAny_BinOp ((hF _ _ h2).go q R λ q w t rv => (hF _ _ h3).go (a := ⟨a.P, { a.s with toks := t }⟩) q R.tk λ q w2 t2 r2 => zfq q rv r2 k)⟩
 | _ => exact no h
theorem zjJ (S : St x T fa n) (h : zhO x.ns p e = true) : cg x e p := zkg (λ z z h => zkg (λ z z h => zjI S h) h) h
theorem zin (S : St x T fa n) {p : Option PX} {e : Option Expr} {y : Lc} {a : Wd} {Q : Prop} {Qc Ec : Value -> Shared -> Prop} (h : zbg x.ns p e = true) (q : zhK p y.l y.g Q) (R : Rl x y a) (k : Kt x.c a.P a.s Q (zdf p y.l y.g) Qc) : wpAny x.M x.A (evalPart e x.env) Qc Ec a.s := by
 cases p with
 | none =>
  rw [isNone.of h]
  exact wpAny_pure (k q .none a.s.toks rfl)
 | some p => cases e with
  | none => exact no h
  | some e => exact (zjJ S h).go q R k
theorem zaa (S : St x T fa n) {lo hi : Option PX} {u v : Option Expr} {z : Str} {np sp ssp pos : Pos} (he : uK x.ns e = true) (h1 : zbg x.ns lo u = true) (h2 : zbg x.ns hi v = true) (hg : zy x.ns z "bytes" = true) : yd x (.Call (.Name z np) [.Subscript e (.Slice u v none sp) ssp] [] pos) (.bufCut lo hi) := λ {y a Q Qc Ec} q R k =>
 vR q λ g1 g2 g3 q => mZ S R vP hg rfl (args1 rfl (Subscript_ (lu S R g1 g2 he λ b t m hb => wpAny_Slice (zin S h1 (a := ⟨a.P, { a.s with toks := t }⟩) q R.tk λ q w1 t1 r1 => zin S h2 (a := ⟨a.P, { a.s with toks := t1 }⟩) q R.tk λ q w2 t2 r2 => wpAny_pure (by
  refine d7 q λ i j e1 e2 q => ?_
  refine tail_any (zO (Heap.get?_push_of_some _ hb)) yE.lookup (d9 (Heap.get?_push_of_some _ hb) g3 (Heap.IsSliceOf.new _ _ _ _) (part_of e1 r1) (part_of e2 r2) ?_) rfl
  refine d8 (Heap.get?_push_size _ rfl) (nLT ?_ g3) λ t' k' => ?_
  ·unfold yq
   rw [List.length_take, List.length_drop]
   exact nLT (Nat.min_le_right _ _) (Nat.sub_le _ _)
  ·refine k q _ ⟨a.P, { a.s with heap := _, toks := k' }⟩ ⟨R.grown λ b o e => Heap.get?_push_of_some _ (Heap.get?_push_of_some _ e), ⟨Ext.refl _, rfl⟩, ?_⟩
   show VR x.c a.P (zhH y.g.buf _ _) _
   unfold zhH
   rw [e1, e2]
   exact ⟨_⟩)))))
theorem zgz (S : St x T fa n) {e' : Expr} {p' : PX} {z : Str} {np pos : Pos} (h : yd x e p) (h2 : yd x e' p') (hs : okE e = true) (hs2 : okE e' = true) (hg : zy x.ns z "Token" = true) : yd x (.Call (.Name z np) [e, e'] [] pos) (.tok p p') := λ {y a Q Qc Ec} hp R k =>
 Call_ (xR S R hg S.fx.tokN (yZ (P := x.c.K.In) (s6 hs hs2) (λ h X => keeps_K S.fx.tokK h X) (args2 hs hs2 (h hp R λ q w b B => h2 q B.R λ q w2 d D => ⟨S.kin D.R, wpAny_call (S.fx.tok (S.here.less (Nat.zero_le _)) D.R (VR.mono D.u.ext _ B.v) D.v λ t w3 d3 D3 => k q w3 d3 (D3.up (B.u.trans D.u)))⟩))))
theorem zgA {c : Cfg} {P : Pl} {A : Around} {E : Value -> Shared -> Prop} {s : Shared} {v : AV} {wv : Value} {o : Obj} {d : Addr} {Q : Prop} {Qc : Value -> Shared -> Prop} {h₀ : Heap} {L : Addr} (N : News h₀ L s.heap P.news) (hm : (d, o) ∈ P.news) (hd : zjf c o) (lo : (d == sysModules) = false) (h : sY v Q) (hv : VR c P v wv) (k : Kt c P s Q (zaW v) Qc) : wpAny (model c.prog c.w) A (call (.builtin "dict.get") [.ref d, wv]) Qc E s := by
 refine uM (M := λ v => VR c P v wv -> Kt c P s Q (zaW v) Qc -> wpAny (model c.prog c.w) A (call (.builtin "dict.get") [.ref d, wv]) Qc E s) h (λ b l q hv k => ?_) hv k
 obtain ⟨t⟩ : wU b wv := hv
 obtain ⟨kvs, hd, hk⟩ := hd
 refine kdg_get1 N hm hd lo (bytesKind_is _ _ b t) _ rfl (k q _ _ ?_)
 have z := hk b
 show VR c P (match kindOf b zm 257 with | some k => .int k | none => .none) _
 revert z
 cases kindOf b zm 257 with
 | none => exact λ z => by rw [z]; rfl
 | some i => exact λ z => z.elim λ t e => by rw [e]; exact ⟨t⟩
theorem zab {M : Option AV -> Prop} {v : Option AV} {Q : Prop} (h : zfl v Q) (k : Q -> M (some .kinds)) : M v := by
 cases v with
 | none => exact h.elim
 | some v => cases v with
  | kinds => exact k h
  | _ => exact h.elim
theorem zdU (S : St x T fa n) {z : Str} {sp kp ap pos : Pos} (h : yd x e p) (hs : okE e = true) (hl : zB x.ns 0 z = true) (hline : (ap.endLine == pos.line) = true) : yd x (.Call (.Attribute (.Attribute (.Name z sp) (zf 4) kp) "get" ap) [e] [] pos) (.kget p) := λ {y a Q Qc Ec} hp R k =>
 vQ hp λ e1 hp => by
  have z0 : cnd (.attr (.loc 0) 4) y.l y.g (xG y.g .lex 4 = some .kinds /\ cnd p y.l y.g (sY (val p y.l y.g) Q)) := by
   show zja (zQ y.l 0) (ou (xG y.g ((zQ y.l 0).getD .none) 4) _)
   rw [e1]
   exact zab (M := λ v => ou v (v = some .kinds /\ cnd p y.l y.g (sY (val p y.l y.g) Q))) hp λ q => ⟨rfl, q⟩
  refine yD rfl (yC hs) (by decide : 1 < 20) hline (dW S (zbk S hl).E rfl z0 R λ q w b B pl => ?_)
  have hv : VR x.c b.P ((xG y.g ((zQ y.l 0).getD .none) 4).getD .none) w := B.v
  rw [e1] at hv
  change VR x.c b.P ((xG y.g .lex 4).getD .none) w at hv
  rw [q.1] at hv
  obtain ⟨d, o, ow, hd, lo⟩ : aF x.c b.P w := hv
  obtain ⟨kvs, hk, _⟩ := id hd
  exact kdg_method B.R.N ow.1 hk (yZ (P := λ s => True) (yC hs) (zG (λ s e => nomatch e)) (args1 hs (h q.2 B.R λ q w2 d2 D => ⟨trivial, zgA D.R.N (D.u.ext.own _ _ ow).1 hd lo q D.v λ q w t r => k q w _ ((D.up B.u).tk r)⟩)))
end
end
section
open PyProof.Rows PySem.Builtin PySem.Calls
set_option tactic.hygienic true
section
variable {x : Cx} {T : Names} {fa : Nat -> Addr} {n : Nat} {y : Lc} {a b : Wd} {e : Expr} {p : PX}
theorem all_nil : s8 x [] [] := ⟨zgg, λ c {y a Q Qc Ec} hp => hp.elim, λ _ c {y a Q Qc Ec} hp => hp.elim, trivial⟩
theorem all_cons {es : List Expr} {ps : List PX} (h : Sim x e p) (hs : okE e = true) (h2 : s8 x es ps) : s8 x (e :: es) (p :: ps) := by
 have z := h2.each
 cases es with
 | nil => cases ps with
  | nil => exact ⟨dU h.E h2.L hs, λ c => zdE h.E, λ hn c => zdF (h.T (a2 (List.all_cons ▸ hn) λ h y => h)), ⟨h, trivial⟩⟩
  | cons => exact z.elim
 | cons e' es => cases ps with
  | nil => exact z.elim
  | cons p' ps => exact ⟨dU h.E h2.L hs, λ c => zbn h.E (h2.B c), λ hn c => a2 (List.all_cons ▸ hn) λ n1 n2 => zbo (h.T n1) (h2.A n2 c), ⟨h, z⟩⟩
theorem zdV (S : St x T fa n) {ops : List CmpOp} {es : List Expr} {ps : List PX} (h : zbf ops ps = true) (H : s8 x es ps) : dX x ops es ps := by
 have z := H.each
 cases ops with
 | nil => exact no h
 | cons op ops => cases ps with
  | nil => cases ops with
   | nil => exact no h
   | cons o ops => cases ops <;> exact no h
  | cons p ps => cases es with
   | nil => exact z.elim
   | cons e es => cases ops with
    | nil => cases ps with
     | nil => cases es with
      | nil => exact mX S z.1.E
      | cons => exact z.2.elim
     | cons => exact no h
    | cons op' ops => cases ops with
     | nil => cases ps with
      | nil => exact no h
      | cons p' ps => cases ps with
       | nil => cases es with
        | nil => exact z.2.elim
        | cons e' es => cases es with
         | nil => exact zdG S z.1.E z.2.1.E h
         | cons => exact z.2.2.elim
       | cons => exact no h
     | cons => cases ps with
      | nil => exact no h
      | cons p' ps => cases ps <;> exact no h
noncomputable abbrev Snd (x : Cx) (T : Names) (n : Nat) (p : PX) : Prop := ∀ {e}, xW T x.ns n p e = true -> Sim x e p
theorem sound (S : St x T fa n) (p : PX) : Snd x T n p := by
 induction p using PX.rec (motive_2 := λ ms => ∀ {es}, gF T x.ns n ms es = true -> s8 x es ms) (motive_3 := λ o => ∀ {e}, zjH T x.ns n o e = true -> zid x e o) with
 | const v => exact λ h => tZ.of (M := λ e => Sim x e (.const v)) h λ y y y h => zbj h
 | glob z v => exact λ h => zj.of (M := λ e => Sim x e (.glob z v)) h λ y y h => zdB S h
 | loc i => exact λ h => zj.of (M := λ e => Sim x e (.loc i)) h λ y y h => zbk S h
 | attr m f ih => exact λ h => zJ.of (M := λ e => Sim x e (.attr m f)) h λ y y y h => a4 h λ h1 y h3 h4 => eq_of_beq h1 ▸ zF (dW S (ih h4).E h3) rfl
 | tup ms ih => exact λ h => aM.of (M := λ e => Sim x e (.tup ms)) h λ y y y h => a2 h λ h1 h2 => zF (zgl (ih h2).L (ltB h1) (dO h2)) rfl
 | lst ms ih => exact λ h => sZ.of (M := λ e => Sim x e (.lst ms)) h λ y y h => a2 h λ h1 h2 => zF (zgm (ih h2).L (ltB h1) (dO h2)) rfl
 | bin op a b iha ihb => exact λ h => aK.of (M := λ e => Sim x e (.bin op a b)) h λ y y y y h => a3 h λ h1 h2 h3 => of_decide_eq_true h1 ▸ zF (zgh (iha h2).E (ihb h3).E) rfl
 | not a ih => exact λ h => zhN.of (M := λ e => Sim x e (.not a)) h λ y y y h => a3 h λ h1 h3 h2 => (of_decide_eq_true h1).symm ▸ zgi (ih h2) h3
 | neg a ih => exact λ h => zhN.of (M := λ e => Sim x e (.neg a)) h λ y y y h => a2 h λ h1 h2 => (of_decide_eq_true h1).symm ▸ zF (zgj (ih h2).E) rfl
 | and ms ih => exact λ h => nH.of (M := λ e => Sim x e (.and ms)) h λ y y y h => a3 h λ h1 h3 h2 => (of_decide_eq_true h1).symm ▸ zgn (ih h2) h3
 | or ms ih => exact λ h => nH.of (M := λ e => Sim x e (.or ms)) h λ y y y h => a3 h λ h1 h3 h2 => (of_decide_eq_true h1).symm ▸ zig (ih h2) h3
 | cmp a ops rs iha ihr => exact λ h => aL.of (M := λ e => Sim x e (.cmp a ops rs)) h λ y y y y h => a4 h λ h1 h2 h3 h4 => of_decide_eq_true h1 ▸ zgo (iha h3).E (zdV S h2 (ihr h4)) (sE h4)
 | ite t a b iht iha ihb => exact λ h => zjg.of (M := λ e => Sim x e (.ite t a b)) h λ y y y y h => a4 h λ h0 h1 h2 h3 => ⟨zgk ((iht h1).T h0) (iha h2).E (ihb h3).E, λ h => no h⟩
 | call k ms ih => exact λ h => zu.of (M := λ e => Sim x e (.call k ms)) h λ f es p h => zj.of (M := λ f => Sim x (.Call f es [] p) (.call k ms)) h λ y y h => a4 h λ h1 h2 h3 h4 => zdH S (ih h4).L (sE h4) h1 (ltB h2) (ltB h3)
 | meth k o ms iho ih => exact λ h => zu.of (M := λ e => Sim x e (.meth k o ms)) h λ f es p h => zJ.of (M := λ f => Sim x (.Call f es [] p) (.meth k o ms)) h λ y y y h => a4 h λ h1 h2 h3 h4 => a2 h1 λ h1 h1' => a2 h2 λ h2 h2' => a2 h4 λ h4 h5 => a2 h4 λ h4 h4' => (eq_of_beq h1).symm ▸ zdI S (iho h4').E (ih h5).L (sE h5) (ltB h3) (ltB h2) (ltB h2') h4 h1'
 | len a ih => exact λ h => zu.of (M := λ e => Sim x e (.len a)) h λ f es p h => zj.of (M := λ f => Sim x (.Call f es [] p) (.len a)) h λ z q h => on1.of (M := λ es => Sim x (.Call (.Name z q) es [] p) (.len a)) h λ y h => a3 h λ h1 h2 h3 => zF (zgt S (ih h3).E h2 h1) rfl
 | abs a ih => exact λ h => zu.of (M := λ e => Sim x e (.abs a)) h λ f es p h => zj.of (M := λ f => Sim x (.Call f es [] p) (.abs a)) h λ z q h => on1.of (M := λ es => Sim x (.Call (.Name z q) es [] p) (.abs a)) h λ y h => a3 h λ h1 h2 h3 => zF (zgu S (ih h3).E h2 h1) rfl
 | max a b iha ihb => exact λ h => zu.of (M := λ e => Sim x e (.max a b)) h λ f es p h => zj.of (M := λ f => Sim x (.Call f es [] p) (.max a b)) h λ z q h => on2.of (M := λ es => Sim x (.Call (.Name z q) es [] p) (.max a b)) h λ y y h => a3 h λ h1 h2 h3 => a2 h2 λ h2 h2' => a2 h3 λ h3 h3' => zF (zgv S (iha h3).E (ihb h3').E h2 h2' h1) rfl
 | isi a k ih => exact λ h => zu.of (M := λ e => Sim x e (.isi a k)) h λ f es p h => zj.of (M := λ f => Sim x (.Call f es [] p) (.isi a k)) h λ z q h => on2.of (M := λ es => Sim x (.Call (.Name z q) es [] p) (.isi a k)) h λ u v h => a4 h λ h1 h2 h3 h4 => zj.of (M := λ v => Sim x (.Call (.Name z q) [u, v] [] p) (.isi a k)) h2 λ y y h2 => zgw S (ih h4).E h3 h1 h2
 | sub a i iha ihi => exact λ h => oN.of (M := λ e => Sim x e (.sub a i)) h λ y y y h => a3 h λ h1 h2 h3 => zF (zgx S (iha h2).E (ihi h3).E h1) rfl
 | slice a lo hi iha ihl ihh => exact λ h => oN.of (M := λ e => Sim x e (.slice a lo hi)) h λ v j q h => vO.of (M := λ j => Sim x (.Subscript v j q) (.slice a lo hi)) h λ y y y h => a3 h λ h1 h2 h3 => zF (zbv (iha h1).E (ihl h2) (ihh h3)) rfl
 | bytes1 a ih => exact λ h => zu.of (M := λ e => Sim x e (.bytes1 a)) h λ f es p h => zj.of (M := λ f => Sim x (.Call f es [] p) (.bytes1 a)) h λ z q h => on1.of (M := λ es => Sim x (.Call (.Name z q) es [] p) (.bytes1 a)) h λ u h => sZ.of (M := λ u => Sim x (.Call (.Name z q) [u] [] p) (.bytes1 a)) h λ us lp h => on1.of (M := λ us => Sim x (.Call (.Name z q) [.List us lp] [] p) (.bytes1 a)) h λ y h => a3 h λ h1 h2 h3 => zF (aQ S (ih h3).E h2 h1) rfl
 | bytesL a ih => exact λ h => zu.of (M := λ e => Sim x e (.bytesL a)) h λ f es p h => zj.of (M := λ f => Sim x (.Call f es [] p) (.bytesL a)) h λ z q h => on1.of (M := λ es => Sim x (.Call (.Name z q) es [] p) (.bytesL a)) h λ y h => a3 h λ h1 h2 h3 => zF (aR S (ih h3).E h2 h1) rfl
 | find1 o a iho iha => exact λ h => zu.of (M := λ e => Sim x e (.find1 o a)) h λ f es p h => zJ.of (M := λ f => Sim x (.Call f es [] p) (.find1 o a)) h λ v nm ap h => on1.of (M := λ es => Sim x (.Call (.Attribute v nm ap) es [] p) (.find1 o a)) h λ y h => a4 h λ h1 h2 h3 h4 => a2 h1 λ h1 h1' => a2 h3 λ h3 h3' => (eq_of_beq h1).symm ▸ zF (zbx S (iho h3').E (iha h4).E h2 h3 h1') rfl
 | find2 o a b iho iha ihb => exact λ h => zu.of (M := λ e => Sim x e (.find2 o a b)) h λ f es p h => zJ.of (M := λ f => Sim x (.Call f es [] p) (.find2 o a b)) h λ v nm ap h => on2.of (M := λ es => Sim x (.Call (.Attribute v nm ap) es [] p) (.find2 o a b)) h λ y y h => a4 h λ h1 h2 h3 h4 => a2 h1 λ h1 h1' => a2 h2 λ h2 h2' => a2 h3 λ h3 h3' => a2 h4 λ h4 h4' => (eq_of_beq h1).symm ▸ zF (zby S (iho h3').E (iha h4).E (ihb h4').E h2 h2' h3 h1') rfl
 | index o a iho iha => exact λ h => zu.of (M := λ e => Sim x e (.index o a)) h λ f es p h => zJ.of (M := λ f => Sim x (.Call f es [] p) (.index o a)) h λ v nm ap h => on1.of (M := λ es => Sim x (.Call (.Attribute v nm ap) es [] p) (.index o a)) h λ y h => a4 h λ h1 h2 h3 h4 => a2 h1 λ h1 h1' => a2 h3 λ h3 h3' => (eq_of_beq h1).symm ▸ zF (zbz S (iho h3').E (iha h4).E h2 h3 h1') rfl
 | bufBytes => exact λ h => zu.of (M := λ e => Sim x e .bufBytes) h λ f es p h => zj.of (M := λ f => Sim x (.Call f es [] p) .bufBytes) h λ z q h => on1.of (M := λ es => Sim x (.Call (.Name z q) es [] p) .bufBytes) h λ y h => a2 h λ h1 h2 => zF (jw S h2 h1) rfl
 | bufLen => exact λ h => zu.of (M := λ e => Sim x e .bufLen) h λ f es p h => zj.of (M := λ f => Sim x (.Call f es [] p) .bufLen) h λ z q h => on1.of (M := λ es => Sim x (.Call (.Name z q) es [] p) .bufLen) h λ y h => a2 h λ h1 h2 => zF (nP S h2 h1).E rfl
 | bufCut lo hi _ _ => exact λ h => zu.of (M := λ e => Sim x e (.bufCut lo hi)) h λ f es p h => zj.of (M := λ f => Sim x (.Call f es [] p) (.bufCut lo hi)) h λ z q h => on1.of (M := λ es => Sim x (.Call (.Name z q) es [] p) (.bufCut lo hi)) h λ u h => oN.of (M := λ u => Sim x (.Call (.Name z q) [u] [] p) (.bufCut lo hi)) h λ v j sp h => vO.of (M := λ j => Sim x (.Call (.Name z q) [.Subscript v j sp] [] p) (.bufCut lo hi)) h λ y y y h => a2 h λ h1 h2 => a2 h1 λ h1 h1' => a2 h2 λ h2 h2' => zF (zaa S h1' h2 h2' h1) rfl
 | tok k v ihk ihv => exact λ h => zu.of (M := λ e => Sim x e (.tok k v)) h λ f es p h => zj.of (M := λ f => Sim x (.Call f es [] p) (.tok k v)) h λ z q h => on2.of (M := λ es => Sim x (.Call (.Name z q) es [] p) (.tok k v)) h λ y y h => a3 h λ h1 h2 h3 => a2 h2 λ h2 h2' => a2 h3 λ h3 h3' => zF (zgz S (ihk h3).E (ihv h3').E h2 h2' h1) rfl
 | kget a ih => exact λ h => zu.of (M := λ e => Sim x e (.kget a)) h λ f es p h => zJ.of (M := λ f => Sim x (.Call f es [] p) (.kget a)) h λ o nm ap h => zJ.of (M := λ o => Sim x (.Call (.Attribute o nm ap) es [] p) (.kget a)) h λ s k kp h => on1.of (M := λ es => Sim x (.Call (.Attribute (.Attribute s k kp) nm ap) es [] p) (.kget a)) h λ u h => a4 h λ h1 h2 h3 h4 => a2 h1 λ h1 h1' => a2 h2 λ h2 h2' => zj.of (M := λ s => Sim x (.Call (.Attribute (.Attribute s k kp) nm ap) [u] [] p) (.kget a)) h2' λ y y h2' => (eq_of_beq h1).symm ▸ (eq_of_beq h2).symm ▸ zF (zdU S (ih h4).E h3 h2' h1') rfl
 | countNl a _ => exact λ h => no h
 | nil =>
  rename_i es h
  rw [isNil.of h]
  exact all_nil
 | cons m ms ih ihs =>
  rename_i es h
  cases es with
  | nil => exact no h
  | cons e es => exact a3 h λ h1 h2 h3 => all_cons (ih h2) h1 (ihs h3)
 | none =>
  rename_i e h
  rw [isNone.of h]
  exact zdC
 | some m ih =>
  rename_i e h
  cases e with
  | none => exact no h
  | some e => exact zdD (ih h).E
end
end
section
open PyProof.Rows
set_option tactic.hygienic true
noncomputable def C2 (o o' : Obj) : Prop := ∀ vs, o.data = .fields vs -> ∃ vs', o'.data = .fields vs' /\ vs'[2]? = vs[2]?
theorem C2.refl (o : Obj) : C2 o o := λ vs e => ⟨vs, e, rfl⟩
theorem C2.trans {a b c : Obj} (x : C2 a b) (y : C2 b c) : C2 a c := λ vs e => let ⟨v1, e1, q1⟩ := x vs e; let ⟨v2, e2, q2⟩ := y v1 e1; ⟨v2, e2, q2.trans q1⟩
theorem C2.of_data {o o' : Obj} (h : o'.data = o.data) : C2 o o' := λ vs e => ⟨vs, h.trans e, rfl⟩
noncomputable def DS {α : Type} : Sem α -> Prop
 | .pure _ => True
 | .raise _ => True
 | .unsupported _ => True
 | .finish _ => True
 | .rule _ k => DS (k ())
 | .at _ k => DS (k ())
 | .load _ _ k => ∀ o, DS (k o)
 | .update _ _ f k => (∀ o : Obj, o.isFreed = false -> ((f o).dict = o.dict /\ C2 o (f o)) /\ (f o).isFreed = false) /\ DS (k ())
 | .alloc _ k => ∀ a, DS (k a)
 | .loadIfAlive _ k => ∀ o, DS (k o)
 | .point _ k => DS (k ())
 | .register _ _ => True
 | .fresh k => ∀ t, DS (k t)
 | .ask k => ∀ g, DS (k g)
 | .choose _ _ _ => False
 | .os _ _ _ => False
 | .call _ _ _ _ _ => False
 | .handled _ k => ∀ v, DS (k v)
 | .newGen _ _ => False
 | .genState _ _ => False
 | .resume _ _ _ _ => False
 | .yield _ _ _ _ => False
 | .stack k => ∀ l, DS (k l)
 | .fork _ _ => True
 | .thread _ => False
 | .await _ _ _ _ _ => True
noncomputable def DK (h h' : Heap) : Prop := ∀ a o, h.get? a = some o -> ∃ o', h'.get? a = some o' /\ o'.dict = o.dict /\ C2 o o'
theorem DK.refl (h : Heap) : DK h h := λ z o e => ⟨o, e, rfl, C2.refl o⟩
theorem DK.trans {a b c : Heap} (x : DK a b) (y : DK b c) : DK a c := λ d o e => let ⟨_, e1, q1, r1⟩ := x d o e; let ⟨o2, e2, q2, r2⟩ := y d _ e1; ⟨o2, e2, q2.trans q1, r1.trans r2⟩
theorem gQ {h : Heap} {a : Addr} {o : Obj} (e : h.get? a = some o) : o.isFreed = false := (Heap.get?_some_iff.mp e).2
theorem DK.update {h : Heap} {a : Addr} {f : Obj -> Obj} (hf : ∀ o : Obj, o.isFreed = false -> ((f o).dict = o.dict /\ C2 o (f o)) /\ (f o).isFreed = false) : DK h (h.update a f) := λ b o e => by
 by_cases q : b = a
 ·subst q
  have y := hf o (gQ e)
  exact ⟨f o, Heap.get?_update_self f e y.2, y.1⟩
 ·exact ⟨o, (Heap.get?_update_ne _ _ _ _ q).trans e, rfl, C2.refl o⟩
theorem zjK {α : Type} {M : Model} {Γ : Ctx} {Q : α -> Pos -> Shared -> Prop} {E : Value -> Pos -> Shared -> Prop} (t : Sem α) : ∀ (p : Pos) (s : Shared), DS t -> Sem.wp M Γ t Q E p s ->
  Sem.wp M Γ t (λ a p' s' => Q a p' s' /\ DK s.heap s'.heap) E p s := by
 induction t with
 | pure a => intro p s _ h; exact ⟨h, DK.refl _⟩
 | raise v => intro p s _ h; exact h
 | unsupported => intro p s _ h; exact h
 | finish => intro p s _ h; exact h
 | rule _ k ih => intro p s d h; exact ih () p s d h
 | «at» q k ih => intro p s d h; exact ih () q s d h
 | load a pt k ih => intro p s d h; obtain ⟨o, ho, h⟩ := h; exact ⟨o, ho, ih o p s (d o) h⟩
 | update a pt f k ih =>
  intro p s d h
  refine ⟨h.1, ?_⟩
  have y := ih () p _ d.2 h.2
  exact Sem.wp_mono M Γ _ (λ x x x z => ⟨z.1, (DK.update d.1).trans z.2⟩) (λ x x x z => z) _ _ y
 | alloc o k ih =>
  intro p s d h
  have y := ih _ p _ (d _) h
  exact Sem.wp_mono M Γ _ (λ x x x z => ⟨z.1, DK.trans (λ b o e => ⟨o, Heap.get?_push_of_some _ e, rfl, C2.refl o⟩) z.2⟩) (λ x x x z => z) _ _ y
 | loadIfAlive a k ih => intro p s d h; exact ih _ p s (d _) h
 | point _ k ih => intro p s d h; exact ih () p s d h
 | register => intro p s _ h; exact h
 | fresh k ih => intro p s d h; exact ih _ p _ (d _) h
 | ask k ih => intro p s d h; exact ih _ p s (d _) h
 | choose => intro p s d; exact d.elim
 | os => intro p s d; exact d.elim
 | call => intro p s d; exact d.elim
 | handled o k ih => intro p s d h; exact ih _ p s (d _) h
 | newGen => intro p s d; exact d.elim
 | genState => intro p s d; exact d.elim
 | resume => intro p s d; exact d.elim
 | yield => intro p s d; exact d.elim
 | stack k ih => intro p s d h; exact ih _ p s (d _) h
 | fork => intro p s _ h; exact h
 | thread => intro p s d; exact d.elim
 | await => intro p s _ h; exact h
theorem ud {α : Type} {M : Model} {A : Around} {Q : α -> Shared -> Prop} {E : Value -> Shared -> Prop} {t : Sem α} {s : Shared} (d : DS t) (h : wpAny M A t Q E s) :
  wpAny M A t (λ a s' => Q a s' /\ DK s.heap s'.heap) E s := λ Γ p hΓ => zjK t p s d (h Γ p hΓ)
theorem DS.bind {α β : Type} {m : Sem α} {k : α -> Sem β} (d : DS m) (e : ∀ a, DS (k a)) : DS (m >>= k) := by
 show DS (m.bind k)
 induction m with
 | pure a => exact e a
 | raise | unsupported | finish | register | fork | await => trivial
 | rule _ _ ih | «at» _ _ ih | point _ _ ih => exact ih () d
 | load _ _ _ ih | alloc _ _ ih | loadIfAlive _ _ ih | fresh _ ih | ask _ ih | handled _ _ ih | stack _ ih => exact λ o => ih o (d o)
 | update _ _ _ _ ih => exact ⟨d.1, ih () d.2⟩
 | choose | os | call | newGen | genState | resume | yield | thread => exact d.elim
theorem gR (v : Value) : DS (fieldsOf v) := by
 unfold fieldsOf
 cases v <;> first | trivial | skip
 refine DS.bind (λ o => trivial) λ o => ?_
 split <;> trivial
theorem rU (v : Value) (i : Nat) : DS (field v i) := by
 unfold field
 refine DS.bind (gR v) λ vs => ?_
 split <;> trivial
theorem jx (f : Array Value -> Array Value) (hf : ∀ vs : Array Value, (f vs)[2]? = vs[2]?) (o : Obj) (h : o.isFreed = false) : ((Obj.mapFields f o).dict = o.dict /\ C2 o (Obj.mapFields f o)) /\ (Obj.mapFields f o).isFreed = false := by
 obtain ⟨c, d, dt, sl⟩ := o
 cases dt
 case fields ws => exact ⟨⟨rfl, λ vs e => by
  injection e with e
  subst e
  exact ⟨_, rfl, hf _⟩⟩, rfl⟩
 all_goals exact ⟨⟨rfl, λ vs e => by cases e⟩, h⟩
theorem uN (v : Value) (i : Nat) (x : Value) (hi : i ≠ 2 := by decide) : DS (setField v i x) := by
 unfold setField
 cases v <;> first | trivial | skip
 show DS (updateField _ _ _)
 unfold updateField
 refine DS.bind (λ o => trivial) λ o => ?_
 split
 ·split
  ·exact ⟨jx _ (λ vs => Array.getElem?_setIfInBounds_ne hi), trivial⟩
  ·trivial
 ·trivial
theorem xY (e : Value) (fr : Option Addr) : DS (setFlight e fr) := by
 unfold setFlight
 refine DS.bind (rU e 1) λ tb => ?_
 split
 ·exact uN _ _ _
 ·trivial
theorem zdW : DS underTheClaimsCaller := by
 unfold underTheClaimsCaller
 exact λ l => trivial
theorem gU (env : Env) (b : Bool) : ∀ l, DS (keptBack env b l)
 | [] => by
  show DS (if (env.scope.isGenerator || env.scope.isCoroutine) = true then pure Value.none else do return if <- underTheClaimsCaller then Value.notImplemented else Value.none)
  by_cases h : (env.scope.isGenerator || env.scope.isCoroutine) = true
  ·rw [if_pos h]; trivial
  ·rw [if_neg h]; exact DS.bind zdW λ a => True.intro
 | _ :: _ => True.intro
theorem uw : ∀ l, DS (readyFrames l)
 | [] => trivial
 | env :: outer => by
  unfold readyFrames
  split
  ·refine DS.bind (λ o => trivial) λ o => ?_
   split
   ·trivial
   ·refine DS.bind ?_ λ b => DS.bind (gU _ _ _) λ v => DS.bind ⟨λ o h => ⟨⟨rfl, C2.of_data rfl⟩, ?_⟩, trivial⟩ λ z => uw outer
    ·unfold behindIsImport
     split
     ·trivial
     ·split
      ·trivial
      ·exact DS.bind (rU _ _) λ z => trivial
    ·obtain ⟨c, d, dt, sl⟩ := o
     cases dt <;> first | rfl | exact h
  ·trivial
theorem oV : ∀ l, DS (frameObject l)
 | [] => trivial
 | env :: outer => by
  unfold frameObject
  exact DS.bind (uw _) λ z => trivial
theorem zac (env : Env) : DS (PySem.frameOf env) := by
 unfold PySem.frameOf
 refine DS.bind (λ l => trivial) λ l => DS.bind (oV _) λ o => ?_
 split <;> trivial
theorem jy (ty : String) (vs : List Value) : DS (newFields ty vs) := by
 unfold newFields newObj
 dsimp only
 split
 ·trivial
 ·unfold newObjAsIs
  exact DS.bind (λ a => trivial) λ a => trivial
theorem qL (f : Addr) (b : Bool) : DS (entryPlaceOf f b) := by
 unfold entryPlaceOf
 refine DS.bind (λ l => trivial) λ l => ?_
 split <;> trivial
theorem ru (e : Value) (env : Env) : DS (noteFrame e env) := by
 unfold noteFrame
 split
 ·refine DS.bind (rU _ _) λ hd => ?_
  have tail : DS (do setField e 1 (<- EntryCells.newEntry hd (<- PySem.frameOf env) .none (rawInt ‹Addr›) .none (<- entryPlaceOf ‹Addr› (hd != .none))) : Sem Unit) :=
   DS.bind (zac _) λ z => DS.bind (qL _ _) λ z => DS.bind (jy _ _) λ z => uN _ _ _
  split
  ·refine DS.bind (rU _ _) λ x => ?_
   split
   ·trivial
   ·exact DS.bind (uN _ _ _) λ z => tail
  ·exact tail
 ·trivial
end
section
open PyProof.Rows
structure Msg (base B h : Heap) (msg : Bs) (e d : Addr) (es : List DictEntry) (n : Nat) : Prop where
 stays : base.StaysIn B
 dict : B.get? d = some (dictOf es n)
 val : ∃ t, getL "value" es = some (some (.bytes msg.toArray t))
 at_ : ∃ oe, h.get? e = some oe /\ oe.dict = some d /\ ∃ vs, oe.data = .fields vs /\ vs[2]? = some .none
noncomputable def ExN (c : Cfg) (base : Heap) (l : List Env) (msg : Bs) (ev : Value) (h : Heap) : Prop :=
 ∃ e B d es n oe vs a0, ev = .ref e /\ Msg base B h msg e d es n /\ B.StaysIn h /\ B.get? e = none /\ h.FunFrames B l /\ h.get? e = some oe /\ oe.cls = .ref c.excC /\ oe.data = .fields vs /\ vs[1]? = some .none /\ vs[0]? = some a0
noncomputable def ExF (c : Cfg) (base : Heap) (l : List Env) (msg : Bs) (ev : Value) (h : Heap) : Prop :=
 ∃ e B d es n a0, ev = .ref e /\ Msg base B h msg e d es n /\ Heap.FlyingW B l e (.ref c.excC) a0 h
noncomputable def ExH (c : Cfg) (base : Heap) (l : List Env) (L : Addr) (msg : Bs) (ev : Value) (h : Heap) : Prop :=
 ∃ e B d es n a0, ev = .ref e /\ Msg base B h msg e d es n /\ Heap.HeldW B l e (.ref c.excC) a0 L h
noncomputable def Rsd (c : Cfg) (f : Frm) (m : Str -> Option Value) (msg : Bs) (ev : Value) (h : Heap) : Prop :=
 (ExN c f.base (f.env :: f.outer) msg ev h \/ ExF c f.base (f.env :: f.outer) msg ev h \/ ExH c f.base (f.env :: f.outer) f.L msg ev h) /\ ∃ g, Fr f.h₀ f.L g m /\ g.UpToSlots h
noncomputable def Held (c : Cfg) (f : Frm) (m : Str -> Option Value) (msg : Bs) (ev : Value) (h : Heap) : Prop :=
 ExH c f.base (f.env :: f.outer) f.L msg ev h /\ ∃ g, Fr f.h₀ f.L g m /\ g.UpToSlots h
theorem Held.rsd {c : Cfg} {f : Frm} {m : Str -> Option Value} {msg : Bs} {ev : Value} {h : Heap} (x : Held c f m msg ev h) : Rsd c f m msg ev h := ⟨.inr (.inr x.1), x.2⟩
theorem Msg.kept {base B h h' : Heap} {msg : Bs} {e d : Addr} {es : List DictEntry} {n : Nat} (x : Msg base B h msg e d es n) (k : DK h h') : Msg base B h' msg e d es n := by
 obtain ⟨a, b, v, oe, e1, e2, vs, e3, e4⟩ := x
 obtain ⟨o', f1, f2, f3⟩ := k _ _ e1
 obtain ⟨ws, f4, f5⟩ := f3 vs e3
 exact ⟨a, b, v, o', f1, f2.trans e2, ws, f4, f5.trans e4⟩
section
variable {M : Model} {E : Value -> Shared -> Prop} {s : Shared} {c : Cfg} {f : Frm} {m : Str -> Option Value} {msg : Bs} {ev : Value}
theorem zbC {A : Around} {Q : Unit -> Shared -> Prop} (hA : A.frames = some (f.env :: f.outer)) (R : Rsd c f m msg ev s.heap) (h : ∀ h', Held c f m msg ev h' -> Q () { s with heap := h' }) : wpAny M A (noteFrame ev f.env) Q E s := by
 obtain ⟨R, g, F, U⟩ := R
 rcases R with R | R | R
 ·obtain ⟨e, B, d, es, n, oe, vs, a0, rfl, Mg, k1, k2, k3, e1, e2, e3, e4, e5⟩ := R
  have y : wpAny M A (noteFrame (.ref e) f.env) (λ x s' => ∃ h', s' = { s with heap := h' } /\ Heap.HeldW B (f.env :: f.outer) e (.ref c.excC) a0 f.L h' /\ s.heap.UpToSlots h') E s := by
   show wpAny M A (noteFrame (.ref e) f.env) _ E s
   unfold noteFrame
   refine wBD (wpAny_field e1 e3 e4 ?_)
   rw [if_neg (by decide)]
   refine wpAny_entryW hA k3 rfl e1 k1 k2 e3 (Array.getElem?_eq_some_iff.mp e4).1 e5 λ h' hN => ?_
   obtain ⟨n1, n2, n3, n4⟩ := hN
   rw [e2] at n3
   exact ⟨h', rfl, ⟨n1, k2, n2, n3⟩, n4⟩
  refine wpAny_mono (ud (ru _ _) y) (λ x s' z => ?_) λ x x z => z
  obtain ⟨⟨h', rfl, H, U'⟩, K⟩ := z
  exact h h' ⟨⟨e, B, d, es, n, a0, rfl, Mg.kept K, H⟩, g, F, U.trans U'⟩
 ·obtain ⟨e, B, d, es, n, a0, rfl, Mg, Fl⟩ := R
  have y : wpAny M A (noteFrame (.ref e) f.env) (λ x s' => ∃ h', s' = { s with heap := h' } /\ Heap.HeldW B (f.env :: f.outer) e (.ref c.excC) a0 f.L h' /\ s.heap.UpToSlots h') E s :=
   wpAny_looks_onW hA rfl Fl λ h' H U' => ⟨h', rfl, H, U'⟩
  refine wpAny_mono (ud (ru _ _) y) (λ x s' z => ?_) λ x x z => z
  obtain ⟨⟨h', rfl, H, U'⟩, K⟩ := z
  exact h h' ⟨⟨e, B, d, es, n, a0, rfl, Mg.kept K, H⟩, g, F, U.trans U'⟩
 ·obtain ⟨e, B, d, es, n, a0, rfl, Mg, H⟩ := R
  exact wpAny_noteFrame_againW rfl H.2.2.2 (h s.heap ⟨⟨e, B, d, es, n, a0, rfl, Mg, H⟩, g, F, U⟩)
theorem gV {A : Around} {base : Heap} {l : List Env} {e L : Addr} {cls a0 fl : Value} {Q : Unit -> Shared -> Prop} (hkb : base.StaysIn s.heap) (hl : s.heap.FunFrames base l) (ht : s.heap.TracedAtW base e cls a0 fl)
  (h : ∀ h', base.StaysIn h' -> h'.FunFrames base l -> h'.TracedAtW base e cls a0 (rawInt L) -> s.heap.UpToSlots h' -> Q () { s with heap := h' }) :
  wpAny M A (setFlight (.ref e) (some L)) Q E s := by
 obtain ⟨oe, vs, T, oT, ts, he, hcls, hd, h1, hnT, hTe, hT, hdT, h3⟩ := ht
 have hsz : 3 < ts.size := (Array.getElem?_eq_some_iff.mp h3).1
 have other : ∀ b, b ≠ T -> (s.heap.update T (Obj.mapFields (·.setIfInBounds 3 (rawInt L)))).get? b = s.heap.get? b := λ b hb => Heap.get?_update_other _ _ (Ne.symm hb)
 have noRec : ∀ b o, s.heap.get? b = some o -> (∀ vs, o.data ≠ .fields vs) -> b ≠ T := λ b o hb hnf q => by
  rw [q, hT] at hb; injection hb with hb; subst hb; exact hnf ts hdT
 unfold setFlight
 refine wBD (wpAny_field he hd h1 ?_)
 rw [if_pos (show (Value.ref T != Value.none) = true from by simp)]
 refine wpAny_setField hT hdT hsz (h _ (λ b o hb => (other b λ q => by rw [q, hnT] at hb; cases hb).trans (hkb b o hb)) (hl.of_keeps λ b o hb hnf => ⟨o, (other b (noRec b o hb hnf)).trans hb, rfl⟩) ?_ λ b o hb hnf => ⟨o.slots, (other b (noRec b o hb hnf)).trans hb⟩)
 exact ⟨oe, vs, T, _, _, (other e (Ne.symm hTe)).trans he, hcls, hd, h1, hnT, hTe, Heap.get?_update_self _ hT (Obj.isFreed_of_fields (Obj.data_mapFields hdT _)), Obj.data_mapFields hdT _, by simp [hsz]⟩
theorem zio {A : Around} (R : Held c f m msg ev s.heap) (h : ∀ h', Held c f m msg ev h' -> E ev { s with heap := h' }) : cameBackBy M A f.env E ev s := by
 obtain (⟨⟨e, B, d, es, n, a0, rfl, Mg, H⟩, g, F, U⟩) := R
 have H0 := H
 obtain (⟨k1, k2, k3, oe, vs, T, oT, ts, he, hcls, hd, h1, hr⟩) := H
 show wpAny M A (do
  if (<- field (.ref e) 1) == .none then unsupported "frame.own-activation:exception-without-traceback"
  setFlight (.ref e) f.env.frame) (λ x s'' => E (.ref e) s'') E s
 refine wBD (wpAny_field he hd h1 ?_)
 rw [if_neg (show ¬ ((Value.ref T == Value.none) = true) from by simp)]
 have y : wpAny M A (setFlight (.ref e) (some f.L)) (λ x s' => ∃ h', s' = { s with heap := h' } /\ Heap.HeldW B (f.env :: f.outer) e (.ref c.excC) a0 f.L h' /\ s.heap.UpToSlots h') E s :=
  gV k1 k3 H0.2.2.2 λ h' a1 a2 a3 a4 => ⟨h', rfl, ⟨a1, k2, a2, a3⟩, a4⟩
 refine wpAny_mono (ud (xY _ _) y) (λ x s' z => ?_) λ x x z => z
 obtain (⟨⟨h', rfl, H, U'⟩, K⟩) := z
 exact h h' ⟨⟨e, B, d, es, n, a0, rfl, Mg.kept K, H⟩, g, F, U.trans U'⟩
theorem ziq {A : Around} (hA : A.frames = some (f.env :: f.outer)) (R : Rsd c f m msg ev s.heap) (h : ∀ h', Rsd c f m msg ev h' -> E ev { s with heap := h' }) :
  notedBy M A f.env (λ e s' => cameBackBy M A f.env E e s') ev s := by
 show wpAny M A (noteFrame ev f.env) _ _ s
 exact zbC hA R λ h' H => zio (s := { s with heap := h' }) H λ h'' H' => h h'' H'.rsd
theorem zgB {A : Around} {Q : Unit -> Shared -> Prop} (hA : A.frames = some (f.env :: f.outer)) (R : Rsd c f m msg ev s.heap) (h : ∀ h', ExF c f.base f.outer msg ev h' -> (∃ g, Fr f.h₀ f.L g m /\ g.UpToSlots h') -> Q () { s with heap := h' }) :
  wpAny M A (leaving f.env ev) Q E s := by
 unfold leaving
 refine wBD (zbC hA R λ h' H => ?_)
 obtain (⟨⟨e, B, d, es, n, a0, rfl, Mg, H⟩, g, F, U⟩) := H
 have y : wpAny M A (setFlight (.ref e) none) (λ x s' => ∃ h'', s' = { s with heap := h'' } /\ Heap.FlyingW B f.outer e (.ref c.excC) a0 h'' /\ h'.UpToSlots h'') E { s with heap := h' } :=
  wpAny_landsW (s := { s with heap := h' }) H λ h'' Fl U' => ⟨h'', rfl, ⟨Fl.1, Fl.2.1, Fl.2.2.1.2.2, Fl.2.2.2⟩, U'⟩
 refine wpAny_mono (ud (xY _ _) y) (λ x s' z => ?_) λ x x z => z
 obtain (⟨⟨h'', rfl, H', U'⟩, K⟩) := z
 exact h h'' ⟨e, B, d, es, n, a0, rfl, Mg.kept K, H'⟩ ⟨g, F, U.trans U'⟩
end
end
section
open PyProof.Rows PySem.Calls
open PySem.Sem (wp)
noncomputable def nd (c : Code) : Bool := match c with
 | .builtin id _ => !Builtin.Bytes.decodersThatHold.contains id
 | _ => true
noncomputable def zir (n : Bool) (Γ : Ctx) : Prop := n = true -> nd Γ.code = true /\ ∀ x ∈ Γ.below, nd x.1 = true
noncomputable def wpX {α : Type} (n : Bool) (M : Model) (A : Around) (t : Sem α) (Q : α -> Shared -> Prop) (E : Value -> Shared -> Prop) (s : Shared) : Prop :=
 ∀ Γ p, Γ.In A -> zir n Γ -> Sem.wp M Γ t (λ a z s' => Q a s') (λ e z s' => E e s') p s
noncomputable def yS (n : Bool) (M : Model) (A : Around) (c : Code) (R : Result -> Shared -> Prop) (s : Shared) : Prop :=
 ∀ Γ p, Γ.code = c -> Γ.Below A -> (n = true -> ∀ x ∈ Γ.below, nd x.1 = true) -> wpCode M Γ R p s
section
variable {α β : Type} {n : Bool} {M : Model} {A : Around} {E : Value -> Shared -> Prop} {s : Shared} {env : Env}
theorem zH {t : Sem α} {Q : α -> Shared -> Prop} (h : wpAny M A t Q E s) : wpX n M A t Q E s := λ Γ p hΓ _ => h Γ p hΓ
theorem zbD {c : Code} {R : Result -> Shared -> Prop} (h : yS false M A c R s) : codeAny M A c R s := λ Γ p hc hΓ => h Γ p hc hΓ λ e => (nomatch e)
theorem zA {a : α} {Q : α -> Shared -> Prop} (h : Q a s) : wpX n M A (pure a) Q E s := zH (wpAny_pure h)
theorem zP {t : Sem α} {Q Q' : α -> Shared -> Prop} {E' : Value -> Shared -> Prop} (h : wpX n M A t Q E s) (hQ : ∀ a s, Q a s -> Q' a s) (hE : ∀ e s, E e s -> E' e s) : wpX n M A t Q' E' s :=
 λ Γ p hΓ hn => Sem.wp_mono M Γ t (λ a z s => hQ a s) (λ e z s => hE e s) p s (h Γ p hΓ hn)
theorem zx {m : Sem α} {k : α -> Sem β} {Q : β -> Shared -> Prop} (h : wpX n M A m (λ a s' => wpX n M A (k a) Q E s') E s) : wpX n M A (m >>= k) Q E s := λ Γ p hΓ hn => by
 rw [Sem.wp_bind']
 exact Sem.wp_mono M Γ m (λ a p' s' h' => h' Γ p' hΓ hn) (λ z z z h' => h') p s (h Γ p hΓ hn)
theorem zc {m : Sem α} {k : α -> Sem β} {Q : β -> Shared -> Prop} (h : wpAny M A m (λ a s' => wpX n M A (k a) Q E s') E s) : wpX n M A (m >>= k) Q E s := zx (zH h)
theorem yu {vs : List Value} {m : Sem α} {Q : α -> Shared -> Prop} (h : wpX n M A m Q E s) : wpX n M A (holding vs m) Q E s := λ Γ p hΓ hn => by rw [Sem.wp_holding]; exact h Γ p hΓ hn
theorem uO {m : Sem α} {k : Value -> Sem Unit} {Q : α -> Shared -> Prop} (h : wpX n M A m Q (λ e s' => wpAny M A (k e) (λ z s'' => E e s'') E s') s) : wpX n M A (m.onRaise k) Q E s := λ Γ p hΓ hn => by
 rw [Sem.wp_onRaise]
 exact Sem.wp_mono M Γ m (λ z z z h' => h') (λ e p' s' h' => h' Γ p' hΓ) p s (h Γ p hΓ hn)
theorem zbE {m : Sem α} {Q : α -> Shared -> Prop} (h : wpX n M A m Q (notedBy M A env E) s) : wpX n M A (m.onRaise λ x => do noteFrame x env; theTreesLotGoes x) Q E s :=
 uO (zP h (λ z z q => q) λ z z hx => wBD (wpAny_mono hx (λ z z e => wpAny_theTreesLotGoes e) λ z z e => e))
theorem cj {Γ : Ctx} (hn : zir n Γ) {c : Code} {h : Option Value} {p : Pos} (e : n = true) : ∀ x ∈ (Γ.enter c h p).below, nd x.1 = true := λ x hx => (mCM hx).elim (λ q => q ▸ (hn e).1) ((hn e).2 x)
theorem zgC {c : Code} {Q : Flow -> Shared -> Prop} (hc : yS n M A c (λ r s' => match r with | .ok f => Q f s' | .error e => E e s') s) : wpX n M A (run c none) Q E s := λ Γ p hΓ hn => by
 rw [Sem.wp_run]
 exact hc _ p rfl (hΓ.enter c none p (by intro x; cases x)) (cj hn)
theorem xg {f : Value} {pos : List Value} {kw : List (Str × Value)} {Q : Value -> Shared -> Prop} (hc : yS n M A (.call f ⟨pos, kw⟩) (zbh Q E) s) : wpX n M A (call f pos kw) Q E s := λ Γ p hΓ hn => by
 show Sem.wp M Γ (runValue (.call f ⟨pos, kw⟩)) _ _ p s
 rw [Sem.wp_runValue]
 exact hc _ p rfl (hΓ.enter _ none p (by intro x; cases x)) (cj hn)
theorem zad {c : Code} {Q : Flow -> Shared -> Prop} (hc : yS n M A c (λ r s' => match r with | .ok f => Q f s' | .error e => cameBackBy M A env E e s') s) : wpX n M A (runOwn c env none) Q E s := by
 unfold runOwn
 exact uO (zgC hc)
theorem nQ {c : Code} {R R' : Result -> Shared -> Prop} (h : yS n M A c R s) (hR : ∀ r s, R r s -> R' r s) : yS n M A c R' s := λ Γ p hc hΓ hn => wpCode_mono hR (h Γ p hc hΓ hn)
theorem zR {c : Code} {R : Result -> Shared -> Prop} (hd : nd c = true)
  (h : wpX n M (A.under c) (M.den c) (λ fin s' => match fin with | .done f => R (.ok f) s' | .again c' => c'.quiet = true /\ yS n M A c' R s') (λ e s' => R (.error e) s') s) : yS n M A c R s := λ Γ p hc hΓ hn => by
 rw [wpCode_iff_wp, hc]
 refine Sem.wp_mono M Γ _ (λ fin p' s' h' => ?_) (λ z z z h' => h') p s (h Γ p (hc ▸ hΓ.in) λ e => ⟨by rw [hc]; exact hd, hn e⟩)
 cases fin with
 | done f => exact h'
 | again c' => exact ⟨h'.1, h'.2 (Γ.goto c') p' rfl (hΓ.goto c') hn⟩
theorem zae {c : Code} {R : Result -> Shared -> Prop} (hd : nd c = true) (hq : c.quiet = true) (I : Nat -> Shared -> Prop)
  (turn : ∀ i s, I i s -> wpX n M (A.under c) (M.den c) (λ fin s' => match fin with | .done f => R (.ok f) s' | .again c' => c' = c /\ ∃ m, m < i /\ I m s') (λ e s' => R (.error e) s') s)
  (i : Nat) (h : I i s) : yS n M A c R s := by
 induction i using Nat.strongRecOn generalizing s with
 | ind i ih =>
  refine zR hd (zP (turn i s h) (λ fin s' hf => ?_) λ z z h' => h')
  cases fin with
  | done f => exact hf
  | again c' => obtain ⟨rfl, m, hm, hI⟩ := hf; exact ⟨hq, ih m hm hI⟩
end
section
variable {n : Bool} {prog : Program} {w : World} {A : Around} {E : Value -> Shared -> Prop} {R : Result -> Shared -> Prop} {s : Shared} {env : Env}
theorem gW {test : Expr} {body : List Stmt} (I : Nat -> Shared -> Prop)
  (turn : ∀ i s, I i s -> wpX n (model prog w) A (isTrue test env (eval test env)) (λ b s₂ =>
    (b = true -> wpX n (model prog w) A (execs body env) (λ f s₃ => match f with
      | .next | .cont => ∃ m, m < i /\ I m s₃
      | .brk => R (.ok .next) s₃
      | .ret v => R (.ok (.ret v)) s₃) (notedBy (model prog w) A env λ e s' => R (.error e) s') s₂) /\
    (b = false -> R (.ok .next) s₂)) (notedBy (model prog w) A env λ e s' => R (.error e) s') s)
  (i : Nat) (h : I i s) : yS n (model prog w) A (.whileLoop test body [] env) R s := by
 refine zae rfl rfl I (λ i s hI => ?_) i h
 show wpX _ _ A ((whileTurn test body [] env).onRaise (λ x => do noteFrame x env; theTreesLotGoes x)) _ _ s
 refine zbE ?_
 simp only [whileTurn]
 refine zx (zP (turn i s hI) (λ b s₂ h₂ => ?_) λ z z h' => h')
 cases b with
 | false => exact zc (wpAny_execs_nil (zA (h₂.2 rfl)))
 | true =>
  refine zx (zP (h₂.1 rfl) (λ f s₃ h₃ => ?_) λ z z h' => h')
  cases f with
  | next => exact zA ⟨rfl, h₃⟩
  | cont => exact zA ⟨rfl, h₃⟩
  | brk => exact zA h₃
  | ret v => exact zA h₃
theorem nR {body : List Stmt} (h : wpX n (model prog w) (A.deeper env) (execs body env) (λ f s' => R (.ok (.ret (match f with | .ret v => v | _ => .none))) s')
   (λ e s' => wpAny (model prog w) (A.deeper env) (leaving env e) (λ z s'' => R (.error e) s'') (λ e' s'' => R (.error e') s'') s') s) : yS n (model prog w) A (.func body env) R s := by
 refine zR rfl ?_
 show wpX _ _ (A.deeper env) (do point; match <- (execs body env).onRaise (leaving env) with | .ret v => ret v | _ => ret .none) _ _ s
 refine zc (wpAny_point (zx (uO (zP h (λ f s' h' => ?_) λ z z h' => h'))))
 cases f <;> exact zA h'
theorem nT {a : Addr} {args : Args} {o : Obj} {fd : FuncData} {body : List Stmt} (hroom : A.depth < recursionLimit) (ho : s.heap.get? a = some o)
  (hd' : o.data = .func fd) (hco : fd.scope.isCoroutine = false) (hgen : fd.scope.isGenerator = false) (hbody : fd.body = .stmts body) (hcd : s.heap.CodeRec fd.code fd.qualname)
  (h : wpAny (model prog w) A.in1 (bindArgs fd args) (λ binds s₁ =>
   wpAny (model prog w) A.in1 (newFunctionEnv fd.scope fd.globals fd.closure binds (fd.qualname ++ ".<locals>.") (some a) fd.code none fd.builtins)
    (λ env s₂ => s₂.heap.NoLimit /\ yS n (model prog w) A (.func body env) R s₂) (λ e s' => R (.error e) s') s₁) (λ e s' => R (.error e) s') s) :
  yS n (model prog w) A (.call (.ref a) args) R s := by
 refine zR rfl ?_
 show wpX _ _ A.in1 (callAny (.ref a) args) _ _ s
 simp only [callAny]
 refine zc (wpAny_load ho ?_)
 obtain ⟨c, oc, vs, tq, hc, hoc, hdc, hq⟩ := hcd
 simp only [hd', callFunction, hco, hgen, hbody, hc]
 rw [hc] at h
 refine zH ?_
 refine wBD (m := field (.ref c) 1) (wpAny_field hoc hdc hq (wBD (wpAny_pure ?_)))
 exact wBD (wpAny_mono h (λ binds s₁ h₁ => wBD (wpAny_mono h₁ (λ env s₂ h₂ => wBD (wpAny_enterFrame h₂.1 hroom
  (wpAny_pure (And.intro rfl h₂.2)))) λ z z h' => h')) λ z z h' => h')
end
section
variable {n : Bool} {prog : Program} {w : World} {A₀ A : Around} {s : Shared} {base h₀ : Heap} {outer : List Env} {L : Addr} {m : Str -> Option Value} {env : Env} {news : List (Addr × Obj)} {K : Frag} {p : Program} {loose : List Str} {mean : ExcName -> Option Value} {mg mb : Str -> Option Value}
 {R : Result -> Shared -> Prop} {name qual : Str} {params : Arguments} {body : List Stmt} {scope : Scope} {dV kV doc pm cdv ct oc : Value} {an od : Option Addr} {osl : Array (Option Value)} {f : Addr} {args : Args} {binds : List (Str × Value)}
theorem zbF (B : Below A₀ base outer h₀) (F : Fr h₀ L s.heap m) (X₀ : K.In h₀) (N : News h₀ L s.heap news) (T : Top p loose mean mg mb h₀) (hA : A.frames = some (env :: outer)) (hf : env.frame = some L) (hke : env.scope.kind = .function)
  (ho : K.lookup f = some ⟨oc, od, .func (fnOf name qual params body scope dV kV doc pm an cdv ct), osl⟩) (hcd : codeIn K cdv qual = true) (hroom : A.depth < recursionLimit)
  (hbind : BindsTo s (fnOf name qual params body scope dV kV doc pm an cdv ct) args binds) (hloc : ∀ y ∈ binds, scope.names.lookup y.1 = some .local)
  (h : ∀ g L' h₁, Fr h₀ L g m -> Fr g L' h₁ (λ y => binds.reverse.lookup y) -> News g L' h₁ news -> Below A base (env :: outer) g -> K.In g -> Top p loose mean mg mb g ->
   wpX n (model prog w) (A.deeper (envOf qual scope L' f cdv)) (execs body (envOf qual scope L' f cdv))
    (λ fl s' => LeaveK h₀ L m g R (match fl with | .ret v => v | _ => .none) s')
    (λ e s' => wpAny (model prog w) (A.deeper (envOf qual scope L' f cdv)) (leaving (envOf qual scope L' f cdv) e) (λ z s'' => R (.error e) s'') (λ e' s'' => R (.error e') s'') s')
    { s with heap := h₁, toks := s.toks + binds.length })
  (hco : scope.isCoroutine = false) (hgen : scope.isGenerator = false) (hk : scope.kind = .function)
  (hcell : ∀ x ∈ scope.names, x.2 ≠ .cell) : yS n (model prog w) A (.call (.ref f) args) R s := by
 obtain ⟨FG, BG, st, lv⟩ := groundX (R := R) B F N hA hf hke
 have hlim : s.heap.NoLimit := (Top.nolimit T).keeps F.keep
 refine nT hroom ((X₀.keeps F.keep) _ _ ho) rfl hco hgen rfl (codeRec_of (X₀.keeps F.keep) hcd) (hbind _ _ _ _ ?_)
 refine wpAny_newFunctionEnv hcell hloc (λ h₁ hns hsb => ⟨hlim.fresh _ hsb, nR ?_⟩) hk
 have hk₁ : ∀ b o, s.heap.get? b = some o -> h₁.get? b = some o := λ b o e => hsb.extBut b o (Nat.ne_of_lt (Heap.lt_size e)) (Heap.get?_push_of_some _ e)
 exact zP (h _ s.heap.objs.size h₁ FG ⟨hns, λ b o e => hk₁ b o (of_hideAll _ e), Nat.le_of_eq (hideAll_size _ _)⟩
  (λ q hq => ⟨hk₁ _ _ (N q hq).1, Nat.ne_of_lt (Heap.lt_size (N q hq).1), hideAll_none _ (List.mem_map_of_mem hq)⟩) BG (X₀.keeps st) (T.keeps st)) (λ fl s' hl => lv _ _ hl) λ z z y => y
end
end
section
open PyProof.Rows PySem.Builtin PySem.Calls
noncomputable abbrev Wd.to (a : Wd) (h : Heap) (t : Nat) : Shared := { a.s with heap := h, toks := t }
theorem Up.to {a b : Wd} (u : Up a b) (h : Heap) (t : Nat) : b.to h t = a.to h t := by
 show ({ b.s with heap := h, toks := t } : Shared) = { a.s with heap := h, toks := t }
 rw [u.st]
noncomputable def qM (x : Cx) (m : Str -> Option Value) (a : Wd) (X : XE) (Ec : Value -> Shared -> Prop) : Prop := ∀ h t e msg, X msg -> Rsd x.c x.f m msg e h -> Ec e (a.to h t)
theorem qM.up {x : Cx} {m : Str -> Option Value} {a b : Wd} {X : XE} {Ec : Value -> Shared -> Prop} (h : qM x m a X Ec) (u : Up a b) : qM x m b X Ec := λ hp t e msg q r => (u.to hp t).symm ▸ h hp t e msg q r
structure zaf (x : Cx) (a : Wd) (K : Out -> Prop) (Kc : Flow -> Shared -> Prop) (Ec : Value -> Shared -> Prop) : Prop where
 nx : ∀ y b, K (.nx y.l y.g) -> Rl x y b -> Up a b -> Kc .next b.s
 bk : ∀ y b, K (.bk y.l y.g) -> Rl x y b -> Up a b -> Kc .brk b.s
 rt : ∀ y b v w, K (.rt v y.g) -> Rl x y b -> Up a b -> VR x.c b.P v w -> Kc (.ret w) b.s
 xc : ∀ m, qM x m a (λ msg => K (.xc msg)) Ec
theorem zaf.up {x : Cx} {a b : Wd} {K : Out -> Prop} {Kc Ec} (h : zaf x a K Kc Ec) (u : Up a b) : zaf x b K Kc Ec :=
 ⟨λ y d q R v => h.nx y d q R (u.trans v), λ y d q R v => h.bk y d q R (u.trans v), λ y d v w q R z => h.rt y d v w q R (u.trans z), λ m => (h.xc m).up u⟩
noncomputable abbrev Tab := Nat -> List AV -> GS -> QE -> XE -> Prop
noncomputable abbrev GoX (x : Cx) (y : Lc) (a : Wd) (Q : QE) (Qc : Value -> Shared -> Prop) : Prop := ∀ v w g b, Q v g -> At x ⟨y.l, g, y.m⟩ a v w b -> Qc w b.s
structure uW (x : Cx) (n : Bool) (C : Tab) (e : Expr) (i : IX) : Prop where
 go : ∀ {y : Lc} {a : Wd} {Q : QE} {X : XE} {Qc Ec : Value -> Shared -> Prop}, exX C i y.l y.g Q X -> Rl x y a -> GoX x y a Q Qc -> qM x y.m a X Ec -> wpX n x.M x.A (eval e x.env) Qc Ec a.s
structure oW (x : Cx) (n : Bool) (C : Tab) (e : Expr) (i : IX) : Prop where
 go : ∀ {y : Lc} {a : Wd} {K1 K2 : GS -> Prop} {X : XE} {Qc : Bool -> Shared -> Prop} {Ec : Value -> Shared -> Prop}, exX C i y.l y.g (λ v g => boC v ((truth v = true -> K1 g) /\ (truth v = false -> K2 g))) X -> Rl x y a ->
  (∀ g b, K1 g -> Rl x ⟨y.l, g, y.m⟩ b -> Up a b -> Qc true b.s) -> (∀ g b, K2 g -> Rl x ⟨y.l, g, y.m⟩ b -> Up a b -> Qc false b.s) -> qM x y.m a X Ec -> wpX n x.M x.A (isTrue e x.env (eval e x.env)) Qc Ec a.s
structure zT (x : Cx) (n : Bool) (C : Tab) (st : Stmt) (ms : MS) : Prop where
 go : ∀ {y : Lc} {a : Wd} {K : Out -> Prop} {Kc Ec}, exS C ms y.l y.g K -> Rl x y a -> zaf x a K Kc Ec -> wpX n x.M x.A (exec st x.env) Kc Ec a.s
structure oX (x : Cx) (n : Bool) (C : Tab) (st : List Stmt) (ms : List MS) : Prop where
 go : ∀ {y : Lc} {a : Wd} {K : Out -> Prop} {Kc Ec}, exL C ms y.l y.g K -> Rl x y a -> zaf x a K Kc Ec -> wpX n x.M x.A (execs st x.env) Kc Ec a.s
section
variable {x : Cx} {T : Names} {fa : Nat -> Addr} {N : Nat} {n : Bool} {C : Tab} {y : Lc} {a b : Wd} {e : Expr} {p : PX} {i : IX}
theorem zbG (h : yd x e p) : uW x n C e (.pure p) := ⟨λ hp R k z => zH (h hp R λ q w b B => k _ w _ b q B)⟩
theorem zag (h : zic x e p) : oW x n C e (.pure p) := ⟨λ hp R k1 k2 z => zH (h hp R λ q b R' U => by
 cases t : truth (val p _ _) with
 | true => exact k1 _ b (q.1 t) R' U
 | false => exact k2 _ b (q.2 t) R' U)⟩
theorem zbH (h : uW x n C e i) (e2 : isTrue e x.env (eval e x.env) = (do let v <- eval e x.env; standAt e.pos; holding [v] (truthy v))) : oW x n C e i :=
 ⟨λ {y a K1 K2 X Qc Ec} hp R k1 k2 xx => e2 ▸ zx (h.go hp R (λ v w g b q B => zH (wBD (wpAny_standAt (wpAny_holding (rQ q B.v λ q => by
  cases t : truth v with
  | true => exact k1 g b (q.1 t) B.R B.u
  | false => exact k2 g b (q.2 t) B.R B.u))))) xx)⟩
theorem vh (S : St x T fa N) (R : Rl x y a) {i : Nat} {z : Str} {v : AV} {w : Value} {Qc : Unit -> Shared -> Prop} {Ec} (hi : zB x.ns i z = true) (hv : VR x.c a.P v w) (k : ∀ m b, Rl x ⟨setL y.l i v, y.g, m⟩ b -> Up a b -> Qc () b.s) : wpAny x.M x.A (storeName x.env z w) Qc Ec a.s :=
 xQ hi λ h1 h2 h3 => stN R.F R.N (λ h' F' N' => k _ ⟨a.P, a.to h' _⟩ (R.store h1 S.nodup hv F' N') ⟨Ext.refl _, rfl⟩) S.here.kind h3
theorem gY (S : St x T fa N) {j : Nat} {z : Str} {zp pos : Pos} (h : uW x n C e i) (hi : zB x.ns j z = true) (hc : okE e = true) : zT x n C (.Assign [.Name z zp] e pos) (.assign j i) := ⟨λ hp R k => by
 rw [exec_Assign_Name x.env z zp e pos (z6 hc _ _)]
 exact zc (wpAny_standAt (zx (h.go hp R (λ v w g b q B => zH (wBD (wpAny_standAt (wBD (wpAny_bindName (vh S B.R hi B.v λ m d R2 U => wpAny_pure (k.nx _ d q R2 (B.u.trans U)))))))) (k.xc _))))⟩
theorem zdX {pos : Pos} (h : uW x n C e i) : zT x n C (.Return (some e) pos) (.ret i) := ⟨λ hp R k => by
 rw [exec_Return_some]
 exact zc (wpAny_standAt (zx (h.go hp R (λ v w g b q B => zA (k.rt _ b v w q B.R B.u B.v)) (k.xc _))))⟩
theorem jz {pos : Pos} : zT x n C (.Return none pos) .retNone := ⟨λ hp R k => zH (wpAny_Return_none (k.rt _ _ .none .none hp R (Up.refl _) rfl))⟩
theorem zdY {pos : Pos} : zT x n C (.Break pos) .brk := ⟨λ hp R k => zH (PySem.wpAny_Break (k.bk _ _ hp R (Up.refl _)))⟩
theorem zbI {pos : Pos} : zT x n C (.Pass pos) .pass := ⟨λ hp R k => zH (wpAny_Pass (k.nx _ _ hp R (Up.refl _)))⟩
theorem zgD {pos : Pos} {sa sb : List Stmt} {ma mb : List MS} (h : oW x n C e i) (h1 : oX x n C sa ma) (h2 : oX x n C sb mb) : zT x n C (.If e sa sb pos) (.ifs i ma mb) := ⟨λ hp R k => by
 rw [exec_If]
 exact zc (wpAny_standAt (zx (h.go hp R (λ g b q R' U => h1.go q R' (k.up U)) (λ g b q R' U => h2.go q R' (k.up U)) (k.xc _))))⟩
theorem jA : oX x n C [] [] := ⟨λ hp R k => zH (wpAny_execs_nil (k.nx _ _ hp R (Up.refl _)))⟩
theorem rW (S : St x T fa N) : interactive x.env = false := by
 have := S.here.kind
 unfold interactive
 show (decide (x.f.scope.kind = _) && _) = false
 rw [this]
 rfl
theorem zbJ (S : St x T fa N) {pos : Pos} (h : uW x n C e i) (hc : okE e = true) : zT x n C (.Expr e pos) (.expr i) := ⟨λ hp R k => by
 rw [exec_Expr x.env e pos (rW S) (z6 hc _ _)]
 exact zc (wpAny_standAt (zx (h.go hp R (λ v w g b q B => zH (wpAny_dropValue (k.nx _ b q B.R B.u))) (k.xc _))))⟩
theorem nU {st : Stmt} {sts : List Stmt} {m : MS} {ms : List MS} (h : zT x n C st m) (h2 : oX x n C sts ms) : oX x n C (st :: sts) (m :: ms) := ⟨λ hp R k => by
 rw [execs_cons]
 exact zx (h.go hp R ⟨λ y b q R' U => h2.go q R' (k.up U), λ y b q R' U => zA (k.bk y b q R' U), λ y b v w q R' U r => zA (k.rt y b v w q R' U r), k.xc⟩)⟩
theorem rY (S : St x T fa N) {X : XE} {Ec : Value -> Shared -> Prop} {m : Str -> Option Value} (h : qM x m a X Ec) (u : Up a b) : qM x m b X (notedBy x.M x.A x.env λ e s' => cameBackBy x.M x.A x.env Ec e s') :=
 λ hp t e msg q r => ziq (s := b.to hp t) S.here.stack r λ h' r' => h.up u h' t e msg q r'
inductive zis (x : Cx) (a : Wd) (I : Nat -> Loc -> GS -> Prop) (i : Nat) : Shared -> Prop
 | mk (y : Lc) (b : Wd) (h : I i y.l y.g) (R : Rl x y b) (u : Up a b) : zis x a I i b.s
theorem zah (S : St x T fa N) {pos : Pos} {sb : List Stmt} {mb : List MS} (h : oW x n C e i) (h1 : oX x n C sb mb) : zT x n C (.While e sb [] pos) (.while i mb) := ⟨λ {y a K Kc Ec} hp R k => by
 obtain ⟨I, n0, i0, turn⟩ := hp
 rw [exec_While]
 refine zc (wpAny_standAt (zad (gW (zis x a I) (λ j s' hI => ?_) n0 (.mk y a i0 R (Up.refl a)))))
 obtain ⟨y', b, hI, R', U⟩ := hI
 exact h.go (turn j _ _ hI) R' (λ g d q R2 V => ⟨λ u => h1.go (y := ⟨y'.l, g, y'.m⟩) q R2 ⟨λ y3 d3 q R3 W => q.elim λ m z => ⟨m, z.1, .mk y3 d3 z.2 R3 (U.trans (V.trans W))⟩, λ y3 d3 q R3 W => k.nx y3 d3 q R3 (U.trans (V.trans W)),
   λ y3 d3 v w q R3 W r => k.rt y3 d3 v w q R3 (U.trans (V.trans W)) r, λ m => rY S (k.xc m) (U.trans V)⟩, λ e => (nomatch e)⟩)
  (λ g d q R2 V => ⟨λ e => (nomatch e), λ u => k.nx _ d q R2 (U.trans V)⟩) (rY S (k.xc _) U)⟩
end
theorem KV.mono2 {α : Type} {R R' : α -> Value -> Prop} {vs : List α} {es : List DictEntry} {fs : List Nat} (h : KV R vs es fs) : (∀ j v w, yj vs j = some v -> R v w -> R' v w) -> KV R' vs es fs :=
 KV.ind (R := R) (M := λ vs es fs => (∀ j v w, yj vs j = some v -> R v w -> R' v w) -> KV R' vs es fs) (λ z z => trivial) (λ v vs e es f fs he h z ih k => ⟨⟨he, k 0 v _ rfl h⟩, ih λ j u w q => k (j + 1) u w q⟩) vs es fs h
theorem KV.put2 {R R' : AV -> Value -> Prop} {f : Nat} {v : AV} {w : Value} {hs : Int} {t : Tok} (hf : f < 23) (hv : R' v w) {fs : List Nat} : ∀ {vs vs' : List AV} {es : List DictEntry} {i : Nat}, KV R vs es fs -> oK fs -> vH fs f = some i -> pZ vs i v = some vs' ->
  (∀ j u w, j ≠ i -> yj vs j = some u -> R u w -> R' u w) -> KV R' vs' (putL (zf f) hs (.str (zf f) t) w es) fs := by
 induction fs with
 | nil => exact λ y y p => (nomatch p)
 | cons g fs ih =>
  intro vs vs' es i h a p q k
  rcases vZ p with ⟨e1, e2⟩ | ⟨n, j, z, e2⟩
  ·subst e1 e2
   cases vs with
   | nil => cases es with
    | nil => rw [<- sIJ q]; exact ⟨⟨⟨t, rfl⟩, hv⟩, trivial⟩
    | cons => exact h.elim
   | cons u vs => cases es with
    | nil => exact h.elim
    | cons e es =>
     rw [<- sIJ q]
     unfold putL
     rw [if_pos (qz h.1.1)]
     exact ⟨⟨h.1.1, hv⟩, h.2.mono2 λ j u w q => k (j + 1) u w (Nat.succ_ne_zero j) q⟩
  ·subst e2
   cases vs with
   | nil => cases q
   | cons u vs => cases es with
    | nil => exact h.elim
    | cons e es =>
     obtain ⟨us, q2, e3⟩ := Option.map_eq_some_iff.mp (show (pZ vs j v).map (u :: ·) = some vs' from q)
     subst e3
     unfold putL
     rw [if_neg (by rw [vY h.1.1 λ x => n (wG (a g (.head _)) hf x)]; exact Bool.false_ne_true)]
     exact ⟨⟨h.1.1, k 0 u _ (Nat.succ_ne_zero j).symm rfl h.1.2⟩, ih h.2 (λ x hx => a x (.tail _ hx)) z q2 λ m u w c q => k (m + 1) u w (λ e => c (Nat.succ.inj e)) q⟩
theorem zbK {v : AV} {fs : List AV} : ∀ {fs' : List AV} {i j : Nat}, pZ fs i v = some fs' -> j ≠ i -> yj fs' j = yj fs j := by
 induction fs with
 | nil =>
  intro fs' i j h n
  cases i with
  | zero => cases j with
   | zero => exact (n rfl).elim
   | succ j => exact sIJ h ▸ rfl
  | succ i => exact nomatch h
 | cons u fs ih =>
  intro fs' i j h n
  cases i with
  | zero => cases j with
   | zero => exact (n rfl).elim
   | succ j => exact sIJ h ▸ rfl
  | succ i =>
   obtain ⟨us, q, e⟩ := Option.map_eq_some_iff.mp (show (pZ fs i v).map (u :: ·) = some fs' from h)
   subst e
   cases j with
   | zero => rfl
   | succ j => exact ih q λ e => n (congrArg (· + 1) e)
theorem zfu {v : AV} {fs : List AV} : ∀ {fs' : List AV} {i : Nat}, pZ fs i v = some fs' -> yj fs' i = some v := by
 induction fs with
 | nil =>
  intro fs' i h
  cases i with
  | zero => exact sIJ h ▸ rfl
  | succ i => exact nomatch h
 | cons u fs ih =>
  intro fs' i h
  cases i with
  | zero => exact sIJ h ▸ rfl
  | succ i =>
   obtain ⟨us, q, e⟩ := Option.map_eq_some_iff.mp (show (pZ fs i v).map (u :: ·) = some fs' from h)
   subst e
   exact ih (i := i) q
theorem qN {M : Prop} {g : GS} {f : Nat} {v : AV} {k : GS -> Prop} (h : zf7 (zjb g f v) k) (m : ∀ fs fs', g.lx = some fs -> pZ fs f v = some fs' -> k { g with lx := some fs' } -> M) : M := by
 revert h
 show zf7 (match g.lx with | some fs => (pZ fs f v).map λ fs' => { g with lx := some fs' } | none => none) k -> M
 cases e : g.lx with
 | none => exact λ h => h.elim
 | some fs =>
  show zf7 ((pZ fs f v).map λ fs' => { g with lx := some fs' }) k -> M
  cases e2 : pZ fs f v with
  | none => exact λ h => h.elim
  | some fs' => exact λ h => m fs fs' e e2 h
section
variable {x : Cx} {T : Names} {fa : Nat -> Addr} {N : Nat} {n : Bool} {C : Tab} {y : Lc} {a b : Wd} {e : Expr} {p : PX} {i : IX}
theorem zfv (S : St x T fa N) (R : Rl x y a) {w : Value} {fs fs' : List AV} {f : Nat} {v : AV} {b' : Addr} {bf : Bs} {Qc : Unit -> Shared -> Prop} {Ec} {z d u : Addr} {es : List DictEntry} {m : Nat} (h : zhL x.c a.P y.g.buf fs z d u es m) (hl : y.g.lx = some fs) (hq : pZ fs f v = some fs') (h12 : f < 12)
  (hv : ∀ P', Ext a.P P' -> FR x.c P' b' v w) (hk : ∀ P', Ext a.P P' -> ∀ j q w, j ≠ f -> yj fs j = some q -> FR x.c a.P u q w -> FR x.c P' b' q w) (hb : ∀ P' : Pl, (∀ o, Mut a.P b' o -> o.cls ≠ .type "dict" -> Mut P' b' o) -> 9 < fs'.length -> yj fs' 9 = some .buf /\ Mut P' b' (baO bf)) (ho : ∀ i, yj fs' i = some .buf -> i = 9)
  (k : ∀ b, Rl x ⟨y.l, { y.g with lx := some fs', buf := bf }, y.m⟩ b -> Up a b -> Qc () b.s) : wpAny x.M x.A (setAttr (.ref z) (zf f) w) Qc Ec a.s := by
 have E : ∀ o, Ext a.P (a.P.upd d o) := λ o => Ext.upd h.od.2
 have kv := λ o => h.kv.put2 (hs := PyData.keyHash x.c.w.params (zf f)) (t := a.s.toks + 1) (Nat.lt_trans h12 (by decide)) (hv _ (E o)) kY (jh ⟨f, h12⟩) hq (hk _ (E o))
 refine set_dict R.F S.here.kin R.N (InstAt.of_news R.N h.ox.1 h.od.1) rfl S.fx.setA S.fx.setO (S.fx.setT f h12) S.fx.lexDict (kZ h.kv) rfl (dD R.led.nd h.od.1) ?_ λ h' F' N' => ?_
 ·rw [(kv (baO [])).len]
  exact nLT (kv (baO [])).le (by decide)
 ·refine k ⟨a.P.upd d _, a.to h' _⟩ (R.move (E _) F' N' R.led.upd (R.st.setX (E _) (λ l ws i q => q.upd (q.ne R.led h.od (by decide +kernel : ¬ Value.type "list" = Value.type "dict"))) ?_)) ⟨E _, rfl⟩
  exact ⟨z, d, b', _, _, h.px, (E _).own _ _ h.ox, h.od.set, kv _, hb _ λ o q hc => q.upd (q.ne R.led h.od hc), ho⟩
theorem zfw (S : St x T fa N) (R : Rl x y a) {wx w : Value} {fs fs' : List AV} {f : Nat} {v : AV} {Qc : Unit -> Shared -> Prop} {Ec} (hx : oh a.P wx) (hl : y.g.lx = some fs) (hq : pZ fs f v = some fs') (h12 : f < 12) (h9 : f ≠ 9) (hv : VR x.c a.P v w)
  (k : ∀ b, Rl x ⟨y.l, { y.g with lx := some fs' }, y.m⟩ b -> Up a b -> Qc () b.s) : wpAny x.M x.A (setAttr wx (zf f) w) Qc Ec a.s := by
 obtain ⟨z, d, u, es, m, e1, h⟩ := nM R hx hl
 subst e1
 refine zfv S R (b' := u) (bf := y.g.buf) h hl hq h12 (λ P' E => .inr (VR.mono E v hv)) (λ P' E j q w t t r => r.mono E) (λ P' hm l => ?_) (λ i hi => ?_) k
 ·obtain ⟨q, hq9⟩ := mY l
  have e := zbK hq (Ne.symm h9)
  have hb := h.buf (zbl (e.symm.trans hq9))
  exact ⟨e.trans hb.1, hm _ hb.2 (by decide +kernel : ¬ Value.type "bytearray" = Value.type "dict")⟩
 ·by_cases q : i = f
  ·rw [q, zfu hq] at hi
   rw [sIJ hi] at hv
   exact hv.elim
  ·exact h.only i ((zbK hq q).symm.trans hi)
end
section
variable {x : Cx} {T : Names} {fa : Nat -> Addr} {N : Nat} {n : Bool} {C : Tab} {y : Lc} {a b : Wd} {e : Expr} {p : PX} {i : IX}
theorem cu {f : Nat} {P M : Prop} (h : gb f P) (k : f < 12 -> f ≠ 9 -> P -> M) : M :=
 a2 (zq h).1 λ h1 h2 => k (ltB h2) (Nat.ne_of_beq_eq_false (Bool.not_eq_true' _ ▸ h1)) (zq h).2
theorem jB (S : St x T fa N) {f : Nat} {z : Str} {zp xp pos : Pos} (h : uW x n C e i) (hl : zB x.ns 0 z = true) (hc : okE e = true) : zT x n C (.Assign [.Attribute (.Name z zp) (zf f) xp] e pos) (.setattr f i) := ⟨λ {y a K Kc Ec} hp R k => by
 rw [plainObj_exec_Assign_Attribute (.Name z zp) (zf f) xp e pos (z6 hc _ _)]
 refine zc (wpAny_standAt (zx (h.go hp R (λ v w g b q B => zH ?_) (k.xc _))))
 rw [assign_Attribute]
 refine wBD (wBD (wpAny_holding (vQ q λ e1 q => cu q λ h12 h9 q => qN q λ fs fs' hl1 hq q => yL S B.R hl e1 λ w2 r => wBD (wpAny_standAt (wBD (wpAny_holding ?_))))))
 exact zfw S B.R r hl1 hq h12 h9 B.v λ d R2 U => wpAny_release (wpAny_pure (k.nx ⟨y.l, _, y.m⟩ d q R2 (B.u.trans U)))⟩
theorem jC {M : Prop} {u : Option AV} {v : AV} {k : Int -> Int -> Prop} (h : zjD u v k) (m : ∀ i j, u = some (.int i) -> v = .int j -> k i j -> M) : M := by
 cases u with
 | none => exact h.elim
 | some u => cases u with
  | int i => cases v with
   | int j => exact m i j rfl rfl h
   | _ => exact h.elim
  | _ => exact h.elim
theorem zdZ (S : St x T fa N) {j : Nat} {z : Str} {zp pos : Pos} (h : yd x e p) (hi : zB x.ns j z = true) : zT x n C (.AugAssign (.Name z zp) .Add e pos) (.aug j p) := ⟨λ {y a K Kc Ec} hp R k => by
 refine zH (rR hp λ u e0 q => xQ hi λ h1 h2 h3 => ?_)
 obtain ⟨w, ew, r⟩ := R.loc j u z e0 h1
 refine wpAny_AugAssign_Name (ldn R.F ew (h q R λ q w2 b B => jC q λ i1 i2 eu ev q => ?_) S.here.kind h3)
 have hv := B.v
 rw [ev] at hv
 obtain ⟨t2⟩ : xX i2 w2 := hv
 rw [e0] at eu
 rw [sIJ eu] at r
 obtain ⟨t1⟩ : xX i1 w := r
 exact PyProof.Rows.iadd_int (vh S (a := ⟨b.P, { b.s with toks := _ }⟩) B.R.tk hi (v := .int (i1 + i2)) ⟨_⟩ λ m d R2 U => k.nx _ d q R2 (B.u.trans (Up.tk.trans U)))⟩
theorem jD (S : St x T fa N) {f : Nat} {z : Str} {zp xp pos : Pos} (h : yd x e p) (hl : zB x.ns 0 z = true) : zT x n C (.AugAssign (.Attribute (.Name z zp) (zf f) xp) .Add e pos) (.augattr f p) := ⟨λ {y a K Kc Ec} hp R k => by
 refine zH (vQ hp λ e1 q => wpAny_AugAssign_AttributeAny (yL S R hl e1 λ w r => zfs S R (u := .lex) q r λ q w1 r1 => h q (a := ⟨a.P, { a.s with toks := a.s.toks + 1 }⟩) R.tk λ q w2 b B => jC q λ i1 i2 eu ev q => ?_))
 have hv := B.v
 rw [ev] at hv
 obtain ⟨t2⟩ : xX i2 w2 := hv
 rw [eu] at r1
 obtain ⟨t1⟩ : xX i1 w1 := r1
 refine PyProof.Rows.iadd_int (cu q λ h12 h9 q => qN q λ fs fs' hl1 hq q => ?_)
 exact zfw S (a := ⟨b.P, { b.s with toks := _ }⟩) B.R.tk (oh.mono B.u.ext r) hl1 hq h12 h9 (v := .int (i1 + i2)) ⟨_⟩ λ d R2 U => k.nx ⟨y.l, _, y.m⟩ d q R2 (Up.tk.trans (B.u.trans (Up.tk.trans U)))⟩
theorem nW {M : Prop} {v : Option AV} {k : Addr -> Prop} (h : zf8 v k) (m : ∀ a, v = some (.list a) -> k a -> M) : M := by
 cases v with
 | none => exact h.elim
 | some v => cases v with
  | list a => exact m a rfl h
  | _ => exact h.elim
theorem Rl.listTo (R : Rl x y a) {d : Addr} {vs us : List AV} {ws us' : List Value} {m k t : Nat} {h' : Heap} (hp : y.g.hp d = some vs) (o : Mut a.P d (listOf ws.toArray m)) (hv : yx (VR x.c a.P) us us') (hs : Heap.SameBut d a.s.heap h') (ho : h'.get? d = some (listOf us'.toArray k)) :
  Rl x ⟨y.l, { y.g with hp := uV y.g.hp d us }, y.m⟩ ⟨a.P.upd d (listOf us'.toArray k), a.to h' t⟩ :=
 have hN := R.N _ o.1
 R.setL hp o.2 hv (R.F.change hs hN.2.1 hN.2.2) (mR R.N R.led.nd o.1 hs ho)
theorem zd0 (S : St x T fa N) {j : Nat} {z : Str} {zp ap cp pos : Pos} (h : yd x e p) (hi : zB x.ns j z = true) (hs : okE e = true) (hline : (ap.endLine == cp.line) = true) : zT x n C (.Expr (.Call (.Attribute (.Name z zp) "append" ap) [e] [] cp) pos) (.app j p) := ⟨λ {y a K Kc Ec} hp R k => by
 refine zH (wpAny_Expr_any (nW hp λ d e0 q => q.elim λ vs q => ?_) (rW S) (z6 rfl _ _))
 obtain ⟨ws0, m0, o0, _⟩ := R.st.hp d vs q.1
 refine yD rfl (yC hs) (by decide : 1 < 20) hline (yL S R hi e0 λ w r pl => ?_)
 have ew : Value.ref d = w := r
 subst ew
 refine getMethod_append_N R.N o0.1 (yZ (P := λ l => True) (yC hs) (zG (λ l e => nomatch e)) (args1 hs (h q.2 R λ q2 w2 b B => ⟨trivial, ?_⟩)))
 obtain ⟨ws, m, o, hv⟩ := B.R.st.hp d vs q.1
 refine append_at (B.R.N.get o.1) (λ h3 hs3 ho3 => ?_) (xP (by rw [List.size_toArray, hv.len]; exact q2.1))
 rw [show ws.toArray.push w2 = (ws ++ [w2]).toArray from List.push_toArray ..] at ho3
 exact k.nx _ ⟨b.P.upd d _, b.to h3 _⟩ q2.2 (B.R.listTo (t := b.s.toks) q.1 o (yx.append (yx.one B.v) hv) hs3 ho3) (B.u.trans ⟨Ext.upd o.2, rfl⟩)⟩
end
theorem zit {α : Type} {f : α -> Bool} {a b : α} (h1 : f a = false) (h2 : f b = false) : ¬([a, b].any f = true) := by
 rw [List.any_cons, List.any_cons, h1, h2]
 exact Bool.false_ne_true
noncomputable def isStar (e : Expr) : Bool := match e with
 | .Starred .. => true
 | _ => false
theorem zbL {e : Expr} (h : okE e = true) : isStar e = false :=
 zX.of h (M := λ e => isStar e = false) (λ z z z => rfl) (λ z z z z => rfl) (λ z z z z z => rfl) (λ z z z z z => rfl) (λ z z z z => rfl) (λ z z z z => rfl) (λ z z z z z => rfl) (λ z z z z z => rfl) (λ z z z z => rfl) (λ z z z z => no) (λ z z z z => rfl) (λ z z z => rfl) (λ z z z z => rfl)
theorem zbM {env : Env} {x y : Str} {xp yp p p' : Pos} {k k' : Nat} {e1 e2 : Expr} (hb : env.blockKind = .function) (kx : env.kindOf x = some .local) (ky : env.kindOf y = some .local) (hl : (xp.line == yp.line) = true) (hne : (x == y) = false)
  (h1 : okE e1 = true) (h2 : okE e2 = true) (hc : ([e1, e2].all (foldedForSure 8) || !([e1, e2].all (constantsAlone 8))) = true) :
  swappedStores [.Tuple [.Name x xp, .Name y yp] k p] (.Tuple [e1, e2] k' p') env = pure (if [e1, e2].all (foldedForSure 8) = true then none else some [x, y]) := by
 unfold swappedStores
 dsimp only
 have e0 : (yp.line == xp.line) = true := by rw [beq_iff_eq] at hl ⊢; exact hl.symm
 have e3 : (y == x) = false := by
  have := beq_eq_false_iff_ne.mp hne
  exact beq_eq_false_iff_ne.mpr λ e => this e.symm
 have hd : ([x, y] : List Str).eraseDups.length = 2 := by
  simp [List.eraseDups_cons, e3]
 rw [if_neg (by rw [hb]; exact Bool.false_ne_true)]
 refine (if_neg (zit (by exact zbL h1) (by exact zbL h2))).trans ?_
 have px : (Expr.Name x xp).pos = xp := rfl
 simp only [List.filterMap_cons, List.filterMap_nil, kx, ky, List.head?_cons, Option.map_some, Option.getD_some, px]
 have e4 : (some NameKind.local == some NameKind.local && xp.line == xp.line) = true := by simp
 have e5 : (some NameKind.local == some NameKind.local && yp.line == xp.line) = true := by rw [e0]; rfl
 simp only [e4, e5, if_true]
 rw [if_neg (by rw [hd]; exact Bool.false_ne_true)]
 cases q : [e1, e2].all (foldedForSure 8) with
 | true => rfl
 | false =>
  rw [q] at hc
  have q2 : [e1, e2].all (constantsAlone 8) = false := by rw [Bool.false_or] at hc; revert hc; cases [e1, e2].all (constantsAlone 8) <;> intro hc <;> first | rfl | cases hc
  rw [q2]
  rfl
section
variable {x : Cx} {T : Names} {fa : Nat -> Addr} {N : Nat} {n : Bool} {C : Tab} {y : Lc} {a b : Wd} {e : Expr} {p : PX} {i : IX}
theorem jE {ts : List Expr} {k : Nat} {p : Pos} {env : Env} (h : okT e = true) : swappedStores [.Tuple ts k p] e env = pure none :=
 zX.of h (M := λ e => swappedStores [.Tuple ts k p] e env = pure none) (λ z z z => rfl) (λ z z z z => rfl) (λ z z z z z => rfl) (λ z z z z z => rfl) (λ z z z z => rfl) (λ z z z z => rfl) (λ z z z z z => rfl) (λ z z z z z => rfl) (λ z z z z => rfl) (λ z z z z => no) (λ z z z => no) (λ z z z => rfl) (λ z z z z => rfl)
theorem zfx (h : okT e = true) : okE e = true :=
 zX.of h (M := λ e => okE e = true) (λ z z z => rfl) (λ z z z z => rfl) (λ z z z z z => rfl) (λ z z z z z => rfl) (λ z z z z => rfl) (λ z z z z => rfl) (λ z z z z z => rfl) (λ z z z z z => rfl) (λ z z z z => rfl) (λ z z z z => no) (λ z z z => no) (λ z z z => rfl) (λ z z z z => rfl)
theorem zai (S : St x T fa N) (R : Rl x y a) {i j : Nat} {z1 z2 : Str} {p1 p2 : Pos} {u v : AV} {wu wv : Value} {Qc : Unit -> Shared -> Prop} {Ec} (hi : zB x.ns i z1 = true) (hj : zB x.ns j z2 = true) (hu : VR x.c a.P u wu) (hv : VR x.c a.P v wv)
  (k : ∀ m b, Rl x ⟨setL (setL y.l i u) j v, y.g, m⟩ b -> Up a b -> Qc () b.s) : wpAny x.M x.A (assignInOrder ((assignEach [.Name z1 p1, .Name z2 p2] x.env).map (·.2)) [wu, wv]) Qc Ec a.s := by
 show wpAny _ _ (do holding [wv] (assign (.Name z1 p1) x.env wu); assignInOrder [assign (.Name z2 p2) x.env] [wv]) _ _ _
 refine wBD (wpAny_holding (assign_Name (vh S R hi hu λ m b R' U => ?_)))
 show wpAny _ _ (do holding [] (assign (.Name z2 p2) x.env wv); assignInOrder [] []) _ _ _
 exact wBD (wpAny_holding (assign_Name (vh S (y := ⟨setL y.l i u, y.g, m⟩) R' hj (VR.mono U.ext _ hv) λ m2 d R2 V => wpAny_pure (k m2 d R2 (U.trans V)))))
theorem sI (S : St x T fa N) (R : Rl x y a) {i j : Nat} {z1 z2 : Str} {p1 p2 p : Pos} {k' : Nat} {u v : AV} {w : Value} {Qc : Unit -> Shared -> Prop} {Ec} (hi : zB x.ns i z1 = true) (hj : zB x.ns j z2 = true) (hw : VR x.c a.P (.tup [u, v]) w)
  (k : ∀ m b, Rl x ⟨setL (setL y.l i u) j v, y.g, m⟩ b -> Up a b -> Qc () b.s) : wpAny x.M x.A (assign (.Tuple [.Name z1 p1, .Name z2 p2] k' p) x.env w) Qc Ec a.s := by
 obtain ⟨ws, hv, r⟩ := hw
 cases ws with
 | nil => exact hv.elim
 | cons wu ws => cases ws with
  | nil => exact hv.2.elim
  | cons wv ws =>
   have e : [] = ws := hv.2.2
   subst e
   obtain ⟨t, m, o⟩ := r
   exact unpackN_ R.F R.N ⟨_, R.N.get o.1, rfl, m, rfl⟩ S.here.hh rfl rfl λ h' F' N' => zai S (a := ⟨a.P, a.to h' a.s.toks⟩) ⟨F', N', R.led, R.st, R.loc⟩ hi hj hv.1 hv.2.1 λ m b R2 U => k m b R2 (Up.trans (b := ⟨a.P, a.to h' a.s.toks⟩) ⟨Ext.refl _, rfl⟩ U)
theorem zd1 {M : Prop} {v : AV} {k : AV -> AV -> Prop} (h : asT v k) (m : ∀ a b, v = .tup [a, b] -> k a b -> M) : M := by
 cases v with
 | tup vs => cases vs with
  | nil => exact h.elim
  | cons a vs => cases vs with
   | nil => exact h.elim
   | cons b vs => cases vs with
    | nil => exact m a b rfl h
    | cons => exact h.elim
 | _ => exact h.elim
theorem lA {t : Expr} {line : Nat} {env : Env} (h : okE e = true) : swapsWithSole [t] e line env = pure false := z6 h (some t) line
theorem cB {α : Type} {M : Model} {A : Around} {t : Sem α} {Q : α -> Shared -> Prop} {E : Value -> Shared -> Prop} {s : Shared} (h : wpX false M A t Q E s) : wpAny M A t Q E s := λ Γ p hΓ => h Γ p hΓ λ e => (nomatch e)
theorem jF (S : St x T fa N) {i' j : Nat} {z1 z2 : Str} {p1 p2 tp pos : Pos} {k' : Nat} (h : uW x false C e i) (hi : zB x.ns i' z1 = true) (hj : zB x.ns j z2 = true) (hc : okT e = true) : zT x false C (.Assign [.Tuple [.Name z1 p1, .Name z2 p2] k' tp] e pos) (.assignT i' j i) := ⟨λ {y a K Kc Ec} hp R k =>
 zH (Assign_Tuple (cB (h.go hp R (λ v w g b q B => zd1 q λ u1 u2 ev q => sI S B.R hi hj (ev ▸ B.v) λ m d R2 U => k.nx _ d q R2 (B.u.trans U)) (k.xc _))) (lA (zfx hc)) (jE hc))⟩
end
noncomputable abbrev Pl.drop (P : Pl) (it : Addr) : Pl := ⟨P.news.filter (λ p => p.1 != it), P.M, P.x⟩
theorem rZ {P : Pl} {it a : Addr} {o : Obj} (h : (a, o) ∈ P.news) (n : a ≠ it) : (a, o) ∈ (P.drop it).news := List.mem_filter.mpr ⟨h, bne_iff_ne.mpr n⟩
theorem Ext.drop {Q P : Pl} {it : Addr} (E : Ext Q P) (hq : it ∉ Q.keys) : Ext Q (P.drop it) := ⟨λ a o h => ⟨rZ (E.own a o h).1 λ e => hq (e ▸ mem_keys h.1), (E.own a o h).2⟩, E.xs⟩
section
variable {x : Cx} {y : Lc} {a b : Wd}
theorem Rl.drop (R : Rl x y a) {it : Addr} {o : Obj} {h' : Heap} {t : Nat} (hm : (it, o) ∈ a.P.news) (hM : ¬ a.P.M it) (ho : noIt o = false) (hs : Heap.ExtBut it a.s.heap h') : Rl x y ⟨a.P.drop it, { a.s with heap := h', toks := t }⟩ :=
 have hN := R.N (it, o) hm
 have ne : ∀ b u, noIt u = true -> (b, u) ∈ a.P.news -> b ≠ it := λ b u hu hb e => by
  have q : u = o := key_eq (a := it) R.led.nd (e ▸ hb) hm
  rw [q, ho] at hu
  exact absurd hu Bool.false_ne_true
 have E : gn a.P (a.P.drop it) := ⟨λ b u hu h => ⟨rZ h.1 (ne b u hu h.1), h.2⟩, λ w h => h⟩
 ⟨⟨R.F.ns.at' λ o e => hs _ o (Ne.symm hN.2.1) e, λ b x e => hs _ x (λ q => by rw [q, hN.2.2] at e; cases e) (R.F.keep b x e), R.F.above⟩,
 λ p hp => have z := List.mem_filter.mp hp; ⟨hs _ _ (bne_iff_ne.mp z.2) (R.N p z.1).1, (R.N p z.1).2⟩,
 ⟨R.led.nd.sublist (List.Sublist.map _ List.filter_sublist), λ b q => (List.mem_map.mp (R.led.mem b q)).elim λ p z => List.mem_map.mpr ⟨p, List.mem_filter.mpr ⟨z.1, bne_iff_ne.mpr λ e => hM (e ▸ z.2 ▸ q)⟩, z.2⟩⟩,
 R.st.keepV E (λ b u hu h => ⟨rZ h.1 (ne b u hu h.1), h.2⟩) rfl, λ i v z e n => (R.loc i v z e n).mono E⟩
end
noncomputable abbrev zbN (b : Bs) (t : Tok) (i : Nat) : Obj := { cls := .type "bytes_iterator", data := .fields #[.bytes b.toArray t, .int i 0] }
theorem zfy (b : Bs) (t : Tok) (i : Nat) : noIt (zbN b t i) = false := (by decide +kernel : (!(kW "bytes_iterator")) = false)
theorem zaj {M : Program} {w : World} {A : Around} {E} {s : Shared} {it : Addr} {b : Bs} {t : Tok} {i : Nat} {x : UInt8} {Q : Option Value -> Shared -> Prop} (ho : s.heap.get? it = some (zbN b t i)) (hx : b[i]? = some x)
  (hQ : ∀ h', h'.get? it = some (zbN b t (i + 1)) -> Heap.SameBut it s.heap h' -> Q (some (.int (x.toNat : Int) s.toks)) { s with heap := h', toks := s.toks + 1 }) : wpAny (model M w) A (pyNext (.ref it)) Q E s := by
 have hT : s.TypeIs (.ref it) "bytes_iterator" := ⟨_, ho, rfl⟩
 unfold pyNext
 refine wBD (wpAny_attempt (wpAny_callSpecial?_slot (name := PySem.Str.ofString "__next__") hT KBw.slot_next
  (wpAny_call_entry KBw.slot_next hT KBw.entry_next ?_ (KBw.args_next _))))
 show wpAny _ _ (field (.ref it) 0 >>= _) _ _ s
 refine wBD (wpAny_field ho rfl (x := .bytes b.toArray t) rfl ?_)
 show wpAny _ _ (if (Value.bytes b.toArray t == Value.none) = true then _ else _) _ _ s
 rw [if_neg (show ¬ ((Value.bytes b.toArray t == Value.none) = true) from Bool.false_ne_true)]
 show wpAny _ _ (field (.ref it) 1 >>= _) _ _ s
 refine wBD (wpAny_field ho rfl (x := .int i 0) rfl ?_)
 refine wBD (wpAny_of_eq (a := b.toArray) rfl ?_)
 have hx' : b.toArray[i]? = some x := by simpa using hx
 simp only [Int.toNat_natCast, hx']
 refine wBD (wpAny_setField ho rfl (by simp) (wBD (wpAny_mkInt (wpAny_pure ⟨_, rfl, wpAny_pure (hQ _ ?_ (Heap.SameBut.update ..))⟩))))
 have e : Obj.mapFields (·.setIfInBounds 1 (rawInt (i + 1))) (zbN b t i) = zbN b t (i + 1) := by
  simp [Obj.mapFields, rawInt]
 rw [Heap.get?_update_self _ ho (by rw [e]; rfl), e]
inductive zkh (x : Cx) (a : Wd) (it : Addr) (bs : Bs) (u : Tok) (I : Bs -> Loc -> GS -> Prop) (n : Nat) : Shared -> Prop
 | mk (j : Nat) (y : Lc) (b : Wd) (e : n = bs.length - j) (hj : j <= bs.length) (h : I (bs.drop j) y.l y.g) (R : Rl x y b) (U : Up a b) (hm : Own b.P it (zbN bs u j)) : zkh x a it bs u I n b.s
section
variable {x : Cx} {T : Names} {fa : Nat -> Addr} {N : Nat} {C : Tab} {y : Lc} {a b : Wd} {e : Expr} {p : PX}
theorem drop_cons {α : Type} {c : α} {r l : List α} {j : Nat} (h : l.drop j = c :: r) : j < l.length /\ l[j]? = some c /\ l.drop (j + 1) = r := by
 have lt : j < l.length := Nat.lt_of_not_le λ q => by rw [List.drop_eq_nil_of_le q] at h; cases h
 rw [List.drop_eq_getElem_cons lt] at h
 injection h with h1 h2
 exact ⟨lt, (List.getElem?_eq_getElem lt).trans (congrArg some h1), h2⟩
theorem Ext.updIt {Q P : Pl} {it : Addr} {o : Obj} (E : Ext Q P) (hq : it ∉ Q.keys) : Ext Q (P.upd it o) := ⟨λ a z h => ⟨wH (λ e : a = it => hq (e ▸ mem_keys h.1)) (E.own a _ h).1, (E.own a _ h).2⟩, E.xs⟩
theorem lB (S : St x T fa N) {j : Nat} {z : Str} {zp pos : Pos} {sb : List Stmt} {mb : List MS} (h : yd x e p) (hi : zB x.ns j z = true) (hs : okE e = true) (h1 : oX x false C sb mb) : zT x false C (.For (.Name z zp) e sb [] pos) (.forBytes j p mb) := ⟨λ {y a K Kc Ec} hp R k => by
 refine zH (wpAny_For (h hp R λ q w b B => ?_) (gD hs))
 refine uM (M := λ v => VR x.c b.P v w -> (sY v (zfo (λ l g K => exL C mb l g K) j (vB v) y.l y.g K)) -> _) q (λ bs o o hv q => ?_) B.v q
 obtain ⟨u⟩ : wU bs w := hv
 obtain ⟨hz, I, i0, idone, iturn⟩ := q
 refine KBw.pyIter_bytes ?_
 have hf := B.R.fresh
 refine codeAny_forLoop (zkh x b b.s.heap.objs.size bs u I) (λ n' s' hI => ?_) bs.length (.mk 0 y ⟨b.P.push b.s.heap.objs.size (zbN bs u 0), b.to _ b.s.toks⟩ rfl (Nat.zero_le _) i0 (B.R.push hf (B.R.F.push _) (News.push B.R.F B.R.N _)) ⟨vL.push.ext, rfl⟩ ⟨.head _, λ q => hf (B.R.led.mem _ q)⟩)
 obtain ⟨jj, y2, d, e1, hj, hI, R2, U, hm⟩ := hI
 have hget := R2.N.get hm.1
 cases hd : bs.drop jj with
 | nil =>
  rw [hd] at hI
  refine KBw.next_end (b := bs.toArray) (t := u) (i := jj) S.here.hh ⟨_, hget, rfl, rfl⟩ ((List.getElem?_toArray ..).trans (List.getElem?_eq_none (List.drop_eq_nil_iff.mp hd))) λ h3 he3 => ?_
  exact wpAny_execs_nil (k.nx y2 ⟨d.P.drop _, d.to h3 d.s.toks⟩ (idone _ _ hI) (R2.drop hm.1 hm.2 (zfy _ _ _) he3) (B.u.trans ⟨U.ext.drop hf, U.to _ _⟩))
 | cons c r =>
  rw [hd] at hI
  obtain ⟨lt, hx, hr⟩ := drop_cons hd
  refine zaj hget hx λ h3 ho3 hs3 => ?_
  have U3 : Up b ⟨d.P.upd b.s.heap.objs.size (zbN bs u (jj + 1)), d.to h3 (d.s.toks + 1)⟩ := ⟨U.ext.updIt hf, U.to _ _⟩
  have hm3 : Own (d.P.upd b.s.heap.objs.size (zbN bs u (jj + 1))) b.s.heap.objs.size (zbN bs u (jj + 1)) := ⟨jd (mem_keys hm.1), hm.2⟩
  refine assign_Name (vh S (a := ⟨d.P.upd b.s.heap.objs.size (zbN bs u (jj + 1)), d.to h3 (d.s.toks + 1)⟩) (R2.iter hm.1 (zfy _ _ _) hs3 ho3) hi (v := .int (iv c)) ⟨_⟩ λ m d4 R4 U4 => ?_)
  exact cB (h1.go (iturn c r _ _ hI) R4 ⟨λ y5 d5 q R5 W => ⟨bs.length - (jj + 1), e1 ▸ Nat.sub_lt_sub_left lt (Nat.lt_succ_self jj), .mk (jj + 1) y5 d5 rfl lt (hr.symm ▸ q) R5 (U3.trans (U4.trans W)) (W.ext.own _ _ (U4.ext.own _ _ hm3))⟩,
   λ y5 d5 q R5 W => k.nx y5 d5 q R5 (B.u.trans (U3.trans (U4.trans W))), λ y5 d5 v w q R5 W r => k.rt y5 d5 v w q R5 (B.u.trans (U3.trans (U4.trans W))) r, λ m => rY S (k.xc m) (B.u.trans (U3.trans U4))⟩)⟩
end
section
variable {x : Cx} {T : Names} {fa : Nat -> Addr} {N : Nat} {n : Bool} {C : Tab} {y : Lc} {a b : Wd} {e : Expr} {p : PX} {i : IX}
theorem zd2 (S : St x T fa N) {j : Nat} {z : Str} {zp ap cp pos : Pos} (hi : zB x.ns j z = true) (hline : (ap.endLine == cp.line) = true) : zT x n C (.Expr (.Call (.Attribute (.Name z zp) "reverse" ap) [] [] cp) pos) (.rev j) := ⟨λ {y a K Kc Ec} hp R k => by
 refine zH (wpAny_Expr_any (nW hp λ d e0 q => q.elim λ vs q => ?_) (rW S) (z6 rfl _ _))
 obtain ⟨ws, m, o, hv⟩ := R.st.hp d vs q.1
 have ho := R.N.get o.1
 refine yD (args := []) rfl rfl (by decide : 0 < 20) hline (yL S R hi e0 λ w r pl => ?_)
 have ew : Value.ref d = w := r
 subst ew
 refine getMethod_builtin ⟨_, ho, rfl⟩ PySem.F.plainAttrs_list PySem.F.slot_list_reverse PySem.F.type_list_reverse (λ a e => ⟨_, Value.ref.inj e ▸ ho, rfl⟩) ?_
 refine yZ (P := λ v => True) rfl (zG (λ v e => nomatch e)) (args_nil ⟨trivial, ?_⟩)
 refine call_meets PySem.F.slot_list_reverse ⟨_, ho, rfl⟩ PySem.F.entry_list_reverse (PySem.F.args_list_reverse_1 _) (AutoSeq1.list_reverse_list_0 d ws.toArray m (xP (by rw [List.size_toArray, hv.len]; exact q.2.1))) ⟨ho, ?_⟩
 have e : Obj.mapSeq (λ x => x.reverse) (listOf ws.toArray m) = listOf ws.reverse.toArray m := mapSeq_reverse ws.toArray m
 have ho3 : (a.s.heap.update d (Obj.mapSeq λ x => x.reverse)).get? d = some (listOf ws.reverse.toArray m) := by rw [Heap.get?_update_self _ ho (by rw [e]; rfl), e]
 exact k.nx _ ⟨a.P.upd d _, a.to _ a.s.toks⟩ q.2.2 (R.listTo (t := a.s.toks) q.1 o hv.rev (Heap.SameBut.update ..) ho3) ⟨Ext.upd o.2, rfl⟩⟩
end
inductive zfz (x : Cx) (y : Lc) (a : Wd) (Ec : Value -> Shared -> Prop) : Value -> Shared -> Prop
 | mk (msg : Bs) (t : Tok) (b : Wd) (R : Rl x y b) (U : Up a b) (hl : msg.length <= 1000) (h : ∀ ev h' tk', Rsd x.c x.f y.m msg ev h' -> Ec ev (a.to h' tk')) : zfz x y a Ec (.bytes msg.toArray t) b.s
noncomputable def wD (c : Cfg) : Prop := ∀ {f : Frm} {y : Lc} {a : Wd} {z : Str} {np cpos pos : Pos} {e : Expr} {Kc : Flow -> Shared -> Prop} {Ec : Value -> Shared -> Prop}, Here c f f.A 0 -> zy f.scope.names z "LuaSyntaxError" = true -> okE e = true -> Rl ⟨c, f⟩ y a ->
 wpAny (model c.prog c.w) f.A (eval e f.env) (zfz ⟨c, f⟩ y a Ec) Ec a.s -> wpAny (model c.prog c.w) f.A (exec (.Raise (some (.Call (.Name z np) [e] [] cpos)) none pos) f.env) Kc Ec a.s
section
variable {x : Cx} {T : Names} {fa : Nat -> Addr} {N : Nat} {n : Bool} {C : Tab} {y : Lc} {a b : Wd} {e : Expr} {p : PX} {i : IX}
theorem zbO {pos : Pos} : uW x n C (.List [] pos) .newl := ⟨λ {y a Q X Qc Ec} hp R k _ => zH (List_ (args_nil (newList_N R.F R.N (λ h' F' N' =>
 k (.list a.s.heap.objs.size) (.ref a.s.heap.objs.size) _ ⟨a.P.pushM a.s.heap.objs.size (listOf ([] : List Value).toArray 0), a.to h' a.s.toks⟩ (hp _ (R.noList R.fresh)) ⟨R.pushL (vs := []) (ws := []) R.fresh trivial F' N', ⟨(vL.pushM R.fresh).ext, rfl⟩, rfl⟩) (xP (Nat.zero_le _)))))⟩
theorem zak (S : St x T fa N) (hR : wD x.c) {z : Str} {np cpos pos : Pos} (h : yd x e p) (hg : zy x.ns z "LuaSyntaxError" = true) (hs : okE e = true) : zT x n C (.Raise (some (.Call (.Name z np) [e] [] cpos)) none pos) (.raise p) := ⟨λ {y a K Kc Ec} hp R k => zH (hR (S.here.less (Nat.zero_le _)) hg hs R (h hp R λ q w b B => by
 have hv := B.v
 revert hv q
 cases val p y.l y.g with
 | bytes m =>
  intro q hv
  obtain ⟨t⟩ : wU m w := hv
  exact .mk m t b B.R B.u q.1 λ ev h' tk' r => k.xc y.m h' tk' ev m q.2 r
 | _ => exact λ q => q.elim))⟩
end
section
variable {n : Bool} {M : Model} {A : Around} {E : Value -> Shared -> Prop} {s : Shared} {env : Env}
theorem zd3 {α : Type} {vs : List Value} {m : Sem α} {Q : α -> Shared -> Prop} (h : wpX n M A m Q E s) : wpX n M A (m.keep vs) Q E s := λ Γ p hΓ hn => by rw [Sem.wp_keep]; exact h Γ p hΓ hn
theorem zal {f : Value} {es : List Expr} {pos : Pos} {Q : List Value -> Shared -> Prop} (hst : es.all okE = true) (h : wpX n M A (spliced (backTo pos (starEach es env))) Q E s) :
  wpX n M A (evalArgs f true (backTo pos (starEach es env)) []) (λ a s' => a.kw = [] /\ Q a.pos s') E s := by
 cases es with
 | nil =>
  intro Γ p hΓ hn
  have z : Q [] s := h Γ p hΓ hn
  exact PyProof.Rows.evalArgs_none (f := f) (Q := λ a s' => a.kw = [] /\ Q a.pos s') ⟨rfl, z⟩ Γ p hΓ
 | cons e es =>
  refine a2 (List.all_cons ▸ hst) λ h1 y => ?_
  rw [wX h1] at h ⊢
  unfold evalArgs
  show wpX n M A (spliced ((false, eval e env) :: backTo pos (starEach es env)) >>= _) _ E s
  refine zx (zP h (λ vs s' h' => yu ?_) λ y y x => x)
  exact zc (wpAny_pure (zc (wpAny_pure (zA ⟨rfl, h'⟩))))
theorem qO {P : Heap -> Prop} {f : Value} {first : List Value} {es : List Expr} {pos : Pos} {Q : Value -> Shared -> Prop} (hst : es.all okE = true)
  (hk : ∀ h, P h -> ∃ k, (k = Keeper.frame \/ k = Keeper.machine \/ k = Keeper.boundFrame) /\ Looks M h (keeperOf f) k)
  (h : wpX n M A (spliced (backTo pos (starEach es env))) (λ vs s₁ => P s₁.heap /\ wpX n M A (call f (first ++ vs)) Q E s₁) E s) :
  wpX n M A (callWith pos f first (backTo pos (starEach es env)) []) Q E s := by
 unfold callWith
 refine zx (yu (zP (zal hst h) (λ a s₁ h₁ => zc (wpAny_standAt ?_)) λ z z x => x))
 obtain ⟨e0, h1, h2⟩ := h₁
 obtain ⟨k, hk', L⟩ := hk _ h1
 have hplain : ((backTo pos (starEach es env)).any (·.1) || ([] : List (Option Str × Sem Value)).any (·.1.isNone)) = false := by rw [dM hst]; rfl
 simp only [hplain, e0]
 refine zc (L.here ?_)
 have tail : ∀ {t : Sem Value}, wpX n M A t Q E s₁ -> wpX n M A (t >>= λ r => holding [r] point >>= λ z => pure r) Q E s₁ :=
  λ ht => zx (zP ht (λ r s₂ hr => zc (wpAny_holding (wpAny_point (zA hr)))) λ z z x => x)
 have marked (mk : Value) : wpX n M A (callMarked mk f (first ++ a.pos) []) Q E s₁ := by unfold callMarked; exact zd3 h2
 rcases hk' with rfl | rfl | rfl <;> dsimp only <;> first | exact tail h2 | (split <;> first | exact tail h2 | exact tail (marked _))
theorem jG {x : Sem Value} {rest : List (Bool × Sem Value)} {Q : List Value -> Shared -> Prop}
  (h : wpX n M A x (λ v s₁ => wpX n M A (spliced rest) (λ vs s₂ => Q (v :: vs) s₂) E s₁) E s) : wpX n M A (spliced ((false, x) :: rest)) Q E s := by
 rw [spliced]
 refine zx (zP h (λ v s₁ h₁ => ?_) λ z z x => x)
 simp only [Bool.false_eq_true, if_false]
 exact zc (wpAny_pure (zx (yu (zP h₁ (λ vs s₂ h₂ => zA h₂) λ z z x => x))))
theorem zfA {x y : Expr} {pos : Pos} {Q : List Value -> Shared -> Prop} (hs : okE x = true) (hs' : okE y = true) (h : wpX n M A (eval x env) (λ w s₁ => wpX n M A (eval y env) (λ v s₂ => Q [w, v] s₂) E s₁) E s) :
  wpX n M A (spliced (backTo pos (starEach [x, y] env))) Q E s := by
 rw [wX hs]
 refine jG (zP h (λ v s₁ h₁ => ?_) λ u u z => z)
 rw [wX hs']
 exact jG (zP h₁ (λ v2 s₂ h₂ => zA h₂) λ u u z => z)
theorem nY {prog : Program} {w : World} {o : Expr} {name : Str} {apos pos : Pos} {args : List Expr} {Q : Value -> Shared -> Prop}
  (hb : okB o = true) (hst : args.all okE = true) (hln : args.length < 20) (hline : (apos.endLine == pos.line) = true)
  (h : wpAny (model prog w) A (eval o env) (λ ov s₁ => ∀ pl, wpAny (model prog w) A (getMethod ov name pl) (λ fx s₂ => wpX n (model prog w) A (callWith pos fx.1 fx.2 (backTo pos (starEach args env)) []) Q E s₂) E s₁) E s) :
  wpX n (model prog w) A (eval (.Call (.Attribute o name apos) args [] pos) env) Q E s := by
 rw [arm_eval_Call, sy hb]
 have hform : methodCallForm (args.length + ([] : List Keyword).length) (backTo pos (starEach args env)) (backToKw pos (keywordEach [] env)) = true := by
  show ((backTo pos (starEach args env)).all (λ x => !x.1) && (backToKw pos (keywordEach [] env)).all (λ x => x.1.isSome) && decide (args.length + 0 + 0 < 30)) = true
  rw [dN hst, decide_eq_true (show args.length + 0 + 0 < 30 from Nat.lt_trans hln (by decide))]
  rfl
 have hpos : methodCallPos true o env apos pos = pure pos := by unfold methodCallPos; rw [hline]; rfl
 refine zc (wpAny_mono h (λ ov s₁ h₁ => zc (wpAny_standAt ?_)) λ z z e => e)
 unfold methodCall
 rw [hform, hpos]
 exact zc (wpAny_holding (wpAny_mono (h₁ _) (λ fx s₂ h₂ => zc (wpAny_pure h₂)) λ z z e => e))
end
section
variable {prog : Program} {w : World} {A : Around} {E : Value -> Shared -> Prop} {R : Result -> Shared -> Prop} {s : Shared} {env : Env}
theorem wZ {id : String} {args : Args} {b : Builtin} (hd : nd (.builtin id args) = true) (hb : entryFor table id = some b)
  (h : wpX true (model prog w) (A.under (.builtin id args)) (b args)
   (λ fin s' => match fin with | .done f => R (.ok f) s' | .again c' => c'.quiet = true /\ yS true (model prog w) A c' R s') (λ e s' => R (.error e) s') s) :
  yS true (model prog w) A (.builtin id args) R s := by
 refine zR hd ?_
 show wpX true _ _ (match entryFor table id with | some b => b args | none => unsupported ((withoutEnding? id "#data").getD id)) _ _ s
 rw [hb]; exact h
theorem qP {id : String} {args : Args} {b : Builtin} (hd : nd (.builtin id args) = true) (hq : plainId id = true) (hb : entryFor table id = some b)
  (h : wpAny (model prog w) A.in1 (checkBuiltinCall id args) (λ z s₁ => wpX true (model prog w) A.in1 (b args)
   (λ fin s' => match fin with | .done f => R (.ok f) s' | .again c' => c'.quiet = true /\ yS true (model prog w) A c' R s') (λ e s' => R (.error e) s') s₁)
   (λ e s' => R (.error e) s') s) : yS true (model prog w) A (.call (.builtin id) args) R s := by
 refine zR rfl ?_
 show wpX true _ A.in1 (do checkBuiltinCall id args; again (.builtin id args)) _ _ s
 refine zc (wpAny_mono h (λ z s₁ h₁ => zA ⟨plainId_quiet hq args, wZ hd hb ?_⟩) λ z z e => e)
 rw [Around.under_plainId hq args]
 exact h₁
theorem zfB {f : Code × Pos -> Bool} (hf : ∀ c p, c.isGuard = false -> nd c = true -> f (c, p) = false) : ∀ {l : List (Code × Pos)}, (∀ x ∈ l, x.1.isGuard = false /\ nd x.1 = true) -> l.any f = false
 | [], _ => rfl
 | (c, p) :: l, h => by
  rw [List.any_cons, hf c p (h _ (.head _)).1 (h _ (.head _)).2, zfB hf λ x hx => h x (.tail _ hx)]; rfl
theorem nZ {M : Model} {a : Addr} {Q : Bool -> Shared -> Prop} (hg : A.guards = some []) (h : Q false s) : wpX true M A (Bytes.exported (.ref a)) Q E s := by
 intro Γ p hΓ hn
 have hn := hn rfl
 have hb : guardsOf ((Γ.code, p) :: Γ.below) = [] := by rw [guardsOf_cons]; exact hΓ.2.2.2.1 [] hg
 have all : ∀ x ∈ ((Γ.code, p) :: Γ.below), x.1.isGuard = false /\ nd x.1 = true := by
  intro x hx
  refine ⟨?_, ?_⟩
  ·cases q : x.1.isGuard with
   | false => rfl
   | true =>
    have : x.1 ∈ guardsOf ((Γ.code, p) :: Γ.below) := List.mem_filter.mpr ⟨List.mem_map_of_mem hx, q⟩
    rw [hb] at this; cases this
  ·rcases mCM hx with rfl | hx
   ·exact hn.1
   ·exact hn.2 x hx
 unfold Bytes.exported
 show Q (List.any ((Γ.code, p) :: Γ.below) _) s
 refine Eq.mpr (congrArg (λ b => Q b s) (zfB (λ c p hc hnd => ?_) all)) h
 cases c with
 | builtin id args =>
  have no : ∀ {s : String}, guardIds.contains s = true -> ¬ id = s := λ g e => by
   have hc : guardIds.contains id = false := hc
   rw [e, g] at hc
   cases hc
  delta PySem.Builtin.Bytes.exported.match_1
  refine @Eq.trans Bool (dite (id = "bytearray.__contains__") _ _) _ false (dif_neg (no (s := "bytearray.__contains__") (by decide +kernel))) ?_
  refine @Eq.trans Bool (dite (id = "bytearray.__mod__") _ _) _ false (dif_neg (no (s := "bytearray.__mod__") (by decide +kernel))) ?_
  refine @Eq.trans Bool (dite (id = "bytearray.__rmod__") _ _) _ false (dif_neg (no (s := "bytearray.__rmod__") (by decide +kernel))) ?_
  refine @Eq.trans Bool (dite (id = "_struct.pack_into.held") _ _) _ false (dif_neg (no (s := "_struct.pack_into.held") (by decide +kernel))) ?_
  refine @Eq.trans Bool (dite (id = "bytearray.find.held") _ _) _ false (dif_neg (no (s := "bytearray.find.held") (by decide +kernel))) ?_
  obtain ⟨pos, kw⟩ := args
  cases pos with
  | nil => rfl
  | cons v l =>
   have hnd : (!Bytes.decodersThatHold.contains id) = true := hnd
   show (Bytes.sameRef v (.ref a) && Bytes.decodersThatHold.contains id) = false
   rw [show Bytes.decodersThatHold.contains id = false from (Bool.not_eq_true' _).mp hnd, Bool.and_false]
 | _ => rfl
theorem zjj {id : String} {args : Args} (h : Bytes.decodersThatHold.contains id = false) : nd (.builtin id args) = true := by
 unfold nd; dsimp only; rw [h]; rfl
theorem zd4 {M : Model} {a : Addr} {b : Bs} {Q : Unit -> Shared -> Prop} (hg : A.guards = some []) (hb : s.heap.get? a = some (baO b)) (h : Q () s) : wpX true M A (Bytes.checkResize (.ref a)) Q E s := by
 unfold Bytes.checkResize
 refine zx ?_
 unfold orM
 refine zx (nZ hg ?_)
 show wpX true M A (Bytes.exportsOf (.ref a) >>= λ n => pure (decide (n > 0))) _ E s
 refine zc ?_
 show wpAny M A (load a >>= _) _ E s
 refine wBD (wpAny_load hb (wpAny_pure (zA ?_)))
 exact zA h
theorem zfC (b : Bs) (x : UInt8) : Obj.mapBytearray (·.push x) (baO b) = baO (b ++ [x]) := by
 simp [Obj.mapBytearray]
theorem gZ {a : Addr} {b : Bs} {i : Int} {t : Tok} {Q : Value -> Shared -> Prop} (hg : A.guards = some []) (hb : s.heap.get? a = some (baO b)) (h0 : 0 <= i) (h1 : i < 256) (hz : b.length < 1000000)
  (h : ∀ h', Heap.SameBut a s.heap h' -> h'.get? a = some (baO (b ++ [i.toNat.toUInt8])) -> Q .none { s with heap := h' }) : wpX true (model prog w) A (call (.builtin "bytearray.append") [.ref a, .int i t]) Q E s := by
 refine xg (qP (zjj (by decide +kernel)) wC.plain qI (wC.check _ _ _ _ _ _ _ _ (zO hb) (oU _ _) ?_))
 unfold Builtin.«bytearray.append»
 refine zc (wpAny_of_eq (a := (Value.ref a, Value.int i t)) rfl ?_)
 show wpX true _ _ (Bytes.byteValue (.int i t) >>= λ c => Bytes.checkResize (.ref a) >>= λ z => Bytes.write (.ref a) (·.push c) >>= λ z => ret .none) _ _ _
 refine zc ?_
 unfold Bytes.byteValue
 refine wBD (wpAny_of_eq (rfl : asIndex (.int i t) = pure i) ?_)
 refine bm_if_false (by rw [decide_eq_false (Int.not_lt.mpr h0), decide_eq_false (Int.not_le.mpr h1)]; rfl) ?_
 refine wpAny_pure ?_
 refine zx (zd4 hg hb ?_)
 refine zc ?_
 show wpAny _ _ (updateBytearray a (·.push i.toNat.toUInt8)) _ _ _
 unfold updateBytearray
 refine wBD (wpAny_load hb ?_)
 show wpAny _ _ (update a (Obj.mapBytearray (·.push i.toNat.toUInt8)) >>= λ z => lookBehind a) _ _ _
 refine wBD (wpAny_update hb ?_)
 have hb2 : (s.heap.update a (Obj.mapBytearray (·.push i.toNat.toUInt8))).get? a = some (baO (b ++ [i.toNat.toUInt8])) := by
  rw [Heap.get?_update_self _ hb (by rw [zfC]; rfl), zfC]
 refine wpAny_lookBehind hb2 ?_ ?_
 ·show (if (b ++ [i.toNat.toUInt8]).toArray.size > sizeLine then some "bytearray:memory" else none) = none
  rw [if_neg]
  rw [List.size_toArray, List.length_append, sizeLine_eq]
  exact Nat.not_lt.mpr (nLT (Nat.succ_le_of_lt hz) (by decide))
 ·exact zA (h _ (Heap.SameBut.update ..) hb2)
end
section
variable {prog : Program} {w : World} {A : Around} {E : Value -> Shared -> Prop} {R : Result -> Shared -> Prop} {s : Shared} {env : Env}
theorem zM {α : Type} {M : Model} {c : Bool} {a b : Sem α} {Q : α -> Shared -> Prop} (hc : c = false) (h : wpX true M A b Q E s) : wpX true M A (if c = true then a else b) Q E s := by
 subst hc
 exact h
theorem zd5 : Bytes.bindOptional "bytearray.__init__" "bytearray" ["source", "encoding", "errors"] [] [] = pure [none, none, none] := by kernel_rfl
theorem zbP : Obj.mapBytearray (λ z => #[]) (baO []) = baO [] := by simp [Obj.mapBytearray]
theorem g8 {Q : Value -> Shared -> Prop} (h : Q (.ref s.heap.objs.size) { s with heap := s.heap.push (baO []) }) : codeAny (model prog w) A (.call (.builtin "bytearray.__new__") ⟨[.type "bytearray"], []⟩) (wants Q E) s := by
 refine codeAny_of_tree ?_
 show wpAny _ A.in1 (do checkBuiltinCall "bytearray.__new__" ⟨[.type "bytearray"], []⟩; again (.builtin "bytearray.__new__" ⟨[.type "bytearray"], []⟩)) _ _ s
 refine wBD (wpAny_of_eq aX (wpAny_pure ⟨plainId_quiet rm _, codeAny_builtin_stack jq rfl λ p st => ?_⟩))
 rw [Around.under_plainId rm _]
 have hsub := wY
 have hown := jt
 obtain ⟨hp, g, d, tk, os⟩ := s
 simp only [hown]
 wp_walk
 exact h
theorem zd6 {Q : Value -> Shared -> Prop} (hg : A.guards = some []) (h : ∀ h', (∀ b o, s.heap.get? b = some o -> h'.get? b = some o) -> h'.get? s.heap.objs.size = some (baO []) -> Q (.ref s.heap.objs.size) { s with heap := h' }) :
  wpX true (model prog w) A (call (.type "bytearray") []) Q E s := by
 refine xg (zR rfl ?_)
 show wpX true _ _ (again (.builtin "type.__call__" ⟨[.type "bytearray"], []⟩)) _ _ s
 refine zA ⟨Code.quiet_builtin _ (by decide +kernel), wZ (zjj (by decide +kernel)) F.entry_type_call ?_⟩
 rw [Around.under_plain (weight_type_call_type "bytearray" [] []) rfl]
 unfold Builtin.«type.__call__»
 refine zM rfl ?_
 dsimp only
 refine zM jo.canCreate ?_
 refine zc (wpAny_of_eq gK ?_)
 refine zc (wpAny_of_eq zbA ?_)
 refine zM rfl ?_
 refine zc (wpAny_of_eq jo.made ?_)
 dsimp only
 refine zc (wpAny_pure ?_)
 refine zc (wpAny_holding (wpAny_call (codeAny_mono (g8 (Q := λ v s' => v = .ref s.heap.objs.size /\ s' = { s with heap := s.heap.push (baO []) }) (E := λ z z => False) ⟨rfl, rfl⟩) λ r s' hr => ?_)))
 cases r with
 | error e => exact hr.elim
 | ok fl =>
  cases fl with
  | ret v =>
   obtain ⟨rfl, rfl⟩ := hr
   have hb : (s.heap.push (baO [])).get? s.heap.objs.size = some (baO []) := Heap.get?_push_size _ rfl
   have hT := zO (s := { s with heap := s.heap.push (baO []) }) hb
   dsimp only
   refine zc (wpAny_isInstance hT wY ?_)
   refine zM rfl ?_
   refine zx (yu ?_)
   unfold callSpecial?
   refine zc (wpAny_specialOf hT yO.lookup ?_)
   dsimp only
   refine yu ?_
   refine zc (wpAny_of_eq (yO.bind _) ?_)
   dsimp only
   refine zx (xg (qP (zjj (by decide +kernel)) yO.plain lg (yO.check _ _ _ _ _ _ _ _ hT (jr _) ?_)))
   unfold Builtin.«bytearray.__init__»
   dsimp only [List.nil_append, List.append_nil, List.cons_append]
   refine zc (zbB hb ?_)
   refine zM rfl ?_
   refine zc (wpAny_of_eq zd5 ?_)
   dsimp only
   refine zc (wpAny_of_eq (a := ()) rfl ?_)
   refine zc (wpAny_of_eq (a := ()) rfl ?_)
   refine zx ?_
   unfold orM
   refine zx (nZ hg ?_)
   show wpX true _ _ (Bytes.exportsOf (.ref s.heap.objs.size) >>= λ n => pure (decide (n > 0))) _ _ _
   refine zc ?_
   show wpAny _ _ (load s.heap.objs.size >>= _) _ _ _
   refine wBD (wpAny_load hb (wpAny_pure (zA ?_)))
   refine zM rfl ?_
   refine zc ?_
   show wpAny _ _ (updateBytearray s.heap.objs.size (λ z => #[])) _ _ _
   unfold updateBytearray
   refine wBD (wpAny_load hb ?_)
   show wpAny _ _ (update s.heap.objs.size (Obj.mapBytearray (λ z => #[])) >>= λ z => lookBehind s.heap.objs.size) _ _ _
   refine wBD (wpAny_update hb ?_)
   have hb2 : ((s.heap.push (baO [])).update s.heap.objs.size (Obj.mapBytearray (λ z => #[]))).get? s.heap.objs.size = some (baO []) := by
    rw [Heap.get?_update_self _ hb (by rw [zbP]; rfl), zbP]
   refine wpAny_lookBehind hb2 rfl ?_
   refine zc (wpAny_of_eq (a := ()) rfl ?_)
   refine zA ?_
   have hkeep : ∀ b o, s.heap.get? b = some o -> ((s.heap.push (baO [])).update s.heap.objs.size (Obj.mapBytearray (λ z => #[]))).get? b = some o := λ b o e =>
    (Heap.get?_update_other _ _ (Ne.symm (Nat.ne_of_lt (Heap.lt_size e)))).trans (Heap.get?_push_of_some _ e)
   refine zA ?_
   dsimp only
   refine zM rfl ?_
   exact zA (h _ hkeep hb2)
  | _ => exact hr.elim
end
theorem oY : bootBuiltins "bytearray" = some (.type "bytearray") := by decide +kernel
theorem zd7 {v : AV} {fs : List AV} : ∀ {i : Nat}, yj fs i = some v -> pZ fs i v = some fs := by
 induction fs with
 | nil => exact λ e => (nomatch e)
 | cons u fs ih =>
  intro i e
  cases i with
  | zero => exact congrArg (λ z => some (z :: fs)) (sIJ e).symm
  | succ i => exact congrArg (Option.map (u :: ·)) (ih (i := i) e)
section
variable {x : Cx} {T : Names} {fa : Nat -> Addr} {N : Nat} {n : Bool} {C : Tab} {y : Lc} {a b : Wd} {e : Expr} {p : PX} {i i2 : IX}
theorem FR.rebuf {c : Cfg} {P P' : Pl} {u b' : Addr} {q : AV} {w : Value} (E : Ext P P') (r : FR c P u q w) (h : q ≠ .buf) : FR c P' b' q w := r.elim (λ z => (h z.1).elim) λ r => .inr (VR.mono E q r)
theorem zbQ (S : St x T fa N) (R : Rl x y a) {wx : Value} {fs fs' : List AV} {b' : Addr} {bf : Bs} {Qc : Unit -> Shared -> Prop} {Ec} (hx : oh a.P wx) (hl : y.g.lx = some fs) (hq : pZ fs 9 .buf = some fs') (hb : Mut a.P b' (baO bf))
  (k : ∀ b, Rl x ⟨y.l, { y.g with lx := some fs', buf := bf }, y.m⟩ b -> Up a b -> Qc () b.s) : wpAny x.M x.A (setAttr wx (zf 9) (.ref b')) Qc Ec a.s := by
 obtain ⟨z, d, u, es, m, e1, h⟩ := nM R hx hl
 subst e1
 refine zfv S R (b' := b') (bf := bf) (v := .buf) h hl hq (by decide) (λ P' E => .inl ⟨rfl, rfl⟩) (λ P' E j q w n e r => FR.rebuf E r λ z => n (h.only j (z ▸ e))) (λ P' hm t => ⟨zfu hq, hm _ hb (by decide +kernel : ¬ Value.type "bytearray" = Value.type "dict")⟩) (λ j e => ?_) k
 by_cases q : j = 9
 ·exact q
 ·exact h.only j ((zbK hq q).symm.trans e)
theorem Rl.pushB (R : Rl x y a) {o : Obj} {d : Addr} {h' : Heap} {t : Nat} (hf : d ∉ a.P.keys) (F : Fr x.f.h₀ x.f.L h' y.m) (N : News x.f.h₀ x.f.L h' ((d, o) :: a.P.news)) : Rl x y ⟨a.P.pushM d o, a.to h' t⟩ := R.move (vL.pushM hf).ext F N (R.led.pushM hf) (R.st.grow (vL.pushM hf))
theorem zam (R : Rl x y a) {o : Obj} {h' : Heap} (hk : ∀ b o, a.s.heap.get? b = some o -> h'.get? b = some o) (ho : h'.get? a.s.heap.objs.size = some o) : News x.f.h₀ x.f.L h' ((a.s.heap.objs.size, o) :: a.P.news) := λ p hp => by
 rcases mCM hp with e | hp
 ·subst e
  refine ⟨ho, λ e => absurd R.F.ns.lt (by rw [<- show a.s.heap.objs.size = x.f.L from e]; exact Nat.lt_irrefl _), ?_⟩
  cases q : x.f.h₀.get? a.s.heap.objs.size with
  | none => rfl
  | some o => exact absurd (Heap.lt_size (R.F.keep _ _ q)) (Nat.lt_irrefl _)
 ·exact ⟨hk _ _ (R.N p hp).1, (R.N p hp).2⟩
theorem fj (S : St x T fa N) (hG : x.A.guards = some []) {z z2 : Str} {zp xp np cp pos : Pos} (hl : zB x.ns 0 z = true) (hg : zy x.ns z2 "bytearray" = true) : zT x true C (.Assign [.Attribute (.Name z zp) (zf 9) xp] (.Call (.Name z2 np) [] [] cp) pos) .bufNew := ⟨λ {y a K Kc Ec} hp R k => by
 rw [plainObj_exec_Assign_Attribute (.Name z zp) (zf 9) xp _ pos (z6 rfl _ _)]
 refine zc (wpAny_standAt (zx (vQ hp λ e1 q => qN q λ fs fs' hl1 hq q => yH hg λ g1 g2 g3 => ?_)))
 show wpX true _ _ (do callWith cp (<- eval (.Name z2 np) x.env) [] (backTo cp (starEach [] x.env)) []) _ _ _
 rw [g1]
 refine zc (name_B R.F S.here.kin (topRead_of S.here.top) (S.fx.blt "bytearray" (by decide)) oY (by decide) ?_ S.here.kind (g1 ▸ g3) (g1 ▸ g2))
 refine qO (P := λ w => True) rfl (zG (λ w e => nomatch e)) (zH (args_nil ⟨trivial, zd6 hG λ h' hkeep hb => zH ?_⟩))
 have R2 : Rl x y ⟨a.P.pushM a.s.heap.objs.size (baO []), a.to h' a.s.toks⟩ := R.pushB R.fresh (R.F.keeps hkeep) (zam R hkeep hb)
 rw [assign_Attribute]
 refine wBD (wBD (wpAny_holding (yL S R2 hl e1 λ w2 r => wBD (wpAny_standAt (wBD (wpAny_holding ?_))))))
 exact zbQ S R2 r hl1 hq ⟨.head _, .inl rfl⟩ λ d R3 U => wpAny_release (wpAny_pure (k.nx ⟨y.l, _, y.m⟩ d q R3 (Up.trans (b := ⟨a.P.pushM a.s.heap.objs.size (baO []), a.to h' a.s.toks⟩) ⟨(vL.pushM R.fresh).ext, rfl⟩ U)))⟩
theorem jH (S : St x T fa N) (R : Rl x y a) {Qc : Value -> Shared -> Prop} {Ec} (h : nD y.g = true) (hl : zQ y.l 0 = some .lex) (he : uK x.ns e = true) (k : ∀ fs z d u es i t, y.g.lx = some fs -> zhL x.c a.P y.g.buf fs z d u es i -> 9 < fs.length -> Qc (.ref u) { a.s with toks := t }) : wpAny x.M x.A (eval e x.env) Qc Ec a.s :=
 zJ.of (M := λ e => wpAny x.M x.A (eval e x.env) Qc Ec a.s) he λ o nm ap h0 => a2 h0 λ h1 h2 => zj.of (M := λ o => wpAny x.M x.A (eval (.Attribute o nm ap) x.env) Qc Ec a.s) h2 λ z zp h2 => qK h λ fs hx h9 => by
  rw [eq_of_beq h1]
  refine Attribute_any_ (yL S R h2 hl λ w r => ?_) (by rw [arm_eval_Attribute, sy rfl])
  obtain ⟨za, d, u, es, i, e1, hd⟩ := nM R r hx
  subst e1
  exact gH S R hd (hd.buf h9).1 λ w r => (show w = .ref u from r.elim (λ q => q.2) λ q => q.elim) ▸ ⟨rfl, k fs za d u es i _ hx hd h9⟩
theorem zgE {ns : NS} (h : uK ns e = true) : okB e = true := zJ.of (M := λ e => okB e = true) h λ z z z z => rfl
theorem Rl.bufTo (R : Rl x y a) {fs : List AV} {z d u : Addr} {es : List DictEntry} {i : Nat} {bf : Bs} {h' : Heap} {t : Nat} (hl : y.g.lx = some fs) (h : zhL x.c a.P y.g.buf fs z d u es i) (h9 : 9 < fs.length) (hs : Heap.SameBut u a.s.heap h') (ho : h'.get? u = some (baO bf)) :
  Rl x ⟨y.l, { y.g with buf := bf }, y.m⟩ ⟨a.P.upd u (baO bf), a.to h' t⟩ := by
 have hb := (h.buf h9).2
 have E : Ext a.P (a.P.upd u (baO bf)) := Ext.upd hb.2
 have hN := R.N _ hb.1
 have hS := R.st.setX (bf := bf) E (λ l ws n q => q.upd (q.ne R.led hb (by decide +kernel : ¬ Value.type "list" = Value.type "bytearray"))) ⟨z, d, u, es, i, h.px, E.own _ _ h.ox, h.od.upd (h.od.ne R.led hb (by decide +kernel : ¬ Value.type "dict" = Value.type "bytearray")), h.kv.mono λ w w => FR.mono E, λ q => ⟨(h.buf q).1, hb.set⟩, h.only⟩
 rw [<- hl] at hS
 exact R.move E (R.F.change hs hN.2.1 hN.2.2) (mR R.N R.led.nd hb.1 hs ho) R.led.upd hS
theorem mj {M : AV -> Prop} {v : AV} {Q : Prop} (h : zaX v Q) (k : ∀ i, 0 <= i -> i < 256 -> Q -> M (.int i)) : M v := by
 cases v with
 | int i => exact k i h.1.1 h.1.2 h.2
 | _ => exact h.elim
theorem zgF {v : AV} {Q : Prop} (h : zaX v Q) : Q := mj (M := λ z => Q) h λ z z z q => q
theorem fu (S : St x T fa N) (hG : x.A.guards = some []) {eb : Expr} {ap cp pos : Pos} (he : uK x.ns eb = true) (h : zhO x.ns p e = true) (hs : okE e = true) (hline : (ap.endLine == cp.line) = true) : zT x true C (.Expr (.Call (.Attribute eb "append" ap) [e] [] cp) pos) (.bufApp p) := ⟨λ {y a K Kc Ec} hp R k => by
 rw [exec_Expr x.env _ pos (rW S) (z6 rfl _ _)]
 refine zc (wpAny_standAt (zx (vR hp λ h1 h2 h3 q => nY (zgE he) (yC hs) (by decide : 1 < 20) hline (jH S R h1 h2 he λ fs z d u es i t hl hd h9 pl => ?_))))
 have hb := R.N.get (hd.buf h9).2.1
 refine getMethod_builtin (s := { a.s with toks := t }) (zO hb) lq wC oR (λ a e => ⟨_, Value.ref.inj e ▸ hb, rfl⟩) ?_
 refine qO (P := λ o => True) (yC hs) (zG (λ o e => nomatch e)) (zH (args1 hs ((zjJ S h).go (a := ⟨a.P, { a.s with toks := t }⟩) q R.tk λ q w t2 r => ⟨trivial, ?_⟩)))
 refine mj (M := λ v => VR x.c a.P v w -> (y.g.buf.length < 1000000 /\ K (.nx y.l { y.g with buf := y.g.buf ++ [xH v] })) -> _) q (λ i h0 h1 o r q2 => ?_) r (zgF q)
 obtain ⟨t3⟩ : xX i w := r
 exact gZ (s := { a.s with toks := t2 }) hG hb h0 h1 q2.1 λ h' hs' hb' => zH (wpAny_dropValue (k.nx ⟨y.l, _, y.m⟩ ⟨a.P.upd u _, a.to h' t2⟩ q2.2 (R.bufTo hl hd h9 hs' hb') ⟨Ext.upd (hd.buf h9).2.2, rfl⟩))⟩
end
end
section
open PyProof.Rows
noncomputable def uZ : List AV := zm.map .bytes
noncomputable def ziu : List AV := zfj.map .bytes
noncomputable def ux : List MS := [
 .ret (.pure (.and [.isi (.loc 0) 1, .not (.isi (.loc 0) 2)]))]
noncomputable def body_wrap : List MS := [
 .assign 2 (.pure (.bin .BitAnd (.loc 0) (.bin .Sub (.bin .LShift (.const (.int 1)) (.loc 1)) (.const (.int 1))))),
 .ifs (.pure (.cmp (.loc 2) [.GtE] [.bin .LShift (.const (.int 1)) (.bin .Sub (.loc 1) (.const (.int 1)))])) [.ret (.pure (.bin .Sub (.loc 2) (.bin .LShift (.const (.int 1)) (.loc 1))))] [],
 .ret (.pure (.loc 2))]
noncomputable def yV : List MS := [
 .ret (.pure (.cmp (.loc 0) [.In] [.glob "BLANKS" (.bytes [32, 9, 10, 11, 12, 13])]))]
noncomputable def u0 : List MS := [
 .ifs (.pure (.cmp (.const (.int 48)) [.LtE, .LtE] [.loc 0, .const (.int 57)])) [.ret (.pure (.bin .Sub (.loc 0) (.const (.int 48))))] [],
 .ifs (.pure (.cmp (.const (.int 97)) [.LtE, .LtE] [.loc 0, .const (.int 122)])) [.ret (.pure (.bin .Sub (.loc 0) (.const (.int 87))))] [],
 .ifs (.pure (.cmp (.const (.int 65)) [.LtE, .LtE] [.loc 0, .const (.int 90)])) [.ret (.pure (.bin .Sub (.loc 0) (.const (.int 55))))] [],
 .ret (.pure (.neg (.const (.int 1))))]
noncomputable def vm : List MS := [
 .assign 3 (.pure (.const (.int 0))),
 .while (.pure (.cmp (.loc 1) [.Lt] [.len (.loc 0)])) [.assign 4 (.pure (.call 3 [.sub (.loc 0) (.loc 1)])), .ifs (.pure (.or [.cmp (.loc 4) [.Lt] [.const (.int 0)], .cmp (.loc 4) [.GtE] [.loc 2]])) [.brk] [], .assign 3 (.pure (.bin .Add (.bin .Mult (.loc 3) (.loc 2)) (.loc 4))), .assign 1 (.pure (.bin .Add (.loc 1) (.const (.int 1))))],
 .ret (.pure (.tup [.loc 3, .loc 1]))]
noncomputable def vo : List MS := [
 .while (.pure (.and [.cmp (.loc 1) [.Lt] [.len (.loc 0)], .call 2 [.sub (.loc 0) (.loc 1)]])) [.assign 1 (.pure (.bin .Add (.loc 1) (.const (.int 1))))],
 .ret (.pure (.loc 1))]
noncomputable def xZ : List MS := [
 .ret (.pure (.call 6 [.loc 0, .const (.int 0), .loc 1]))]
noncomputable def yg : List MS := [
 .assignP 3 4 (.pure (.call 5 [.loc 0, .const (.int 0)])) (.pure (.const (.bool false))),
 .ifs (.pure (.and [.cmp (.loc 3) [.Lt] [.len (.loc 0)], .cmp (.sub (.loc 0) (.loc 3)) [.In] [.const (.bytes [43, 45])]])) [.assign 4 (.pure (.cmp (.sub (.loc 0) (.loc 3)) [.Eq] [.const (.int 45)])), .assign 3 (.pure (.bin .Add (.loc 3) (.const (.int 1))))] [],
 .assign 5 (.pure (.and [.cmp (.bin .Add (.loc 3) (.const (.int 2))) [.Lt] [.len (.loc 0)], .cmp (.sub (.loc 0) (.loc 3)) [.Eq] [.const (.int 48)], .cmp (.sub (.loc 0) (.bin .Add (.loc 3) (.const (.int 1)))) [.In] [.const (.bytes [120, 88])], .cmp (.loc 1) [.In] [.tup [.const (.int 0), .const (.int 16)]]])),
 .ifs (.pure (.and [.loc 5, .cmp (.const (.int 0)) [.LtE, .Lt] [.call 3 [.sub (.loc 0) (.bin .Add (.loc 3) (.const (.int 2)))], .const (.int 16)]])) [.assignP 3 1 (.pure (.bin .Add (.loc 3) (.const (.int 2)))) (.pure (.const (.int 16)))] [],
 .assignT 6 7 (.pure (.call 4 [.loc 0, .loc 3, .ite (.cmp (.loc 1) [.Eq] [.const (.int 0)]) (.const (.int 10)) (.loc 1)])),
 .ifs (.pure (.or [.cmp (.loc 7) [.Eq] [.loc 3], .cmp (.call 5 [.loc 0, .loc 7]) [.NotEq] [.len (.loc 0)]])) [.ret (.pure (.const .none))] [],
 .ret (.pure (.call 1 [.ite (.loc 4) (.neg (.loc 6)) (.loc 6), .attr (.loc 2) 14]))]
noncomputable def vq : List MS := [
 .assignP 1 2 (.pure (.abs (.loc 0))) .newl,
 .while (.pure (.cmp (.loc 1) [.Gt] [.const (.int 9)])) [.app 2 (.bin .Add (.const (.int 48)) (.bin .Mod (.loc 1) (.const (.int 10)))), .assign 1 (.pure (.bin .FloorDiv (.loc 1) (.const (.int 10))))],
 .app 2 (.bin .Add (.const (.int 48)) (.loc 1)),
 .ifs (.pure (.cmp (.loc 0) [.Lt] [.const (.int 0)])) [.app 2 (.const (.int 45))] [],
 .rev 2,
 .ret (.pure (.bytesL (.loc 2)))]
noncomputable def rA : List MS := [
 .ifs (.pure (.isi (.loc 0) 0)) [.ret (.pure (.loc 0))] [],
 .ifs (.pure (.call 0 [.loc 0])) [.ret (.pure (.call 8 [.loc 0]))] [],
 .ret (.pure (.const .none))]
noncomputable def qQ : List MS := [
 .assign 1 (.pure (.const (.int 0))),
 .while (.pure (.and [.cmp (.loc 1) [.Lt] [.len (.loc 0)], .cmp (.sub (.loc 0) (.loc 1)) [.NotEq] [.const (.int 0)]])) [.assign 1 (.pure (.bin .Add (.loc 1) (.const (.int 1))))],
 .ret (.pure (.slice (.loc 0) none (some (.loc 1))))]
noncomputable def u9 : List MS := [
 .assign 0 (.pure (.call 10 [.loc 0])),
 .ifs (.pure (.cmp (.slice (.loc 0) none (some (.const (.int 1)))) [.Eq] [.const (.bytes [61])])) [.ret (.pure (.slice (.loc 0) (some (.const (.int 1))) (some (.loc 1))))] [],
 .ifs (.pure (.cmp (.slice (.loc 0) none (some (.const (.int 1)))) [.Eq] [.const (.bytes [64])])) [.assignP 2 3 (.pure (.max (.bin .Sub (.loc 1) (.const (.int 8))) (.const (.int 0)))) (.pure (.slice (.loc 0) (some (.const (.int 1))) none)), .ret (.pure (.ite (.cmp (.len (.loc 3)) [.Gt] [.loc 2]) (.bin .Add (.const (.bytes [46, 46, 46])) (.slice (.loc 3) (some (.bin .Sub (.len (.loc 3)) (.loc 2))) none)) (.loc 3)))] [],
 .assignP 4 2 (.pure (.call 11 [.loc 0])) (.pure (.max (.bin .Sub (.loc 1) (.const (.int 17))) (.const (.int 0)))),
 .ifs (.pure (.cmp (.len (.loc 4)) [.Gt] [.loc 2])) [.assign 4 (.pure (.slice (.loc 4) none (some (.loc 2))))] [],
 .ifs (.pure (.cmp (.len (.loc 4)) [.Lt] [.len (.loc 0)])) [.assign 4 (.pure (.bin .Add (.loc 4) (.const (.bytes [46, 46, 46]))))] [],
 .ret (.pure (.bin .Add (.bin .Add (.const (.bytes [91, 115, 116, 114, 105, 110, 103, 32, 34])) (.loc 4)) (.const (.bytes [34, 93]))))]
noncomputable def tB : List MS := [
 .ret (.pure (.cmp (.const (.int 48)) [.LtE, .LtE] [.loc 0, .const (.int 57)]))]
noncomputable def uy : List MS := [
 .ret (.pure (.or [.cmp (.const (.int 65)) [.LtE, .LtE] [.loc 0, .const (.int 90)], .cmp (.const (.int 97)) [.LtE, .LtE] [.loc 0, .const (.int 122)], .cmp (.loc 0) [.Eq] [.glob "UNDERSCORE" (.int 95)]]))]
noncomputable def wJ : List MS := [
 .ret (.pure (.or [.call 14 [.loc 0], .call 13 [.loc 0]]))]
noncomputable def xT : List MS := [
 .ret (.pure (.or [.cmp (.loc 0) [.Eq] [.const (.int 32)], .cmp (.const (.int 9)) [.LtE, .LtE] [.loc 0, .const (.int 13)]]))]
noncomputable def vU : List MS := [
 .ret (.pure (.or [.cmp (.const (.int 0)) [.LtE, .Lt] [.loc 0, .const (.int 32)], .cmp (.loc 0) [.Eq] [.const (.int 127)]]))]
noncomputable def vV : List MS := [
 .ret (.pure (.cmp (.loc 0) [.In] [.tup [.glob "NEWLINE" (.int 10), .glob "RETURN" (.int 13)]]))]
noncomputable def yI : List MS := [
 .assign 1 (.pure (.find1 (.const (.bytes [97, 98, 102, 110, 114, 116, 118])) (.bytes1 (.loc 0)))),
 .ret (.pure (.ite (.cmp (.loc 1) [.Lt] [.const (.int 0)]) (.const .none) (.sub (.const (.bytes [7, 8, 12, 10, 13, 9, 11])) (.loc 1))))]
noncomputable def vW : List MS := [
 .ifs (.pure (.cmp (.loc 0) [.Lt] [.glob "FIRST_RESERVED" (.int 257)])) [.ifs (.pure (.call 17 [.loc 0])) [.ret (.pure (.bin .Add (.bin .Add (.const (.bytes [99, 104, 97, 114, 40])) (.call 9 [.loc 0])) (.const (.bytes [41]))))] [], .ret (.pure (.bytes1 (.loc 0)))] [],
 .assign 1 (.pure (.bin .Sub (.loc 0) (.glob "FIRST_RESERVED" (.int 257)))),
 .ret (.pure (.ite (.cmp (.loc 1) [.Lt] [.len (.glob "RESERVED" (.lst uZ))]) (.sub (.glob "RESERVED" (.lst uZ)) (.loc 1)) (.sub (.glob "OTHER_TEXTS" (.lst ziu)) (.bin .Sub (.loc 1) (.len (.glob "RESERVED" (.lst uZ)))))))]
noncomputable def uP : List MS := [
 .setattr 0 (.pure (.loc 1)),
 .setattr 1 (.pure (.loc 2)),
 .setattr 2 (.pure (.call 12 [.loc 2, .glob "SOURCE_SIZE" (.int 80)])),
 .setattr 3 (.pure (.loc 3)),
 .setattr 4 (.pure (.call 20 [])),
 .setattr 5 (.pure (.const (.int 0))),
 .setattr 6 (.pure (.ite (.cmp (.len (.loc 1)) [.Gt] [.const (.int 0)]) (.sub (.loc 1) (.const (.int 0))) (.glob "END_OF_TEXT" (.int (-1))))),
 .setattr 7 (.pure (.const (.int 1))),
 .setattr 8 (.pure (.const (.int 1))),
 .bufNew,
 .setattr 10 (.pure (.tok (.glob "TK_EOS" (.int 287)) (.const .none))),
 .setattr 11 (.pure (.const .none))]
noncomputable def qR : List MS := [
 .setattr 8 (.pure (.attr (.loc 0) 7)),
 .ifs (.pure (.cmp (.attr (.loc 0) 11) [.IsNot] [.const .none])) [.setattr 10 (.pure (.attr (.loc 0) 11)), .setattr 11 (.pure (.const .none))] [.setattr 10 (.meth 61 (.loc 0) [])],
 .ret (.pure (.attr (.loc 0) 10))]
noncomputable def rB : List MS := [
 .assign 3 (.pure (.bin .Add (.bin .Add (.bin .Add (.bin .Add (.attr (.loc 0) 2) (.const (.bytes [58]))) (.call 9 [.attr (.loc 0) 7])) (.const (.bytes [58, 32]))) (.loc 1))),
 .ifs (.pure (.cmp (.loc 2) [.IsNot] [.const .none])) [.assign 3 (.pure (.bin .Add (.bin .Add (.bin .Add (.loc 3) (.const (.bytes [32, 110, 101, 97, 114, 32, 39]))) (.meth 54 (.loc 0) [.loc 2])) (.const (.bytes [39]))))] [],
 .raise (.loc 3)]
noncomputable def xU : List MS := [
 .expr (.meth 52 (.loc 0) [.loc 1, .attr (.attr (.loc 0) 10) 12])]
noncomputable def vA : List MS := [
 .ifs (.pure (.cmp (.loc 1) [.In] [.tup [.glob "TK_NAME" (.int 285), .glob "TK_STRING" (.int 286), .glob "TK_NUMBER" (.int 284)]])) [.ret (.pure .bufBytes)] [],
 .ret (.pure (.call 21 [.loc 1]))]
noncomputable def qT : List MS := [
 .augattr 5 (.const (.int 1)),
 .setattr 6 (.pure (.ite (.cmp (.attr (.loc 0) 5) [.Lt] [.len (.attr (.loc 0) 0)]) (.sub (.attr (.loc 0) 0) (.attr (.loc 0) 5)) (.glob "END_OF_TEXT" (.int (-1)))))]
noncomputable def qU : List MS := [
 .ifs (.pure (.cmp .bufLen [.GtE] [.attr (.attr (.loc 0) 3) 0])) [.expr (.meth 52 (.loc 0) [.const (.bytes [108, 101, 120, 105, 99, 97, 108, 32, 101, 108, 101, 109, 101, 110, 116, 32, 116, 111, 111, 32, 108, 111, 110, 103]), .const .none])] [],
 .bufApp (.loc 1)]
noncomputable def yW : List MS := [
 .expr (.meth 56 (.loc 0) [.attr (.loc 0) 6]),
 .expr (.meth 55 (.loc 0) [])]
noncomputable def uz : List MS := [
 .ifs (.pure (.cmp (.attr (.loc 0) 6) [.NotIn] [.loc 1])) [.ret (.pure (.const (.bool false)))] [],
 .expr (.meth 57 (.loc 0) []),
 .ret (.pure (.const (.bool true)))]
noncomputable def rC : List MS := [
 .bufNew]
noncomputable def yF : List MS := [
 .assign 1 (.pure (.attr (.loc 0) 6)),
 .expr (.meth 55 (.loc 0) []),
 .ifs (.pure (.and [.call 18 [.attr (.loc 0) 6], .cmp (.attr (.loc 0) 6) [.NotEq] [.loc 1]])) [.expr (.meth 55 (.loc 0) [])] [],
 .augattr 7 (.const (.int 1)),
 .ifs (.pure (.cmp (.attr (.loc 0) 7) [.GtE] [.glob "MOST_LINES" (.int 2147483645)])) [.expr (.meth 53 (.loc 0) [.const (.bytes [99, 104, 117, 110, 107, 32, 104, 97, 115, 32, 116, 111, 111, 32, 109, 97, 110, 121, 32, 108, 105, 110, 101, 115])])] []]
noncomputable def uQ : List MS := [
 .expr (.meth 59 (.loc 0) []),
 .while (.meth 62 (.loc 0) []) [.pass],
 .assign 1 (.pure (.attr (.loc 0) 6)),
 .ifs (.pure (.cmp (.loc 1) [.Eq] [.glob "END_OF_TEXT" (.int (-1))])) [.ret (.pure (.tok (.glob "TK_EOS" (.int 287)) (.const .none)))] [],
 .ifs (.pure (.cmp (.loc 1) [.In] [.tup [.glob "QUOTE_DOUBLE" (.int 34), .glob "QUOTE_SINGLE" (.int 39)]])) [.ret (.meth 73 (.loc 0) [.loc 1])] [],
 .ifs (.pure (.cmp (.loc 1) [.Eq] [.glob "BRACKET_OPEN" (.int 91)])) [.ret (.meth 69 (.loc 0) [])] [],
 .ifs (.pure (.cmp (.loc 1) [.Eq] [.glob "DOT" (.int 46)])) [.ret (.meth 66 (.loc 0) [])] [],
 .ifs (.pure (.call 13 [.loc 1])) [.ret (.meth 68 (.loc 0) [])] [],
 .ifs (.pure (.call 14 [.loc 1])) [.ret (.meth 67 (.loc 0) [])] [],
 .ifs (.pure (.cmp (.loc 1) [.Eq] [.glob "MINUS" (.int 45)])) [.expr (.meth 55 (.loc 0) []), .ret (.pure (.tok (.glob "MINUS" (.int 45)) (.const .none)))] [],
 .ifs (.pure (.cmp (.loc 1) [.In] [.tup [.glob "EQUALS" (.int 61), .glob "LESS" (.int 60), .glob "GREATER" (.int 62), .glob "TILDE" (.int 126)]])) [.ret (.meth 65 (.loc 0) [.loc 1])] [],
 .expr (.meth 55 (.loc 0) []),
 .ret (.pure (.tok (.loc 1) (.const .none)))]
noncomputable def wK : List MS := [
 .ifs (.pure (.call 18 [.attr (.loc 0) 6])) [.expr (.meth 60 (.loc 0) []), .ret (.pure (.const (.bool true)))] [],
 .ifs (.pure (.call 16 [.attr (.loc 0) 6])) [.expr (.meth 55 (.loc 0) []), .ret (.pure (.const (.bool true)))] [],
 .ifs (.pure (.and [.cmp (.attr (.loc 0) 6) [.Eq] [.glob "MINUS" (.int 45)], .cmp (.meth 63 (.loc 0) []) [.Eq] [.glob "MINUS" (.int 45)]])) [.expr (.meth 64 (.loc 0) []), .ret (.pure (.const (.bool true)))] [],
 .ret (.pure (.const (.bool false)))]
noncomputable def wg : List MS := [
 .ret (.pure (.ite (.cmp (.bin .Add (.attr (.loc 0) 5) (.const (.int 1))) [.Lt] [.len (.attr (.loc 0) 0)]) (.sub (.attr (.loc 0) 0) (.bin .Add (.attr (.loc 0) 5) (.const (.int 1)))) (.glob "END_OF_TEXT" (.int (-1)))))]
noncomputable def zZ : List MS := [
 .expr (.meth 55 (.loc 0) []),
 .expr (.meth 55 (.loc 0) []),
 .ifs (.pure (.cmp (.attr (.loc 0) 6) [.Eq] [.glob "BRACKET_OPEN" (.int 91)])) [.assign 1 (.meth 70 (.loc 0) []), .expr (.meth 59 (.loc 0) []), .ifs (.pure (.cmp (.loc 1) [.GtE] [.const (.int 0)])) [.expr (.meth 71 (.loc 0) [.loc 1, .const (.bool false)]), .expr (.meth 59 (.loc 0) []), .retNone] []] [],
 .while (.pure (.and [.not (.call 18 [.attr (.loc 0) 6]), .cmp (.attr (.loc 0) 6) [.NotEq] [.glob "END_OF_TEXT" (.int (-1))]])) [.expr (.meth 55 (.loc 0) [])]]
noncomputable def yX : List MS := [
 .expr (.meth 55 (.loc 0) []),
 .ifs (.pure (.cmp (.attr (.loc 0) 6) [.NotEq] [.glob "EQUALS" (.int 61)])) [.ret (.pure (.tok (.loc 1) (.const .none)))] [],
 .expr (.meth 55 (.loc 0) []),
 .ifs (.pure (.cmp (.loc 1) [.Eq] [.glob "EQUALS" (.int 61)])) [.ret (.pure (.tok (.glob "TK_EQ" (.int 280)) (.const .none)))] [],
 .ifs (.pure (.cmp (.loc 1) [.Eq] [.glob "LESS" (.int 60)])) [.ret (.pure (.tok (.glob "TK_LE" (.int 282)) (.const .none)))] [],
 .ret (.pure (.tok (.ite (.cmp (.loc 1) [.Eq] [.glob "GREATER" (.int 62)]) (.glob "TK_GE" (.int 281)) (.glob "TK_NE" (.int 283))) (.const .none)))]
noncomputable def vC : List MS := [
 .expr (.meth 57 (.loc 0) []),
 .ifs (.meth 58 (.loc 0) [.tup [.glob "DOT" (.int 46)]]) [.ifs (.meth 58 (.loc 0) [.tup [.glob "DOT" (.int 46)]]) [.ret (.pure (.tok (.glob "TK_DOTS" (.int 279)) (.const .none)))] [], .ret (.pure (.tok (.glob "TK_CONCAT" (.int 278)) (.const .none)))] [],
 .ifs (.pure (.call 13 [.attr (.loc 0) 6])) [.ret (.meth 68 (.loc 0) [])] [],
 .ret (.pure (.tok (.glob "DOT" (.int 46)) (.const .none)))]
noncomputable def vD : List MS := [
 .while (.pure (.call 15 [.attr (.loc 0) 6])) [.expr (.meth 57 (.loc 0) [])],
 .assign 1 (.pure .bufBytes),
 .assign 2 (.pure (.kget (.loc 1))),
 .ret (.pure (.ite (.cmp (.loc 2) [.Is] [.const .none]) (.tok (.glob "TK_NAME" (.int 285)) (.loc 1)) (.tok (.loc 2) (.const .none))))]
noncomputable def zL : List MS := [
 .while (.pure (.or [.call 13 [.attr (.loc 0) 6], .cmp (.attr (.loc 0) 6) [.Eq] [.glob "DOT" (.int 46)]])) [.expr (.meth 57 (.loc 0) [])],
 .ifs (.meth 58 (.loc 0) [.tup [.const (.int 69), .const (.int 101)]]) [.expr (.meth 58 (.loc 0) [.tup [.glob "PLUS" (.int 43), .glob "MINUS" (.int 45)]])] [],
 .while (.pure (.call 15 [.attr (.loc 0) 6])) [.expr (.meth 57 (.loc 0) [])],
 .assign 1 (.pure (.call 7 [.bufBytes, .attr (.loc 0) 3])),
 .ifs (.pure (.cmp (.loc 1) [.Is] [.const .none])) [.expr (.meth 52 (.loc 0) [.const (.bytes [109, 97, 108, 102, 111, 114, 109, 101, 100, 32, 110, 117, 109, 98, 101, 114]), .glob "TK_NUMBER" (.int 284)])] [],
 .ret (.pure (.tok (.glob "TK_NUMBER" (.int 284)) (.loc 1)))]
noncomputable def yw : List MS := [
 .assign 1 (.meth 70 (.loc 0) []),
 .ifs (.pure (.cmp (.loc 1) [.GtE] [.const (.int 0)])) [.ret (.tokM (.glob "TK_STRING" (.int 286)) 71 (.loc 0) [.loc 1, .const (.bool true)])] [],
 .ifs (.pure (.cmp (.loc 1) [.Lt] [.neg (.const (.int 1))])) [.expr (.meth 52 (.loc 0) [.const (.bytes [105, 110, 118, 97, 108, 105, 100, 32, 108, 111, 110, 103, 32, 115, 116, 114, 105, 110, 103, 32, 100, 101, 108, 105, 109, 105, 116, 101, 114]), .glob "TK_STRING" (.int 286)])] [],
 .ret (.pure (.tok (.glob "BRACKET_OPEN" (.int 91)) (.const .none)))]
noncomputable def yJ : List MS := [
 .assign 1 (.pure (.attr (.loc 0) 6)),
 .assign 2 (.pure (.const (.int 0))),
 .expr (.meth 57 (.loc 0) []),
 .while (.pure (.cmp (.attr (.loc 0) 6) [.Eq] [.glob "EQUALS" (.int 61)])) [.expr (.meth 57 (.loc 0) []), .aug 2 (.const (.int 1))],
 .ret (.pure (.ite (.cmp (.attr (.loc 0) 6) [.Eq] [.loc 1]) (.loc 2) (.bin .Sub (.neg (.loc 2)) (.const (.int 1)))))]
noncomputable def yU : List MS := [
 .expr (.meth 57 (.loc 0) []),
 .ifs (.pure (.call 18 [.attr (.loc 0) 6])) [.expr (.meth 60 (.loc 0) [])] [],
 .assign 3 (.pure .bufLen),
 .while (.pure (.const (.bool true))) [.ifs (.pure (.cmp (.attr (.loc 0) 6) [.Eq] [.glob "END_OF_TEXT" (.int (-1))])) [.expr (.meth 52 (.loc 0) [.ite (.loc 2) (.const (.bytes [117, 110, 102, 105, 110, 105, 115, 104, 101, 100, 32, 108, 111, 110, 103, 32, 115, 116, 114, 105, 110, 103])) (.const (.bytes [117, 110, 102, 105, 110, 105, 115, 104, 101, 100, 32, 108, 111, 110, 103, 32, 99, 111, 109, 109, 101, 110, 116])), .glob "TK_EOS" (.int 287)])] [.ifs (.pure (.cmp (.attr (.loc 0) 6) [.Eq] [.glob "BRACKET_OPEN" (.int 91)])) [.expr (.meth 72 (.loc 0) [.loc 1])] [.ifs (.pure (.cmp (.attr (.loc 0) 6) [.Eq] [.glob "BRACKET_CLOSE" (.int 93)])) [.ifs (.eqM 70 (.loc 0) [] (.loc 1)) [.expr (.meth 57 (.loc 0) []), .ret (.pure (.bufCut (some (.loc 3)) (some (.bin .Sub (.bin .Sub .bufLen (.loc 1)) (.const (.int 2))))))] []] [.ifs (.pure (.call 18 [.attr (.loc 0) 6])) [.expr (.meth 56 (.loc 0) [.glob "NEWLINE" (.int 10)]), .expr (.meth 60 (.loc 0) []), .ifs (.pure (.not (.loc 2))) [.bufKeep (.loc 3)] []] [.ifs (.pure (.loc 2)) [.expr (.meth 57 (.loc 0) [])] [.expr (.meth 55 (.loc 0) [])]]]]]]]
noncomputable def yK : List MS := [
 .ifs (.eqM 70 (.loc 0) [] (.loc 1)) [.expr (.meth 57 (.loc 0) []), .ifs (.pure (.cmp (.loc 1) [.Eq] [.const (.int 0)])) [.expr (.meth 52 (.loc 0) [.const (.bytes [110, 101, 115, 116, 105, 110, 103, 32, 111, 102, 32, 91, 91, 46, 46, 46, 93, 93, 32, 105, 115, 32, 100, 101, 112, 114, 101, 99, 97, 116, 101, 100]), .glob "BRACKET_OPEN" (.int 91)])] []] []]
noncomputable def wj : List MS := [
 .expr (.meth 57 (.loc 0) []),
 .while (.pure (.cmp (.attr (.loc 0) 6) [.NotEq] [.loc 1])) [.ifs (.pure (.cmp (.attr (.loc 0) 6) [.Eq] [.glob "END_OF_TEXT" (.int (-1))])) [.expr (.meth 52 (.loc 0) [.const (.bytes [117, 110, 102, 105, 110, 105, 115, 104, 101, 100, 32, 115, 116, 114, 105, 110, 103]), .glob "TK_EOS" (.int 287)])] [.ifs (.pure (.call 18 [.attr (.loc 0) 6])) [.expr (.meth 52 (.loc 0) [.const (.bytes [117, 110, 102, 105, 110, 105, 115, 104, 101, 100, 32, 115, 116, 114, 105, 110, 103]), .glob "TK_STRING" (.int 286)])] [.ifs (.pure (.cmp (.attr (.loc 0) 6) [.Eq] [.glob "BACKSLASH" (.int 92)])) [.expr (.meth 55 (.loc 0) []), .expr (.meth 74 (.loc 0) [])] [.expr (.meth 57 (.loc 0) [])]]]],
 .expr (.meth 57 (.loc 0) []),
 .ret (.pure (.tok (.glob "TK_STRING" (.int 286)) (.bufCut (some (.const (.int 1))) (some (.bin .Sub .bufLen (.const (.int 1)))))))]
noncomputable def wz : List MS := [
 .ifs (.pure (.cmp (.attr (.loc 0) 6) [.Eq] [.glob "END_OF_TEXT" (.int (-1))])) [.retNone] [],
 .ifs (.pure (.call 18 [.attr (.loc 0) 6])) [.expr (.meth 56 (.loc 0) [.glob "NEWLINE" (.int 10)]), .expr (.meth 60 (.loc 0) []), .retNone] [],
 .ifs (.pure (.call 13 [.attr (.loc 0) 6])) [.expr (.meth 75 (.loc 0) []), .retNone] [],
 .assign 1 (.pure (.call 19 [.attr (.loc 0) 6])),
 .expr (.meth 56 (.loc 0) [.ite (.cmp (.loc 1) [.Is] [.const .none]) (.attr (.loc 0) 6) (.loc 1)]),
 .expr (.meth 55 (.loc 0) [])]
noncomputable def wA : List MS := [
 .assignP 1 2 (.pure (.const (.int 0))) (.pure (.const (.int 0))),
 .while (.pure (.and [.cmp (.loc 2) [.Lt] [.const (.int 3)], .call 13 [.attr (.loc 0) 6]])) [.assign 1 (.pure (.bin .Sub (.bin .Add (.bin .Mult (.const (.int 10)) (.loc 1)) (.attr (.loc 0) 6)) (.const (.int 48)))), .aug 2 (.const (.int 1)), .expr (.meth 55 (.loc 0) [])],
 .ifs (.pure (.cmp (.loc 1) [.Gt] [.const (.int 255)])) [.expr (.meth 52 (.loc 0) [.const (.bytes [101, 115, 99, 97, 112, 101, 32, 115, 101, 113, 117, 101, 110, 99, 101, 32, 116, 111, 111, 32, 108, 97, 114, 103, 101]), .glob "TK_STRING" (.int 286)])] [],
 .expr (.meth 56 (.loc 0) [.loc 1])]
noncomputable def yG : List MS := [
 .assignP 3 4 (.newLex [.loc 0, .loc 1, .loc 2]) .newl,
 .assign 5 (.meth 51 (.loc 3) []),
 .while (.pure (.cmp (.attr (.loc 5) 12) [.NotEq] [.glob "TK_EOS" (.int 287)])) [.app 4 (.tup [.attr (.loc 5) 12, .attr (.loc 5) 13]), .assign 5 (.meth 51 (.loc 3) [])],
 .ret (.pure (.loc 4))]
noncomputable def uD : List MS := [
 .ret (.pure (.lst [.const (.bytes [97, 110, 100]), .const (.bytes [98, 114, 101, 97, 107]), .const (.bytes [100, 111]), .const (.bytes [101, 108, 115, 101]), .const (.bytes [101, 108, 115, 101, 105, 102]), .const (.bytes [101, 110, 100]), .const (.bytes [102, 97, 108, 115, 101]), .const (.bytes [102, 111, 114]), .const (.bytes [102, 117, 110, 99, 116, 105, 111, 110]), .const (.bytes [105, 102]), .const (.bytes [105, 110]), .const (.bytes [108, 111, 99, 97, 108]), .const (.bytes [110, 105, 108]), .const (.bytes [110, 111, 116]), .const (.bytes [111, 114]), .const (.bytes [114, 101, 112, 101, 97, 116]), .const (.bytes [114, 101, 116, 117, 114, 110]), .const (.bytes [116, 104, 101, 110]), .const (.bytes [116, 114, 117, 101]), .const (.bytes [117, 110, 116, 105, 108]), .const (.bytes [119, 104, 105, 108, 101])]))]
noncomputable def uE : List MS := [
 .ret (.pure (.lst [.const (.bytes [46, 46, 46]), .const (.bytes [46, 46]), .const (.bytes [61, 61]), .const (.bytes [62, 61]), .const (.bytes [60, 61]), .const (.bytes [126, 61])]))]
noncomputable def uF : List MS := [
 .assignP 1 2 .newl (.pure (.const (.int 0))),
 .while (.pure (.cmp (.loc 2) [.Lt] [.len (.loc 0)])) [.assign 3 (.pure (.cmp (.slice (.loc 0) (some (.loc 2)) (some (.bin .Add (.loc 2) (.const (.int 2))))) [.In] [.tup [.const (.bytes [13, 10]), .const (.bytes [10, 13])]])), .app 1 (.ite (.cmp (.sub (.loc 0) (.loc 2)) [.Eq] [.const (.int 13)]) (.const (.int 10)) (.sub (.loc 0) (.loc 2))), .assign 2 (.pure (.bin .Add (.loc 2) (.ite (.loc 3) (.const (.int 2)) (.const (.int 1)))))],
 .ret (.pure (.bytesL (.loc 1)))]
noncomputable def lC : List MS := [
 .ret (.pure (.bin .Add (.const (.int 1)) (.countNl (.slice (.loc 0) none (some (.loc 1))))))]
noncomputable def uG : List MS := [
 .assign 2 (.pure (.bin .Add (.loc 1) (.const (.int 1)))),
 .while (.pure (.cmp (.slice (.loc 0) (some (.loc 2)) (some (.bin .Add (.loc 2) (.const (.int 1))))) [.Eq] [.const (.bytes [61])])) [.assign 2 (.pure (.bin .Add (.loc 2) (.const (.int 1))))],
 .ret (.pure (.ite (.and [.cmp (.slice (.loc 0) (some (.loc 1)) (some (.bin .Add (.loc 1) (.const (.int 1))))) [.Eq] [.const (.bytes [91])], .cmp (.slice (.loc 0) (some (.loc 2)) (some (.bin .Add (.loc 2) (.const (.int 1))))) [.Eq] [.const (.bytes [91])]]) (.bin .Sub (.bin .Sub (.loc 2) (.loc 1)) (.const (.int 1))) (.const .none)))]
noncomputable def xq : List MS := [
 .assign 4 (.pure (.bin .Add (.bin .Add (.loc 1) (.loc 2)) (.const (.int 2)))),
 .ifs (.pure (.cmp (.slice (.loc 0) (some (.loc 4)) (some (.bin .Add (.loc 4) (.const (.int 1))))) [.Eq] [.const (.bytes [10])])) [.assign 4 (.pure (.bin .Add (.loc 4) (.const (.int 1))))] [],
 .assign 5 (.pure (.find2 (.loc 0) (.bin .Add (.bin .Add (.const (.bytes [93])) (.bin .Mult (.const (.bytes [61])) (.loc 2))) (.const (.bytes [93]))) (.loc 4))),
 .assign 6 (.pure (.ite (.cmp (.loc 2) [.Eq] [.const (.int 0)]) (.find2 (.loc 0) (.const (.bytes [91, 91])) (.loc 4)) (.bin .Sub (.const (.int 0)) (.const (.int 1))))),
 .ifs (.pure (.and [.cmp (.loc 6) [.GtE] [.const (.int 0)], .or [.cmp (.loc 5) [.Lt] [.const (.int 0)], .cmp (.loc 6) [.Lt] [.loc 5]]])) [.ret (.pure (.tup [.const .none, .call 26 [.loc 0, .loc 6], .const (.bytes [110, 101, 115, 116, 105, 110, 103, 32, 111, 102, 32, 91, 91, 46, 46, 46, 93, 93, 32, 105, 115, 32, 100, 101, 112, 114, 101, 99, 97, 116, 101, 100])]))] [],
 .ifs (.pure (.cmp (.loc 5) [.Lt] [.const (.int 0)])) [.ret (.pure (.tup [.const .none, .call 26 [.loc 0, .len (.loc 0)], .bin .Add (.const (.bytes [117, 110, 102, 105, 110, 105, 115, 104, 101, 100, 32, 108, 111, 110, 103, 32])) (.loc 3)]))] [],
 .ret (.pure (.tup [.slice (.loc 0) (some (.loc 4)) (some (.loc 5)), .bin .Add (.bin .Add (.loc 5) (.loc 2)) (.const (.int 2)), .const (.bytes [])]))]
noncomputable def xV : List MS := [
 .assignP 2 3 .newl (.pure (.bin .Add (.loc 1) (.const (.int 1)))),
 .while (.pure (.and [.cmp (.loc 3) [.Lt] [.len (.loc 0)], .cmp (.sub (.loc 0) (.loc 3)) [.NotIn] [.tup [.sub (.loc 0) (.loc 1), .const (.int 10)]]])) [.ifs (.pure (.cmp (.sub (.loc 0) (.loc 3)) [.NotEq] [.const (.int 92)])) [.app 2 (.sub (.loc 0) (.loc 3)), .assign 3 (.pure (.bin .Add (.loc 3) (.const (.int 1))))] [.ifs (.pure (.cmp (.bin .Add (.loc 3) (.const (.int 1))) [.Eq] [.len (.loc 0)])) [.assign 3 (.pure (.bin .Add (.loc 3) (.const (.int 1))))] [.assignT 4 3 (.pure (.call 29 [.loc 0, .bin .Add (.loc 3) (.const (.int 1))])), .ifs (.pure (.cmp (.loc 4) [.Is] [.const .none])) [.ret (.pure (.tup [.const .none, .call 26 [.loc 0, .loc 3], .const (.bytes [101, 115, 99, 97, 112, 101, 32, 115, 101, 113, 117, 101, 110, 99, 101, 32, 116, 111, 111, 32, 108, 97, 114, 103, 101])]))] [], .app 2 (.loc 4)]]],
 .ifs (.pure (.or [.cmp (.loc 3) [.Eq] [.len (.loc 0)], .cmp (.sub (.loc 0) (.loc 3)) [.Eq] [.const (.int 10)]])) [.ret (.pure (.tup [.const .none, .call 26 [.loc 0, .loc 3], .const (.bytes [117, 110, 102, 105, 110, 105, 115, 104, 101, 100, 32, 115, 116, 114, 105, 110, 103])]))] [],
 .ret (.pure (.tup [.bytesL (.loc 2), .bin .Add (.loc 3) (.const (.int 1)), .const (.bytes [])]))]
noncomputable def yP : List MS := [
 .assign 2 (.pure (.ite (.cmp (.loc 1) [.Lt] [.len (.loc 0)]) (.sub (.loc 0) (.loc 1)) (.const (.int 0)))),
 .ret (.pure (.or [.cmp (.const (.int 48)) [.LtE, .LtE] [.loc 2, .const (.int 57)], .cmp (.const (.int 65)) [.LtE, .LtE] [.loc 2, .const (.int 90)], .cmp (.const (.int 97)) [.LtE, .LtE] [.loc 2, .const (.int 122)], .cmp (.loc 2) [.Eq] [.const (.int 95)]]))]
noncomputable def zK : List MS := [
 .assign 2 (.pure (.loc 1)),
 .while (.pure (.and [.cmp (.loc 2) [.Lt] [.len (.loc 0)], .or [.cmp (.const (.int 48)) [.LtE, .LtE] [.sub (.loc 0) (.loc 2), .const (.int 57)], .cmp (.sub (.loc 0) (.loc 2)) [.Eq] [.const (.int 46)]]])) [.assign 2 (.pure (.bin .Add (.loc 2) (.const (.int 1))))],
 .ifs (.pure (.cmp (.slice (.loc 0) (some (.loc 2)) (some (.bin .Add (.loc 2) (.const (.int 1))))) [.In] [.tup [.const (.bytes [101]), .const (.bytes [69])]])) [.assign 2 (.pure (.bin .Add (.bin .Add (.loc 2) (.const (.int 1))) (.ite (.cmp (.slice (.loc 0) (some (.bin .Add (.loc 2) (.const (.int 1)))) (some (.bin .Add (.loc 2) (.const (.int 2))))) [.In] [.tup [.const (.bytes [43]), .const (.bytes [45])]]) (.const (.int 1)) (.const (.int 0)))))] [],
 .while (.pure (.call 31 [.loc 0, .loc 2])) [.assign 2 (.pure (.bin .Add (.loc 2) (.const (.int 1))))],
 .assignP 3 4 (.pure (.slice (.loc 0) (some (.loc 1)) (some (.loc 2)))) (.pure (.const (.int 10))),
 .ifs (.pure (.and [.cmp (.slice (.loc 3) none (some (.const (.int 2)))) [.In] [.tup [.const (.bytes [48, 120]), .const (.bytes [48, 88])]], .cmp (.len (.loc 3)) [.Gt] [.const (.int 2)]])) [.assignP 3 4 (.pure (.slice (.loc 3) (some (.const (.int 2))) none)) (.pure (.const (.int 16)))] [],
 .assign 5 (.pure (.const (.int 0))),
 .forBytes 6 (.loc 3) [.assign 7 (.pure (.ite (.cmp (.loc 6) [.Lt] [.const (.int 58)]) (.bin .Sub (.loc 6) (.const (.int 48))) (.ite (.or [.cmp (.const (.int 65)) [.LtE, .LtE] [.loc 6, .const (.int 70)], .cmp (.const (.int 97)) [.LtE, .LtE] [.loc 6, .const (.int 102)]]) (.bin .Add (.bin .Mod (.loc 6) (.const (.int 32))) (.const (.int 9))) (.const (.int 99))))), .ifs (.pure (.not (.cmp (.const (.int 0)) [.LtE, .Lt] [.loc 7, .loc 4]))) [.ret (.pure (.tup [.const .none, .loc 2]))] [], .assign 5 (.pure (.bin .Mod (.bin .Add (.bin .Mult (.loc 5) (.loc 4)) (.loc 7)) (.bin .Pow (.const (.int 2)) (.const (.int 64)))))],
 .ret (.pure (.tup [.ite (.cmp (.loc 5) [.GtE] [.bin .Pow (.const (.int 2)) (.const (.int 63))]) (.bin .Sub (.loc 5) (.bin .Pow (.const (.int 2)) (.const (.int 64)))) (.loc 5), .loc 2]))]
noncomputable def zU : List MS := [
 .assign 2 (.pure (.sub (.loc 0) (.loc 1))),
 .ifs (.pure (.and [.cmp (.loc 2) [.Eq] [.const (.int 91)], .cmp (.call 27 [.loc 0, .loc 1]) [.IsNot] [.const .none]])) [.assign 3 (.call 28 [.loc 0, .loc 1, .call 27 [.loc 0, .loc 1], .const (.bytes [115, 116, 114, 105, 110, 103])]), .ret (.pure (.ite (.cmp (.sub (.loc 3) (.const (.int 0))) [.Is] [.const .none]) (.loc 3) (.tup [.tup [.glob "TK_STRING" (.int 286), .sub (.loc 3) (.const (.int 0))], .sub (.loc 3) (.const (.int 1)), .const (.bytes [])])))] [],
 .ifs (.pure (.and [.cmp (.loc 2) [.Eq] [.const (.int 91)], .cmp (.slice (.loc 0) (some (.bin .Add (.loc 1) (.const (.int 1)))) (some (.bin .Add (.loc 1) (.const (.int 2))))) [.Eq] [.const (.bytes [61])]])) [.ret (.pure (.tup [.const .none, .call 26 [.loc 0, .loc 1], .const (.bytes [105, 110, 118, 97, 108, 105, 100, 32, 108, 111, 110, 103, 32, 115, 116, 114, 105, 110, 103, 32, 100, 101, 108, 105, 109, 105, 116, 101, 114])]))] [],
 .ifs (.pure (.or [.cmp (.loc 2) [.Eq] [.const (.int 34)], .cmp (.loc 2) [.Eq] [.const (.int 39)]])) [.assign 3 (.call 30 [.loc 0, .loc 1]), .ret (.pure (.ite (.cmp (.sub (.loc 3) (.const (.int 0))) [.Is] [.const .none]) (.loc 3) (.tup [.tup [.glob "TK_STRING" (.int 286), .sub (.loc 3) (.const (.int 0))], .sub (.loc 3) (.const (.int 1)), .const (.bytes [])])))] [],
 .ifs (.pure (.or [.cmp (.const (.int 48)) [.LtE, .LtE] [.loc 2, .const (.int 57)], .and [.cmp (.loc 2) [.Eq] [.const (.int 46)], .cmp (.const (.int 48)) [.LtE, .LtE] [.sub (.bin .Add (.slice (.loc 0) (some (.bin .Add (.loc 1) (.const (.int 1)))) (some (.bin .Add (.loc 1) (.const (.int 2))))) (.const (.bytes [120]))) (.const (.int 0)), .const (.int 57)]]])) [.assignT 4 5 (.pure (.call 32 [.loc 0, .loc 1])), .ret (.pure (.ite (.cmp (.loc 4) [.Is] [.const .none]) (.tup [.const .none, .call 26 [.loc 0, .loc 1], .const (.bytes [109, 97, 108, 102, 111, 114, 109, 101, 100, 32, 110, 117, 109, 98, 101, 114])]) (.tup [.tup [.glob "TK_NUMBER" (.int 284), .loc 4], .loc 5, .const (.bytes [])])))] [],
 .ifs (.pure (.call 31 [.loc 0, .loc 1])) [.assign 5 (.pure (.loc 1)), .while (.pure (.call 31 [.loc 0, .loc 5])) [.assign 5 (.pure (.bin .Add (.loc 5) (.const (.int 1))))], .assign 6 (.pure (.slice (.loc 0) (some (.loc 1)) (some (.loc 5)))), .ret (.pure (.tup [.ite (.cmp (.loc 6) [.In] [.call 23 []]) (.tup [.bin .Add (.glob "TK_AND" (.int 257)) (.index (.call 23 []) (.loc 6)), .const .none]) (.tup [.glob "TK_NAME" (.int 285), .loc 6]), .loc 5, .const (.bytes [])]))] [],
 .forEnum 7 8 (.call 24 []) [.ifs (.pure (.cmp (.slice (.loc 0) (some (.loc 1)) (some (.bin .Add (.loc 1) (.len (.loc 8))))) [.Eq] [.loc 8])) [.ret (.pure (.tup [.tup [.bin .Add (.glob "TK_CONCAT" (.int 278)) (.sub (.lst [.const (.int 1), .const (.int 0), .const (.int 2), .const (.int 3), .const (.int 4), .const (.int 5)]) (.loc 7)), .const .none], .bin .Add (.loc 1) (.len (.loc 8)), .const (.bytes [])]))] []],
 .ret (.pure (.tup [.tup [.loc 2, .const .none], .bin .Add (.loc 1) (.const (.int 1)), .const (.bytes [])]))]
noncomputable def tC : List MS := [
 .assignP 1 2 .newl (.pure (.const (.int 0))),
 .while (.pure (.cmp (.loc 2) [.Lt] [.len (.loc 0)])) [.ifs (.pure (.cmp (.sub (.loc 0) (.loc 2)) [.In] [.const (.bytes [32, 9, 10, 11, 12, 13])])) [.assign 2 (.pure (.bin .Add (.loc 2) (.const (.int 1))))] [.ifs (.pure (.cmp (.slice (.loc 0) (some (.loc 2)) (some (.bin .Add (.loc 2) (.const (.int 2))))) [.Eq] [.const (.bytes [45, 45])])) [.assign 3 (.pure (.call 27 [.loc 0, .bin .Add (.loc 2) (.const (.int 2))])), .ifs (.pure (.cmp (.loc 3) [.Is] [.const .none])) [.assign 4 (.pure (.find2 (.loc 0) (.const (.bytes [10])) (.loc 2))), .assign 2 (.pure (.ite (.cmp (.loc 4) [.Lt] [.const (.int 0)]) (.len (.loc 0)) (.loc 4)))] [.assign 5 (.call 28 [.loc 0, .bin .Add (.loc 2) (.const (.int 2)), .loc 3, .const (.bytes [99, 111, 109, 109, 101, 110, 116])]), .ifs (.pure (.cmp (.sub (.loc 5) (.const (.int 0))) [.Is] [.const .none])) [.ret (.pure (.tup [.loc 1, .sub (.loc 5) (.const (.int 2)), .sub (.loc 5) (.const (.int 1))]))] [], .assign 2 (.pure (.sub (.loc 5) (.const (.int 1))))]] [.assign 5 (.call 33 [.loc 0, .loc 2]), .ifs (.pure (.cmp (.sub (.loc 5) (.const (.int 0))) [.Is] [.const .none])) [.ret (.pure (.tup [.loc 1, .sub (.loc 5) (.const (.int 2)), .sub (.loc 5) (.const (.int 1))]))] [], .app 1 (.sub (.loc 5) (.const (.int 0))), .assign 2 (.pure (.sub (.loc 5) (.const (.int 1))))]]],
 .ret (.pure (.tup [.loc 1, .const (.bytes []), .const (.int 0)]))]
end
section
noncomputable def zki (k : Nat) : Option FD := match k with
 | 0 => some ⟨1, 1, ux⟩
 | 1 => some ⟨3, 2, body_wrap⟩
 | 2 => some ⟨1, 1, yV⟩
 | 3 => some ⟨1, 1, u0⟩
 | 4 => some ⟨5, 3, vm⟩
 | 5 => some ⟨2, 2, vo⟩
 | 6 => some ⟨8, 3, yg⟩
 | 7 => some ⟨2, 2, xZ⟩
 | 8 => some ⟨3, 1, vq⟩
 | 9 => some ⟨1, 1, rA⟩
 | 10 => some ⟨2, 1, qQ⟩
 | 12 => some ⟨5, 2, u9⟩
 | 13 => some ⟨1, 1, tB⟩
 | 14 => some ⟨1, 1, uy⟩
 | 15 => some ⟨1, 1, wJ⟩
 | 16 => some ⟨1, 1, xT⟩
 | 17 => some ⟨1, 1, vU⟩
 | 18 => some ⟨1, 1, vV⟩
 | 19 => some ⟨2, 1, yI⟩
 | 21 => some ⟨2, 1, vW⟩
 | 23 => some ⟨0, 0, uD⟩
 | 24 => some ⟨0, 0, uE⟩
 | 25 => some ⟨4, 1, uF⟩
 | 26 => some ⟨2, 2, lC⟩
 | 27 => some ⟨3, 2, uG⟩
 | 31 => some ⟨3, 2, yP⟩
 | 32 => some ⟨8, 2, zK⟩
 | 54 => some ⟨2, 2, vA⟩
 | 63 => some ⟨1, 1, wg⟩
 | _ => none
structure Sub (g g' : GS) : Prop where
 lx : g'.lx = g.lx
 buf : g'.buf = g.buf
 hp : ∀ a v, g.hp a = some v -> g'.hp a = some v
theorem Sub.refl (g : GS) : Sub g g := ⟨rfl, rfl, λ z z h => h⟩
theorem Sub.trans {a b c : GS} (h : Sub a b) (k : Sub b c) : Sub a c := ⟨k.lx.trans h.lx, k.buf.trans h.buf, λ x v e => k.hp x v (h.hp x v e)⟩
noncomputable def PuK (k : Nat) (vs : List AV) (g : GS) : Out -> Prop := yt (λ v g' => v = PF k vs g /\ Sub g g') λ z => False
noncomputable def Pu (k : Nat) : Prop := ∀ C vs g, PC k vs g True -> zh7 C (zki k) vs g (λ v g' => v = PF k vs g /\ Sub g g') λ z => False
section
variable {C : Nat -> List AV -> GS -> QE -> XE -> Prop} {l : Loc} {g : GS} {K : Out -> Prop} {r : List MS} {i : Nat} {e : PX}
theorem sA (h : cnd e l g (exL C r (setL l i (val e l g)) g K)) : exL C (.assign i (.pure e) :: r) l g K := h
theorem sW {α : Type} {t : IX} {b : List MS} (L : α -> Loc) (G : α -> GS) (I : α -> Prop) (μ : α -> Nat) (a0 : α) (i0 : I a0)
  (turn : ∀ a, I a -> ∀ K' : Out -> Prop, (∀ a', I a' -> μ a' < μ a -> K' (.nx (L a') (G a'))) -> (∀ l g, exL C r l g K -> K' (.bk l g)) -> (∀ v g, K (.rt v g) -> K' (.rt v g)) -> (∀ m, K (.xc m) -> K' (.xc m)) ->
   exX C t (L a) (G a) (λ v g' => boC v ((truth v = true -> exL C b (L a) g' K') /\ (truth v = false -> exL C r (L a) g' K))) (λ m => K (.xc m))) : exL C (.while t b :: r) (L a0) (G a0) K := by
 refine ⟨λ n l g => ∃ a, l = L a /\ g = G a /\ I a /\ n = μ a, μ a0, ⟨a0, rfl, rfl, i0, rfl⟩, λ n l g h => ?_⟩
 obtain ⟨a, rfl, rfl, ia, rfl⟩ := h
 exact turn a ia _ (λ a' h1 h2 => ⟨μ a', h2, a', rfl, rfl, h1, rfl⟩) (λ z z h => h) (λ z z h => h) (λ z h => h)
theorem sFB {α : Type} {b : List MS} {bs : Bs} {j : Nat} (L : Bs -> α -> Loc) (I : Bs -> α -> Prop) (a0 : α) (i0 : I bs a0) (hv : val e (L bs a0) g = .bytes bs) (hc : cnd e (L bs a0) g (bs.length <= 1000000)) (fin : ∀ a, I [] a -> exL C r (L [] a) g K)
  (turn : ∀ c r' a, I (c :: r') a -> ∀ K' : Out -> Prop, (∀ a', I r' a' -> K' (.nx (L r' a') g)) -> (∀ v g, K (.rt v g) -> K' (.rt v g)) -> exL C b (setL (L (c :: r') a) j (.int (iv c))) g K') (ch : ∀ P Q : Prop, (P -> Q) -> cnd e (L bs a0) g P -> cnd e (L bs a0) g Q) : exL C (.forBytes j e b :: r) (L bs a0) g K := by
 refine ch _ _ (λ hz => ?_) hc
 rw [hv]
 refine ⟨hz, λ r' l g' => ∃ a, l = L r' a /\ g' = g /\ I r' a, ⟨a0, rfl, rfl, i0⟩, λ l g' h => ?_, λ c r' l g' h => ?_⟩
 ·obtain ⟨a, rfl, rfl, ia⟩ := h
  exact fin a ia
 ·obtain ⟨a, rfl, rfl, ia⟩ := h
  exact turn c r' a ia _ (λ a' h => ⟨a', rfl, rfl, h⟩) λ z z h => h
theorem band {a b : Bool} (h : (a && b) = true) : a = true /\ b = true := by cases a <;> first | exact ⟨rfl, h⟩ | cases h
theorem dT {p : Prop} [Decidable p] (h : decide p = true) : p := of_decide_eq_true h
theorem dF {p : Prop} [Decidable p] (h : decide p = false) : ¬ p := of_decide_eq_false h
theorem cC {b : Bool} {P : Prop} (h : dec b P) : b = true /\ P := by cases b <;> first | exact h.elim | exact ⟨rfl, h⟩
theorem kdI {v : AV} (h : Nat.beq (kd v) 2 = true) : v = .int (vI v) := by cases v <;> first | rfl | cases h
theorem kdB {v : AV} (h : Nat.beq (kd v) 3 = true) : v = .bytes (vB v) := by cases v <;> first | rfl | cases h
theorem kdL {v : AV} (h : Nat.beq (kd v) 8 = true) : v = .lex := by cases v <;> first | rfl | cases h
theorem zan : ∀ {vs : List AV}, shp vs [] = true -> vs = []
 | [], _ => rfl
 | _ :: _, h => nomatch h
theorem ziv : ∀ {vs : List AV} {k : Nat} {ks : List Nat}, shp vs (k :: ks) = true -> ∃ x r, vs = x :: r /\ Nat.beq (kd x) k = true /\ shp r ks = true
 | x :: r, _, _, h => ⟨x, r, rfl, band h⟩
 | [], _, _, h => nomatch h
theorem zfD {vs : List AV} {ks : List Nat} (h : shp vs (2 :: ks) = true) : ∃ i r, vs = .int i :: r /\ shp r ks = true := by
 obtain ⟨x, r, rfl, h1, h2⟩ := ziv h
 exact ⟨vI x, r, congrArg (· :: r) (kdI h1), h2⟩
theorem zhP {vs : List AV} {ks : List Nat} (h : shp vs (3 :: ks) = true) : ∃ b r, vs = .bytes b :: r /\ shp r ks = true := by
 obtain ⟨x, r, rfl, h1, h2⟩ := ziv h
 exact ⟨vB x, r, congrArg (· :: r) (kdB h1), h2⟩
theorem zkj {vs : List AV} {ks : List Nat} (h : shp vs (8 :: ks) = true) : ∃ r, vs = .lex :: r /\ shp r ks = true := by
 obtain ⟨x, r, rfl, h1, h2⟩ := ziv h
 exact ⟨r, congrArg (· :: r) (kdL h1), h2⟩
@[elab_as_elim] theorem zao {vs : List AV} {D : Int -> Prop -> Prop} {P : Prop} {M : List AV -> Prop} (h : dz vs D P) (k : ∀ i, D i P -> M [.int i]) : M vs := by
 obtain ⟨h1, h2⟩ := cC h
 obtain ⟨i, r, rfl, h1⟩ := zfD h1
 cases zan h1
 exact k i h2
@[elab_as_elim] theorem pby {vs : List AV} {D : Bs -> Int -> Prop -> Prop} {P : Prop} {M : List AV -> Prop} (h : byI vs D P) (k : ∀ b i, D b i P -> M [.bytes b, .int i]) : M vs := by
 obtain ⟨h1, h2⟩ := cC h
 obtain ⟨b, r, rfl, h1⟩ := zhP h1
 obtain ⟨i, r, rfl, h1⟩ := zfD h1
 cases zan h1
 exact k b i h2
@[elab_as_elim] theorem pbn {vs : List AV} {D : Bs -> Int -> Prop -> Prop} {P : Prop} {M : List AV -> Prop} (h : byI vs D P) (h0 : ∀ b i, D b i P -> 0 <= i) (k : ∀ b (n : Nat), D b n P -> M [.bytes b, .int n]) : M vs := by
 refine pby h λ b i hd => ?_
 have e := (Int.toNat_of_nonneg (h0 b i hd)).symm
 rw [e] at hd ⊢
 exact k b _ hd
@[elab_as_elim] theorem zkk {vs : List AV} {P : Prop} {M : List AV -> Prop} (h : nilC vs P) (k : M []) : M vs := by
 rw [zan (cC h).1]; exact k
@[elab_as_elim] theorem zkL {i : Int} {M : Int -> Prop} (h : 0 <= i) (k : ∀ n : Nat, M (n : Int)) : M i := by
 rw [<- Int.toNat_of_nonneg h]; exact k _
theorem cD {i : Int} (h : 0 <= i) : ∃ n : Nat, i = (n : Int) := ⟨i.toNat, (Int.toNat_of_nonneg h).symm⟩
end
section
variable {C : Nat -> List AV -> GS -> QE -> XE -> Prop} {g : GS}
theorem p0 : Pu 0 := λ C vs g h => by
 refine zao h λ i z => ?_
 exact And.intro (λ z => trivial) ⟨rfl, Sub.refl g⟩
theorem p13 : Pu 13 := λ C vs g h => by
 refine zao h λ i z => ?_
 exact And.intro rfl (Sub.refl g)
theorem p14 : Pu 14 := λ C vs g h => by
 refine zao h λ i z => ?_
 refine And.intro (λ z => ?_) (And.intro ?_ (Sub.refl g))
 ·exact And.intro (λ z => trivial) trivial
 ·show AV.bool ((decide (65 <= i) && decide (i <= 90)) || ((decide (97 <= i) && decide (i <= 122)) || (decide (i = 95) || false))) = .bool (zf4 i)
  rw [Bool.or_false, <- Bool.or_assoc]; rfl
end
section
variable {C : Nat -> List AV -> GS -> QE -> XE -> Prop} {g : GS} {K : Out -> Prop}
theorem le6 {n : Nat} (h : n <= 1000) : n <= 1000000 := nLT h (by decide)
theorem zd8 {x : Int} (h : 0 <= x) : Builtin.bitAnd x (1 * 2 ^ (64 : Int).toNat - 1) = x % 2 ^ 64 := by
 obtain ⟨m, rfl⟩ := Int.eq_ofNat_of_zero_le h
 show Builtin.bitAnd (m : Int) ((2 ^ 64 - 1 : Nat) : Int) = _
 unfold Builtin.bitAnd
 rw [decide_eq_true (Int.natCast_nonneg m), decide_eq_true (Int.natCast_nonneg _)]
 show (((m : Int).toNat &&& ((2 ^ 64 - 1 : Nat) : Int).toNat : Nat) : Int) = _
 rw [Int.toNat_natCast, Int.toNat_natCast, Nat.and_two_pow_sub_one_eq_mod]
 rfl
theorem zgG {x : Int} (h : 0 <= x) : oG x = if Builtin.bitAnd x (1 * 2 ^ (64 : Int).toNat - 1) >= 2 ^ 63 then Builtin.bitAnd x (1 * 2 ^ (64 : Int).toNat - 1) - 2 ^ 64 else Builtin.bitAnd x (1 * 2 ^ (64 : Int).toNat - 1) := by
 rw [zd8 h]; rfl
theorem zkM {vs : List AV} {P : Prop} (h : pc1 vs P) : ∃ n, vs = [.int n, .int 64] /\ 0 <= n /\ P := by
 obtain ⟨h1, h2⟩ := cC h
 obtain ⟨k1, h3⟩ := band h1
 obtain ⟨n, r, rfl, k2⟩ := zfD k1
 obtain ⟨w, r, rfl, k3⟩ := zfD k2
 cases zan k3
 exact ⟨n, congrArg (λ z => [AV.int n, .int z]) (dT h3), h2⟩
theorem p1 : Pu 1 := λ C vs g h => by
 obtain ⟨n, rfl, h0, _⟩ := zkM h
 have e := zgG h0
 refine sA (?_ : exL _ _ _ _ _)
 refine And.intro (λ q => ?_) (λ q => ?_)
 ·rw [if_pos (show Builtin.bitAnd n (1 * 2 ^ (64 : Int).toNat - 1) >= 2 ^ 63 from dT q)] at e
  exact ⟨congrArg AV.int e.symm, Sub.refl g⟩
 ·rw [if_neg (show ¬ Builtin.bitAnd n (1 * 2 ^ (64 : Int).toNat - 1) >= 2 ^ 63 from dF q)] at e
  exact ⟨congrArg AV.int e.symm, Sub.refl g⟩
theorem zjL : ∀ c : Fin 256, (([32, 9, 10, 11, 12, 13] : Bs).any λ d => decide ((d.toNat : Int) = (c.val : Int))) = zhJ c.val := by decide +kernel
theorem anyB {x : Int} (h : 0 <= x /\ x < 256) : (([32, 9, 10, 11, 12, 13] : Bs).any λ c => decide ((c.toNat : Int) = x)) = zhJ x := by
 obtain ⟨n, rfl⟩ := cD h.1
 exact zjL ⟨n, Int.ofNat_lt.mp h.2⟩
theorem p2 : Pu 2 := λ C vs g h => by
 refine zao h λ i h0 => ?_
 exact And.intro h0.1 ⟨congrArg AV.bool (anyB h0.1), Sub.refl g⟩
theorem zjM {x : Int} (h : (decide (48 <= x) && decide (x <= 57)) = true) : x - 48 = oF x := by
 rw [oF, if_pos ⟨dT (band h).1, dT (band h).2⟩]
theorem zhQ {a b : Int} {x : Int} (h : (decide (a <= x) && decide (x <= b)) = false) : ¬ (a <= x /\ x <= b) := λ q => by
 rw [decide_eq_true q.1, decide_eq_true q.2] at h; cases h
theorem p3 : Pu 3 := λ C vs g h => by
 refine zao h λ x z => ?_
 refine And.intro (λ h1 => ?_) (λ h1 => And.intro (λ h2 => ?_) (λ h2 => And.intro (λ h3 => ?_) (λ h3 => ?_)))
 ·exact ⟨congrArg AV.int (zjM h1), Sub.refl g⟩
 ·refine ⟨congrArg AV.int ?_, Sub.refl g⟩
  show x - 87 = oF x
  rw [oF, if_neg (zhQ h1), if_pos ⟨dT (band h2).1, dT (band h2).2⟩]
 ·refine ⟨congrArg AV.int ?_, Sub.refl g⟩
  show x - 55 = oF x
  rw [oF, if_neg (zhQ h1), if_neg (zhQ h2), if_pos ⟨dT (band h3).1, dT (band h3).2⟩]
 ·refine ⟨congrArg AV.int ?_, Sub.refl g⟩
  show -1 = oF x
  rw [oF, if_neg (zhQ h1), if_neg (zhQ h2), if_neg (zhQ h3)]
theorem p15 : Pu 15 := λ C vs g h => by
 refine zao h λ i z => ?_
 refine And.intro (λ z => trivial) ⟨congrArg AV.bool ?_, Sub.refl g⟩
 show (zf4 i || (qx i || false)) = _
 rw [Bool.or_false]; rfl
theorem p16 : Pu 16 := λ C vs g h => by
 refine zao h λ i z => ?_
 refine And.intro (λ z => trivial) ⟨congrArg AV.bool ?_, Sub.refl g⟩
 show (decide (i = 32) || ((decide (9 <= i) && decide (i <= 13)) || false)) = _
 rw [Bool.or_false]; rfl
theorem p17 : Pu 17 := λ C vs g h => by
 refine zao h λ i z => ?_
 refine And.intro (λ z => trivial) ⟨congrArg AV.bool ?_, Sub.refl g⟩
 show ((decide (0 <= i) && decide (i < 32)) || (decide (i = 127) || false)) = _
 rw [Bool.or_false]; rfl
theorem p18 : Pu 18 := λ C vs g h => by
 refine zao h λ i z => ?_
 refine ⟨congrArg AV.bool ?_, Sub.refl g⟩
 show (decide (i = 10) || (decide (i = 13) || false)) = _
 rw [Bool.or_false]; rfl
theorem p23 : Pu 23 := λ C vs g h => by
 refine zkk h ?_
 exact ⟨rfl, Sub.refl g⟩
theorem p24 : Pu 24 := λ C vs g h => by
 refine zkk h ?_
 exact ⟨rfl, Sub.refl g⟩
theorem lD (b : Bs) (i : Nat) : yq b none (some (i : Int)) = b.take i := by
 unfold yq clipAt
 simp only [Option.elim, List.drop_zero, Nat.sub_zero]
 rw [if_neg (Int.not_lt.mpr (Int.natCast_nonneg i))]
 rcases Nat.le_total i b.length with q | q
 ·rw [Int.min_eq_left (Int.ofNat_le.mpr q), Int.max_eq_right (Int.natCast_nonneg i)]; rfl
 ·rw [List.take_of_length_le q, List.take_of_length_le (by rw [Int.min_eq_right (Int.ofNat_le.mpr q), Int.max_eq_right (Int.natCast_nonneg _)]; exact Nat.le_refl _)]
end
section
variable {C : Nat -> List AV -> GS -> QE -> XE -> Prop} {g : GS} {K : Out -> Prop}
theorem jJ (c : UInt8) : 0 <= iv c /\ iv c < 256 := ⟨aq c, zf5 c⟩
theorem getD_mem {b : Bs} {n : Nat} (h : n < b.length) : b.getD n 0 ∈ b := by
 rw [List.getD_eq_getElem?_getD, List.getElem?_eq_getElem h]
 exact List.getElem_mem h
theorem wF {w : Bs} {k : Nat} (h : k < w.length) : w.drop k = w.getD k 0 :: w.drop (k + 1) := by
 rw [List.drop_eq_getElem_cons h, List.getD_eq_getElem?_getD, List.getElem?_eq_getElem h]; rfl
theorem zN {w : Bs} {k : Nat} {c : UInt8} {r : Bs} (h : w.drop k = c :: r) : k < w.length /\ w.getD k 0 = c /\ w.drop (k + 1) = r := by
 have q : k < w.length := Nat.lt_of_not_le λ z => by rw [List.drop_eq_nil_of_le z] at h; cases h
 rw [wF q] at h
 injection h with h1 h2
 exact ⟨q, h1, h2⟩
theorem p5 : Pu 5 := λ C vs g h => by
 refine pbn h (λ z z h => h.1.1.2) λ b n h => ?_
 refine sW (α := Unit) (λ z => [some (.bytes b), some (.int n)]) (λ z => g) (λ z => True) (λ z => 0) () trivial λ z z K' hn hb hr hx => ?_
 refine And.intro (le6 h.1.1.1) (And.intro (λ q => And.intro ⟨h.1.1.2, dT q, le6 h.1.1.1⟩ (And.intro (jJ _) trivial)) (And.intro (λ q => ?_) λ z => ⟨rfl, Sub.refl g⟩))
 have q1 := band q
 have q2 : isB (b.getD n 0) = true := (band q1.2).1
 rw [h.1.2 _ (getD_mem (Int.ofNat_lt.mp (dT q1.1)))] at q2
 cases q2
theorem qW {p : UInt8 -> Bool} {c : UInt8} {r : Bs} (h : p c = true) : (c :: r).takeWhile p = c :: r.takeWhile p := List.takeWhile_cons_of_pos h
theorem sJ {p : UInt8 -> Bool} {c : UInt8} {r : Bs} (h : p c = false) : (c :: r).takeWhile p = [] := List.takeWhile_cons_of_neg (by rw [h]; exact Bool.false_ne_true)
theorem zkN {vs : List AV} {P : Prop} (h : pc4 vs P) : ∃ t n b, vs = [.bytes t, .int (n : Nat), .int b] /\ t.length <= 1000 /\ 0 < b /\ b < 1000 := by
 obtain ⟨h1, ⟨h2, h3, h4⟩, _⟩ := cC h
 obtain ⟨t, r, rfl, k1⟩ := zhP h1
 obtain ⟨i, r, rfl, k2⟩ := zfD k1
 obtain ⟨b, r, rfl, k3⟩ := zfD k2
 cases zan k3
 obtain ⟨n, e⟩ := cD h3
 exact ⟨t, n, b, congrArg (λ z => [AV.bytes t, .int z, .int b]) e, h2, h4⟩
theorem zjN (j n : Nat) : (j : Int) + ((n + 1 : Nat) : Int) = ((j + 1 : Nat) : Int) + (n : Int) := congrArg Int.ofNat (Nat.add_right_comm j n 1)
theorem zkl {a b c d : AV} (h : a = c) (k : b = d) : AV.tup [a, b] = .tup [c, d] := by rw [h, k]
theorem dle (x y : Int) : decide (x <= y) = !decide (y < x) := by
 by_cases h : y < x
 ·rw [decide_eq_true h, decide_eq_false (Int.not_le.mpr h)]; rfl
 ·rw [decide_eq_false h, decide_eq_true (Int.not_lt.mp h)]; rfl
theorem ziw (B d : Int) : (decide (0 <= d) && decide (d < B)) = !(decide (d < 0) || (decide (B <= d) || false)) := by
 rw [Bool.or_false, dle 0 d, dle B d, Bool.not_or, Bool.not_not]
theorem p4 : Pu 4 := λ C vs g h => by
 obtain ⟨w, k, B, rfl, h1, h2, h3⟩ := zkN h
 refine sA (?_ : exL _ _ _ _ _)
 refine sW (α := Nat × Int × Option AV) (λ a => [some (.bytes w), some (.int (a.1 : Int)), some (.int B), some (.int a.2.1), a.2.2]) (λ x => g)
  (λ a => (PF 4 [.bytes w, .int (k : Int), .int B] g) = .tup [.int (foldZ B ((w.drop a.1).takeWhile (okd B)) a.2.1), .int ((a.1 : Int) + (((w.drop a.1).takeWhile (okd B)).length : Nat))]) (λ a => w.length - a.1) (k, 0, none) rfl λ a ha K' hn hb hr hx => ?_
 obtain ⟨j, v, d⟩ := a
 have stop : ((w.drop j).takeWhile (okd B)) = [] -> ∀ d, exL C [.ret (.pure (.tup [.loc 3, .loc 1]))] [some (.bytes w), some (.int (j : Int)), some (.int B), some (.int v), d] g (PuK 4 [.bytes w, .int (k : Int), .int B] g) := λ e d => by
  refine ⟨?_, Sub.refl g⟩
  rw [ha, e]
  exact zkl rfl (congrArg AV.int (Int.add_zero _).symm)
 refine And.intro (le6 h1) (And.intro (λ q => ?_) (λ q => ?_))
 ·have q : j < w.length := Int.ofNat_lt.mp (dT q)
  have e := wF q
  have ev := ziw B (oF (iv (w.getD j 0)))
  refine sA (And.intro ⟨Int.natCast_nonneg j, Int.ofNat_lt.mpr q, le6 h1⟩ (?_ : exL _ _ _ _ _))
  refine And.intro (λ x => trivial) (And.intro (λ z => ?_) (λ z => ?_))
  ·refine hb _ _ (stop ?_ _)
   rw [e]
   exact sJ (ev.trans (congrArg Bool.not z))
  ·have y : okd B (w.getD j 0) = true := ev.trans (congrArg Bool.not z)
   refine And.intro (.inr ⟨Int.lt_trans (by decide) h2, Int.lt_trans h3 (by decide)⟩) ?_
   refine hn (j + 1, v * B + oF (iv (w.getD j 0)), some (.int (oF (iv (w.getD j 0))))) ?_ (Nat.sub_lt_sub_left q (Nat.lt_succ_self j))
   rw [e, qW y] at ha
   refine ha.trans (zkl rfl (congrArg AV.int ?_))
   exact zjN j _
 ·have q : ¬ j < w.length := λ z => dF q (Int.ofNat_lt.mpr z)
  exact stop (by rw [List.drop_eq_nil_of_le (Nat.le_of_not_lt q)]; rfl) d
end
section
variable {C : Nat -> List AV -> GS -> QE -> XE -> Prop} {g : GS} {K : Out -> Prop}
theorem zfE {m : AV} {P : Prop} (h : za2 m P) : (∃ r, m = .inst 1 (.int 64 :: r)) /\ P := by
 cases m with
 | inst c vs => cases vs with
  | nil => exact h.elim
  | cons v r => cases v with
   | int w =>
    obtain ⟨h1, h2⟩ := cC h
    exact ⟨⟨r, by rw [Nat.eq_of_beq_eq_true (band h1).1, dT (band h1).2]⟩, h2⟩
   | _ => exact h.elim
 | _ => exact h.elim
theorem zbR (B : Int) (w : Bs) : aB B w = w.all (okd B) := rfl
theorem zbS {p : UInt8 -> Bool} : ∀ {w : Bs}, w.all p = true -> w.takeWhile p = w
 | [], _ => rfl
 | c :: w, h => by
  obtain ⟨h1, h2⟩ := band h
  rw [List.takeWhile_cons_of_pos h1, zbS h2]
theorem zfF {p : UInt8 -> Bool} : ∀ {w : Bs}, (w.takeWhile p).length = w.length -> w.all p = true
 | [], _ => rfl
 | c :: w, h => by
  cases q : p c with
  | true =>
   rw [List.takeWhile_cons_of_pos q] at h
   rw [List.all_cons, q, zfF (Nat.succ.inj h)]; rfl
  | false => rw [sJ q] at h; cases h
theorem rD {B : Int} (hB : 0 < B) : ∀ {w : Bs} {v : Int}, w.all (okd B) = true -> 0 <= v -> 0 <= foldZ B w v
 | [], _, _, h => h
 | c :: w, v, h, hv => by
  obtain ⟨h1, h2⟩ := band h
  exact rD hB (w := w) h2 (Int.add_nonneg (Int.mul_nonneg hv (Int.le_of_lt hB)) (dT (band h1).1))
theorem zgH {B : Int} {w : Bs} (h : w.all (okd B) = true) : oH B w = some (oG (foldZ B w 0)) := if_pos h
theorem fC {B : Int} {w : Bs} (h : w.all (okd B) = false) : oH B w = none := if_neg (by rw [zbR, h]; exact Bool.false_ne_true)
theorem kx {k n : Nat} (h : k < n) : (k : Int) + ((n - k : Nat) : Int) = (n : Int) := congrArg Int.ofNat (Nat.add_sub_of_le (Nat.le_of_lt h))
theorem t7 {w ds : Bs} {k : Nat} {B0 B : Int} {mk : Option AV} {r : List AV} (hB : 0 < B) (hw : w.length <= 1000) (hnb : ∀ c ∈ w, isB c = false) (hk : k < w.length) (e : (w.drop k).takeWhile (okd B) = ds)
  (h : K (.rt (oJ (oH B (w.drop k))) g)) : exL C (yg.drop 5) [some (.bytes w), some (.int B0), some (.inst 1 (.int 64 :: r)), some (.int (k : Int)), some (.bool false), mk, some (.int (foldZ B ds 0)), some (.int ((k : Int) + (ds.length : Nat)))] g K := by
 have hl : (w.drop k).length = w.length - k := List.length_drop
 refine And.intro (λ x => And.intro ⟨⟨hw, Int.add_nonneg (Int.natCast_nonneg k) (Int.natCast_nonneg _)⟩, hnb⟩ (And.intro (le6 hw) trivial)) (And.intro (λ q => ?_) (λ q => ?_))
 ·cases z : (w.drop k).all (okd B) with
  | false => rw [fC z] at h; exact h
  | true =>
   exfalso
   rw [zbS z] at e
   have q : (decide ((k : Int) + (ds.length : Nat) = k) || (!(decide ((k : Int) + (ds.length : Nat) = (w.length : Int))) || false)) = true := q
   rw [<- e, hl, decide_eq_false (λ y => Nat.ne_of_lt hk (Int.ofNat.inj (y.symm.trans (kx hk)))), decide_eq_true (kx hk)] at q
   cases q
 ·have z : (w.drop k).all (okd B) = true := zfF (by
   have q : (decide ((k : Int) + (ds.length : Nat) = k) || (!(decide ((k : Int) + (ds.length : Nat) = (w.length : Int))) || false)) = false := q
   rw [hl, e]
   simp only [Bool.or_eq_false_iff, Bool.not_eq_false', decide_eq_false_iff_not, decide_eq_true_eq] at q
   exact Nat.eq_sub_of_add_eq' (Int.ofNat.inj q.2.1))
  rw [zgH z] at h
  have hz := rD hB z (Int.le_refl 0)
  rw [zbS z] at e
  subst e
  exact And.intro (λ q => nomatch q) (And.intro (λ x => trivial) (And.intro hz h))
theorem t6 {w : Bs} {k : Nat} {B0 B : Int} {mk : Option AV} {r : List AV} (eB : cond (decide (B0 = 0)) 10 B0 = B) (hB : 0 < B /\ B < 1000) (hw : w.length <= 1000) (hnb : ∀ c ∈ w, isB c = false) (hk : k < w.length)
  (h : K (.rt (oJ (oH B (w.drop k))) g)) : exL C (yg.drop 4) [some (.bytes w), some (.int B0), some (.inst 1 (.int 64 :: r)), some (.int (k : Int)), some (.bool false), mk, none, none] g K := by
 subst eB
 exact And.intro (λ z => trivial) (And.intro (λ z => trivial) (And.intro ⟨hw, Int.natCast_nonneg k, hB⟩ (t7 (ds := ((w.drop k).takeWhile (okd (cond (decide (B0 = 0)) 10 B0)))) hB.1 hw hnb hk rfl h)))
theorem lE {d e : UInt8} {r : Bs} (h : d = 120 \/ d = 88) : rN (48 :: d :: e :: r) = oH 16 (e :: r) := if_pos ⟨rfl, h⟩
theorem zbT : ∀ {w : Bs}, ¬ (2 < w.length /\ w.getD 0 0 = 48 /\ (w.getD 1 0 = 120 \/ w.getD 1 0 = 88)) -> rN w = oH 10 w
 | [], _ => rfl
 | [_], _ => rfl
 | [_, _], _ => rfl
 | _ :: _ :: _ :: r, h => if_neg λ q => h ⟨Nat.le_add_left 3 r.length, q⟩
theorem zix {d : UInt8} {r : Bs} (hd : d = 120 \/ d = 88) : oH 10 (48 :: d :: r) = none := fC (by rcases hd with rfl | rfl <;> rfl)
theorem zd9 {e : UInt8} {r : Bs} {B : Int} (h : okd B e = false) : oH B (e :: r) = none := fC (by rw [List.all_cons, h]; rfl)
noncomputable def mkB (w : Bs) : Bool := decide ((0 : Int) + 2 < (w.length : Int)) && (decide (iv (w.getD 0 0) = 48) && ((([120, 88] : Bs).any λ c => decide ((c.toNat : Int) = iv (w.getD 1 0))) && (true && true)))
noncomputable def zjk (w : Bs) : Bool := mkB w && (okd 16 (w.getD 2 0) && true)
theorem lF (w : Bs) : mkB w = true ↔ 2 < w.length /\ w.getD 0 0 = 48 /\ (w.getD 1 0 = 120 \/ w.getD 1 0 = 88) := by
 unfold mkB
 simp only [List.any_cons, List.any_nil, Bool.or_false, Bool.and_true, Bool.and_eq_true, Bool.or_eq_true, decide_eq_true_eq]
 exact and_congr (show ((2 : Nat) : Int) < _ ↔ _ from Int.ofNat_lt) (and_congr (show iv _ = iv 48 ↔ _ from xJ) (or_congr (eq_comm.trans (show iv _ = iv 120 ↔ _ from xJ)) (eq_comm.trans (show iv _ = iv 88 ↔ _ from xJ))))
theorem zjl {w : Bs} (h : 2 < w.length) : ∃ a d e r, w = a :: d :: e :: r :=
 ⟨_, _, _, _, (List.drop_zero (l := w)).symm.trans ((wF (Nat.lt_trans (by decide) h)).trans (congrArg _ ((wF (Nat.lt_trans (by decide) h)).trans (congrArg _ (wF h)))))⟩
theorem zbU {w : Bs} (h : zjk w = true) : 2 < w.length /\ rN w = oH 16 (w.drop 2) := by
 obtain ⟨h1, h2, h3⟩ := (lF w).mp (band h).1
 obtain ⟨a, d, e, r, rfl⟩ := zjl h1
 have h2 : a = 48 := h2
 subst h2
 exact ⟨h1, lE h3⟩
theorem zfG {w : Bs} (h : zjk w = false) : rN w = oH 10 w := by
 cases q : mkB w with
 | false => exact zbT λ z => by rw [(lF w).mpr z] at q; cases q
 | true =>
  have e : (true && (okd 16 (w.getD 2 0) && true)) = false := by rw [<- h, zjk, q]
  obtain ⟨h1, h2, h3⟩ := (lF w).mp q
  obtain ⟨a, d, x, r, rfl⟩ := zjl h1
  have h2 : a = 48 := h2
  subst h2
  have e : okd 16 x = false := (Bool.and_true _).symm.trans e
  exact (lE h3).trans ((zd9 e).trans (zix h3).symm)
theorem zkO {vs : List AV} {P : Prop} (h : pc6 vs P) : ∃ w r, vs = [.bytes w, .int 0, .inst 1 (.int 64 :: r)] /\ zdv w := by
 obtain ⟨h1, h2⟩ := cC h
 obtain ⟨k1, h3⟩ := band h1
 obtain ⟨w, r, rfl, k2⟩ := zhP k1
 obtain ⟨i, r, rfl, k3⟩ := zfD k2
 obtain ⟨m, r, rfl, k4, k5⟩ := ziv k3
 cases zan k5
 obtain ⟨⟨r, e⟩, h2, _⟩ := zfE h2
 have e : m = .inst 1 (.int 64 :: r) := e
 exact ⟨w, r, by rw [e, show i = 0 from dT h3], h2⟩
theorem p6 : Pu 6 := λ C vs g h => by
 obtain ⟨w, m, rfl, hne, hl, hnb, hf⟩ := zkO h
 have hw : w.length <= 1000 := nLT hl (by decide)
 have h0 : 0 < w.length := List.length_pos_iff.mpr hne
 have h0' : (0 : Int) < (w.length : Int) := Int.ofNat_lt.mpr h0
 have nosg : ((([43, 45] : Bs).any λ c => decide ((c.toNat : Int) = iv (w.getD 0 0))) && true) = true -> False := λ q => by
  have := hf (w.getD 0 0) (w.drop 1) (wF h0)
  simp only [List.any_cons, List.any_nil, Bool.or_false, Bool.and_true, Bool.or_eq_true, decide_eq_true_eq] at q
  exact q.elim (λ q => this.1 (xJ.mp q.symm)) λ q => this.2 (xJ.mp q.symm)
 have sub : ∀ k : Nat, k < w.length -> (0 : Int) <= k /\ (k : Int) < (w.length : Int) /\ w.length <= 1000000 := λ k hk => ⟨Int.natCast_nonneg k, Int.ofNat_lt.mpr hk, le6 hw⟩
 refine And.intro ⟨⟨hw, Int.le_refl 0⟩, hnb⟩ (And.intro (le6 hw) (And.intro (λ z => And.intro (sub 0 h0) (And.intro (jJ _) trivial)) (And.intro (λ q => (nosg (band q).2).elim) λ z => ?_)))
 refine And.intro (le6 hw) (And.intro (λ q => ?_) ?_)
 ·have q : 2 < w.length := Int.ofNat_lt.mp (show ((2 : Nat) : Int) < _ from dT q)
  exact And.intro (sub 0 h0) (And.intro (λ z => And.intro (sub 1 (Nat.lt_of_succ_lt q)) (And.intro (jJ _) (And.intro (λ z => trivial) trivial))) trivial)
 refine And.intro (λ q => ?_) (And.intro (λ q => ?_) (λ q => ?_))
 ·have q : 2 < w.length := ((lF w).mp q).1
  exact And.intro (sub 2 q) trivial
 ·obtain ⟨h2, e⟩ := zbU (w := w) q
  refine t6 (k := 2) (B0 := 16) (B := 16) rfl ⟨by decide, by decide⟩ hw hnb h2 ⟨?_, Sub.refl g⟩
  rw [<- e]; rfl
 ·have e := zfG (w := w) q
  refine t6 (k := 0) (B0 := 0) (B := 10) rfl ⟨by decide, by decide⟩ hw hnb h0 ⟨?_, Sub.refl g⟩
  rw [List.drop_zero, <- e]; rfl
end
section
variable {C : Nat -> List AV -> GS -> QE -> XE -> Prop} {g : GS} {K : Out -> Prop}
theorem qX {b : Bool} {P : Prop} (h : b = true) (p : P) : dec b P := by subst h; exact p
theorem p7 : Pu 7 := λ C vs g h => by
 obtain ⟨h1, h2⟩ := cC h
 obtain ⟨w, r, rfl, k2⟩ := zhP h1
 obtain ⟨m, r, rfl, k4, k5⟩ := ziv k2
 cases zan k5
 obtain ⟨⟨r, e⟩, h2, _⟩ := zfE h2
 have e : m = .inst 1 (.int 64 :: r) := e
 subst e
 exact And.intro h2 ⟨rfl, Sub.refl g⟩
theorem p9 : Pu 9 := λ C vs g h => by
 refine zao h λ i h0 => ?_
 exact And.intro (λ q => nomatch q) λ z => And.intro (λ z => And.intro h0.1 ⟨rfl, Sub.refl g⟩) λ q => nomatch q
theorem p10 : Pu 10 := λ C vs g h => by
 obtain ⟨h1, _⟩ := cC h
 obtain ⟨k1, h3⟩ := band h1
 obtain ⟨w, r, rfl, k2⟩ := zhP k1
 cases zan k2
 have e : w = [61, 113] := dT h3
 subst e
 refine sW (α := Nat) (λ j => [some (.bytes [61, 113]), some (.int j)]) (λ z => g) (λ j => j <= 2) (λ j => 2 - j) 0 (by decide) λ j hj K' hn hb hr hx => ?_
 match j, hj with
 | 0, _ => exact And.intro (by decide) (And.intro (λ z => And.intro (by decide) trivial) (And.intro (λ z => hn 1 (by decide) (by decide)) λ q => nomatch q))
 | 1, _ => exact And.intro (by decide) (And.intro (λ z => And.intro (by decide) trivial) (And.intro (λ z => hn 2 (by decide) (by decide)) λ q => nomatch q))
 | 2, _ => exact And.intro (by decide) (And.intro (λ q => nomatch q) (And.intro (λ q => nomatch q) λ z => And.intro (by decide) ⟨rfl, Sub.refl g⟩))
theorem p12 : Pu 12 := λ C vs g h => by
 refine pby h λ b i h1 => ?_
 rw [dT (band (cC h1).1).1, dT (band (cC h1).1).2]
 exact And.intro (by decide) (And.intro (λ z => And.intro (by decide) ⟨rfl, Sub.refl g⟩) λ q => nomatch q)
noncomputable def zhR : Bs := [97, 98, 102, 110, 114, 116, 118]
noncomputable def zkP : Bs := [7, 8, 12, 10, 13, 9, 11]
theorem ziy : ∀ c : Fin 256, (decide (findZ zhR [(c.val : Int).toNat.toUInt8] 0 < 0) && decide (vM c.val (-1) xO = -1)) = true \/ (decide (0 <= findZ zhR [(c.val : Int).toNat.toUInt8] 0) && decide (findZ zhR [(c.val : Int).toNat.toUInt8] 0 < 7) && decide (vM c.val (-1) xO = ((zkP.getD (findZ zhR [(c.val : Int).toNat.toUInt8] 0).toNat 0).toNat : Int))) = true := by decide +kernel
theorem p19 : Pu 19 := λ C vs g h => by
 refine zao h λ i h1 => ?_
 obtain ⟨n, rfl⟩ := cD h1.1.1
 have h0 := h1.1
 have e := ziy ⟨n, Int.ofNat_lt.mp h0.2⟩
 dsimp only at e
 refine And.intro h0 (And.intro ⟨by decide, show 1 <= 1000 by decide, by decide, by decide⟩ ?_)
 show exL C (yI.drop 1) [some (.int (n : Int)), some (.int (findZ zhR [(n : Int).toNat.toUInt8] 0))] g (PuK 19 [.int (n : Int)] g)
 have ev : PF 19 [.int (n : Int)] g = zdu (n : Int) := rfl
 unfold zdu at ev
 generalize findZ zhR [(n : Int).toNat.toUInt8] 0 = z at e ⊢
 rcases e with e | e
 ·obtain ⟨e1, e2⟩ := band e
  refine And.intro (λ y => trivial) (And.intro (λ q => ?_) ⟨?_, Sub.refl g⟩)
  ·have q : decide (z < 0) = false := q
   rw [e1] at q; cases q
  ·rw [ev, dT e2]
   show zdo (decide (z < 0)) _ _ = _
   rw [e1]; rfl
 ·obtain ⟨e1, e2⟩ := band e
  obtain ⟨e1, e3⟩ := band e1
  have q0 : decide (z < 0) = false := decide_eq_false (Int.not_lt.mpr (dT e1))
  refine And.intro (λ y => trivial) (And.intro (λ y => And.intro ⟨dT e1, dT e3, by decide⟩ trivial) ⟨?_, Sub.refl g⟩)
  rw [ev, dT e2]
  show zdo (decide (z < 0)) _ _ = _
  rw [q0]; rfl
theorem p21 : Pu 21 := λ C vs g h => by
 refine zao h λ i h0 => ?_
 rcases h0.1 with rfl | rfl
 ·refine And.intro (λ q => nomatch q) λ z => And.intro (λ q => nomatch q) (And.intro (λ z => And.intro (by decide) trivial) ⟨rfl, Sub.refl g⟩)
 ·exact And.intro (λ z => And.intro (λ q => nomatch q) λ z => And.intro (by decide) ⟨rfl, Sub.refl g⟩) λ q => nomatch q
theorem p54 : Pu 54 := λ C vs g h => by
 obtain ⟨h1, ⟨h2, h3⟩, _⟩ := cC h
 obtain ⟨h1, h4⟩ := band h1
 obtain ⟨r, rfl, k1⟩ := zkj h1
 obtain ⟨i, r, rfl, k2⟩ := zfD k1
 cases zan k2
 have h3 : i = 284 \/ i = 286 \/ i = 287 \/ i = 91 := h3
 have h2 : g.buf.length <= 1000000 := nLT h2 (by decide)
 rcases h3 with rfl | rfl | rfl | rfl
 ·exact And.intro (λ z => qX h4 (And.intro h2 ⟨rfl, Sub.refl g⟩)) λ q => nomatch q
 ·exact And.intro (λ z => qX h4 (And.intro h2 ⟨rfl, Sub.refl g⟩)) λ q => nomatch q
 ·exact And.intro (λ q => nomatch q) λ z => And.intro (.inl rfl) ⟨rfl, Sub.refl g⟩
 ·exact And.intro (λ q => nomatch q) λ z => And.intro (.inr rfl) ⟨rfl, Sub.refl g⟩
theorem jK (T : Bs) (k : Nat) : zdo (decide ((k : Int) < (T.length : Int))) (.int ((T.getD k 0).toNat : Int)) (.int (-1)) = .int (sgn (T.drop k)) := by
 by_cases h : k < T.length
 ·rw [decide_eq_true (Int.ofNat_lt.mpr h), wF h]; rfl
 ·rw [decide_eq_false (λ q => h (Int.ofNat_lt.mp q)), List.drop_eq_nil_of_le (Nat.le_of_not_lt h)]; rfl
theorem p63 : Pu 63 := λ C vs g h => by
 obtain ⟨h1, h2, _⟩ := cC h
 obtain ⟨r, rfl, k1⟩ := zkj h1
 cases zan k1
 obtain ⟨T, a, b, c, d, k, r, e, hT⟩ := h2
 obtain ⟨lx, buf, hp⟩ := g
 have e : lx = _ := e
 subst e
 refine And.intro (le6 hT) (And.intro (λ q => And.intro ⟨Int.natCast_nonneg (k + 1), dT q, le6 hT⟩ trivial) (And.intro (λ z => trivial) ⟨?_, Sub.refl _⟩))
 exact jK T (k + 1)
end
section
variable {C : Nat -> List AV -> GS -> QE -> XE -> Prop} {g : GS} {K : Out -> Prop}
structure oZ (g : GS) (a : Addr) (vs : List AV) (g' : GS) : Prop where
 lx : g'.lx = g.lx
 buf : g'.buf = g.buf
 at_ : g'.hp a = some vs
 hp : ∀ b v, g.hp b = some v -> g'.hp b = some v
 fr : g.hp a = none
theorem tD {h : Addr -> Option (List AV)} {a : Addr} {vs : List AV} : uV h a vs a = some vs := if_pos rfl
theorem fG {h : Addr -> Option (List AV)} {a b : Addr} {vs : List AV} (e : b ≠ a) : uV h a vs b = h b := if_neg e
theorem oZ.new {a : Addr} (h : g.hp a = none) : oZ g a [] { g with hp := uV g.hp a [] } :=
 ⟨rfl, rfl, tD, λ b v e => (fG λ q => by rw [q, h] at e; cases e).trans e, h⟩
theorem oZ.set {a : Addr} {vs ws : List AV} {g' : GS} (o : oZ g a vs g') : oZ g a ws { g' with hp := uV g'.hp a ws } :=
 ⟨o.lx, o.buf, tD, λ b v e => (fG λ q => by rw [q, o.fr] at e; cases e).trans (o.hp b v e), o.fr⟩
theorem oZ.sub {a : Addr} {vs : List AV} {g' : GS} (o : oZ g a vs g') : Sub g g' := ⟨o.lx, o.buf, o.hp⟩
theorem uR {a : Addr} {vs : List AV} {g' : GS} (o : oZ g a vs g') : mO g' (.list a) = .bytes (vs.map xH) := by
 show AV.bytes (((g'.hp a).getD []).map xH) = _
 rw [o.at_]; rfl
noncomputable def AllB (vs : List AV) : Prop := ∀ x ∈ vs, qw x
theorem AllB.snoc {vs : List AV} {x : AV} (h : AllB vs) (k : qw x) : AllB (vs ++ [x]) := λ y hy => (List.mem_append.mp hy).elim (h y) λ q => by rw [List.mem_singleton.mp q]; exact k
theorem xu {α : Type} (l : List α) (x : α) : (l ++ [x]).length = l.length + 1 := List.length_append
theorem lG {vs : List AV} {x : AV} : (vs ++ [x]).map xH = vs.map xH ++ [xH x] := List.map_append
theorem cF {n : Nat} (h : n < 208) : 0 <= (48 : Int) + (n : Int) /\ (48 : Int) + (n : Int) < 256 := ⟨Int.add_nonneg (by decide) (Int.natCast_nonneg n), Int.add_lt_add_left (Int.ofNat_lt.mpr h) 48⟩
theorem p8 : Pu 8 := λ C vs g h => by
 refine zao h λ i h0 => ?_
 obtain (⟨m, rfl⟩) := cD h0.1.1
 have hm : m < 10000 := Int.ofNat_lt.mp h0.1.2
 refine λ a ha => ?_
 refine sW (α := Nat × Nat × List AV × GS) (λ s => [some (.int (m : Int)), some (.int (s.2.1 : Int)), some (.list a)]) (λ s => s.2.2.2)
  (λ s => oZ g a s.2.2.1 s.2.2.2 /\ AllB s.2.2.1 /\ s.2.2.1.map xH ++ zds s.1 s.2.1 = zds 4 m /\ s.2.1 < 10 ^ s.1 /\ 1 <= s.1 /\ s.2.2.1.length + s.1 = 4) (λ s => s.1) (4, m, [], _)
  ⟨oZ.new ha, λ y q => (List.not_mem_nil q).elim, rfl, hm, (by decide : 1 <= 4), rfl⟩ λ s hs K' hn hb hr hx => ?_
 obtain (⟨k, u, vs, g'⟩) := s
 obtain (⟨ho, hv, hd, hu, hk, hl⟩) := hs
 dsimp only at ho hv hd hu hk hl
 have lt3 : vs.length <= 1000000 := nLT (Nat.le.intro hl) (by decide)
 refine And.intro (λ q => ?_) (λ q => ?_)
 ·have q1 : 9 < u := Int.ofNat_lt.mp (dT q)
  obtain (⟨k, rfl⟩) : ∃ k', k = k' + 1 := ⟨k - 1, (Nat.sub_add_cancel hk).symm⟩
  have e1 : Int.fmod (u : Int) 10 = ((u % 10 : Nat) : Int) := by rw [Int.fmod_eq_emod_of_nonneg _ (by decide)]; rfl
  have e2 : Int.fdiv (u : Int) 10 = ((u / 10 : Nat) : Int) := by rw [Int.fdiv_eq_ediv_of_nonneg _ (by decide)]; rfl
  have eb : xH (.int (48 + Int.fmod (u : Int) 10)) = (48 + u % 10).toUInt8 := by rw [e1]; rfl
  have hu : u < 10 * 10 ^ k := by rw [Nat.mul_comm, <- Nat.pow_succ]; exact hu
  refine ⟨vs, ho.at_, lt3, ?_⟩
  have ed : zds (k + 1) u = (48 + u % 10).toUInt8 :: zds k (u / 10) := if_pos q1
  have hk1 : 1 <= k := by
   rcases k with _ | k
   ·exact absurd q1 (Nat.not_lt.mpr (Nat.le_of_lt_succ hu))
   ·exact Nat.le_add_left 1 k
  show K' (.nx [some (.int (m : Int)), some (.int (Int.fdiv (u : Int) 10)), some (.list a)] _)
  rw [e2]
  refine hn (k, u / 10, vs ++ [.int (48 + Int.fmod (u : Int) 10)], _) ⟨ho.set, hv.snoc ?_, ?_, Nat.div_lt_of_lt_mul hu, hk1, ?_⟩ (Nat.lt_succ_self k)
  ·rw [e1]; exact cF (Nat.lt_trans (Nat.mod_lt _ (by decide)) (by decide))
  ·rw [lG, eb, <- hd, ed, List.append_assoc]; rfl
  ·rw [xu, Nat.succ_add]; exact hl
 ·have q1 : ¬ 9 < u := λ z => dF q (Int.ofNat_lt.mpr z)
  obtain (⟨k, rfl⟩) : ∃ k', k = k' + 1 := ⟨k - 1, (Nat.sub_add_cancel hk).symm⟩
  have ed : zds (k + 1) u = [(48 + u).toUInt8] := if_neg q1
  have o1 := ho.set (ws := vs ++ [AV.int (48 + (u : Int))])
  refine ⟨vs, ho.at_, lt3, And.intro (λ z => absurd (dT (p := (m : Int) < 0) z) (Int.not_lt.mpr h0.1.1)) λ y => ⟨_, o1.at_, ?_, ?_⟩⟩
  ·rw [xu]; exact nLT (Nat.succ_le_succ (Nat.le.intro hl)) (by decide)
  have o2 := o1.set (ws := (vs ++ [AV.int (48 + (u : Int))]).reverse)
  refine And.intro ⟨_, o2.at_, ?_, λ x hx => ?_⟩ ⟨?_, o2.sub⟩
  ·rw [List.length_reverse, xu]; exact nLT (Nat.succ_le_succ (Nat.le.intro hl)) (by decide)
  ·refine hv.snoc ?_ x (List.mem_reverse.mp hx)
   exact cF (Nat.lt_of_le_of_lt (Nat.not_lt.mp q1) (by decide))
  ·refine (uR o2).trans (congrArg AV.bytes ?_)
   rw [List.map_reverse, lG, show xH (.int (48 + (u : Int))) = (48 + u).toUInt8 from rfl, <- ed, hd]; rfl
end
section
variable {C : Nat -> List AV -> GS -> QE -> XE -> Prop} {g : GS} {K : Out -> Prop}
theorem lH (n i : Nat) : clipAt n (i : Int) = min i n := by
 unfold clipAt
 rw [if_neg (Int.not_lt.mpr (Int.natCast_nonneg i))]
 rcases Nat.le_total i n with q | q
 ·rw [Int.min_eq_left (Int.ofNat_le.mpr q), Nat.min_eq_left q]; rfl
 ·rw [Int.min_eq_right (Int.ofNat_le.mpr q), Nat.min_eq_right q]; rfl
theorem cG {l : Bs} {i : Nat} : l.drop (min i l.length) = l.drop i := by
 rcases Nat.le_total i l.length with h | h
 ·rw [Nat.min_eq_left h]
 ·rw [Nat.min_eq_right h, List.drop_length, List.drop_eq_nil_of_le h]
theorem zea (l : Bs) (i j : Nat) : yq l (some (i : Int)) (some (j : Int)) = (l.drop i).take (j - i) := by
 unfold yq
 show (l.drop (clipAt l.length i)).take (clipAt l.length j - clipAt l.length i) = _
 rw [lH, lH, cG]
 have e : (l.drop i).length = l.length - i := List.length_drop
 rcases Nat.le_total j l.length with h | h
 ·rcases Nat.le_total i j with k | k
  ·rw [Nat.min_eq_left h, Nat.min_eq_left (nLT k h)]
  ·rw [Nat.sub_eq_zero_of_le (Nat.le_min.mpr ⟨nLT (Nat.min_le_left j _) k, Nat.min_le_right _ _⟩), Nat.sub_eq_zero_of_le k]
 ·rw [Nat.min_eq_right h, List.take_of_length_le (e ▸ Nat.sub_le_sub_left (Nat.min_le_left _ _) _), List.take_of_length_le (e ▸ Nat.sub_le_sub_right h i)]
theorem zdh (l : Bs) (i : Nat) : yq l (some (i : Int)) (some ((i : Int) + 1)) = (l.drop i).take 1 := (zea l i (i + 1)).trans (by rw [Nat.add_sub_cancel_left])
theorem zjO (l : Bs) (i : Nat) : yq l (some (i : Int)) (some ((i : Int) + 2)) = (l.drop i).take 2 := (zea l i (i + 2)).trans (by rw [Nat.add_sub_cancel_left])
theorem take1 {r : Bs} {c : UInt8} : r.take 1 = [c] ↔ ∃ t, r = c :: t := by
 cases r with
 | nil => exact Iff.intro (λ h => by cases h) λ ⟨_, h⟩ => by cases h
 | cons d t => exact ⟨λ h => ⟨t, congrArg (· :: t) (List.cons.inj h).1⟩, λ h => h.elim λ y h => congrArg (λ z => [z]) (List.cons.inj h).1⟩
noncomputable def zfH (c : Bool) (j : Nat) (r : Bs) : Option Nat := cond (c && decide ((r.dropWhile (· == 61)).head? = some 91)) (some (j + (r.takeWhile (· == 61)).length)) none
theorem zbV (a : Bs) : zV a = zfH (decide (a.take 1 = [91])) 0 (a.drop 1) := by
 unfold zfH
 rw [Nat.zero_add]
 cases a with
 | nil => rfl
 | cons c r =>
  show (if c = 91 /\ (r.dropWhile (· == 61)).head? = some 91 then some (r.takeWhile (· == 61)).length else none) = cond (decide ([c] = [91]) && decide ((r.dropWhile (· == 61)).head? = some 91)) (some (r.takeWhile (· == 61)).length) none
  by_cases h : c = 91
  ·by_cases k : (r.dropWhile (· == 61)).head? = some 91
   ·rw [if_pos ⟨h, k⟩, decide_eq_true k, h]; rfl
   ·rw [if_neg λ q => k q.2, decide_eq_false k, Bool.and_false]; rfl
  ·rw [if_neg λ q => h q.1, decide_eq_false λ q => h (List.cons.inj q).1]; rfl
theorem zeb (c : Bool) (j : Nat) (r : Bs) : zfH c j (61 :: r) = zfH c (j + 1) r := by
 show cond _ (some (j + ((r.takeWhile (· == 61)).length + 1))) none = cond _ (some (j + 1 + (r.takeWhile (· == 61)).length)) none
 rw [Nat.add_right_comm, Nat.add_assoc]; rfl
theorem zgI (c : Bool) (j : Nat) (r : Bs) (h : r.take 1 ≠ [61]) : zfH c j r = cond (c && decide (r.take 1 = [91])) (some j) none := by
 unfold zfH
 cases r with
 | nil => cases c <;> rfl
 | cons d t =>
  have hd : ¬ (d == 61) = true := λ q => h (take1.mpr ⟨t, by rw [eq_of_beq q]⟩)
  rw [List.dropWhile_cons_of_neg (p := (· == 61)) hd, List.takeWhile_cons_of_neg (p := (· == 61)) hd]
  have e : decide ((d :: t).head? = some 91) = decide ((d :: t).take 1 = [91]) := decide_eq_decide.mpr ⟨λ q => congrArg (λ z => [z]) (sIJ q), λ q => congrArg some (List.cons.inj q).1⟩
  rw [e]; rfl
theorem p27 : Pu 27 := λ C vs g h => by
 refine pbn h (λ z z h => h.1.2.1) λ b n h => ?_
 have h1 := h.1.1
 have ev : PF 27 [.bytes b, .int (n : Int)] g = optN (zfH (decide ((b.drop n).take 1 = [91])) 0 (b.drop (n + 1))) := by
  rw [<- List.drop_drop, <- zbV]; rfl
 refine sA (?_ : exL _ _ _ _ _)
 refine sW (α := Nat) (λ j => [some (.bytes b), some (.int (n : Int)), some (.int ((n + 1 + j : Nat) : Int))]) (λ z => g) (λ j => PF 27 [.bytes b, .int (n : Int)] g = optN (zfH (decide ((b.drop n).take 1 = [91])) j (b.drop (n + 1 + j)))) (λ j => b.length - (n + 1 + j)) 0 ev λ j hj K' hn hb hr hx => ?_
 have e1 := zdh b (n + 1 + j)
 have e0 := zdh b n
 refine And.intro (le6 h1) (And.intro (λ q => ?_) (λ q => ?_))
 ·have q : yq b (some ((n + 1 + j : Nat) : Int)) (some (((n + 1 + j : Nat) : Int) + 1)) = [61] := dT q
  rw [e1] at q
  obtain ⟨t, et⟩ := take1.mp q
  have lt : n + 1 + j < b.length := (zN et).1
  refine hn (j + 1) ?_ (Nat.sub_lt_sub_left lt (Nat.lt_succ_self _))
  rw [hj, et, zeb, <- (zN et).2.2]; rfl
 ·have q : ¬ yq b (some ((n + 1 + j : Nat) : Int)) (some (((n + 1 + j : Nat) : Int) + 1)) = [61] := dF q
  rw [e1] at q
  rw [zgI _ _ _ q] at hj
  refine And.intro (le6 h1) (And.intro (λ z => And.intro (le6 h1) trivial) (And.intro (λ z => trivial) (And.intro (λ z => trivial) ⟨?_, Sub.refl g⟩)))
  rw [hj]
  show zdo (decide (yq b (some (n : Int)) (some ((n : Int) + 1)) = [91]) && (decide (yq b (some ((n + 1 + j : Nat) : Int)) (some (((n + 1 + j : Nat) : Int) + 1)) = [91]) && true)) (.int (((n + 1 + j : Nat) : Int) - (n : Int) - 1)) .none = _
  rw [e0, e1, Bool.and_true]
  cases (decide ((b.drop n).take 1 = [91]) && decide ((b.drop (n + 1 + j)).take 1 = [91])) with
  | false => rfl
  | true => exact congrArg AV.int (by omega)
theorem or4 : ∀ A B C D : Bool, (D || (A || (B || (C || false)))) = (((A || B) || C) || D) := by decide
theorem zjP (x : Int) : ((decide (48 <= x) && decide (x <= 57)) || ((decide (65 <= x) && decide (x <= 90)) || ((decide (97 <= x) && decide (x <= 122)) || (decide (x = 95) || false)))) = zfm x := or4 _ _ _ _
theorem p31 : Pu 31 := λ C vs g h => by
 refine pbn h (λ y y h => h.1.2.1) λ b n h => ?_
 have h1 := h.1.1
 have h2 := h.1.2.1
 refine And.intro (le6 h1) (And.intro (λ q => And.intro ⟨h2, dT q, le6 h1⟩ trivial) (And.intro (λ y => trivial) ?_))
 refine And.intro (λ y => And.intro (λ y => And.intro (λ y => trivial) trivial) trivial) ⟨(congrArg AV.bool (zjP _)).trans ?_, Sub.refl g⟩
 show AV.bool (zfm (cond (decide ((n : Int) < (b.length : Int))) ((b.getD n 0).toNat : Int) 0)) = AV.bool (match b.drop n with | c :: _ => isN c | [] => false)
 by_cases q : n < b.length
 ·rw [decide_eq_true (Int.ofNat_lt.mpr q), wF q]; rfl
 ·rw [decide_eq_false (λ z => q (Int.ofNat_lt.mp z)), List.drop_eq_nil_of_le (Nat.le_of_not_lt q)]; rfl
end
section
variable {C : Nat -> List AV -> GS -> QE -> XE -> Prop} {g : GS} {K : Out -> Prop}
noncomputable def o7 (x : Bs) : Bool := decide (x = [13, 10]) || (decide (x = [10, 13]) || false)
theorem zbW (c d : UInt8) : o7 [c, d] = (tW c && tW d && c != d) := by
 by_cases h1 : c = 10
 ·subst h1
  by_cases h2 : d = 13
  ·subst h2; rfl
  ·by_cases h3 : d = 10
   ·subst h3; rfl
   ·simp [o7, tW, h2, h3]
 ·by_cases h2 : c = 13
  ·subst h2
   by_cases h3 : d = 10
   ·subst h3; rfl
   ·by_cases h4 : d = 13
    ·subst h4; rfl
    ·simp [o7, tW, h4, h3]
  ·simp [o7, tW, h1, h2]
theorem mq (c : UInt8) (r : Bs) : alike (c :: r) = (if c = 13 then 10 else c) :: alike (r.drop (cond (o7 ((c :: r).take 2)) 1 0)) := by
 cases r with
 | nil =>
  show [_] = _ :: alike ([].drop _)
  rw [List.drop_nil]; rfl
 | cons d r =>
  show (if (tW c && tW d && c != d) = true then 10 :: alike r else (if c = 13 then 10 else c) :: alike (d :: r)) = _ :: alike ((d :: r).drop (cond (o7 [c, d]) 1 0))
  rw [zbW]
  cases q : (tW c && tW d && c != d) with
  | false => rfl
  | true =>
   have h1 := (band (band q).1).1
   have e : (if c = 13 then (10 : UInt8) else c) = 10 := by
    by_cases k : c = 13
    ·rw [if_pos k]
    ·rw [if_neg k]
     rcases Bool.or_eq_true_iff.mp h1 with h | h
     ·exact eq_of_beq h
     ·exact absurd (eq_of_beq h) k
   rw [e]; rfl
theorem cH (c : UInt8) : xH (.int (iv c)) = c := iZ c
theorem jL (c : UInt8) : qw (.int (iv c)) := ⟨aq c, zf5 c⟩
theorem zkQ (c : UInt8) : cond (decide (iv c = 13)) (10 : Int) (iv c) = iv (if c = 13 then 10 else c) := by
 by_cases h : c = 13
 ·subst h; rfl
 ·show cond (decide (iv c = iv 13)) (10 : Int) (iv c) = _
  rw [decide_eq_false (λ q => h (xJ.mp q)), if_neg h]; rfl
theorem p25 : Pu 25 := λ C vs g h => by
 obtain ⟨h1, h2, _⟩ := cC h
 obtain ⟨T, r, rfl, k1⟩ := zhP h1
 cases zan k1
 have hT : T.length <= 1000 := nLT h2 (by decide)
 refine λ a ha => ?_
 refine sW (α := Nat × List AV × GS × Option AV) (λ s => [some (.bytes T), some (.list a), some (.int (s.1 : Int)), s.2.2.2]) (λ s => s.2.2.1)
  (λ s => oZ g a s.2.1 s.2.2.1 /\ AllB s.2.1 /\ s.2.1.map xH ++ alike (T.drop s.1) = alike T /\ s.2.1.length <= s.1) (λ s => T.length - s.1) (0, [], _, none)
  ⟨oZ.new ha, λ y q => (List.not_mem_nil q).elim, rfl, Nat.le_refl 0⟩ λ s hs K' hn hb hr hx => ?_
 obtain ⟨k, vs, g', d⟩ := s
 obtain ⟨ho, hv, he, hl⟩ := hs
 dsimp only at ho hv he hl
 refine And.intro (le6 hT) (And.intro (λ q => ?_) (λ q => ?_))
 ·have q1 : k < T.length := Int.ofNat_lt.mp (dT q)
  have hl6 : vs.length <= 1000000 := le6 (nLT hl (nLT (Nat.le_of_lt q1) hT))
  have e := wF q1
  have ha := mq (T.getD k 0) (T.drop (k + 1))
  rw [<- e, List.drop_drop, <- zjO] at ha
  have sub : (0 : Int) <= (k : Int) /\ (k : Int) < (T.length : Int) /\ T.length <= 1000000 := ⟨Int.natCast_nonneg k, dT q, le6 hT⟩
  refine And.intro (le6 hT) ⟨vs, ho.at_, And.intro sub (And.intro (λ y => trivial) (And.intro (λ y => And.intro sub trivial) ⟨hl6, And.intro (λ y => trivial) (And.intro (λ y => trivial) ?_)⟩))⟩
  show K' (.nx [some (.bytes T), some (.list a), some (.int ((k : Int) + cond (o7 (yq T (some (k : Int)) (some ((k : Int) + 2)))) 2 1)), _] { g' with hp := uV g'.hp a (vs ++ [.int (cond (decide (iv (T.getD k 0) = 13)) (10 : Int) (iv (T.getD k 0)))]) })
  rw [zkQ]
  generalize o7 (yq T (some (k : Int)) (some ((k : Int) + 2))) = pb at ha
  have ej : (k : Int) + cond pb 2 1 = ((k + 1 + cond pb 1 0 : Nat) : Int) := by cases pb <;> rfl
  rw [ej]
  refine hn (k + 1 + cond pb 1 0, _, _, _) ⟨ho.set, hv.snoc (jL _), ?_, ?_⟩ (Nat.sub_lt_sub_left q1 (Nat.lt_of_lt_of_le (Nat.lt_succ_self k) (Nat.le_add_right _ _)))
  ·rw [lG, cH, List.append_assoc, <- he, ha]; rfl
  ·rw [xu]; exact nLT (Nat.succ_le_succ hl) (Nat.le_add_right _ _)
 ·have q1 : ¬ k < T.length := λ z => dF q (Int.ofNat_lt.mpr z)
  rw [List.drop_eq_nil_of_le (Nat.le_of_not_lt q1)] at he
  have he : vs.map xH = alike T := (List.append_nil _).symm.trans he
  refine And.intro ⟨vs, ho.at_, ?_, hv⟩ ⟨(uR ho).trans (congrArg AV.bytes he), ho.sub⟩
  rw [<- List.length_map (as := vs) (f := xH), he]
  exact le6 (nLT (xK T) hT)
end
noncomputable def zgJ (k : Nat) : Option FD := match k with
 | 22 => some ⟨6, 3, yG⟩
 | 28 => some ⟨7, 4, xq⟩
 | 30 => some ⟨5, 2, xV⟩
 | 33 => some ⟨9, 2, zU⟩
 | 34 => some ⟨6, 1, tC⟩
 | 50 => some ⟨4, 4, uP⟩
 | 51 => some ⟨1, 1, qR⟩
 | 52 => some ⟨4, 3, rB⟩
 | 53 => some ⟨2, 2, xU⟩
 | 55 => some ⟨1, 1, qT⟩
 | 56 => some ⟨2, 2, qU⟩
 | 57 => some ⟨1, 1, yW⟩
 | 58 => some ⟨2, 2, uz⟩
 | 59 => some ⟨1, 1, rC⟩
 | 60 => some ⟨2, 1, yF⟩
 | 61 => some ⟨2, 1, uQ⟩
 | 62 => some ⟨1, 1, wK⟩
 | 64 => some ⟨2, 1, zZ⟩
 | 65 => some ⟨2, 2, yX⟩
 | 66 => some ⟨1, 1, vC⟩
 | 67 => some ⟨3, 1, vD⟩
 | 68 => some ⟨2, 1, zL⟩
 | 69 => some ⟨2, 1, yw⟩
 | 70 => some ⟨3, 1, yJ⟩
 | 71 => some ⟨4, 3, yU⟩
 | 72 => some ⟨2, 2, yK⟩
 | 73 => some ⟨2, 2, wj⟩
 | 74 => some ⟨2, 1, wz⟩
 | 75 => some ⟨3, 1, wA⟩
 | _ => none
noncomputable abbrev CL (n : Nat) := callC zgJ n
structure Th where
 T : Bs
 hp : Addr -> Option (List AV)
structure LS where
 k : Nat
 sg : Int
 line : Int
 last : Int
 cur : AV
noncomputable def o8 : AV := .inst 1 [.int 64, .int 250, .int 60, .int 200, .int 40, .int 200, .int 2000, .int 50, .int 1000000000, .int 1000000]
noncomputable def GG (θ : Th) (σ : LS) (b : Bs) : GS := ⟨some [.bytes θ.T, .bytes [61, 113], .bytes [113], o8, .kinds, .int (σ.k : Nat), .int σ.sg, .int σ.line, .int σ.last, .buf, σ.cur, .none], b, θ.hp⟩
structure Ok (θ : Th) (σ : LS) (a b : Bs) : Prop where
 al : alike (θ.T.drop σ.k) = a
 sg : σ.sg = sgn (θ.T.drop σ.k)
 ln : σ.line = 1 + (cnt (alike θ.T) : Int) - cnt a
 pl : kI σ.cur = true
 hT : θ.T.length <= 900
 room : b.length + a.length <= 900
 hc : cnt a <= cnt (alike θ.T)
section
variable {n : Nat} {Q : QE} {X : XE} {θ : Th} {σ : LS} {a b : Bs}
theorem Ok.nil (S : Ok θ σ [] b) : σ.sg = -1 := by
 rw [S.sg, zaZ S.al]; rfl
theorem Ok.nl (S : Ok θ σ (10 :: a) b) : σ.sg = 10 \/ σ.sg = 13 := by
 rw [S.sg]
 have h := S.al
 generalize θ.T.drop σ.k = t at h ⊢
 cases t with
 | nil => cases h
 | cons c r =>
  by_cases h1 : c = 10
  ·subst h1; exact .inl rfl
  ·by_cases h2 : c = 13
   ·subst h2; exact .inr rfl
   ·rw [uI h1 h2] at h
    exact absurd (List.cons.inj h).1 h1
theorem zfI {T : Bs} {k : Nat} {c : UInt8} {r : Bs} (h : T.drop k = c :: r) : T.drop (k + 1) = r := (zN h).2.2
theorem Ok.cons {c : UInt8} (S : Ok θ σ (c :: a) b) (hc : c ≠ 10) : θ.T.drop σ.k = c :: θ.T.drop (σ.k + 1) /\ alike (θ.T.drop (σ.k + 1)) = a /\ c ≠ 13 := by
 have h := S.al
 cases e : θ.T.drop σ.k with
 | nil => rw [e] at h; cases h
 | cons d r =>
  rw [e] at h
  rw [zfI e]
  cases hd : tW d with
  | true =>
   obtain ⟨r', e', _⟩ := zdp (r := r) hd
   rw [e'] at h
   exact absurd (List.cons.inj h).1.symm hc
  | false =>
   have hd := Bool.or_eq_false_iff.mp hd
   have h1 : d ≠ 10 := λ q => by rw [q] at hd; cases hd.1
   have h2 : d ≠ 13 := λ q => by rw [q] at hd; cases hd.2
   rw [uI h1 h2] at h
   obtain ⟨k1, k2⟩ := List.cons.inj h
   subst k1
   exact ⟨rfl, k2, h2⟩
theorem Ok.sgc {c : UInt8} (S : Ok θ σ (c :: a) b) (hc : c ≠ 10) : σ.sg = iv c := by rw [S.sg, (S.cons hc).1]; rfl
theorem jM {c : UInt8} (h : c ≠ 10) : cnt (c :: a) = cnt a := by rw [cnt_cons, if_neg h, Nat.zero_add]
theorem Ok.next {c : UInt8} {b' : Bs} (S : Ok θ σ (c :: a) b) (hc : c ≠ 10) (hb : b'.length <= b.length + 1) : Ok θ ⟨σ.k + 1, cond (decide (((σ.k : Nat) : Int) + 1 < (θ.T.length : Int))) ((θ.T.getD (σ.k + 1) 0).toNat : Int) (-1), σ.line, σ.last, σ.cur⟩ a b' where
 al := (S.cons hc).2.1
 sg := congrArg vI (jK θ.T (σ.k + 1))
 ln := S.ln.trans (by rw [jM hc])
 pl := S.pl
 hT := S.hT
 room := nLT (Nat.add_le_add_right hb _) (nLT (Nat.le_of_eq (Nat.add_right_comm _ _ _)) S.room)
 hc := nLT (Nat.le_of_eq (jM hc).symm) S.hc
theorem le9 {m : Nat} (h : m <= 900) : m <= 1000000 := nLT h (by decide)
theorem lJ (hT : θ.T.length <= 900) (h : Q .none (GG θ ⟨σ.k + 1, cond (decide (((σ.k : Nat) : Int) + 1 < (θ.T.length : Int))) ((θ.T.getD (σ.k + 1) 0).toNat : Int) (-1), σ.line, σ.last, σ.cur⟩ b)) : CL (n + 1) 55 [.lex] (GG θ σ b) Q X :=
 And.intro (le9 hT) (And.intro (λ q => And.intro ⟨Int.natCast_nonneg (σ.k + 1), dT q, le9 hT⟩ trivial) (And.intro (λ z => trivial) h))
theorem vG {c : UInt8} (S : Ok θ σ (c :: a) b) (hc : c ≠ 10) (h : ∀ σ', Ok θ σ' a b -> Q .none (GG θ σ' b)) : CL (n + 1) 55 [.lex] (GG θ σ b) Q X :=
 lJ S.hT (h _ (S.next hc (Nat.le_succ _)))
theorem qY {x : Int} (hx : 0 <= x /\ x < 256) (hb : b.length <= 900) (h : Q .none (GG θ σ (b ++ [x.toNat.toUInt8]))) : CL (n + 1) 56 [.lex, .int x] (GG θ σ b) Q X :=
 And.intro (le9 hb) (And.intro (λ q => absurd (dT q) (by show ¬ (1000000 : Int) <= (b.length : Int); omega)) λ z => And.intro (le9 hb) (And.intro hx (And.intro (Nat.lt_of_le_of_lt hb (by decide)) h)))
theorem Ok.short {c : UInt8} (S : Ok θ σ (c :: a) b) : b.length <= 900 := nLT (Nat.le_add_right _ _) S.room
theorem zE {c : UInt8} (S : Ok θ σ (c :: a) b) (hc : c ≠ 10) (h : ∀ σ', Ok θ σ' a (b ++ [c]) -> Q .none (GG θ σ' (b ++ [c]))) : CL (n + 2) 57 [.lex] (GG θ σ b) Q X := by
 have e := S.sgc hc
 show CL (n + 1) 56 [.lex, .int σ.sg] (GG θ σ b) _ X
 rw [e]
 refine qY (jJ c) S.short ?_
 rw [iZ]
 exact lJ S.hT (h _ (S.next hc (Nat.le_of_eq (xu b c))))
theorem fH (S : Ok θ σ a b) (h : Ok θ σ a [] -> Q .none (GG θ σ [])) : CL (n + 1) 59 [.lex] (GG θ σ b) Q X :=
 h ⟨S.al, S.sg, S.ln, S.pl, S.hT, nLT (Nat.add_le_add_right (Nat.zero_le _) _) S.room, S.hc⟩
end
section
variable {n : Nat} {Q : QE} {X : XE} {θ : Th} {σ : LS} {a b : Bs}
theorem cI : ∀ f u, (zds f u).length <= f
 | 0, _ => Nat.le_refl _
 | f + 1, u => by
  unfold zds
  split
  ·exact Nat.succ_le_succ (cI f (u / 10))
  ·exact Nat.succ_le_succ (Nat.zero_le f)
theorem cJ (m : Nat) : (kO m).length <= 4 := by
 unfold kO; rw [List.length_reverse]; exact cI 4 m
noncomputable def Err (A : Bs) (X : XE) (w rest : Bs) : Prop := ∀ tail : Bs, X ([113, 58] ++ kO (1 + cnt A - cnt rest) ++ [58, 32] ++ w ++ tail)
theorem zec (k : Int) : (tX k).length <= 900 := by unfold tX; split <;> decide
theorem sO {x y : Bs} {m k : Nat} (h : x.length <= m) (h' : y.length <= k) : (x ++ y).length <= m + k := by rw [List.length_append]; exact Nat.add_le_add h h'
theorem zdi {m k : Nat} (h : m <= k) (hk : k <= 1000 := by decide) : m <= 1000 := nLT h hk
theorem Ok.cA (S : Ok θ σ a b) : cnt (alike θ.T) <= 900 := nLT (za0 _) (nLT (xK _) S.hT)
theorem zkR {x y : Nat} (h : y <= x) : 1 + (x : Int) - y = ((1 + x - y : Nat) : Int) := by omega
theorem Ok.line (S : Ok θ σ a b) : (0 <= σ.line /\ σ.line < 10000) /\ σ.line.toNat = 1 + cnt (alike θ.T) - cnt a := by
 have h1 := S.cA
 rw [S.ln, zkR S.hc]
 exact ⟨⟨Int.natCast_nonneg _, Int.ofNat_lt.mpr (Nat.lt_of_le_of_lt (nLT (Nat.sub_le _ _) (Nat.add_le_add_left h1 1)) (by decide))⟩, rfl⟩
theorem Ok.bl (S : Ok θ σ a b) : b.length <= 900 := nLT (Nat.le_add_right _ _) S.room
theorem uT {kd : Int} {w : Bs} (S : Ok θ σ a b) (hk : kd = 284 \/ kd = 286 \/ kd = 287 \/ kd = 91) (hw : w.length <= 50) (h : Err (alike θ.T) X w a) : CL (n + 1) 52 [.lex, .bytes w, .int kd] (GG θ σ b) Q X := by
 obtain ⟨hl, el⟩ := S.line
 have l1 := cJ σ.line.toNat
 have l2 : ([113, 58] : Bs).length <= 2 := Nat.le_refl 2
 have l3 := sO l2 l1
 have l4 := sO l3 (show ([58, 32] : Bs).length <= 2 from Nat.le_refl 2)
 have l5 := sO l4 hw
 have nt : (cond (decide (kd = 284) || decide (kd = 286)) b (tX kd)).length <= 900 := by
  cases (decide (kd = 284) || decide (kd = 286)) with
  | true => exact S.bl
  | false => exact zec kd
 have l6 := sO l5 (show ([32, 110, 101, 97, 114, 32, 39] : Bs).length <= 7 from Nat.le_refl 7)
 have l7 := sO l6 nt
 refine And.intro ⟨by decide, by decide⟩ (And.intro hl (And.intro ⟨by decide, zdi l1⟩ (And.intro ⟨zdi l3, show 2 <= 1000 by decide⟩ (And.intro ⟨zdi l4, zdi hw⟩ (And.intro (λ z => ?_) λ q => nomatch q)))))
 refine And.intro ⟨zdi l5, show 7 <= 1000 by decide⟩ (And.intro ⟨S.bl, hk⟩ (And.intro ⟨zdi l6, zdi nt⟩ (And.intro ⟨zdi l7, show 1 <= 1000 by decide⟩ (And.intro (zdi (sO l7 (show ([39] : Bs).length <= 1 from Nat.le_refl 1))) ?_))))
 have := h ([32, 110, 101, 97, 114, 32, 39] ++ cond (decide (kd = 284) || decide (kd = 286)) b (tX kd) ++ [39])
 rw [<- el, <- List.append_assoc, <- List.append_assoc] at this
 exact this
theorem zed {c d : UInt8} (h : c ≠ d) : decide (iv c = iv d) = false := decide_eq_false λ q => h (xJ.mp q)
theorem Ok.view (S : Ok θ σ a b) : (a = [] /\ σ.sg = -1) \/ (∃ r, a = 10 :: r /\ (σ.sg = 10 \/ σ.sg = 13)) \/ ∃ c r, a = c :: r /\ c ≠ 10 /\ c ≠ 13 /\ σ.sg = iv c := by
 cases a with
 | nil => exact .inl ⟨rfl, S.nil⟩
 | cons c r =>
  by_cases h : c = 10
  ·subst h; exact .inr (.inl ⟨r, rfl, S.nl⟩)
  ·exact .inr (.inr ⟨c, r, rfl, h, (S.cons h).2.2, S.sgc h⟩)
theorem Ok.test (S : Ok θ σ a b) (p : Int -> Bool) (h10 : p 10 = false) (h13 : p 13 = false) (hm : p (-1) = false) : p σ.sg = true ↔ ∃ c r, a = c :: r /\ c ≠ 10 /\ p (iv c) = true := by
 rcases S.view with ⟨rfl, e⟩ | ⟨r, rfl, e⟩ | ⟨c, r, rfl, h1, h2, e⟩
 ·rw [e, hm]; exact ⟨λ h => (nomatch h), λ ⟨_, _, h, _⟩ => (nomatch h)⟩
 ·have : p σ.sg = false := by rcases e with e | e <;> rw [e] <;> assumption
  rw [this]
  exact ⟨λ h => (nomatch h), λ ⟨c, r', h, h', _⟩ => absurd (List.cons.inj h).1.symm h'⟩
 ·rw [e]
  exact ⟨λ h => ⟨c, r, rfl, h1, h⟩, λ ⟨d, r', h, _, h'⟩ => by rw [(List.cons.inj h).1]; exact h'⟩
theorem Ok.is {d : UInt8} (S : Ok θ σ a b) (h10 : d ≠ 10) (h13 : d ≠ 13) : decide (σ.sg = iv d) = true ↔ ∃ r, a = d :: r := by
 refine (S.test (λ s => decide (s = iv d)) (zed (c := 10) (Ne.symm h10)) (zed (c := 13) (Ne.symm h13)) (decide_eq_false λ q => by have := aq d; rw [<- q] at this; exact absurd this (by decide))).trans ⟨λ ⟨c, r, h, _, e⟩ => ⟨r, by rw [h, xJ.mp (dT e)]⟩, λ ⟨r, h⟩ => ⟨d, r, h, h10, decide_eq_true rfl⟩⟩
theorem Ok.eof (S : Ok θ σ a b) : decide (σ.sg = -1) = true ↔ a = [] := by
 rcases S.view with ⟨rfl, e⟩ | ⟨r, rfl, e⟩ | ⟨c, r, rfl, h1, h2, e⟩
 ·rw [e]; exact ⟨λ z => rfl, λ z => rfl⟩
 ·exact ⟨λ h => (by rcases e with e | e <;> rw [e] at h <;> cases h), λ h => (nomatch h)⟩
 ·rw [e]
  exact ⟨λ h => by have := aq c; rw [dT h] at this; exact absurd this (by decide), λ h => (nomatch h)⟩
theorem Ok.isnl (S : Ok θ σ a b) : rG σ.sg = true ↔ ∃ r, a = 10 :: r := by
 rcases S.view with ⟨rfl, e⟩ | ⟨r, rfl, e⟩ | ⟨c, r, rfl, h1, h2, e⟩
 ·rw [e]; exact ⟨λ h => (nomatch h), λ ⟨_, h⟩ => (nomatch h)⟩
 ·exact ⟨λ z => ⟨r, rfl⟩, λ z => by rcases e with e | e <;> rw [e] <;> rfl⟩
 ·rw [e]
  have : rG (iv c) = false := by
   show (decide (iv c = iv 10) || decide (iv c = iv 13)) = false
   rw [zed h1, zed h2]; rfl
  rw [this]
  exact ⟨λ h => (nomatch h), λ ⟨r', h⟩ => absurd (List.cons.inj h).1 h1⟩
theorem bF {p : Bool} {q : Prop} (h : p = true ↔ q) (k : p = false) : ¬ q := λ z => by rw [h.mpr z] at k; cases k
theorem zhS {p q : Bool} (h : p = true ↔ q = true) : p = q := by
 cases p with
 | true => exact (h.mp rfl).symm
 | false => cases q with
  | false => rfl
  | true => exact h.mpr rfl
end
section
variable {n : Nat} {Q : QE} {X : XE} {θ : Th} {σ : LS} {a b : Bs} {C : Nat -> List AV -> GS -> QE -> XE -> Prop} {g : GS} {l : Loc} {K : Out -> Prop} {r : List MS}
theorem zhT {b : Bool} (h : (!b) = false) : b = true := by cases b <;> first | rfl | cases h
noncomputable def zee (t : Bs) : Bool := rG (sgn (t.drop 1)) && (!(decide (sgn (t.drop 1) = sgn t)) && true)
theorem zfJ {d : UInt8} : rG (iv d) = tW d := by
 refine zhS ?_
 show (decide (iv d = iv 10) || decide (iv d = iv 13)) = true ↔ _
 rw [Bool.or_eq_true, tW, Bool.or_eq_true, beq_iff_eq, beq_iff_eq]
 exact or_congr (decide_eq_true_iff.trans xJ) (decide_eq_true_iff.trans xJ)
theorem ziz {t : Bs} (h : alike t = 10 :: a) : alike (t.drop (cond (zee t) 2 1)) = a := by
 cases t with
 | nil => cases h
 | cons c t =>
  have hcn : tW c = true := by
   cases q : tW c with
   | true => rfl
   | false =>
    have q := Bool.or_eq_false_iff.mp q
    have h1 : c ≠ 10 := λ z => by rw [z] at q; cases q.1
    rw [uI h1 λ z => by rw [z] at q; cases q.2] at h
    exact absurd (List.cons.inj h).1 h1
  have e := mq c t
  rw [h] at e
  have e2 := (List.cons.inj e).2
  cases t with
  | nil => rw [e2, List.drop_nil]; rfl
  | cons d t =>
   have ep : o7 [c, d] = zee (c :: d :: t) := by
    rw [zbW, hcn, Bool.true_and]
    show (tW d && c != d) = (rG (iv d) && (!(decide (iv d = iv c)) && true))
    rw [zfJ, Bool.and_true, bne]
    congr 2
    exact zhS (beq_iff_eq.trans ((eq_comm.trans xJ.symm).trans decide_eq_true_iff.symm))
   have e2 : a = alike ((d :: t).drop (cond (o7 [c, d]) 1 0)) := e2
   rw [e2, ep]
   cases zee (c :: d :: t) <;> rfl
theorem qZ {b' : Bs} (S : Ok θ σ (10 :: a) b') (hroom : b.length + a.length <= 900) (h : ∀ σ', Ok θ σ' a b -> Q .none (GG θ σ' b)) : CL (n + 2) 60 [.lex] (GG θ σ b) Q X := by
 have hc := S.hc
 rw [cnt_cons, if_pos rfl] at hc
 have hl := S.ln
 rw [cnt_cons, if_pos rfl] at hl
 have hA := S.cA
 have tail : ∀ k sg, alike (θ.T.drop k) = a -> sg = sgn (θ.T.drop k) -> exL (CL (n + 1)) (yF.drop 3) [some .lex, some (.int σ.sg)] (GG θ ⟨k, sg, σ.line, σ.last, σ.cur⟩ b) (yt Q X) := λ k sg h1 h2 => by
  refine And.intro (λ q => absurd (dT q) ?_) λ z => h ⟨k, sg, σ.line + 1, σ.last, σ.cur⟩ ⟨h1, h2, ?_, S.pl, S.hT, hroom, nLT (Nat.le_add_left _ _) hc⟩
  ·show ¬ (2147483645 : Int) <= σ.line + 1
   rw [hl]; omega
  ·show σ.line + 1 = _
   rw [hl]; omega
 show CL (n + 1) 55 [.lex] (GG θ σ b) (λ z g => exL (CL (n + 1)) (yF.drop 2) [some .lex, some (.int σ.sg)] g (yt Q X)) X
 refine lJ S.hT ?_
 have e1 : cond (decide (((σ.k : Nat) : Int) + 1 < (θ.T.length : Int))) ((θ.T.getD (σ.k + 1) 0).toNat : Int) (-1) = sgn (θ.T.drop (σ.k + 1)) := congrArg vI (jK θ.T (σ.k + 1))
 rw [e1]
 have e2 : (rG (sgn (θ.T.drop (σ.k + 1))) && (!(decide (sgn (θ.T.drop (σ.k + 1)) = σ.sg)) && true)) = zee (θ.T.drop σ.k) := by
  rw [S.sg, <- List.drop_drop]; rfl
 have hal := ziz S.al
 rw [List.drop_drop] at hal
 refine And.intro (λ z => trivial) (And.intro (λ q => lJ S.hT ?_) λ q => tail (σ.k + 1) _ ?_ rfl)
 ·rw [<- e2, show (rG (sgn (θ.T.drop (σ.k + 1))) && (!(decide (sgn (θ.T.drop (σ.k + 1)) = σ.sg)) && true)) = true from q] at hal
  exact tail (σ.k + 1 + 1) _ hal (congrArg vI (jK θ.T (σ.k + 1 + 1)))
 ·rw [<- e2, show (rG (sgn (θ.T.drop (σ.k + 1))) && (!(decide (sgn (θ.T.drop (σ.k + 1)) = σ.sg)) && true)) = false from q] at hal
  exact hal
theorem sS (S : Ok θ σ (10 :: a) b) (h : ∀ σ', Ok θ σ' a b -> Q .none (GG θ σ' b)) : CL (n + 2) 60 [.lex] (GG θ σ b) Q X := qZ S (nLT (Nat.le_succ _) S.room) h
theorem tE {ss : Bs} (hss : ∀ c ∈ ss, c ≠ 10 /\ c ≠ 13) (S : Ok θ σ a b) (h1 : ∀ c r σ', a = c :: r -> c ∈ ss -> Ok θ σ' r (b ++ [c]) -> Q (.bool true) (GG θ σ' (b ++ [c]))) (h2 : (∀ c r, a = c :: r -> c ∉ ss) -> Q (.bool false) (GG θ σ b)) :
  CL (n + 3) 58 [.lex, .tup (ss.map λ c => .int (iv c))] (GG θ σ b) Q X := by
 have hany : (ss.map λ c => AV.int (iv c)).any (eqB (.int σ.sg)) = true ↔ ∃ c r, a = c :: r /\ c ∈ ss := by
  rw [List.any_map, List.any_eq_true]
  exact ⟨λ ⟨c, hc, e⟩ => let ⟨r, hr⟩ := (S.is (hss c hc).1 (hss c hc).2).mp e; ⟨c, r, hr, hc⟩, λ ⟨c, r, hr, hc⟩ => ⟨c, hc, (S.is (hss c hc).1 (hss c hc).2).mpr ⟨r, hr⟩⟩⟩
 refine qX (by rw [List.all_map, List.all_eq_true]; exact λ x z => rfl) (And.intro (λ q => h2 λ c r hr hc => ?_) λ q => ?_)
 ·have q : (!((ss.map λ c => AV.int (iv c)).any (eqB (.int σ.sg)))) = true := q
  rw [hany.mpr ⟨c, r, hr, hc⟩] at q
  cases q
 ·have q : (!((ss.map λ c => AV.int (iv c)).any (eqB (.int σ.sg)))) = false := q
  obtain ⟨c, r, rfl, hc⟩ := hany.mp (zhT q)
  exact zE S (hss c hc).1 λ σ' S' => h1 c r σ' rfl hc S'
theorem lK {t : PX} {p : UInt8 -> Bool} (h10 : p 10 = false) (S : Ok θ σ a b)
  (ht : ∀ σ a b, Ok θ σ a b -> ∃ v : Bool, val t (some .lex :: l) (GG θ σ b) = .bool v /\ (∀ P, P -> cnd t (some .lex :: l) (GG θ σ b) P) /\ (v = true ↔ ∃ c r, a = c :: r /\ p c = true))
  (h : ∀ σ', Ok θ σ' (a.dropWhile p) (b ++ a.takeWhile p) -> exL (CL (n + 2)) r (some .lex :: l) (GG θ σ' (b ++ a.takeWhile p)) K) : exL (CL (n + 2)) (.while (.pure t) [.expr (.meth 57 (.loc 0) [])] :: r) (some .lex :: l) (GG θ σ b) K := by
 refine sW (α := LS × Bs × Bs) (λ y => some .lex :: l) (λ s => GG θ s.1 s.2.2) (λ s => Ok θ s.1 s.2.1 s.2.2 /\ s.2.1.dropWhile p = a.dropWhile p /\ s.2.2 ++ s.2.1.takeWhile p = b ++ a.takeWhile p) (λ s => s.2.1.length) (σ, a, b) ⟨S, rfl, rfl⟩ λ s hs K' hn y y y => ?_
 obtain ⟨σ1, a1, b1⟩ := s
 obtain ⟨S1, e1, e2⟩ := hs
 dsimp only at S1 e1 e2
 obtain ⟨v, ev, hc, hv⟩ := ht σ1 a1 b1 S1
 refine hc _ ?_
 rw [ev]
 refine And.intro (λ q => ?_) (λ q => ?_)
 ·obtain ⟨c, r2, rfl, hp⟩ := hv.mp q
  have hc10 : c ≠ 10 := λ z => by rw [z, h10] at hp; cases hp
  refine zE S1 hc10 λ σ' S' => hn (σ', r2, b1 ++ [c]) ⟨S', ?_, ?_⟩ (Nat.lt_succ_self _)
  ·rw [<- e1, List.dropWhile_cons_of_pos hp]
  ·rw [<- e2, List.takeWhile_cons_of_pos hp, List.append_assoc]; rfl
 ·have hst : a1.takeWhile p = [] /\ a1.dropWhile p = a1 := by
   cases a1 with
   | nil => exact ⟨rfl, rfl⟩
   | cons c t =>
    have hp : ¬ p c = true := λ z => bF hv q ⟨c, t, rfl, z⟩
    exact ⟨List.takeWhile_cons_of_neg hp, List.dropWhile_cons_of_neg hp⟩
  rw [hst.1, List.append_nil] at e2
  rw [hst.2] at e1
  subst e1
  rw [<- e2] at h
  exact h σ1 S1
end
section
variable {n : Nat} {Q : QE} {X : XE} {θ : Th} {σ : LS} {a b : Bs} {C : Nat -> List AV -> GS -> QE -> XE -> Prop} {g : GS} {l : Loc} {K : Out -> Prop} {r : List MS}
noncomputable def lvZ (c : UInt8) (a : Bs) : Int := cond (decide ((a.dropWhile (· == 61)).head? = some c)) ((a.takeWhile (· == 61)).length : Int) (-((a.takeWhile (· == 61)).length : Int) - 1)
theorem wB {c : UInt8} (S : Ok θ σ (c :: a) b) (h10 : c ≠ 10) (h : ∀ σ', Ok θ σ' (a.dropWhile (· == 61)) (b ++ c :: a.takeWhile (· == 61)) -> Q (.int (lvZ c a)) (GG θ σ' (b ++ c :: a.takeWhile (· == 61)))) :
  CL (n + 3) 70 [.lex] (GG θ σ b) Q X := by
 have h13 := (S.cons h10).2.2
 have es := S.sgc h10
 show exL (CL (n + 2)) (yJ.drop 2) [some .lex, some (.int σ.sg), some (.int 0)] (GG θ σ b) (yt Q X)
 rw [es]
 refine zE S h10 λ σ0 S0 => ?_
 refine sW (α := LS × Bs × Bs × Nat) (λ s => [some .lex, some (.int (iv c)), some (.int (s.2.2.2 : Int))]) (λ s => GG θ s.1 s.2.2.1)
  (λ s => Ok θ s.1 s.2.1 s.2.2.1 /\ s.2.1.dropWhile (· == 61) = a.dropWhile (· == 61) /\ s.2.2.1 ++ s.2.1.takeWhile (· == 61) = b ++ [c] ++ a.takeWhile (· == 61) /\ s.2.2.2 + (s.2.1.takeWhile (· == 61)).length = (a.takeWhile (· == 61)).length) (λ s => s.2.1.length) (σ0, a, b ++ [c], 0) ⟨S0, rfl, rfl, Nat.zero_add _⟩ λ s hs K' hn y y y => ?_
 obtain (⟨σ1, a1, b1, m⟩) := s
 obtain (⟨S1, e1, e2, e3⟩) := hs
 dsimp only at S1 e1 e2 e3
 have is := S1.is (d := 61) (by decide) (by decide)
 refine And.intro (λ q => ?_) (λ q => ?_)
 ·obtain (⟨r2, rfl⟩) := is.mp q
  refine zE S1 (by decide) λ σ' S' => hn (σ', r2, b1 ++ [61], m + 1) ⟨S', e1, ?_, ?_⟩ (Nat.lt_succ_self _)
  ·rw [<- e2, List.append_assoc]; rfl
  ·rw [<- e3]; exact Nat.succ_add _ _
 ·have hst : ∀ t, a1 ≠ 61 :: t := λ t e => bF is q ⟨t, e⟩
  have h1 : a1.takeWhile (· == 61) = [] /\ a1.dropWhile (· == 61) = a1 := by
   cases a1 with
   | nil => exact ⟨rfl, rfl⟩
   | cons d t =>
    have hp : ¬ (d == 61) = true := λ z => hst t (by rw [eq_of_beq z])
    exact ⟨List.takeWhile_cons_of_neg (p := (· == 61)) hp, List.dropWhile_cons_of_neg (p := (· == 61)) hp⟩
  rw [h1.1, List.append_nil, List.append_assoc] at e2
  rw [h1.2] at e1
  rw [h1.1] at e3
  have e3 : m = (a.takeWhile (· == 61)).length := e3
  have e2 : b1 = b ++ c :: a.takeWhile (· == 61) := e2
  rw [<- e2, <- e1] at h
  have hh := h σ1 S1
  unfold lvZ at hh
  rw [<- e1, <- e3] at hh
  have ed : decide (a1.head? = some c) = decide (σ1.sg = iv c) := zhS (decide_eq_true_iff.trans (Iff.trans ⟨λ z => by
   cases a1 with
   | nil => cases z
   | cons d t => exact ⟨t, congrArg (· :: t) (sIJ z)⟩, λ ⟨t, z⟩ => by rw [z]; rfl⟩ (S1.is h10 h13).symm))
  rw [ed] at hh
  exact And.intro (λ y => trivial) (And.intro (λ y => trivial) hh)
noncomputable def ziA (w : Bs) : AV := cond (wW (zaW (.bytes w))) (.inst 0 [.int 285, .bytes w]) (.inst 0 [zaW (.bytes w), .none])
theorem cL (S : Ok θ σ a b) : zfm σ.sg = true ↔ ∃ c r, a = c :: r /\ isN c = true :=
 (S.test zfm (by decide) (by decide) (by decide)).trans ⟨λ ⟨c, r, h, _, k⟩ => ⟨c, r, h, k⟩, λ ⟨c, r, h, k⟩ => ⟨c, r, h, λ z => by rw [z] at k; exact absurd k (by decide), k⟩⟩
theorem fJ (S : Ok θ σ a []) (h : ∀ σ', Ok θ σ' (a.dropWhile isN) (a.takeWhile isN) -> Q (ziA (a.takeWhile isN)) (GG θ σ' (a.takeWhile isN))) : CL (n + 3) 67 [.lex] (GG θ σ []) Q X := by
 refine lK (p := isN) (by decide) S (λ σ a b S => ⟨zfm σ.sg, rfl, λ z h => h, cL S⟩) λ σ' S' => ?_
 rw [List.nil_append] at S' ⊢
 have l1 := le9 S'.bl
 exact And.intro l1 (And.intro l1 (And.intro (λ z => trivial) (And.intro (λ z => trivial) (h σ' S'))))
noncomputable def zhU (c : UInt8) : Int := if c = 61 then 280 else if c = 60 then 282 else if c = 62 then 281 else 283
theorem pB {c : UInt8} (hc : c = 61 \/ c = 60 \/ c = 62 \/ c = 126) (S : Ok θ σ (c :: a) b) (h1 : ∀ r σ', a = 61 :: r -> Ok θ σ' r b -> Q (.inst 0 [.int (zhU c), .none]) (GG θ σ' b))
  (h2 : (∀ r, a ≠ 61 :: r) -> ∀ σ', Ok θ σ' a b -> Q (.inst 0 [.int (iv c), .none]) (GG θ σ' b)) : CL (n + 2) 65 [.lex, .int (iv c)] (GG θ σ b) Q X := by
 refine vG S (by rcases hc with rfl | rfl | rfl | rfl <;> decide) λ σ1 S1 => ?_
 have is := S1.is (d := 61) (by decide) (by decide)
 refine And.intro (λ q => ?_) (λ q => ?_)
 ·have q : (!(decide (σ1.sg = iv 61))) = true := q
  exact h2 (λ r e => by rw [is.mpr ⟨r, e⟩] at q; cases q) σ1 S1
 ·obtain ⟨r, rfl⟩ := is.mp (zhT q)
  refine vG S1 (by decide) λ σ2 S2 => ?_
  have hh := h1 r σ2 rfl S2
  rcases hc with rfl | rfl | rfl | rfl
  ·exact And.intro (λ z => hh) λ q => nomatch q
  ·exact And.intro (λ q => nomatch q) λ z => And.intro (λ z => hh) λ q => nomatch q
  ·exact And.intro (λ q => nomatch q) λ z => And.intro (λ q => nomatch q) λ z => And.intro (λ z => trivial) (And.intro (λ z => trivial) hh)
  ·exact And.intro (λ q => nomatch q) λ z => And.intro (λ q => nomatch q) λ z => And.intro (λ z => trivial) (And.intro (λ z => trivial) hh)
end
theorem mz {p : UInt8 -> Bool} (h : ∀ i : Fin 256, p i.val.toUInt8 = true) (c : UInt8) : p c = true := by
 have := h ⟨c.toNat, c.toNat_lt⟩
 simpa using this
theorem cM {p q : UInt8 -> Bool} (h : ∀ i : Fin 256, (!p i.val.toUInt8 || q i.val.toUInt8) = true) {c : UInt8} (hp : p c = true) : q c = true := by
 have := mz (p := λ c => !p c || q c) h c
 rw [hp] at this
 exact this
noncomputable def okN (c : UInt8) : Bool := !isB c && (c != 10 && c != 13)
theorem zbX {c : UInt8} (h : wR c = true) : okN c = true := cM (p := wR) (by decide +kernel) h
theorem zjQ {c : UInt8} (h : isN c = true) : okN c = true := cM (p := isN) (by decide +kernel) h
theorem zgK {c : UInt8} (h : isE c = true) : okN c = true := cM (p := isE) (by decide +kernel) h
theorem ziB {c : UInt8} (h : aA c = true) : okN c = true := cM (p := aA) (by decide +kernel) h
theorem zbY (c : UInt8) : (qx (iv c) || (decide (iv c = 46) || false)) = wR c := eq_of_beq (mz (p := λ c => (qx (iv c) || (decide (iv c = 46) || false)) == wR c) (by decide +kernel) c)
theorem cN {p : UInt8 -> Bool} : ∀ {a : Bs} {c : UInt8}, c ∈ a.takeWhile p -> p c = true
 | d :: a, c, h => by
  cases q : p d with
  | true =>
   rw [qW q] at h
   exact (mCM h).elim (λ e => by rw [e]; exact q) cN
  | false => rw [sJ q] at h; cases h
theorem zef : ∀ {a : Bs} {c : UInt8}, c ∈ mQ a -> okN c = true
 | [d], c, h => by
  cases q : isE d with
  | true =>
   have h : c ∈ [d] := by have h : c ∈ (if isE d = true then [d] else []) := h; rwa [if_pos q] at h
   rw [List.mem_singleton.mp h]; exact zgK q
  | false => have h : c ∈ (if isE d = true then [d] else []) := h; rw [q] at h; cases h
 | d :: e :: r, c, h => by
  have h : c ∈ (if isE d = true then (if aA e = true then [d, e] else [d]) else []) := h
  cases q : isE d with
  | true =>
   rw [if_pos q] at h
   cases q2 : aA e with
   | true =>
    rw [if_pos q2] at h
    rcases mCM h with e | h
    ·rw [e]; exact zgK q
    ·rw [List.mem_singleton.mp h]; exact ziB q2
   | false =>
    rw [q2] at h
    rw [List.mem_singleton.mp h]; exact zgK q
  | false => rw [q] at h; cases h
theorem cO {a : Bs} {c : UInt8} (h : c ∈ ur a) : okN c = true := by
 rcases List.mem_append.mp h with h | h
 ·exact (List.mem_append.mp h).elim (λ h => zbX (cN h)) zef
 ·exact zjQ (cN h)
theorem zbZ {p : UInt8 -> Bool} (a : Bs) : a.takeWhile p ++ a.dropWhile p = a := List.takeWhile_append_dropWhile
theorem cP : ∀ a : Bs, mQ a ++ a.drop (mQ a).length = a
 | [] => rfl
 | [d] => by
  show (if isE d = true then [d] else []) ++ [d].drop (if isE d = true then [d] else []).length = [d]
  cases isE d <;> rfl
 | d :: e :: r => by
  show (if isE d = true then (if aA e = true then [d, e] else [d]) else []) ++ (d :: e :: r).drop (if isE d = true then (if aA e = true then [d, e] else [d]) else []).length = _
  cases isE d <;> cases aA e <;> rfl
noncomputable def zeg (a : Bs) : Bs := ((a.dropWhile wR).drop (mQ (a.dropWhile wR)).length).dropWhile isN
theorem wL (a : Bs) : ur a ++ zeg a = a := by
 show (a.takeWhile wR ++ mQ (a.dropWhile wR) ++ _) ++ _ = a
 rw [List.append_assoc, zeg, zbZ, List.append_assoc, cP, zbZ]
theorem zb0 (a : Bs) : a.drop (ur a).length = zeg a := by
 have h2 := congrArg (List.drop (ur a).length) (wL a)
 rw [List.drop_left] at h2
 exact h2.symm
theorem ziC {w : Bs} (h : ∀ c ∈ w, c ≠ 10) : cnt w = 0 := by
 unfold cnt
 rw [List.length_eq_zero_iff, List.filter_eq_nil_iff]
 exact λ c hc e => h c hc (eq_of_beq e)
theorem zb1 {x y : Bs} (h : ∀ c ∈ x, c ≠ 10) : cnt (x ++ y) = cnt y := by rw [cnt_append, ziC h, Nat.zero_add]
theorem zfK {c : UInt8} (h : okN c = true) : c ≠ 10 := λ e => by rw [e] at h; exact absurd h (by decide)
theorem zeh (a : Bs) : cnt (zeg a) = cnt a := by
 conv => rhs; rw [<- wL a]
 exact (zb1 λ c hc => zfK (cO hc)).symm
theorem jN {c : UInt8} {r : Bs} (h : wR c = true) : ∃ t, ur (c :: r) = c :: t := by
 show ∃ t, (c :: r).takeWhile wR ++ _ ++ _ = _
 rw [qW h]
 exact ⟨_, rfl⟩
theorem zgL {c : UInt8} {r : Bs} (h : wR c = true) (hl : (ur (c :: r)).length <= 900) : zdv (ur (c :: r)) := by
 obtain ⟨t, e⟩ := jN (r := r) h
 refine ⟨by rw [e]; exact List.cons_ne_nil _ _, hl, λ d hd => ?_, λ d r' e2 => ?_⟩
 ·have := (band (cO hd)).1
  cases q : isB d with
  | false => rfl
  | true => rw [q] at this; cases this
 ·rw [e] at e2
  rw [<- (List.cons.inj e2).1]
  exact ⟨λ z => by rw [z] at h; exact absurd h (by decide), λ z => by rw [z] at h; exact absurd h (by decide)⟩
section
variable {n : Nat} {Q : QE} {X : XE} {θ : Th} {σ : LS} {a b : Bs} {C : Nat -> List AV -> GS -> QE -> XE -> Prop} {g : GS} {l : Loc} {K : Out -> Prop} {r : List MS}
theorem Err.same {A rest rest' w : Bs} (h : Err A X w rest) (e : cnt rest = cnt rest') : Err A X w rest' := by
 unfold Err at h ⊢; rwa [<- e]
theorem zei (S : Ok θ σ a b) : (qx σ.sg || (decide (σ.sg = 46) || false)) = true ↔ ∃ c r, a = c :: r /\ wR c = true :=
 (S.test (λ s => qx s || (decide (s = 46) || false)) (by decide) (by decide) (by decide)).trans ⟨λ ⟨c, r, h, _, k⟩ => ⟨c, r, h, (zbY c).symm.trans k⟩, λ ⟨c, r, h, k⟩ => ⟨c, r, h, zfK (zbX k), (zbY c).trans k⟩⟩
theorem qd (S : Ok θ σ a b) : qx σ.sg = true ↔ ∃ c r, a = c :: r /\ isD c = true :=
 (S.test qx (by decide) (by decide) (by decide)).trans ⟨λ ⟨c, r, h, _, k⟩ => ⟨c, r, h, k⟩, λ ⟨c, r, h, k⟩ => ⟨c, r, h, λ z => by rw [z] at k; exact absurd k (by decide), k⟩⟩
theorem zgM (S : Ok θ σ a b) (h : ∀ σ', Ok θ σ' (a.drop (mQ a).length) (b ++ mQ a) -> exL (CL (n + 4)) (zL.drop 2) [some .lex, none] (GG θ σ' (b ++ mQ a)) (yt Q X)) : exL (CL (n + 4)) (zL.drop 1) [some .lex, none] (GG θ σ b) (yt Q X) := by
 refine tE (ss := [69, 101]) (λ c hc => by rcases mCM hc with rfl | hc; exact ⟨by decide, by decide⟩; rw [List.mem_singleton.mp hc]; exact ⟨by decide, by decide⟩) S (λ c r σ1 e hc S1 => ?_) λ hno => ?_
 ·subst e
  have hE : isE c = true := by rcases mCM hc with rfl | hc; rfl; rw [List.mem_singleton.mp hc]; rfl
  refine And.intro (λ y => ?_) λ q => nomatch q
  refine tE (ss := [43, 45]) (λ c hc => by rcases mCM hc with rfl | hc; exact ⟨by decide, by decide⟩; rw [List.mem_singleton.mp hc]; exact ⟨by decide, by decide⟩) S1 (λ d r2 σ2 e hd S2 => ?_) λ hno => ?_
  ·subst e
   have hP : aA d = true := by rcases mCM hd with rfl | hd; rfl; rw [List.mem_singleton.mp hd]; rfl
   have e : mQ (c :: d :: r2) = [c, d] := (if_pos hE).trans (if_pos hP)
   rw [e] at h
   rw [List.append_assoc] at S2
   have := h σ2 S2
   rw [show b ++ [c, d] = b ++ [c] ++ [d] from (List.append_assoc b [c] [d]).symm] at this
   exact this
  ·have e : mQ (c :: r) = [c] := by
    cases r with
    | nil => exact if_pos hE
    | cons d t =>
     have hP : ¬ aA d = true := λ z => hno d t rfl (by rcases Bool.or_eq_true_iff.mp z with z | z <;> rw [eq_of_beq z] <;> decide)
     exact (if_pos hE).trans (if_neg hP)
   rw [e] at h
   exact h σ1 S1
 ·have e : mQ a = [] := by
   cases a with
   | nil => rfl
   | cons c r =>
    have hE : ¬ isE c = true := λ z => hno c r rfl (by rcases Bool.or_eq_true_iff.mp z with z | z <;> rw [eq_of_beq z] <;> decide)
    cases r with
    | nil => exact if_neg hE
    | cons d t => exact if_neg hE
  rw [e, List.append_nil] at h
  exact And.intro (λ q => nomatch q) λ y => h σ S
theorem o9 {a0 : Bs} (S : Ok θ σ a b) (e1 : a0.takeWhile wR = b ++ a.takeWhile wR) (e2 : a0.dropWhile wR = a.dropWhile wR) (hh : ∃ c r, a0 = c :: r /\ wR c = true)
  (h : ∀ σ' v, rN (ur a0) = some v -> Ok θ σ' (zeg a0) (ur a0) -> Q (.inst 0 [.int 284, .int v]) (GG θ σ' (ur a0)))
  (hx : rN (ur a0) = none -> Err (alike θ.T) X zjC a0) : CL (n + 5) 68 [.lex] (GG θ σ b) Q X := by
 refine lK (p := wR) (by decide) S (λ σ a b S => ⟨_, rfl, λ z h => And.intro (λ z => trivial) h, zei S⟩) λ σ1 S1 => ?_
 rw [<- e1, <- e2] at S1
 rw [<- e1]
 refine zgM S1 λ σ2 S2 => ?_
 refine lK (p := isN) (by decide) S2 (λ σ a b S => ⟨zfm σ.sg, rfl, λ z h => h, cL S⟩) λ σ3 S3 => ?_
 have S3 : Ok θ σ3 (zeg a0) (ur a0) := S3
 show exL (CL (n + 4)) (zL.drop 3) [some .lex, none] (GG θ σ3 (ur a0)) (yt Q X)
 obtain ⟨c, r, rfl, hc⟩ := hh
 have l1 := S3.bl
 refine And.intro (le9 l1) (And.intro (zgL hc l1) ?_)
 show exL (CL (n + 4)) (zL.drop 4) [some .lex, some (oJ (rN (ur (c :: r))))] (GG θ σ3 (ur (c :: r))) (yt Q X)
 have hh := h σ3
 cases e : rN (ur (c :: r)) with
 | none => exact And.intro (λ z => uT (n := n + 3) S3 (.inl rfl) (by decide) ((hx e).same (zeh _).symm)) λ q => nomatch q
 | some v => exact And.intro (λ q => nomatch q) λ z => hh v e S3
end
noncomputable abbrev Tk := Option (Int × AV) × Bs × Bs
noncomputable def zaN : AV := .inst 0 [.int 287, .none]
noncomputable def uH (θ : Th) (Q : QE) (X : XE) (x : Tk) : Prop := match x.1 with
 | some p => ∀ σ' b', Ok θ σ' x.2.1 b' -> Q (.inst 0 [.int p.1, p.2]) (GG θ σ' b')
 | none => Err (alike θ.T) X x.2.2 x.2.1
noncomputable def fK : Bs -> UInt8
 | d :: _ => d
 | [] => 120
noncomputable def tokN (a : Bs) : Tk := match rN (ur a) with
 | some v => (some (284, .int v), zeg a, [])
 | none => (none, a, zjC)
noncomputable def zgN (r : Bs) : Tk := if r.take 1 = [46] then (if r.take 2 = [46, 46] then (some (279, .none), r.drop 2, []) else (some (278, .none), r.drop 1, [])) else (some (46, .none), r, [])
noncomputable def jO : Nat -> Int -> Bs -> Int × Bs
 | 0, v, a => (v, a)
 | _ + 1, v, [] => (v, [])
 | m + 1, v, c :: r => if isD c = true then jO m (10 * v + iv c - 48) r else (v, c :: r)
theorem itE {α : Type} {p : Prop} [Decidable p] {a b : α} {M : α -> Prop} (h : M (if p then a else b)) : (p -> M a) /\ (¬ p -> M b) := ⟨λ y => by rw [if_pos y] at h; exact h, λ n => by rw [if_neg n] at h; exact h⟩
section
variable {n : Nat} {Q : QE} {X : XE} {θ : Th} {σ : LS} {a b : Bs}
theorem cQ (h : uH θ Q X (tokN a)) : (∀ v, rN (ur a) = some v -> ∀ σ' b', Ok θ σ' (zeg a) b' -> Q (.inst 0 [.int 284, .int v]) (GG θ σ' b')) /\ (rN (ur a) = none -> Err (alike θ.T) X zjC a) := by
 unfold tokN at h
 cases e : rN (ur a) with
 | none => rw [e] at h; exact ⟨λ z e => (nomatch e), λ z => h⟩
 | some v => rw [e] at h; exact ⟨λ z e => sIJ e ▸ h, λ e => (nomatch e)⟩
theorem jP {a0 : Bs} (S : Ok θ σ a b) (e1 : a0.takeWhile wR = b ++ a.takeWhile wR) (e2 : a0.dropWhile wR = a.dropWhile wR) (hh : ∃ c r, a0 = c :: r /\ wR c = true) (h : uH θ Q X (tokN a0)) : CL (n + 5) 68 [.lex] (GG θ σ b) Q X :=
 o9 S e1 e2 hh (λ σ' v e => (cQ h).1 v e σ' _) (cQ h).2
theorem cR : ∀ c ∈ ([46] : Bs), c ≠ 10 /\ c ≠ 13 := λ c h => by rw [List.mem_singleton.mp h]; decide
theorem fL (S : Ok θ σ (46 :: a) []) (hn : isD (fK a) = true -> uH θ Q X (tokN (46 :: a))) (hd : isD (fK a) = false -> uH θ Q X (zgN a)) : CL (n + 6) 66 [.lex] (GG θ σ []) Q X := by
 refine zE S (by decide) λ σ1 S1 => tE cR S1 (λ c r σ2 e hc S2 => ?_) λ hno => And.intro (λ q => nomatch q) λ y => ?_
 ·cases List.mem_singleton.mp hc
  subst e
  have hd := hd rfl
  refine And.intro (λ y => tE cR S2 (λ c r2 σ3 e hc S3 => ?_) λ hno => And.intro (λ q => nomatch q) λ y => ?_) λ q => nomatch q
  ·cases List.mem_singleton.mp hc
   subst e
   exact And.intro (λ y => hd σ3 _ S3) λ q => nomatch q
  ·have e : zgN (46 :: r) = (some (278, .none), r, []) := (if_pos rfl).trans (if_neg λ z => by
    cases r with
    | nil => cases z
    | cons d t => exact hno d t rfl (by cases z; exact .head _))
   rw [e] at hd
   exact hd σ2 _ S2
 ·have hx : qx σ1.sg = isD (fK a) := zhS ((qd S1).trans ⟨λ ⟨c, r, e, k⟩ => by rw [e]; exact k, λ k => by
   cases a with
   | nil => exact absurd k (by decide)
   | cons c r => exact ⟨c, r, rfl, k⟩⟩)
  refine And.intro (λ q => jP (a0 := 46 :: a) S1 rfl rfl ⟨46, a, rfl, rfl⟩ (hn (hx.symm.trans q))) λ q => ?_
  have hd := hd (hx.symm.trans q)
  have e : zgN a = (some (46, .none), a, []) := if_neg λ z => by
   obtain ⟨t, e⟩ := take1.mp z
   exact hno 46 t e (.head _)
  rw [e] at hd
  exact hd σ1 _ S1
theorem ziD {v : Int} (h0 : 0 <= v) (h1 : v < 256) : iv v.toNat.toUInt8 = v := by
 have e : v.toNat.toUInt8.toNat = v.toNat % 256 := UInt8.toNat_ofNat'
 unfold iv
 rw [e, Nat.mod_eq_of_lt ((Int.toNat_lt h0).mpr h1), Int.toNat_of_nonneg h0]
theorem zb2 {v x : Int} (h0 : 0 <= v) (h : qx x = true) : 0 <= 10 * v + x - 48 := by
 have := dT (band h).1
 omega
theorem zgO {m : Nat} {v : Int} {a : Bs} (h : ∀ c r, a = c :: r -> ¬ isD c = true) : jO m v a = (v, a) := by
 cases m with
 | zero => rfl
 | succ m => cases a with
  | nil => rfl
  | cons c r => exact if_neg (h c r rfl)
theorem Ok.put {c : UInt8} (S : Ok θ σ a b) (h : b.length + a.length < 900) : Ok θ σ a (b ++ [c]) :=
 ⟨S.al, S.sg, S.ln, S.pl, S.hT, by rw [xu, Nat.add_right_comm]; exact h, S.hc⟩
theorem lM {v : Int} {r : Bs} (S : Ok θ σ a b) (hr : b.length + a.length < 900) (hD : jO 3 0 a = (v, r)) (h : 0 <= v -> v < 256 -> ∀ σ', Ok θ σ' r (b ++ [v.toNat.toUInt8]) -> Q .none (GG θ σ' (b ++ [v.toNat.toUInt8])))
  (hx : 256 <= v -> Err (alike θ.T) X zje r) : CL (n + 5) 75 [.lex] (GG θ σ b) Q X := by
 refine sW (α := LS × Bs × Int × Nat × Nat) (λ s => [some .lex, some (.int s.2.2.1), some (.int (s.2.2.2.1 : Int))]) (λ s => GG θ s.1 b)
  (λ s => Ok θ s.1 s.2.1 b /\ jO s.2.2.2.2 s.2.2.1 s.2.1 = (v, r) /\ 0 <= s.2.2.1 /\ s.2.2.2.1 + s.2.2.2.2 = 3 /\ s.2.1.length <= a.length) (λ s => s.2.2.2.2) (σ, a, 0, 0, 3) ⟨S, hD, Int.le_refl 0, rfl, Nat.le_refl _⟩ λ s hs K' hn y y y => ?_
 obtain (⟨σ1, a1, u, m, f⟩) := s
 obtain (⟨S1, e1, h0, hm, hl⟩) := hs
 dsimp only at S1 e1 h0 hm hl
 refine And.intro (λ y => trivial) (And.intro (λ q => ?_) (λ q => ?_))
 ·have q := band q
  obtain (⟨c, t, rfl, hc⟩) := (qd S1).mp (band q.2).1
  have hc10 : c ≠ 10 := λ z => by rw [z] at hc; exact absurd hc (by decide)
  have e := S1.sgc hc10
  have hm3 : m < 3 := Int.ofNat_lt.mp (dT q.1)
  cases f with
  | zero => exact absurd hm (Nat.ne_of_lt hm3)
  | succ f =>
   have e1 : jO f (10 * u + iv c - 48) t = (v, r) := (if_pos hc).symm.trans e1
   refine And.intro (.inl ⟨by decide, by decide⟩) (vG S1 hc10 λ σ' S' => hn (σ', t, 10 * u + σ1.sg - 48, m + 1, f) ⟨S', e ▸ e1, zb2 h0 (e ▸ hc), (Nat.succ_add m f).trans hm, nLT (Nat.le_succ _) hl⟩ (Nat.lt_succ_self _))
 ·have e2 : jO f u a1 = (u, a1) := by
   cases f with
   | zero => rfl
   | succ f =>
    refine zgO λ c t e hc => ?_
    have q : (decide ((m : Int) < 3) && (qx σ1.sg && true)) = false := q
    rw [(qd S1).mpr ⟨c, t, e, hc⟩, decide_eq_true (by omega)] at q
    cases q
  have e := e2.symm.trans e1
  cases e
  refine And.intro (λ q => uT (n := n + 3) S1 (.inr (.inl rfl)) (by decide) (hx (dT q))) λ q => ?_
  have hv : v < 256 := Int.lt_of_not_ge λ z => dF (p := (255 : Int) < v) q (Int.lt_of_lt_of_le (by decide) z)
  exact qY (n := n + 3) ⟨h0, hv⟩ S1.bl (h h0 hv σ1 (S1.put (Nat.lt_of_le_of_lt (Nat.add_le_add_left hl _) hr)))
end
noncomputable abbrev Qt := Bs × Bs × Bs
noncomputable def zgP (c : UInt8) (x : Option Qt) : Option Qt := x.map λ y => (c :: y.1, y.2)
noncomputable def zjR (rec : Bs -> Option Qt) (x : Int × Bs) : Option Qt := if x.1 < 256 then zgP x.1.toNat.toUInt8 (rec x.2) else some ([], x.2, zje)
noncomputable def zkS (rec : Bs -> Option Qt) (c : UInt8) (r : Bs) : Option Qt := if isD c = true then zjR rec (jO 3 0 (c :: r)) else zgP (nameE c) (rec r)
noncomputable def zjS (rec : Bs -> Option Qt) : Bs -> Option Qt
 | [] => rec []
 | c :: r => zkS rec c r
noncomputable def zkm (rec : Bs -> Option Qt) (c : UInt8) (r : Bs) : Option Qt := if c = 92 then zjS rec r else zgP c (rec r)
noncomputable def zkT (rec : Bs -> Option Qt) (c : UInt8) (r : Bs) : Option Qt := if c = 10 then some ([], c :: r, zjd) else zkm rec c r
noncomputable def zkn (rec : Bs -> Option Qt) (q c : UInt8) (r : Bs) : Option Qt := if c = q then some ([], r, []) else zkT rec c r
noncomputable def quo (q : UInt8) : Nat -> Bs -> Option Qt
 | 0, _ => none
 | _ + 1, [] => some ([], [], zjd)
 | f + 1, c :: r => zkn (quo q f) q c r
noncomputable def uf (acc : Bs) (x : Option Qt) : Option Qt := x.map λ y => (acc ++ y.1, y.2)
theorem cT (acc : Bs) (c : UInt8) : ∀ x : Option Qt, uf acc (zgP c x) = uf (acc ++ [c]) x
 | none => rfl
 | some y => by
  show some (acc ++ c :: y.1, y.2) = some (acc ++ [c] ++ y.1, y.2)
  rw [List.append_assoc]; rfl
theorem cU {acc r w : Bs} {R : Qt} (h : uf acc (some ([], r, w)) = some R) : R = (acc, r, w) := (sIJ h).symm.trans (congrArg (λ z => (z, r, w)) (List.append_nil acc))
noncomputable def ziE (x : Qt) : Tk := match x.2.2 with
 | [] => (some (286, .bytes x.1), x.2.1, [])
 | d :: w => (none, x.2.1, d :: w)
section
variable {n : Nat} {Q : QE} {X : XE} {θ : Th} {σ : LS} {a b : Bs}
theorem ziF (c : UInt8) : zdo (wW (zdu (iv c))) (.int (iv c)) (zdu (iv c)) = .int (iv (nameE c)) := by
 have := mz (p := λ c => decide ((vM (iv c) (-1) xO = -1 /\ nameE c = c) \/ (vM (iv c) (-1) xO = ((nameE c).toNat : Int)))) (by decide +kernel) c
 unfold zdu
 rcases of_decide_eq_true this with ⟨h, k⟩ | h
 ·rw [h, k]; rfl
 ·rw [h]; rfl
theorem lN (S : Ok θ σ a b) (hr : b.length + a.length < 900) (h0 : a = [] -> Q .none (GG θ σ b)) (h1 : ∀ c r, a = c :: r -> isD c = false -> ∀ σ', Ok θ σ' r (b ++ [nameE c]) -> Q .none (GG θ σ' (b ++ [nameE c])))
  (h2 : ∀ c r v t, a = c :: r -> isD c = true -> jO 3 0 a = (v, t) -> (0 <= v -> v < 256 -> ∀ σ', Ok θ σ' t (b ++ [v.toNat.toUInt8]) -> Q .none (GG θ σ' (b ++ [v.toNat.toUInt8]))) /\ (256 <= v -> Err (alike θ.T) X zje t)) : CL (n + 6) 74 [.lex] (GG θ σ b) Q X := by
 refine And.intro (λ q => h0 (S.eof.mp q)) (λ q => And.intro (λ q2 => ?_) (λ q2 => And.intro (λ q3 => ?_) (λ q3 => ?_)))
 ·obtain ⟨r, rfl⟩ := S.isnl.mp q2
  exact qY (n := n + 4) (x := 10) (by decide) S.bl (sS (n := n + 3) (S.put (c := 10) hr) λ σ' S' => h1 10 r rfl rfl σ' S')
 ·obtain ⟨c, r, e, hc⟩ := (qd S).mp q3
  cases eD : jO 3 0 a with
  | mk v t => exact lM S hr eD (h2 c r v t e hc eD).1 (h2 c r v t e hc eD).2
 ·rcases S.view with ⟨_, e⟩ | ⟨r, e, _⟩ | ⟨c, r, rfl, h10, _, e⟩
  ·exact absurd (decide_eq_true e) (by rw [show decide (σ.sg = -1) = false from q]; exact Bool.false_ne_true)
  ·exact absurd ⟨r, e⟩ (bF S.isnl q2)
  ·have go : CL (n + 5) 56 [.lex, zdo (wW (zdu σ.sg)) (.int σ.sg) (zdu σ.sg)] (GG θ σ b) (λ z g => exL (CL (n + 5)) [.expr (.meth 55 (.loc 0) [])] [some .lex, some (zdu σ.sg)] g (yt Q X)) X := by
    rw [e, ziF]
    refine qY (jJ _) S.bl ?_
    rw [iZ]
    exact vG (S.put hr) h10 λ σ' S' => h1 c r rfl (show qx (iv c) = false from e ▸ q3) σ' S'
   exact And.intro (show 0 <= σ.sg /\ σ.sg < 256 from e ▸ jJ c) (And.intro (λ z => trivial) (And.intro (λ z => trivial) go))
theorem Ok.less {c : UInt8} {a' : Bs} (S : Ok θ σ (c :: a) b) (h : a'.length <= a.length) : b.length + a'.length < 900 := Nat.lt_of_lt_of_le (Nat.add_lt_add_left (Nat.lt_succ_of_le h) _) S.room
theorem lO {q : UInt8} {R : Qt} {f : Nat} (hq : q = 34 \/ q = 39) (S : Ok θ σ (q :: a) []) (hQ : quo q f a = some R) (h : uH θ Q X (ziE R)) : CL (n + 7) 73 [.lex, .int (iv q)] (GG θ σ []) Q X := by
 have q10 : q ≠ 10 := by rcases hq with rfl | rfl <;> decide
 have q13 : q ≠ 13 := by rcases hq with rfl | rfl <;> decide
 have q92 : (92 : UInt8) ≠ q := by rcases hq with rfl | rfl <;> decide
 have fin : ∀ {acc r w}, uf acc (some ([], r, w)) = some R -> uH θ Q X (ziE (acc, r, w)) := λ e => cU e ▸ h
 have finX : ∀ {acc r d w}, uf acc (some ([], r, d :: w)) = some R -> Err (alike θ.T) X (d :: w) r := fin
 refine zE S q10 λ σ1 S1 => ?_
 have e0 : uf [] (quo q f a) = some R := by rw [hQ]; rfl
 clear h hQ S
 refine sW (α := LS × Bs × Bs × Nat) (λ y => [some .lex, some (.int (iv q))]) (λ s => GG θ s.1 (q :: s.2.2.1)) (λ s => Ok θ s.1 s.2.1 (q :: s.2.2.1) /\ uf s.2.2.1 (quo q s.2.2.2 s.2.1) = some R) (λ s => s.2.2.2) (σ1, a, [], f) ⟨S1, e0⟩ λ s hs K' hn y y hx => ?_
 clear S1 e0
 obtain (⟨σ1, a1, acc, f⟩) := s
 obtain (⟨S1, e1⟩) := hs
 dsimp only at S1 e1 hn
 cases f with
 | zero => exact nomatch e1
 | succ f =>
  have next : ∀ c a2 σ2, uf acc (zgP c (quo q f a2)) = some R -> Ok θ σ2 a2 (q :: acc ++ [c]) -> K' (.nx [some .lex, some (.int (iv q))] (GG θ σ2 (q :: acc ++ [c]))) := λ c a2 σ2 e S2 => hn (σ2, a2, acc ++ [c], f) ⟨S2, cT acc c _ ▸ e⟩ (Nat.lt_succ_self f)
  refine And.intro (λ n1 => And.intro (λ q1 => ?_) (λ q1 => And.intro (λ q2 => ?_) (λ q2 => And.intro (λ q3 => ?_) (λ q3 => ?_)))) (λ n1 => ?_)
  ·cases S1.eof.mp q1
   exact uT S1 (.inr (.inr (.inl rfl))) (by decide) λ t => hx _ (finX e1 t)
  ·obtain (⟨r, rfl⟩) := S1.isnl.mp q2
   exact uT S1 (.inr (.inl rfl)) (by decide) λ t => hx _ (finX ((congrArg (uf acc) ((if_neg q10.symm).trans (if_pos rfl))).symm.trans e1) t)
  ·obtain (⟨r, rfl⟩) := (S1.is (d := 92) (by decide) (by decide)).mp q3
   have e1 : uf acc (zjS (quo q f) r) = some R := (congrArg (uf acc) ((if_neg q92).trans ((if_neg (by decide)).trans (if_pos rfl)))).symm.trans e1
   refine vG S1 (by decide) λ σ2 S2 => lN S2 (S1.less (Nat.le_refl _)) (λ e => ?_) (λ c r2 e hd σ3 S3 => ?_) (λ c r2 v t e hd hD => ?_)
   ·subst e
    exact hn (σ2, [], acc, f) ⟨S2, e1⟩ (Nat.lt_succ_self f)
   ·subst e
    exact next _ r2 σ3 ((congrArg (uf acc) (if_neg (by rw [hd]; exact Bool.false_ne_true))).symm.trans e1) S3
   ·subst e
    have e1 : uf acc (zjR (quo q f) (v, t)) = some R := hD ▸ (congrArg (uf acc) (if_pos hd)).symm.trans e1
    exact ⟨λ y hv σ3 S3 => next _ t σ3 ((congrArg (uf acc) (if_pos hv)).symm.trans e1) S3, λ hv t => hx _ (finX ((congrArg (uf acc) (if_neg (Int.not_lt.mpr hv))).symm.trans e1) t)⟩
  ·rcases S1.view with ⟨_, e⟩ | ⟨r, e, _⟩ | ⟨c, r, rfl, h10, _, e⟩
   ·exact absurd (decide_eq_true e) (by rw [show decide (σ1.sg = -1) = false from q1]; exact Bool.false_ne_true)
   ·exact absurd ⟨r, e⟩ (bF S1.isnl q2)
   ·have cq : c ≠ q := λ z => bF ((S1.is q10 q13).symm.trans ⟨λ z => z, λ z => z⟩ |>.symm) (show decide (σ1.sg = iv q) = false from Bool.not_eq_true' _ ▸ n1) ⟨r, by rw [z]⟩
    have c92 : c ≠ 92 := λ z => bF (S1.is (d := 92) (by decide) (by decide)) q3 ⟨r, by rw [z]⟩
    exact zE S1 h10 λ σ2 S2 => next c r σ2 ((congrArg (uf acc) ((if_neg cq).trans ((if_neg h10).trans (if_neg c92)))).symm.trans e1) S2
  ·obtain (⟨r, rfl⟩) := (S1.is q10 q13).mp (zhT n1)
   have h := fin ((congrArg (uf acc) (if_pos rfl)).symm.trans e1)
   refine zE S1 q10 λ σ2 S2 => ?_
   have e : yq (q :: acc ++ [q]) (some 1) (some (((q :: acc ++ [q]).length : Int) - 1)) = acc := by
    rw [show (((q :: acc ++ [q]).length : Int) - 1) = ((acc.length + 1 : Nat) : Int) from (congrArg (λ z : Nat => (z : Int) - 1) List.length_append).trans (Int.add_sub_cancel ((acc.length + 1 : Nat) : Int) 1)]
    exact (zea _ 1 _).trans List.take_left
   exact And.intro (le9 S2.bl) (And.intro (le9 S2.bl) (show Q (.inst 0 [.int 286, .bytes (yq (q :: acc ++ [q]) (some 1) (some (((q :: acc ++ [q]).length : Int) - 1)))]) _ by rw [e]; exact h σ2 _ S2))
end
noncomputable def eqz (a : Bs) : Bs := a.takeWhile (· == 61)
noncomputable def neq (a : Bs) : Bs := a.dropWhile (· == 61)
noncomputable def SR.puts (p : Bs) : SR -> SR
 | .done t r => .done (p ++ t) r
 | x => x
theorem zej : ∀ x : SR, x.puts [] = x
 | .done _ _ => rfl
 | .nest _ => rfl
 | .unf => rfl
theorem tG (p : Bs) (c : UInt8) : ∀ x : SR, (x.put c).puts p = x.puts (p ++ [c])
 | .done t r => congrArg (SR.done · r) (List.append_cons p c t)
 | .nest _ => rfl
 | .unf => rfl
theorem zhV {c d : UInt8} (h : c ≠ d) : (c == d) = false := beq_eq_false_iff_ne.mpr h
theorem mC {c : UInt8} {r : Bs} (h : c ≠ 61) : eqz (c :: r) = [] /\ neq (c :: r) = c :: r := ⟨sJ (zhV h), List.dropWhile_cons_of_neg (p := (· == 61)) (by rw [zhV h]; exact Bool.false_ne_true)⟩
theorem zb3 {a : Bs} {c : UInt8} (h : c ∈ eqz a) : c = 61 := eq_of_beq (cN (p := (· == 61)) h)
theorem mD (a : Bs) : eqz a ++ neq a = a := zbZ a
theorem zgQ (a : Bs) : (neq a).length <= a.length := (List.dropWhile_sublist _).length_le
theorem zb4 (a : Bs) : cnt (neq a) = cnt a := by
 conv => rhs; rw [<- mD a]
 exact (zb1 λ c h e => absurd ((zb3 h).symm.trans e) (by decide)).symm
theorem pC {c : UInt8} {a : Bs} {m : Nat} : lvZ c a = m ↔ (neq a).head? = some c /\ (eqz a).length = m := by
 unfold lvZ
 by_cases h : (neq a).head? = some c
 ·rw [show decide ((a.dropWhile (· == 61)).head? = some c) = true from decide_eq_true h]
  exact ⟨λ e => ⟨h, Int.ofNat.inj e⟩, λ e => congrArg Int.ofNat e.2⟩
 ·rw [show decide ((a.dropWhile (· == 61)).head? = some c) = false from decide_eq_false h]
  refine ⟨λ e => ?_, λ e => absurd e.1 h⟩
  have e : -((eqz a).length : Int) - 1 = m := e
  omega
theorem tH {a : Bs} {c : UInt8} (h : a.head? = some c) : ∃ t, a = c :: t := by
 cases a with
 | nil => cases h
 | cons d t => exact ⟨t, congrArg (· :: t) (sIJ h)⟩
theorem zfL : ∀ (m : Nat) (r : Bs), (List.replicate m (61 : UInt8) ++ [93]).isPrefixOf r = true ↔ (neq r).head? = some 93 /\ (eqz r).length = m
 | 0, [] => ⟨λ h => (nomatch h), λ h => (nomatch h.1)⟩
 | _ + 1, [] => ⟨λ h => (nomatch h), λ h => (nomatch h.1)⟩
 | 0, c :: t => by
  show (93 == c && true) = true ↔ _
  rw [Bool.and_true, beq_iff_eq]
  by_cases h : c = 61
  ·subst h; exact ⟨λ h => absurd h (by decide), λ h => nomatch h.2⟩
  ·rw [(mC h).1, (mC h).2]
   exact ⟨λ e => ⟨congrArg some e.symm, rfl⟩, λ e => (sIJ e.1).symm⟩
 | m + 1, c :: t => by
  show (61 == c && (List.replicate m (61 : UInt8) ++ [93]).isPrefixOf t) = true ↔ _
  rw [Bool.and_eq_true, beq_iff_eq, zfL m t]
  by_cases h : c = 61
  ·subst h
   exact ⟨λ e => ⟨e.2.1, congrArg (· + 1) e.2.2⟩, λ e => ⟨rfl, e.1, Nat.succ.inj e.2⟩⟩
  ·rw [(mC h).1]
   exact ⟨λ e => absurd e.1.symm h, λ e => nomatch e.2⟩
theorem mF {m : Nat} {r : Bs} : (closer m).isPrefixOf (93 :: r) = true ↔ lvZ 93 r = m := (zfL m r).trans pC.symm
theorem vX {m : Nat} {c : UInt8} {r : Bs} (h : c ≠ 93) : ¬ (closer m).isPrefixOf (c :: r) = true := λ e => h (eq_of_beq (band e).1).symm
theorem qe {c : UInt8} {r : Bs} : [91, 91].isPrefixOf (c :: r) = true ↔ c = 91 /\ r.head? = some 91 := by
 cases r with
 | nil => exact ⟨λ e => absurd (band e).2 Bool.false_ne_true, λ e => nomatch e.2⟩
 | cons d t =>
  show (91 == c && (91 == d && true)) = true ↔ _
  rw [Bool.and_true, Bool.and_eq_true, beq_iff_eq, beq_iff_eq]
  exact ⟨λ e => ⟨e.1.symm, congrArg some e.2.symm⟩, λ e => ⟨e.1.symm, (sIJ e.2).symm⟩⟩
theorem pD {m : Nat} {c : UInt8} {r : Bs} (h1 : ¬ (closer m).isPrefixOf (c :: r) = true) (h2 : ¬ (m = 0 /\ [91, 91].isPrefixOf (c :: r) = true)) : zY m (c :: r) = (zY m r).put c := (if_neg h1).trans (if_neg h2)
theorem lQ {m : Nat} {c : UInt8} {r : Bs} (h1 : c ≠ 93) (h2 : c ≠ 91) : zY m (c :: r) = (zY m r).put c := pD (vX h1) λ h => h2 (qe.mp h.2).1
theorem zek (m : Nat) (p : Bs) (r : Bs) : (zY m r).puts p = (zY m (neq r)).puts (p ++ eqz r) := by
 induction r generalizing p with
 | nil => exact congrArg (λ z => (zY m []).puts z) (List.append_nil p).symm
 | cons c r ih =>
  by_cases h : c = 61
  ·subst h
   rw [lQ (by decide) (by decide), tG, ih, List.append_assoc]; rfl
  ·rw [(mC h).1, (mC h).2, List.append_nil]
theorem fM {m : Nat} (c : UInt8) (r p : Bs) (h1 : ¬ (closer m).isPrefixOf (c :: r) = true) (h2 : ¬ (m = 0 /\ [91, 91].isPrefixOf (c :: r) = true)) : (zY m (c :: r)).puts p = (zY m (neq r)).puts (p ++ c :: eqz r) := by
 rw [pD h1 h2, tG, zek, List.append_assoc]
 rfl
theorem Ok.cut {θ : Th} {σ : LS} {a b b' : Bs} (S : Ok θ σ a b) (h : b'.length <= b.length) : Ok θ σ a b' := ⟨S.al, S.sg, S.ln, S.pl, S.hT, nLT (Nat.add_le_add_right h _) S.room, S.hc⟩
theorem zgR {B t e : Bs} {m : Nat} (h : e.length = m + 2) : yq (B ++ t ++ e) (some (B.length : Int)) (some (((B ++ t ++ e).length : Int) - m - 2)) = t := by
 have : ((B ++ t ++ e).length : Int) - m - 2 = ((B ++ t).length : Nat) := by
  rw [List.length_append, h]; omega
 rw [this]
 refine (zea _ _ _).trans ?_
 rw [List.append_assoc, List.drop_left, List.length_append, Nat.add_sub_cancel_left, List.take_left]
theorem sM {C : Nat -> List AV -> GS -> QE -> XE -> Prop} {l : Loc} {g : GS} {K : Out -> Prop} {r : List MS} {k : Nat} {es : List PX} (vs : List AV) (hc : ∀ P : Prop, P -> kj es (some .lex :: l) g P) (ev : uJ es (some .lex :: l) g = vs)
  (h : C k (.lex :: vs) g (λ z g' => exL C r (some .lex :: l) g' K) (λ m => K (.xc m))) : exL C (.expr (.meth k (.loc 0) es) :: r) (some .lex :: l) g K := by
 subst ev; exact hc _ h
section
variable {n : Nat} {Q : QE} {X : XE} {θ : Th} {σ : LS} {a b : Bs}
theorem jQ {m : Nat} (S : Ok θ σ (91 :: a) b) (h1 : ¬ lvZ 91 a = m -> ∀ σ', Ok θ σ' (neq a) (b ++ 91 :: eqz a) -> Q .none (GG θ σ' (b ++ 91 :: eqz a)))
  (h2 : ∀ t, neq a = 91 :: t -> m ≠ 0 -> ∀ σ', Ok θ σ' t (b ++ 91 :: eqz a ++ [91]) -> Q .none (GG θ σ' (b ++ 91 :: eqz a ++ [91])))
  (hx : m = 0 -> lvZ 91 a = m -> Err (alike θ.T) X kJ (91 :: a)) : CL (n + 5) 72 [.lex, .int (m : Int)] (GG θ σ b) Q X := by
 refine id (α := exL (CL (n + 4)) yK [some .lex, some (.int (m : Int))] (GG θ σ b) (yt Q X)) ?_
 refine wB S (by decide) λ σ1 S1 => And.intro (λ q => ?_) (λ q => h1 (dF q) σ1 S1)
 have q : lvZ 91 a = m := dT q
 obtain ⟨t, e⟩ := tH (pC.mp q).1
 have S1 : Ok θ σ1 (neq a) (b ++ 91 :: eqz a) := S1
 rw [e] at S1
 refine zE S1 (by decide) λ σ2 S2 => And.intro (λ z => ?_) (λ z => ?_)
 rotate_left
 ·have z : ¬ (m : Int) = 0 := dF z
  exact h2 t e (λ y => z (by rw [y]; rfl)) σ2 S2
 have z : (m : Int) = 0 := dT z
 have hx := hx (Int.ofNat_eq_zero.mp z) q
 refine uT (n := n + 3) S2 (.inr (.inr (.inr rfl))) (by decide) (hx.same ?_)
 rw [jM (by decide), <- zb4 a, e, jM (by decide)]
noncomputable def zel (θ : Th) (Q : QE) (X : XE) (isT : Bool) : SR -> Prop
 | .done t rest => ∀ b' σ' t', (isT = true -> t' = t) -> Ok θ σ' rest b' -> Q (.bytes t') (GG θ σ' b')
 | .nest rest => Err (alike θ.T) X kJ rest
 | .unf => Err (alike θ.T) X (cond isT zf6 za1) []
theorem pF {m : Nat} {isT : Bool} (S : Ok θ σ (91 :: a) b) (h : zel θ Q X isT (zY m (zW a))) : CL (n + 6) 71 [.lex, .int (m : Int), .bool isT] (GG θ σ b) Q X := by
 refine zE S (by decide) λ σ1 S1 => ?_
 generalize b ++ [91] = B at S1
 have main : ∀ σ2, Ok θ σ2 (zW a) B -> exL (CL (n + 5)) (yU.drop 2) [some .lex, some (.int (m : Int)), some (.bool isT), none] (GG θ σ2 B) (yt Q X) := λ σ2 S2 => by
  refine And.intro (le9 S2.bl) ?_
  refine sW (α := LS × Bs × Bs × Bs) (λ v => [some .lex, some (.int (m : Int)), some (.bool isT), some (.int (B.length : Int))]) (λ s => GG θ s.1 s.2.2.1)
   (λ s => Ok θ s.1 s.2.1 s.2.2.1 /\ (isT = true -> s.2.2.1 = B ++ s.2.2.2) /\ zel θ Q X isT ((zY m s.2.1).puts s.2.2.2)) (λ s => s.2.1.length) (σ2, zW a, B, []) ⟨S2, λ v => (List.append_nil B).symm, (zej _).symm ▸ h⟩ λ s hs K' hn v hr hx => ?_
  clear S2 S1 S h
  obtain (⟨σ1, a1, b1, acc⟩) := s
  obtain (⟨S1, hb, h⟩) := hs
  dsimp only at S1 hb h hn
  have next : ∀ a2 p q σ2, a2.length < a1.length -> zel θ Q X isT ((zY m a2).puts (acc ++ p)) -> (isT = true -> q = p) -> Ok θ σ2 a2 (b1 ++ q) -> K' (.nx [some .lex, some (.int (m : Int)), some (.bool isT), some (.int (B.length : Int))] (GG θ σ2 (b1 ++ q))) :=
   λ a2 p q σ2 hl hz hq S2 => hn (σ2, a2, b1 ++ q, acc ++ p) ⟨S2, λ z => by rw [hb z, hq z, List.append_assoc], hz⟩ hl
  have lvl : ∀ r, (neq r).length < r.length + 1 := λ r => Nat.lt_succ_of_le (zgQ r)
  refine And.intro (λ v => And.intro (λ q1 => ?_) (λ q1 => And.intro (λ q2 => ?_) (λ q2 => And.intro (λ q3 => ?_) (λ q3 => And.intro (λ q4 => ?_) (λ q4 => ?_))))) (λ q => nomatch q)
  ·cases S1.eof.mp q1
   exact And.intro (λ v => trivial) (And.intro (λ v => trivial) (uT (w := cond isT zf6 za1) S1 (.inr (.inr (.inl rfl))) (by cases isT <;> decide) λ t => hx _ (h t)))
  ·obtain (⟨r, rfl⟩) := (S1.is (d := 91) (by decide) (by decide)).mp q2
   have nest : m = 0 /\ [91, 91].isPrefixOf (91 :: r) = true -> lvZ 91 r = m := λ z => by
    obtain (⟨t, e⟩) := tH (qe.mp z.2).2
    rw [e]
    exact pC.mpr ⟨rfl, z.1.symm⟩
   have nest2 : m = 0 -> lvZ 91 r = m -> zY m (91 :: r) = .nest (91 :: r) := λ hm hl => (if_neg (vX (by decide))).trans (if_pos ⟨hm, qe.mpr ⟨rfl, by
    obtain (⟨h1, h2⟩) := pC.mp hl
    have e := mD r
    rw [List.length_eq_zero_iff.mp (h2.trans hm)] at e
    exact e ▸ h1⟩⟩)
   refine sM [.int (m : Int)] (λ v h => h) rfl (jQ S1 (λ hl σ2 S2 => next _ _ _ σ2 (lvl r) (fM 91 r acc (vX (by decide)) (λ z => hl (nest z)) ▸ h) (λ v => rfl) S2) (λ t e hm σ2 S2 => ?_) (λ hm hl t => hx _ ((nest2 hm hl ▸ h) t)))
   ·have ea : b1 ++ 91 :: eqz r ++ [91] = b1 ++ (91 :: eqz r ++ [91]) := List.append_assoc b1 _ _
    show K' (.nx _ (GG θ σ2 (b1 ++ 91 :: eqz r ++ [91])))
    rw [ea]
    refine next t (91 :: eqz r ++ [91]) (91 :: eqz r ++ [91]) σ2 (by have := lvl r; rw [e] at this; exact Nat.lt_of_succ_lt this) ?_ (λ v => rfl) (ea ▸ S2)
    rw [fM 91 r acc (vX (by decide)) λ z => hm z.1] at h
    rw [e, pD (vX (by decide)) λ z => hm z.1, tG, List.append_assoc] at h
    exact h
  ·obtain (⟨r, rfl⟩) := (S1.is (d := 93) (by decide) (by decide)).mp q3
   refine wB S1 (by decide) λ σ2 S2 => And.intro (λ z => ?_) (λ z => next _ _ _ σ2 (lvl r) (fM 93 r acc (λ y => (dF z : ¬ lvZ 93 r = m) (mF.mp y)) (λ y => absurd (qe.mp y.2).1 (by decide)) ▸ h) (λ v => rfl) S2)
   have z : lvZ 93 r = m := dT z
   obtain (⟨h1, h2⟩) := pC.mp z
   obtain (⟨t, e⟩) := tH h1
   have S2 : Ok θ σ2 (neq r) (b1 ++ 93 :: eqz r) := S2
   rw [e] at S2
   have ed : (93 :: r).drop (m + 2) = t := by
    show r.drop (m + 1) = t
    rw [<- mD r, e, <- h2, <- List.drop_drop, List.drop_left]; rfl
   have es : zY m (93 :: r) = .done [] t := (if_pos (mF.mpr z)).trans (by rw [ed])
   rw [es] at h
   have h : zel θ Q X isT (.done (acc ++ []) t) := h
   rw [List.append_nil] at h
   have ec : isT = true -> yq (b1 ++ 93 :: eqz r ++ [93]) (some (B.length : Int)) (some (((b1 ++ 93 :: eqz r ++ [93]).length : Int) - m - 2)) = acc := λ y => by
    rw [show b1 ++ 93 :: eqz r ++ [93] = B ++ acc ++ (93 :: eqz r ++ [93]) by rw [hb y, List.append_assoc]]
    exact zgR (by rw [List.length_append, List.length_cons, h2]; rfl)
   refine zE S2 (by decide) λ σ3 S3 => ?_
   have fin := hr _ _ (h _ σ3 _ ec S3)
   exact And.intro (le9 S3.bl) (And.intro (le9 S3.bl) fin)
  ·obtain (⟨r, rfl⟩) := S1.isnl.mp q4
   have hl : b1.length + (10 :: r).length <= 900 := S1.room
   rw [lQ (by decide) (by decide), tG] at h
   refine qY (x := 10) (by decide) S1.bl (qZ (n := n + 3) S1 (b := b1 ++ [10]) (by rw [xu, Nat.add_assoc, Nat.add_comm 1]; exact hl) λ σ2 S2 => And.intro (λ z => ?_) (λ z => next r [10] [10] σ2 (Nat.lt_succ_self _) h (λ v => rfl) S2))
   have z : (!isT) = true := z
   have fin := hn (σ2, r, (b1 ++ [10]).take B.length, acc ++ [10]) ⟨S2.cut (List.length_take_le' _ _), λ y => (by rw [y] at z; cases z), h⟩ (Nat.lt_succ_self _)
   exact And.intro (le9 S2.bl) (And.intro (Int.natCast_nonneg _) fin)
  ·rcases S1.view with ⟨_, e⟩ | ⟨r, e, _⟩ | ⟨c, r, rfl, h10, _, e⟩
   ·exact absurd (decide_eq_true e) (by rw [show decide (σ1.sg = -1) = false from q1]; exact Bool.false_ne_true)
   ·exact absurd ⟨r, e⟩ (bF S1.isnl q4)
   ·have c91 : c ≠ 91 := λ z => bF (S1.is (d := 91) (by decide) (by decide)) q2 ⟨r, by rw [z]⟩
    have c93 : c ≠ 93 := λ z => bF (S1.is (d := 93) (by decide) (by decide)) q3 ⟨r, by rw [z]⟩
    rw [lQ c93 c91, tG] at h
    refine And.intro (λ v => zE S1 h10 λ σ2 S2 => next r [c] [c] σ2 (Nat.lt_succ_self _) h (λ v => rfl) S2) (λ z => vG S1 h10 λ σ2 S2 => ?_)
    have := next r [c] [] σ2 (Nat.lt_succ_self _) h (λ y => by rw [y] at z; cases z)
    rw [List.append_nil] at this
    exact this S2
 refine And.intro (λ q => ?_) (λ q => ?_)
 ·obtain (⟨r, rfl⟩) := S1.isnl.mp q
  exact sS (n := n + 3) S1 λ σ2 S2 => main σ2 S2
 ·refine main σ1 ?_
  have : zW a = a := by
   cases a with
   | nil => rfl
   | cons c r => exact if_neg λ z => bF S1.isnl q ⟨r, by rw [z]⟩
  rw [this]
  exact S1
end
section
variable {C : Nat -> List AV -> GS -> QE -> XE -> Prop} {l : Loc} {g : GS} {K : Out -> Prop} {r : List MS} {k : Nat} {es : List PX} {n : Nat} {Q : QE} {X : XE}
theorem enter {nl na : Nat} {b : List MS} {args : List AV} (l : Loc) (hd : zgJ k = some ⟨nl, na, b⟩) (hb : Nat.beq args.length na = true) (hl : yR args nl = l) (h : exL (CL n) b l g (yt Q X)) : CL (n + 1) k args g Q X := by
 subst hl
 show zh7 (CL n) (zgJ k) args g Q X
 rw [hd]
 show dec (Nat.beq args.length na) _
 rw [hb]
 exact h
theorem sAM {j : Nat} (vs : List AV) (hc : ∀ P : Prop, P -> kj es (some .lex :: l) g P) (ev : uJ es (some .lex :: l) g = vs)
  (h : C k (.lex :: vs) g (λ v g' => exL C r (setL (some .lex :: l) j v) g' K) (λ m => K (.xc m))) : exL C (.assign j (.meth k (.loc 0) es) :: r) (some .lex :: l) g K := by
 subst ev; exact hc _ h
theorem sRM (vs : List AV) (hc : ∀ P : Prop, P -> kj es (some .lex :: l) g P) (ev : uJ es (some .lex :: l) g = vs)
  (h : C k (.lex :: vs) g (λ v g' => K (.rt v g')) (λ m => K (.xc m))) : exL C (.ret (.meth k (.loc 0) es) :: r) (some .lex :: l) g K := by
 subst ev; exact hc _ h
theorem sRT {e : PX} (u : AV) (vs : List AV) (he : ∀ P : Prop, P -> cnd e (some .lex :: l) g P) (eu : val e (some .lex :: l) g = u) (hc : ∀ P : Prop, P -> kj es (some .lex :: l) g P) (ev : uJ es (some .lex :: l) g = vs)
  (h : C k (.lex :: vs) g (λ v g' => K (.rt (.inst 0 [u, v]) g')) (λ m => K (.xc m))) : exL C (.ret (.tokM e k (.loc 0) es) :: r) (some .lex :: l) g K := by
 subst ev eu; exact he _ (hc _ h)
end
theorem bN {p : Bool} {q : Prop} (h : p = true ↔ q) (k : ¬ q) : p = false := by
 cases p with
 | true => exact (k (h.mp rfl)).elim
 | false => rfl
theorem cV (a : Bs) : zV (91 :: a) = if (neq a).head? = some 91 then some (eqz a).length else none := by
 by_cases h : (neq a).head? = some 91
 ·rw [if_pos h]; exact if_pos ⟨rfl, h⟩
 ·rw [if_neg h]; exact if_neg λ z => h z.2
theorem pG {a : Bs} {m : Nat} (h : zV (91 :: a) = some m) : lvZ 91 a = m /\ ∃ t, neq a = 91 :: t /\ (91 :: a).drop (m + 2) = t := by
 rw [cV] at h
 by_cases q : (neq a).head? = some 91
 ·rw [if_pos q] at h
  obtain ⟨t, e⟩ := tH q
  refine ⟨pC.mpr ⟨q, sIJ h⟩, t, e, ?_⟩
  show a.drop (m + 1) = t
  rw [<- mD a, e, <- sIJ h, <- List.drop_drop, List.drop_left]; rfl
 ·rw [if_neg q] at h; cases h
theorem cW {a : Bs} (h : zV (91 :: a) = none) : lvZ 91 a = -((eqz a).length : Int) - 1 := by
 rw [cV] at h
 by_cases q : (neq a).head? = some 91
 ·rw [if_pos q] at h; cases h
 ·unfold lvZ
  rw [show decide ((a.dropWhile (· == 61)).head? = some 91) = false from decide_eq_false q]
  rfl
theorem jR {a : Bs} (h : ∀ t, a ≠ 91 :: t) : zV a = none := by
 cases a with
 | nil => rfl
 | cons c r => exact if_neg λ z => h r (by rw [z.1])
theorem zb5 {a : Bs} (h : ∀ t, a ≠ 61 :: t) : eqz a = [] /\ neq a = a := by
 cases a with
 | nil => exact ⟨rfl, rfl⟩
 | cons c r => exact mC λ z => h r (by rw [z])
noncomputable def zjm : SR -> Tk
 | .done t rest => (some (286, .bytes t), rest, [])
 | .nest rest => (none, rest, kJ)
 | .unf => (none, [], zf6)
noncomputable def zjT (a r : Bs) : Option Nat -> Tk
 | some m => zjm (zY m (zW (a.drop (m + 2))))
 | none => if r.take 1 = [61] then (none, a, zjc) else (some (91, .none), r, [])
noncomputable def zdj (a r : Bs) : Tk := zjT a r (zV a)
noncomputable def zjn (θ : Th) (Q : QE) (X : XE) : SR -> Prop
 | .done _ rest => ∀ σ', Ok θ σ' rest [] -> Q .none (GG θ σ' [])
 | .nest rest => Err (alike θ.T) X kJ rest
 | .unf => Err (alike θ.T) X za1 []
noncomputable def zjo (θ : Th) (Q : QE) (X : XE) (a : Bs) : Option Nat -> Prop
 | some m => zjn θ Q X (zY m (zW (a.drop (m + 2))))
 | none => ∀ σ', Ok θ σ' (a.dropWhile (· != 10)) [] -> Q .none (GG θ σ' [])
section
variable {n : Nat} {Q : QE} {X : XE} {θ : Th} {σ : LS} {a b : Bs}
theorem ni (S : Ok θ σ (91 :: a) []) (h : uH θ Q X (zdj (91 :: a) a)) : CL (n + 7) 69 [.lex] (GG θ σ []) Q X := by
 refine enter [some .lex, none] rfl rfl rfl (sAM [] (λ y h => h) rfl (wB S (by decide) λ σ1 S1 => ?_))
 show exL (CL (n + 6)) (yw.drop 1) [some .lex, some (.int (lvZ 91 a))] (GG θ σ1 (91 :: eqz a)) (yt Q X)
 have S1 : Ok θ σ1 (neq a) (91 :: eqz a) := S1
 unfold zdj at h
 cases e : zV (91 :: a) with
 | some m =>
  rw [e] at h
  obtain ⟨hl, t, e1, e2⟩ := pG e
  have h : uH θ Q X (zjm (zY m (zW ((91 :: a).drop (m + 2))))) := h
  rw [e1] at S1
  rw [e2] at h
  rw [hl]
  refine And.intro (λ y => sRT (.int 286) [.int (m : Int), .bool true] (λ y h => h) rfl (λ y h => h) rfl (pF S1 ?_)) λ q => absurd (Int.natCast_nonneg m) (dF q)
  cases e : zY m (zW t) with
  | done t rest => rw [e] at h; exact λ b' σ' t' ht S' => ht rfl ▸ h σ' b' S'
  | nest rest => rw [e] at h; exact h
  | unf => rw [e] at h; exact h
 | none =>
  rw [e] at h
  have hl := cW e
  have hn : ¬ 0 <= lvZ 91 a := by omega
  refine And.intro (λ q => absurd (dT q) hn) λ y => And.intro (λ q => ?_) (λ q => ?_)
  ·have q : lvZ 91 a < -1 := dT q
   have e1 : ∃ t, a = 61 :: t := Classical.byContradiction λ z => by
    rw [(zb5 λ t e => z ⟨t, e⟩).1] at hl
    rw [hl] at q
    exact absurd q (by decide)
   have h : uH θ Q X (none, 91 :: a, zjc) := (itE (M := uH θ Q X) h).1 (take1.mpr e1)
   refine uT S1 (.inr (.inl rfl)) (by decide) ((show Err (alike θ.T) X zjc (91 :: a) from h).same ?_)
   rw [jM (by decide), zb4]
  ·have q : ¬ lvZ 91 a < -1 := dF q
   have e1 : ∀ t, a ≠ 61 :: t := λ t e => q (by
    rw [hl, e]
    show -(((eqz t).length + 1 : Nat) : Int) - 1 < -1
    omega)
   have h : uH θ Q X (some (91, .none), a, []) := (itE (M := uH θ Q X) h).2 λ z => (take1.mp z).elim e1
   rw [(zb5 e1).2] at S1
   exact h σ1 _ S1
theorem nj (S : Ok θ σ (45 :: 45 :: a) []) (h : zjo θ Q X a (zV a)) : CL (n + 7) 64 [.lex] (GG θ σ []) Q X := by
 refine enter [some .lex, none] rfl rfl rfl (sM [] (λ z h => h) rfl (vG (n := n + 5) S (by decide) λ σ1 S1 => sM [] (λ z h => h) rfl (vG (n := n + 5) S1 (by decide) λ σ2 S2 => ?_)))
 have loop : zV a = none -> ∀ (lv : Option AV) (a1 : Bs) σ3, a1.dropWhile (· != 10) = a.dropWhile (· != 10) -> Ok θ σ3 a1 [] -> exL (CL (n + 6)) (zZ.drop 3) [some .lex, lv] (GG θ σ3 []) (yt Q X) := λ hl lv a1 σ3 ha S => by
  rw [hl] at h
  refine sW (α := LS × Bs) (λ z => [some .lex, lv]) (λ s => GG θ s.1 []) (λ s => Ok θ s.1 s.2 [] /\ s.2.dropWhile (· != 10) = a.dropWhile (· != 10)) (λ s => s.2.length) (σ3, a1) ⟨S, ha⟩ λ s hs K' hn z z z => ?_
  obtain ⟨σ4, a4⟩ := s
  obtain ⟨S4, e4⟩ := hs
  dsimp only at S4 e4 hn
  refine And.intro (λ z => trivial) (And.intro (λ q => ?_) (λ q => ?_))
  ·have q : (!(rG σ4.sg) && (!(decide (σ4.sg = -1)) && true)) = true := q
   rcases S4.view with ⟨_, e⟩ | ⟨r, e, _⟩ | ⟨c, r, rfl, h10, _, e⟩
   ·rw [e] at q; cases q
   ·rw [S4.isnl.mpr ⟨r, e⟩] at q; cases q
   ·exact vG (n := n + 5) S4 h10 λ σ5 S5 => hn (σ5, r) ⟨S5, (List.dropWhile_cons_of_pos (p := (· != 10)) (bne_iff_ne.mpr h10)).symm.trans e4⟩ (Nat.lt_succ_self _)
  ·have q : (!(rG σ4.sg) && (!(decide (σ4.sg = -1)) && true)) = false := q
   have stop : a4.dropWhile (· != 10) = a4 := by
    rcases S4.view with ⟨e, _⟩ | ⟨r, e, _⟩ | ⟨c, r, e0, h10, h13, e⟩
    ·rw [e]; rfl
    ·rw [e]; rfl
    ·have h1 : rG σ4.sg = false := by
      rw [e, zfJ]
      exact Bool.or_eq_false_iff.mpr ⟨zhV h10, zhV h13⟩
     rw [h1, bN S4.eof (by rw [e0]; exact List.cons_ne_nil _ _)] at q
     cases q
   exact h σ4 ((stop.symm.trans e4) ▸ S4)
 refine And.intro (λ q => ?_) (λ q => loop (jR λ t e => bF (S2.is (d := 91) (by decide) (by decide)) q ⟨t, e⟩) _ _ σ2 rfl S2)
 obtain ⟨r, rfl⟩ := (S2.is (d := 91) (by decide) (by decide)).mp q
 refine sAM [] (λ z h => h) rfl (wB S2 (by decide) λ σ3 S3 => sM [] (λ z h => h) rfl (fH (n := n + 5) S3 λ S4 => ?_))
 show exL (CL (n + 6)) [.ifs (.pure (.cmp (.loc 1) [.GtE] [.const (.int 0)])) [.expr (.meth 71 (.loc 0) [.loc 1, .const (.bool false)]), .expr (.meth 59 (.loc 0) []), .retNone] []] [some .lex, some (.int (lvZ 91 r))] (GG θ σ3 []) (zkf (λ l g => exL (CL (n + 6)) (zZ.drop 3) l g (yt Q X)) (yt Q X))
 have S4 : Ok θ σ3 (neq r) [] := S4
 cases e : zV (91 :: r) with
 | some m =>
  rw [e] at h
  obtain ⟨hl, t, e1, e2⟩ := pG e
  have h : zjn θ Q X (zY m (zW ((91 :: r).drop (m + 2)))) := h
  rw [e1] at S4
  rw [e2] at h
  rw [hl]
  refine And.intro (λ z => sM [.int (m : Int), .bool false] (λ z h => h) rfl (pF (isT := false) S4 ?_)) λ q => absurd (Int.natCast_nonneg m) (dF q)
  cases e : zY m (zW t) with
  | done t rest => rw [e] at h; exact λ b' σ' t' ht S' => sM [] (λ z h => h) rfl (fH (n := n + 5) S' λ S6 => h σ' S6)
  | nest rest => rw [e] at h; exact h
  | unf => rw [e] at h; exact h
 | none =>
  have hl := cW e
  have hn : ¬ 0 <= lvZ 91 r := by omega
  refine And.intro (λ q => absurd (dT q) hn) λ z => loop e _ _ σ3 ?_ S4
  show (neq r).dropWhile (· != 10) = r.dropWhile (· != 10)
  conv => rhs; rw [<- mD r]
  have : ∀ x ∈ eqz r, (x != 10) = true := λ x hx => by rw [zb3 hx]; rfl
  generalize eqz r = e1 at this
  induction e1 with
  | nil => rfl
  | cons c e ih => exact (ih λ x hx => this x (.tail _ hx)).trans (List.dropWhile_cons_of_pos (p := (· != 10)) (this c (.head _))).symm
end
noncomputable def fuel : Nat := 1000
theorem fO {m : Nat} (h : m <= 900) : m < fuel := Nat.lt_of_le_of_lt h (by decide)
noncomputable def zem (q : UInt8) (r : Bs) : Qt := (quo q fuel r).getD ([], [], [])
noncomputable def zb6 (w : Bs) : Option (Int × AV) := match kindOf w zm 257 with
 | some k => some (k, .none)
 | none => some (285, .bytes w)
noncomputable def zhW (a : Bs) : Tk := (zb6 (a.takeWhile isN), a.dropWhile isN, [])
noncomputable def tokC (c : UInt8) (r : Bs) : Tk := if r.take 1 = [61] then (some (zhU c, .none), r.drop 1, []) else (some (iv c, .none), r, [])
noncomputable def zb7 (c : UInt8) : Bool := decide (iv c = iv 61) || (decide (iv c = iv 60) || (decide (iv c = iv 62) || (decide (iv c = iv 126) || false)))
noncomputable def isNum (c : UInt8) (r : Bs) : Bool := isD c || (c == 46 && isD (fK r))
noncomputable def tk5 (c : UInt8) (r : Bs) : Tk := if zb7 c = true then tokC c r else (some (iv c, .none), r, [])
noncomputable def tk4 (c : UInt8) (r : Bs) : Tk := if c = 46 then zgN r else tk5 c r
noncomputable def tk3 (c : UInt8) (r : Bs) : Tk := if isN c = true then zhW (c :: r) else tk4 c r
noncomputable def tk2 (c : UInt8) (r : Bs) : Tk := if isNum c r = true then tokN (c :: r) else tk3 c r
noncomputable def tk1 (c : UInt8) (r : Bs) : Tk := if c = 91 then zdj (c :: r) r else tk2 c r
noncomputable def tk0 (c : UInt8) (r : Bs) : Tk := if c = 34 \/ c = 39 then ziE (zem c r) else tk1 c r
noncomputable def zb8 (a : Bs) : Bool := decide (a.take 2 = [45, 45])
noncomputable def vK (k : Int) (v : AV) : AV := .tup [.int k, v]
noncomputable abbrev Rt := List AV × Bs × Bs
noncomputable def rdT (rec : Bs -> Option Rt) (x : Tk) : Option Rt := match x.1 with
 | some p => (rec x.2.1).map λ y => (vK p.1 p.2 :: y.1, y.2)
 | none => some ([], x.2.2, x.2.1)
noncomputable def rdS (rec : Bs -> Option Rt) : SR -> Option Rt
 | .done _ r => rec r
 | .nest r => some ([], kJ, r)
 | .unf => some ([], za1, [])
noncomputable def rdC (rec : Bs -> Option Rt) (a : Bs) : Option Nat -> Option Rt
 | some n => rdS rec (zY n (zW (a.drop (n + 2))))
 | none => rec (a.dropWhile (· != 10))
noncomputable def rd2 (rec : Bs -> Option Rt) (c : UInt8) (r : Bs) : Option Rt := if zb8 (c :: r) = true then rdC rec (r.drop 1) (zV (r.drop 1)) else rdT rec (tk0 c r)
noncomputable def rd1 (rec : Bs -> Option Rt) (c : UInt8) (r : Bs) : Option Rt := if isB c = true then rec r else rd2 rec c r
noncomputable def rd : Nat -> Bs -> Option Rt
 | 0, _ => none
 | _ + 1, [] => some ([], [], [])
 | f + 1, c :: r => rd1 (rd f) c r
theorem fP {a : Bs} : zb8 a = true ↔ ∃ r, a = 45 :: 45 :: r := by
 refine decide_eq_true_iff.trans ⟨λ h => ?_, λ ⟨r, h⟩ => by rw [h]; rfl⟩
 rcases a with _ | ⟨c, _ | ⟨d, r⟩⟩
 ·cases h
 ·cases h
 ·cases h; exact ⟨r, rfl⟩
section
variable {n : Nat} {Q : QE} {X : XE} {θ : Th} {σ : LS} {a b : Bs} {C : Nat -> List AV -> GS -> QE -> XE -> Prop} {l : Loc} {g : GS} {k : Nat} {es : List PX}
theorem xM (vs : List AV) (hc : ∀ P : Prop, P -> kj es (some .lex :: l) g P) (ev : uJ es (some .lex :: l) g = vs) (h : C k (.lex :: vs) g Q X) : exX C (.meth k (.loc 0) es) (some .lex :: l) g Q X := by
 subst ev; exact hc _ h
theorem sAP {K : Out -> Prop} {r : List MS} {i : Nat} {e : PX} (v : AV) (hc : ∀ P : Prop, P -> cnd e l g P) (ev : val e l g = v) (h : exL C r (setL l i v) g K) : exL C (.assign i (.pure e) :: r) l g K := by
 subst ev; exact hc _ h
theorem cX (S : Ok θ σ a b) (h : ¬ ∃ r, a = 10 :: r) : zhJ σ.sg = true ↔ ∃ c r, a = c :: r /\ isB c = true := by
 rcases S.view with ⟨rfl, e⟩ | ⟨r, e, _⟩ | ⟨c, r, rfl, h10, _, e⟩
 ·rw [e]; exact ⟨λ h => (nomatch h), λ ⟨_, _, h, _⟩ => (nomatch h)⟩
 ·exact (h ⟨r, e⟩).elim
 ·rw [e]; exact ⟨λ h => ⟨c, r, rfl, h⟩, λ ⟨d, r', h, k⟩ => by rw [(List.cons.inj h).1]; exact k⟩
theorem lexAt (S : Ok θ σ a b) : zh4 (GG θ σ b) := ⟨θ.T, _, _, _, _, σ.k, _, rfl, zdi S.hT⟩
theorem jT (S : Ok θ σ a []) (h1 : ∀ c r, a = c :: r -> isB c = true -> ∀ σ', Ok θ σ' r [] -> Q (.bool true) (GG θ σ' [])) (h2 : ∀ r, a = 45 :: 45 :: r -> zjo θ (λ y => Q (.bool true)) X r (zV r))
  (h3 : (∀ c r, a = c :: r -> isB c = false /\ zb8 (c :: r) = false) -> Q (.bool false) (GG θ σ [])) : CL (n + 8) 62 [.lex] (GG θ σ []) Q X := by
 refine enter [some .lex] rfl rfl rfl (And.intro (λ q => ?_) λ q => And.intro (λ q2 => ?_) λ q2 => ?_)
 ·obtain ⟨r, rfl⟩ := S.isnl.mp q
  exact sM [] (λ y h => h) rfl (sS (n := n + 5) S λ σ' S' => h1 10 r rfl rfl σ' S')
 ·obtain ⟨c, r, rfl, hb⟩ := (cX S (bF S.isnl q)).mp q2
  have h10 : c ≠ 10 := λ z => bF S.isnl q ⟨r, by rw [z]⟩
  exact sM [] (λ y h => h) rfl (vG (n := n + 6) S h10 λ σ' S' => h1 c r rfl hb σ' S')
 ·have hb : ∀ c r, a = c :: r -> isB c = false := λ c r e => by
   cases z : isB c with
   | false => rfl
   | true => exact (bF (cX S (bF S.isnl q)) q2 ⟨c, r, e, z⟩).elim
  have i1 := S.is (d := 45) (by decide) (by decide)
  have i2 : decide (σ.sg = 45) = true -> (decide (sgn (θ.T.drop (((σ.k : Nat) : Int) + 1).toNat) = 45) = true ↔ ∃ r, a = 45 :: 45 :: r) := λ q => by
   obtain ⟨r, rfl⟩ := i1.mp q
   have S2 := S.next (b' := []) (by decide) (Nat.zero_le _)
   have z := S2.is (d := 45) (by decide) (by decide)
   rw [S2.sg] at z
   exact z.trans ⟨λ ⟨t, e⟩ => ⟨t, by rw [e]⟩, λ ⟨t, e⟩ => ⟨t, (List.cons.inj e).2⟩⟩
  refine And.intro (λ y => And.intro (lexAt S) trivial) (And.intro (λ q3 => ?_) (λ q3 => h3 λ c r e => ⟨hb c r e, ?_⟩))
  ·have q3 := band q3
   obtain ⟨r, rfl⟩ := (i2 q3.1).mp (band q3.2).1
   have h2 := h2 r rfl
   refine sM [] (λ y h => h) rfl (nj S ?_)
   cases e : zV r with
   | none => rw [e] at h2; exact h2
   | some m =>
    rw [e] at h2
    have h2 : zjn θ (λ y => Q (.bool true)) X (zY m (zW (r.drop (m + 2)))) := h2
    unfold zjo
    revert h2
    dsimp only
    generalize zY m (zW (r.drop (m + 2))) = R
    cases R with
    | done t rest => exact λ h => h
    | nest rest => exact λ h => h
    | unf => exact λ h => h
  ·cases z : zb8 (c :: r) with
   | false => rfl
   | true =>
    obtain ⟨t, e2⟩ := fP.mp z
    have q4 := i1.mpr ⟨_, e.trans e2⟩
    have q5 := (i2 q4).mpr ⟨t, e.trans e2⟩
    have q3 : (decide (σ.sg = 45) && (decide (sgn (θ.T.drop (((σ.k : Nat) : Int) + 1).toNat) = 45) && true)) = false := q3
    rw [show decide (σ.sg = 45) = true from q4, q5] at q3
    cases q3
theorem itT {p : Prop} [Decidable p] {x y : Tk} (h : uH θ Q X (if p then x else y)) : (p -> uH θ Q X x) /\ (¬ p -> uH θ Q X y) := itE (M := uH θ Q X) h
theorem jU {c d e : UInt8} : (decide (iv c = iv d) || (decide (iv c = iv e) || false)) = true ↔ c = d \/ c = e := by
 rw [Bool.or_false, Bool.or_eq_true, decide_eq_true_iff, decide_eq_true_iff, xJ, xJ]
theorem tK {c : UInt8} (d : UInt8) : decide (iv c = iv d) = true ↔ c = d := decide_eq_true_iff.trans xJ
theorem zfM {c : UInt8} (h : zb7 c = true) : c = 61 \/ c = 60 \/ c = 62 \/ c = 126 := by
 rcases Bool.or_eq_true_iff.mp h with h | h
 ·exact .inl ((tK _).mp h)
 rcases Bool.or_eq_true_iff.mp h with h | h
 ·exact .inr (.inl ((tK _).mp h))
 ·exact .inr (.inr (jU.mp h))
end
noncomputable abbrev big : Nat := 36893488147419103232
noncomputable def okV : AV -> Prop
 | .none => True
 | .int i => i.natAbs < big
 | .bytes b => b.length <= 900
 | _ => False
theorem zap (x : Int) : (oG x).natAbs < big := by
 have h1 : 0 <= x % 2 ^ 64 := Int.emod_nonneg _ (by decide)
 have h2 : x % 2 ^ 64 < 2 ^ 64 := Int.emod_lt_of_pos _ (by decide)
 unfold oG
 generalize x % 2 ^ 64 = y at h1 h2
 by_cases h : y >= 2 ^ 63
 ·rw [if_pos h, <- Int.natAbs_neg, Int.neg_sub]
  exact Int.natAbs_lt_natAbs_of_nonneg_of_lt (Int.sub_nonneg_of_le (Int.le_of_lt h2)) (Int.lt_of_le_of_lt (Int.sub_le_self _ h1) (by decide : (2 : Int) ^ 64 < 36893488147419103232))
 ·rw [if_neg h]
  exact Int.natAbs_lt_natAbs_of_nonneg_of_lt h1 (Int.lt_trans h2 (by decide : (2 : Int) ^ 64 < 36893488147419103232))
theorem mG {b : Int} {w : Bs} {v : Int} (h : oH b w = some v) : v.natAbs < big := by
 unfold oH at h
 by_cases q : aB b w = true
 ·rw [if_pos q] at h; exact sIJ h ▸ zap _
 ·rw [if_neg q] at h; cases h
theorem zaq {w : Bs} {v : Int} (h : rN w = some v) : v.natAbs < big := by
 cases q : zjk w with
 | true => exact mG ((zbU q).2.symm.trans h)
 | false => exact mG ((zfG q).symm.trans h)
theorem zar {w : Bs} {k : Int} {l : List Bs} : ∀ {n : Int}, kindOf w l n = some k -> n <= k /\ k < n + l.length := by
 induction l with
 | nil => exact λ h => (nomatch h)
 | cons b r ih =>
  intro n h
  have h : (if b = w then some n else kindOf w r (n + 1)) = some k := h
  rw [List.length_cons]
  by_cases q : b = w
  ·rw [if_pos q] at h
   have := sIJ h
   omega
  ·rw [if_neg q] at h
   have := ih h
   omega
theorem cY (c : UInt8) : (iv c).natAbs < 287 := by
 have h1 := aq c
 have h2 := zf5 c
 omega
theorem jV {n : Nat} (h : n < 287) : n < big := Nat.lt_trans h (by decide)
theorem z7 (a : Bs) : a <:+ a := List.suffix_refl a
theorem yh (c : UInt8) (r : Bs) : r <:+ c :: r := List.suffix_cons c r
theorem lR (a : Bs) : [] <:+ a := List.nil_suffix
theorem cZ : ∀ {m : Nat} {v : Int} {a : Bs}, (jO m v a).2 <:+ a
 | 0, _, a => z7 a
 | _ + 1, _, [] => z7 _
 | m + 1, v, c :: r => by
  show (if isD c = true then jO m (10 * v + iv c - 48) r else (v, c :: r)).2 <:+ c :: r
  by_cases h : isD c = true
  ·rw [if_pos h]; exact cZ.trans (yh c r)
  ·rw [if_neg h]; exact z7 _
structure ziG (a : Bs) (R : Qt) : Prop where
 suf : R.2.1 <:+ a
 len : R.1.length <= a.length
 wl : R.2.2.length <= 50
theorem qt {a r w : Bs} (s : r <:+ a) (h : w.length <= 50) : ∃ R, some (([], r, w) : Qt) = some R /\ ziG a R := ⟨_, rfl, s, Nat.zero_le _, h⟩
theorem ziG.put {a r : Bs} {c : UInt8} {R : Qt} (h : ziG r R) (s : r <:+ a) (l : r.length < a.length) : ziG a (c :: R.1, R.2) := ⟨h.suf.trans s, Nat.lt_of_le_of_lt h.len l, h.wl⟩
noncomputable abbrev QtE (a : Bs) (x : Option Qt) : Prop := ∃ R, x = some R /\ ziG a R
theorem QtE.put {a r : Bs} {c : UInt8} {x : Option Qt} (h : QtE r x) (s : r <:+ a) (l : r.length < a.length) : QtE a (zgP c x) := by
 obtain ⟨R, e, h⟩ := h
 exact ⟨_, by rw [e]; rfl, h.put s l⟩
theorem yc {α : Type} {M : α -> Prop} {p : Prop} [Decidable p] {x y : α} (h : p -> M x) (k : ¬ p -> M y) : M (if p then x else y) := by
 by_cases q : p
 ·rw [if_pos q]; exact h q
 ·rw [if_neg q]; exact k q
theorem zb9 (q : UInt8) {f : Nat} : ∀ {a : Bs}, a.length < f -> QtE a (quo q f a) := by
 induction f with
 | zero => exact λ h => (Nat.not_lt_zero _ h).elim
 | succ f ih =>
  intro a h
  cases a with
  | nil => exact ⟨_, rfl, lR _, Nat.le_refl _, by decide⟩
  | cons c r =>
   have hr : r.length < f := Nat.lt_of_succ_lt_succ h
   refine yc (M := QtE (c :: r)) (λ z => qt (yh c r) (by decide)) λ z => yc (M := QtE (c :: r)) (λ z => qt (z7 _) (by decide)) λ z => yc (M := QtE (c :: r)) (λ z => ?_) λ z => (ih hr).put (yh c r) (Nat.lt_succ_self _)
   cases r with
   | nil =>
    obtain ⟨R, e, h⟩ := ih (a := []) hr
    exact ⟨R, e, h.suf.trans (lR _), nLT h.len (Nat.zero_le _), h.wl⟩
   | cons d t =>
    have s := cZ (m := 3) (v := 0) (a := d :: t)
    have hs := s.length_le
    have st := s.trans (yh c (d :: t))
    refine yc (M := QtE (c :: d :: t)) (λ z => yc (M := QtE (c :: d :: t)) (λ z => (ih (Nat.lt_of_le_of_lt hs hr)).put st (Nat.lt_succ_of_le hs)) λ z => qt st (by decide)) λ z => (ih (Nat.lt_of_succ_lt hr)).put ((yh d t).trans (yh c _)) (Nat.lt_succ_of_lt (Nat.lt_succ_self _))
theorem ziH (a : Bs) : zW a <:+ a := by
 cases a with
 | nil => exact z7 _
 | cons c r => exact yc (M := (· <:+ c :: r)) (λ z => yh c r) λ z => z7 _
noncomputable def zdk (a : Bs) : SR -> Prop
 | .done t r => r <:+ a /\ t.length <= a.length
 | .nest r => r <:+ a
 | .unf => True
theorem zdk.put {a : Bs} {c : UInt8} : ∀ {R : SR}, zdk a R -> zdk (c :: a) (R.put c)
 | .done _ _, h => ⟨h.1.trans (yh c a), Nat.succ_le_succ h.2⟩
 | .nest _, h => h.trans (yh c a)
 | .unf, _ => trivial
theorem zdk.up {a b : Bs} (s : a <:+ b) : ∀ {R : SR}, zdk a R -> zdk b R
 | .done _ _, h => ⟨h.1.trans s, nLT h.2 s.length_le⟩
 | .nest _, h => h.trans s
 | .unf, _ => trivial
theorem zgS (m : Nat) (a : Bs) : zdk a (zY m a) := by
 induction a with
 | nil => trivial
 | cons c r ih => exact yc (M := zdk (c :: r)) (λ z => ⟨List.drop_suffix _ _, Nat.zero_le _⟩) λ z => yc (M := zdk (c :: r)) (λ z => z7 _) λ z => ih.put
theorem zca (m : Nat) (a : Bs) : zdk (a.drop (m + 2)) (zY m (zW (a.drop (m + 2)))) := (zgS m _).up (ziH _)
noncomputable def Good (a r : Bs) (x : Tk) : Prop := match x.1 with
 | some p => (p.1 ≠ 287 /\ p.1.natAbs < big /\ okV p.2) /\ x.2.1 <:+ r
 | none => (x.2.2 ≠ [] /\ x.2.2.length <= 50) /\ x.2.1 <:+ a
theorem yr {a r rest w : Bs} {k : Int} {v : AV} (h1 : k ≠ 287) (h2 : k.natAbs < big) (h3 : okV v) (s : rest <:+ r) : Good a r (some (k, v), rest, w) := ⟨⟨h1, h2, h3⟩, s⟩
theorem good_none {a r rest w : Bs} (h1 : w ≠ []) (h2 : w.length <= 50) (s : rest <:+ a) : Good a r (none, rest, w) := ⟨⟨h1, h2⟩, s⟩
theorem zcb (c : UInt8) : zhU c ≠ 287 /\ (zhU c).natAbs < big := yc (M := λ k : Int => k ≠ 287 /\ k.natAbs < big) (λ z => by decide) λ z => yc (M := λ k : Int => k ≠ 287 /\ k.natAbs < big) (λ z => by decide) λ z => yc (M := λ k : Int => k ≠ 287 /\ k.natAbs < big) (λ z => by decide) λ z => by decide
theorem zcc (c : UInt8) (r : Bs) : Good (c :: r) r (some (iv c, .none), r, []) := ⟨⟨λ e => absurd (show (iv c).natAbs < 287 from cY c) (by rw [show iv c = 287 from e]; decide), jV (cY c), trivial⟩, z7 r⟩
theorem lU {c : UInt8} {r : Bs} (hl : (c :: r).length <= 900) : Good (c :: r) r (tk0 c r) := by
 have hr : r.length <= 900 := nLT (Nat.le_succ _) hl
 have s0 := yh c r
 refine yc (M := Good (c :: r) r) (λ z => ?_) λ z => yc (M := Good (c :: r) r) (λ hc => ?_) λ z => yc (M := Good (c :: r) r) (λ hn => ?_) λ z => yc (M := Good (c :: r) r) (λ hn => ?_) λ z => yc (M := Good (c :: r) r) (λ z => ?_) λ z => yc (M := Good (c :: r) r) (λ z => ?_) λ z => zcc c r
 ·obtain ⟨⟨t, rest, w⟩, e, h⟩ := zb9 c (fO hr)
  have e2 : zem c r = (t, rest, w) := by unfold zem; rw [e]; rfl
  rw [e2]
  cases w with
  | nil => exact yr (by decide) (by decide) (nLT h.len hr) h.suf
  | cons d w => exact good_none (List.cons_ne_nil _ _) h.wl (h.suf.trans s0)
 ·unfold zdj
  cases e : zV (c :: r) with
  | none => exact yc (M := Good (c :: r) r) (λ z => good_none (by decide) (by decide) (z7 _)) λ z => yr (by decide) (by decide) trivial (z7 r)
  | some m =>
   have h := zca m (c :: r)
   have s1 : (c :: r).drop (m + 2) <:+ r := List.drop_suffix (m + 1) r
   show Good (c :: r) r (zjm (zY m (zW ((c :: r).drop (m + 2)))))
   cases e : zY m (zW ((c :: r).drop (m + 2))) with
   | done t rest => rw [e] at h; exact yr (by decide) (by decide) (nLT h.2 (nLT s1.length_le hr)) (h.1.trans s1)
   | nest rest => rw [e] at h; exact good_none (by decide) (by decide) ((show rest <:+ _ from h).trans (s1.trans s0))
   | unf => exact good_none (by decide) (by decide) (lR _)
 ·have hd : wR c = true := by
   rcases Bool.or_eq_true_iff.mp hn with q | q
   ·exact Bool.or_eq_true_iff.mpr (.inl q)
   ·exact Bool.or_eq_true_iff.mpr (.inr (band q).1)
  unfold tokN
  cases e : rN (ur (c :: r)) with
  | none => exact good_none (by decide) (by decide) (z7 _)
  | some v =>
   refine yr (by decide) (by decide) (zaq e) ?_
   obtain ⟨t, ht⟩ := jN (r := r) hd
   have h := wL (c :: r)
   rw [ht] at h
   exact ⟨t, (List.cons.inj h).2⟩
 ·have s1 : (c :: r).dropWhile isN <:+ r := by rw [List.dropWhile_cons_of_pos hn]; exact List.dropWhile_suffix _
  unfold zhW zb6
  cases e : kindOf ((c :: r).takeWhile isN) zm 257 with
  | none => exact yr (by decide) (by decide) (nLT (List.takeWhile_sublist _).length_le hl) s1
  | some k =>
   have h := zar e
   have h2 : k < 257 + (21 : Nat) := h.2
   exact yr (λ y => absurd (y ▸ h2) (by decide)) (jV (Int.natAbs_lt_natAbs_of_nonneg_of_lt (Int.le_trans (by decide) h.1) (Int.lt_trans h2 (by decide : (257 : Int) + (21 : Nat) < 287)))) trivial s1
 ·exact yc (M := Good (c :: r) r) (λ z => yc (M := Good (c :: r) r) (λ z => yr (by decide) (by decide) trivial (List.drop_suffix 2 r)) λ z => yr (by decide) (by decide) trivial (List.drop_suffix 1 r)) λ z => yr (by decide) (by decide) trivial (z7 r)
 ·exact yc (M := Good (c :: r) r) (λ z => yr (zcb c).1 (zcb c).2 trivial (List.drop_suffix 1 r)) λ z => zcc c r
structure zkU (a : Bs) (R : Rt) : Prop where
 suf : R.2.2 <:+ a
 wl : R.2.1.length <= 50
 len : R.1.length <= a.length
 ts : ∀ t ∈ R.1, ∃ k v, t = vK k v /\ k.natAbs < big /\ okV v
noncomputable abbrev RdE (a : Bs) (x : Option Rt) : Prop := ∃ R, x = some R /\ zkU a R
theorem RdE.up {a b : Bs} {x : Option Rt} (s : a <:+ b) (h : RdE a x) : RdE b x := h.imp λ z h => ⟨h.1, h.2.suf.trans s, h.2.wl, nLT h.2.len s.length_le, h.2.ts⟩
theorem RdE.bad {a w rest : Bs} (s : rest <:+ a) (h : w.length <= 50) : RdE a (some ([], w, rest)) := ⟨_, rfl, s, h, Nat.zero_le _, λ z h => (List.not_mem_nil h).elim⟩
theorem zjU {f : Nat} : ∀ {a : Bs}, a.length < f -> a.length <= 900 -> RdE a (rd f a) := by
 induction f with
 | zero => exact λ h => (Nat.not_lt_zero _ h).elim
 | succ f ih =>
  intro a h hl
  cases a with
  | nil => exact RdE.bad (z7 _) (by decide)
  | cons c r =>
   have hr : r.length < f := Nat.lt_of_succ_lt_succ h
   have go : ∀ b, b <:+ r -> RdE (c :: r) (rd f b) := λ b s => (ih (Nat.lt_of_le_of_lt s.length_le hr) (nLT s.length_le (nLT (Nat.le_succ _) hl))).up (s.trans (yh c r))
   refine yc (M := RdE (c :: r)) (λ z => go r (z7 r)) λ z => yc (M := RdE (c :: r)) (λ hc => ?_) λ z => ?_
   ·have s1 : r.drop 1 <:+ r := List.drop_suffix 1 r
    cases e : zV (r.drop 1) with
    | none => exact go _ ((List.dropWhile_suffix _).trans s1)
    | some m =>
     have h := (zca m (r.drop 1)).up ((List.drop_suffix _ _).trans s1)
     show RdE (c :: r) (rdS (rd f) (zY m (zW ((r.drop 1).drop (m + 2)))))
     cases e : zY m (zW ((r.drop 1).drop (m + 2))) with
     | done t rest => rw [e] at h; exact go rest h.1
     | nest rest => rw [e] at h; exact RdE.bad (List.IsSuffix.trans h (yh c r)) (by decide)
     | unf => exact RdE.bad (lR _) (by decide)
   ·have g := lU hl
    revert g
    generalize tk0 c r = x
    obtain ⟨p, rest, w⟩ := x
    cases p with
    | none => exact λ g => RdE.bad g.2 g.1.2
    | some p =>
     intro g
     have s : rest <:+ r := g.2
     obtain ⟨R, e, h⟩ := ih (Nat.lt_of_le_of_lt s.length_le hr) (nLT s.length_le (nLT (Nat.le_succ _) hl))
     refine ⟨(vK p.1 p.2 :: R.1, R.2), congrArg (Option.map _) e, h.suf.trans (s.trans (yh c r)), h.wl, Nat.succ_le_succ (nLT h.len s.length_le), λ t ht => ?_⟩
     rcases mCM ht with e | ht
     ·exact ⟨p.1, p.2, e, g.1.2⟩
     ·exact h.ts t ht
section
variable {n : Nat} {Q : QE} {X : XE} {θ : Th} {σ : LS} {a b : Bs}
theorem zen (S : Ok θ σ a []) (h10 : ∀ r, a ≠ 10 :: r) (h0 : a = [] -> Q zaN (GG θ σ [])) (h : ∀ c r, a = c :: r -> uH θ Q X (tk0 c r)) : exL (CL (n + 8)) (uQ.drop 2) [some .lex, none] (GG θ σ []) (yt Q X) := by
 cases a with
 | nil => exact And.intro (λ y => h0 rfl) λ q => absurd S.nil (dF q)
 | cons c r =>
  have h := h c r rfl
  have c10 : c ≠ 10 := λ z => h10 r (by rw [z])
  refine sAP (.int (iv c)) (λ y h => h) (congrArg AV.int (S.sgc c10)) ?_
  refine And.intro (λ q => absurd (aq c) (by rw [show iv c = -1 from dT q]; decide)) λ y => And.intro (λ q => ?_) λ q => ?_
  ·have hq : c = 34 \/ c = 39 := jU.mp q
   have h : uH θ Q X (ziE (zem c r)) := (itT h).1 hq
   have hl : r.length < fuel := fO (nLT (Nat.le_succ _) (nLT (Nat.le_add_left _ _) S.room))
   obtain ⟨R, e, _⟩ := zb9 c hl
   have e2 : zem c r = R := by unfold zem; rw [e]; rfl
   exact sRM [.int (iv c)] (λ y h => h) rfl (lO hq S e (e2 ▸ h))
  have h : uH θ Q X (tk1 c r) := (itT h).2 (bF jU q)
  refine And.intro (λ q => ?_) λ q => ?_
  ·cases (tK 91).mp q
   exact sRM [] (λ y h => h) rfl (ni S ((itT h).1 rfl))
  have h : uH θ Q X (tk2 c r) := (itT h).2 (bF (tK 91) q)
  refine And.intro (λ q => ?_) λ q => ?_
  ·cases (tK 46).mp q
   refine sRM [] (λ y h => h) rfl (fL S (λ q => (itT h).1 q) (λ q => ?_))
   have h : uH θ Q X (tk3 46 r) := (itT h).2 (by rw [show isNum 46 r = isD (fK r) from rfl, q]; exact Bool.false_ne_true)
   have h : uH θ Q X (tk4 46 r) := (itT h).2 (by decide)
   exact (itT h).1 rfl
  have n46 : c ≠ 46 := bF (tK 46) q
  have hn : isNum c r = isD c := by unfold isNum; rw [zhV n46, Bool.false_and, Bool.or_false]
  have h := itT h
  rw [hn] at h
  refine And.intro (λ q => ?_) λ q => ?_
  ·have hd : wR c = true := Bool.or_eq_true_iff.mpr (.inl q)
   exact sRM [] (λ y h => h) rfl (jP S (a0 := c :: r) rfl rfl ⟨c, r, rfl, hd⟩ (h.1 q))
  have q : qx (iv c) = false := q
  have h : uH θ Q X (tk3 c r) := h.2 (by rw [show isD c = false from q]; exact Bool.false_ne_true)
  have hl : zf4 (iv c) = isN c := by
   show _ = (zf4 (iv c) || qx (iv c))
   rw [q, Bool.or_false]
  refine And.intro (λ q => ?_) λ q => ?_
  ·have h : uH θ Q X (zhW (c :: r)) := (itT h).1 (hl ▸ q)
   refine sRM [] (λ y h => h) rfl (fJ S λ σ' S' => ?_)
   unfold ziA
   unfold zhW zb6 at h
   revert h
   generalize ((c :: r).takeWhile isN) = w at S' ⊢
   show uH θ Q X (match kindOf w zm 257 with | some k => some (k, .none) | none => some (285, .bytes w), _, _) -> Q (cond (wW (match kindOf w zm 257 with | some k => .int k | none => .none)) (.inst 0 [.int 285, .bytes w]) (.inst 0 [match kindOf w zm 257 with | some k => .int k | none => .none, .none])) _
   cases kindOf w zm 257 with
   | none => exact λ h => h σ' _ S'
   | some k => exact λ h => h σ' _ S'
  have q : zf4 (iv c) = false := q
  have h : uH θ Q X (tk4 c r) := (itT h).2 (by rw [<- hl, q]; exact Bool.false_ne_true)
  have h : uH θ Q X (tk5 c r) := (itT h).2 n46
  refine And.intro (λ q => ?_) λ q => And.intro (λ q2 => ?_) λ q2 => ?_
  ·cases (tK 45).mp q
   have h : uH θ Q X (some (iv 45, .none), r, []) := (itT h).2 (by decide)
   exact sM [] (λ y h => h) rfl (vG (n := n + 7) S (by decide) λ σ' S' => h σ' [] S')
  ·have h : uH θ Q X (tokC c r) := (itT h).1 q2
   refine sRM [.int (iv c)] (λ y h => h) rfl (pB (n := n + 6) (zfM q2) S (λ r2 σ' e S' => ?_) (λ e σ' S' => ?_))
   ·subst e
    have h : uH θ Q X (some (zhU c, .none), r2, []) := (itT h).1 rfl
    exact h σ' [] S'
   ·have h : uH θ Q X (some (iv c, .none), r, []) := (itT h).2 λ z => (take1.mp z).elim e
    exact h σ' [] S'
  ·have q2 : zb7 c = false := q2
   have h : uH θ Q X (some (iv c, .none), r, []) := (itT h).2 (by rw [q2]; exact Bool.false_ne_true)
   exact sM [] (λ y h => h) rfl (vG (n := n + 7) S c10 λ σ' S' => h σ' [] S')
theorem zfN (f : Nat) (r : Bs) : rd (f + 1) (45 :: 45 :: r) = rdC (rd f) r (zV r) := by
 show (if isB 45 = true then rd f (45 :: r) else rd2 (rd f) 45 (45 :: r)) = _
 rw [if_neg (by decide)]
 exact if_pos (fP.mpr ⟨r, rfl⟩)
theorem c7 {f : Nat} {c : UInt8} {r : Bs} (h : isB c = true) : rd (f + 1) (c :: r) = rd f r := if_pos h
theorem zfO {f : Nat} {c : UInt8} {r : Bs} (h1 : isB c = false) (h2 : zb8 (c :: r) = false) : rd (f + 1) (c :: r) = rdT (rd f) (tk0 c r) := by
 show (if isB c = true then rd f r else rd2 (rd f) c r) = _
 rw [if_neg (by rw [h1]; exact Bool.false_ne_true)]
 exact if_neg (by rw [h2]; exact Bool.false_ne_true)
theorem zgT {rec : Bs -> Option Rt} {lv : Option Nat} {R : Rt} (hR : rdC rec a lv = some R) (h1 : ∀ rest, rec rest = some R -> ∀ σ', Ok θ σ' rest [] -> Q .none (GG θ σ' [])) (h2 : ∀ w rest, w ≠ [] -> some (([], w, rest) : Rt) = some R -> Err (alike θ.T) X w rest) : zjo θ Q X a lv := by
 cases lv with
 | none => exact h1 _ hR
 | some m =>
  have hR : rdS rec (zY m (zW (a.drop (m + 2)))) = some R := hR
  show zjn θ Q X (zY m (zW (a.drop (m + 2))))
  revert hR
  generalize zY m (zW (a.drop (m + 2))) = s
  cases s with
  | done t rest => exact h1 rest
  | nest rest => exact h2 _ _ (by decide)
  | unf => exact h2 _ _ (by decide)
structure ReadZ (θ : Th) (Q : QE) (X : XE) (f : Nat) (R : Rt) : Prop where
 eos : R = ([], [], []) -> ∀ σ' b', Ok θ σ' [] b' -> Q zaN (GG θ σ' b')
 tok : ∀ k v f' a' R', f' < f -> k ≠ 287 -> okV v -> rd f' a' = some R' -> R = (vK k v :: R'.1, R'.2) -> ∀ σ' b', Ok θ σ' a' b' -> Q (.inst 0 [.int k, v]) (GG θ σ' b')
 err : ∀ w rest, w ≠ [] -> R = ([], w, rest) -> Err (alike θ.T) X w rest
theorem ziI {f : Nat} {R : Rt} (S : Ok θ σ a b) (hR : rd f a = some R) (h : ReadZ θ Q X f R) : CL (n + 9) 61 [.lex] (GG θ σ b) Q X := by
 refine enter [some .lex, none] rfl rfl rfl (sM [] (λ z h => h) rfl (fH (n := n + 7) S λ S1 => ?_))
 refine sW (α := LS × Bs × Nat) (λ z => [some .lex, none]) (λ s => GG θ s.1 []) (λ s => Ok θ s.1 s.2.1 [] /\ rd s.2.2 s.2.1 = some R /\ s.2.2 <= f) (λ s => s.2.2) (σ, a, f) ⟨S1, hR, Nat.le_refl _⟩ λ s hs K' hn z z hx => ?_
 clear S S1 hR
 obtain (⟨σ1, a1, f1⟩) := s
 obtain (⟨S, hR, hf⟩) := hs
 dsimp only at S hR hf hn
 cases f1 with
 | zero => exact nomatch hR
 | succ f1 =>
  have next : ∀ a2 σ2, rd f1 a2 = some R -> Ok θ σ2 a2 [] -> K' (.nx [some .lex, none] (GG θ σ2 [])) := λ a2 σ2 e S2 => hn (σ2, a2, f1) ⟨S2, e, Nat.le_of_succ_le hf⟩ (Nat.lt_succ_self _)
  have err : ∀ w rest, w ≠ [] -> some (([], w, rest) : Rt) = some R -> Err (alike θ.T) X w rest := λ w rest hw e => h.err w rest hw (sIJ e).symm
  refine xM [] (λ z h => h) rfl (jT S (λ c r e hb σ2 S2 => ?_) (λ r e => ?_) (λ hh => ?_))
  ·subst e
   exact And.intro (λ z => next r σ2 ((c7 hb).symm.trans hR) S2) λ q => nomatch q
  ·subst e
   have hR := (zfN f1 r).symm.trans hR
   exact zgT hR (λ rest e σ2 S2 => And.intro (λ z => next rest σ2 e S2) λ q => nomatch q) err
  ·refine And.intro (λ q => nomatch q) λ z => zen S (λ r e => absurd (hh 10 r e).1 (by decide)) (λ e => ?_) (λ c r e => ?_)
   ·subst e
    exact h.eos (sIJ hR).symm σ1 [] S
   ·subst e
    obtain (⟨h1, h2⟩) := hh c r rfl
    have hR := (zfO h1 h2).symm.trans hR
    have g := lU (nLT (Nat.le_add_left _ _) S.room)
    revert hR g
    generalize tk0 c r = x
    obtain (⟨p, rest, w⟩) := x
    cases p with
    | none => exact λ hR g => h.err _ _ g.1.1 (sIJ hR).symm
    | some p =>
     intro hR g σ2 b2 S2
     obtain (⟨R', e1, e2⟩) := Option.map_eq_some_iff.mp hR
     exact h.tok p.1 p.2 f1 rest R' hf g.1.1 g.1.2.2 e1 e2.symm σ2 b2 S2
theorem zcd {v : AV} (h : okV v) : kI v = true := by
 cases v <;> first | rfl | exact h.elim
theorem zfP {f : Nat} {R : Rt} (S : Ok θ σ a b) (hR : rd f a = some R) (h : ReadZ θ Q X f R) : CL (n + 10) 51 [.lex] (GG θ σ b) Q X := by
 have S1 : Ok θ ⟨σ.k, σ.sg, σ.line, σ.line, σ.cur⟩ a b := ⟨S.al, S.sg, S.ln, S.pl, S.hT, S.room, S.hc⟩
 refine enter [some .lex] rfl rfl rfl (And.intro (λ q => nomatch q) λ z => ?_)
 refine id (α := exX (CL (n + 9)) (.meth 61 (.loc 0) []) [some .lex] (GG θ ⟨σ.k, σ.sg, σ.line, σ.line, σ.cur⟩ b) _ _) (xM [] (λ z h => h) rfl (ziI S1 hR ⟨λ e σ2 b2 S2 => ?_, λ k v f' a' R' h1 h2 h3 h4 h5 σ2 b2 S2 => ?_, λ w rest hw e => h.err w rest hw e⟩))
 ·exact h.eos e ⟨σ2.k, σ2.sg, σ2.line, σ2.last, zaN⟩ b2 ⟨S2.al, S2.sg, S2.ln, rfl, S2.hT, S2.room, S2.hc⟩
 ·exact h.tok k v f' a' R' h1 h2 h3 h4 h5 ⟨σ2.k, σ2.sg, σ2.line, σ2.last, .inst 0 [.int k, v]⟩ b2 ⟨S2.al, S2.sg, S2.ln, rfl, S2.hT, S2.room, S2.hc⟩
end
section
variable {n : Nat} {Q : QE} {X : XE} {θ : Th} {σ : LS} {a b : Bs}
theorem zce {C : Nat -> List AV -> GS -> QE -> XE -> Prop} {l : Loc} {K : Out -> Prop} {r : List MS} {f : Nat} {e : PX} {bf : Bs} {hp : Addr -> Option (List AV)} {fs : List AV} (v : AV) (fs' : List AV) (hc : ∀ P : Prop, P -> cnd e (some .lex :: l) ⟨some fs, bf, hp⟩ P) (ev : val e (some .lex :: l) ⟨some fs, bf, hp⟩ = v)
  (hf : (!(Nat.beq f 9) && Nat.blt f 12) = true) (hq : pZ fs f v = some fs') (h : exL C r (some .lex :: l) ⟨some fs', bf, hp⟩ K) : exL C (.setattr f (.pure e) :: r) (some .lex :: l) ⟨some fs, bf, hp⟩ K := by
 subst ev
 refine hc _ (qX hf ?_)
 show zf7 ((pZ fs f _).map _) _
 rw [hq]
 exact h
theorem ziJ {bf : Bs} (hT : θ.T.length <= 900) (h : Q .none (GG θ ⟨0, sgn θ.T, 1, 1, zaN⟩ [])) : CL (n + 3) 50 [.lex, .bytes θ.T, .bytes [61, 113], o8] ⟨some [], bf, θ.hp⟩ Q X := by
 refine enter [some .lex, some (.bytes θ.T), some (.bytes [61, 113]), some o8] rfl rfl rfl ?_
 refine zce (.bytes θ.T) [.bytes θ.T] (λ z h => h) rfl rfl rfl ?_
 refine zce (.bytes [61, 113]) [.bytes θ.T, .bytes [61, 113]] (λ z h => h) rfl rfl rfl ?_
 refine zce (.bytes [113]) [.bytes θ.T, .bytes [61, 113], .bytes [113]] (λ z h => h) rfl rfl rfl ?_
 refine zce (o8) [.bytes θ.T, .bytes [61, 113], .bytes [113], o8] (λ z h => h) rfl rfl rfl ?_
 refine zce .kinds [.bytes θ.T, .bytes [61, 113], .bytes [113], o8, .kinds] (λ z h => h) rfl rfl rfl ?_
 refine zce (.int 0) [.bytes θ.T, .bytes [61, 113], .bytes [113], o8, .kinds, .int 0] (λ z h => h) rfl rfl rfl ?_
 refine zce (.int (sgn θ.T)) [.bytes θ.T, .bytes [61, 113], .bytes [113], o8, .kinds, .int 0, .int (sgn θ.T)] (λ z h => And.intro (le9 hT) (And.intro (λ q => And.intro ⟨Int.le_refl 0, dT q, le9 hT⟩ trivial) (And.intro (λ z => trivial) h))) (jK θ.T 0) rfl rfl ?_
 refine zce (.int 1) [.bytes θ.T, .bytes [61, 113], .bytes [113], o8, .kinds, .int 0, .int (sgn θ.T), .int 1] (λ z h => h) rfl rfl rfl ?_
 refine zce (.int 1) [.bytes θ.T, .bytes [61, 113], .bytes [113], o8, .kinds, .int 0, .int (sgn θ.T), .int 1, .int 1] (λ z h => h) rfl rfl rfl ?_
 refine id (α := exL (CL (n + 2)) (uP.drop 10) [some .lex, some (.bytes θ.T), some (.bytes [61, 113]), some o8] ⟨some [.bytes θ.T, .bytes [61, 113], .bytes [113], o8, .kinds, .int 0, .int (sgn θ.T), .int 1, .int 1, .buf], [], θ.hp⟩ (yt Q X)) ?_
 refine zce (zaN) [.bytes θ.T, .bytes [61, 113], .bytes [113], o8, .kinds, .int 0, .int (sgn θ.T), .int 1, .int 1, .buf, zaN] (λ z h => h) rfl rfl rfl ?_
 refine zce .none [.bytes θ.T, .bytes [61, 113], .bytes [113], o8, .kinds, .int 0, .int (sgn θ.T), .int 1, .int 1, .buf, zaN, .none] (λ z h => h) rfl rfl rfl ?_
 exact h
theorem zeo {hp : Addr -> Option (List AV)} {a : Addr} {vs ws : List AV} : uV (uV hp a vs) a ws = uV hp a ws := funext λ b => by
 unfold uV
 by_cases h : b = a
 ·rw [if_pos h, if_pos h]
 ·rw [if_neg h, if_neg h, if_neg h]
theorem Ok.hp (S : Ok θ σ a b) (h : Addr -> Option (List AV)) : Ok ⟨θ.T, h⟩ σ a b := ⟨S.al, S.sg, S.ln, S.pl, S.hT, S.room, S.hc⟩
theorem sAO {C : Nat -> List AV -> GS -> QE -> XE -> Prop} {l : Loc} {g : GS} {K : Out -> Prop} {r : List MS} {k j : Nat} {o : PX} (ho : ∀ P : Prop, P -> cnd o l g (nF (val o l g) P))
  (h : C k [.lex] g (λ v g' => exL C r (setL l j v) g' K) (λ m => K (.xc m))) : exL C (.assign j (.meth k o []) :: r) l g K := ho _ h
theorem sNew {C : Nat -> List AV -> GS -> QE -> XE -> Prop} {l : Loc} {g : GS} {K : Out -> Prop} {r : List MS} {i j : Nat} {es : List PX} (vs : List AV) (hc : ∀ P : Prop, P -> kj es l g P) (ev : uJ es l g = vs) (hg : g.lx = none)
  (h : C 50 (.lex :: vs) ⟨some [], g.buf, g.hp⟩ (λ v g' => zaR v (∀ a, g'.hp a = none -> exL C r (setL (setL l i .lex) j (.list a)) ⟨g'.lx, g'.buf, uV g'.hp a []⟩ K)) (λ m => K (.xc m))) : exL C (.assignP i j (.newLex es) .newl :: r) l g K := by
 subst ev; exact hc _ ⟨hg, h⟩
theorem jW {T : Bs} {g : GS} {R : Rt} (hT : T.length <= 900) (hR : rd fuel (alike T) = some R) (hl : R.1.length <= 900) (hg : g.lx = none)
  (h : R.2.1 = [] -> ∀ ad g', g'.hp ad = some R.1 -> (∀ a vs, g.hp a = some vs -> g'.hp a = some vs) -> Q (.list ad) g') (hx : R.2.1 ≠ [] -> Err (alike T) X R.2.1 R.2.2) :
  CL (n + 11) 22 [.bytes T, .bytes [61, 113], o8] g Q X := by
 obtain ⟨lx, bf, hp⟩ := g
 subst hg
 refine enter [some (.bytes T), some (.bytes [61, 113]), some o8, none, none, none] rfl rfl rfl (sNew [.bytes T, .bytes [61, 113], o8] (λ y h => h) rfl rfl (ziJ (θ := ⟨T, hp⟩) (n := n + 7) hT λ ad hf => ?_))
 have hf : hp ad = none := hf
 have keep : ∀ acc a vs, hp a = some vs -> uV hp ad acc a = some vs := λ acc a vs e => (fG λ z => by rw [z, hf] at e; cases e).trans e
 have S0 : Ok ⟨T, uV hp ad []⟩ ⟨0, sgn T, 1, 1, zaN⟩ (alike T) [] := ⟨rfl, rfl, (Int.add_sub_cancel 1 _).symm, rfl, hT, nLT (Nat.le_of_eq (Nat.zero_add _)) (nLT (xK T) hT), Nat.le_refl _⟩
 have loop : ∀ tk acc σ b f, ((tk = zaN /\ R = (acc, [], [])) \/ ∃ k v a R', tk = .inst 0 [.int k, v] /\ k ≠ 287 /\ okV v /\ rd f a = some R' /\ R = (acc ++ vK k v :: R'.1, R'.2) /\ Ok ⟨T, uV hp ad acc⟩ σ a b) ->
   exL (CL (n + 10)) (yG.drop 2) [some (.bytes T), some (.bytes [61, 113]), some o8, some .lex, some (.list ad), some tk] (GG ⟨T, uV hp ad acc⟩ σ b) (yt Q X) := λ tk acc σ b f h0 => by
  refine sW (α := AV × List AV × LS × Bs × Nat) (λ s => [some (.bytes T), some (.bytes [61, 113]), some o8, some .lex, some (.list ad), some s.1]) (λ s => GG ⟨T, uV hp ad s.2.1⟩ s.2.2.1 s.2.2.2.1)
   (λ s => (s.1 = zaN /\ R = (s.2.1, [], [])) \/ ∃ k v a R' f, s.1 = .inst 0 [.int k, v] /\ k ≠ 287 /\ okV v /\ rd f a = some R' /\ R = (s.2.1 ++ vK k v :: R'.1, R'.2) /\ Ok ⟨T, uV hp ad s.2.1⟩ s.2.2.1 a s.2.2.2.1 /\ s.2.2.2.2 = f + 1) (λ s => s.2.2.2.2) (tk, acc, σ, b, f + 1)
   (h0.imp id λ ⟨k, v, a, R', e1, e2, e3, e4, e5, S⟩ => ⟨k, v, a, R', f, e1, e2, e3, e4, e5, S, rfl⟩) λ s hs K' hn y y hxx => ?_
  clear h0
  obtain ⟨tk, acc, σ, b, f⟩ := s
  dsimp only at hs hn ⊢
  rcases hs with ⟨e1, e2⟩ | ⟨k, v, a, R', f', e1, e2, e3, e4, e5, S, e6⟩
  ·subst e1 e2
   exact And.intro (λ q => nomatch q) λ y => h rfl ad _ tD λ a vs e => keep acc a vs e
  ·subst e1 e6
   refine And.intro (λ y => ⟨acc, tD, qX (zcd e3) (And.intro (nLT (nLT (Nat.le_add_right _ _) (nLT (Nat.le_of_eq List.length_append.symm) (e5 ▸ hl))) (by decide : 900 <= 1000000)) ?_)⟩) λ q => absurd (show k = 287 from dT (Bool.not_eq_false' _ ▸ q)) e2
   refine sAO (λ y h => h) ?_
   show CL (n + 10) 51 [.lex] (GG ⟨T, uV (uV hp ad acc) ad (acc ++ [vK k v])⟩ σ b) _ _
   rw [zeo]
   have e7 : ∀ ts : List AV, acc ++ vK k v :: ts = acc ++ [vK k v] ++ ts := λ ts => List.append_cons acc _ ts
   refine zfP (S.hp _) e4 ⟨λ e σ2 b2 S2 => ?_, λ k2 v2 f2 a2 R2 h1 h2 h3 h4 h5 σ2 b2 S2 => ?_, λ w rest hw e t => ?_⟩
   ·exact hn (zaN, acc ++ [vK k v], σ2, b2, 0) (.inl ⟨rfl, by rw [e5, e]⟩) (Nat.succ_pos _)
   ·exact hn (_, acc ++ [vK k v], σ2, b2, f2 + 1) (.inr ⟨k2, v2, a2, R2, f2, rfl, h2, h3, h4, by rw [e5, h5, e7], S2, rfl⟩) (Nat.succ_lt_succ h1)
   ·exact hxx _ ((show Err (alike T) X w rest from (by rw [e5, e] at hx; exact hx hw)) t)
 refine id (α := exL (CL (n + 10)) (yG.drop 1) [some (.bytes T), some (.bytes [61, 113]), some o8, some .lex, some (.list ad), none] (GG ⟨T, uV hp ad []⟩ ⟨0, sgn T, 1, 1, zaN⟩ []) (yt Q X)) ?_
 refine sAO (λ y h => h) (zfP S0 hR ⟨λ e σ2 b2 S2 => loop _ [] σ2 b2 0 (.inl ⟨rfl, e⟩), λ k v f a R' h1 h2 h3 h4 h5 σ2 b2 S2 => loop _ [] σ2 b2 f (.inr ⟨k, v, a, R', rfl, h2, h3, h4, h5, S2⟩), λ w rest hw e => ?_⟩)
 rw [e] at hx
 exact hx hw
end
noncomputable def wM (p : Bs) : Bs -> Option Nat
 | [] => none
 | c :: r => if p.isPrefixOf (c :: r) = true then some 0 else (wM p r).map (· + 1)
theorem zas {A p : Bs} {i : Nat} : (A.toArray.extract i (i + p.length) == p.toArray) = p.isPrefixOf (A.drop i) := by
 have e : (List.extract A i (i + p.length)) = (A.drop i).take p.length := by rw [List.extract, Nat.add_sub_cancel_left]
 rw [List.extract_toArray, e]
 refine zhS (beq_iff_eq.trans ((Iff.trans ⟨λ h => congrArg Array.toList h, λ h => congrArg List.toArray h⟩ ?_).trans List.isPrefixOf_iff_prefix.symm))
 exact ⟨λ h => ⟨_, (congrArg (· ++ (A.drop i).drop p.length) (Eq.symm h)).trans (List.take_append_drop _ _)⟩, λ ⟨t, h⟩ => by rw [<- h]; exact List.take_left⟩
theorem zat {p : Bs} : ∀ (r : Bs) (n : Nat), n + p.length = r.length + 1 \/ (n = 0 /\ r.length < p.length) -> 0 < p.length -> (List.range n).find? (λ i => p.isPrefixOf (r.drop i)) = wM p r := λ r => by
 induction r with
 | nil =>
  intro n h hp
  have : n = 0 := by rcases h with h | h; exact Nat.eq_zero_of_not_pos λ z => absurd h (by rw [List.length_nil]; exact λ e => absurd (Nat.add_le_add z hp : 1 + 1 <= n + p.length) (by rw [e]; decide)); exact h.1
  rw [this]; rfl
 | cons c r ih =>
  intro n h hp
  rw [List.length_cons] at h
  cases n with
  | zero =>
   have hlt : r.length + 1 < p.length := by rcases h with h | h; exact Nat.lt_of_lt_of_eq (Nat.lt_succ_self _) ((Nat.zero_add _).symm.trans h).symm; exact h.2
   show none = (if p.isPrefixOf (c :: r) = true then some 0 else (wM p r).map (· + 1))
   rw [if_neg λ z => absurd (List.IsPrefix.length_le (List.isPrefixOf_iff_prefix.mp z)) (Nat.not_le_of_gt (show (c :: r).length < p.length from hlt)), <- ih 0 (.inr ⟨rfl, Nat.lt_of_succ_lt hlt⟩) hp]
   rfl
  | succ n =>
   rw [List.range_succ_eq_map, List.find?_cons, List.find?_map]
   show _ = (if p.isPrefixOf (c :: r) = true then some 0 else (wM p r).map (· + 1))
   rw [<- ih n (.inl (by rcases h with h | h; exact Nat.succ.inj ((Nat.succ_add n _).symm.trans h); exact absurd h.1 (Nat.succ_ne_zero n))) hp, List.drop_zero]
   cases p.isPrefixOf (c :: r) <;> rfl
noncomputable def atI (k : Nat) : Option Nat -> Int
 | some i => ((k + i : Nat) : Int)
 | none => -1
theorem zgU {a k p : Nat} (hk : k <= a) : a + 1 - (k + p) + p = a - k + 1 \/ (a + 1 - (k + p) = 0 /\ a - k < p) := by
 rw [Nat.sub_add_eq, Nat.sub_add_comm hk]
 rcases Nat.lt_or_ge (a - k) p with h | h
 ·exact .inr ⟨Nat.sub_eq_zero_of_le h, h⟩
 ·exact .inl (Nat.sub_add_cancel (Nat.le_succ_of_le h))
theorem findZ_eq {A p : Bs} {k : Nat} (hp : 0 < p.length) (hk : k <= A.length) : findZ A p k = atI k (wM p (A.drop k)) := by
 have e : (λ i => A.toArray.extract (i + k) (i + k + p.length) == p.toArray) = λ i => p.isPrefixOf ((A.drop k).drop i) := funext λ i => by rw [zas, List.drop_drop, Nat.add_comm]
 have h := zat (p := p) (A.drop k) (A.length + 1 - (k + p.length)) (by rw [List.length_drop]; exact zgU hk) hp
 show (match ((List.range (A.length + 1 - (k + p.length))).map (· + k)).find? (λ i => A.toArray.extract i (i + p.length) == p.toArray) with | some i => (i : Int) | none => -1) = _
 rw [List.find?_map]
 show (match ((List.range (A.length + 1 - (k + p.length))).find? (λ i => A.toArray.extract (i + k) (i + k + p.length) == p.toArray)).map (· + k) with | some i => (i : Int) | none => -1) = _
 rw [e, h]
 cases wM p (A.drop k) with
 | none => rfl
 | some i => exact congrArg Int.ofNat (Nat.add_comm i k)
theorem pH {p : Bs} {r : Bs} : ∀ {i : Nat}, wM p r = some i -> i + p.length <= r.length := by
 induction r with
 | nil => exact λ h => (nomatch h)
 | cons c r ih =>
  intro i h
  have h : (if p.isPrefixOf (c :: r) = true then some 0 else (wM p r).map (· + 1)) = some i := h
  by_cases q : p.isPrefixOf (c :: r) = true
  ·rw [if_pos q] at h
   rw [<- sIJ h, Nat.zero_add]
   exact (List.isPrefixOf_iff_prefix.mp q).length_le
  ·rw [if_neg q] at h
   obtain ⟨j, e1, e2⟩ := Option.map_eq_some_iff.mp h
   rw [<- e2, Nat.add_right_comm]
   exact Nat.succ_le_succ (ih e1)
noncomputable def comb (r : Bs) (m : Nat) : Option Nat -> Option Nat -> SR
 | none, none => .unf
 | some j, none => .nest (r.drop j)
 | none, some i => .done (r.take i) (r.drop (i + m + 2))
 | some j, some i => if j < i then .nest (r.drop j) else .done (r.take i) (r.drop (i + m + 2))
noncomputable def pI (m : Nat) (r : Bs) : Option Nat := if m = 0 then wM [91, 91] r else none
theorem zcf (c : UInt8) (r : Bs) (m : Nat) (j i : Option Nat) : comb (c :: r) m (j.map (· + 1)) (i.map (· + 1)) = (comb r m j i).put c := by
 have e : ∀ i, (c :: r).drop (i + 1 + m + 2) = r.drop (i + m + 2) := λ i => by rw [show i + 1 + m + 2 = i + m + 2 + 1 by omega]; rfl
 cases j with
 | none => cases i with
  | none => rfl
  | some i => exact congrArg (SR.done _) (e i)
 | some j => cases i with
  | none => rfl
  | some i =>
   show (if j + 1 < i + 1 then SR.nest (r.drop j) else SR.done (c :: r.take i) ((c :: r).drop (i + 1 + m + 2))) = SR.put c (if j < i then SR.nest (r.drop j) else SR.done (r.take i) (r.drop (i + m + 2)))
   by_cases q : j < i
   ·rw [if_pos q, if_pos (Nat.succ_lt_succ q)]; rfl
   ·rw [if_neg q, if_neg λ z => q (Nat.lt_of_succ_lt_succ z), e]; rfl
theorem zcg (m : Nat) (r : Bs) : zY m r = comb r m (pI m r) (wM (closer m) r) := by
 induction r with
 | nil => unfold pI; by_cases h : m = 0 <;> first | rw [if_pos h]; rfl | rw [if_neg h]; rfl
 | cons c r ih =>
  show (if (closer m).isPrefixOf (c :: r) = true then SR.done [] ((c :: r).drop (m + 2)) else if m = 0 /\ [91, 91].isPrefixOf (c :: r) = true then .nest (c :: r) else (zY m r).put c) = comb (c :: r) m (pI m (c :: r)) (if (closer m).isPrefixOf (c :: r) = true then some 0 else (wM (closer m) r).map (· + 1))
  by_cases h1 : (closer m).isPrefixOf (c :: r) = true
  ·rw [if_pos h1, if_pos h1]
   have e : (c :: r).drop (0 + m + 2) = (c :: r).drop (m + 2) := by rw [Nat.zero_add]
   cases pI m (c :: r) with
   | none => exact congrArg (SR.done []) e.symm
   | some j =>
    show _ = if j < 0 then SR.nest ((c :: r).drop j) else SR.done ((c :: r).take 0) ((c :: r).drop (0 + m + 2))
    rw [if_neg (Nat.not_lt_zero j), e]; rfl
  ·rw [if_neg h1, if_neg h1]
   by_cases h2 : m = 0 /\ [91, 91].isPrefixOf (c :: r) = true
   ·have e : pI m (c :: r) = some 0 := (if_pos h2.1).trans (if_pos h2.2)
    rw [if_pos h2, e]
    cases wM (closer m) r with
    | none => rfl
    | some i =>
     show _ = if 0 < i + 1 then SR.nest ((c :: r).drop 0) else SR.done ((c :: r).take (i + 1)) ((c :: r).drop (i + 1 + m + 2))
     rw [if_pos (Nat.succ_pos i)]; rfl
   ·have e : pI m (c :: r) = (pI m r).map (· + 1) := by
     unfold pI
     by_cases hm : m = 0
     ·rw [if_pos hm, if_pos hm]; exact if_neg λ z => h2 ⟨hm, z⟩
     ·rw [if_neg hm, if_neg hm]; rfl
    rw [if_neg h2, e, ih, zcf]
noncomputable def nq (A rest : Bs) : Nat := 1 + cnt A - cnt rest
theorem zgV (A : Bs) (j : Nat) : 1 + cnt (A.take j) = nq A (A.drop j) := by
 have := zdq A j
 unfold nq; omega
noncomputable def zkV : Bs := [117, 110, 102, 105, 110, 105, 115, 104, 101, 100, 32, 108, 111, 110, 103, 32]
noncomputable def zch (A wd : Bs) (Q : QE) (g : GS) : SR -> Prop
 | .done t rest => ∀ j : Nat, A.drop j = rest -> j <= A.length -> Q (.tup [.bytes t, .int j, .bytes []]) g
 | .nest rest => Q (.tup [.none, .int (nq A rest : Nat), .bytes kJ]) g
 | .unf => Q (.tup [.none, .int (nq A [] : Nat), .bytes (zkV ++ wd)]) g
section
variable {n : Nat} {Q : QE} {X : XE} {A wd : Bs} {g : GS} {k m b : Nat}
theorem le3 {m : Nat} (h : m <= 900) : m <= 1000 := nLT h (by decide)
theorem nu {j : Nat} (hA : A.length <= 900) (hj : j <= A.length) : A.length <= 1000 /\ 0 <= (j : Int) /\ (j : Int) <= 1000 := ⟨le3 hA, Int.natCast_nonneg j, Int.ofNat_le.mpr (le3 (nLT hj hA))⟩
theorem zgW {p : Bs} {j : Nat} (hA : A.length <= 900) (hp : p.length <= 1000) (hj : j <= A.length) : A.length <= 1000000 /\ p.length <= 1000 /\ 0 <= (j : Int) /\ (j : Int) <= 1000000 := ⟨le9 hA, hp, Int.natCast_nonneg j, Int.ofNat_le.mpr (le9 (nLT hj hA))⟩
theorem vd {j : Nat} {rest w : Bs} (hj : A.drop j = rest) (h : Q (.tup [.none, .int (nq A rest : Nat), .bytes w]) g) : Q (.tup [.none, .int ((1 + cnt (A.take j) : Nat) : Int), .bytes w]) g := by
 rw [zgV, hj]; exact h
theorem zep (hA : A.length <= 900) (hw : wd.length <= 50) (j i : Option Nat) (hj : ∀ x, j = some x -> b + x <= A.length) (hi : ∀ x, i = some x -> b + x + m + 2 <= A.length) (h : zch A wd Q g (comb (A.drop b) m j i)) :
  exL (CL n) (xq.drop 4) [some (.bytes A), some (.int (k : Int)), some (.int (m : Int)), some (.bytes wd), some (.int (b : Int)), some (.int (atI b i)), some (.int (atI b j))] g (yt Q X) := by
 have don : ∀ x, b + x + m + 2 <= A.length -> zch A wd Q g (.done ((A.drop b).take x) ((A.drop b).drop (x + m + 2))) -> Q (.tup [.bytes (yq A (some (b : Int)) (some ((b + x : Nat) : Int))), .int (((b + x : Nat) : Int) + m + 2), .bytes []]) g := λ x hx h => by
  rw [zea, Nat.add_sub_cancel_left]
  exact h (b + x + m + 2) (by rw [List.drop_drop]; congr 1; omega) hx
 refine And.intro (λ w => And.intro (λ w => trivial) trivial) (And.intro (λ q => ?_) (λ q => ?_))
 ·cases j with
  | none => exact nomatch q
  | some x =>
   have hx := hj x rfl
   have h : Q (.tup [.none, .int (nq A ((A.drop b).drop x) : Nat), .bytes kJ]) g := by
    cases i with
    | none => exact h
    | some y =>
     have q : (decide (0 <= ((b + x : Nat) : Int)) && ((decide (((b + y : Nat) : Int) < 0) || (decide (((b + x : Nat) : Int) < ((b + y : Nat) : Int)) || false)) && true)) = true := q
     have q2 := (band (band q).2).1
     have q3 : x < y := by
      rcases Bool.or_eq_true_iff.mp q2 with z | z
      ·exact absurd (dT z) (Int.not_lt.mpr (Int.natCast_nonneg _))
      ·rw [Bool.or_false] at z
       exact Nat.lt_of_add_lt_add_left (Int.ofNat_lt.mp (dT z))
     have h : zch A wd Q g (if x < y then SR.nest ((A.drop b).drop x) else SR.done ((A.drop b).take y) ((A.drop b).drop (y + m + 2))) := h
     rw [if_pos q3] at h
     exact h
   exact And.intro (nu hA hx) (vd List.drop_drop.symm h)
 ·cases i with
  | none =>
   refine And.intro (λ w => ?_) λ q => nomatch q
   cases j with
   | none =>
    refine And.intro (le9 hA) (And.intro (nu hA (Nat.le_refl _)) (And.intro ⟨show 16 <= 1000 by decide, nLT hw (by decide)⟩ (vd List.drop_length h)))
   | some x =>
    have q : (decide (0 <= ((b + x : Nat) : Int)) && (true && true)) = false := q
    rw [decide_eq_true (Int.natCast_nonneg _)] at q
    cases q
  | some y =>
   have hy := hi y rfl
   refine And.intro (λ z => absurd (show ((b + y : Nat) : Int) < 0 from dT z) (Int.not_lt.mpr (Int.natCast_nonneg _))) λ w => And.intro (le9 hA) ?_
   cases j with
   | none => exact don y hy h
   | some x =>
    have q : (decide (0 <= ((b + x : Nat) : Int)) && ((decide (((b + y : Nat) : Int) < 0) || (decide (((b + x : Nat) : Int) < ((b + y : Nat) : Int)) || false)) && true)) = false := q
    rw [decide_eq_true (Int.natCast_nonneg _), decide_eq_false (Int.not_lt.mpr (Int.natCast_nonneg (b + y)))] at q
    have h : zch A wd Q g (if x < y then SR.nest ((A.drop b).drop x) else SR.done ((A.drop b).take y) ((A.drop b).drop (y + m + 2))) := h
    rw [if_neg λ z => by
     rw [decide_eq_true (Int.ofNat_lt.mpr (Nat.add_lt_add_left z b))] at q
     cases q] at h
    exact don y hy h
theorem lV (m : Nat) : ([93] : Bs) ++ (List.replicate m ([61] : Bs)).flatten ++ [93] = closer m := by
 have : (List.replicate m ([61] : Bs)).flatten = List.replicate m 61 := by
  induction m with
  | zero => rfl
  | succ m ih => rw [List.replicate_succ, List.flatten_cons, ih]; rfl
 rw [this]; rfl
theorem ug (m : Nat) : (closer m).length = m + 2 := by
 show (List.replicate m (61 : UInt8) ++ [93]).length + 1 = m + 2
 rw [List.length_append, List.length_replicate]; rfl
theorem c_long (hA : A.length <= 900) (hk : k + m + 2 <= A.length) (hw : wd.length <= 50) (h : zch A wd Q g (zY m (zW (A.drop (k + m + 2))))) : CL (n + 1) 28 [.bytes A, .int (k : Int), .int (m : Int), .bytes wd] g Q X := by
 have hm : m <= 1000 := le3 (nLT (nLT (Nat.le_add_left m k) (nLT (Nat.le_add_right _ 2) hk)) hA)
 have hm2 : m + 2 <= 1000 := le3 (nLT (nLT (Nat.le_add_left (m + 2) k) (by rw [<- Nat.add_assoc]; exact hk)) hA)
 have main : ∀ b : Nat, A.drop b = zW (A.drop (k + m + 2)) -> b <= A.length -> exL (CL n) (xq.drop 2) [some (.bytes A), some (.int (k : Int)), some (.int (m : Int)), some (.bytes wd), some (.int (b : Int)), none, none] g (yt Q X) := λ b hb hbl => by
  rw [<- hb, zcg] at h
  have hlen : (A.drop b).length = A.length - b := List.length_drop
  have fl : ((List.replicate m ([61] : Bs)).flatten).length = m := by
   have := congrArg List.length (lV m)
   rw [ug, List.length_append, List.length_append] at this
   exact Nat.succ.inj (Nat.succ.inj ((congrArg Nat.succ (Nat.add_comm _ 1)).trans this))
  refine sAP (.int (atI b (wM (closer m) (A.drop b)))) (λ P hP => And.intro ⟨rfl, Int.natCast_nonneg m, Int.ofNat_le.mpr hm⟩ (And.intro ⟨show 1 <= 1000 by decide, nLT (Nat.le_of_eq fl) hm⟩ (And.intro ⟨?_, show 1 <= 1000 by decide⟩ (And.intro (zgW hA ?_ hbl) hP)))) ?_ ?_
  ·show (([93] : Bs) ++ (List.replicate m ([61] : Bs)).flatten).length <= 1000
   rw [List.length_append, fl]
   show 1 + m <= 1000
   exact nLT (Nat.add_comm 1 m ▸ Nat.le_succ _) hm2
  ·show (([93] : Bs) ++ (List.replicate m ([61] : Bs)).flatten ++ [93]).length <= 1000
   rw [lV, ug]; exact hm2
  ·show AV.int (findZ A (([93] : Bs) ++ (List.replicate m ([61] : Bs)).flatten ++ [93]) b) = _
   rw [lV, findZ_eq (by rw [ug]; exact Nat.succ_pos _) hbl]
  ·refine sAP (.int (atI b (pI m (A.drop b)))) (λ P hP => And.intro (λ w => And.intro (zgW hA (show 2 <= 1000 by decide) hbl) trivial) (And.intro (λ w => trivial) hP)) ?_ (zep hA hw _ _ (λ x hx => ?_) (λ x hx => ?_) h)
   ·show AV.int (cond (decide ((m : Int) = 0)) (findZ A [91, 91] b) (0 - 1)) = _
    unfold pI
    by_cases z : m = 0
    ·rw [show decide ((m : Int) = 0) = true from decide_eq_true (congrArg Int.ofNat z), if_pos z, <- findZ_eq (p := [91, 91]) (by decide) hbl]; rfl
    ·rw [show decide ((m : Int) = 0) = false from decide_eq_false λ y => z (Int.ofNat.inj y), if_neg z]; rfl
   ·unfold pI at hx
    by_cases z : m = 0
    ·rw [if_pos z] at hx
     exact Nat.add_le_of_le_sub' hbl (hlen ▸ nLT (Nat.le_add_right _ _) (pH hx))
    ·rw [if_neg z] at hx; cases hx
   ·have := pH hx
    rw [ug] at this
    rw [Nat.add_assoc, Nat.add_assoc]
    exact Nat.add_le_of_le_sub' hbl (hlen ▸ this)
 refine And.intro (le9 hA) (And.intro (λ q => ?_) (λ q => ?_))
 ·have q : yq A (some ((k + m + 2 : Nat) : Int)) (some ((k + m + 2 : Nat) + 1 : Int)) = [10] := dT q
  rw [zdh] at q
  obtain ⟨r, e⟩ := take1.mp q
  exact main (k + m + 2 + 1) (by rw [(zN e).2.2, e]; rfl) (zN e).1
 ·have q : ¬ yq A (some ((k + m + 2 : Nat) : Int)) (some ((k + m + 2 : Nat) + 1 : Int)) = [10] := dF q
  rw [zdh] at q
  refine main (k + m + 2) ?_ hk
  cases e : A.drop (k + m + 2) with
  | nil => rfl
  | cons c r => exact (if_neg λ z => q (take1.mpr ⟨r, by rw [e, z]⟩)).symm
end
noncomputable def ivs (b : Bs) : List AV := b.map λ c => .int (iv c)
theorem zeq (b : Bs) (c : UInt8) : ivs b ++ [.int (iv c)] = ivs (b ++ [c]) := (List.map_append (l₁ := b) (l₂ := [c]) (f := λ c => AV.int (iv c))).symm
theorem lW (b : Bs) : (ivs b).length = b.length := List.length_map _
theorem zer (b : Bs) : (ivs b).map xH = b := by
 induction b with
 | nil => rfl
 | cons c b ih =>
  show xH (.int (iv c)) :: (ivs b).map xH = c :: b
  rw [ih, cH]
theorem zes (b : Bs) : AllB (ivs b) := λ x hx => by
 obtain ⟨c, _, e⟩ := List.mem_map.mp hx
 rw [<- e]; exact jL c
noncomputable def sU (A : Bs) (Q : QE) (g : GS) (R : Qt) : Prop := match R.2.2 with
 | [] => ∀ (j : Nat) g', A.drop j = R.2.1 -> j <= A.length -> Sub g g' -> Q (.tup [.bytes R.1, .int j, .bytes []]) g'
 | d :: w => ∀ g', Sub g g' -> Q (.tup [.none, .int (nq A R.2.1 : Nat), .bytes (d :: w)]) g'
theorem zci : ∀ (m : Nat) (v : Int) (a : Bs), jO m v a = (((a.take m).takeWhile isD).foldl (λ v c => 10 * v + iv c - 48) v, a.drop ((a.take m).takeWhile isD).length)
 | 0, _, _ => rfl
 | _ + 1, _, [] => rfl
 | m + 1, v, c :: r => by
  show (if isD c = true then jO m (10 * v + iv c - 48) r else (v, c :: r)) = (((c :: r.take m).takeWhile isD).foldl (λ v c => 10 * v + iv c - 48) v, (c :: r).drop ((c :: r.take m).takeWhile isD).length)
  by_cases h : isD c = true
  ·rw [if_pos h, qW h, zci m]; rfl
  ·rw [if_neg h, sJ (eq_false_of_ne_true h)]; rfl
theorem bh : ∀ {m : Nat} {v : Int} {a : Bs}, 0 <= v -> 0 <= (jO m v a).1
 | 0, _, _, h => h
 | _ + 1, _, [], h => h
 | m + 1, v, c :: r, h => by
  show 0 <= (if isD c = true then jO m (10 * v + iv c - 48) r else (v, c :: r)).1
  by_cases q : isD c = true
  ·rw [if_pos q]; exact bh (zb2 h q)
  ·rw [if_neg q]; exact h
theorem zet {c : UInt8} {r t : Bs} {v : Int} (hc : isD c = true) (h : jO 3 0 (c :: r) = (v, t)) : ∃ n, zde (c :: r) = (if v < 256 then .int v else .none, n) /\ (c :: r).drop n = t /\ 0 <= v /\ n <= (c :: r).length := by
 have p := bh (m := 3) (a := c :: r) (Int.le_refl 0)
 rw [h] at p
 rw [zci] at h
 have e1 : zdr (vJ (c :: r)) = v := congrArg Prod.fst h
 refine ⟨(vJ (c :: r)).length, ?_, congrArg Prod.snd h, p, nLT (List.takeWhile_sublist _).length_le (List.length_take_le' _ _)⟩
 rw [<- e1]
 exact if_pos hc
theorem zcj {c : UInt8} {r : Bs} (hc : isD c = false) : zde (c :: r) = (.int (iv (nameE c)), 1) := by
 have := mz (p := λ c => decide (vM (iv c) (iv c) xO = iv (nameE c))) (by decide +kernel) c
 rw [<- show vM (iv c) (iv c) xO = iv (nameE c) from of_decide_eq_true this]
 exact if_neg (by rw [hc]; exact Bool.false_ne_true)
section
variable {n : Nat} {Q : QE} {X : XE} {A a : Bs} {g g' : GS} {k j : Nat} {ad : Addr} {d : Option AV}
theorem vf (hA : A.length <= 900) (hj : j < A.length) : 0 <= (j : Int) /\ (j : Int) < (A.length : Int) /\ A.length <= 1000000 := ⟨Int.natCast_nonneg j, Int.ofNat_lt.mpr hj, le9 hA⟩
theorem jX {v u w : AV} {C : AV -> AV -> Prop} (e : v = .tup [u, w]) (h : C u w) : asT v C := by
 subst e; exact h
theorem qg (h : A.drop j = []) : A.length <= j := List.drop_eq_nil_iff.mp h
theorem mH {acc a1 : Bs} (hA : A.length <= 900) (hj : A.drop j = a1) (hjl : j <= A.length) (o : oZ g ad (ivs acc) g') (hacc : acc.length <= 900)
  (hc : (a1 = [] /\ sU A Q g (acc, [], zjd)) \/ (∃ r, a1 = 10 :: r /\ sU A Q g (acc, 10 :: r, zjd)) \/ ∃ c r, c ≠ 10 /\ a1 = c :: r /\ sU A Q g (acc, r, [])) :
  exL (CL n) (xV.drop 2) [some (.bytes A), some (.int (k : Int)), some (.list ad), some (.int (j : Int)), d] g' (yt Q X) := by
 rcases hc with ⟨e, h⟩ | ⟨r, e, h⟩ | ⟨c, r, hc, e, h⟩
 ·subst e
  have e : j = A.length := Nat.le_antisymm hjl (qg hj)
  refine And.intro (le9 hA) (And.intro (λ q => absurd (congrArg Int.ofNat e) (dF q)) (And.intro (λ y => And.intro (nu hA hjl) (vd hj (h g' o.sub))) λ q => ?_))
  have q : (decide ((j : Int) = (A.length : Int)) || (decide (iv (A.getD j 0) = 10) || false)) = false := q
  rw [show decide ((j : Int) = (A.length : Int)) = true from decide_eq_true (congrArg Int.ofNat e)] at q
  cases q
 ·subst e
  obtain ⟨z1, z2, z3⟩ := zN hj
  refine And.intro (le9 hA) (And.intro (λ y => And.intro (vf hA z1) trivial) (And.intro (λ y => And.intro (nu hA hjl) (vd hj (h g' o.sub))) λ q => ?_))
  have q : (decide ((j : Int) = (A.length : Int)) || (decide (iv (A.getD j 0) = iv 10) || false)) = false := q
  rw [z2, decide_eq_true rfl, Bool.true_or, Bool.or_true] at q
  cases q
 ·subst e
  obtain ⟨z1, z2, z3⟩ := zN hj
  refine And.intro (le9 hA) (And.intro (λ y => And.intro (vf hA z1) trivial) (And.intro (λ q => ?_) λ y => ?_))
  ·have q : (decide ((j : Int) = (A.length : Int)) || (decide (iv (A.getD j 0) = iv 10) || false)) = true := q
   rw [z2, decide_eq_false (λ z => hc (xJ.mp z)), show decide ((j : Int) = (A.length : Int)) = false from decide_eq_false λ z => Nat.ne_of_lt z1 (Int.ofNat.inj z)] at q
   cases q
  ·refine And.intro ⟨ivs acc, o.at_, by rw [lW]; exact le9 hacc, zes acc⟩ ?_
   show Q (.tup [mO g' (.list ad), .int ((j + 1 : Nat) : Int), .bytes []]) g'
   rw [uR o, zer]
   exact h (j + 1) g' z3 z1 o.sub
theorem zeu {q : UInt8} {R : Qt} {f : Nat} (hA : A.length <= 900) (hk : A.drop k = q :: a) (hq : q = 34 \/ q = 39) (hQ : quo q f a = some R) (h : sU A Q g R) : CL (n + 1) 30 [.bytes A, .int (k : Int)] g Q X := by
 have q10 : q ≠ 10 := by rcases hq with rfl | rfl <;> decide
 have q92 : (92 : UInt8) ≠ q := by rcases hq with rfl | rfl <;> decide
 have fin : ∀ {acc r w}, uf acc (some ([], r, w)) = some R -> sU A Q g (acc, r, w) := λ e => cU e ▸ h
 obtain (⟨k1, k2, k3⟩) := zN hk
 have e0 : uf [] (quo q f a) = some R := by rw [hQ]; rfl
 clear h hQ hq
 refine λ ad hf => ?_
 refine sW (α := Nat × Bs × Bs × Nat × GS × Option AV) (λ s => [some (.bytes A), some (.int (k : Int)), some (.list ad), some (.int (s.1 : Int)), s.2.2.2.2.2]) (λ s => s.2.2.2.2.1)
  (λ s => A.drop s.1 = s.2.1 /\ s.1 <= A.length /\ uf s.2.2.1 (quo q s.2.2.2.1 s.2.1) = some R /\ oZ g ad (ivs s.2.2.1) s.2.2.2.2.1 /\ s.2.2.1.length <= s.1) (λ s => s.2.2.2.1) (k + 1, a, [], f, _, none) ⟨k3, k1, e0, oZ.new hf, Nat.zero_le _⟩ λ s hs K' hn y hr y => ?_
 clear e0
 obtain (⟨j, a1, acc, f, g', d⟩) := s
 obtain (⟨hj, hjl, e1, o, hacc⟩) := hs
 dsimp only at hj hjl e1 o hacc hn ⊢
 have hac9 : acc.length <= 900 := nLT hacc (nLT hjl hA)
 cases f with
 | zero => exact nomatch e1
 | succ f =>
 cases a1 with
 | nil =>
  have hl := qg hj
  refine And.intro (le9 hA) (And.intro (λ q => absurd (Int.ofNat_lt.mp (show (j : Int) < (A.length : Int) from dT q)) (Nat.not_lt.mpr hl)) (And.intro (λ q => absurd (Int.ofNat_lt.mp (show (j : Int) < (A.length : Int) from dT (band q).1)) (Nat.not_lt.mpr hl)) λ y => mH hA hj hjl o hac9 (.inl ⟨rfl, fin e1⟩)))
 | cons c r =>
  obtain (⟨z1, z2, z3⟩) := zN hj
  have step : ∀ (x : UInt8) (a2 : Bs) (i : Nat) d', A.drop i = a2 -> j < i -> i <= A.length -> uf acc (zgP x (quo q f a2)) = some R -> K' (.nx [some (.bytes A), some (.int (k : Int)), some (.list ad), some (.int (i : Int)), d'] { g' with hp := uV g'.hp ad (ivs acc ++ [.int (iv x)]) }) := λ x a2 i d' h1 h2 h3 h4 => by
   rw [zeq]
   exact hn (i, a2, acc ++ [x], f, _, d') ⟨h1, h3, cT acc x _ ▸ h4, o.set, by rw [xu]; exact nLT (Nat.succ_le_succ hacc) h2⟩ (Nat.lt_succ_self f)
  have e2 : uf acc (zkn (quo q f) q c r) = some R := e1
  clear e1
  refine And.intro (le9 hA) (And.intro (λ y => And.intro (vf hA z1) (And.intro (vf hA k1) trivial)) (And.intro (λ t => ?_) (λ t => ?_)))
  ·have t : (decide ((j : Int) < (A.length : Int)) && (!(decide (iv (A.getD j 0) = iv (A.getD k 0)) || (decide (iv (A.getD j 0) = iv 10) || false)) && true)) = true := t
   rw [z2, k2] at t
   have t := (band (band t).2).1
   have cq : c ≠ q := λ z => by rw [jU.mpr (.inl z)] at t; cases t
   have c10 : c ≠ 10 := λ z => by rw [jU.mpr (.inr z)] at t; cases t
   have e2 : uf acc (zkm (quo q f) c r) = some R := (congrArg (uf acc) ((if_neg cq).trans (if_neg c10))).symm.trans e2
   refine And.intro (vf hA z1) (And.intro (λ t => ?_) (λ t => ?_))
   ·have t : (!(decide (iv (A.getD j 0) = iv 92))) = true := t
    rw [z2] at t
    have c92 : c ≠ 92 := λ z => by rw [(tK 92).mpr z] at t; cases t
    refine ⟨ivs acc, o.at_, And.intro (vf hA z1) (And.intro (by rw [lW]; exact le9 hac9) ?_)⟩
    have := step c r (j + 1) d z3 (Nat.lt_succ_self j) z1 ((congrArg (uf acc) (if_neg c92)).symm.trans e2)
    rw [<- z2] at this
    exact this
   ·have t : (!(decide (iv (A.getD j 0) = iv 92))) = false := t
    rw [z2] at t
    cases (tK 92).mp (zhT t)
    have e2 : uf acc (zjS (quo q f) r) = some R := e2
    refine And.intro (le9 hA) (And.intro (λ t => ?_) (λ t => ?_))
    ·have t : ((j : Int) + 1) = (A.length : Int) := dT t
     have hr2 : r = [] := z3.symm.trans (List.drop_eq_nil_of_le (Nat.le_of_eq (Int.ofNat.inj t).symm))
     subst hr2
     exact hn (j + 1, [], acc, f, g', d) ⟨z3, z1, e2, o, Nat.le_succ_of_le hacc⟩ (Nat.lt_succ_self f)
    ·have t : ¬ ((j : Int) + 1) = (A.length : Int) := dF t
     cases r with
     | nil => exact absurd (congrArg Int.ofNat (Nat.le_antisymm z1 (qg z3))) t
     | cons c r =>
      obtain (⟨y1, y2, y3⟩) := zN z3
      have e4 : ∀ (U : AV) (m : Nat), zde (c :: r) = (U, m) -> za3 (zde (A.drop (j + 1))).1 ((j + 1 : Nat) : Int) (zde (A.drop (j + 1))).2 = .tup [U, .int ((j + 1 + m : Nat) : Int)] := λ U m e => by rw [z3, e]; rfl
      refine And.intro ⟨le3 hA, Int.natCast_nonneg (j + 1), Int.ofNat_lt.mpr y1⟩ ?_
      by_cases hc : isD c = true
      ·cases hD : jO 3 0 (c :: r) with
       | mk v t2 =>
        obtain (⟨m, hE, ht, hv0, hm⟩) := zet hc hD
        have hl : j + 1 + m <= A.length := by
         have : (A.drop (j + 1)).length = A.length - (j + 1) := List.length_drop
         rw [z3] at this
         exact Nat.add_le_of_le_sub' (Nat.le_of_lt y1) (nLT hm (Nat.le_of_eq this))
        have hd : A.drop (j + 1 + m) = t2 := by rw [<- List.drop_drop, z3, ht]
        have e2 : uf acc (zjR (quo q f) (v, t2)) = some R := hD ▸ (congrArg (uf acc) (if_pos hc)).symm.trans e2
        by_cases hv : v < 256
        ·rw [if_pos hv] at hE
         refine jX (e4 _ _ hE) (And.intro (λ q => nomatch q) λ y => ⟨ivs acc, o.at_, And.intro (by rw [lW]; exact le9 hac9) ?_⟩)
         have := step v.toNat.toUInt8 t2 (j + 1 + m) (some (.int v)) hd (Nat.lt_of_lt_of_le (Nat.lt_succ_self j) (Nat.le_add_right _ _)) hl ((congrArg (uf acc) (if_pos hv)).symm.trans e2)
         rw [ziD hv0 hv] at this
         exact this
        ·rw [if_neg hv] at hE
         have h : sU A Q g (acc, t2, zje) := fin ((congrArg (uf acc) (if_neg hv)).symm.trans e2)
         exact jX (e4 _ _ hE) (And.intro (λ y => And.intro (nu hA hl) (hr _ _ (vd hd (h g' o.sub)))) λ q => nomatch q)
      ·refine jX (e4 _ _ (zcj (eq_false_of_ne_true hc))) (And.intro (λ q => nomatch q) λ y => ⟨ivs acc, o.at_, And.intro (by rw [lW]; exact le9 hac9) ?_⟩)
       exact step (nameE c) r (j + 1 + 1) _ y3 (Nat.lt_succ_of_lt (Nat.lt_succ_self j)) y1 ((congrArg (uf acc) (if_neg hc)).symm.trans e2)
  ·have t : (decide ((j : Int) < (A.length : Int)) && (!(decide (iv (A.getD j 0) = iv (A.getD k 0)) || (decide (iv (A.getD j 0) = iv 10) || false)) && true)) = false := t
   rw [z2, k2, decide_eq_true (Int.ofNat_lt.mpr z1), Bool.and_true, Bool.true_and] at t
   refine mH hA hj hjl o hac9 ?_
   rcases jU.mp (zhT t) with e | e
   ·exact .inr (.inr ⟨c, r, e ▸ q10, rfl, fin ((congrArg (uf acc) (if_pos e)).symm.trans e2)⟩)
   ·subst e
    exact .inr (.inl ⟨r, rfl, fin ((congrArg (uf acc) ((if_neg q10.symm).trans (if_pos rfl))).symm.trans e2)⟩)
end
theorem fQ {C : Nat -> List AV -> GS -> QE -> XE -> Prop} {g : GS} {K : Out -> Prop} {r : List MS} {t : PX} {b : List MS} {A : Bs} {k : Nat} (p : UInt8 -> Bool) (l : Nat -> Loc) (hk : k <= A.length)
  (ht : ∀ j, j <= A.length -> ∃ v : Bool, val t (l j) g = .bool v /\ (∀ P : Prop, P -> cnd t (l j) g P) /\ (v = true ↔ ∃ c r, A.drop j = c :: r /\ p c = true)) (hs : ∀ j (K' : Out -> Prop), K' (.nx (l (j + 1)) g) -> exL C b (l j) g K')
  (h : exL C r (l (k + ((A.drop k).takeWhile p).length)) g K) : exL C (.while (.pure t) b :: r) (l k) g K := by
 refine sW (α := Nat) l (λ y => g) (λ j => j <= A.length /\ j + ((A.drop j).takeWhile p).length = k + ((A.drop k).takeWhile p).length) (λ j => A.length - j) k ⟨hk, rfl⟩ λ j hj K' hn y y y => ?_
 obtain ⟨v, ev, hc, hv⟩ := ht j hj.1
 refine hc _ ?_
 rw [ev]
 refine And.intro (λ q => hs j K' ?_) (λ q => ?_)
 ·obtain ⟨c, r, e, hp⟩ := hv.mp q
  obtain ⟨z1, _, z3⟩ := zN e
  refine hn (j + 1) ⟨z1, ?_⟩ (Nat.sub_lt_sub_left z1 (Nat.lt_succ_self j))
  rw [<- hj.2, e, z3, qW hp]
  exact Nat.succ_add _ _
 ·have e : (A.drop j).takeWhile p = [] := by
   cases e : A.drop j with
   | nil => rfl
   | cons c r => exact sJ (eq_false_of_ne_true λ z => bF hv q ⟨c, r, e, z⟩)
  have e2 := hj.2
  rw [e] at e2
  rw [<- e2] at h
  exact h
noncomputable def uq (x : Int) : Int := cond (decide (x < 58)) (x - 48) (cond ((decide (65 <= x) && decide (x <= 70)) || ((decide (97 <= x) && decide (x <= 102)) || false)) (Int.fmod x 32 + 9) 99)
theorem zgX {B : Int} (hB : B = 10 \/ B = 16) (c : UInt8) : (decide (0 <= uq (iv c)) && decide (uq (iv c) < B)) = okd B c /\ (okd B c = true -> uq (iv c) = oF (iv c)) := by
 rcases hB with rfl | rfl
 ·exact of_decide_eq_true (mz (p := λ c => decide ((decide (0 <= uq (iv c)) && decide (uq (iv c) < 10)) = okd 10 c /\ (okd 10 c = true -> uq (iv c) = oF (iv c)))) (by decide +kernel) c)
 ·exact of_decide_eq_true (mz (p := λ c => decide ((decide (0 <= uq (iv c)) && decide (uq (iv c) < 16)) = okd 16 c /\ (okd 16 c = true -> uq (iv c) = oF (iv c)))) (by decide +kernel) c)
theorem zjV (v b d : Int) : Int.fmod (v % 2 ^ 64 * b + d) (2 ^ 64) = (v * b + d) % 2 ^ 64 := by
 rw [Int.fmod_eq_emod_of_nonneg _ (by decide), Int.add_emod, Int.mul_emod, Int.emod_emod_of_dvd _ (Int.dvd_refl _), <- Int.mul_emod, <- Int.add_emod]
section
variable {C : Nat -> List AV -> GS -> QE -> XE -> Prop} {g : GS} {K : Out -> Prop} {A w : Bs} {k j : Nat} {B : Int}
theorem zew {d0 : Option AV} (hB : B = 10 \/ B = 16) (hw : w.length <= 900) (h : K (.rt (.tup [oJ (oH B w), .int j]) g)) :
  exL C (zK.drop 6) [some (.bytes A), some (.int (k : Int)), some (.int (j : Int)), some (.bytes w), some (.int B), none, none, d0] g K := by
 have hs : dj B := by rcases hB with rfl | rfl <;> exact ⟨by decide, by decide⟩
 refine sAP (.int (0 % 2 ^ 64)) (λ y h => h) rfl ?_
 refine sFB (α := Int × Option AV × Option AV) (bs := w) (λ y s => [some (.bytes A), some (.int (k : Int)), some (.int (j : Int)), some (.bytes w), some (.int B), some (.int (s.1 % 2 ^ 64)), s.2.1, s.2.2])
  (λ r s => (if aB B r = true then some (oG (foldZ B r s.1)) else none) = oH B w) (0, none, d0) rfl rfl (le9 hw) (λ s hI => ?_) (λ c r s hI K' hn hr => ?_) λ P Q pq hp => pq hp
 ·obtain ⟨v, o, d⟩ := s
  have hI : some (oG v) = oH B w := hI
  rw [<- hI] at h
  refine And.intro (λ y => trivial) (And.intro (λ y => trivial) ?_)
  show K (.rt (.tup [.int (cond (decide (v % 2 ^ 64 >= 2 ^ 63)) (v % 2 ^ 64 - 2 ^ 64) (v % 2 ^ 64)), .int j]) g)
  have e : cond (decide (v % 2 ^ 64 >= 2 ^ 63)) (v % 2 ^ 64 - 2 ^ 64) (v % 2 ^ 64) = oG v := by
   unfold oG
   by_cases z : v % 2 ^ 64 >= 2 ^ 63
   ·rw [if_pos z, decide_eq_true z]; rfl
   ·rw [if_neg z, decide_eq_false z]; rfl
  rw [e]
  exact h
 ·obtain ⟨v, o, d⟩ := s
  dsimp only at hI
  obtain ⟨d1, d2⟩ := zgX hB c
  refine And.intro (λ y => trivial) (And.intro (λ y => And.intro (λ y => trivial) (And.intro (λ y => trivial) (And.intro (λ y => trivial) trivial))) (And.intro (λ q => hr _ _ ?_) λ q => ?_))
  ·have q : (!(decide (0 <= uq (iv c)) && decide (uq (iv c) < B))) = true := q
   rw [d1] at q
   have e : ¬ aB B (c :: r) = true := λ z => by rw [show okd B c = true from (band z).1] at q; cases q
   rw [if_neg e] at hI
   rw [<- hI] at h
   exact h
  ·have q : (!(decide (0 <= uq (iv c)) && decide (uq (iv c) < B))) = false := q
   rw [d1] at q
   have q := zhT q
   have hn := hn (v * B + oF (iv c), some (.int (iv c)), some (.int (uq (iv c)))) (by
    rw [<- hI]
    show _ = (if (okd B c && aB B r) = true then _ else _)
    rw [q]; rfl)
   refine And.intro (.inr hs) (id (α := dec (!(decide ((2 : Int) ^ (64 : Int).toNat = 0))) (K' (.nx [some (.bytes A), some (.int (k : Int)), some (.int (j : Int)), some (.bytes w), some (.int B), some (.int (Int.fmod (v % 2 ^ 64 * B + uq (iv c)) (2 ^ 64))), some (.int (iv c)), some (.int (uq (iv c)))] g))) (qX (by decide) ?_))
   rw [zjV, d2 q]
   rw [d2 q] at hn
   exact hn
end
noncomputable def cE (r : Bs) : Bool := decide (r.take 1 = [101]) || (decide (r.take 1 = [69]) || false)
noncomputable def cPM (r : Bs) : Bool := decide (r.take 1 = [43]) || (decide (r.take 1 = [45]) || false)
theorem zau (c d : UInt8) (r : Bs) : decide ((c :: r).take 1 = [d]) = (c == d) := by
 show decide ([c] = [d]) = _
 by_cases h : c = d
 ·rw [h, decide_eq_true rfl]; exact (beq_self_eq_true d).symm
 ·rw [decide_eq_false λ e => h (List.cons.inj e).1, zhV h]
theorem zgY : ∀ r : Bs, (mQ r).length = cond (cE r) (1 + cond (cPM (r.drop 1)) 1 0) 0
 | [] => rfl
 | [c] => by
  show (if isE c = true then [c] else []).length = cond (decide ((c :: []).take 1 = [101]) || (decide ((c :: []).take 1 = [69]) || false)) 1 0
  rw [zau, zau, Bool.or_false, Bool.or_comm]
  show (if isE c = true then [c] else []).length = cond (isE c) 1 0
  cases isE c <;> rfl
 | c :: d :: r => by
  show (if isE c = true then (if aA d = true then [c, d] else [c]) else []).length = cond (decide ((c :: d :: r).take 1 = [101]) || (decide ((c :: d :: r).take 1 = [69]) || false)) (1 + cond (decide ((d :: r).take 1 = [43]) || (decide ((d :: r).take 1 = [45]) || false)) 1 0) 0
  rw [zau, zau, zau, zau, Bool.or_false, Bool.or_false, Bool.or_comm]
  show _ = cond (isE c) (1 + cond (aA d) 1 0) 0
  cases isE c <;> cases aA d <;> rfl
noncomputable def zjW (w : Bs) : Bool := (decide (w.take 2 = [48, 120]) || (decide (w.take 2 = [48, 88]) || false)) && (decide ((2 : Int) < (w.length : Int)) && true)
theorem zex {w : Bs} (h : zjW w = true) : rN w = oH 16 (w.drop 2) := by
 obtain ⟨h1, h2⟩ := band h
 obtain ⟨a, d, e, r, rfl⟩ := zjl (Int.ofNat_lt.mp (dT (band h2).1))
 have h1 : (decide ([a, d] = [48, 120]) || (decide ([a, d] = [48, 88]) || false)) = true := h1
 rw [Bool.or_false, Bool.or_eq_true, decide_eq_true_iff, decide_eq_true_iff] at h1
 rcases h1 with h1 | h1
 ·cases h1; exact lE (.inl rfl)
 ·cases h1; exact lE (.inr rfl)
theorem zgZ {w : Bs} (h : zjW w = false) : rN w = oH 10 w := zbT λ ⟨h1, h2, h3⟩ => by
 obtain ⟨a, d, e, r, rfl⟩ := zjl h1
 have h2 : a = 48 := h2
 have h3 : d = 120 \/ d = 88 := h3
 subst h2
 have hl : decide ((2 : Int) < ((48 :: d :: e :: r : Bs).length : Int)) = true := decide_eq_true (Int.ofNat_lt.mpr h1)
 rw [zjW, hl] at h
 rcases h3 with rfl | rfl <;> exact nomatch h
section
variable {C : Nat -> List AV -> GS -> QE -> XE -> Prop} {g : GS} {K : Out -> Prop} {A : Bs} {k : Nat}
theorem zey (w : Bs) (i : Nat) : yq w (some (i : Int)) none = w.drop i := by
 unfold yq
 show (w.drop (clipAt w.length i)).take (w.length - clipAt w.length i) = _
 rw [lH, cG]
 refine List.take_of_length_le ?_
 rw [List.length_drop]
 exact Nat.sub_le_sub_left (Nat.min_le_left _ _) _
theorem zez {j : Nat} {w : Bs} (hA : A.length <= 900) (hw : yq A (some (k : Int)) (some (j : Int)) = w) (hl : w.length <= 900) (h : K (.rt (.tup [oJ (rN w), .int j]) g)) :
  exL C (zK.drop 4) [some (.bytes A), some (.int (k : Int)), some (.int (j : Int)), none, none, none, none, none] g K := by
 subst hw
 refine And.intro (le9 hA) (id (α := exL C (zK.drop 5) [some (.bytes A), some (.int (k : Int)), some (.int (j : Int)), some (.bytes (yq A (some (k : Int)) (some (j : Int)))), some (.int 10), none, none, none] g K) ?_)
 generalize yq A (some (k : Int)) (some (j : Int)) = w at hl h
 have c2 := lD w 2
 have fin : ∀ w2 B, (B = 10 \/ B = 16) -> w2.length <= 900 -> rN w = oH B w2 -> exL C (zK.drop 6) [some (.bytes A), some (.int (k : Int)), some (.int (j : Int)), some (.bytes w2), some (.int B), none, none, none] g K := λ w2 B hB hl2 e => zew hB hl2 (by rw [<- e]; exact h)
 refine And.intro (le9 hl) (And.intro (λ z => And.intro (le9 hl) trivial) (And.intro (λ q => ?_) (λ q => ?_)))
 ·have q : ((decide (yq w none (some (2 : Nat)) = [48, 120]) || (decide (yq w none (some (2 : Nat)) = [48, 88]) || false)) && (decide ((2 : Int) < (w.length : Int)) && true)) = true := q
  rw [c2] at q
  have := fin (w.drop 2) 16 (.inr rfl) (nLT (List.drop_suffix 2 w).length_le hl) (zex q)
  rw [<- zey w 2] at this
  exact And.intro (le9 hl) this
 ·have q : ((decide (yq w none (some (2 : Nat)) = [48, 120]) || (decide (yq w none (some (2 : Nat)) = [48, 88]) || false)) && (decide ((2 : Int) < (w.length : Int)) && true)) = false := q
  rw [c2] at q
  exact fin w 10 (.inl rfl) hl (zgZ q)
theorem zfQ {p : UInt8 -> Bool} {j : Nat} (hj : j <= A.length) : j + ((A.drop j).takeWhile p).length <= A.length := by
 have h1 := (List.takeWhile_sublist (l := A.drop j) p).length_le
 rw [List.length_drop] at h1
 exact Nat.add_le_of_le_sub' hj h1
theorem bx {p : UInt8 -> Bool} {j : Nat} : A.drop (j + ((A.drop j).takeWhile p).length) = (A.drop j).dropWhile p := by
 rw [<- List.drop_drop]
 conv => lhs; arg 2; rw [<- zbZ (p := p) (A.drop j)]
 exact List.drop_left
theorem fU {j : Nat} {l : Loc} {x y : PX} (hA : A.length <= 900) (hj : j <= A.length) (h1 : val x l g = .bytes A) (h2 : val y l g = .int j) (hc : ∀ P : Prop, P -> cnd x l g (cnd y l g P)) :
  ∃ v : Bool, val (.call 31 [x, y]) l g = .bool v /\ (∀ P : Prop, P -> cnd (.call 31 [x, y]) l g P) /\ (v = true ↔ ∃ c r, A.drop j = c :: r /\ isN c = true) := by
 refine ⟨(match A.drop j with | c :: _ => isN c | [] => false), ?_, λ P hP => hc _ ?_, ?_⟩
 ·show PF 31 [val x l g, val y l g] g = _
  rw [h1, h2]; rfl
 ·show PC 31 [val x l g, val y l g] g P
  rw [h1, h2]
  exact ⟨nu hA hj, hP⟩
 ·cases A.drop j with
  | nil => exact ⟨λ h => (nomatch h), λ ⟨_, _, h, _⟩ => (nomatch h)⟩
  | cons c r => exact ⟨λ h => ⟨c, r, rfl, h⟩, λ ⟨d, t, h, k⟩ => by rw [(List.cons.inj h).1]; exact k⟩
theorem p32 : Pu 32 := λ C vs g h => by
 refine pbn h (λ z z h => h.1.1.2) λ A k h => ?_
 obtain ⟨⟨⟨hA, _⟩, c, r, hk, hc⟩, _⟩ := h
 have hk : A.drop k = c :: r := hk
 have hkl := (zN hk).1
 have hk0 : k <= A.length := Nat.le_of_lt hkl
 refine sAP (.int (k : Int)) (λ z h => h) rfl ?_
 refine fQ (A := A) (k := k) wR (λ j => [some (.bytes A), some (.int (k : Int)), some (.int (j : Int)), none, none, none, none, none]) hk0 (λ j hj => ?_) (λ j K' h => h) ?_
 ·refine ⟨decide ((j : Int) < (A.length : Int)) && ((qx (iv (A.getD j 0)) || (decide (iv (A.getD j 0) = 46) || false)) && true), rfl, λ P hP => ?_, ?_⟩
  ·refine And.intro (le9 hA) (And.intro (λ q => ?_) hP)
   have s := vf hA (Int.ofNat_lt.mp (show (j : Int) < (A.length : Int) from dT q))
   exact And.intro s (And.intro (λ z => And.intro s trivial) trivial)
  ·rw [Bool.and_true, Bool.and_eq_true, decide_eq_true_iff, zbY]
   refine ⟨λ h => ⟨_, _, wF (Int.ofNat_lt.mp h.1), h.2⟩, λ ⟨d, t, e, hd⟩ => ?_⟩
   obtain ⟨z1, z2, _⟩ := zN e
   exact ⟨Int.ofNat_lt.mpr z1, z2 ▸ hd⟩
 ·have e1 := zfQ (p := wR) hk0
  have d1 := bx (A := A) (p := wR) (j := k)
  have hx := zgY ((A.drop k).dropWhile wR)
  generalize hn : k + ((A.drop k).takeWhile wR).length = n1 at e1 d1
  generalize hr1 : (A.drop k).dropWhile wR = r1 at d1 hx
  have hp := cP r1
  have hel : n1 + (mQ r1).length <= A.length := by
   have h1 := congrArg List.length hp
   have h2 : (A.drop n1).length = A.length - n1 := List.length_drop
   rw [List.length_append] at h1
   rw [d1] at h2
   exact Nat.add_le_of_le_sub' e1 (nLT (Nat.le.intro h1) (Nat.le_of_eq h2))
  have tl : exL C (zK.drop 3) [some (.bytes A), some (.int (k : Int)), some (.int ((n1 + (mQ r1).length : Nat) : Int)), none, none, none, none, none] g (PuK 32 [.bytes A, .int (k : Int)] g) := by
   refine fQ (A := A) isN (λ j => [some (.bytes A), some (.int (k : Int)), some (.int (j : Int)), none, none, none, none, none]) hel (λ j hj => fU hA hj rfl rfl λ z h => h) (λ j K' h => h) ?_
   have e2 : n1 + (mQ r1).length + ((A.drop (n1 + (mQ r1).length)).takeWhile isN).length = k + (ur (A.drop k)).length := by
    rw [<- List.drop_drop, d1, <- hn]
    show _ = k + ((A.drop k).takeWhile wR ++ mQ ((A.drop k).dropWhile wR) ++ (((A.drop k).dropWhile wR).drop (mQ ((A.drop k).dropWhile wR)).length).takeWhile isN).length
    rw [hr1, List.length_append, List.length_append, Nat.add_assoc, Nat.add_assoc, Nat.add_assoc]
   rw [e2]
   refine zez (w := ur (A.drop k)) hA ?_ ?_ ⟨?_, Sub.refl g⟩
   ·rw [zea, Nat.add_sub_cancel_left]
    have := wL (A.drop k)
    conv => lhs; arg 2; rw [<- this]
    exact List.take_left
   ·have h1 := congrArg List.length (wL (A.drop k))
    rw [List.length_append, List.length_drop] at h1
    exact nLT (Nat.le.intro h1) (nLT (Nat.sub_le _ _) hA)
   ·rfl
  have hp2 : A.drop (n1 + 1) = r1.drop 1 := by rw [<- List.drop_drop, d1]
  refine And.intro (le9 hA) (And.intro (λ q => ?_) (λ q => ?_))
  ·have q : (decide (yq A (some (n1 : Int)) (some ((n1 : Int) + 1)) = [101]) || (decide (yq A (some (n1 : Int)) (some ((n1 : Int) + 1)) = [69]) || false)) = true := q
   rw [zdh, d1] at q
   rw [show cE r1 = true from q] at hx
   refine And.intro (le9 hA) (And.intro (λ z => trivial) (And.intro (λ z => trivial) ?_))
   show exL C (zK.drop 3) [some (.bytes A), some (.int (k : Int)), some (.int ((n1 : Int) + 1 + cond (decide (yq A (some ((n1 : Int) + 1)) (some ((n1 : Int) + 2)) = [43]) || (decide (yq A (some ((n1 : Int) + 1)) (some ((n1 : Int) + 2)) = [45]) || false)) 1 0)), none, none, none, none, none] g (PuK 32 [.bytes A, .int (k : Int)] g)
   rw [show yq A (some ((n1 : Int) + 1)) (some ((n1 : Int) + 2)) = (A.drop (n1 + 1)).take 1 from zdh A (n1 + 1), hp2]
   rw [hx] at tl
   have e3 : ((n1 : Int) + 1 + cond (cPM (r1.drop 1)) 1 0) = ((n1 + cond true (1 + cond (cPM (r1.drop 1)) 1 0) 0 : Nat) : Int) := by
    cases cPM (r1.drop 1) <;> exact Int.add_assoc _ _ _
   rw [<- e3] at tl
   exact tl
  ·have q : (decide (yq A (some (n1 : Int)) (some ((n1 : Int) + 1)) = [101]) || (decide (yq A (some (n1 : Int)) (some ((n1 : Int) + 1)) = [69]) || false)) = false := q
   rw [zdh, d1] at q
   rw [show cE r1 = false from q] at hx
   rw [hx] at tl
   exact tl
end
noncomputable def tM (A : Bs) (Q : QE) (g : GS) (x : Tk) : Prop := match x.1 with
 | some p => ∀ (j : Nat) g', A.drop j = x.2.1 -> j <= A.length -> Sub g g' -> Q (.tup [.tup [.int p.1, p.2], .int j, .bytes []]) g'
 | none => ∀ g', Sub g g' -> Q (.tup [.none, .int (nq A x.2.1 : Nat), .bytes x.2.2]) g'
section
variable {C : Nat -> List AV -> GS -> QE -> XE -> Prop} {n : Nat} {Q : QE} {X : XE} {A : Bs} {g : GS} {K : Out -> Prop} {k : Nat} {c : UInt8} {r : Bs} {x3 x4 x5 x6 x7 x8 : Option AV}
theorem itL {p : Prop} [Decidable p] {x y : Tk} (h : tM A Q g (if p then x else y)) : (p -> tM A Q g x) /\ (¬ p -> tM A Q g y) := itE (M := tM A Q g) h
theorem sAC {l : Loc} {r : List MS} {k j : Nat} {es : List PX} (vs : List AV) (hc : ∀ P : Prop, P -> kj es l g P) (ev : uJ es l g = vs)
  (h : C k vs g (λ v g' => exL C r (setL l j v) g' K) (λ m => K (.xc m))) : exL C (.assign j (.call k es) :: r) l g K := by
 subst ev; exact hc _ h
theorem bA (w : Bs) : ∀ (l : List Bs) (i : Nat), kindOf w l (257 + (i : Int)) = Option.map (λ m : Nat => 257 + (m : Int)) (iY (.bytes w) (l.map .bytes) i)
 | [], _ => rfl
 | b :: r, i => by
  have ih := bA w r (i + 1)
  show (if b = w then some (257 + (i : Int)) else kindOf w r (257 + (i : Int) + 1)) = Option.map (λ m : Nat => 257 + (m : Int)) (match decide (w = b) with | true => some i | false => iY (.bytes w) (r.map .bytes) (i + 1))
  by_cases h : b = w
  ·rw [if_pos h, decide_eq_true h.symm]; rfl
  ·rw [if_neg h, decide_eq_false (Ne.symm h), Int.add_assoc]; exact ih
theorem zck (a : AV) : ∀ (l : List AV) (i : Nat), l.any (eqB a) = (iY a l i).isSome
 | [], _ => rfl
 | b :: r, i => by
  show (eqB a b || r.any (eqB a)) = (match eqB a b with | true => some i | false => iY a r (i + 1)).isSome
  rw [zck a r (i + 1)]
  cases eqB a b <;> rfl
theorem mJ {l s : Bs} {n : Nat} (h : l.take n = s) (hs : s.length = n) : n <= l.length := by
 rw [<- hs, <- h]; exact List.length_take_le' _ _
noncomputable def outV (i : Int) (j : Nat) : AV := .tup [.tup [.int i, .none], .int (j : Int), .bytes []]
noncomputable def zjX : List MS := [.ifs (.pure (.cmp (.slice (.loc 0) (some (.loc 1)) (some (.bin .Add (.loc 1) (.len (.loc 8))))) [.Eq] [.loc 8])) [.ret (.pure (.tup [.tup [.bin .Add (.glob "TK_CONCAT" (.int 278)) (.sub (.lst [.const (.int 1), .const (.int 0), .const (.int 2), .const (.int 3), .const (.int 4), .const (.int 5)]) (.loc 7)), .const .none], .bin .Add (.loc 1) (.len (.loc 8)), .const (.bytes [])]))] []]
noncomputable abbrev tL (A : Bs) (k : Nat) (x2 x3 x4 x5 x6 x7 x8 : Option AV) : Loc := [some (.bytes A), some (.int (k : Int)), x2, x3, x4, x5, x6, x7, x8]
theorem wN {x2 : Option AV} (i : Nat) (s : Bs) (vi : Int) (hA : A.length <= 900) (hk : A.drop k = c :: r) (hs : s.length <= 10) (hi : i < 6) (hv : subV (.lst [.int 1, .int 0, .int 2, .int 3, .int 4, .int 5]) (.int (i : Int)) = .int vi)
  (p : (c :: r).take s.length = s -> K (.rt (outV (278 + vi) (k + s.length)) g)) (q : ¬ (c :: r).take s.length = s -> K (.nx (tL A k x2 x3 x4 x5 x6 (some (.int (i : Int))) (some (.bytes s))) g)) :
  exL C zjX (tL A k x2 x3 x4 x5 x6 (some (.int (i : Int))) (some (.bytes s))) g K := by
 have hs6 : s.length <= 1000000 := nLT hs (by decide)
 have e : yq A (some (k : Int)) (some ((k : Int) + (s.length : Int))) = (c :: r).take s.length := (zea A k (k + s.length)).trans (by rw [hk, Nat.add_sub_cancel_left])
 refine And.intro hs6 (And.intro (le9 hA) (And.intro (λ z => ?_) λ z => q ?_))
 ·have p := p (e ▸ show yq A (some (k : Int)) (some ((k : Int) + (s.length : Int))) = s from dT z)
  refine And.intro ⟨Int.natCast_nonneg i, Int.ofNat_lt.mpr hi, show 6 <= 1000 by decide⟩ ?_
  refine id (α := zdd .Add (.int 278) (subV (.lst [.int 1, .int 0, .int 2, .int 3, .int 4, .int 5]) (.int (i : Int))) (s.length <= 1000000 /\ K (.rt (.tup [.tup [zh1 .Add (.int 278) (subV (.lst [.int 1, .int 0, .int 2, .int 3, .int 4, .int 5]) (.int (i : Int))), .none], .int ((k + s.length : Nat) : Int), .bytes []]) g))) ?_
  rw [hv]
  exact And.intro hs6 p
 ·exact e ▸ show ¬ yq A (some (k : Int)) (some ((k : Int) + (s.length : Int))) = s from dF z
theorem zcl (hA : A.length <= 900) (hk : A.drop k = c :: r) (h : tM A Q g (tk4 c r)) : exL C (zU.drop 6) (tL A k (some (.int (iv c))) x3 x4 x5 x6 x7 x8) g (yt Q X) := by
 obtain ⟨hkl, _, hkr⟩ := zN hk
 have hl : (c :: r).length = A.length - k := by rw [<- hk]; exact List.length_drop
 have got : ∀ (i : Int) (n : Nat), n <= (c :: r).length -> tM A Q g (some (i, .none), (c :: r).drop n, []) -> Q (outV i (k + n)) g := λ i n hn h => h (k + n) g (by rw [<- List.drop_drop, hk]) (by exact Nat.add_le_of_le_sub' (Nat.le_of_lt hkl) (nLT hn (Nat.le_of_eq hl))) (Sub.refl g)
 refine wN 0 [46, 46, 46] 1 hA hk (by decide) (by decide) rfl (λ z => ?_) λ z0 => ?_
 ·refine got 279 3 (mJ z rfl) ?_
  obtain ⟨e, z9⟩ := List.cons.inj z
  subst e
  have z : r.take 2 = [46, 46] := z9
  have h : tM A Q g (zgN r) := (itL h).1 rfl
  have z1 : r.take 1 = [46] := by have := congrArg (List.take 1) z; rw [List.take_take] at this; exact this
  exact (itL ((itL h).1 z1)).1 z
 refine wN 1 [46, 46] 0 hA hk (by decide) (by decide) rfl (λ z => ?_) λ z1 => ?_
 ·refine got 278 2 (mJ z rfl) ?_
  obtain ⟨e, z9⟩ := List.cons.inj z
  subst e
  have h : tM A Q g (zgN r) := (itL h).1 rfl
  exact (itL ((itL h).1 z9)).2 λ y => z0 (congrArg (46 :: ·) y)
 have cmpT : ∀ d : UInt8, d ≠ 46 -> zb7 d = true -> (c :: r).take 2 = [d, 61] -> tM A Q g (some (zhU d, .none), (c :: r).drop 2, []) := λ d h1 h2 z => by
  obtain ⟨e, z9⟩ := List.cons.inj z
  subst e
  have h : tM A Q g (tk5 c r) := (itL h).2 h1
  exact (itL ((itL h).1 h2)).1 z9
 refine wN 2 [61, 61] 2 hA hk (by decide) (by decide) rfl (λ z => got 280 2 (mJ z rfl) (cmpT 61 (by decide) rfl z)) λ z2 => ?_
 refine wN 3 [62, 61] 3 hA hk (by decide) (by decide) rfl (λ z => got 281 2 (mJ z rfl) (cmpT 62 (by decide) rfl z)) λ z3 => ?_
 refine wN 4 [60, 61] 4 hA hk (by decide) (by decide) rfl (λ z => got 282 2 (mJ z rfl) (cmpT 60 (by decide) rfl z)) λ z4 => ?_
 refine wN 5 [126, 61] 5 hA hk (by decide) (by decide) rfl (λ z => got 283 2 (mJ z rfl) (cmpT 126 (by decide) rfl z)) λ z5 => ?_
 have fin : tM A Q g (some (iv c, .none), r, []) := by
  by_cases h46 : c = 46
  ·subst h46
   have h : tM A Q g (zgN r) := (itL h).1 rfl
   exact (itL h).2 λ y => z1 (congrArg (46 :: ·) y)
  ·have h : tM A Q g (tk5 c r) := (itL h).2 h46
   by_cases hc : zb7 c = true
   ·refine (itL ((itL h).1 hc)).2 λ y => ?_
    rcases zfM hc with rfl | rfl | rfl | rfl
    ·exact z2 (congrArg (61 :: ·) y)
    ·exact z4 (congrArg (60 :: ·) y)
    ·exact z3 (congrArg (62 :: ·) y)
    ·exact z5 (congrArg (126 :: ·) y)
   ·exact (itL h).2 hc
 exact fin (k + 1) g hkr hkl (Sub.refl g)
noncomputable def zjY : List MS := [.assign 5 (.pure (.loc 1)), .while (.pure (.call 31 [.loc 0, .loc 5])) [.assign 5 (.pure (.bin .Add (.loc 5) (.const (.int 1))))], .assign 6 (.pure (.slice (.loc 0) (some (.loc 1)) (some (.loc 5)))), .ret (.pure (.tup [.ite (.cmp (.loc 6) [.In] [.call 23 []]) (.tup [.bin .Add (.glob "TK_AND" (.int 257)) (.index (.call 23 []) (.loc 6)), .const .none]) (.tup [.glob "TK_NAME" (.int 285), .loc 6]), .loc 5, .const (.bytes [])]))]
theorem zav {x2 : Option AV} (hA : A.length <= 900) (hk : A.drop k = c :: r) (h : ∀ v, (∀ Q : QE, tM A Q g (zhW (c :: r)) -> Q v g) -> K (.rt v g)) : exL C zjY (tL A k x2 x3 x4 x5 x6 x7 x8) g K := by
 have hk0 : k <= A.length := Nat.le_of_lt (zN hk).1
 refine sAP (.int (k : Int)) (λ z h => h) rfl ?_
 refine fQ (A := A) (k := k) isN (λ j => tL A k x2 x3 x4 (some (.int (j : Int))) x6 x7 x8) hk0 (λ j hj => fU hA hj rfl rfl λ z h => h) (λ j K' h => h) ?_
 have e1 := zfQ (p := isN) hk0
 have d1 := bx (A := A) (p := isN) (j := k)
 rw [hk] at e1 d1 ⊢
 have hw : yq A (some (k : Int)) (some ((k + ((c :: r).takeWhile isN).length : Nat) : Int)) = (c :: r).takeWhile isN := by
  rw [zea, Nat.add_sub_cancel_left, hk]
  conv => lhs; arg 2; rw [<- zbZ (p := isN) (c :: r)]
  exact List.take_left
 have hh : ∀ p, zb6 ((c :: r).takeWhile isN) = some p -> K (.rt (.tup [.tup [.int p.1, p.2], .int ((k + ((c :: r).takeWhile isN).length : Nat) : Int), .bytes []]) g) := λ p hp => h _ λ Q hQ => by
  unfold zhW at hQ
  rw [hp] at hQ
  exact hQ _ g d1 e1 (Sub.refl g)
 refine sAP (.bytes ((c :: r).takeWhile isN)) (λ P hP => And.intro (le9 hA) hP) (congrArg AV.bytes hw) ?_
 generalize (c :: r).takeWhile isN = w at hh
 have k1 := bA w zm 0
 have k2 := zck (.bytes w) (zm.map .bytes) 0
 refine id (α := ((zm.map AV.bytes).any (eqB (.bytes w)) = true -> ((iY (.bytes w) (zm.map .bytes) 0).isSome = true /\ (zm.map AV.bytes).length <= 1000) /\ True) /\ ((zm.map AV.bytes).any (eqB (.bytes w)) = false -> True) /\
  K (.rt (.tup [cond ((zm.map AV.bytes).any (eqB (.bytes w))) (.tup [.int (257 + (((iY (.bytes w) (zm.map .bytes) 0).getD 0 : Nat) : Int)), .none]) (.tup [.int 285, .bytes w]), .int ((k + w.length : Nat) : Int), .bytes []]) g)) ?_
 rw [k2]
 unfold zb6 at hh
 rw [show (257 : Int) = 257 + ((0 : Nat) : Int) from rfl, k1] at hh
 revert hh
 generalize iY (.bytes w) (zm.map .bytes) 0 = o
 cases o with
 | none => exact λ hh => ⟨λ q => (nomatch q), λ z => trivial, hh (285, .bytes w) rfl⟩
 | some m => exact λ hh => ⟨λ z => ⟨⟨rfl, by decide⟩, trivial⟩, λ q => (nomatch q), hh (257 + (m : Int), .none) rfl⟩
end
section
variable {C : Nat -> List AV -> GS -> QE -> XE -> Prop} {n : Nat} {Q : QE} {X : XE} {A : Bs} {g : GS} {K : Out -> Prop} {k : Nat} {c : UInt8} {r : Bs} {x2 x3 x4 x5 x6 x7 x8 : Option AV}
noncomputable def zko : List MS := [.ret (.pure (.ite (.cmp (.sub (.loc 3) (.const (.int 0))) [.Is] [.const .none]) (.loc 3) (.tup [.tup [.glob "TK_STRING" (.int 286), .sub (.loc 3) (.const (.int 0))], .sub (.loc 3) (.const (.int 1)), .const (.bytes [])])))]
theorem bB {t : Bs} {j : AV} (h : K (.rt (.tup [.tup [.int 286, .bytes t], j, .bytes []]) g)) : exL C zko (tL A k x2 (some (.tup [.bytes t, j, .bytes []])) x4 x5 x6 x7 x8) g K := And.intro (λ q => nomatch q) (And.intro (λ z => trivial) h)
theorem lX {a b : AV} (h : K (.rt (.tup [.none, a, b]) g)) : exL C zko (tL A k x2 (some (.tup [.none, a, b])) x4 x5 x6 x7 x8) g K := And.intro (λ z => trivial) (And.intro (λ q => nomatch q) h)
theorem ziK (hA : A.length <= 900) (hk : A.drop k = c :: r) (h : tM A Q g (tk3 c r)) : exL C (zU.drop 5) (tL A k (some (.int (iv c))) x3 x4 x5 x6 x7 x8) g (yt Q X) := by
 obtain ⟨v, ev, hc, hv⟩ := fU (x := .loc 0) (y := .loc 1) (g := g) (l := tL A k (some (.int (iv c))) x3 x4 x5 x6 x7 x8) hA (Nat.le_of_lt (zN hk).1) rfl rfl λ w h => h
 refine hc _ ?_
 rw [ev]
 refine And.intro (λ q => zav hA hk λ v hv2 => hv2 Q ((itL h).1 ?_)) (λ q => zcl hA hk ((itL h).2 λ z => bF hv q ⟨c, r, hk, z⟩))
 obtain ⟨d, t, e, hd⟩ := hv.mp q
 rw [hk] at e
 rw [(List.cons.inj e).1]
 exact hd
theorem bC (c : UInt8) (r : Bs) : (qx (iv c) || ((decide (iv c = iv 46) && (qx (iv (fK r)) && true)) || false)) = isNum c r := by
 rw [Bool.or_false, Bool.and_true, show decide (iv c = iv 46) = (c == 46) from zhS ((tK 46).trans beq_iff_eq.symm)]
 rfl
theorem s_num (hA : A.length <= 900) (hk : A.drop k = c :: r) (h : tM A Q g (tk2 c r)) : exL C (zU.drop 4) (tL A k (some (.int (iv c))) x3 x4 x5 x6 x7 x8) g (yt Q X) := by
 obtain ⟨hkl, _, hkr⟩ := zN hk
 have hx : ((yq A (some ((k : Int) + 1)) (some ((k : Int) + 2)) ++ [120]).getD 0 0) = fK r := by
  rw [show yq A (some ((k : Int) + 1)) (some ((k : Int) + 2)) = (A.drop (k + 1)).take 1 from zdh A (k + 1), hkr]
  cases r <;> rfl
 have hl : (yq A (some ((k : Int) + 1)) (some ((k : Int) + 2))).length <= 1 := by
  rw [show yq A (some ((k : Int) + 1)) (some ((k : Int) + 2)) = (A.drop (k + 1)).take 1 from zdh A (k + 1)]
  exact List.length_take_le _ _
 have hl2 : (yq A (some ((k : Int) + 1)) (some ((k : Int) + 2)) ++ [120]).length = (yq A (some ((k : Int) + 1)) (some ((k : Int) + 2))).length + 1 := List.length_append
 refine And.intro (λ z => And.intro (λ z => And.intro (le9 hA) (And.intro ⟨nLT hl (by decide), show 1 <= 1000 by decide⟩ (And.intro ⟨Int.le_refl 0, ?_, ?_⟩ trivial))) trivial) (And.intro (λ q => ?_) (λ q => ?_))
 ·exact Int.ofNat_lt.mpr (Nat.lt_of_lt_of_le (Nat.succ_pos _) (Nat.le_of_eq hl2.symm))
 ·exact nLT (Nat.le_of_eq hl2) (nLT (Nat.succ_le_succ hl) (by decide))
 ·have q : (qx (iv c) || ((decide (iv c = iv 46) && (qx (iv ((yq A (some ((k : Int) + 1)) (some ((k : Int) + 2)) ++ [120]).getD 0 0)) && true)) || false)) = true := q
  rw [hx, bC] at q
  have h : tM A Q g (tokN (c :: r)) := (itL h).1 q
  have hd : wR c = true := by
   rcases Bool.or_eq_true_iff.mp q with q | q
   ·exact Bool.or_eq_true_iff.mpr (.inl q)
   ·exact Bool.or_eq_true_iff.mpr (.inr (band q).1)
  have e : ∀ v, rN (ur (c :: r)) = v -> za3 (oJ (rN (ur (A.drop k)))) (k : Int) (ur (A.drop k)).length = .tup [oJ v, .int ((k + (ur (c :: r)).length : Nat) : Int)] := λ v e => by rw [hk, e]; rfl
  have hr : A.drop (k + (ur (c :: r)).length) = zeg (c :: r) := by rw [<- List.drop_drop, hk, zb0]
  have hle : k + (ur (c :: r)).length <= A.length := by
   have h1 := congrArg List.length (wL (c :: r))
   have h2 : (A.drop k).length = A.length - k := List.length_drop
   rw [List.length_append] at h1
   rw [hk] at h2
   exact Nat.add_le_of_le_sub' (Nat.le_of_lt hkl) (nLT (Nat.le.intro h1) (Nat.le_of_eq h2))
  unfold tokN at h
  refine And.intro ⟨⟨hA, Int.natCast_nonneg k⟩, c, r, hk, hd⟩ ?_
  cases ev : rN (ur (c :: r)) with
  | none =>
   rw [ev] at h
   exact jX (e _ ev) (And.intro (λ z => And.intro (nu hA (Nat.le_of_lt hkl)) trivial) (And.intro (λ q => nomatch q) (vd hk (h g (Sub.refl g)))))
  | some v =>
   rw [ev] at h
   exact jX (e _ ev) (And.intro (λ q => nomatch q) (And.intro (λ z => trivial) (h _ g hr hle (Sub.refl g))))
 ·have q : (qx (iv c) || ((decide (iv c = iv 46) && (qx (iv ((yq A (some ((k : Int) + 1)) (some ((k : Int) + 2)) ++ [120]).getD 0 0)) && true)) || false)) = false := q
  rw [hx, bC] at q
  exact ziK hA hk ((itL h).2 (by rw [q]; exact Bool.false_ne_true))
theorem ziL (r : Bs) : tk2 91 r = (some (91, .none), r, []) := (if_neg (by rw [show isNum 91 r = false from rfl]; exact Bool.false_ne_true)).trans ((if_neg (by decide)).trans ((if_neg (by decide)).trans (if_neg (by decide))))
theorem ziM (hA : A.length <= 900) (hk : A.drop k = c :: r) (hb : c = 91 -> zV (c :: r) = none /\ ¬ r.take 1 = [61]) (h : tM A Q g (tk0 c r)) : exL (CL (n + 1)) (zU.drop 3) (tL A k (some (.int (iv c))) x3 x4 x5 x6 x7 x8) g (yt Q X) := by
 refine And.intro (λ z => trivial) (And.intro (λ q => ?_) (λ q => ?_))
 ·have hq : c = 34 \/ c = 39 := jU.mp q
  have h : tM A Q g (ziE (zem c r)) := (itL h).1 hq
  have hl : r.length < fuel := by
   have h2 : (A.drop k).length = A.length - k := List.length_drop
   rw [hk] at h2
   exact fO (nLT (Nat.le_succ _) (nLT (Nat.le_of_eq h2) (nLT (Nat.sub_le _ _) hA)))
  obtain ⟨R, e, _⟩ := zb9 c hl
  have e2 : zem c r = R := by unfold zem; rw [e]; rfl
  rw [e2] at h
  refine sAC [.bytes A, .int (k : Int)] (λ z h => h) rfl (zeu hA hk hq e ?_)
  obtain ⟨t, rest, w⟩ := R
  cases w with
  | nil => exact λ j g' hj hjl G => bB (h j g' hj hjl G)
  | cons d w => exact λ g' G => lX (h g' G)
 ·have h : tM A Q g (tk1 c r) := (itL h).2 (bF jU q)
  refine s_num hA hk ?_
  by_cases h91 : c = 91
  ·obtain ⟨h1, h2⟩ := hb h91
   subst h91
   have h : tM A Q g (zdj (91 :: r) r) := (itL h).1 rfl
   unfold zdj at h
   rw [h1] at h
   rw [ziL]
   exact (itL h).2 h2
  ·exact (itL h).2 h91
theorem zjZ (hA : A.length <= 900) (hk : A.drop k = c :: r) (hb : c = 91 -> zV (c :: r) = none) (h : tM A Q g (tk0 c r)) : exL (CL (n + 1)) (zU.drop 2) (tL A k (some (.int (iv c))) x3 x4 x5 x6 x7 x8) g (yt Q X) := by
 obtain ⟨hkl, _, hkr⟩ := zN hk
 have ec : yq A (some ((k : Int) + 1)) (some ((k : Int) + 2)) = r.take 1 := (zdh A (k + 1)).trans (by rw [hkr])
 refine And.intro (λ y => And.intro (le9 hA) trivial) (And.intro (λ q => ?_) (λ q => ?_))
 ·have q : (decide (iv c = iv 91) && (decide (yq A (some ((k : Int) + 1)) (some ((k : Int) + 2)) = [61]) && true)) = true := q
  rw [ec] at q
  have e : c = 91 := (tK 91).mp (band q).1
  have h1 := hb e
  subst e
  have h : tM A Q g (tk1 91 r) := (itL h).2 (by decide)
  have h : tM A Q g (zdj (91 :: r) r) := (itL h).1 rfl
  unfold zdj at h
  rw [h1] at h
  have h : tM A Q g (none, 91 :: r, zjc) := (itL h).1 (dT (band (band q).2).1)
  exact And.intro (nu hA (Nat.le_of_lt hkl)) (vd hk (h g (Sub.refl g)))
 ·have q : (decide (iv c = iv 91) && (decide (yq A (some ((k : Int) + 1)) (some ((k : Int) + 2)) = [61]) && true)) = false := q
  rw [ec] at q
  refine ziM hA hk (λ e => ⟨hb e, λ z => ?_⟩) h
  rw [(tK 91).mpr e, decide_eq_true z] at q
  cases q
theorem jY {m : Nat} (h : zV (91 :: r) = some m) : m + 2 <= (91 :: r).length := by
 obtain ⟨h1, t, h2, _⟩ := pG h
 have h3 := congrArg List.length (mD r)
 rw [List.length_append, (pC.mp h1).2, h2, List.length_cons] at h3
 rw [List.length_cons]
 exact Nat.succ_le_succ (nLT (Nat.add_le_add_left (Nat.succ_le_succ (Nat.zero_le _)) m) (Nat.le_of_eq h3))
theorem zg0 (hA : A.length <= 900) (hk : A.drop k = c :: r) (h : tM A Q g (tk0 c r)) : CL (n + 2) 33 [.bytes A, .int (k : Int)] g Q X := by
 obtain ⟨hkl, hkc, hkr⟩ := zN hk
 refine enter [some (.bytes A), some (.int (k : Int)), none, none, none, none, none, none, none] rfl rfl rfl (sAP (.int (iv c)) (λ P hP => And.intro (vf hA hkl) hP) (congrArg (λ x => AV.int (iv x)) hkc) ?_)
 have hat := nu hA (Nat.le_of_lt hkl)
 refine And.intro (λ z => And.intro hat trivial) (And.intro (λ q => ?_) (λ q => ?_))
 ·have q : (decide (iv c = iv 91) && (!(wW (optN (zV (A.drop k)))) && true)) = true := q
  have e : c = 91 := (tK 91).mp (band q).1
  subst e
  rw [hk] at q
  have h : tM A Q g (tk1 91 r) := (itL h).2 (by decide)
  have h : tM A Q g (zdj (91 :: r) r) := (itL h).1 rfl
  unfold zdj at h
  cases hl : zV (91 :: r) with
  | none => rw [hl] at q; exact nomatch q
  | some m =>
   rw [hl] at h
   have h : tM A Q g (zjm (zY m (zW ((91 :: r).drop (m + 2))))) := h
   have hll := jY hl
   have hkm : k + m + 2 <= A.length := by
    have h2 : (A.drop k).length = A.length - k := List.length_drop
    rw [hk] at h2
    rw [Nat.add_assoc]; exact Nat.add_le_of_le_sub' (Nat.le_of_lt hkl) (nLT hll (Nat.le_of_eq h2))
   have hd : A.drop (k + m + 2) = (91 :: r).drop (m + 2) := by rw [<- hk, List.drop_drop, Nat.add_assoc]
   refine sAC [.bytes A, .int (k : Int), .int (m : Int), .bytes [115, 116, 114, 105, 110, 103]] (λ P hP => And.intro hat hP) ?_ (c_long hA hkm (by decide) ?_)
   ·show [AV.bytes A, .int (k : Int), optN (zV (A.drop k)), .bytes [115, 116, 114, 105, 110, 103]] = _
    rw [hk, hl]; rfl
   ·rw [hd]
    revert h
    generalize zY m (zW ((91 :: r).drop (m + 2))) = s
    cases s with
    | done t rest => exact λ h j hj hjl => bB (h j g hj hjl (Sub.refl g))
    | nest rest => exact λ h => lX (h g (Sub.refl g))
    | unf => exact λ h => lX (h g (Sub.refl g))
 ·have q : (decide (iv c = iv 91) && (!(wW (optN (zV (A.drop k)))) && true)) = false := q
  refine zjZ hA hk (λ e => ?_) h
  rw [hk, (tK 91).mpr e] at q
  cases hl : zV (c :: r) with
  | none => rfl
  | some m => rw [hl] at q; exact nomatch q
end
noncomputable def jZ (A w rest : Bs) : Nat := if w = [] then 0 else nq A rest
noncomputable def fV (acc : List AV) (x : Option Rt) : Option Rt := x.map λ y => (acc ++ y.1, y.2)
theorem zeA (acc : List AV) (t : AV) : ∀ x : Option Rt, fV acc (x.map λ y => (t :: y.1, y.2)) = fV (acc ++ [t]) x
 | none => rfl
 | some y => congrArg (λ z => some (z, y.2)) (List.append_cons acc t y.1)
theorem qj {acc : List AV} {w r : Bs} {R : Rt} (h : fV acc (some ([], w, r)) = some R) : R = (acc, w, r) := (sIJ h).symm.trans (congrArg (λ z => (z, w, r)) (List.append_nil acc))
theorem zeB {acc : List AV} {x : Option Rt} {R : Rt} (h : fV acc x = some R) : acc.length <= R.1.length := by
 cases x with
 | none => cases h
 | some y => rw [<- sIJ h]; exact nLT (Nat.le_add_right _ _) (Nat.le_of_eq List.length_append.symm)
theorem oZ.go {g g' g'' : GS} {a : Addr} {vs : List AV} (o : oZ g a vs g') (s : Sub g' g'') : oZ g a vs g'' := ⟨s.lx.trans o.lx, s.buf.trans o.buf, s.hp _ _ o.at_, λ b v e => s.hp _ _ (o.hp b v e), o.fr⟩
theorem zg1 (r : Bs) : match wM [10] r with
  | some i => r.drop i = r.dropWhile (· != 10)
  | none => r.dropWhile (· != 10) = [] := by
 induction r with
 | nil => rfl
 | cons c r ih =>
  by_cases h : c = 10
  ·subst h
   rw [show wM [10] (10 :: r) = some 0 from if_pos rfl]; rfl
  ·have h2 : ¬ ([10] : Bs).isPrefixOf (c :: r) = true := λ z => h (eq_of_beq (band z).1).symm
   rw [show wM [10] (c :: r) = (wM [10] r).map (· + 1) from if_neg h2, List.dropWhile_cons_of_pos (p := (· != 10)) (bne_iff_ne.mpr h)]
   cases e : wM [10] r with
   | none => rw [e] at ih; exact ih
   | some i => rw [e] at ih; exact ih
section
variable {n : Nat} {Q : QE} {X : XE} {A : Bs} {g : GS}
theorem zaw {R : Rt} (hA : A.length <= 900) (hR : rd fuel A = some R) (hl : R.1.length <= 900) (h : ∀ ad g', Sub g g' -> g'.hp ad = some R.1 -> Q (.tup [.list ad, .bytes R.2.1, .int (jZ A R.2.1 R.2.2 : Nat)]) g') : CL (n + 3) 34 [.bytes A] g Q X := by
 have e0 : fV [] (rd fuel A) = some R := by rw [hR]; rfl
 refine λ ad hf => ?_
 refine sW (α := Nat × Bs × List AV × Nat × GS × Option AV × Option AV × Option AV) (λ s => [some (.bytes A), some (.list ad), some (.int (s.1 : Int)), s.2.2.2.2.2.1, s.2.2.2.2.2.2.1, s.2.2.2.2.2.2.2]) (λ s => s.2.2.2.2.1)
  (λ s => A.drop s.1 = s.2.1 /\ s.1 <= A.length /\ fV s.2.2.1 (rd s.2.2.2.1 s.2.1) = some R /\ oZ g ad s.2.2.1 s.2.2.2.2.1) (λ s => s.2.2.2.1) (0, A, [], fuel, _, none, none, none) ⟨rfl, Nat.zero_le _, e0, oZ.new hf⟩ λ s hs K' hn y hr y => ?_
 clear e0 hR
 obtain (⟨j, a1, acc, f, g', x3, x4, x5⟩) := s
 obtain (⟨hj, hjl, e1, o⟩) := hs
 dsimp only at hj hjl e1 o hn ⊢
 have fin : ∀ w rest g2, R = (acc, w, rest) -> Sub g' g2 -> Q (.tup [.list ad, .bytes w, .int (jZ A w rest : Nat)]) g2 := λ w rest g2 e s => by
  have h := h ad g2 (o.sub.trans s)
  rw [e] at h
  exact h (s.hp _ _ o.at_)
 have bad : ∀ w rest g2, w ≠ [] -> R = (acc, w, rest) -> Sub g' g2 -> K' (.rt (.tup [.list ad, .bytes w, .int (nq A rest : Nat)]) g2) := λ w rest g2 hw e s => hr _ _ (by
  have h := fin w rest g2 e s
  rw [jZ, if_neg hw] at h
  exact h)
 cases f with
 | zero => exact nomatch e1
 | succ f =>
 have hlen : (A.drop j).length = A.length - j := List.length_drop
 cases a1 with
 | nil =>
  have hjj := qg hj
  refine And.intro (le9 hA) (And.intro (λ q => absurd (Int.ofNat_lt.mp (show (j : Int) < (A.length : Int) from dT q)) (Nat.not_lt.mpr hjj)) λ y => fin [] [] g' (qj e1) (Sub.refl g'))
 | cons c r =>
  obtain (⟨z1, z2, z3⟩) := zN hj
  rw [hj] at hlen
  have next : ∀ a2 i acc2 g2 y3 y4 y5, A.drop i = a2 -> i <= A.length -> fV acc2 (rd f a2) = some R -> oZ g ad acc2 g2 -> K' (.nx [some (.bytes A), some (.list ad), some (.int (i : Int)), y3, y4, y5] g2) := λ a2 i acc2 g2 y3 y4 y5 h1 h2 h3 h4 => hn (i, a2, acc2, f, g2, y3, y4, y5) ⟨h1, h2, h3, h4⟩ (Nat.lt_succ_self f)
  clear hn
  have hb : (([32, 9, 10, 11, 12, 13] : Bs).any λ d => decide ((d.toNat : Int) = iv (A.getD j 0))) = isB c := (anyB (jJ _)).trans (by rw [z2]; rfl)
  refine And.intro (le9 hA) (And.intro (λ y => And.intro (vf hA z1) (And.intro (jJ _) (And.intro (λ q => ?_) (λ q => ?_)))) (λ q => absurd (Int.ofNat_lt.mpr z1) (dF q)))
  ·exact next r (j + 1) acc g' x3 x4 x5 z3 z1 ((congrArg (fV acc) (c7 (hb ▸ q))).symm.trans e1) o
  ·have q : isB c = false := hb ▸ q
   refine And.intro (le9 hA) (And.intro (λ q2 => ?_) (λ q2 => ?_))
   ·have q2 : decide (yq A (some (j : Int)) (some ((j : Int) + 2)) = [45, 45]) = true := q2
    rw [zjO, hj] at q2
    obtain (⟨a', e⟩) := fP.mp q2
    obtain (⟨e3, e4⟩) := List.cons.inj e
    subst e3 e4
    have e1 : fV acc (rdC (rd f) a' (zV a')) = some R := (congrArg (fV acc) (zfN f a')).symm.trans e1
    rw [List.length_cons, List.length_cons] at hlen
    have hd : A.drop (j + 2) = a' := zfI z3
    have hj2 : j + 2 <= A.length := Nat.add_le_of_le_sub' (Nat.le_of_lt z1) (nLT (Nat.le_add_left 2 _) (Nat.le_of_eq hlen))
    refine sAP (optN (zV a')) (λ P hP => And.intro (nu hA hj2) hP) (by rw [<- hd]; rfl) ?_
    cases hlv : zV a' with
    | none =>
     rw [hlv] at e1
     have e1 : fV acc (rd f (a'.dropWhile (· != 10))) = some R := e1
     refine And.intro (λ y => ?_) λ q => nomatch q
     have hfn := zg1 (45 :: 45 :: a')
     refine sAP (.int (atI j (wM [10] (45 :: 45 :: a')))) (λ P hP => And.intro (zgW hA (show 1 <= 1000 by decide) hjl) hP) (congrArg AV.int ((findZ_eq (by decide) hjl).trans (by rw [hj]))) ?_
     cases hf2 : wM [10] (45 :: 45 :: a') with
     | none =>
      rw [hf2] at hfn
      have hfn : a'.dropWhile (· != 10) = [] := hfn
      rw [hfn] at e1
      exact And.intro (λ y => And.intro (le9 hA) trivial) (And.intro (λ q => nomatch q) (next [] A.length acc g' _ _ _ List.drop_length (Nat.le_refl _) e1 o))
     | some i =>
      rw [hf2] at hfn
      have hfn : (45 :: 45 :: a').drop i = a'.dropWhile (· != 10) := hfn
      have hi : i + 1 <= a'.length + 1 + 1 := pH hf2
      have e5 : cond (decide (((j + i : Nat) : Int) < 0)) (A.length : Int) ((j + i : Nat) : Int) = ((j + i : Nat) : Int) := by
       rw [show decide (((j + i : Nat) : Int) < 0) = false from decide_eq_false (Int.not_lt.mpr (Int.natCast_nonneg _))]; rfl
      refine sAP (.int ((j + i : Nat) : Int)) (λ P hP => And.intro (λ y => And.intro (le9 hA) trivial) (And.intro (λ y => trivial) hP)) (congrArg AV.int e5) ?_
      exact next _ (j + i) acc g' _ _ _ (by rw [<- List.drop_drop, hj, hfn]) (Nat.add_le_of_le_sub' (Nat.le_of_lt z1) (nLT (Nat.le_of_succ_le hi) (Nat.le_of_eq hlen))) e1 o
    | some m =>
     rw [hlv] at e1
     have e1 : fV acc (rdS (rd f) (zY m (zW (a'.drop (m + 2))))) = some R := e1
     refine And.intro (λ q => nomatch q) λ y => ?_
     have h91 : ∃ t, a' = 91 :: t := Classical.byContradiction λ z => by
      rw [jR λ t e => z ⟨t, e⟩] at hlv
      cases hlv
     obtain (⟨t0, ht0⟩) := h91
     rw [ht0] at hlv
     have hll := jY hlv
     rw [<- ht0] at hll
     have hkm : j + 2 + m + 2 <= A.length := by
      rw [Nat.add_assoc j 2 m, Nat.add_assoc, Nat.add_comm 2 m]
      exact Nat.add_le_of_le_sub' (Nat.le_of_lt z1) (nLT (Nat.add_le_add_right hll 2) (Nat.le_of_eq hlen))
     have hdd : A.drop (j + 2 + m + 2) = a'.drop (m + 2) := by rw [Nat.add_assoc, <- List.drop_drop, hd]
     refine sAC [.bytes A, .int ((j + 2 : Nat) : Int), .int (m : Int), .bytes [99, 111, 109, 109, 101, 110, 116]] (λ y h => h) rfl (c_long hA hkm (by decide) ?_)
     rw [hdd]
     revert e1
     generalize zY m (zW (a'.drop (m + 2))) = s
     cases s with
     | done t rest => exact λ e1 i hi hil => And.intro (λ q => nomatch q) λ y => next rest i acc g' _ _ _ hi hil e1 o
     | nest rest => exact λ e1 => And.intro (λ y => bad kJ rest g' (by decide) (qj e1) (Sub.refl g')) λ q => nomatch q
     | unf => exact λ e1 => And.intro (λ y => bad za1 [] g' (by decide) (qj e1) (Sub.refl g')) λ q => nomatch q
   ·have q2 : decide (yq A (some (j : Int)) (some ((j : Int) + 2)) = [45, 45]) = false := q2
    rw [zjO, hj] at q2
    have e1 : fV acc (rdT (rd f) (tk0 c r)) = some R := (congrArg (fV acc) (zfO q q2)).symm.trans e1
    have g0 := lU (c := c) (r := r) (by rw [hlen]; exact nLT (Nat.sub_le _ _) hA)
    refine sAC [.bytes A, .int (j : Int)] (λ y h => h) rfl (zg0 hA hj ?_)
    revert e1 g0
    generalize tk0 c r = x
    obtain (⟨p, rest, w⟩) := x
    cases p with
    | none => exact λ e1 g0 g2 s2 => And.intro (λ y => bad w rest g2 g0.1.1 (qj e1) s2) λ q => nomatch q
    | some p =>
     intro e1 g0 i g2 hi hil s2
     have e1 : fV (acc ++ [vK p.1 p.2]) (rd f rest) = some R := (zeA acc _ _).symm.trans e1
     have o2 := o.go s2
     have hac := zeB e1
     rw [xu] at hac
     exact And.intro (λ q => nomatch q) λ y => ⟨acc, o2.at_, And.intro (le9 (nLT (Nat.le_of_succ_le hac) hl)) (next rest i _ _ _ _ _ hi hil e1 o2.set)⟩
end
end
section
open PyProof.Rows PySem.Builtin PySem.Calls
section
variable {prog : Program} {w : World} {A : Around} {K : Frag} {C : Addr} {R : Result -> Shared -> Prop} {h : Heap} {g : Array GenState} {d : Drawn} {t : Nat} {os : OsState}
theorem zax {rest : List Value} {init : Value} (Y : Makes (model prog w) h C) (hi : Looks (model prog w) h (typeLookup (.ref C) "__init__") (some init))
  (hb : ∀ self, Looks (model prog w) h (bindSpecial init self) (init, [self])) (hne : (some init != some (Value.builtin "object.__init__")) = true)
  (hq : yS true (model prog w) (A.under (.builtin "type.__call__" ⟨.ref C :: rest, []⟩)) (.call init ⟨.ref (h.objs.size + 1) :: rest, []⟩) (InitBack (h.objs.size + 1) R) ⟨(h.push emptyDict).push (instObj C h.objs.size), g, d, t, os⟩) :
  yS true (model prog w) A (.call (.ref C) ⟨rest, []⟩) R ⟨h, g, d, t, os⟩ := by
 have Y' := Y
 obtain (⟨⟨oc, od, cd, sl, hC, e1, e2, e4⟩, made, base, self, top, call, typ⟩) := Y
 refine zR rfl ?_
 show wpX true _ _ (callAny (.ref C) _) _ _ _
 simp only [callAny]
 refine zc (wpAny_load hC ?_)
 show wpX true _ _ (callAny.viaDunder (.ref C) _) _ _ _
 unfold callAny.viaDunder
 refine zc (call.at ?_)
 dsimp only
 rw [tc_bind]
 refine zc (wpAny_pure (zc (wpAny_pure ?_)))
 refine zA (a := Fin.again (.call (.builtin "type.__call__") ⟨.ref C :: rest, []⟩)) (And.intro rfl ?_)
 refine zR rfl ?_
 show wpX true _ A.in1 (do checkBuiltinCall "type.__call__" ⟨.ref C :: rest, []⟩; again (.builtin "type.__call__" ⟨.ref C :: rest, []⟩)) _ _ _
 refine zc (check_slot tc_kind tc_split typ (tc_args _ _ _) ?_)
 refine zA ⟨Code.quiet_builtin _ (by decide +kernel), wZ (zjj (by decide +kernel)) entry_typeCall ?_⟩
 unfold Builtin.«type.__call__»
 have hm : Looks (model prog w) h (mroOf (.ref C)) cd.mro := ((Looks.ld (part := none) hC).andThen .now).andThen .now
 dsimp only
 refine zM rfl ?_
 refine zc (hm.here ?_)
 refine zM e4 ?_
 refine zc (made.here ?_)
 dsimp only
 refine zc (wpAny_pure ?_)
 refine zc (wpAny_holding (wpAny_call ?_))
 refine new_K Y' hi (.inl hne) ?_
 have k : ∀ b o, h.get? b = some o -> ((h.push emptyDict).push (instObj C h.objs.size)).get? b = some o := λ b o e => Heap.get?_push_of_some _ (Heap.get?_push_of_some _ e)
 have hx : ((h.push emptyDict).push (instObj C h.objs.size)).get? (h.objs.size + 1) = some (instObj C h.objs.size) := by heap_get
 have t1 : Looks (model prog w) ((h.push emptyDict).push (instObj C h.objs.size)) (typeOf (.ref (h.objs.size + 1))) (.ref C) := (Looks.ld hx).andThen .now
 have s1 : Looks (model prog w) ((h.push emptyDict).push (instObj C h.objs.size)) (isInstance (.ref (h.objs.size + 1)) (.ref C)) true := t1.andThen (self.keeps k)
 have i1 := hi.keeps k
 have b1 := (hb (.ref (h.objs.size + 1))).keeps k
 dsimp only
 refine zc (s1.here ?_)
 refine zM rfl ?_
 refine zx (yu ?_)
 unfold callSpecial? specialOf
 refine zc (wBD (t1.here (i1.here ?_)))
 dsimp only
 refine yu ?_
 refine zc (b1.here ?_)
 dsimp only
 refine zx (xg (nQ hq λ r s' z => ?_))
 rcases r with e | (v | _ | _ | _) <;> first | exact z | exact z.elim | skip
 obtain (⟨rfl, z⟩) := z
 refine zA ?_
 dsimp only
 refine zM rfl ?_
 exact zA z
end
structure zeC (c : Cfg) (fa : Nat -> Addr) (C : Tab) (N : Nat) (n : Bool) (k : Nat) : Prop where
 go : ∀ {f : Frm} {A : Around} {y : Lc} {b : Wd} {ws : List Value} {vs : List AV} {Q : QE} {X : XE} {Qc Ec : Value -> Shared -> Prop}, Here c f A N -> (n = true -> A.guards = some []) -> C k vs y.g Q X -> Rl ⟨c, f⟩ y b -> yx (VR c b.P) vs ws ->
  GoX ⟨c, f⟩ y b Q Qc -> qM ⟨c, f⟩ y.m b X Ec -> yS n (model c.prog c.w) A (.call (.ref (fa k)) ⟨ws, []⟩) (zbh Qc Ec) b.s
structure rE (c : Cfg) (fa : Nat -> Addr) : Prop where
 makes : makesIn c.K c.lexC = true
 init : findIn c.K (.ref c.lexC) "__init__" = some (some (.ref (fa 50)))
 fn : typeIn c.K (.ref (fa 50)) = some (.type "function")
 name : nsIn c.K mainGlobals "Lexer" = some (some (.ref c.lexC))
 keep : keepIn c.K (.ref c.lexC) = true
structure StX (x : Cx) (T : Names) (fa : Nat -> Addr) (C : Tab) (rk N : Nat) (n : Bool) (cl : Nat -> Bool) : Prop where
 st : St x T fa rk
 gd : n = true -> x.A.guards = some []
 here : ∀ k, (cl k || n) = true -> Here x.c x.f x.A (N + 1)
 calls : ∀ k, (cl k || n) = true -> zeC x.c fa C N n k
 rz : wD x.c
 new : rE x.c fa
section
variable {x : Cx} {T : Names} {fa : Nat -> Addr} {rk N : Nat} {n : Bool} {cl : Nat -> Bool} {C : Tab} {y : Lc} {a b : Wd} {e : Expr} {p : PX} {i i2 : IX}
theorem zcm (S : StX x T fa C rk N n cl) {k : Nat} {ps : List PX} {es : List Expr} {z : Str} {np pos : Pos} (h : zbi x es ps) (hs : es.all okE = true) (hg : zy x.ns z (T.fn k) = true) (hk : k < 50) (hc : (cl k || n) = true) : uW x n C (.Call (.Name z np) es [] pos) (.call k ps) := ⟨λ {y a Q X Qc Ec} hp R kq xx => by
 show wpX n _ _ (do callWith pos (<- eval (.Name z np) x.env) [] (backTo pos (starEach es x.env)) []) _ _ _
 exact zc (xR S.st R hg (S.st.fx.fnN k hk) (qO (P := x.c.K.In) hs (λ h X => keeps_K (S.st.fx.fnK k hk) h X) (zH (h hp R (λ q ws b B => ⟨S.st.kin B.R, xg ((S.calls k hc).go ((S.here k hc).less (Nat.le_succ N)) S.gd q B.R B.v (λ v w g d q D => kq v w g d q (D.up B.u)) (xx.up B.u))⟩) pos))))⟩
theorem zcn (S : StX x T fa C rk N n cl) {o : PX} {k : Nat} {ps : List PX} {es : List Expr} {ap pos : Pos} (ho : yd x e o) (h : zbi x es ps) (hs : es.all okE = true) (hz : es.length < 20) (hk : 50 < k) (hc : (cl k || n) = true) (hb : okB e = true) (hline : (ap.endLine == pos.line) = true) : uW x n C (.Call (.Attribute e (T.meth k) ap) es [] pos) (.meth k o ps) := ⟨λ {y a Q X Qc Ec} hp R kq xx =>
 nY hb hs hz hline (ho hp R λ q w b B pl => nO (M := λ v => VR x.c b.P v w -> _) q (λ q hx => zbs S.st B.R hx hk (qO (P := x.c.K.In) hs (λ h X => keeps_K (S.st.fx.meK k hk) h X) (zH (h q B.R (λ q ws d D => ⟨S.st.kin D.R, xg ((S.calls k hc).go ((S.here k hc).less (Nat.le_succ N)) S.gd q D.R ⟨oh.mono D.u.ext hx, D.v⟩ (λ v w g d2 q D2 => kq v w g d2 q (D2.up (B.u.trans D.u))) (xx.up (B.u.trans D.u)))⟩) pos)))) B.v)⟩
theorem zco (S : StX x T fa C rk N n cl) {o : PX} {k : Nat} {ps : List PX} {e2 : Expr} {z : Str} {np pos : Pos} (h : yd x e p) (h2 : uW x n C e2 (.meth k o ps)) (hs : okE e = true) (hs2 : okE e2 = true) (hg : zy x.ns z "Token" = true) : uW x n C (.Call (.Name z np) [e, e2] [] pos) (.tokM p k o ps) := ⟨λ {y a Q X Qc Ec} hp R kq xx => by
 show wpX n _ _ (do callWith pos (<- eval (.Name z np) x.env) [] (backTo pos (starEach [e, e2] x.env)) []) _ _ _
 refine zc (xR S.st R hg S.st.fx.tokN (qO (P := x.c.K.In) (s6 hs hs2) (λ h X => keeps_K S.st.fx.tokK h X) (zfA hs hs2 (zH (h hp R λ q w b B => ?_)))))
 exact h2.go (Q := λ v g' => Q (.inst 0 [val p y.l y.g, v]) g') q B.R (λ v w2 g d q D => ⟨S.st.kin D.R, zH (wpAny_call (S.st.fx.tok (S.st.here.less (Nat.zero_le _)) D.R (VR.mono D.u.ext _ B.v) D.v λ t w3 d3 D3 => kq _ w3 g d3 q (D3.up (B.u.trans D.u))))⟩) (xx.up B.u)⟩
theorem zcp (S : StX x T fa C rk N n cl) {o : PX} {k : Nat} {ps : List PX} {e2 : Expr} {pos : Pos} (h : uW x n C e (.meth k o ps)) (h2 : yd x e2 p) (hs : okE e2 = true) : oW x n C (.Compare e [.Eq] [e2] pos) (.eqM k o ps p) := ⟨λ {y a K1 K2 X Qc Ec} hp R k1 k2 xx => by
 show wpX n _ _ (do testChain pos (<- eval e x.env) [.Eq] (markedEach [.Eq] [e2] (evalEach [e2] x.env))) _ _ _
 rw [markedEach_of_false _ _ _ (uY (yC hs))]
 exact zx (h.go (Q := λ v g' => cnd p y.l g' (dec (wV v (val p y.l g')) (boC (.bool (eqB v (val p y.l g'))) ((truth (.bool (eqB v (val p y.l g'))) = true -> K1 g') /\ (truth (.bool (eqB v (val p y.l g'))) = false -> K2 g'))))) hp R (λ v w g b q B => zH (((mX S.st (op := .Eq) h2).go (y := ⟨y.l, g, y.m⟩) (Q := boC (.bool (eqB v (val p y.l g))) ((truth (.bool (eqB v (val p y.l g))) = true -> K1 g) /\ (truth (.bool (eqB v (val p y.l g))) = false -> K2 g))) q B.R B.v pos).2 λ q d R2 V => by
  cases t : eqB v (val p y.l g) with
  | true =>
   rw [show aC [.Eq] v (uJ [p] y.l g) = true from t]
   exact k1 g d (q.1 t) R2 (B.u.trans V)
  | false =>
   rw [show aC [.Eq] v (uJ [p] y.l g) = false from t]
   exact k2 g d (q.2 t) R2 (B.u.trans V))) xx)⟩
noncomputable abbrev Pl.newX (P : Pl) (d : Addr) (o : Obj) : Pl := ⟨(d + 1, o) :: (d, dictOf [] 0) :: P.news, λ b => b = d \/ P.M b, some (d + 1)⟩
theorem Rl.newX (R : Rl x y a) (hg : y.g.lx = none) : Ext a.P (a.P.newX a.s.heap.objs.size (instObj x.c.lexC a.s.heap.objs.size)) /\
  Rl x ⟨y.l, { y.g with lx := some [] }, y.m⟩ ⟨a.P.newX a.s.heap.objs.size (instObj x.c.lexC a.s.heap.objs.size), a.to ((a.s.heap.push emptyDict).push (instObj x.c.lexC a.s.heap.objs.size)) a.s.toks⟩ := by
 have hPx := R.st.nl hg
 have fD := R.fresh
 have hlt : ∀ b o, (b, o) ∈ a.P.news -> b < a.s.heap.objs.size := λ b o h => Heap.lt_size (R.N (b, o) h).1
 have hM : ∀ b, a.P.M b -> b < a.s.heap.objs.size := λ b h => (List.mem_map.mp (R.led.mem b h)).elim λ p z => z.2 ▸ hlt p.1 p.2 z.1
 have E : Ext a.P (a.P.newX a.s.heap.objs.size (instObj x.c.lexC a.s.heap.objs.size)) := ⟨λ b o h => ⟨.tail _ (.tail _ h.1), λ q => q.elim (λ e => Nat.lt_irrefl _ (e ▸ hlt b o h.1)) h.2⟩, λ b e => by rw [hPx] at e; cases e⟩
 have N1 := (R.N.push R.F emptyDict).push (R.F.push _) (instObj x.c.lexC a.s.heap.objs.size)
 rw [Heap.size_push] at N1
 refine ⟨E, R.move E ((R.F.push _).push _) N1 ⟨?_, ?_⟩ ⟨λ fs e => ?_, λ b vs e => ?_, λ e => nomatch e⟩⟩
 ·refine List.nodup_cons.mpr ⟨λ q => ?_, List.nodup_cons.mpr ⟨fD, R.led.nd⟩⟩
  rcases mCM q with q | q
  ·exact Nat.succ_ne_self _ q
  ·exact (List.mem_map.mp q).elim λ p z => Nat.not_succ_lt_self (z.2 ▸ hlt p.1 p.2 z.1)
 ·exact λ b q => q.elim (λ e => e ▸ .tail _ (.head _)) λ q => .tail _ (.tail _ (R.led.mem b q))
 ·rw [<- sIJ e]
  exact ⟨a.s.heap.objs.size + 1, a.s.heap.objs.size, 0, [], 0, rfl, ⟨.head _, λ q => q.elim (λ e => Nat.succ_ne_self _ e) λ q => Nat.not_succ_lt_self (hM _ q)⟩, ⟨.tail _ (.head _), .inl rfl⟩, trivial, λ q => absurd q (Nat.not_lt_zero _), λ i e => nomatch e⟩
 ·exact (R.st.hp b vs e).keep E.V λ ws m o => ⟨.tail _ (.tail _ o.1), .inr o.2⟩
theorem zeD {d M c k e : Nat} (hc : e <= k) : d + e + k * M + c <= d + k * (M + 1) + c := by
 rw [Nat.mul_succ, Nat.add_assoc d, Nat.add_comm e]
 exact Nat.add_le_add_right (Nat.add_le_add_left (Nat.add_le_add_left hc _) d) c
theorem fW (S : StX x T fa C rk N true cl) {ps : List PX} {es : List Expr} {z : Str} {np pos : Pos} (h : zbi x es ps) (hs : es.all okE = true) (hg : zy x.ns z "Lexer" = true) : uW x true C (.Call (.Name z np) es [] pos) (.newLex ps) := ⟨λ {y a Q X Qc Ec} hp R kq xx => by
 show wpX true _ _ (do callWith pos (<- eval (.Name z np) x.env) [] (backTo pos (starEach es x.env)) []) _ _ _
 refine zc (xR S.st R hg S.new.name (qO (P := x.c.K.In) hs (λ h X => keeps_K S.new.keep h X) (zH (h hp R (λ q ws b B => ⟨S.st.kin B.R, xg ?_⟩) pos))))
 obtain ⟨E1, R1⟩ := B.R.newX q.1
 have X1 := S.st.kin B.R
 have H : Here x.c x.f (x.A.under (.builtin "type.__call__" ⟨.ref x.c.lexC :: ([] ++ ws), []⟩)) N := by
  have hd : x.f.A₁.depth + 1 + 3 * (N + 1) + 10 < recursionLimit := (S.here 50 (Bool.or_true _)).depth
  have hu : x.f.A₁.units + 3 + 12 * (N + 1) + 40 < cLine := (S.here 50 (Bool.or_true _)).units
  refine ⟨S.st.here.below, S.st.here.kin, S.st.here.top, S.st.here.kind, S.st.here.stack, S.st.here.hh, ?_, ?_⟩
  ·show x.f.A₁.depth + 1 + 1 + 3 * N + 10 < recursionLimit
   exact Nat.lt_of_le_of_lt (zeD (by decide)) hd
  ·show x.f.A₁.units + 3 + (1 + 3 * 0) + 12 * N + 40 < cLine
   exact Nat.lt_of_le_of_lt (zeD (by decide)) hu
 have U1 : Up b ⟨b.P.newX b.s.heap.objs.size (instObj x.c.lexC b.s.heap.objs.size), b.to ((b.s.heap.push emptyDict).push (instObj x.c.lexC b.s.heap.objs.size)) b.s.toks⟩ := ⟨E1, rfl⟩
 refine zax (makes_of X1 S.new.makes) (looks_findIn X1 S.new.init) (λ self => bind_fn X1 self S.new.fn) rfl (nQ ((S.calls 50 (Bool.or_true _)).go (vs := .lex :: uJ ps y.l y.g) H S.gd q.2 R1 ⟨⟨_, rfl⟩, B.v.mono λ v t => VR.mono E1 v⟩ (Qc := λ v s' => v = .none /\ Qc (.ref (b.s.heap.objs.size + 1)) s') (λ v w g d q D => ?_) (xx.up (B.u.trans U1))) λ r s' z => ?_)
 ·obtain ⟨e1, q⟩ := vN q
  have hv := D.v
  rw [e1] at hv
  exact ⟨Eq.symm hv, kq .lex (.ref (b.s.heap.objs.size + 1)) g d q ⟨D.R, B.u.trans (U1.trans D.u), ⟨_, D.u.ext.xs _ rfl⟩⟩⟩
 ·rcases r with e | (v | _ | _ | _) <;> first | exact z | exact z.elim⟩
end
section
variable {x : Cx} {T : Names} {fa : Nat -> Addr} {N : Nat} {n : Bool} {C : Tab} {y : Lc} {a b : Wd} {e e1 e2 : Expr} {p p2 : PX} {i i2 : IX}
theorem zcq {u v : AV} {l : Loc} : ∀ {i j : Nat}, i ≠ j -> setL (setL l i u) j v = setL (setL l j v) i u := by
 induction l with
 | nil => exact λ z => rfl
 | cons w l ih =>
  intro i j h
  cases i with
  | zero => cases j with
   | zero => exact (h rfl).elim
   | succ j => rfl
  | succ i => cases j with
   | zero => rfl
   | succ j => exact congrArg (w :: ·) (ih λ e => h (congrArg (· + 1) e))
theorem bD (S : St x T fa N) {i' j : Nat} {z1 z2 : Str} {p1 p2 tp vp : Pos} {k1 k2 : Nat} (hi : zB x.ns i' z1 = true) (hj : zB x.ns j z2 = true) (hl : (p1.line == p2.line) = true) (hne : (z1 == z2) = false) (h1 : okE e1 = true) (h2 : okE e2 = true) (hc : ([e1, e2].all (foldedForSure 8) || !([e1, e2].all (constantsAlone 8))) = true) :
  swappedStores [.Tuple [.Name z1 p1, .Name z2 p2] k1 tp] (.Tuple [e1, e2] k2 vp) x.env = pure (if [e1, e2].all (foldedForSure 8) = true then none else some [z1, z2]) := by
 have hb : x.env.blockKind = .function := by
  show (if x.f.scope.kind.isAnnotationScope = true then ScopeKind.function else x.f.scope.kind) = .function
  rw [S.here.kind]; rfl
 exact xQ hi λ z z g3 => xQ hj λ z z g4 => zbM hb g3 g4 hl hne h1 h2 hc
theorem j4 {M : Model} {A : Around} {E : Value -> Shared -> Prop} {s : Shared} {env : Env} {elts k tpos value pos} {names : List Str} {Q : Flow -> Shared -> Prop}
  (h : wpX n M A (eval value env) (λ v s₁ => wpAny M A (unpackItems v names.length none) (λ items s₂ =>
   wpAny M A (assignInOrder (names.reverse.map λ n => bindName env n) items.reverse) (λ z => Q .next) E s₂) E s₁) E s)
  (hs : swapsWithSole [.Tuple elts k tpos] value pos.line env = pure false)
  (hw : swappedStores [.Tuple elts k tpos] value env = pure (some names)) :
  wpX n M A (exec (.Assign [.Tuple elts k tpos] value pos) env) Q E s := by
 rw [exec_Assign]
 refine zc (wpAny_standAt ?_)
 rw [hs]
 refine zc (wpAny_pure ?_)
 rw [if_neg Bool.false_ne_true]
 refine zx (zP h (λ v s₁ h₁ => ?_) λ z z x => x)
 rw [hw]
 refine zH (wBD (wpAny_pure ?_))
 show wpAny M A (do rule "assign.swapped-stores"; let items <- unpackItems v names.length none; assignInOrder (names.reverse.map λ n => bindName env n) items.reverse; pure .next) Q E s₁
 exact wBD (wpAny_rule (wBD (wpAny_mono h₁ (λ items s₂ h₂ => wBD (wpAny_mono h₂ (λ z z x => wpAny_pure x) λ z z x => x)) λ z z x => x)))
theorem bG (S : St x T fa N) {y : Lc} {d : Wd} {u v : AV} {w w2 : Value} {Qv Ec : Value -> Shared -> Prop} (R : Rl x y d) (hu : VR x.c d.P u w) (hw : VR x.c d.P v w2) (k : ∀ w3 d3, At x y d (.tup [u, v]) w3 d3 -> Qv w3 d3.s) : wpAny x.M x.A (newTuple [w, w2]) Qv Ec d.s :=
 have hv : yx (VR x.c d.P) [u, v] [w, w2] := ⟨hu, hw, trivial⟩
 newTuple_N R.F R.N (λ h' F' N' => k _ ⟨d.P.push d.s.heap.objs.size (za6 [w, w2] 0), d.to h' d.s.toks⟩ ⟨R.push R.fresh F' N', ⟨vL.push.ext, rfl⟩, [w, w2], VRs.of (hv.mono λ v t => VR.mono vL.push.ext v), ⟨_, 0, .head _, λ z => R.fresh (R.led.mem _ z)⟩⟩) (xP (show 2 <= 1000000 by decide))
theorem fX (S : St x T fa N) (R : Rl x y a) {i' j : Nat} {z1 z2 : Str} {u v : AV} {w : Value} {Qc : Unit -> Shared -> Prop} {Ec} (hij : i' ≠ j) (hi : zB x.ns i' z1 = true) (hj : zB x.ns j z2 = true) (hw : VR x.c a.P (.tup [u, v]) w)
  (k : ∀ m b, Rl x ⟨setL (setL y.l i' u) j v, y.g, m⟩ b -> Up a b -> Qc () b.s) : wpAny x.M x.A (unpackItems w 2 none) (λ items s₂ => wpAny x.M x.A (assignInOrder ([z1, z2].reverse.map λ n => bindName x.env n) items.reverse) Qc Ec s₂) Ec a.s := by
 obtain ⟨ws, hv, r⟩ := hw
 cases ws with
 | nil => exact hv.elim
 | cons wu ws => cases ws with
  | nil => exact hv.2.elim
  | cons wv ws =>
   have e : [] = ws := hv.2.2
   subst e
   obtain ⟨t, m, o⟩ := r
   refine unpackItemsN_ R.F R.N ⟨_, R.N.get o.1, rfl, m, rfl⟩ S.here.hh rfl λ h3 F3 N3 => ?_
   have R3 : Rl x y ⟨a.P, a.to h3 a.s.toks⟩ := ⟨F3, N3, R.led, R.st, R.loc⟩
   show wpAny _ _ (do holding [wu] (bindName x.env z2 wv); assignInOrder [λ v => bindName x.env z1 v] [wu]) _ _ _
   refine wBD (wpAny_holding (wpAny_bindName (vh S R3 hj hv.2.1 λ m b R4 U => ?_)))
   show wpAny _ _ (do holding [] (bindName x.env z1 wu); assignInOrder [] []) _ _ _
   refine wBD (wpAny_holding (wpAny_bindName (vh S (y := ⟨setL y.l j v, y.g, m⟩) R4 hi (VR.mono U.ext _ hv.1) λ m2 d R5 V => wpAny_pure ?_)))
   rw [zcq (Ne.symm hij)] at R5
   exact k m2 d R5 (Up.trans (b := ⟨a.P, a.to h3 a.s.toks⟩) ⟨Ext.refl _, rfl⟩ (U.trans V))
theorem j5 (S : St x T fa N) {i' j : Nat} {z1 z2 : Str} {p1 p2 tp vp pos : Pos} {k1 k2 : Nat} (h1 : uW x n C e1 i) (h2 : uW x n C e2 i2) (hi : zB x.ns i' z1 = true) (hj : zB x.ns j z2 = true) (s1 : okE e1 = true) (s2 : okE e2 = true) (hl : (p1.line == p2.line) = true) (hne : (z1 == z2) = false)
  (hq : [e1, e2].all (foldedForSure 8) = false) (hc : [e1, e2].all (constantsAlone 8) = false) (hij : i' ≠ j) : zT x n C (.Assign [.Tuple [.Name z1 p1, .Name z2 p2] k1 tp] (.Tuple [e1, e2] k2 vp) pos) (.assignP i' j i i2) := ⟨λ {y a K Kc Ec} hp R k => by
 have sw := bD S (k1 := k1) (k2 := k2) (tp := tp) (vp := vp) hi hj hl hne s1 s2 (by rw [hc, hq]; rfl)
 rw [hq, if_neg Bool.false_ne_true] at sw
 refine j4 ?_ (lA rfl) sw
 show wpX n _ _ (do standAt vp; newTuple (<- spliced (backTo vp (starEach [e1, e2] x.env)))) _ _ _
 exact zc (wpAny_standAt (zx (zfA s1 s2 (h1.go hp R (λ v w g b q B => h2.go q B.R (λ v2 w2 g2 d q2 D => zH (bG S D.R (VR.mono D.u.ext _ B.v) D.v λ w3 d3 D3 => fX S D3.R hij hi hj D3.v λ m d5 R5 U5 => k.nx ⟨_, g2, m⟩ d5 q2 R5 (B.u.trans (D.u.trans (D3.u.trans U5))))) ((k.xc _).up B.u)) (k.xc _)))))⟩
theorem j6 (S : St x T fa N) {i' j : Nat} {z1 z2 : Str} {p1 p3 tp vp pos : Pos} {k1 k2 : Nat} (h1 : yd x e1 p) (h2 : yd x e2 p2) (hi : zB x.ns i' z1 = true) (hj : zB x.ns j z2 = true) (s1 : okE e1 = true) (s2 : okE e2 = true) (hl : (p1.line == p3.line) = true) (hne : (z1 == z2) = false)
  (hq : [e1, e2].all (foldedForSure 8) = true) : zT x n C (.Assign [.Tuple [.Name z1 p1, .Name z2 p3] k1 tp] (.Tuple [e1, e2] k2 vp) pos) (.assignP i' j (.pure p) (.pure p2)) := ⟨λ {y a K Kc Ec} hp R k => by
 have sw := bD S (k1 := k1) (k2 := k2) (tp := tp) (vp := vp) hi hj hl hne s1 s2 (by rw [hq]; rfl)
 rw [hq, if_pos rfl] at sw
 refine zH (Assign_Tuple (Tuple_ (args2 s1 s2 (h1 hp R λ q w b B => h2 q B.R λ q2 w2 d D => bG S D.R (VR.mono D.u.ext _ B.v) D.v λ w3 d3 D3 => ?_))) (lA rfl) sw)
 exact sI S D3.R hi hj D3.v λ m d5 R5 U5 => k.nx _ d5 q2 R5 (B.u.trans (D.u.trans (D3.u.trans U5)))⟩
theorem j7 (S : St x T fa N) {eb : Expr} {z : Str} {zp xp sp ssp pos : Pos} (he : uK x.ns eb = true) (h : zhO x.ns p e = true) (hl : zB x.ns 0 z = true) : zT x n C (.Assign [.Attribute (.Name z zp) (zf 9) xp] (.Subscript eb (.Slice none (some e) none sp) ssp) pos) (.bufKeep p) := ⟨λ {y a K Kc Ec} hp R k => by
 refine zH (plainObj_wpAny_Assign_Attribute (Subscript_ (vR hp λ h1 h2 h3 q => jH S R h1 h2 he λ fs z0 d u es m t hl0 hd h9 => wpAny_Slice (wpAny_pure ((zjJ S h).go (a := ⟨a.P, { a.s with toks := t }⟩) q R.tk λ q w1 t1 r1 => wpAny_pure ?_)))) (z6 rfl _ _))
 refine uX (M := λ v => VR x.c a.P v w1 -> (0 <= vI v /\ K (.nx y.l { y.g with buf := y.g.buf.take (vI v).toNat })) -> _) q (λ j q r1 q2 => ?_) r1 (uX (M := λ w => _) q λ w q => q)
 have hb := (hd.buf h9).2
 obtain ⟨t2⟩ : xX j w1 := r1
 have hg := Heap.get?_push_of_some { cls := .type "slice", data := .fields #[.none, .int j t2, .none] } (R.N.get hb.1)
 refine tail_any (zO hg) yE.lookup (d9 hg h3 (Heap.IsSliceOf.new _ _ _ _) .none (.int j t2) ?_) rfl
 have R1 : Rl x y ⟨a.P, a.to (a.s.heap.push { cls := .type "slice", data := .fields #[.none, .int j t2, .none] }) t1⟩ := R.grown λ b o e => Heap.get?_push_of_some _ e
 have R2 := R1.pushB (t := t1) R1.fresh (R1.F.push (baO (yq y.g.buf none (some j)))) (News.push R1.F R1.N _)
 have hcut : yq y.g.buf none (some j) = y.g.buf.take j.toNat := by
  have := lD y.g.buf j.toNat
  rw [Int.toNat_of_nonneg (show 0 <= j from q2.1)] at this
  exact this
 rw [hcut] at R2 ⊢
 refine yL S R2 hl h2 λ w2 r => zbQ S R2 r hl0 (zd7 (hd.buf h9).1) ⟨.head _, .inl rfl⟩ λ d3 R3 U => ?_
 have R3 : Rl x ⟨y.l, { y.g with lx := some fs, buf := y.g.buf.take j.toNat }, y.m⟩ d3 := R3
 rw [<- hl0] at R3
 exact k.nx ⟨y.l, _, y.m⟩ d3 q2.2 R3 (Up.trans (b := ⟨_, a.to _ t1⟩) ⟨(vL.pushM R1.fresh).ext, rfl⟩ U)⟩
end
noncomputable abbrev lY (it : Addr) (i : Nat) (old : Value) : Obj := { cls := .type "enumerate", data := .fields #[.none, .bool false, .ref it, rawInt (i : Int), .none, old] }
theorem zg2 : kW "enumerate" = true := by decide +kernel
theorem ziN : kW "list_iterator" = true := by decide +kernel
theorem zg3 (it : Addr) (i : Nat) (old : Value) : noIt (lY it i old) = false := congrArg Bool.not zg2
theorem ziO {o : Obj} (h : o.cls = .type "list_iterator") : noIt o = false := by
 unfold noIt
 rw [h]
 exact congrArg Bool.not ziN
section
variable {x : Cx} {y : Lc} {a b : Wd}
theorem pJ {P : Pl} {it d : Addr} (h : d ∉ P.keys) : d ∉ (P.drop it).keys := λ q => (List.mem_map.mp q).elim λ p z => h (List.mem_map.mpr ⟨p, (List.mem_filter.mp z.1).1, z.2⟩)
theorem j8 {P : Pl} {it : Addr} : it ∉ (P.drop it).keys := λ q => (List.mem_map.mp q).elim λ p z => bne_iff_ne.mp (List.mem_filter.mp z.1).2 z.2
theorem Rl.drop2 (R : Rl x y a) {it : Addr} {o1 o2 : Obj} (h1 : Own a.P (it + 1) o1) (h2 : Own a.P it o2) (n1 : noIt o1 = false) (n2 : noIt o2 = false) : Rl x y ⟨(a.P.drop (it + 1)).drop it, a.s⟩ :=
 (R.drop (h' := a.s.heap) (t := a.s.toks) h1.1 h1.2 n1 λ z z z e => e).drop (h' := a.s.heap) (t := a.s.toks) (rZ h2.1 (Ne.symm (Nat.succ_ne_self it))) h2.2 n2 λ z z z e => e
structure Free (x : Cx) (it : Addr) : Prop where
 L : x.f.L < it
 h0 : ∀ b, it <= b -> x.f.h₀.get? b = none
theorem Rl.free (R : Rl x y a) : Free x a.s.heap.objs.size := ⟨R.F.ns.lt, λ b hb => by
 cases q : x.f.h₀.get? b with
 | none => rfl
 | some o => exact absurd (Heap.lt_size (R.F.keep _ _ q)) (Nat.not_lt.mpr hb)⟩
theorem Rl.moved (R : Rl x y a) {it : Addr} (Z : Free x it) (n1 : it ∉ a.P.keys) (n2 : it + 1 ∉ a.P.keys) {h' : Heap} {t : Nat} (hk : ∀ b o, b ≠ it + 1 -> b ≠ it -> a.s.heap.get? b = some o -> h'.get? b = some o) : Rl x y ⟨a.P, a.to h' t⟩ :=
 ⟨⟨R.F.ns.at' λ o e => hk _ o (Nat.ne_of_lt (Nat.lt_succ_of_lt Z.L)) (Nat.ne_of_lt Z.L) e, λ b u e => hk _ u (λ q => by rw [q, Z.h0 _ (Nat.le_succ _)] at e; cases e) (λ q => by rw [q, Z.h0 _ (Nat.le_refl _)] at e; cases e) (R.F.keep b u e), R.F.above⟩,
 λ p hp => ⟨hk _ _ (λ e => n2 (e ▸ List.mem_map_of_mem (f := (·.1)) hp)) (λ e => n1 (e ▸ List.mem_map_of_mem (f := (·.1)) hp)) (R.N p hp).1, (R.N p hp).2⟩, R.led, R.st, R.loc⟩
theorem Free.news (Z : Free x it) (R : Rl x y a) {o : Obj} {d : Addr} (hd : it <= d) (ho : a.s.heap.get? d = some o) : News x.f.h₀ x.f.L a.s.heap ((d, o) :: a.P.news) := λ p hp => by
 rcases mCM hp with e | hp
 ·rw [e]; exact ⟨ho, Nat.ne_of_gt (Nat.lt_of_lt_of_le Z.L hd), Z.h0 _ hd⟩
 ·exact R.N p hp
theorem Rl.lay (R : Rl x y a) {it ad : Addr} {k : Nat} {old : Value} (Z : Free x it) (n1 : it ∉ a.P.keys) (n2 : it + 1 ∉ a.P.keys) (he : IsEnum a.s.heap (it + 1) it k old) (hi : a.s.heap.IsListIter it ad k) :
  ∃ oi, oi.cls = .type "list_iterator" /\ oi.data = .fields #[.ref ad, .int (k : Int) 0] /\ Rl x y ⟨(a.P.push it oi).push (it + 1) (lY it k old), a.s⟩ /\ Own ((a.P.push it oi).push (it + 1) (lY it k old)) (it + 1) (lY it k old) /\ Own ((a.P.push it oi).push (it + 1) (lY it k old)) it oi := by
 obtain ⟨oi, ho, hc, hd⟩ := hi
 have R4 : Rl x y ⟨a.P.push it oi, a.s⟩ := R.push (t := a.s.toks) n1 R.F (Z.news R (Nat.le_refl _) ho)
 have n3 : it + 1 ∉ (a.P.push it oi).keys := λ q => (mCM q).elim (λ e => Nat.succ_ne_self it e) n2
 exact ⟨oi, hc, hd, R4.push (t := a.s.toks) n3 R4.F (Z.news R4 (Nat.le_succ _) he), ⟨.head _, λ z => n2 (R.led.mem _ z)⟩, ⟨.tail _ (.head _), λ z => n1 (R.led.mem _ z)⟩⟩
end
inductive EnI (x : Cx) (a : Wd) (it ad : Addr) (F : List AV -> Nat -> Loc -> GS -> Prop) (vs : List AV) (n : Nat) : Shared -> Prop
 | mk (k : Nat) (y : Lc) (b : Wd) (old : Value) (oi : Obj) (e : n = vs.length - k) (h : F (vs.drop k) k y.l y.g) (R : Rl x y b) (U : Up a b) (he : Own b.P (it + 1) (lY it k old)) (hi : Own b.P it oi) (hc : oi.cls = .type "list_iterator") (hd : oi.data = .fields #[.ref ad, .int (k : Int) 0]) : EnI x a it ad F vs n b.s
section
variable {x : Cx} {T : Names} {fa : Nat -> Addr} {N : Nat} {C : Tab} {y : Lc} {a b : Wd} {e : Expr} {p : PX}
theorem j9 (S : St x T fa N) {i' j : Nat} {z1 z2 z : Str} {p1 p2 tp np cp pos : Pos} {k' : Nat} {sb : List Stmt} {mb : List MS} (h : yd x e p) (hi : zB x.ns i' z1 = true) (hj : zB x.ns j z2 = true) (hg : zy x.ns z "enumerate" = true) (hs : okE e = true) (h1 : oX x false C sb mb) :
  zT x false C (.For (.Tuple [.Name z1 p1, .Name z2 p2] k' tp) (.Call (.Name z np) [e] [] cp) sb [] pos) (.forEnum i' j p mb) := ⟨λ {y a K Kc Ec} hp R k => by
 refine zH (wpAny_For ?_ λ f => rfl)
 show wpAny _ _ (do callWith cp (<- eval (.Name z np) x.env) [] (backTo cp (starEach [e] x.env)) []) _ _ _
 refine yH hg λ g1 g2 g3 => ?_
 rw [g1]
 refine wBD (name_B R.F S.here.kin (topRead_of S.here.top) (S.fx.blt "enumerate" (by decide)) boot_enumerate (by decide) ?_ S.here.kind (g1 ▸ g3) (g1 ▸ g2))
 refine yZ (P := λ f => True) (yC hs) (zG (λ f e => nomatch e)) (args1 hs (h hp R λ q w b B => ⟨trivial, ?_⟩))
 have hv := B.v
 revert q hv
 cases val p y.l y.g with
 | lst vs =>
  intro q hv
  have q : za5 (λ l g K => exL C mb l g K) i' j vs 0 y.l y.g K := (zq q).2
  obtain ⟨ws, hws, hl⟩ := hv
  obtain ⟨ad, ew, getl0⟩ := hl.at (S.std B.R)
  subst ew
  have hlen : ws.length = vs.length := (VRs.to hws).len
  have Z := B.R.free
  have f1 : b.s.heap.objs.size ∉ b.P.keys := B.R.fresh
  have f2 : b.s.heap.objs.size + 1 ∉ b.P.keys := λ q => (List.mem_map.mp q).elim λ p z => Nat.not_succ_lt_self (z.2 ▸ Heap.lt_size (B.R.N p z.1).1)
  refine call_enumerate_list getl0 λ h1' he1 hit1 hz1 hk1 => wpAny_pyIter_enum he1 ?_
  have R0 : Rl x y ⟨b.P, b.to h1' b.s.toks⟩ := B.R.grown hk1
  obtain ⟨oi0, hc0, hd0, R1, w1, w2⟩ := R0.lay Z f1 f2 he1 hit1
  generalize b.s.heap.objs.size = it at *
  refine codeAny_forLoop_any (EnI x b it ad (λ r k l g => za5 (λ l g K => exL C mb l g K) i' j r k l g K) vs) (λ n' s' hI => uo λ Q2 q2 => ?_) vs.length (.mk 0 y ⟨_, b.to h1' b.s.toks⟩ .none oi0 rfl q R1 ⟨(vL.push.ext).trans vL.push.ext, rfl⟩ w1 w2 hc0 hd0)
  clear q R0 R1 w1 w2 he1 hit1 hz1 hk1
  obtain ⟨kk, y2, d, old, oi, en, hen, R2, U, we, wi, hc, hd⟩ := hI
  have gete := R2.N.get we.1
  have geti : d.s.heap.IsListIter it ad kk := ⟨oi, R2.N.get wi.1, hc, hd⟩
  have Rb := R2.drop2 we wi (zg3 _ _ _) (ziO hc)
  have EPb : Ext b.P ((d.P.drop (it + 1)).drop it) := Ext.drop (Ext.drop U.ext f2) f1
  have m1 : it ∉ ((d.P.drop (it + 1)).drop it).keys := j8
  have m2 : it + 1 ∉ ((d.P.drop (it + 1)).drop it).keys := pJ j8
  have m3 : d.s.heap.objs.size ∉ ((d.P.drop (it + 1)).drop it).keys := pJ (pJ R2.fresh)
  generalize (d.P.drop (it + 1)).drop it = Pb at Rb EPb m1 m2 m3
  have hvb := (VRs.to hws).mono λ v f => VR.mono EPb v
  obtain ⟨ad', ea, getl⟩ := (hl.mono U.ext.V).at (S.std R2)
  cases ea
  cases hr : vs.drop kk with
  | nil =>
   rw [hr] at hen
   refine wpAny_pyNext_enum_end S.here.hh gete geti getl ((List.getElem?_toArray ..).trans (List.getElem?_eq_none (hlen ▸ List.drop_eq_nil_iff.mp hr))) λ h3 he3 => q2 _ _ (wpAny_execs_nil ?_)
   exact k.nx y2 ⟨Pb, d.to h3 d.s.toks⟩ hen (Rb.moved Z m1 m2 λ b o n1 n2 e => he3 b o n2 e) (B.u.trans ⟨EPb, U.to _ _⟩)
  | cons v r =>
   rw [hr] at hen
   obtain ⟨lt, hx, hr'⟩ := drop_cons hr
   obtain ⟨wv, hwv, hvv⟩ := yx.get hvb (show yj vs kk = some v from (sG kk).trans hx)
   refine wpAny_pyNext_enum_item gete geti getl ((List.getElem?_toArray ..).trans ((sG kk).symm.trans hwv)) (Nat.succ_ne_self _) λ h3 heo hit3 htup hz3 hk3 => q2 _ _ (wpAny_letOwnedTupleGo_enum heo λ h4 he4 hs4 => zdm λ G3 g3 => ?_)
   have hs4 : Heap.SameBut (it + 1) h3 h4 := hs4
   have Rc : Rl x y2 ⟨Pb, d.to h4 (d.s.toks + 1)⟩ := Rb.moved Z m1 m2 λ b o n1 n2 e => hs4.extBut b o n1 (hk3 b o n1 n2 e)
   have lt2 : it + 1 < d.s.heap.objs.size := Heap.lt_size gete
   have htup4 : h4.get? d.s.heap.objs.size = some (za6 [.int (kk : Int) d.s.toks, wv] 0) := hs4.extBut _ _ (Nat.ne_of_gt lt2) htup
   have Rd : Rl x y2 ⟨Pb.push d.s.heap.objs.size (za6 [.int (kk : Int) d.s.toks, wv] 0), d.to h4 (d.s.toks + 1)⟩ := Rc.push (t := d.s.toks + 1) m3 Rc.F (Z.news Rc (Nat.le_of_lt (Nat.lt_of_succ_lt lt2)) htup4)
   obtain ⟨oi', hc', hd', Re, we', wi'⟩ := Rd.lay (ad := ad) (k := kk + 1) (old := wv) Z (λ q => (mCM q).elim (λ e => Nat.ne_of_lt (Nat.lt_of_succ_lt lt2) e) m1) (λ q => (mCM q).elim (λ e => Nat.ne_of_lt lt2 e) m2) he4 (hit3.extBut hs4.extBut (Ne.symm (Nat.succ_ne_self _)))
   have Ee : Ext (Pb.push d.s.heap.objs.size (za6 [.int (kk : Int) d.s.toks, wv] 0)) _ := (vL.push (a := it) (o := oi')).ext.trans (vL.push (a := it + 1) (o := lY it (kk + 1) wv)).ext
   have Et : Ext Pb (Pb.push d.s.heap.objs.size (za6 [.int (kk : Int) d.s.toks, wv] 0)) := vL.push.ext
   have Ue : Up b ⟨_, d.to h4 (d.s.toks + 1)⟩ := ⟨EPb.trans (Et.trans Ee), U.to _ _⟩
   have hp : VR x.c ((Pb.push d.s.heap.objs.size (za6 [.int (kk : Int) d.s.toks, wv] 0)).push it oi' |>.push (it + 1) (lY it (kk + 1) wv)) (.tup [.int (kk : Int), v]) (.ref d.s.heap.objs.size) :=
    ⟨[.int (kk : Int) d.s.toks, wv], ⟨⟨_⟩, VR.mono (Et.trans Ee) v hvv, rfl⟩, ⟨_, 0, Ee.own _ _ ⟨.head _, λ q => m3 (Rb.led.mem _ q)⟩⟩⟩
   have hen : exL C mb (setL (setL y2.l i' (.int (kk : Int))) j v) y2.g (zdw (λ l' g' => za5 (λ l g K => exL C mb l g K) i' j r (kk + 1) l' g' K) K) := hen
   refine g3 (sI S Re hi hj hp λ m d5 R5 U5 => ?_)
   exact cB (h1.go hen R5 ⟨λ y6 d6 q R6 W => ⟨vs.length - (kk + 1), en ▸ Nat.sub_lt_sub_left lt (Nat.lt_succ_self kk), .mk (kk + 1) y6 d6 wv oi' rfl (hr'.symm ▸ q) R6 (Ue.trans (U5.trans W)) (W.ext.own _ _ (U5.ext.own _ _ we')) (W.ext.own _ _ (U5.ext.own _ _ wi')) hc' hd'⟩,
    λ y6 d6 q R6 W => k.nx y6 d6 q R6 (B.u.trans (Ue.trans (U5.trans W))), λ y6 d6 v w q R6 W r => k.rt y6 d6 v w q R6 (B.u.trans (Ue.trans (U5.trans W))) r, λ m => rY S (k.xc m) (B.u.trans (Ue.trans U5))⟩)
 | _ => exact λ q => q.elim⟩
end
noncomputable def stM (s : Stmt) (re : Option Expr -> Bool) (an : List Expr -> Expr -> Bool) (au : Expr -> Operator -> Expr -> Bool) (fo : Expr -> Expr -> List Stmt -> List Stmt -> Bool) (wh iff : Expr -> List Stmt -> List Stmt -> Bool) (ra : Option Expr -> Option Expr -> Bool) (ex : Expr -> Bool) (pa br : Bool) : Bool := match s with
 | .Return v _ => re v
 | .Assign ts v _ => an ts v
 | .AugAssign t op v _ => au t op v
 | .For t i b o _ => fo t i b o
 | .While t b o _ => wh t b o
 | .If t b o _ => iff t b o
 | .Raise a c _ => ra a c
 | .Expr v _ => ex v
 | .Pass _ => pa
 | .Break _ => br
 | _ => false
theorem stM.of {M : Stmt -> Prop} {s : Stmt} {re an au fo wh iff ra ex pa br} (h : stM s re an au fo wh iff ra ex pa br = true) (kr : ∀ v p, re v = true -> M (.Return v p)) (ka : ∀ ts v p, an ts v = true -> M (.Assign ts v p)) (ku : ∀ t op v p, au t op v = true -> M (.AugAssign t op v p))
  (kf : ∀ t i b o p, fo t i b o = true -> M (.For t i b o p)) (kw : ∀ t b o p, wh t b o = true -> M (.While t b o p)) (ki : ∀ t b o p, iff t b o = true -> M (.If t b o p)) (kx : ∀ a c p, ra a c = true -> M (.Raise a c p)) (ke : ∀ v p, ex v = true -> M (.Expr v p)) (kp : ∀ p, pa = true -> M (.Pass p)) (kb : ∀ p, br = true -> M (.Break p)) : M s := by
 cases s with
 | Return v p => exact kr v p h
 | Assign ts v p => exact ka ts v p h
 | AugAssign t op v p => exact ku t op v p h
 | For t i b o p => exact kf t i b o p h
 | While t b o p => exact kw t b o p h
 | If t b o p => exact ki t b o p h
 | Raise a c p => exact kx a c p h
 | Expr v p => exact ke v p h
 | Pass p => exact kp p h
 | Break p => exact kb p h
 | _ => exact no h
section
variable {M : Stmt -> Prop} {s : Stmt}
noncomputable def zhX (s : Stmt) (F : Option Expr -> Bool) : Bool := stM s F n2 n3 n4 n3 n3 n2 n1 false false
theorem zhX.of {F} (h : zhX s F = true) (k : ∀ v p, F v = true -> M (.Return v p)) : M s := stM.of h k (λ z z z => no) (λ z z z z => no) (λ z z z z z => no) (λ z z z z => no) (λ z z z z => no) (λ z z z => no) (λ z z => no) (λ z => no) (λ z => no)
noncomputable def iV (s : Stmt) (F : Expr -> Expr -> Bool) : Bool := stM s n1 (λ ts v => on1 ts λ t => F t v) n3 n4 n3 n3 n2 n1 false false
theorem iV.of {F} (h : iV s F = true) (k : ∀ t v p, F t v = true -> M (.Assign [t] v p)) : M s := stM.of h (λ z z => no) (λ ts v p h => on1.of (M := λ ts => M (.Assign ts v p)) h λ t h => k t v p h) (λ z z z z => no) (λ z z z z z => no) (λ z z z z => no) (λ z z z z => no) (λ z z z => no) (λ z z => no) (λ z => no) (λ z => no)
noncomputable def zhY (s : Stmt) (F : Expr -> Operator -> Expr -> Bool) : Bool := stM s n1 n2 F n4 n3 n3 n2 n1 false false
theorem zhY.of {F} (h : zhY s F = true) (k : ∀ t op v p, F t op v = true -> M (.AugAssign t op v p)) : M s := stM.of h (λ z z => no) (λ z z z => no) k (λ z z z z z => no) (λ z z z z => no) (λ z z z z => no) (λ z z z => no) (λ z z => no) (λ z => no) (λ z => no)
noncomputable def zhZ (s : Stmt) (F : Expr -> Expr -> List Stmt -> Bool) : Bool := stM s n1 n2 n3 (λ t i b o => isNil o && F t i b) n3 n3 n2 n1 false false
theorem zhZ.of {F} (h : zhZ s F = true) (k : ∀ t i b p, F t i b = true -> M (.For t i b [] p)) : M s := stM.of h (λ z z => no) (λ z z z => no) (λ z z z z => no) (λ t i b o p h => a2 h λ h1 h2 => (isNil.of h1).symm ▸ k t i b p h2) (λ z z z z => no) (λ z z z z => no) (λ z z z => no) (λ z z => no) (λ z => no) (λ z => no)
noncomputable def zjp (s : Stmt) (F : Expr -> List Stmt -> Bool) : Bool := stM s n1 n2 n3 n4 (λ t b o => isNil o && F t b) n3 n2 n1 false false
theorem zjp.of {F} (h : zjp s F = true) (k : ∀ t b p, F t b = true -> M (.While t b [] p)) : M s := stM.of h (λ z z => no) (λ z z z => no) (λ z z z z => no) (λ z z z z z => no) (λ t b o p h => a2 h λ h1 h2 => (isNil.of h1).symm ▸ k t b p h2) (λ z z z z => no) (λ z z z => no) (λ z z => no) (λ z => no) (λ z => no)
noncomputable def sIf (s : Stmt) (F : Expr -> List Stmt -> List Stmt -> Bool) : Bool := stM s n1 n2 n3 n4 n3 F n2 n1 false false
theorem sIf.of {F} (h : sIf s F = true) (k : ∀ t b o p, F t b o = true -> M (.If t b o p)) : M s := stM.of h (λ z z => no) (λ z z z => no) (λ z z z z => no) (λ z z z z z => no) (λ z z z z => no) k (λ z z z => no) (λ z z => no) (λ z => no) (λ z => no)
noncomputable def zjq (s : Stmt) (F : Option Expr -> Bool) : Bool := stM s n1 n2 n3 n4 n3 n3 (λ a c => isNone c && F a) n1 false false
theorem zjq.of {F} (h : zjq s F = true) (k : ∀ a p, F a = true -> M (.Raise a none p)) : M s := stM.of h (λ z z => no) (λ z z z => no) (λ z z z z => no) (λ z z z z z => no) (λ z z z z => no) (λ z z z z => no) (λ a c p h => a2 h λ h1 h2 => (isNone.of h1).symm ▸ k a p h2) (λ z z => no) (λ z => no) (λ z => no)
noncomputable def zdl (s : Stmt) (F : Expr -> Bool) : Bool := stM s n1 n2 n3 n4 n3 n3 n2 F false false
theorem zdl.of {F} (h : zdl s F = true) (k : ∀ v p, F v = true -> M (.Expr v p)) : M s := stM.of h (λ z z => no) (λ z z z => no) (λ z z z z => no) (λ z z z z z => no) (λ z z z z => no) (λ z z z z => no) (λ z z z => no) k (λ z => no) (λ z => no)
noncomputable def zjr (s : Stmt) : Bool := stM s n1 n2 n3 n4 n3 n3 n2 n1 true false
theorem zjr.of (h : zjr s = true) (k : ∀ p, M (.Pass p)) : M s := stM.of h (λ z z => no) (λ z z z => no) (λ z z z z => no) (λ z z z z z => no) (λ z z z z => no) (λ z z z z => no) (λ z z z => no) (λ z z => no) (λ p z => k p) (λ z => no)
noncomputable def zjs (s : Stmt) : Bool := stM s n1 n2 n3 n4 n3 n3 n2 n1 false true
theorem zjs.of (h : zjs s = true) (k : ∀ p, M (.Break p)) : M s := stM.of h (λ z z => no) (λ z z z => no) (λ z z z z => no) (λ z z z z z => no) (λ z z z z => no) (λ z z z z => no) (λ z z z => no) (λ z z => no) (λ z => no) (λ p z => k p)
end
theorem oO.of {M : Option Expr -> Prop} {o : Option Expr} {F} (h : oO o false F = true) (k : ∀ e, F e = true -> M (some e)) : M o := by
 cases o with
 | none => exact no h
 | some e => exact k e h
noncomputable def isPure : IX -> Bool
 | .pure _ => true
 | _ => false
section
variable (T : Names) (ns : NS) (N : Nat) (n : Bool) (cl : Nat -> Bool)
noncomputable def zjt (k : Nat) (o : PX) (ms : List PX) (e : Expr) : Bool := zu e λ f es p => zJ f λ x nm ap => (nm == T.meth k && ap.endLine == p.line) && ((Nat.blt 50 k && (cl k || n)) && (Nat.blt es.length 20 && ((okB x && xW T ns N o x) && gF T ns N ms es)))
noncomputable def zay : IX -> Expr -> Bool
 | .pure p, e => xW T ns N p e
 | .call k ms, e => zu e λ f es w => zj f λ y => zy ns y (T.fn k) && (Nat.blt k 50 && ((cl k || n) && gF T ns N ms es))
 | .meth k o ms, e => zjt T ns N n cl k o ms e
 | .tokM t k o ms, e => zu e λ f es w => zj f λ y => on2 es λ x z => zy ns y "Token" && ((okE x && okE z) && (xW T ns N t x && zjt T ns N n cl k o ms z))
 | .eqM _ _ _ _, _ => false
 | .newl, e => sZ e isNil
 | .newLex ms, e => n && zu e λ f es w => zj f λ y => zy ns y "Lexer" && gF T ns N ms es
noncomputable def isCall (e : Expr) : Bool := zu e T3
noncomputable def zj0 (i : IX) (e : Expr) : Bool := match i with
 | .pure p => zdg e && xW T ns N p e
 | .eqM k o ms p => aL e λ l os rs => on1 rs λ r => decide ([.Eq] = os) && (okE r && (zjt T ns N n cl k o ms l && xW T ns N p r))
 | i => isCall e && zay T ns N n cl i e
noncomputable def two (e : Expr) (F : Expr -> Expr -> Bool) : Bool := aM e λ es => on2 es F
mutual
noncomputable def zkp : MS -> Stmt -> Bool
 | .assign i x, s => iV s λ t e => zj t (zB ns i) && (okE e && zay T ns N n cl x e)
 | .assignT i j x, s => !n && iV s λ t e => two t λ z1 z2 => (zj z1 (zB ns i) && zj z2 (zB ns j)) && (okT e && zay T ns N n cl x e)
 | .assignP i j x y, s => iV s λ t e => two t λ z1 z2 => two e λ e1 e2 => (zj z1 (zB ns i) && zj z2 (zB ns j)) && ((z1.pos.line == z2.pos.line && zj z1 λ y1 => zj z2 λ y2 => !(y1 == y2)) && ((okE e1 && okE e2) && ((zay T ns N n cl x e1 && zay T ns N n cl y e2) &&
   (([e1, e2].all (foldedForSure 8) && (isPure x && isPure y)) || (!([e1, e2].all (foldedForSure 8)) && (!([e1, e2].all (constantsAlone 8)) && !(Nat.beq i j)))))))
 | .setattr f x, s => iV s λ t e => zJ t λ o nm z => nm == zf f && (zj o (zB ns 0) && (okE e && zay T ns N n cl x e))
 | .aug i p, s => zhY s λ t op e => zj t (zB ns i) && (decide (op = .Add) && xW T ns N p e)
 | .augattr f p, s => zhY s λ t op e => zJ t λ o nm z => nm == zf f && (zj o (zB ns 0) && (decide (op = .Add) && xW T ns N p e))
 | .ifs t a b, s => sIf s λ e sa sb => zj0 T ns N n cl t e && (pK a sa && pK b sb)
 | .while t b, s => zjp s λ e sb => zj0 T ns N n cl t e && pK b sb
 | .ret x, s => zhX s λ o => oO o false λ e => zay T ns N n cl x e
 | .retNone, s => zhX s isNone
 | .brk, s => zjs s
 | .pass, s => zjr s
 | .expr x, s => zdl s λ e => okE e && zay T ns N n cl x e
 | .app i p, s => zdl s λ c => zu c λ f es cp => zJ f λ o nm ap => on1 es λ e => (nm == ("append" : Str) && ap.endLine == cp.line) && (zj o (zB ns i) && (okE e && xW T ns N p e))
 | .rev i, s => zdl s λ c => zu c λ f es cp => zJ f λ o nm ap => isNil es && ((nm == ("reverse" : Str) && ap.endLine == cp.line) && zj o (zB ns i))
 | .bufApp p, s => n && zdl s λ c => zu c λ f es cp => zJ f λ o nm ap => on1 es λ e => (nm == ("append" : Str) && ap.endLine == cp.line) && (uK ns o && (okE e && zhO ns p e))
 | .bufNew, s => n && iV s λ t e => zJ t λ o nm z => nm == zf 9 && (zj o (zB ns 0) && zu e λ f es z => isNil es && zj f λ y => zy ns y "bytearray")
 | .bufKeep p, s => iV s λ t e => zJ t λ o nm z => nm == zf 9 && (zj o (zB ns 0) && oN e λ b j => vO j λ lo hi => isNone lo && oO hi false λ u => uK ns b && zhO ns p u)
 | .forBytes i p b, s => !n && zhZ s λ t e sb => zj t (zB ns i) && (okE e && (xW T ns N p e && pK b sb))
 | .forEnum i j p b, s => !n && zhZ s λ t c sb => two t λ z1 z2 => (zj z1 (zB ns i) && zj z2 (zB ns j)) && zu c λ f es z => zj f λ y => on1 es λ e => zy ns y "enumerate" && (okE e && (xW T ns N p e && pK b sb))
 | .raise p, s => zjq s λ o => oO o false λ c => zu c λ f es z => zj f λ y => on1 es λ e => zy ns y "LuaSyntaxError" && (okE e && xW T ns N p e)
noncomputable def pK : List MS -> List Stmt -> Bool
 | [], ss => isNil ss
 | m :: ms, ss => match ss with
  | [] => false
  | s :: ss => zkp m s && pK ms ss
end
end
end
section
open PyProof.Rows PySem.Builtin PySem.Calls
set_option tactic.hygienic true
theorem zfR {b : Bool} (h : (!b) = true) : b = false := (Bool.not_eq_true' b).mp h
section
variable {x : Cx} {T : Names} {fa : Nat -> Addr} {rk N : Nat} {n : Bool} {cl : Nat -> Bool} {C : Tab} {y : Lc} {a b : Wd} {e : Expr} {p : PX} {i : IX}
theorem zcr (S : St x T fa N) : ∀ (ms : List PX) {es : List Expr}, gF T x.ns N ms es = true -> s8 x es ms := λ ms => by
 induction ms with
 | nil => exact λ h => (isNil.of h).symm ▸ all_nil
 | cons m ms ih =>
  intro es h
  cases es with
  | nil => exact no h
  | cons e es => exact a3 h λ h1 h2 h3 => all_cons (sound S m h2) h1 (ih h3)
theorem zcs (S : StX x T fa C rk N n cl) {k : Nat} {o : PX} {ms : List PX} (h : zjt T x.ns rk n cl k o ms e = true) : uW x n C e (.meth k o ms) :=
 zu.of (M := λ e => uW x n C e (.meth k o ms)) h λ f es p h => zJ.of (M := λ f => uW x n C (.Call f es [] p) (.meth k o ms)) h λ v nm ap h => a4 h λ h1 h2 h3 h4 => a2 h1 λ h1 h1' => a2 h2 λ h2 h2' => a2 h4 λ h4 h5 => a2 h4 λ h4 h4' => (eq_of_beq h1).symm ▸ zcn S (sound S.st o h4').E (zcr S.st ms h5).L (sE h5) (ltB h3) (ltB h2) h2' h4 h1'
theorem wO (S : StX x T fa C rk N n cl) (h : zay T x.ns rk n cl i e = true) : uW x n C e i := by
 cases i with
 | pure p => exact zbG (sound S.st p h).E
 | call k ms => exact zu.of (M := λ e => uW x n C e (.call k ms)) h λ f es p h => zj.of (M := λ f => uW x n C (.Call f es [] p) (.call k ms)) h λ z q h => a4 h λ h1 h2 h3 h4 => zcm S (zcr S.st ms h4).L (sE h4) h1 (ltB h2) h3
 | meth k o ms => exact zcs S h
 | tokM t k o ms => exact zu.of (M := λ e => uW x n C e (.tokM t k o ms)) h λ f es p h => zj.of (M := λ f => uW x n C (.Call f es [] p) (.tokM t k o ms)) h λ z q h => on2.of (M := λ es => uW x n C (.Call (.Name z q) es [] p) (.tokM t k o ms)) h λ u v h => a3 h λ h1 h2 h3 => a2 h2 λ h2 h2' => a2 h3 λ h3 h3' => zco S (sound S.st t h3).E (zcs S h3') h2 h2' h1
 | eqM k o ms p => exact no h
 | newl => exact sZ.of (M := λ e => uW x n C e .newl) h λ es p h => (isNil.of h).symm ▸ zbO
 | newLex ms =>
  obtain ⟨h0, h⟩ := Bool.and_eq_true_iff.mp h
  subst h0
  exact zu.of (M := λ e => uW x true C e (.newLex ms)) h λ f es p h => zj.of (M := λ f => uW x true C (.Call f es [] p) (.newLex ms)) h λ z q h => a2 h λ h1 h2 => fW S (zcr S.st ms h2).L (sE h2) h1
theorem tO (h : isCall e = true) (k : uW x n C e i) : oW x n C e i := zu.of (M := λ e => uW x n C e i -> oW x n C e i) h (λ f es p z k => zbH k rfl) k
theorem zfS (S : StX x T fa C rk N n cl) (h : zj0 T x.ns rk n cl i e = true) : oW x n C e i := by
 cases i with
 | pure p => exact a2 h λ h1 h2 => zag ((sound S.st p h2).T h1)
 | eqM k o ms p => exact aL.of (M := λ e => oW x n C e (.eqM k o ms p)) h λ l os rs q h => on1.of (M := λ rs => oW x n C (.Compare l os rs q) (.eqM k o ms p)) h λ r h => a4 h λ h1 h2 h3 h4 => of_decide_eq_true h1 ▸ zcp S (zcs S h3) (sound S.st p h4).E h2
 | call => exact a2 h λ h1 h2 => tO h1 (wO S h2)
 | meth => exact a2 h λ h1 h2 => tO h1 (wO S h2)
 | tokM => exact a2 h λ h1 h2 => tO h1 (wO S h2)
 | newl => exact a2 h λ h1 h2 => tO h1 (wO S h2)
 | newLex => exact a2 h λ h1 h2 => tO h1 (wO S h2)
theorem two.of {M : Expr -> Prop} {F : Expr -> Expr -> Bool} (h : two e F = true) (k : ∀ u v m q, F u v = true -> M (.Tuple [u, v] m q)) : M e :=
 aM.of (M := M) h λ es m q h => on2.of (M := λ es => M (.Tuple es m q)) h λ u v h => k u v m q h
theorem zct (h : isPure i = true) : ∃ p, i = .pure p := by
 cases i with
 | pure p => exact ⟨p, rfl⟩
 | _ => exact no h
theorem zcu {j i' : Nat} {z1 z2 : Expr} {M : Expr -> Expr -> Prop} (h : (zj z1 (zB x.ns i') && zj z2 (zB x.ns j)) = true) (k : ∀ y1 p1 y2 p2, zB x.ns i' y1 = true -> zB x.ns j y2 = true -> M (.Name y1 p1) (.Name y2 p2)) : M z1 z2 :=
 a2 h λ h1 h2 => zj.of (M := λ z1 => M z1 z2) h1 λ y1 p1 h1 => zj.of (M := λ z2 => M (.Name y1 p1) z2) h2 λ y2 p2 h2 => k y1 p1 y2 p2 h1 h2
theorem pairF (S : StX x T fa C rk N n cl) {i2 : IX} {e1 e2 : Expr} {i' j : Nat} {z1 z2 : Str} {p1 p3 tp vp pos : Pos} {k1 k2 : Nat} (c1 : zay T x.ns rk n cl i e1 = true) (c2 : zay T x.ns rk n cl i2 e2 = true) (hi : zB x.ns i' z1 = true) (hj : zB x.ns j z2 = true) (s1 : okE e1 = true) (s2 : okE e2 = true) (hl : (p1.line == p3.line) = true) (hne : (z1 == z2) = false)
  (hq : [e1, e2].all (foldedForSure 8) = true) (f2 : isPure i = true) (f3 : isPure i2 = true) : zT x n C (.Assign [.Tuple [.Name z1 p1, .Name z2 p3] k1 tp] (.Tuple [e1, e2] k2 vp) pos) (.assignP i' j i i2) := by
 obtain ⟨u, rfl⟩ := zct f2
 obtain ⟨v, rfl⟩ := zct f3
 exact j6 S.st (sound S.st u c1).E (sound S.st v c2).E hi hj s1 s2 hl hne hq
theorem ziP (S : StX x T fa C rk N n cl) (m : MS) : ∀ {s : Stmt}, zkp T x.ns rk n cl m s = true -> zT x n C s m := by
 induction m using MS.rec (motive_2 := λ ms => ∀ {ss}, pK T x.ns rk n cl ms ss = true -> oX x n C ss ms) with
 | assign j i => exact λ h => iV.of (M := λ s => zT x n C s (.assign j i)) h λ t e p h => zj.of (M := λ t => zT x n C (.Assign [t] e p) (.assign j i)) (Bool.and_eq_true_iff.mp h).1 λ z q h1 => a3 h λ y h2 h3 => gY S.st (wO S h3) h1 h2
 | assignT i' j i =>
  intro s h
  obtain ⟨h0, h⟩ := Bool.and_eq_true_iff.mp h
  have h0 := zfR h0
  subst h0
  exact iV.of (M := λ s => zT x false C s (.assignT i' j i)) h λ t e p h => two.of (M := λ t => zT x false C (.Assign [t] e p) (.assignT i' j i)) h λ z1 z2 m q h => a3 h λ h1 h2 h3 => zcu (M := λ z1 z2 => zT x false C (.Assign [.Tuple [z1, z2] m q] e p) (.assignT i' j i)) h1 λ y1 p1 y2 p2 g1 g2 => jF S.st (wO S h3) g1 g2 h2
 | assignP i' j i i2 => exact λ h => iV.of (M := λ s => zT x n C s (.assignP i' j i i2)) h λ t e p h => two.of (M := λ t => zT x n C (.Assign [t] e p) (.assignP i' j i i2)) h λ z1 z2 m q h => two.of (M := λ e => zT x n C (.Assign [.Tuple [z1, z2] m q] e p) (.assignP i' j i i2)) h λ e1 e2 m2 q2 h => a5 h λ h1 h2 h3 h4 h5 => zcu (M := λ z1 z2 => (z1.pos.line == z2.pos.line && zj z1 λ y1 => zj z2 λ y2 => !(y1 == y2)) = true -> zT x n C (.Assign [.Tuple [z1, z2] m q] (.Tuple [e1, e2] m2 q2) p) (.assignP i' j i i2)) h1 (λ y1 p1 y2 p2 g1 g2 h2 => a2 h2 λ l1 l2 => a2 h3 λ s1 s2 => a2 h4 λ c1 c2 => (Bool.or_eq_true_iff.mp h5).elim (λ h5 => a3 h5 λ f1 f2 f3 => pairF S c1 c2 g1 g2 s1 s2 l1 (zfR l2) f1 f2 f3) λ h5 => a3 h5 λ f1 f2 f3 => j5 S.st (wO S c1) (wO S c2) g1 g2 s1 s2 l1 (zfR l2) (zfR f1) (zfR f2) (Nat.ne_of_beq_eq_false (zfR f3))) h2
 | setattr f i => exact λ h => iV.of (M := λ s => zT x n C s (.setattr f i)) h λ t e p h => zJ.of (M := λ t => zT x n C (.Assign [t] e p) (.setattr f i)) h λ o nm ap h => a4 h λ h1 h2 h3 h4 => zj.of (M := λ o => zT x n C (.Assign [.Attribute o nm ap] e p) (.setattr f i)) h2 λ z q h2 => (eq_of_beq h1).symm ▸ jB S.st (wO S h4) h2 h3
 | aug j p => exact λ h => zhY.of (M := λ s => zT x n C s (.aug j p)) h λ t op e q h => a3 h λ h1 h2 h3 => zj.of (M := λ t => zT x n C (.AugAssign t op e q) (.aug j p)) h1 λ z zp h1 => (of_decide_eq_true h2).symm ▸ zdZ S.st (sound S.st p h3).E h1
 | augattr f p => exact λ h => zhY.of (M := λ s => zT x n C s (.augattr f p)) h λ t op e q h => zJ.of (M := λ t => zT x n C (.AugAssign t op e q) (.augattr f p)) h λ o nm ap h => a4 h λ h1 h2 h3 h4 => zj.of (M := λ o => zT x n C (.AugAssign (.Attribute o nm ap) op e q) (.augattr f p)) h2 λ z zp h2 => (eq_of_beq h1).symm ▸ (of_decide_eq_true h3).symm ▸ jD S.st (sound S.st p h4).E h2
 | ifs t u v ihu ihv => exact λ h => sIf.of (M := λ s => zT x n C s (.ifs t u v)) h λ e sa sb q h => a3 h λ h1 h2 h3 => zgD (zfS S h1) (ihu h2) (ihv h3)
 | «while» t u ih => exact λ h => zjp.of (M := λ s => zT x n C s (.while t u)) h λ e sb q h => a2 h λ h1 h2 => zah S.st (zfS S h1) (ih h2)
 | ret i => exact λ h => zhX.of (M := λ s => zT x n C s (.ret i)) h λ o q h => oO.of (M := λ o => zT x n C (.Return o q) (.ret i)) h λ e h => zdX (wO S h)
 | retNone => exact λ h => zhX.of (M := λ s => zT x n C s .retNone) h λ o q h => (isNone.of h).symm ▸ jz
 | brk => exact λ h => zjs.of (M := λ s => zT x n C s .brk) h λ q => zdY
 | pass => exact λ h => zjr.of (M := λ s => zT x n C s .pass) h λ q => zbI
 | expr i => exact λ h => zdl.of (M := λ s => zT x n C s (.expr i)) h λ e q h => a2 h λ h1 h2 => zbJ S.st (wO S h2) h1
 | app j p => exact λ h => zdl.of (M := λ s => zT x n C s (.app j p)) h λ c q h => zu.of (M := λ c => zT x n C (.Expr c q) (.app j p)) h λ f es cp h => zJ.of (M := λ f => zT x n C (.Expr (.Call f es [] cp) q) (.app j p)) h λ o nm ap h => on1.of (M := λ es => zT x n C (.Expr (.Call (.Attribute o nm ap) es [] cp) q) (.app j p)) h λ e h => a4 h λ h1 h2 h3 h4 => a2 h1 λ h1 h1' => zj.of (M := λ o => zT x n C (.Expr (.Call (.Attribute o nm ap) [e] [] cp) q) (.app j p)) h2 λ z zp h2 => (eq_of_beq h1).symm ▸ zd0 S.st (sound S.st p h4).E h2 h3 h1'
 | rev j => exact λ h => zdl.of (M := λ s => zT x n C s (.rev j)) h λ c q h => zu.of (M := λ c => zT x n C (.Expr c q) (.rev j)) h λ f es cp h => zJ.of (M := λ f => zT x n C (.Expr (.Call f es [] cp) q) (.rev j)) h λ o nm ap h => a3 h λ h1 h2 h3 => a2 h2 λ h2 h2' => zj.of (M := λ o => zT x n C (.Expr (.Call (.Attribute o nm ap) es [] cp) q) (.rev j)) h3 λ z zp h3 => (isNil.of h1).symm ▸ (eq_of_beq h2).symm ▸ zd2 S.st h3 h2'
 | bufApp p =>
  intro s h
  obtain ⟨h0, h⟩ := Bool.and_eq_true_iff.mp h
  subst h0
  exact zdl.of (M := λ s => zT x true C s (.bufApp p)) h λ c q h => zu.of (M := λ c => zT x true C (.Expr c q) (.bufApp p)) h λ f es cp h => zJ.of (M := λ f => zT x true C (.Expr (.Call f es [] cp) q) (.bufApp p)) h λ o nm ap h => on1.of (M := λ es => zT x true C (.Expr (.Call (.Attribute o nm ap) es [] cp) q) (.bufApp p)) h λ e h => a4 h λ h1 h2 h3 h4 => a2 h1 λ h1 h1' => (eq_of_beq h1).symm ▸ fu S.st (S.gd rfl) h2 h4 h3 h1'
 | bufNew =>
  intro s h
  obtain ⟨h0, h⟩ := Bool.and_eq_true_iff.mp h
  subst h0
  exact iV.of (M := λ s => zT x true C s .bufNew) h λ t e p h => zJ.of (M := λ t => zT x true C (.Assign [t] e p) .bufNew) h λ o nm ap h => a3 h λ h1 h2 h3 => zj.of (M := λ o => zT x true C (.Assign [.Attribute o nm ap] e p) .bufNew) h2 λ z zp h2 => zu.of (M := λ e => zT x true C (.Assign [.Attribute (.Name z zp) nm ap] e p) .bufNew) h3 λ f es cp h3 => a2 h3 λ h3 h4 => zj.of (M := λ f => zT x true C (.Assign [.Attribute (.Name z zp) nm ap] (.Call f es [] cp) p) .bufNew) h4 λ z2 np h4 => (eq_of_beq h1).symm ▸ (isNil.of h3).symm ▸ fj S.st (S.gd rfl) h2 h4
 | bufKeep p => exact λ h => iV.of (M := λ s => zT x n C s (.bufKeep p)) h λ t e q h => zJ.of (M := λ t => zT x n C (.Assign [t] e q) (.bufKeep p)) h λ o nm ap h => a3 h λ h1 h2 h3 => zj.of (M := λ o => zT x n C (.Assign [.Attribute o nm ap] e q) (.bufKeep p)) h2 λ z zp h2 => oN.of (M := λ e => zT x n C (.Assign [.Attribute (.Name z zp) nm ap] e q) (.bufKeep p)) h3 λ b j ssp h3 => vO.of (M := λ j => zT x n C (.Assign [.Attribute (.Name z zp) nm ap] (.Subscript b j ssp) q) (.bufKeep p)) h3 λ lo hi sp h3 => a2 h3 λ h3 h4 => oO.of (M := λ hi => zT x n C (.Assign [.Attribute (.Name z zp) nm ap] (.Subscript b (.Slice lo hi none sp) ssp) q) (.bufKeep p)) h4 λ u h4 => a2 h4 λ h4 h5 => (eq_of_beq h1).symm ▸ (isNone.of h3).symm ▸ j7 S.st h4 h5 h2
 | forBytes j p u ih =>
  intro s h
  obtain ⟨h0, h⟩ := Bool.and_eq_true_iff.mp h
  have h0 := zfR h0
  subst h0
  exact zhZ.of (M := λ s => zT x false C s (.forBytes j p u)) h λ t e sb q h => a4 h λ h1 h2 h3 h4 => zj.of (M := λ t => zT x false C (.For t e sb [] q) (.forBytes j p u)) h1 λ z zp h1 => lB S.st (sound S.st p h3).E h1 h2 (ih h4)
 | forEnum i' j p u ih =>
  intro s h
  obtain ⟨h0, h⟩ := Bool.and_eq_true_iff.mp h
  have h0 := zfR h0
  subst h0
  exact zhZ.of (M := λ s => zT x false C s (.forEnum i' j p u)) h λ t c sb q h => two.of (M := λ t => zT x false C (.For t c sb [] q) (.forEnum i' j p u)) h λ z1 z2 m tp h => a2 h λ h1 h => zcu (M := λ z1 z2 => zT x false C (.For (.Tuple [z1, z2] m tp) c sb [] q) (.forEnum i' j p u)) h1 λ y1 p1 y2 p2 g1 g2 => zu.of (M := λ c => zT x false C (.For (.Tuple [.Name y1 p1, .Name y2 p2] m tp) c sb [] q) (.forEnum i' j p u)) h λ f es cp h => zj.of (M := λ f => zT x false C (.For (.Tuple [.Name y1 p1, .Name y2 p2] m tp) (.Call f es [] cp) sb [] q) (.forEnum i' j p u)) h λ z np h => on1.of (M := λ es => zT x false C (.For (.Tuple [.Name y1 p1, .Name y2 p2] m tp) (.Call (.Name z np) es [] cp) sb [] q) (.forEnum i' j p u)) h λ e h => a4 h λ h1 h2 h3 h4 => j9 S.st (sound S.st p h3).E g1 g2 h1 h2 (ih h4)
 | raise p => exact λ h => zjq.of (M := λ s => zT x n C s (.raise p)) h λ o q h => oO.of (M := λ o => zT x n C (.Raise o none q) (.raise p)) h λ c h => zu.of (M := λ c => zT x n C (.Raise (some c) none q) (.raise p)) h λ f es cp h => zj.of (M := λ f => zT x n C (.Raise (some (.Call f es [] cp)) none q) (.raise p)) h λ z np h => on1.of (M := λ es => zT x n C (.Raise (some (.Call (.Name z np) es [] cp)) none q) (.raise p)) h λ e h => a3 h λ h1 h2 h3 => zak S.st S.rz (sound S.st p h3).E h1 h2
 | nil =>
  rename_i ss h
  rw [isNil.of h]
  exact jA
 | cons m ms ih ihs =>
  rename_i ss h
  cases ss with
  | nil => exact no h
  | cons s ss => exact a2 h λ h1 h2 => nU (ih h1) (ihs h2)
theorem zg4 (S : StX x T fa C rk N n cl) : ∀ (ms : List MS) {ss : List Stmt}, pK T x.ns rk n cl ms ss = true -> oX x n C ss ms := λ ms => by
 induction ms with
 | nil => exact λ h => (isNil.of h).symm ▸ jA
 | cons m ms ih =>
  intro ss h
  cases ss with
  | nil => exact no h
  | cons s ss => exact a2 h λ h1 h2 => nU (ziP S m h1) (ih h2)
end
end
section
open PyProof.Rows PySem.Builtin PySem.Calls
noncomputable abbrev zj1 (fd : FuncData) (b : List Stmt) : FuncData := fnOf fd.name fd.qualname fd.params b fd.scope fd.defaults fd.kwdefaults fd.doc fd.pyModule fd.annotations fd.code fd.closureTuple
structure FnD (c : Cfg) (chk : NS -> List Stmt -> Bool) (nargs : Nat) (fd : FuncData) (b : List Stmt) (ps : List Str) : Prop where
 fn : fd = zj1 fd b
 code : codeIn c.K fd.code fd.qualname = true
 chk : chk fd.scope.names b = true
 co : fd.scope.isCoroutine = false
 ge : fd.scope.isGenerator = false
 ki : fd.scope.kind = .function
 cells : ∀ x ∈ fd.scope.names, x.2 ≠ .cell
 nodup : (fd.scope.names.map (·.1)).Nodup
 pd : ps.Nodup
 pl : ps.length = nargs
 pn : ∀ i x, yj ps i = some x -> yj fd.scope.names i = some (x, .local)
 pk : ∀ x ∈ ps, fd.scope.names.lookup x = some .local
 bind : ∀ (s : Shared) (ws : List Value), ws.length = nargs -> BindsTo s fd ⟨ws, []⟩ (ps.zip ws)
inductive pL (c : Cfg) (a : Addr) (chk : NS -> List Stmt -> Bool) (nargs : Nat) : Prop
 | mk (oc : Value) (od : Option Addr) (osl : Array (Option Value)) (fd : FuncData) (b : List Stmt) (ps : List Str) (look : c.K.lookup a = some ⟨oc, od, .func fd, osl⟩) (h : FnD c chk nargs fd b ps) : pL c a chk nargs
noncomputable def zeE (o : Option Obj) (F : FuncData -> Bool) : Bool := match o with
 | some o => match o.data with
  | .func fd => F fd
  | _ => false
 | none => false
theorem zeE.of {o : Option Obj} {F} (h : zeE o F = true) : ∃ oc od osl fd, o = some ⟨oc, od, .func fd, osl⟩ /\ F fd = true := by
 cases o with
 | none => exact no h
 | some o =>
  obtain ⟨oc, od, d, osl⟩ := o
  cases d with
  | func fd => exact ⟨oc, od, osl, fd, rfl, h⟩
  | _ => exact no h
noncomputable def zeF (o : FuncBody) (F : List Stmt -> Bool) : Bool := match o with
 | .stmts b => F b
 | _ => false
theorem zeF.of {o : FuncBody} {F} (h : zeF o F = true) : ∃ b, o = .stmts b /\ F b = true := by
 cases o with
 | stmts b => exact ⟨b, rfl, h⟩
 | _ => exact no h
noncomputable def ig : List Str -> NS -> Bool
 | [], _ => true
 | x :: r, ns => match ns with
  | [] => false
  | p :: q => (p.1 == x && decide (p.2 = .local)) && ig r q
theorem ig.of {ps : List Str} : ∀ {ns : NS}, ig ps ns = true -> ∀ i x, yj ps i = some x -> yj ns i = some (x, .local) := by
 induction ps with
 | nil => exact λ w w w e => (nomatch e)
 | cons y ps ih =>
  intro ns h i x e
  cases ns with
  | nil => exact no h
  | cons p q =>
   obtain ⟨h1, h2⟩ := Bool.and_eq_true_iff.mp h
   obtain ⟨h1, h3⟩ := Bool.and_eq_true_iff.mp h1
   cases i with
   | zero =>
    obtain ⟨z, k⟩ := p
    have e1 : y = x := sIJ e
    have e2 : z = y := eq_of_beq h1
    have e3 : k = .local := of_decide_eq_true h3
    rw [e2, e3, e1]; rfl
   | succ i => exact ih h2 i x e
noncomputable def zaz (K : Frag) (a : Addr) (ps : List Str) (chk : NS -> List Stmt -> Bool) : Bool := zeE (K.lookup a) λ fd => zeF fd.body λ b =>
 (codeIn K fd.code fd.qualname && (chk fd.scope.names b && (!fd.scope.isCoroutine && (!fd.scope.isGenerator && decide (fd.scope.kind = .function))))) && (((fd.scope.names.all λ x => !decide (x.2 = .cell)) && (decide ((fd.scope.names.map (·.1)).Nodup) && (decide ps.Nodup && (ig ps fd.scope.names && ps.all λ x => decide (fd.scope.names.lookup x = some .local))))) && (Nat.beq fd.globals mainGlobals && (Nat.beq fd.builtins builtinsNs && isNil fd.closure)))
noncomputable def zcv (K : Frag) (a : Addr) : FuncData := match K.lookup a with
 | some o => match o.data with
  | .func fd => fd
  | _ => default
 | none => default
theorem zcw {c : Cfg} {a : Addr} {ps : List Str} {chk : NS -> List Stmt -> Bool} {nargs : Nat} (h : zaz c.K a ps chk = true) (hl : ps.length = nargs) (hb : ∀ (s : Shared) (ws : List Value), ws.length = nargs -> BindsTo s (zcv c.K a) ⟨ws, []⟩ (ps.zip ws)) : pL c a chk nargs := by
 obtain ⟨oc, od, osl, fd, e, h⟩ := zeE.of h
 unfold zcv at hb
 rw [e] at hb
 obtain ⟨b, eb, h⟩ := zeF.of h
 refine a3 h λ h1 h2 h3 => a5 h1 λ c1 c2 c3 c4 c5 => a5 h2 λ d1 d2 d3 d4 d5 => a3 h3 λ g1 g2 g3 => ⟨oc, od, osl, fd, b, ps, e, ⟨?_, c1, c2, (Bool.not_eq_true' _).mp c3, (Bool.not_eq_true' _).mp c4, of_decide_eq_true c5, λ x hx => of_decide_eq_false ((Bool.not_eq_true' _).mp (List.all_eq_true.mp d1 x hx)), of_decide_eq_true d2, of_decide_eq_true d3, hl, ig.of d4, λ x hx => of_decide_eq_true (List.all_eq_true.mp d5 x hx), hb⟩⟩
 have k1 := Nat.eq_of_beq_eq_true g1
 have k2 := Nat.eq_of_beq_eq_true g2
 have k3 := isNil.of g3
 clear h h1 h2 h3 c1 c2 c3 c4 c5 d1 d2 d4 d5 g1 g2 g3 hb e
 obtain ⟨n1, n2, n3, n4, n5, n6, n7, n8, n9, m1, m2, m3, m4, m5, m6⟩ := fd
 dsimp only at k1 k2 k3 eb
 rw [k1, k2, k3, eb]
theorem lZ {ps : List Str} : ∀ {ws : List Value} {i : Nat} {x : Str} {w : Value}, ps.Nodup -> yj ps i = some x -> yj ws i = some w -> (ps.zip ws).reverse.lookup x = some w := by
 induction ps with
 | nil => exact λ z e => (nomatch e)
 | cons p ps ih =>
  intro ws i x w nd e1 e2
  have nd := List.nodup_cons.mp nd
  cases ws with
  | nil => exact nomatch e2
  | cons v ws =>
   rw [List.zip_cons_cons, List.reverse_cons, List.lookup_append]
   cases i with
   | zero =>
    have e1 : p = x := sIJ e1
    have e2 : v = w := sIJ e2
    subst e1 e2
    have : (ps.zip ws).reverse.lookup p = none := List.lookup_eq_none_iff.mpr λ q hq => by
     have hm := (List.of_mem_zip (List.mem_reverse.mp hq : (q.1, q.2) ∈ ps.zip ws)).1
     exact bne_iff_ne.mpr λ e => nd.1 (e ▸ hm)
    rw [this, List.lookup_cons, beq_self_eq_true]
    rfl
   | succ i => rw [ih nd.2 e1 e2]; rfl
theorem bH {nloc : Nat} {vs : List AV} {i : Nat} {v : AV} (h : zQ (yR vs nloc) i = some v) : yj vs i = some v := by
 have none_at : ∀ (m i : Nat), zQ (List.replicate m none) i ≠ some v := λ m => by
  induction m with
  | zero => exact λ z e => nomatch e
  | succ m ih => exact λ i e => by cases i with
   | zero => exact nomatch e
   | succ i => exact ih i e
 unfold yR at h
 generalize nloc - vs.length = m at h
 induction vs generalizing i with
 | nil => exact (none_at m i h).elim
 | cons u vs ih => cases i with
  | zero => exact h
  | succ i => exact ih h
section
variable {c : Cfg} {T : Names} {fa : Nat -> Addr} {rk N M : Nat} {n : Bool} {cl : Nat -> Bool} {C : Tab} {y : Lc} {b : Wd}
theorem Here.down {f : Frm} {A : Around} (H : Here c f A (M + 1)) {g0 : Heap} {q : Str} {sc : Scope} {L a : Addr} {cd : Value} (B : Below A f.base (f.env :: f.outer) g0) (K : c.K.In g0) (Tp : Top c.p c.loose c.mean c.mg c.mb g0) (hk : sc.kind = .function) :
  Here c ⟨A, f.base, g0, f.env :: f.outer, q, sc, L, a, cd⟩ (A.deeper (envOf q sc L a cd)) M := by
 refine ⟨B, K, Tp, hk, congrArg (Option.map (envOf q sc L a cd :: ·)) H.stack, H.hh, ?_, ?_⟩
 ·have := H.depth
  exact Nat.lt_of_le_of_lt (zeD (by decide)) this
 ·have := H.units
  exact Nat.lt_of_le_of_lt (zeD (by decide)) this
structure Base (c : Cfg) (T : Names) (fa : Nat -> Addr) (C : Tab) (rk N : Nat) (n : Bool) (cl : Nat -> Bool) (M : Nat) : Prop where
 fx : Fx c T fa
 rz : wD c
 new : rE c fa
 le : rk <= M
 pure : ∀ k, k < rk -> rH c fa k
 calls : ∀ k, (cl k || n) = true -> N + 1 <= M /\ zeC c fa C N n k
theorem pN {f : Frm} {A : Around} {a : Addr} {nloc nargs : Nat} {chk : NS -> List Stmt -> Bool} {vs : List AV} {ws : List Value} {Q : QE} {X : XE} {Qc Ec : Value -> Shared -> Prop} (Z : Base c T fa C rk N n cl M) (K : pL c a chk nargs) (H : Here c f A (M + 1)) (gd : n = true -> A.guards = some [])
  (hB : ∀ (f' : Frm) (bd : List Stmt) (m : Str -> Option Value) (a2 : Wd) (Kc : Flow -> Shared -> Prop) (Ec : Value -> Shared -> Prop), StX ⟨c, f'⟩ T fa C rk N n cl -> chk f'.scope.names bd = true -> Rl ⟨c, f'⟩ ⟨yR vs nloc, y.g, m⟩ a2 -> zaf ⟨c, f'⟩ a2 (yt Q X) Kc Ec -> wpX n (model c.prog c.w) f'.A (execs bd f'.env) Kc Ec a2.s) (hl : vs.length = nargs) (R : Rl ⟨c, f⟩ y b) (hv : yx (VR c b.P) vs ws) (k : GoX ⟨c, f⟩ y b Q Qc) (xx : qM ⟨c, f⟩ y.m b X Ec) : yS n (model c.prog c.w) A (.call (.ref a) ⟨ws, []⟩) (zbh Qc Ec) b.s := by
 obtain ⟨oc, od, osl, fd, bd, ps, look, D⟩ := K
 have hws : ws.length = nargs := hv.len.trans hl
 have hbind := D.bind b.s ws hws
 rw [D.fn] at look hbind
 refine zbF H.below R.F H.kin R.N H.top H.stack rfl H.kind look D.code (Nat.lt_of_le_of_lt (Nat.le_add_right _ (3 * (M + 1) + 10)) (Nat.add_assoc _ _ _ ▸ H.depth)) hbind (λ z hz => D.pk _ (List.of_mem_zip (show (z.1, z.2) ∈ ps.zip ws from hz)).1) (λ g0 L' h1 F0 F1 N1 B1 K1 T1 => ?_) D.co D.ge D.ki D.cells
 have H1 := H.down (q := fd.qualname) (sc := fd.scope) (L := L') (a := a) (cd := fd.code) B1 K1 T1 D.ki
 have S : StX ⟨c, ⟨A, f.base, g0, f.env :: f.outer, fd.qualname, fd.scope, L', a, fd.code⟩⟩ T fa C rk N n cl := ⟨⟨H1.less Z.le, D.nodup, Z.fx, Z.pure⟩, gd, λ k h => H1.less (Z.calls k h).1, λ k h => (Z.calls k h).2, Z.rz, Z.new⟩
 have R1 : Rl ⟨c, ⟨A, f.base, g0, f.env :: f.outer, fd.qualname, fd.scope, L', a, fd.code⟩⟩ ⟨yR vs nloc, y.g, λ z => (ps.zip ws).reverse.lookup z⟩ ⟨b.P, b.to h1 (b.s.toks + (ps.zip ws).length)⟩ := ⟨F1, N1, R.led, R.st, λ i v z e hz => by
  obtain ⟨w, hw, r⟩ := hv.get (bH e)
  have hi : i < ps.length := Nat.lt_of_lt_of_le (zbl (bH e)) (Nat.le_of_eq (hl.trans D.pl.symm))
  obtain ⟨z', hz'⟩ := mY hi
  have e2 := (D.pn i z' hz').symm.trans hz
  have e3 : z' = z := congrArg Prod.fst (sIJ e2)
  exact ⟨w, lZ D.pd (e3 ▸ hz') hw, r⟩⟩
 have back : ∀ (y2 : Lc) (d : Wd), Rl ⟨c, ⟨A, f.base, g0, f.env :: f.outer, fd.qualname, fd.scope, L', a, fd.code⟩⟩ y2 d -> Up ⟨b.P, b.to h1 (b.s.toks + (ps.zip ws).length)⟩ d -> ∀ v w, Q v y2.g -> VR c d.P v w -> LeaveK f.h₀ f.L y.m g0 (zbh Qc Ec) w d.s := λ y2 d R2 U v w q r => leaveK_ R2.F R2.N λ F3 N3 => k v w y2.g d q ⟨⟨F3, N3, R2.led, R2.st, λ i u z e n => (R.loc i u z e n).mono U.ext.V⟩, ⟨U.ext, U.st⟩, r⟩
 refine hB _ _ _ _ _ _ S D.chk R1 ⟨λ y2 d q R2 U => back y2 d R2 U .none .none q rfl, λ y2 d q => q.elim, λ y2 d v w q R2 U r => back y2 d R2 U v w q r, λ m h' t e msg q hr => ?_⟩
 refine zgB (f := ⟨A, f.base, g0, f.env :: f.outer, fd.qualname, fd.scope, L', a, fd.code⟩) (s := b.to h' t) H1.stack hr λ h'' hx hU => ?_
 obtain ⟨gg, FF, UU⟩ := hU
 exact xx h'' t e msg q ⟨.inr (.inl hx), gg, F0.keeps FF.keep, UU⟩
theorem sV {f : Frm} {A : Around} {a : Addr} {nloc nargs : Nat} {body : List MS} {vs : List AV} {ws : List Value} {Q : QE} {X : XE} {Qc Ec : Value -> Shared -> Prop} (Z : Base c T fa C rk N n cl M) (K : pL c a (λ ns b => pK T ns rk n cl body b) nargs) (H : Here c f A (M + 1)) (gd : n = true -> A.guards = some [])
  (hp : exL C body (yR vs nloc) y.g (yt Q X)) (hl : vs.length = nargs) (R : Rl ⟨c, f⟩ y b) (hv : yx (VR c b.P) vs ws) (k : GoX ⟨c, f⟩ y b Q Qc) (xx : qM ⟨c, f⟩ y.m b X Ec) : yS n (model c.prog c.w) A (.call (.ref a) ⟨ws, []⟩) (zbh Qc Ec) b.s :=
 pN Z K H gd (λ f' bd m a2 Kc Ec S hc R2 k => (zg4 S body hc).go (y := ⟨yR vs nloc, y.g, m⟩) hp R2 k) hl R hv k xx
end
noncomputable def Chn (T : Prop -> Prop) : Prop := ∀ P, T P -> T True /\ P
theorem zcx {A : Prop} : Chn (λ P => A /\ P) := λ P h => ⟨⟨h.1, trivial⟩, h.2⟩
theorem zfT : Chn (λ P => P) := λ P h => ⟨trivial, h⟩
theorem sX {b : Bool} {T : Prop -> Prop} (h : Chn T) : Chn (λ P => dec b (T P)) := λ P q => ⟨qX (zq q).1 (h P (zq q).2).1, (h P (zq q).2).2⟩
theorem zg5 {m : AV} {T : Prop -> Prop} (h : Chn T) : Chn (λ P => za2 m (T P)) := λ P q => by
 cases m with
 | inst c vs => cases vs with
  | nil => exact q.elim
  | cons v r => cases v with
   | int w => exact sX (b := Nat.beq c 1 && decide (w = 64)) h P q
   | _ => exact q.elim
 | _ => exact q.elim
section
variable {c : Cfg} {T : Names} {fa : Nat -> Addr} {cl : Nat -> Bool}
theorem zcy {n : Bool} {M : Model} {A : Around} {k : Code} {R : Result -> Shared -> Prop} {s : Shared} (h : yS false M A k R s) : yS n M A k R s := λ Γ p hc hΓ hn => h Γ p hc hΓ λ e => nomatch e
inductive PE (c : Cfg) (T : Names) (fa : Nat -> Addr) (k : Nat) : Prop
 | no (h : ∀ vs g P, PC k vs g P -> False) : PE c T fa k
 | code (nloc nargs : Nat) (body : List MS) (ht : zki k = some ⟨nloc, nargs, body⟩) (K : pL c (fa k) (λ ns b => pK T ns k false (λ z => false) body b) nargs) (pu : Pu k) (ch : ∀ vs g, Chn (PC k vs g)) : PE c T fa k
 | prim (h : rH c fa k) : PE c T fa k
theorem StR.sub {P : Pl} {g g' : GS} (S : StR c P g') (s : Sub g g') : StR c P g := ⟨λ fs e => s.buf ▸ S.lex fs (s.lx.trans e), λ a vs e => S.hp a vs (s.hp a vs e), λ e => S.nl (s.lx.trans e)⟩
theorem iu (fx : Fx c T fa) (rz : wD c) (nw : rE c fa) (W : ∀ k, PE c T fa k) (k : Nat) : rH c fa k := by
 induction k using Nat.strongRecOn with
 | ind k ih =>
  intro f A y b ws vs Q Qc Ec H hp R hv kq
  rcases W k with h | ⟨nloc, nargs, body, ht, K, pu, ch⟩ | h
  ·exact (h _ _ _ hp).elim
  ·obtain ⟨h1, h2⟩ := ch _ _ _ hp
   have hr := pu (λ z z z z z => False) vs y.g h1
   rw [ht] at hr
   obtain ⟨hb, hr⟩ := zq hr
   exact zbD (sV (C := λ z z z z z => False) (N := 0) (n := false) (cl := λ z => false) ⟨fx, rz, nw, Nat.le_refl k, λ j hj => ih j hj, λ j hj => nomatch hj⟩ K H (λ e => nomatch e) hr (Nat.eq_of_beq_eq_true hb) R hv (λ v w g d q D => kq h2 w d ⟨⟨D.R.F, D.R.N, D.R.led, D.R.st.sub q.2, D.R.loc⟩, D.u, q.1 ▸ D.v⟩) λ h t e msg q => q.elim)
  ·exact h H hp R hv kq
inductive QEn (c : Cfg) (T : Names) (fa : Nat -> Addr) (cl : Nat -> Bool) (k : Nat) : Prop
 | no (h : zgJ k = none) : QEn c T fa cl k
 | code (nloc nargs : Nat) (body : List MS) (ht : zgJ k = some ⟨nloc, nargs, body⟩) (K : pL c (fa k) (λ ns b => pK T ns 64 (!(cl k)) cl body b) nargs) : QEn c T fa cl k
theorem zcz (fx : Fx c T fa) (rz : wD c) (nw : rE c fa) (W : ∀ k, PE c T fa k) (V : ∀ k, QEn c T fa cl k) : ∀ m n k, (cl k || n) = true -> zeC c fa (CL m) (65 + 2 * m) n k := λ m => by
 induction m with
 | zero => exact λ n k h => ⟨λ z z hp => hp.elim⟩
 | succ m ih =>
  intro n k h
  refine ⟨λ {f A y b ws vs Q X Qc Ec} H gd hp R hv kq xx => ?_⟩
  rcases V k with e | ⟨nloc, nargs, body, e, K⟩
  ·have hp : zh7 (CL m) (zgJ k) vs y.g Q X := hp
   rw [e] at hp
   exact hp.elim
  ·have hp : zh7 (CL m) (zgJ k) vs y.g Q X := hp
   rw [e] at hp
   obtain ⟨hb, hp⟩ := zq hp
   have Z : ∀ n', Base c T fa (CL m) 64 (65 + 2 * m) n' cl (65 + 2 * m + 1) := λ n' => ⟨fx, rz, nw, Nat.le_succ_of_le (nLT (by decide) (Nat.le_add_right 65 _)), λ j z => iu fx rz nw W j, λ j hj => ⟨Nat.le_refl _, ih n' j hj⟩⟩
   cases hc : cl k with
   | true =>
    rw [hc] at K
    exact zcy (sV (Z false) K H (λ e => nomatch e) hp (Nat.eq_of_beq_eq_true hb) R hv kq xx)
   | false =>
    rw [hc] at h K
    have h : n = true := h
    subst h
    exact sV (Z true) K H gd hp (Nat.eq_of_beq_eq_true hb) R hv kq xx
end
inductive zfU (c : Cfg) (fI : Addr) : Prop
 | mk (name qual : Str) (params : Arguments) (p1 p2 p3 p4 p5 p6 p7 p8 : Pos) (scope : Scope) (dV kV doc pm : Value) (an : Option Addr) (cdv ct oc : Value) (od : Option Addr) (osl : Array (Option Value)) : (c.K.lookup fI = some ⟨oc, od, .func (fnOf name qual params [.Assign [.Attribute (.Name "self" p1) (zf 12) p2] (.Name "kind" p3) p4, .Assign [.Attribute (.Name "self" p5) (zf 13) p6] (.Name "value" p7) p8] scope dV kV doc pm an cdv ct), osl⟩) -> (codeIn c.K cdv qual = true) -> (scope.isCoroutine = false) -> (scope.isGenerator = false) -> (scope.kind = .function) -> ((∀ x ∈ scope.names, x.2 ≠ .cell)) -> (scope.names.lookup ("self" : Str) = some NameKind.local) -> (scope.names.lookup ("kind" : Str) = some NameKind.local) -> (scope.names.lookup ("value" : Str) = some NameKind.local) -> (∀ (s : Shared) (a b d : Value), BindsTo s (fnOf name qual params [.Assign [.Attribute (.Name "self" p1) (zf 12) p2] (.Name "kind" p3) p4, .Assign [.Attribute (.Name "self" p5) (zf 13) p6] (.Name "value" p7) p8] scope dV kV doc pm an cdv ct) ⟨[a, b, d], []⟩ [("self", a), ("kind", b), ("value", d)]) -> zfU c fI
structure bI (c : Cfg) (fI : Addr) : Prop where
 makes : makesIn c.K c.tokC = true
 init : findIn c.K (.ref c.tokC) "__init__" = some (some (.ref fI))
 fn : isFn c.K (.ref fI) = true
 setA : findIn c.K (.ref c.tokC) "__setattr__" = some (some (.builtin "object.__setattr__")) /\ plainOver c.K c.tokC = true /\ takerIn c.K c.tokC (zf 12) = some none /\ takerIn c.K c.tokC (zf 13) = some none /\ hasDictIn c.K c.tokC = true
 ex : zfU c fI
theorem put2 {h1 h2 : Int} {t1 t2 : Tok} {v1 v2 : Value} {n : Nat} : (putL (zf 13) h2 (.str (zf 13) t2) v2 [⟨h1, .str (zf 12) t1, v1⟩], putN (zf 13) [⟨h1, .str (zf 12) t1, v1⟩] n) = ([⟨h1, .str (zf 12) t1, v1⟩, ⟨h2, .str (zf 13) t2, v2⟩], n + 1) := by
 have e : (DictEntry.mk h1 (.str (zf 12) t1) v1).key.isStr (zf 13) = false := vY ⟨t1, rfl⟩ λ q => nomatch (wG (by decide) (by decide) q : (12 : Nat) = 13)
 unfold putL putN
 rw [List.any_cons, e]
 rfl
theorem zj2 {h : Int} {t : Tok} {v : Value} : (getL (zf 13) [⟨h, .str (zf 12) t, v⟩]).isSome = true := by
 rw [gw (vY ⟨t, rfl⟩ λ q => nomatch (wG (by decide) (by decide) q : (12 : Nat) = 13)) rfl]
 rfl
theorem zj3 {c : Cfg} {fI : Addr} (Z : bI c fI) : zib c := by
 intro f A y b wk wv k v Qc Ec H R hk hv kq
 obtain ⟨name, qual, params, p1, p2, p3, p4, p5, p6, p7, p8, scope, dV, kV, doc, pm, an, cdv, ct, oc, od, osl, h1, h2, h3, h4, h5, h6, l1, l2, l3, hb⟩ := Z.ex
 refine make_K R.F R.N (H.kin.keeps R.F.keep) Z.makes Z.init (beq_iff_eq.mp Z.fn) λ x dx h' F1 N1 lt1 lt2 => ?_
 have hdx : ∀ p ∈ b.P.news, p.1 ≠ dx := λ p hp => Nat.ne_of_lt (lt1 p hp)
 refine code_def (A := A.under (.builtin "type.__call__" ⟨.ref c.tokC :: [wk, wv], []⟩)) (s := b.to h' b.s.toks) H.below F1 H.kin N1 H.top H.stack rfl H.kind h1 h2 (Nat.lt_of_le_of_lt (Nat.le_add_right _ 9) H.depth) (hb _ _ _ _) (λ y hy => ?_) (λ g0 L' hp1 F0 F2 N2 B1 K1 T1 => ?_) h3 h4 h5 h6
 ·rcases mCM hy with rfl | hy
  ·exact l1
  rcases mCM hy with rfl | hy
  ·exact l2
  rcases mCM hy with rfl | hy
  ·exact l3
  exact nomatch hy
 ·refine wpAny_execs_cons (plainObj_wpAny_Assign_Attribute (ld F2 (v := wk) rfl ?_ h5 l2) (z6 rfl _ _))
  refine ld F2 (v := .ref x) rfl ?_ h5 l1
  refine set_dict F2 K1 N2 (InstAt.of_news N2 (.head _) (.tail _ (.head _))) rfl Z.setA.1 Z.setA.2.1 Z.setA.2.2.1 Z.setA.2.2.2.2 rfl rfl (Upd.tail (Nat.ne_of_gt lt2) (Upd.head hdx)) (by show 1 <= 1000; decide) λ h2' F3 N3 => ?_
  refine wpAny_execs_cons (plainObj_wpAny_Assign_Attribute (ld F3 (v := wv) rfl ?_ h5 l3) (z6 rfl _ _))
  refine ld F3 (v := .ref x) rfl ?_ h5 l1
  refine set_dict F3 K1 N3 (InstAt.of_news N3 (.head _) (.tail _ (.head _))) rfl Z.setA.1 Z.setA.2.1 Z.setA.2.2.2.1 Z.setA.2.2.2.2 zj2 put2 (Upd.tail (Nat.ne_of_gt lt2) (Upd.head hdx)) (by show 2 <= 1000; decide) λ h3' F4 N4 => ?_
  refine wpAny_execs_nil ?_
  refine leaveK_ F4 N4 λ F5 N5 => ⟨rfl, ?_⟩
  have N1 : News f.h₀ f.L h3' ((dx, _) :: b.P.news) := λ p hp => N5 p (.tail _ hp)
  have hfd : dx ∉ b.P.keys := λ q => by
   obtain ⟨p, hp, e⟩ := List.mem_map.mp q
   exact hdx p hp e
  have hfx : ∀ o : Obj, x ∉ (b.P.push dx o).keys := λ o q => by
   rcases mCM q with e | q
   ·exact Nat.ne_of_gt lt2 e
   ·obtain ⟨p, hp, e⟩ := List.mem_map.mp q
    exact Nat.ne_of_lt (Nat.lt_trans (lt1 p hp) lt2) e
  have E : ∀ o o' : Obj, Ext b.P ((b.P.push dx o).push x o') := λ o o' => (vL.push (P := b.P) (a := dx)).ext.trans (vL.push (a := x)).ext
  exact kq trivial (.ref x) ⟨(b.P.push dx _).push x _, b.to h3' _⟩ ⟨(Rl.push (x := ⟨c, f⟩) (y := y) (Rl.push (x := ⟨c, f⟩) (y := y) (t := b.s.toks) R hfd F5 N1) (hfx _) F5 N5), ⟨E _ _, rfl⟩, [wk, wv], ⟨VR.mono (E _ _) k hk, VR.mono (E _ _) v hv, rfl⟩, .mk x dx _ _ ⟨.head _, λ q => hfx (dictOf [] 0) (.tail _ (R.led.mem _ q))⟩ ⟨.tail _ (.head _), λ q => hfd (R.led.mem _ q)⟩ ⟨⟨⟨_, rfl⟩, rfl⟩, ⟨⟨_, rfl⟩, rfl⟩, trivial⟩⟩
noncomputable def bodyOf (f : FuncBody) : List Stmt := match f with
 | .stmts b => b
 | _ => []
noncomputable def fY (ok : NS -> List Stmt -> Prop) (ns : NS) (b : List Stmt) : Bool := @decide (ok ns b) (Classical.propDecidable _)
theorem fY.of {ok : NS -> List Stmt -> Prop} {ns : NS} {b : List Stmt} (h : fY ok ns b = true) : ok ns b := @of_decide_eq_true _ (Classical.propDecidable _) h
theorem zcA {c : Cfg} {a : Addr} {nargs : Nat} {ok : NS -> List Stmt -> Prop} (K : pL c a (λ z z => true) nargs) (h : ok (zcv c.K a).scope.names (bodyOf (zcv c.K a).body)) : pL c a (fY ok) nargs := by
 obtain ⟨oc, od, osl, fd, b, ps, look, D⟩ := K
 unfold zcv at h
 rw [look] at h
 have h : ok fd.scope.names (bodyOf fd.body) := h
 have e : bodyOf fd.body = b := congrArg (λ d : FuncData => bodyOf d.body) D.fn
 rw [e] at h
 exact ⟨oc, od, osl, fd, b, ps, look, { D with chk := @decide_eq_true _ (Classical.propDecidable _) h }⟩
section
variable {c : Cfg} {T : Names} {fa : Nat -> Addr} {M : Model} {A : Around} {E : Value -> Shared -> Prop} {s : Shared} {env : Env}
theorem iw {k nargs : Nat} {ok : NS -> List Stmt -> Prop} (fx : Fx c T fa) (rz : wD c) (nw : rE c fa) (K : pL c (fa k) (fY ok) nargs) (hn : ∀ vs g P, PC k vs g P -> vs.length = nargs)
  (hB : ∀ (f' : Frm) (bd : List Stmt) (vs : List AV) (g : GS) (m : Str -> Option Value) (a2 : Wd) (P : Prop) (Kc : Flow -> Shared -> Prop) (Ec : Value -> Shared -> Prop), St ⟨c, f'⟩ T fa 0 -> ok f'.scope.names bd -> Rl ⟨c, f'⟩ ⟨yR vs nargs, g, m⟩ a2 -> PC k vs g P ->
   (P -> ∀ l' m' w b, Rl ⟨c, f'⟩ ⟨l', g, m'⟩ b -> Up a2 b -> VR c b.P (PF k vs g) w -> Kc (.ret w) b.s) -> wpAny (model c.prog c.w) f'.A (execs bd f'.env) Kc Ec a2.s) : rH c fa k := by
 intro f A y b ws vs Q Qc Ec H hp R hv kq
 refine zbD (pN (C := λ z z z z z => False) (N := 0) (n := false) (cl := λ z => false) (rk := 0) (nloc := nargs) (X := λ z => False) (Q := λ v g => (v = PF k vs y.g /\ g = y.g) /\ Q) ⟨fx, rz, nw, Nat.zero_le _, λ j hj => (nomatch hj), λ j hj => (nomatch hj)⟩ K H (λ e => nomatch e) (λ f' bd m a2 Kc Ec S hc R2 K => ?_) (hn _ _ _ hp) R hv (λ v w g d q D => ?_) λ h t e msg q => q.elim)
 ·exact zH (hB f' bd vs y.g m a2 Q Kc Ec S.st (fY.of hc) R2 hp λ q l' m' w b R3 U r => K.rt ⟨l', y.g, m'⟩ b _ w ⟨⟨rfl, rfl⟩, q⟩ R3 U r)
 ·obtain ⟨⟨rfl, rfl⟩, q⟩ := q
  exact kq q w d D
theorem zcB {P : Heap -> Prop} {f : Value} {first : List Value} {e : Expr} {pos : Pos} {Q : Value -> Shared -> Prop} (hst : ∀ rest, starEach (e :: rest) env = (false, eval e env) :: starEach rest env)
  (hk : ∀ h, P h -> ∃ k, (k = Keeper.frame \/ k = Keeper.machine \/ k = Keeper.boundFrame) /\ Looks M h (keeperOf f) k)
  (h : wpAny M A (eval e env) (λ w s₁ => P s₁.heap /\ wpAny M A (call f (first ++ [w])) Q E s₁) E s) : wpAny M A (callWith pos f first (backTo pos (starEach [e] env)) []) Q E s := by
 refine callWith_of (by rw [hst]; rfl) hk ?_
 have h2 : wpAny M A (spliced (backTo pos (starEach [e] env))) (λ vs s₁ => P s₁.heap /\ wpAny M A (call f (first ++ vs)) Q E s₁) E s := args_cons (rest := []) (wpAny_mono h (λ y y q => args_nil q) λ y y z => z) (hst _)
 rw [hst] at h2 ⊢
 exact Calls.evalArgs_plain h2
end
section
variable {prog : Program} {w : World} {A : Around} {E : Value -> Shared -> Prop} {s : Shared}
theorem kh : entryFor table "proto.unchain" = some Builtin.«proto.unchain» := by first | exact entryFor_of_fast (by kernel_rfl) | exact entryFor_of_tree (by kernel_rfl)
noncomputable def nA (h : Heap) (e : Addr) : Prop := ∃ oe vs, h.get? e = some oe /\ oe.data = .fields vs /\ vs[2]? = some .none
theorem nA.keeps {h h' : Heap} {e : Addr} (x : nA h e) (k : h.get? e = h'.get? e) : nA h' e := by
 obtain ⟨oe, vs, h1, h2⟩ := x
 exact ⟨oe, vs, k ▸ h1, h2⟩
theorem zeG {α : Type} {a e : Addr} {oa : Obj} {ws : Array Value} {Q : α -> Shared -> Prop} (hh : A.handled = some (.ref e)) (hne : e ≠ a) (hc : nA s.heap e) (ha : s.heap.get? a = some oa) (hda : oa.data = .fields ws) (hsz : 2 < ws.size)
  (h : E (.ref a) { s with heap := s.heap.update a (Obj.mapFields (·.setIfInBounds 2 (.ref e))) }) : wpAny (model prog w) A (raiseNew (.ref a) : Sem α) Q E s := by
 obtain ⟨oe, vs, h1, h2, h3⟩ := hc
 unfold raiseNew
 refine wBD (wpAny_handled ?_)
 rw [hh]
 dsimp only
 rw [if_pos (show (Value.ref e != Value.ref a) = true by simp [hne])]
 refine wBD (wpAny_holding (runValue_entry kh ?_))
 unfold Builtin.«proto.unchain»
 show wpAny _ _ (field (.ref e) 2 >>= _) _ _ s
 refine wBD (wpAny_field h1 h2 h3 ?_)
 show wpAny _ _ (if (Value.none == Value.none) = true then _ else _) _ _ s
 rw [if_pos (by decide)]
 refine wBD (wpAny_pure (wpAny_pure ⟨_, rfl, ?_⟩))
 refine wBD ?_
 unfold updateField
 refine wBD (wpAny_load ha ?_)
 rw [hda]
 dsimp only
 rw [if_pos hsz]
 exact wpAny_update ha (wpAny_throw h)
theorem fZ {e it l : Addr} {i : Nat} {items : Array Value} {Q : Option Value -> Shared -> Prop} (hh : A.handled = some (.ref e)) (hc : nA s.heap e) (hei : e ≠ it) (hit : s.heap.IsListIter it l i) (hl : s.heap.IsList l items) (hx : items[i]? = none)
  (hQ : ∀ h', Heap.ExtBut it s.heap h' -> Q none { s with heap := h' }) : wpAny (model prog w) A (pyNext (.ref it)) Q E s := by
 obtain ⟨o, ho, hoc, hd⟩ := id hit
 obtain ⟨ol, hol, _, nl, hdl⟩ := hl
 unfold pyNext
 refine wBD (wpAny_attempt (wpAny_callSpecial?_slot (name := Str.ofString "__next__") hit.typeIs slot_listiter_next
  (wpAny_call_entry slot_listiter_next hit.typeIs entry_listiter_next ?_ (args_listiter_next _))))
 show wpAny _ _ (field (.ref it) 0 >>= _) _ _ s
 refine wBD (wpAny_field ho hd (x := .ref l) rfl ?_)
 show wpAny _ _ (if (Value.ref l == Value.none) = true then _ else _) _ _ s
 rw [if_neg (show ¬ ((Value.ref l == Value.none) = true) from Bool.false_ne_true)]
 show wpAny _ _ (field (.ref it) 1 >>= _) _ _ s
 refine wBD (wpAny_field ho hd (x := .int i 0) rfl ?_)
 show wpAny _ _ (seqItems? (.ref l) >>= _) _ _ s
 refine wBD (wpAny_seqItems hol hdl ?_)
 simp only [Int.toNat_natCast, hx]
 refine wBD (wpAny_rule (wBD (wpAny_setField ho hd (by simp) ?_)))
 show wpAny _ _ (newExc (.type "StopIteration") [] >>= _) _ _ _
 refine wBD ?_
 simp only [newExc, newTuple]
 refine wBD (wpAny_newObj_type ?_ (by size_fits))
 refine wBD (m := firstArgMember _ _) (wpAny_of_eq (a := Value.none) (by first | rfl | (simp only [firstArgMember]; rfl)) ?_)
 refine wpAny_newObj_type ?_ (by size_fits)
 have lt0 : e < s.heap.objs.size := by obtain ⟨_, _, h1, _⟩ := hc; exact Heap.lt_size h1
 have hup : ∀ (x : Addr) (f : Obj -> Obj), (s.heap.update x f).objs.size = s.heap.objs.size := λ x f => Heap.size_after_update ..
 refine zeG (e := e) hh ?_ ?_ (Heap.get?_push_size _ rfl) rfl (by rw [Array.size_append]; exact Nat.lt_of_lt_of_le (by decide : 2 < 6) (Nat.le_add_right _ _)) ?_
 ·rw [Heap.size_push, hup]; exact Nat.ne_of_lt (Nat.lt_succ_of_lt lt0)
 ·obtain ⟨oe, vs, h1, h2, h3⟩ := hc
  exact ⟨oe, vs, Heap.get?_push_of_some _ (Heap.get?_push_of_some _ ((Heap.get?_update_other _ _ (Ne.symm hei)).trans h1)), h2, h3⟩
 ·refine wBD (wpAny_isInstance (T := "StopIteration") (b := true) ⟨_, Heap.get?_update_self _ (Heap.get?_push_size _ rfl) (Obj.isFreed_of_fields (Obj.data_mapFields rfl _)), Obj.cls_mapFields ..⟩ isSubtype_stop ?_)
  refine wpAny_pure (hQ _ λ b x hb hx => ?_)
  have lb := Heap.lt_size hx
  rw [Heap.get?_update_other]
  ·exact Heap.get?_push_of_some _ (Heap.get?_push_of_some _ ((Heap.get?_update_other _ _ (Ne.symm hb)).trans hx))
  ·rw [Heap.size_push, hup]; exact Nat.ne_of_gt (Nat.lt_succ_of_lt lb)
theorem zeH {e l I S : Addr} {n : Int} {t : Tok} {R : Result -> Shared -> Prop} (hh : A.handled = some (.ref e)) (hIS : I ≠ S) (hlI : l ≠ I) (hlS : l ≠ S) (heI : e ≠ I) (heS : e ≠ S) (h0 : 0 <= n) (h1 : n < 256)
  (hc : nA s.heap e) (hl : s.heap.IsList l #[Value.int n t]) (hit : s.heap.IsListIter I l 0) (hS : s.heap.get? S = some { cls := .type "bytearray", data := .bytearray #[] })
  (hR : ∀ h' t k', (∀ b o, b ≠ I -> b ≠ S -> s.heap.get? b = some o -> h'.get? b = some o) -> R (.ok (.ret (.bytes #[n.toNat.toUInt8] t))) { s with heap := h', toks := k' }) :
  codeAny (model prog w) A (.builtin "bytes.__new__.loop" ⟨[.type "bytes", .ref I, .ref S], []⟩) R s := by
 refine codeAny_builtin F.bm_entry_loop ?_
 rw [Around.under_plainId F.bm_plain_loop _]
 show wpAny _ A.in1 (pyNext (.ref I) >>= _) _ _ s
 refine wBD (wpAny_pyNext_list_item (x := .int n t) hit hl (by simp) λ h' hit' hs => ?_)
 have hS' : h'.get? S = some { cls := .type "bytearray", data := .bytearray #[] } := (hs.2 S (Ne.symm hIS)).trans hS
 refine wBD (wpAny_holding (wpAny_of_eq (rfl : asIndex (.int n t) = pure n) ?_))
 refine wBD (wpAny_letGo ?_)
 refine bm_if_false (by simp only [Bool.or_eq_false_iff, decide_eq_false_iff_not]; omega) ?_
 refine wBD ?_
 show wpAny _ _ (updateBytearray S (·.push n.toNat.toUInt8)) _ _ _
 unfold updateBytearray
 refine wBD (wpAny_load hS' ?_)
 show wpAny _ _ (update S (Obj.mapBytearray (·.push n.toNat.toUInt8)) >>= λ z => lookBehind S) _ _ _
 refine wBD (wpAny_update hS' ?_)
 have hS2 : (h'.update S (Obj.mapBytearray (·.push n.toNat.toUInt8))).get? S = some { cls := .type "bytearray", data := .bytearray #[n.toNat.toUInt8] } :=
  Heap.get?_update_self (Obj.mapBytearray (·.push n.toNat.toUInt8)) hS' rfl
 refine wpAny_lookBehind hS2 (by show (if 1 > sizeLine then some "bytearray:memory" else none) = none; rw [if_neg (by decide)]) ?_
 refine wpAny_pure ⟨plainId_quiet F.bm_plain_loop _, ?_⟩
 refine codeAny_builtin F.bm_entry_loop ?_
 rw [Around.under_plainId F.bm_plain_loop _]
 show wpAny _ A.in1 (pyNext (.ref I) >>= _) _ _ _
 have hl2 : (h'.update S (Obj.mapBytearray (·.push n.toNat.toUInt8))).IsList l #[Value.int n t] := (hl.extBut hs.extBut hlI).extBut (Heap.SameBut.update ..).extBut hlS
 have hit2 : (h'.update S (Obj.mapBytearray (·.push n.toNat.toUInt8))).IsListIter I l 1 := hit'.extBut (Heap.SameBut.update ..).extBut hIS
 have hc2 : nA (h'.update S (Obj.mapBytearray (·.push n.toNat.toUInt8))) e := hc.keeps (((Heap.get?_update_other _ _ (Ne.symm heS)).trans (hs.2 e heI)).symm)
 refine wBD (fZ (s := { s with heap := h'.update S (Obj.mapBytearray (·.push n.toNat.toUInt8)), toks := _ }) hh hc2 heI hit2 hl2 (by simp) λ h3 he3 => ?_)
 have hS3 : h3.get? S = some { cls := .type "bytearray", data := .bytearray #[n.toNat.toUInt8] } := he3 S _ (Ne.symm hIS) hS2
 refine wBD ?_
 unfold Builtin.Bytes.payload Builtin.Bytes.payload?
 refine wBD (wBD (wpAny_load hS3 ?_))
 refine wpAny_pure (wpAny_pure ?_)
 refine wBD (wpAny_mkBytes ?_ (by show 1 <= sizeLine; decide))
 show wpAny _ _ (if (Value.type "bytes" == Value.type "bytes") = true then _ else _) _ _ _
 refine bm_if_true (by decide) ?_
 have fin := λ (t' : Tok) (k' : Nat) => hR h3 t' k' λ b o hbI hbS x => he3 b o hbI ((Heap.get?_update_other _ _ (Ne.symm hbS)).trans (hs.extBut b o hbI x))
 first
  | exact wpAny_pure (fin _ _)
  | exact wBD (wpAny_pure (wpAny_pure (fin _ _)))
theorem zg6 {e l : Addr} {n : Int} {t : Tok} {Q : Value -> Shared -> Prop} (hh : A.handled = some (.ref e)) (hc : nA s.heap e) (hl : s.heap.IsList l #[Value.int n t]) (h0 : 0 <= n) (h1 : n < 256)
  (hQ : ∀ h' t k, (∀ b o, s.heap.get? b = some o -> h'.get? b = some o) -> Q (.bytes #[n.toNat.toUInt8] t) { s with heap := h', toks := k }) :
  codeAny (model prog w) A (.call (.builtin "bytes.__new__") ⟨[.type "bytes", .ref l], []⟩) (wants Q E) s := by
 refine codeAny_of_tree ?_
 show wpAny _ A.in1 (do checkBuiltinCall "bytes.__new__" ⟨[.type "bytes", .ref l], []⟩; again (.builtin "bytes.__new__" ⟨[.type "bytes", .ref l], []⟩)) _ _ s
 refine wBD (wpAny_of_eq (F.bm_newCall _) (wpAny_pure ⟨plainId_quiet F.bm_plain _, codeAny_builtin F.bm_entry ?_⟩))
 rw [Around.under_plainId F.bm_plain _]
 have hT : s.TypeIs (.ref l) "list" := hl.typeIs
 obtain ⟨ol, hol, hoc, nl, hod⟩ := id hl
 unfold Builtin.«bytes.__new__»
 refine wBD (wpAny_of_eq (a := true) rfl (bm_if_false rfl (wBD (wpAny_of_eq F.bm_sub (bm_if_false rfl ?_)))))
 refine wBD (wpAny_of_eq (F.bm_bind _) (wBD (wpAny_of_eq (a := ()) rfl (wBD (wpAny_of_eq (a := ()) rfl (bm_if_false rfl ?_))))))
 refine wBD (wpAny_specialOf hT F.bm_no_bytes (wBD (wBD ?_)))
 show wpAny _ _ (load l >>= _) _ _ _
 refine wBD (wpAny_load hol ?_)
 rw [hod]
 refine wpAny_pure (wpAny_pure (bm_if_false rfl ?_))
 refine wBD (wpAny_specialOf hT F.bm_no_index (bm_if_true rfl ?_))
 first
  | show wpAny _ _ (Builtin.Bytes.buffer? "bytes.__new__" (.ref l) true >>= _) _ _ _
  | (refine wBD ?_; show wpAny _ _ (Builtin.Bytes.buffer? "bytes.__new__" (.ref l) true >>= _) _ _ _)
 refine wBD ?_
 unfold Builtin.Bytes.buffer?
 refine wBD (wpAny_specialOf hT F.bm_no_buffer (wBD (wpAny_specialOf hT F.bm_no_buffer (wpAny_pure ?_))))
 refine wBD (wpAny_tryCatch (wpAny_pyIter_list hl ?_))
 have hl1 : (s.heap.push { cls := .type "list_iterator", data := .fields #[.ref l, .int 0 0] }).IsList l #[Value.int n t] := hl.push _
 have hT1 : ({ s with heap := s.heap.push { cls := .type "list_iterator", data := .fields #[.ref l, .int 0 0] } } : Shared).TypeIs (.ref l) "list" := Heap.IsList.typeIs (s := { s with heap := s.heap.push { cls := .type "list_iterator", data := .fields #[.ref l, .int 0 0] } }) hl1
 refine wBD (wpAny_holding ?_)
 unfold Builtin.Bytes.lengthHint
 refine wBD (wpAny_specialOf hT1 slot_list_len.lookup ?_)
 dsimp only
 rw [F.bm_split]
 dsimp only
 refine wBD (wpAny_isInstance hT1 F.bm_sub_list (bm_if_false rfl (bm_if_true (by decide +kernel) (wpAny_pure ?_))))
 refine wBD ?_
 unfold Builtin.Bytes.newBytearray
 refine wpAny_newObj_type ?_ (Nat.zero_le _)
 have hI : ((s.heap.push { cls := .type "list_iterator", data := .fields #[.ref l, .int 0 0] }).push { cls := .type "bytearray", data := .bytearray #[] }).IsListIter s.heap.objs.size l 0 :=
  ⟨_, Heap.get?_push_of_some _ (Heap.get?_push_size _ rfl), rfl, rfl⟩
 have hlt : l < s.heap.objs.size := Heap.lt_size hol
 have hsz : (s.heap.push { cls := .type "list_iterator", data := .fields #[.ref l, .int 0 0] }).objs.size = s.heap.objs.size + 1 := Heap.size_push _ _
 have hup : ∀ b o, s.heap.get? b = some o -> ((s.heap.push { cls := .type "list_iterator", data := .fields #[.ref l, .int 0 0] }).push { cls := .type "bytearray", data := .bytearray #[] }).get? b = some o := λ b o x => Heap.get?_push_of_some _ (Heap.get?_push_of_some _ x)
 have hlte : e < s.heap.objs.size := by obtain ⟨_, _, x, _⟩ := hc; exact Heap.lt_size x
 have hc1 : nA ((s.heap.push { cls := .type "list_iterator", data := .fields #[.ref l, .int 0 0] }).push { cls := .type "bytearray", data := .bytearray #[] }) e := by
  obtain ⟨oe, vs, x, y⟩ := hc
  exact ⟨oe, vs, hup _ _ x, y⟩
 have main := zeH (prog := prog) (w := w) (A := A) (s := { s with heap := (s.heap.push { cls := .type "list_iterator", data := .fields #[.ref l, .int 0 0] }).push { cls := .type "bytearray", data := .bytearray #[] } }) (R := wants Q E) (e := e) (l := l) (I := s.heap.objs.size) (S := (s.heap.push { cls := .type "list_iterator", data := .fields #[.ref l, .int 0 0] }).objs.size)
  hh (by rw [hsz]; exact Nat.ne_of_lt (Nat.lt_succ_self _)) (Nat.ne_of_lt hlt) (by rw [hsz]; exact Nat.ne_of_lt (Nat.lt_succ_of_lt hlt)) (Nat.ne_of_lt hlte) (by rw [hsz]; exact Nat.ne_of_lt (Nat.lt_succ_of_lt hlte)) h0 h1 hc1 (hl1.push _) hI (Heap.get?_push_size _ rfl)
  λ h' t k hk => hQ h' t k λ b o x => hk b o (Nat.ne_of_lt (Heap.lt_size x)) (by rw [hsz]; exact Nat.ne_of_lt (Nat.lt_succ_of_lt (Heap.lt_size x))) (hup b o x)
 first
  | exact wpAny_pure ⟨plainId_quiet F.bm_plain_loop _, main⟩
  | exact wpAny_pure (wpAny_pure ⟨plainId_quiet F.bm_plain_loop _, main⟩)
theorem nC {e l : Addr} {n : Int} {t : Tok} {Q : Value -> Shared -> Prop} (hh : A.handled = some (.ref e)) (hc : nA s.heap e) (hl : s.heap.IsList l #[Value.int n t]) (h0 : 0 <= n) (h1 : n < 256)
  (hQ : ∀ h' t k, (∀ b o, s.heap.get? b = some o -> h'.get? b = some o) -> Q (.bytes #[n.toNat.toUInt8] t) { s with heap := h', toks := k }) : wpAny (model prog w) A (call (.type "bytes") [.ref l]) Q E s := by
 refine callType_codes (Q₁ := λ obj s₁ => s₁.TypeIs obj "bytes" /\ Q obj s₁) F.bm_called (F.bm_typeCall _) F.entry_object_init
  (zg6 hh hc hl h0 h1 λ h' t k hk => ⟨PySem.W.typeIs_bytes _ _ _, hQ h' t k hk⟩) λ obj s₁ h₁ => ?_
 exact ⟨h₁.1, F.args_object_init_2 obj _, object_init_meets F.bm_called.init.lookup F.bm_called.made (by decide) prog w A.in1 _ s₁ ⟨h₁.1, rfl, h₁.2⟩⟩
end
section
variable {prog : Program} {w : World} {A : Around} {E : Value -> Shared -> Prop} {s : Shared}
theorem pO : Slot "bytes" "startswith" "bytes.startswith" :=
 .of (owner := "bytes") (n := "startswith") (by rw [typeLookup_type, builtinLookup_eq_fast]; kernel_rfl) (by decide +kernel) (by decide +kernel) (by decide +kernel)
  (by first | exact .inl (by decide +kernel) | exact .inr (by decide +kernel)) (by rw [isSubtype_type]; kernel_rfl)
theorem f9 : typeOf (.builtin "bytes.startswith") = pure (.type "method_descriptor") := by show builtinType _ = _; rw [builtinType_eq_fast]; kernel_rfl
theorem iy : entryFor table "bytes.startswith" = some Builtin.«bytes.startswith» := entryFor_of_tree (by kernel_rfl)
theorem eE (a b : Value) : argsOk "bytes.startswith" ⟨[a, b], []⟩ := by unfold argsOk; kernel_rfl
theorem sub_bytes_tuple : isSubtype (.type "bytes") (.type "tuple") = pure false := by rw [isSubtype_type]; kernel_rfl
theorem zaA (n : Nat) : Bytes.window n none none = (0, (n : Int)) := by
 unfold Bytes.window
 have k2 : ¬ ((n : Int) < 0) := by omega
 simp only [Option.getD_none, if_neg k2]
 simp
theorem iz (p r : Bs) (t u : Tok) : Gives («bytes.startswith» ⟨[.bytes (p ++ r).toArray t, .bytes p.toArray u], []⟩) (.val (.bool true)) := by
 refine .of_wp λ M A E s Q hq => ?_
 show wpAny M A (Bytes.tailMatchM .bytes "startswith" false ⟨[.bytes (p ++ r).toArray t, .bytes p.toArray u], []⟩) _ E s
 unfold Bytes.tailMatchM
 refine wBD (wpAny_of_eq (a := (Value.bytes (p ++ r).toArray t, [Value.bytes p.toArray u])) (by kernel_rfl) ?_)
 refine wBD (wpAny_of_eq (a := none) rfl ?_)
 refine wBD (wpAny_of_eq (a := none) rfl ?_)
 refine wBD (wpAny_of_eq (a := (p ++ r).toArray) rfl ?_)
 dsimp only
 refine wBD (wpAny_isInstance (typeIs_bytes _ _ _) sub_bytes_tuple ?_)
 refine bm_if_false rfl ?_
 refine wBD (wpAny_of_eq KBy.buffer_eq ?_)
 dsimp only
 refine wpAny_pure ⟨_, rfl, ?_⟩
 rw [zaA]
 dsimp only
 have z : ¬ (((p ++ r).toArray.size : Int) - 0 < (p.toArray.size : Int)) := by
  rw [List.size_toArray, List.size_toArray, List.length_append]
  omega
 rw [if_neg z, if_neg (by decide)]
 have e : ((p ++ r).toArray.extract (0 : Int).toNat ((0 : Int).toNat + p.toArray.size) == p.toArray) = true := by simp
 rw [e]
 exact hq
theorem eF {p r : Bs} {t u : Tok} {Q : Value -> Shared -> Prop} (h : Q (.bool true) s) : wpAny (model prog w) A (call (.builtin "bytes.startswith") [.bytes (p ++ r).toArray t, .bytes p.toArray u]) Q E s :=
 call_gives pO (typeIs_bytes _ _ _) iy (eE _ _) (iz p r t u) h
theorem iB : Slot "bytes" "join" "bytes.join" :=
 .of (owner := "bytes") (n := "join") (by rw [typeLookup_type, builtinLookup_eq_fast]; kernel_rfl) (by decide +kernel) (by decide +kernel) (by decide +kernel)
  (by first | exact .inl (by decide +kernel) | exact .inr (by decide +kernel)) (by rw [isSubtype_type]; kernel_rfl)
theorem zcC : typeOf (.builtin "bytes.join") = pure (.type "method_descriptor") := by show builtinType _ = _; rw [builtinType_eq_fast]; kernel_rfl
theorem zaB : entryFor table "bytes.join" = some Builtin.«bytes.join» := entryFor_of_tree (by kernel_rfl)
theorem zcD (a b : Value) : argsOk "bytes.join" ⟨[a, b], []⟩ := by unfold argsOk; kernel_rfl
inductive uU : List Value -> List Bs -> Prop
 | nil : uU [] []
 | cons {b : Bs} {t : Tok} {vs : List Value} {bs : List Bs} (h : uU vs bs) : uU (.bytes b.toArray t :: vs) (b :: bs)
theorem uU.at {vs : List Value} {bs : List Bs} (h : uU vs bs) : ∀ {i : Nat}, i < bs.length -> ∃ b t, bs[i]? = some b /\ vs[i]? = some (.bytes b.toArray t) := by
 induction h with
 | nil => exact λ h => absurd h (Nat.not_lt_zero _)
 | cons h ih =>
  intro i hi
  cases i with
  | zero => exact ⟨_, _, rfl, rfl⟩
  | succ i => exact ih (Nat.lt_of_succ_lt_succ hi)
theorem uU.len {vs : List Value} {bs : List Bs} (h : uU vs bs) : vs.length = bs.length := by
 induction h with
 | nil => rfl
 | cons h ih => exact congrArg (· + 1) ih
theorem uU.low {vs : List Value} {bs : List Bs} (h : uU vs bs) : ∀ v ∈ vs, v.onHeap = false := by
 induction h with
 | nil => exact λ v h => nomatch h
 | cons h ih => exact λ v hv => (mCM hv).elim (λ e => e ▸ rfl) (ih v)
theorem zcE {M : Model} {σ : Type} {f : Nat -> σ -> Sem (ForInStep σ)} {Q : σ -> Shared -> Prop} (I : Nat -> σ -> Prop) (n : Nat) : ∀ (i : Nat) (st : σ), I i st ->
  (∀ j st, j < i + n -> I j st -> ∀ Q : ForInStep σ -> Shared -> Prop, (∀ st', I (j + 1) st' -> Q (.yield st') s) -> wpAny M A (f j st) Q E s) -> (∀ st, I (i + n) st -> Q st s) -> wpAny M A (forIn (List.range' i n 1) st f) Q E s := by
 induction n with
 | zero => exact λ i st h turn fin => wpAny_pure (fin st h)
 | succ n ih =>
  intro i st h turn fin
  have e : i + 1 + n = i + (n + 1) := Nat.succ_add_eq_add_succ i n
  rw [List.range'_succ, List.forIn_cons]
  exact wBD (turn i st (Nat.lt_add_of_pos_right (Nat.succ_pos n)) h _ λ st' h' => ih (i + 1) st' h' (λ j st hj => turn j st (e ▸ hj)) λ st hst => fin st (e ▸ hst))
theorem mK {M : Model} {σ : Type} {f : Nat -> σ -> Sem (ForInStep σ)} {Q : σ -> Shared -> Prop} (I : Nat -> σ -> Prop) {n : Nat} {h1 : 0 < 1} {st : σ} (h0 : I 0 st)
  (turn : ∀ j st, j < n -> I j st -> ∀ Q : ForInStep σ -> Shared -> Prop, (∀ st', I (j + 1) st' -> Q (.yield st') s) -> wpAny M A (f j st) Q E s) (fin : ∀ st, I n st -> Q st s) : wpAny M A (forIn (Std.Legacy.Range.mk 0 n 1 h1) st f) Q E s := by
 rw [Std.Legacy.Range.forIn_eq_forIn_range']
 have e : (Std.Legacy.Range.mk 0 n 1 h1).size = n := by simp [Std.Legacy.Range.size]
 rw [e]
 exact zcE I n 0 st h0 (λ j st hj => turn j st (by omega)) (by rw [Nat.zero_add]; exact fin)
theorem zg7 {id : String} {b : Bs} {t : Tok} : Bytes.takeBufferQuiet? id (.bytes b.toArray t) 0 = pure (some (b.toArray, none)) := by
 unfold Bytes.takeBufferQuiet? Bytes.takeBuffer?
 rw [KBy.special_eq KBy.look_buffer, KBy.own_buffer]
 have e : ((0 : Int) == Bytes.fullReadOnly) = false := by decide +kernel
 rw [e, KBy.buffer_eq]
 kernel_rfl
theorem zcF {taken : List (Value × Option Value)} {keep : List Value} {M : Model} : ∀ {Q : Unit -> Shared -> Prop}, (∀ p ∈ taken, p.2 = none) -> Q () s -> wpAny M A (Bytes.joinLetGo taken keep) Q E s := by
 induction taken with
 | nil =>
  intro Q _ h
  unfold Bytes.joinLetGo
  exact wpAny_pure h
 | cons p r ih =>
  intro Q hp h
  obtain ⟨x, u⟩ := p
  obtain rfl : u = none := hp (x, u) (.head _)
  unfold Bytes.joinLetGo
  exact wBD (wpAny_letGo (ih (λ p hp' => hp p (.tail _ hp')) h))
noncomputable def JI (vs : List Value) (bs : List Bs) (j : Nat) (st : Array (Array UInt8) × List (Value × Option Value)) : Prop := st.1 = ((bs.take j).map λ b => b.toArray).toArray /\ st.2 = (vs.take j).map λ v => (v, none)
theorem bJ : ∀ (bs : List Bs) (n : Nat), List.foldl (λ (x1 : Nat) (x2 : Array UInt8) => x1 + x2.size) n (bs.map λ b => b.toArray) = n + bs.flatten.length
 | [], n => rfl
 | b :: r, n => by
  rw [List.map_cons, List.foldl_cons, bJ r, List.flatten_cons, List.length_append, List.size_toArray]
  omega
theorem iC : ∀ (bs : List Bs) (k : Nat) (o : Bs), ((bs.map λ b => b.toArray).zipIdx k).foldl (λ (out : Array UInt8) (x : Array UInt8 × Nat) => (if x.2 > 0 then out ++ #[] else out) ++ x.1) o.toArray = (o ++ bs.flatten).toArray
 | [], k, o => by simp
 | b :: r, k, o => by
  rw [List.map_cons, List.zipIdx_cons, List.foldl_cons]
  have e : (if k > 0 then o.toArray ++ #[] else o.toArray) ++ b.toArray = (o ++ b).toArray := by
   split <;> simp
  dsimp only
  rw [e, iC r (k + 1) (o ++ b), List.flatten_cons, List.append_assoc]
theorem zcG (bs : List Bs) : Bytes.joined #[] (bs.map λ b => b.toArray) = bs.flatten.toArray := iC bs 0 []
theorem bK {M : Model} {B : List Bs} {t : Tok} {Q : Value -> Shared -> Prop} {st : Array (Array UInt8) × List (Value × Option Value)} (i1 : st.1 = (B.map λ b => b.toArray).toArray) (i2 : ∀ p ∈ st.2, p.2 = none) (hz : B.flatten.length <= sizeLine) (hQ : ∀ u k, Q (.bytes B.flatten.toArray u) { s with toks := k }) :
  wpAny M A (do
   let sep <- Bytes.payload (Value.bytes #[] t)
   if Bytes.tooLong (Array.foldl (λ x1 x2 => x1 + x2.size) (sep.size * (st.fst.size - 1)) st.fst) = true then do
     unsupported (toString (toString Bytes.Kind.bytes.name ++ toString ".join") ++ toString ":memory")
     let result <- Bytes.Kind.bytes.new (Bytes.joined sep st.fst.toList)
     holding (result :: List.flatMap (λ x => x.fst :: x.snd.toList) st.snd) point
     Bytes.joinLetGo st.snd [result]
     ret result
    else do
     let result <- Bytes.Kind.bytes.new (Bytes.joined sep st.fst.toList)
     holding (result :: List.flatMap (λ x => x.fst :: x.snd.toList) st.snd) point
     Bytes.joinLetGo st.snd [result]
     ret result : Sem Fin) (λ fin s' => ∃ v, fin = Fin.done (Flow.ret v) /\ Q v s') E s := by
 refine wBD (wpAny_of_eq (a := #[]) rfl ?_)
 have e1 : Array.foldl (λ (x1 : Nat) (x2 : Array UInt8) => x1 + x2.size) ((#[] : Array UInt8).size * (st.fst.size - 1)) st.fst = B.flatten.length := by
  rw [i1, List.foldl_toArray', bJ]
  ·simp
  ·rfl
 refine bm_if_false ?_ ?_
 ·rw [e1]
  exact decide_eq_false (Nat.not_lt.mpr hz)
 ·have e2 : Bytes.joined #[] st.fst.toList = B.flatten.toArray := by rw [i1, zcG]
  rw [e2]
  refine wBD (wpAny_mkBytes ?_ (by rw [List.size_toArray]; exact hz))
  refine wBD (wpAny_holding (wpAny_point ?_))
  exact wBD (zcF i2 (wpAny_pure ⟨_, rfl, hQ _ _⟩))
theorem zcH {l : Addr} {vs : List Value} {bs : List Bs} {t : Tok} {Q : Value -> Shared -> Prop} (hl : s.heap.IsList l vs.toArray) (hb : uU vs bs) (hz : bs.flatten.length <= sizeLine)
  (hQ : ∀ u k, Q (.bytes bs.flatten.toArray u) { s with toks := k }) : wpAny (model prog w) A (call (.builtin "bytes.join") [.bytes #[] t, .ref l]) Q E s := by
 refine wpAny_call_entry iB (typeIs_bytes _ _ _) zaB ?_ (zcD _ _)
 show wpAny _ _ (Bytes.joinM .bytes ⟨[.bytes #[] t, .ref l], []⟩) _ _ s
 unfold Bytes.joinM
 refine wBD (wpAny_of_eq (a := (Value.bytes #[] t, Value.ref l)) (by kernel_rfl) ?_)
 dsimp only
 have hT : s.TypeIs (.ref l) "list" := hl.typeIs
 obtain ⟨ol, hol, hoc, nl, hod⟩ := id hl
 refine bm_if_true rfl ?_
 refine wBD ?_
 unfold Bytes.joinItems
 refine wBD (wpAny_typeOf hT (wpAny_pure ?_))
 refine wBD (wpAny_seqItems hol hod ?_)
 cases hb with
 | nil =>
  show wpAny _ _ (forIn (Std.Legacy.Range.mk 0 _ 1 _) _ _ >>= _) _ _ _
  refine wBD (mK (JI [] []) ⟨rfl, rfl⟩ (λ j st hj hI Q' hQ' => absurd hj (Nat.not_lt_zero _)) λ st hI => ?_)
  obtain ⟨i1, i2⟩ := hI
  refine bK (B := []) i1 (λ p hp => ?_) hz hQ
  rw [i2] at hp
  cases hp
 | @cons b t1 vs1 bs1 hb1 => cases hb1 with
  | nil =>
   show wpAny _ _ (typeOf (.bytes b.toArray t1) >>= _) _ _ _
   refine wBD (wpAny_typeOf (typeIs_bytes _ _ _) ?_)
   refine bm_if_true (by decide) (wBD (wpAny_rule (wpAny_pure ⟨_, rfl, ?_⟩)))
   have e : [b].flatten.toArray = b.toArray := by simp
   have z := hQ t1 s.toks
   rw [e] at z
   exact z
  | @cons b2 t2 vs2 bs2 hb2 =>
   have hA : uU (.bytes b.toArray t1 :: .bytes b2.toArray t2 :: vs2) (b :: b2 :: bs2) := .cons (.cons hb2)
   have hlow := hA.low
   show wpAny _ _ (forIn (Std.Legacy.Range.mk 0 _ 1 _) _ _ >>= _) _ _ _
   generalize hW : (Value.bytes b.toArray t1 :: Value.bytes b2.toArray t2 :: vs2) = W at hA hl hod hlow ⊢
   generalize hB : (b :: b2 :: bs2) = B at hA hz hQ ⊢
   refine wBD (mK (JI W B) ⟨rfl, rfl⟩ (λ j st hj hI Q' hQ' => ?_) λ st hI => ?_)
   ·have hj' : j < B.length := by
     have := hA.len
     rw [List.size_toArray] at hj
     omega
    obtain ⟨bj, tj, e1, e2⟩ := hA.at hj'
    obtain ⟨i1, i2⟩ := hI
    refine wBD (wpAny_seqItems hol hod ?_)
    dsimp only
    have e3 : W.toArray.getD j .none = .bytes bj.toArray tj := by
     rw [Array.getD_eq_getD_getElem?]; simp [e2]
    have e4 : (st.2.any λ x => x.1.onHeap) = false := by
     rw [i2, List.any_eq_false]
     intro p hp
     obtain ⟨v, hv, rfl⟩ := List.mem_map.mp hp
     rw [hlow v (List.mem_of_mem_take hv)]; decide
    refine bm_if_false (by rw [e4]; rfl) ?_
    rw [e3]
    refine wBD (wpAny_holding (wpAny_of_eq zg7 ?_))
    dsimp only
    refine wBD (wpAny_seqItems hol hod ?_)
    dsimp only
    refine bm_if_false (by simp) (wpAny_pure (hQ' _ ⟨?_, ?_⟩))
    ·show st.1.push bj.toArray = _
     rw [i1, List.take_add_one, e1]
     simp
    ·show st.2 ++ [(.bytes bj.toArray tj, none)] = _
     rw [i2, List.take_add_one, e2]
     simp
   ·obtain ⟨i1, i2⟩ := hI
    have hn : W.toArray.size = B.length := by rw [List.size_toArray, hA.len]
    rw [hn] at i1 i2
    rw [List.take_of_length_le (Nat.le_refl _)] at i1
    refine bK i1 (λ p hp => ?_) hz hQ
    rw [i2] at hp
    obtain ⟨v, _, rfl⟩ := List.mem_map.mp hp
    rfl
end
noncomputable def zj4 : List AV := [.int 64, .int 250, .int 60, .int 200, .int 40, .int 200, .int 2000, .int 50, .int 1000000000, .int 1000000]
noncomputable def zcI : List Nat -> List Stmt -> Bool
 | [], sts => isNil sts
 | i :: r, sts => match sts with
  | [] => false
  | s :: rest => (iV s λ t e => zJ t λ o nm z => nm == zf i && (zj o (· == ("self" : Str)) && zj e (· == zf i))) && zcI r rest
noncomputable def zfV : Nat -> List Nat -> Bool
 | _, [] => true
 | k, f :: r => decide (vH rM f = some k) && zfV (k + 1) r
theorem zeI {R : AV -> Value -> Prop} {vs : List AV} {es : List DictEntry} {fs : List Nat} (h : KV R vs es fs) : ∃ ws, yx R vs ws /\ KV Eq ws es fs :=
 KV.ind (R := R) (M := λ vs es fs => ∃ ws, yx R vs ws /\ KV Eq ws es fs) (λ z => ⟨[], trivial, trivial⟩) (λ v vs e es f fs he hr z ih => ih.elim λ ws h => ⟨e.val :: ws, ⟨hr, h.1⟩, ⟨⟨he, rfl⟩, h.2⟩⟩) vs es fs h
theorem zeJ {v : AV} : ∀ vs : List AV, pZ vs vs.length v = some (vs ++ [v]) := λ vs => by
 induction vs with
 | nil => rfl
 | cons u vs ih =>
  show (pZ vs vs.length v).map (u :: ·) = _
  rw [ih]; rfl
inductive zfW (c : Cfg) (fI : Addr) : Prop
 | mk (name qual : Str) (params : Arguments) (body : List Stmt) (scope : Scope) (dV kV doc pm : Value) (an : Option Addr) (cdv ct oc : Value) (od : Option Addr) (osl : Array (Option Value)) (ds : List Value) : (c.K.lookup fI = some ⟨oc, od, .func (fnOf name qual params body scope dV kV doc pm an cdv ct), osl⟩) -> (codeIn c.K cdv qual = true) -> (zcI rM body = true) -> (scope.isCoroutine = false) -> (scope.isGenerator = false) -> (scope.kind = .function) -> ((∀ x ∈ scope.names, x.2 ≠ .cell)) -> (scope.names.lookup ("self" : Str) = some NameKind.local) -> ((∀ i ∈ rM, scope.names.lookup (zf i) = some NameKind.local /\ (zf i == ("__debug__" : Str)) = false)) -> ((∀ P, VRs c P zj4 ds)) -> (∀ (s : Shared) (a : Value), c.K.In s.heap -> BindsTo s (fnOf name qual params body scope dV kV doc pm an cdv ct) ⟨[a], []⟩ (("self", a) :: (rM.map zf).zip ds)) -> zfW c fI
structure ql (c : Cfg) (fI : Addr) : Prop where
 makes : makesIn c.K c.limC = true
 init : findIn c.K (.ref c.limC) "__init__" = some (some (.ref fI))
 fn : isFn c.K (.ref fI) = true
 setA : findIn c.K (.ref c.limC) "__setattr__" = some (some (.builtin "object.__setattr__")) /\ plainOver c.K c.limC = true /\ (∀ i ∈ rM, takerIn c.K c.limC (zf i) = some none) /\ hasDictIn c.K c.limC = true
 ex : zfW c fI
section
variable {prog : Program} {w : World} {A : Around} {E : Value -> Shared -> Prop} {h₀ : Heap} {L a x dx C : Addr} {m : Str -> Option Value} {cd : Value} {name : Str} {scope : Scope} {news : List (Addr × Obj)} {K : Frag} {R : AV -> Value -> Prop} {done : List AV} {es : List DictEntry} {k : Nat} {sts : List Stmt} {s : Shared}
theorem zg8 (X₀ : K.In h₀) (hk : scope.kind = .function) (hself : scope.names.lookup ("self" : Str) = some NameKind.local) (ms : m "self" = some (.ref x)) (U1 : ∀ p ∈ news, p.1 ≠ dx) (U2 : dx < x)
  (hs : findIn K (.ref C) "__setattr__" = some (some (.builtin "object.__setattr__"))) (hp : plainOver K C = true) (hh : hasDictIn K C = true) (ht : ∀ i ∈ rM, takerIn K C (zf i) = some none) (hn : ∀ i ∈ rM, scope.names.lookup (zf i) = some NameKind.local /\ (zf i == ("__debug__" : Str)) = false)
  {Q : Flow -> Shared -> Prop} {todo : List Nat} : ∀ {vs : List AV} {ws : List Value}, zcI todo sts = true -> zfV done.length todo = true -> (∀ i ∈ todo, i ∈ rM) -> yx R vs ws -> vs.length = todo.length -> (∀ p ∈ todo.zip ws, m (zf p.1) = some p.2) ->
   Fr h₀ L s.heap m -> News h₀ L s.heap ((x, instObj C dx) :: (dx, dictOf es k) :: news) -> KV R done es rM ->
   (∀ h' tk es' k', Fr h₀ L h' m -> News h₀ L h' ((x, instObj C dx) :: (dx, dictOf es' k') :: news) -> KV R (done ++ vs) es' rM -> Q .next { s with heap := h', toks := tk }) ->
   wpAny (model prog w) A (execs sts (envOf name scope L a cd)) Q E s := by
 induction todo generalizing done es k sts s with
 | nil =>
  intro vs ws hst _ _ hv hl _ F N hkv fin
  cases vs with
  | cons => cases hl
  | nil =>
   rw [isNil.of hst]
   exact wpAny_execs_nil (fin s.heap s.toks es k F N (by rw [List.append_nil]; exact hkv))
 | cons i r ih =>
  intro vs ws hst hpo hin hv hl hm F N hkv fin
  cases vs with
  | nil => cases hl
  | cons v vs => cases ws with
   | nil => exact hv.elim
   | cons wv ws => cases sts with
    | nil => exact no hst
    | cons st rest =>
     refine a2 hst λ hst hr => a2 hpo λ hpi hpo => ?_
     obtain ⟨f1, f2⟩ := hn i (hin i (.head _))
     have mi : m (zf i) = some wv := hm (i, wv) (.head _)
     refine iV.of (M := λ st => wpAny (model prog w) A (execs (st :: rest) (envOf name scope L a cd)) Q E s) hst λ t e pos h0 => zJ.of (M := λ t => wpAny (model prog w) A (execs (.Assign [t] e pos :: rest) (envOf name scope L a cd)) Q E s) h0 λ o nm ap h0 => a3 h0 λ h1 h2 h3 => zj.of (M := λ o => wpAny (model prog w) A (execs (.Assign [.Attribute o nm ap] e pos :: rest) (envOf name scope L a cd)) Q E s) h2 λ z zp h2 => zj.of (M := λ e => wpAny (model prog w) A (execs (.Assign [.Attribute (.Name z zp) nm ap] e pos :: rest) (envOf name scope L a cd)) Q E s) h3 λ z2 zp2 h3 => ?_
     rw [eq_of_beq h1, eq_of_beq h2, eq_of_beq h3]
     refine wpAny_execs_cons (plainObj_wpAny_Assign_Attribute (ld F mi ?_ hk f1 f2) (z6 rfl _ _))
     refine ld F ms ?_ hk hself
     have kv2 := λ hsh t => KV.put (R := R) (f := i) (w := wv) (hs := hsh) (t := t) ((by decide : ∀ i ∈ rM, i < 23) i (hin i (.head _))) hv.1 hkv (qy 1) (of_decide_eq_true hpi) (zeJ done)
     refine set_dict F X₀ N (InstAt.of_news N (.head _) (.tail _ (.head _))) rfl hs hp (ht i (hin i (.head _))) hh (kZ hkv) rfl (Upd.tail (Nat.ne_of_gt U2) (Upd.head U1)) (nLT (Nat.le_of_eq (kv2 _ _).len) (nLT (kv2 0 0).le (by decide))) λ h2 F2 N2 => ?_
     refine ih (done := done ++ [v]) hr (by rw [List.length_append]; exact hpo) (λ j hj => hin j (.tail _ hj)) hv.2 (Nat.succ.inj hl) (λ p hp => hm p (.tail _ hp)) F2 N2 (kv2 _ _) λ h' tk es' k' F' N' kv' => fin h' tk es' k' F' N' (by rw [List.append_assoc] at kv'; exact kv')
end
theorem zj5 {c : Cfg} {fI : Addr} (Z : ql c fI) {f : Frm} {A : Around} {y : Lc} {b : Wd} {Qc Ec : Value -> Shared -> Prop} (H : Here c f A 0) (R : Rl ⟨c, f⟩ y b) (kq : Go ⟨c, f⟩ y b True (.inst 1 zj4) Qc) : codeAny (model c.prog c.w) A (.call (.ref c.limC) ⟨[], []⟩) (zbh Qc Ec) b.s := by
 obtain ⟨name, qual, params, body, scope, dV, kV, doc, pm, an, cdv, ct, oc, od, osl, ds, h1, h2, hst, h3, h4, h5, h6, l1, l2, hds, hb⟩ := Z.ex
 have hdl : ds.length = 10 := (VRs.to (hds b.P)).len
 refine make_K R.F R.N (H.kin.keeps R.F.keep) Z.makes Z.init (beq_iff_eq.mp Z.fn) λ x dx h' F1 N1 lt1 lt2 => ?_
 have hdx : ∀ p ∈ b.P.news, p.1 ≠ dx := λ p hp => Nat.ne_of_lt (lt1 p hp)
 refine code_def (A := A.under (.builtin "type.__call__" ⟨.ref c.limC :: [], []⟩)) (s := b.to h' b.s.toks) H.below F1 H.kin N1 H.top H.stack rfl H.kind h1 h2 (Nat.lt_of_le_of_lt (Nat.le_add_right _ 9) H.depth) (hb _ _ (H.kin.keeps F1.keep)) (λ y hy => ?_) (λ g0 L' hp1 F0 F2 N2 B1 K1 T1 => ?_) h3 h4 h5 h6
 ·rcases mCM hy with rfl | hy
  ·exact l1
  ·obtain ⟨i, hi, e⟩ := List.mem_map.mp (List.of_mem_zip hy).1
   exact e ▸ (l2 i hi).1
 ·have nd : (("self" : Str) :: rM.map zf).Nodup := by decide +kernel
  have hz : ("self" : Str) :: rM.map zf = (("self" : Str) :: rM.map zf) := rfl
  have get : ∀ p ∈ rM.zip ds, ((("self" : Str) :: rM.map zf).zip (Value.ref x :: ds)).reverse.lookup (zf p.1) = some p.2 := λ p hp => by
   obtain ⟨i, hi, e⟩ := List.mem_iff_getElem.mp hp
   rw [List.getElem_zip] at e
   have hi2 : i < rM.length /\ i < ds.length := by rw [List.length_zip] at hi; exact Nat.lt_min.mp hi
   refine lZ (i := i + 1) nd ?_ ?_
   ·rw [<- e]
    exact gk zf ((sG i).trans (List.getElem?_eq_getElem hi2.1))
   ·rw [<- e]
    exact (sG i).trans (List.getElem?_eq_getElem hi2.2)
  refine zg8 (R := VR c b.P) (x := x) (dx := dx) (C := c.limC) (news := b.P.news) (done := []) (es := []) (k := 0) (vs := zj4) (ws := ds) K1 h5 l1 (lZ (ps := ("self" : Str) :: rM.map zf) (ws := Value.ref x :: ds) (i := 0) nd rfl rfl) hdx lt2 Z.setA.1 Z.setA.2.1 Z.setA.2.2.2 Z.setA.2.2.1 l2 hst (by decide) (λ u h => h) (VRs.to (hds b.P)) rfl get F2 N2 trivial λ h2' tk es k' F3 N3 kv => ?_
  obtain ⟨ws, ha, hk⟩ := zeI kv
  refine leaveK_ F3 N3 λ F5 N5 => ⟨rfl, ?_⟩
  have N6 : News f.h₀ f.L h2' ((dx, dictOf es k') :: b.P.news) := λ p hp => N5 p (.tail _ hp)
  have hfd : dx ∉ b.P.keys := λ q => (List.mem_map.mp q).elim λ p z => hdx p z.1 z.2
  have hfx : ∀ o : Obj, x ∉ (b.P.push dx o).keys := λ o q => by
   rcases mCM q with e | q
   ·exact Nat.ne_of_gt lt2 e
   ·obtain ⟨p, hp, e⟩ := List.mem_map.mp q
    exact Nat.ne_of_lt (Nat.lt_trans (lt1 p hp) lt2) e
  have EE : ∀ o o' : Obj, Ext b.P ((b.P.push dx o).push x o') := λ o o' => (vL.push (P := b.P) (a := dx)).ext.trans (vL.push (a := x)).ext
  exact kq trivial (.ref x) ⟨(b.P.push dx _).push x _, b.to h2' tk⟩ ⟨Rl.push (x := ⟨c, f⟩) (y := y) (Rl.push (x := ⟨c, f⟩) (y := y) (t := b.s.toks) R hfd F5 N6) (hfx _) F5 N5, ⟨EE _ _, rfl⟩, ws, VRs.of (ha.mono λ v u => VR.mono (EE _ _) v), .mk x dx _ _ ⟨.head _, λ q => hfx (dictOf [] 0) (.tail _ (R.led.mem _ q))⟩ ⟨.tail _ (.head _), λ q => hfd (R.led.mem _ q)⟩ hk⟩
section
variable {prog : Program} {w : World} {A : Around} {E : Value -> Shared -> Prop} {s : Shared} {env : Env}
theorem zaC {o e : Expr} {name : Str} {apos pos : Pos} {Q : Value -> Shared -> Prop}
  (hb : okB o = true) (hst : ∀ rest, starEach (e :: rest) env = (false, eval e env) :: starEach rest env) (hline : (apos.endLine == pos.line) = true)
  (h : wpAny (model prog w) A (eval o env) (λ ov s₁ => ∀ pl, wpAny (model prog w) A (getMethod ov name pl) (λ fx s₂ => wpAny (model prog w) A (callWith pos fx.1 fx.2 (backTo pos (starEach [e] env)) []) Q E s₂) E s₁) E s) :
  wpAny (model prog w) A (eval (.Call (.Attribute o name apos) [e] [] pos) env) Q E s := by
 rw [arm_eval_Call, sy hb]
 have hform : methodCallForm ([e].length + ([] : List Keyword).length) (backTo pos (starEach [e] env)) (backToKw pos (keywordEach [] env)) = true := by
  show ((backTo pos (starEach [e] env)).all (λ x => !x.1) && (backToKw pos (keywordEach [] env)).all (λ x => x.1.isSome) && decide ([e].length + 0 + 0 < 30)) = true
  rw [hst]
  rfl
 have hpos : methodCallPos true o env apos pos = pure pos := by unfold methodCallPos; rw [hline]; rfl
 refine wBD (wpAny_mono h (λ ov s₁ h₁ => wBD (wpAny_standAt ?_)) λ z z e => e)
 unfold methodCall
 rw [hform, hpos]
 exact wBD (wpAny_holding (wpAny_mono (h₁ _) (λ fx s₂ h₂ => wBD (wpAny_pure h₂)) λ z z e => e))
end
section
variable {x : Cx} {T : Names} {fa : Nat -> Addr} {n : Nat} {y : Lc} {a b : Wd} {e : Expr} {p : PX}
end
noncomputable def uh : Scope := ⟨.function, [(".0", .local), ("one", .local), ("_law_pieces", .globalImplicit), ("abs", .globalImplicit), ("len", .globalImplicit)], false, false, []⟩
structure wQ (c : Cfg) (pA : Addr) : Prop where
 name : nsIn c.K mainGlobals "_law_pieces" = some (some (.ref pA))
 obj : ∃ ws n bs, (∀ h, c.K.In h -> h.get? pA = some (listOf ws.toArray n)) /\ uU ws bs /\ bs.length = 48 /\ ∀ b ∈ bs, b.length <= 6
noncomputable def qm (p1 p2 p3 p4 p5 p6 p7 p8 p9 : Pos) : Expr :=
 .Subscript (.Name "_law_pieces" p1) (.BinOp (.Call (.Name "abs" p2) [.Name "one" p3] [] p4) .Mod (.Call (.Name "len" p5) [.Name "_law_pieces" p6] [] p7) p8) p9
section
variable {c : Cfg} {T : Names} {fa : Nat -> Addr} {f : Frm} {n : Nat} {pA : Addr}
theorem zcJ (S : St ⟨c, f⟩ T fa n) (Z : wQ c pA) {p1 p2 p3 p4 p5 p6 p7 p8 p9 : Pos} {s : Shared} {m m₂ : Str -> Option Value} {Cx : Addr} {oC : Obj} {k : Int} {t : Tok} {news : List (Addr × Obj)} {Q : Value -> Shared -> Prop} {E : Value -> Shared -> Prop}
  (F : Fr f.h₀ f.L s.heap m) (hm : (Cx, oC) ∈ news) (hC : LCg.NsObj oC m₂) (hx : m₂ "one" = some (.int k t)) (N : News f.h₀ f.L s.heap news)
  (hq : ∀ (b : Bs) (u : Tok) (tk : Nat), b.length <= 6 -> Q (.bytes b.toArray u) { s with toks := tk }) :
  wpAny (model c.prog c.w) f.A (eval (qm p1 p2 p3 p4 p5 p6 p7 p8 p9) (compEnvC uh [] Cx f.env)) Q E s := by
 obtain ⟨ws, nn, bs, hobj, hbs, hlen, hsm⟩ := Z.obj
 have hl : ∀ h : Heap, c.K.In h -> h.IsList pA ws.toArray := λ h X => ⟨_, hobj h X, rfl, nn, rfl⟩
 have hwl : ws.length = 48 := hbs.len.trans hlen
 have tr := topRead_of S.here.top
 refine Subscript_ (LCgL.ld_global F S.here.kin S.here.top Z.name ?_ rfl rfl rfl (by decide))
 refine wpAny_BinOp ?_
 refine Call_ (LCgL.ld_built F S.here.kin S.here.top (S.fx.blt "abs" (by decide)) boot_abs (by decide) ?_ rfl rfl rfl rfl (by decide))
 refine yZ (P := λ z => True) rfl (zG (λ z e => nomatch e)) (args1 rfl ?_)
 refine LCgL.ld_own N hm hC hx ⟨trivial, ?_⟩ rfl rfl (by decide)
 refine call_abs_int λ u tk => ?_
 have ha : 0 <= (if k < 0 then -k else k) := by
  split
  ·exact Int.neg_nonneg_of_nonpos (Int.le_of_lt ‹_›)
  ·exact Int.not_lt.mp ‹_›
 generalize (if k < 0 then -k else k) = a at ha
 refine Call_ (LCgL.ld_built (s := { s with toks := tk }) F S.here.kin S.here.top (S.fx.blt "len" (by decide)) boot_len (by decide) ?_ rfl rfl rfl rfl (by decide))
 refine yZ (P := λ z => True) rfl (zG (λ z e => nomatch e)) (args1 rfl ?_)
 refine LCgL.ld_global (s := { s with toks := tk }) F S.here.kin S.here.top Z.name ⟨trivial, ?_⟩ rfl rfl rfl (by decide)
 refine PyProof.Rows.len_list (hl _ (S.here.kin.keeps F.keep)) (by rw [List.size_toArray, hwl]; decide) ?_
 have e48 : ((ws.toArray.size : Nat) : Int) = 48 := by rw [List.size_toArray, hwl]; rfl
 rw [e48]
 refine PyProof.Rows.mod_int (by decide) ?_
 have hr : a.fmod 48 = a % 48 := Int.fmod_eq_emod_of_nonneg _ (by decide)
 have h0 : 0 <= a.fmod 48 := by rw [hr]; exact Int.emod_nonneg _ (by decide)
 have h1 : a.fmod 48 < 48 := by rw [hr]; exact Int.emod_lt_of_pos _ (by decide)
 generalize a.fmod 48 = r at h0 h1
 obtain ⟨b, u2, e1, e2⟩ := hbs.at (i := r.toNat) (by rw [hlen]; exact (Int.toNat_lt h0).mpr h1)
 refine item_listL (l := ws) (hl _ (S.here.kin.keeps F.keep)) h0 (Int.lt_trans h1 (by decide)) e2 ?_
 exact hq b u2 _ (hsm b (List.mem_of_getElem? e1))
theorem pP (S : St ⟨c, f⟩ T fa n) (Z : wQ c pA) {p1 p2 p3 p4 p5 p6 p7 p8 p9 : Pos} {s : Shared} {m : Str -> Option Value} {news : List (Addr × Obj)} {Q : Value -> Shared -> Prop} {its : Array Value} {ks : List Int} {SS : List (Addr × Obj) -> Prop} (hS : SS news) (hi : IntsAre its.toList ks)
  (fin : ∀ D h tk ys bs, uU ys bs -> bs.length = its.size -> (∀ b ∈ bs, b.length <= 6) -> Fr f.h₀ f.L h m -> News f.h₀ f.L h ((D, LCg.lst ys) :: news) -> LCg.Off1 D news -> Q (.ref D) { s with heap := h, toks := tk }) :
  ∀ k i ys bs, i + k = its.size -> uU ys bs -> bs.length = i -> (∀ b ∈ bs, b.length <= 6) ->
   LCg.CompRest c.prog c.w f.A f.h₀ f.L m f.env (qm p1 p2 p3 p4 p5 p6 p7 p8 p9) "one" uh [] s SS (λ i v => its[i]? = some v) (LCg.FinE f.h₀ f.L m s Q) k i ys news
 | 0, i, ys, bs, hik, hb, hl, hs => by
  refine LCg.CompRest.zero ?_
  intro D h tk F N o
  exact fin D h tk ys bs hb (hl.trans hik) hs F N o
 | k + 1, i, ys, bs, hik, hb, hl, hs => by
  refine LCg.CompRest.succ ?_
  intro v I oI Cx oC D m₂ h tk E' hP hC hx F N off ne
  obtain ⟨kk, t, rfl, _⟩ := IntsAre.at hi i v (by rw [Array.getElem?_toList]; exact hP)
  refine zcJ (s := { s with heap := h, toks := tk }) S Z F (.tail _ (.head _)) hC hx N λ b u tk2 hb6 => ?_
  refine LCg.CompEnd.intro F N news (λ p hp => hp) off hS ?_
  refine pP S Z hS hi fin k (i + 1) _ (bs ++ [b]) ((Nat.add_right_comm i 1 k).trans hik) ?_ (by rw [List.length_append, hl]; rfl) λ x hx => ?_
  ·clear fin hik hl hs F N off
   induction hb with
   | nil => exact .cons .nil
   | cons _ ih => exact .cons ih
  ·rcases List.mem_append.mp hx with hx | hx
   ·exact hs x hx
   ·rw [List.mem_singleton.mp hx]; exact hb6
theorem bL : ∀ {bs : List Bs}, (∀ b ∈ bs, b.length <= 6) -> bs.flatten.length <= 6 * bs.length
 | [], _ => by simp
 | b :: r, h => by
  rw [List.flatten_cons, List.length_append, List.length_cons]
  have h1 := h b (.head _)
  have h2 := bL (bs := r) λ x hx => h x (.tail _ hx)
  omega
theorem zg9 (S : St ⟨c, f⟩ T fa n) (Z : wQ c pA) {p1 p2 p3 p4 p5 p6 p7 p8 p9 q1 q2 q3 q4 q5 q6 q7 q8 q9 q10 q11 : Pos} {y : Lc} {d : Wd} {Qc : Flow -> Shared -> Prop} {Ec : Value -> Shared -> Prop} {sc : Addr} {its : Array Value} {ks : List Int}
  (R : Rl ⟨c, f⟩ y d) (hsc : zQ y.l 0 = some (.list sc)) (h0 : zB f.scope.names 0 "script" = true) (h1 : zB f.scope.names 1 "text" = true)
  (hl : f.h₀.IsList sc its) (hi : IntsAre its.toList ks) (hz : its.size <= sizeLine) (hline : (q3.endLine == q10.line) = true)
  (k : ∀ (tx : Bs) m b, tx.length <= 84 -> Rl ⟨c, f⟩ ⟨setL y.l 1 (.bytes tx), y.g, m⟩ b -> Up d b -> Qc .next b.s) :
  wpAny (model c.prog c.w) f.A (exec (.Assign [.Name "text" q1] (.Call (.Attribute (.Constant (.bytes []) 0 q2) "join" q3) [.ListComp (qm p1 p2 p3 p4 p5 p6 p7 p8 p9) [⟨.Name "one" q4, .Subscript (.Name "script" q5) (.Slice none (some (.Constant (.int 14) 0 q6)) none q7) q8, [], 0⟩] uh q9] [] q10) q11) f.env) Qc Ec d.s := by
 refine xQ h0 λ c0 z hl0 => ?_
 obtain (⟨w0, a2, a3⟩) := R.loc 0 _ _ hsc c0
 obtain rfl : Value.ref sc = w0 := a3
 refine wpAny_Assign_Name ?_ rfl
 apply zaC
 ·exact rfl
 ·exact λ z => rfl
 ·exact hline
 refine Constant_bytes ?_
 intro pl
 refine getMethod_builtin (typeIs_bytes _ _ _) FB.plainAttrs_bytes iB zcC (λ a e => nomatch e) ?_
 refine zcB (P := λ z => True) (λ z => rfl) (zG (λ z e => nomatch e)) ?_
 refine LCg.ListComp_U (h₀ := f.h₀) (L := f.L) (m := y.m) (cl := []) ?F rfl (by decide) rfl (by decide) rfl ?_ (gD rfl)
 case F => exact R.F
 refine Subscript_ (ld R.F a2 (wpAny_Slice ?_) S.here.kind hl0 (by decide))
 show wpAny _ _ (pure Value.none) _ _ _
 refine wpAny_pure ?_
 show wpAny _ _ (eval (.Constant (.int 14) 0 q6) f.env) _ _ _
 refine wpAny_Constant_int ?_
 show wpAny _ _ (pure Value.none) _ _ _
 refine wpAny_pure ?_
 refine slice_list3 (s := { d.s with toks := _ }) R.F R.N (hl.at λ o e => R.F.keep _ o e) .none (.int 14 _) .none (λ e => nomatch e) (λ h' F' N' => ?_) rfl (λ z => rfl) hz
 have hpi := IntsAre.pick (vs := its.toList) hi none (some 14) none
 rw [Array.toArray_toList] at hpi
 have hpz := slicePick_size_le its none (some 14) none
 have hpk : (slicePick its none (some 14) none).size <= 14 := by
  have e := slicePick_upto' its 14
  have e2 : slicePick its none (some 14) none = _ := e
  rw [e2]
  simp
  exact Nat.min_le_left _ _
 refine LCg.CompSrc.ledger S.here.hh F' N' (.head _) (nLT hpz hz) λ hh => ?_
 refine pP S Z (.inr ⟨_, .head _, rfl, _, rfl⟩) hpi (λ D h tk ys bs hb hbl hs F N o => ?_) _ 0 [] [] (Nat.zero_add _) .nil rfl (λ b hb => nomatch hb)
 refine ⟨trivial, ?_⟩
 have hfl := bL hs
 have hle : bs.length <= 14 := by rw [hbl]; exact hpk
 refine zcH (s := d.to h tk) (vs := ys) (bs := bs) ⟨_, (N _ (.head _)).1, rfl, _, rfl⟩ hb (by rw [sizeLine_eq]; exact nLT hfl (nLT (Nat.mul_le_mul_left 6 hle) (by decide))) λ u tk2 => ?_
 have R2 : Rl ⟨c, f⟩ y ⟨d.P, d.to h tk2⟩ := ⟨F, λ p hp => N p (.tail _ (.tail _ hp)), R.led, R.st, R.loc⟩
 exact vh S R2 h1 (v := .bytes bs.flatten) (⟨u⟩ : wU bs.flatten (.bytes bs.flatten.toArray u)) λ m3 b3 R3 U => k bs.flatten m3 b3 (nLT hfl (Nat.mul_le_mul_left 6 hle)) R3 (Up.trans (b := ⟨d.P, d.to h tk2⟩) ⟨Ext.refl _, rfl⟩ U)
end
section
variable {c : Cfg} {fa : Nat -> Addr} {f : Frm} {T : Names} {n N rk m : Nat} {b : Bool} {cl : Nat -> Bool} {C : Tab}
theorem eG {x : Cx} {y : Lc} {a : Wd} (S : St x T fa n) (R : Rl x y a) {i j k' : Nat} {z1 z2 z3 : Str} {p1 p2 p3 : Pos} {u v t : AV} {wu wv wt : Value} {Qc : Unit -> Shared -> Prop} {Ec} (hi : zB x.ns i z1 = true) (hj : zB x.ns j z2 = true) (hk : zB x.ns k' z3 = true) (hu : VR x.c a.P u wu) (hv : VR x.c a.P v wv) (ht : VR x.c a.P t wt)
  (k : ∀ m b, Rl x ⟨setL (setL (setL y.l i u) j v) k' t, y.g, m⟩ b -> Up a b -> Qc () b.s) : wpAny x.M x.A (assignInOrder ((assignEach [.Name z1 p1, .Name z2 p2, .Name z3 p3] x.env).map (·.2)) [wu, wv, wt]) Qc Ec a.s := by
 show wpAny _ _ (do holding [wv, wt] (assign (.Name z1 p1) x.env wu); assignInOrder [assign (.Name z2 p2) x.env, assign (.Name z3 p3) x.env] [wv, wt]) _ _ _
 refine wBD (wpAny_holding (assign_Name (vh S R hi hu λ m b R' U => ?_)))
 show wpAny _ _ (do holding [wt] (assign (.Name z2 p2) x.env wv); assignInOrder [assign (.Name z3 p3) x.env] [wt]) _ _ _
 refine wBD (wpAny_holding (assign_Name (vh S (y := ⟨setL y.l i u, y.g, m⟩) R' hj (VR.mono U.ext _ hv) λ m2 d R2 V => ?_)))
 show wpAny _ _ (do holding [] (assign (.Name z3 p3) x.env wt); assignInOrder [] []) _ _ _
 exact wBD (wpAny_holding (assign_Name (vh S (y := ⟨setL (setL y.l i u) j v, y.g, m2⟩) R2 hk (VR.mono V.ext _ (VR.mono U.ext _ ht)) λ m3 d3 R3 V3 => wpAny_pure (k m3 d3 R3 (U.trans (V.trans V3))))))
theorem iD {x : Cx} {y : Lc} {a : Wd} (S : St x T fa n) (R : Rl x y a) {i j k'' : Nat} {z1 z2 z3 : Str} {p1 p2 p3 p : Pos} {k' : Nat} {u v t : AV} {w : Value} {Qc : Unit -> Shared -> Prop} {Ec} (hi : zB x.ns i z1 = true) (hj : zB x.ns j z2 = true) (hk : zB x.ns k'' z3 = true) (hw : VR x.c a.P (.tup [u, v, t]) w)
  (k : ∀ m b, Rl x ⟨setL (setL (setL y.l i u) j v) k'' t, y.g, m⟩ b -> Up a b -> Qc () b.s) : wpAny x.M x.A (assign (.Tuple [.Name z1 p1, .Name z2 p2, .Name z3 p3] k' p) x.env w) Qc Ec a.s := by
 obtain ⟨ws, hv, r⟩ := hw
 cases ws with
 | nil => exact hv.elim
 | cons wu ws => cases ws with
  | nil => exact hv.2.elim
  | cons wv ws => cases ws with
   | nil => exact hv.2.2.elim
   | cons wt ws =>
    have e : [] = ws := hv.2.2.2
    subst e
    obtain ⟨t, m, o⟩ := r
    exact unpackN_ R.F R.N ⟨_, R.N.get o.1, rfl, m, rfl⟩ S.here.hh rfl rfl λ h' F' N' => eG S (a := ⟨a.P, a.to h' a.s.toks⟩) ⟨F', N', R.led, R.st, R.loc⟩ hi hj hk hv.1 hv.2.1 hv.2.2.1 λ m b R2 U => k m b R2 (Up.trans (b := ⟨a.P, a.to h' a.s.toks⟩) ⟨Ext.refl _, rfl⟩ U)
theorem zha (S : StX ⟨c, f⟩ T fa (CL (m + 3)) rk N false cl) {y : Lc} {d : Wd} {Qc : Flow -> Shared -> Prop} {Ec : Value -> Shared -> Prop} {tx : Bs} {Rr : Rt} {e : Expr} {xp yp zp tp pos : Pos} {k' : Nat} {x0 : Option AV} {xr : Loc}
  (R : Rl ⟨c, f⟩ ⟨x0 :: some (.bytes tx) :: xr, y.g, y.m⟩ d) (hz : tx.length <= 84) (hR : rd fuel (alike tx) = some Rr) (hlr : Rr.1.length <= 900)
  (h2 : zB f.scope.names 2 "due" = true) (h3 : zB f.scope.names 3 "words" = true) (h4 : zB f.scope.names 4 "line" = true) (he : zay T f.scope.names rk false cl (.call 34 [.call 25 [.loc 1]]) e = true) (hc : okT e = true)
  (k : ∀ ad g' m b, Sub y.g g' -> g'.hp ad = some Rr.1 -> Rl ⟨c, f⟩ ⟨setL (setL (setL (x0 :: some (.bytes tx) :: xr) 2 (.list ad)) 3 (.bytes Rr.2.1)) 4 (.int (jZ (alike tx) Rr.2.1 Rr.2.2 : Nat)), g', m⟩ b -> Up d b -> Qc .next b.s) :
  wpAny (model c.prog c.w) f.A (exec (.Assign [.Tuple [.Name "due" xp, .Name "words" yp, .Name "line" zp] k' tp] e pos) f.env) Qc Ec d.s := by
 have hA : (alike tx).length <= 900 := nLT (xK tx) (nLT hz (by decide))
 have hp : exX (CL (m + 3)) (.call 34 [.call 25 [.loc 1]]) (x0 :: some (.bytes tx) :: xr) y.g (λ v g' => ∃ ad, v = .tup [.list ad, .bytes Rr.2.1, .int (jZ (alike tx) Rr.2.1 Rr.2.2 : Nat)] /\ Sub y.g g' /\ g'.hp ad = some Rr.1) (λ z => False) :=
  id (α := tx.length <= 900 /\ CL (m + 3) 34 [.bytes (alike tx)] y.g _ _) ⟨nLT hz (by decide), zaw hA hR hlr λ ad g2 hg2 e2 => ⟨ad, rfl, hg2, e2⟩⟩
 exact Assign_Tuple (cB ((wO S he).go (y := ⟨x0 :: some (.bytes tx) :: xr, y.g, y.m⟩) hp R (λ v w g' b q B => by
  obtain ⟨ad, rfl, hg, e2⟩ := q
  exact iD S.st B.R h2 h3 h4 B.v λ m5 b5 R5 U => k ad g' m5 b5 hg e2 R5 (B.u.trans U)) λ z z z z q => q.elim)) (lA (zfx hc)) (jE hc)
end
theorem pQ : Slot "bytes" "__repr__" "bytes.__repr__" :=
 .of (owner := "bytes") (n := "__repr__") (by rw [typeLookup_type, builtinLookup_eq_fast]; kernel_rfl) (by decide +kernel) (by decide +kernel) (by decide +kernel)
  (by first | exact .inl (by decide +kernel) | exact .inr (by decide +kernel)) (by rw [isSubtype_type]; kernel_rfl)
theorem rJ : entryFor table "bytes.__repr__" = some Builtin.«bytes.__repr__» := by first | exact entryFor_of_fast (by kernel_rfl) | exact entryFor_of_tree (by kernel_rfl)
theorem pR (a : Value) : argsOk "bytes.__repr__" ⟨[a], []⟩ := by unfold argsOk; kernel_rfl
theorem rK (b : Array UInt8) (t : Tok) (hz : 4 * b.size + 3 <= 16777216) : Gives («bytes.__repr__» ⟨[.bytes b t], []⟩) (.str (Bytes.literal b)) := by
 refine .of_eq ?_
 show (do retStr (<- Bytes.literalAsked b) : Sem Fin) = _
 unfold Bytes.literalAsked
 rw [KBy.tooLong_not hz]
 rfl
theorem iG {α : Type} (f : α -> Array Nat) (hf : ∀ c, (f c).size <= 4) : ∀ (l : List α) (acc : Array Nat), (l.foldl (λ acc c => acc ++ f c) acc).size <= acc.size + 4 * l.length
 | [], acc => by simp
 | c :: r, acc => by
  rw [List.foldl_cons]
  have := iG f hf r (acc ++ f c)
  rw [Array.size_append] at this
  have := hf c
  rw [List.length_cons]
  omega
theorem zcK (b : Bs) : (Bytes.literal b.toArray).length <= 4 * b.length + 3 := by
 unfold Bytes.literal
 show Array.size _ <= _
 rw [Array.size_push, List.foldl_toArray]
 refine nLT (Nat.succ_le_succ (iG _ (λ c => ?_) b _)) ?_
 ·dsimp only
  repeat' split
  all_goals first | (show 4 <= 4; exact Nat.le_refl 4) | (show 2 <= 4; exact Nat.le_of_ble_eq_true rfl) | (show 1 <= 4; exact Nat.le_of_ble_eq_true rfl)
 ·show 2 + 4 * b.length + 1 <= _
  omega
theorem iH {prog : Program} {w : World} (b : Bs) (t : Tok) (hz : b.length <= 900) : ReprIs prog w (.bytes b.toArray t) (Bytes.literal b.toArray) := λ n hn z z z z h => by
 have hn' : n <= sizeLine := nLT (Nat.le_add_right _ _) hn
 rw [pyReprUnder_leaf (v := .bytes b.toArray t) hn' (λ z e => nomatch e)]
 unfold pyRepr
 have hl := zcK b
 exact wBD (wpAny_pyReprObj_gives (typeIs_bytes _ _ _) pQ rJ (pR _) (rK _ t (by rw [List.size_toArray]; exact nLT (Nat.add_le_add_right (Nat.mul_le_mul_left 4 hz) 3) (by decide))) (wpAny_pure (h _)) (hx := by rw [sizeLine_eq]; omega))
noncomputable def zeK : AV -> Str
 | .int i => Str.ofString (toString i)
 | .bytes b => Bytes.literal b.toArray
 | _ => Str.ofString "None"
noncomputable def zcL : AV -> Str
 | .tup [.int k, v] => tupleText [Str.ofString (toString k), zeK v]
 | _ => Str.empty
theorem zcM {i : Int} (h : i.natAbs.log2 < 1920) : (Str.ofString (toString i)).length <= 1921 := by
 rw [PySem.ofString_length]
 exact int_text_length_le (k := 1920) (by decide) h
theorem bM {n : Nat} (h : n < big) : n.log2 < 1920 := by
 by_cases z : n = 0
 ·rw [z]; decide
 ·exact (Nat.log2_lt z).mpr (Nat.lt_of_lt_of_le (show n < 2 ^ 65 from h) (Nat.pow_le_pow_right (n := 2) (by decide) (by decide : 65 <= 1920)))
theorem zcN {v : AV} (h : okV v) : (zeK v).length <= 3700 := by
 cases v with
 | int i => exact nLT (zcM (bM h)) (by decide)
 | bytes b =>
  have h : b.length <= 900 := h
  have := zcK b
  show (Bytes.literal b.toArray).length <= 3700
  omega
 | none => decide +kernel
 | _ => exact h.elim
theorem zhb (x y : Str) : (tupleText [x, y]).length = x.length + y.length + 4 := by
 unfold tupleText
 rw [strLen_append, strLen_append]
 show ((("(" : String) : Str)).length + (x ++ ", " ++ Str.join ", " [y]).length + (((")" : String) : Str)).length = _
 rw [strLen_append, strLen_append]
 show 1 + (x.length + 2 + y.length) + 1 = _
 omega
theorem zcO : ∀ (ts : List Str) (k : Nat) (acc : Str) (m : Nat), (∀ t ∈ ts, t.length <= m) -> (textFrom k acc ts).length <= acc.length + (m + 2) * ts.length
 | [], _, acc, m, _ => Nat.le_add_right _ _
 | t :: r, k, acc, m, h => by
  have h1 := zcO r (k + 1) (acc ++ (if k > 0 then ", " else "" : String) ++ t) m λ x hx => h x (.tail _ hx)
  have e : (acc ++ (if k > 0 then ", " else "" : String) ++ t).length <= acc.length + 2 + t.length := by
   rw [strLen_append, strLen_append]
   split
   ·exact Nat.le_refl _
   ·exact Nat.add_le_add_right (Nat.le_add_right acc.length 2) _
  have h2 := h t (.head _)
  show (textFrom (k + 1) _ r).length <= _
  rw [List.length_cons, Nat.mul_add]
  omega
section
variable {c : Cfg} {f : Frm}
theorem zhc {P : Pl} {v : AV} {w : Value} (hv : VR c P v w) (ho : okV v) (h₀ : Heap) : ReprK c.prog c.w [] h₀ 0 w (zeK v) := by
 cases v with
 | none => exact (show Value.none = w from hv) ▸ .of_is ReprIs.none _ _ _
 | int i => obtain ⟨t⟩ : xX i w := hv; exact .of_is (ReprIs.int t (bM ho)) _ _ _
 | bytes b => obtain ⟨t⟩ : wU b w := hv; exact .of_is (iH b t ho) _ _ _
 | _ => exact ho.elim
theorem zhd {P : Pl} {k : Int} {v : AV} {w : Value} {h : Heap} (N : ∀ p ∈ P.news, h.get? p.1 = some p.2) (hv : VR c P (vK k v) w) (hk : k.natAbs < big) (ho : okV v) : ∃ a, w = .ref a /\ ¬ P.M a /\ ReprK c.prog c.w [a] h 1 w (zcL (vK k v)) := by
 obtain ⟨ws, hvs, r⟩ := hv
 obtain ⟨a, n, o⟩ := r
 cases ws with
 | nil => exact hvs.elim
 | cons w1 ws => cases ws with
  | nil => exact hvs.2.elim
  | cons w2 ws =>
   have e : [] = ws := hvs.2.2
   subst e
   obtain ⟨t1⟩ : xX k w1 := hvs.1
   exact ⟨a, rfl, o.2, ReprK.tuple (as := []) (d := 0) (ts := [Str.ofString (toString k), zeK v]) (N _ o.1) rfl rfl (λ q => nomatch q) (.cons (.of_is (ReprIs.int t1 (bM hk)) _ _ _) (.cons (zhc hvs.2.1 ho h) .nil))⟩
theorem zaD {P : Pl} {h : Heap} (N : ∀ p ∈ P.news, h.get? p.1 = some p.2) {ts : List AV} : ∀ {ws : List Value}, yx (VR c P) ts ws -> (∀ t ∈ ts, ∃ k v, t = vK k v /\ k.natAbs < big /\ okV v) ->
  ∃ as, (∀ a ∈ as, ¬ P.M a) /\ ReprAllK c.prog c.w as h 1 ws (ts.map zcL) := by
 induction ts with
 | nil =>
  intro ws hv _
  cases ws with
  | nil => exact ⟨[], (λ z q => nomatch q), .nil⟩
  | cons => exact hv.elim
 | cons t r ih =>
  intro ws hv ho
  cases ws with
  | nil => exact hv.elim
  | cons w wr =>
   obtain ⟨k, v, rfl, hk, hok⟩ := ho t (.head _)
   obtain ⟨a, rfl, hM, hR⟩ := zhd N hv.1 hk hok
   obtain ⟨as, hMs, hA⟩ := ih hv.2 λ x hx => ho x (.tail _ hx)
   refine ⟨a :: as, λ b hb => ?_, .cons (hR.more λ b hb => ?_) (hA.more_le (λ b hb => .tail _ hb) (Nat.le_refl _))⟩
   ·rcases mCM hb with rfl | hb
    ·exact hM
    ·exact hMs b hb
   ·rw [List.mem_singleton.mp hb]; exact .head _
noncomputable def zeL (ts : List AV) : Str := listText (ts.map zcL)
theorem zcP {ts : List AV} (hl : ts.length <= 900) (ho : ∀ t ∈ ts, ∃ k v, t = vK k v /\ k.natAbs < big /\ okV v) : (zeL ts).length <= 16777216 := by
 unfold zeL listText
 rw [strLen_append]
 have h1 := zcO (ts.map zcL) 0 "[" 5700 λ x hx => by
  obtain ⟨t, ht, rfl⟩ := List.mem_map.mp hx
  obtain ⟨k, v, rfl, hk, hv⟩ := ho t ht
  have a := zcM (bM hk)
  have b := zcN hv
  show (tupleText _).length <= _
  rw [zhb]
  omega
 rw [List.length_map] at h1
 have e : ((("[" : String) : Str)).length = 1 := rfl
 have e2 : ((("]" : String) : Str)).length = 1 := rfl
 rw [e] at h1
 rw [e2]
 omega
theorem iI {A : Around} {y : Lc} {d : Wd} {ad : Addr} {ts : List AV} {Q : Value -> Shared -> Prop} {E : Value -> Shared -> Prop} (R : Rl ⟨c, f⟩ y d) (hg : y.g.hp ad = some ts) (hl : ts.length <= 900)
  (ho : ∀ t ∈ ts, ∃ k v, t = vK k v /\ k.natAbs < big /\ okV v) (hgd : A.guards = some []) (hu : A.units + 8 < cLine)
  (hQ : ∀ h' u tk, (∀ b o, d.s.heap.get? b = some o -> h'.get? b = some o) -> Q (.str (zeL ts) u) (d.to h' tk)) : wpAny (model c.prog c.w) A (call (.builtin "repr") [.ref ad]) Q E d.s := by
 obtain ⟨ws, n, o, hvs⟩ := R.st.hp ad ts hg
 have N : ∀ p ∈ d.P.news, d.s.heap.get? p.1 = some p.2 := λ p hp => (R.N p hp).1
 obtain ⟨as, hMs, hA⟩ := zaD (c := c) N hvs ho
 have hna : ad ∉ as := λ q => hMs ad q o.2
 have hz : (zeL ts).length <= sizeLine := by rw [sizeLine_eq]; exact zcP hl ho
 refine call_repr_slot (Nat.lt_of_le_of_lt (Nat.add_le_add_left (by decide) _) hu) (T := "list") (idr := "list.__repr__") ⟨_, N _ o.1, rfl⟩ F.slot_list_repr.toG ?_
 cases ws with
 | nil => cases ts with
  | cons => exact hvs.elim
  | nil => exact call_list_repr_empty ⟨_, N _ o.1, rfl⟩ (N _ o.1) rfl ⟨_, _, rfl, hQ d.s.heap _ _ λ z z x => x⟩
 | cons x r => exact call_list_reprK (as := as) (d := 1) (g := []) (ts := ts.map zcL) (N _ o.1) rfl rfl hna (by simpa using hA.length_eq) (λ i y e => hA.item i y (by simpa using e)) hgd (λ b z => Clear.nil b) (by show A.units + 1 + (1 + 1) < cLine; omega) (λ z z x => x) (λ h' u tk hk => ⟨_, _, rfl, hQ h' u tk hk⟩) hz
end
section
variable {c : Cfg} {T : Names} {fa : Nat -> Addr} {f : Frm} {n : Nat}
theorem ziQ (S : St ⟨c, f⟩ T fa n) (hgA : f.A.guards = some []) {y : Lc} {d : Wd} {Qc : Flow -> Shared -> Prop} {Ec : Value -> Shared -> Prop} {a1 a2 : Addr} {ts : List AV} {p1 p2 p3 p4 p5 p6 p7 p8 p9 p10 p11 p12 : Pos}
  (R : Rl ⟨c, f⟩ y d) (g2 : zQ y.l 2 = some (.list a1)) (g3 : zQ y.l 3 = some (.bytes [])) (g5 : zQ y.l 5 = some (.list a2)) (h2 : zB f.scope.names 2 "due" = true) (h3 : zB f.scope.names 3 "words" = true) (h5 : zB f.scope.names 5 "found" = true)
  (hr : zy f.scope.names "repr" "repr" = true) (hrep : nsIn c.K mainGlobals "repr" = some none) (e1 : y.g.hp a1 = some ts) (e2 : y.g.hp a2 = some ts) (hl : ts.length <= 900) (ho : ∀ t ∈ ts, ∃ k v, t = vK k v /\ k.natAbs < big /\ okV v) (hu : f.A.units + 8 < cLine)
  (k : ∀ b, Rl ⟨c, f⟩ y b -> Up d b -> Qc (.ret (.bool true)) b.s) :
  wpAny (model c.prog c.w) f.A (exec (.Return (some (.BoolOp .And [.Compare (.Name "words" p1) [.Eq] [.Constant (.bytes []) 0 p2] p3, .Compare (.Call (.Name "repr" p4) [.Name "found" p5] [] p6) [.Eq] [.Call (.Name "repr" p7) [.Name "due" p8] [] p9] p10] p11)) p12) f.env) Qc Ec d.s := by
 refine xQ h2 λ i1 i2 i3 => xQ h3 λ j1 j2 j3 => xQ h5 λ l1 l2 l3 => yH hr λ z r2 r3 => ?_
 obtain ⟨w2, b2, b3⟩ := R.loc 2 _ _ g2 i1
 obtain ⟨w3, d2, d3⟩ := R.loc 3 _ _ g3 j1
 obtain ⟨w5, f2, f3⟩ := R.loc 5 _ _ g5 l1
 obtain rfl : Value.ref a1 = w2 := b3
 obtain rfl : Value.ref a2 = w5 := f3
 obtain ⟨t3⟩ : wU [] w3 := d3
 refine wpAny_Return_some ?_
 show wpAny _ _ (boolOp p11 .And (evalEach [_, _] f.env)) _ _ _
 refine uL (c := true) ?_
 refine wpAny_Compare1 ?_
 refine ld R.F d2 (Constant_bytes ?_) S.here.kind j3 j2
 refine eq_bytes ?_
 refine wpAny_truthy_bool ⟨λ z => ?_, λ h => nomatch (show true = false from h)⟩
 show wpAny _ _ (eval (.Compare (.Call (.Name "repr" p4) [.Name "found" p5] [] p6) [.Eq] [.Call (.Name "repr" p7) [.Name "due" p8] [] p9] p10) f.env) _ _ _
 refine wpAny_Compare1 ?_
 refine Call_ (name_B R.F S.here.kin (topRead_of S.here.top) hrep boot_repr (by decide) ?_ S.here.kind r3 r2)
 refine yZ (P := λ z => True) rfl (zG (λ z e => nomatch e)) (args1 rfl ?_)
 refine ld R.F f2 ⟨trivial, ?_⟩ S.here.kind l3 l2
 refine iI (d := ⟨d.P, { d.s with toks := _ }⟩) R.tk e2 hl ho hgA hu λ h4 u4 tk4 k4 => ?_
 have R4 : Rl ⟨c, f⟩ y ⟨d.P, d.to h4 tk4⟩ := R.grown k4
 refine Call_ (name_B R4.F S.here.kin (topRead_of S.here.top) hrep boot_repr (by decide) ?_ S.here.kind r3 r2)
 refine yZ (P := λ z => True) rfl (zG (λ z e => nomatch e)) (args1 rfl ?_)
 refine ld R4.F b2 ⟨trivial, ?_⟩ S.here.kind i3 i2
 refine iI (d := ⟨d.P, d.to h4 tk4⟩) R4 e1 hl ho hgA hu λ h5 u5 tk5 k5 => ?_
 refine PyProof.Rows.eq_str ?_
 rw [beq_self_eq_true]
 exact k ⟨d.P, d.to h5 tk5⟩ (R4.grown k5) ⟨Ext.refl _, rfl⟩
end
noncomputable def zeM (n : Nat) : Bs := if n = 0 then [] else if n < 10 then [(48 + n).toUInt8] else [(48 + n / 10).toUInt8, (48 + n % 10).toUInt8]
theorem zeN : ∀ n : Fin 100, 0 < n.val -> zeM n.val = kO n.val := by decide +kernel
theorem zcQ : ∀ n : Fin 100, 0 < n.val -> zeM (n.val / 10) ++ [((48 : Int) + ((n.val : Nat) : Int).fmod 10).toNat.toUInt8] = zeM n.val := by decide +kernel
noncomputable def zkq (p : Nat -> Pos) : List Stmt := [.Assign [.Name "found" (p 0)] (.Constant (.bytes []) 0 (p 1)) (p 2), .While (.Compare (.Name "number" (p 3)) [.Gt] [.Constant (.int 0) 0 (p 4)] (p 5)) [.Assign [.Name "found" (p 6)] (.BinOp (.Call (.Name "bytes" (p 7)) [.List [.BinOp (.Constant (.int 48) 0 (p 8)) .Add (.BinOp (.Name "number" (p 9)) .Mod (.Constant (.int 10) 0 (p 10)) (p 11)) (p 12)] (p 13)] [] (p 14)) .Add (.Name "found" (p 15)) (p 16)) (p 17), .Assign [.Name "number" (p 18)] (.BinOp (.Name "number" (p 19)) .FloorDiv (.Constant (.int 10) 0 (p 20)) (p 21)) (p 22)] [] (p 23), .Return (some (.Name "found" (p 24))) (p 25)]
noncomputable def zkW : List Pos := [⟨564, 4, 564, 9⟩, ⟨564, 12, 564, 15⟩, ⟨564, 4, 564, 15⟩, ⟨565, 10, 565, 16⟩, ⟨565, 19, 565, 20⟩, ⟨565, 10, 565, 20⟩, ⟨566, 8, 566, 13⟩, ⟨566, 16, 566, 21⟩, ⟨566, 23, 566, 25⟩, ⟨566, 28, 566, 34⟩, ⟨566, 37, 566, 39⟩, ⟨566, 28, 566, 39⟩, ⟨566, 23, 566, 39⟩, ⟨566, 22, 566, 40⟩, ⟨566, 16, 566, 41⟩, ⟨566, 44, 566, 49⟩, ⟨566, 16, 566, 49⟩, ⟨566, 8, 566, 49⟩, ⟨567, 8, 567, 14⟩, ⟨567, 17, 567, 23⟩, ⟨567, 27, 567, 29⟩, ⟨567, 17, 567, 29⟩, ⟨567, 8, 567, 29⟩, ⟨565, 4, 567, 29⟩, ⟨568, 11, 568, 16⟩, ⟨568, 4, 568, 16⟩]
inductive um (ns : NS) (pb : List Stmt) : Prop
 | mk (p : Nat -> Pos) (e : pb = zkq p) (h1 : zB ns 0 "number" = true) (h2 : zB ns 1 "found" = true) (h3 : zy ns "bytes" "bytes" = true) : um ns pb
section
variable {c : Cfg} {f : Frm}
theorem zeO : ∀ k : Fin 100, 0 <= (48 : Int) + ((k.val : Nat) : Int).fmod 10 /\ (48 : Int) + ((k.val : Nat) : Int).fmod 10 < 256 := by decide +kernel
theorem zcR : ∀ k : Fin 100, 0 < k.val -> 200 - 2 * k.val + 1 <= 200 - 2 * (k.val / 10) := by decide +kernel
theorem zeP {n k : Nat} (h : n <= 200 - 2 * k) (hk : 0 < k) (h1 : k < 100) : n + 1 <= 200 - 2 * (k / 10) := nLT (Nat.succ_le_succ h) (zcR ⟨k, h1⟩ hk)
set_option maxHeartbeats 1000000 in
theorem zeQ {A : Around} {e : Addr} {oe : Obj} {vs : Array Value} {cn : Str} {cs : Scope} {ccd : Value} {aD L' : Addr} {g0 : Heap} {news : List (Addr × Obj)} {p : Nat -> Pos} (blt : nsIn c.K mainGlobals "bytes" = some none) (hh : A.handled = some (.ref e)) (hm : (e, oe) ∈ news) (hd : oe.data = .fields vs) (hctx : vs[2]? = some .none)
  (K1 : c.K.In g0) (T1 : Top c.p c.loose c.mean c.mg c.mb g0) (h6 : cs.kind = .function) (n1 : cs.names.lookup ("number" : Str) = some .local) (d1 : (("number" : Str) == "__debug__") = false) (n2 : cs.names.lookup ("found" : Str) = some .local) (d2 : (("found" : Str) == "__debug__") = false) (z2 : (("bytes" : Str) == "__debug__") = false) (z3 : cs.names.lookup ("bytes" : Str) = some .globalImplicit)
  {K : Nat} {t : Tok} (hK : K < 100) {s : Shared} {m1 : Str -> Option Value} (F1 : Fr g0 L' s.heap m1) (N1 : News g0 L' s.heap news) (hn0 : m1 "number" = some (.int (K : Int) t)) {Q : Flow -> Shared -> Prop} {E : Value -> Shared -> Prop}
  (hq : ∀ h' tk m9 u, Fr g0 L' h' m9 -> News g0 L' h' news -> Q (.ret (.bytes (zeM K).toArray u)) { s with heap := h', toks := tk }) : wpAny (model c.prog c.w) A (execs (zkq p) (envOf cn cs L' aD ccd)) Q E s := by
 refine ak λ Q1 q1 => qu λ E1 => wpAny_Assign_Name (Constant_bytes ?_) rfl
 refine stN F1 N1 (λ h2 F2 N2 => q1 _ ?_) h6 n2
 refine wpAny_execs_cons (wpAny_While ?_)
 refine codeAny_whileLoop (λ k s' => ∃ (fd : Bs) (h3 : Heap) (tk3 : Nat) (m3 : Str -> Option Value) (u v : Tok), k <= K /\ fd.length <= 200 - 2 * k /\ zeM k ++ fd = zeM K /\ Fr g0 L' h3 m3 /\ News g0 L' h3 news /\ m3 "number" = some (.int (k : Int) u) /\ m3 "found" = some (.bytes fd.toArray v) /\ s' = { s with heap := h3, toks := tk3 }) (λ k s' hI => uo λ Q2 q2 => qu λ E2 => ?_) K
  ⟨[], h2, _, _, t, _, Nat.le_refl _, Nat.zero_le _, List.append_nil _, F2, N2, (if_neg (by decide)).trans hn0, if_pos rfl, rfl⟩
 refine zkv hI ?_
 intro fd h3 tk3 m3 u v hx
 refine zkx hx ?_
 clear hx
 rintro hk hfl hfd F3 N3 mn mf rfl
 refine wpAny_isTrue_Compare1 (ld (s := { s with heap := h3, toks := tk3 }) F3 mn (wpAny_Constant_int (PyProof.Rows.gt_int (wpAny_truthy_bool ?_))) h6 n1 d1)
 by_cases hk0 : 0 < k
 ·refine q2 _ _ (ifT (decide_eq_true (Int.natCast_pos.mpr hk0)) (uo λ Q2 q2 => qu λ E2 => ?_))
  refine ak λ Q3 q3 => qu λ E3 => wpAny_Assign_Name ?_ rfl
  refine wpAny_BinOp ?_
  refine Call_ (name_B F3 K1 (topRead_of T1) blt boot_bytes (by decide) ?_ h6 z3 z2)
  refine yZ (P := λ y => True) rfl (zG (λ y e => nomatch e)) (args1 rfl (List_ (args1 rfl ?_)))
  refine wpAny_BinOp (wpAny_Constant_int (wpAny_BinOp (ld (s := { s with heap := h3, toks := _ }) F3 mn (wpAny_Constant_int ?_) h6 n1 d1)))
  refine PyProof.Rows.mod_int (by decide) (PyProof.Rows.add_int ?_)
  have hst := zcQ ⟨k, Nat.lt_of_le_of_lt hk hK⟩ hk0
  have hb := zeO ⟨k, Nat.lt_of_le_of_lt hk hK⟩
  dsimp only at hst hb
  generalize hx : (48 : Int) + ((k : Int)).fmod 10 = x at hst hb ⊢
  refine newList_N (s := { s with heap := h3, toks := _ }) F3 N3 (λ h4 F4 N4 => ?_) (Nat.le_of_ble_eq_true rfl)
  refine ⟨trivial, ?_⟩
  refine nC (e := e) (s := { s with heap := h4, toks := _ }) hh ⟨oe, vs, (N4 _ (.tail _ hm)).1, hd, hctx⟩ ⟨_, (N4 _ (.head _)).1, rfl, 0, rfl⟩ hb.1 hb.2 λ h5 t5 k5 kp5 => ?_
  have F5 := F4.keeps kp5
  have N5 : News g0 L' h5 news := λ p hp => ⟨kp5 _ _ (N4 p (.tail _ hp)).1, (N4 p (.tail _ hp)).2⟩
  refine ld (s := { s with heap := h5, toks := k5 }) F5 mf ?_ h6 n2 d2
  refine bytes_add_K (b := [x.toNat.toUInt8]) (c := fd) (s := { s with heap := h5, toks := k5 }) (nLT (Nat.add_le_add (Nat.le_refl 1) (nLT hfl (Nat.sub_le 200 _))) (by decide : 1 + 200 <= 16777216)) rfl λ t6 k6 => ?_
  refine stN (s := { s with heap := h5, toks := k6 }) F5 N5 (λ h7 F7 N7 => q3 _ ?_) h6 n2
  refine ak λ Q4 q4 => qu λ E4 => wpAny_Assign_Name ?_ rfl
  refine wpAny_BinOp (ld (s := { s with heap := h7, toks := _ }) F7 ((if_neg (by decide)).trans mn) (wpAny_Constant_int ?_) h6 n1 d1)
  refine floordiv_int (by decide) ?_ (.inl (PyProof.noPylong_small (by decide)))
  refine stN (s := { s with heap := h7, toks := _ }) F7 N7 (λ h8 F8 N8 => q4 _ (wpAny_execs_nil (q2 _ _ ?_))) h6 n1
  have hdiv : ((k : Int)).fdiv 10 = ((k / 10 : Nat) : Int) := Int.fdiv_eq_ediv_of_nonneg _ (by decide)
  refine ⟨k / 10, Nat.div_lt_self hk0 (by decide), x.toNat.toUInt8 :: fd, h8, _, _, _, t6, nLT (Nat.div_le_self _ _) hk, zeP hfl hk0 (Nat.lt_of_le_of_lt hk hK), ?_, F8, N8, (if_pos rfl).trans (congrArg (λ z => some (Value.int z _)) hdiv), (if_neg (by decide)).trans (if_pos rfl), rfl⟩
  rw [<- hfd, <- hst, List.append_assoc]; rfl
 ·obtain rfl : k = 0 := Nat.eq_zero_of_not_pos hk0
  refine q2 _ _ (ifF (by decide) (wpAny_execs_nil (wpAny_execs_cons (wpAny_Return_some ?_))))
  refine ld F3 mf ?_ h6 n2 d2
  have hfe : fd = zeM K := hfd
  rw [hfe]
  exact hq h3 _ _ v F3 N3
set_option maxHeartbeats 1000000 in
theorem zcS {aD : Addr} (K0 : pL c aD (fY um) 1) (blt : nsIn c.K mainGlobals "bytes" = some none) (below : Below f.A₁ f.base f.outer f.h₀) (kin : c.K.In f.h₀) (top : Top c.p c.loose c.mean c.mg c.mb f.h₀) (kind : f.scope.kind = .function) {A : Around} {e : Addr} {oe : Obj} {vs : Array Value} (hA : A.frames = some (f.env :: f.outer)) (hh : A.handled = some (.ref e)) (depth : A.depth + 8 < recursionLimit)
  {s : Shared} {m : Str -> Option Value} {news : List (Addr × Obj)} (F : Fr f.h₀ f.L s.heap m) (N : News f.h₀ f.L s.heap news) (hm : (e, oe) ∈ news) (hd : oe.data = .fields vs) (hctx : vs[2]? = some .none) {K : Nat} {t : Tok} (hK : K < 100)
  {Qc Ec : Value -> Shared -> Prop} (hq : ∀ h' tk u, Fr f.h₀ f.L h' m -> News f.h₀ f.L h' news -> Qc (.bytes (zeM K).toArray u) { s with heap := h', toks := tk }) :
  codeAny (model c.prog c.w) A (.call (.ref aD) ⟨[.int (K : Int) t], []⟩) (zbh Qc Ec) s := by
 obtain ⟨oc, od, osl, fd0, pbody, ps, h1, D⟩ := K0
 obtain ⟨p, rfl, e1, e2, e3⟩ := fY.of D.chk
 have h12 := D.bind s [.int (K : Int) t] rfl
 refine xQ e1 λ l1 d1 n1 => xQ e2 λ l2 d2 n2 => yH e3 λ z1 z2 z3 => ?_
 have hps : ps = [("number" : Str)] := by
  have hl := D.pl
  have hp := D.pn
  cases ps with
  | nil => cases hl
  | cons p r => cases r with
   | cons => cases hl
   | nil =>
    have := l1.symm.trans (hp 0 p rfl)
    cases this; rfl
 subst hps
 rw [D.fn] at h1 h12
 refine code_def (s := s) below F kin N top hA rfl kind h1 D.code (by omega) h12 (λ y hy => (List.mem_singleton.mp hy) ▸ n1) (λ g0 L' hp1 F0 F1 N1 B1 K1 T1 => ?_) D.co D.ge D.ki D.cells
 refine zeQ (A := A.deeper (envOf fd0.qualname fd0.scope L' aD fd0.code)) (s := { s with heap := hp1, toks := _ }) (m1 := λ y => ([("number" : Str)].zip [Value.int (K : Int) t]).reverse.lookup y) blt hh hm hd hctx K1 T1 D.ki n1 d1 n2 d2 z2 z3 hK F1 N1 rfl ?_
 intro h' tk m9 u F9 N9
 refine leaveK_ F9 N9 ?_
 intro F8 N8
 exact hq h' tk u F8 N8
end
end
section
open PyProof.Rows PySem.Builtin PySem.Builtin.ObjectAttr PySem.Calls
section
variable {prog : Program} {w : World} {A : Around} {E : Value -> Shared -> Prop} {s : Shared} {K : Frag} {x C : Addr} {ox : Obj} {od : Option Obj} {name : Str} {Q : Value -> Shared -> Prop}
set_option maxHeartbeats 100000 in
theorem zhe {v : Value} (X : K.In s.heap) (I : InstAt s.heap x ox C od) (hga : findIn K (.ref C) "__getattribute__" = some (some (.builtin "BaseException.__getattribute__"))) (hgt : findIn K (.ref C) "__getattr__" = some none)
  (hm : mroIn K C (.type "BaseException") = some true) (hf : findObj K C od name = some (.value v)) (hh : handedIn v = true) (h : Q v { s with toks := s.toks + 1 }) : wpAny (model prog w) A (getAttr (.ref x) name true) Q E s := by
 obtain ⟨hp, g, d, t, os⟩ := s
 have L0 := I.type (M := model prog w)
 have L1 := looks_findIn (M := model prog w) X hga
 have L2 := looks_findIn (M := model prog w) X hgt
 have L3 := looks_find (M := model prog w) X I hf
 have S : Looks (model prog w) hp (isInstance (.ref x) (.type "BaseException")) true := L0.andThen (looks_mroIn X hm)
 unfold getAttr getAttrBy
 refine wBD (wpAny_mkText (wpAny_holding (wBD (L0.at (wBD (L1.at ?_))))))
 show wpAny _ _ (getAttrByItsOwn _ _ _ _ _ _) _ _ _
 unfold getAttrByItsOwn hookBefore
 refine wBD (L2.at ?_)
 refine wBD (wpAny_attempt (wpAny_holding ?_))
 show wpAny _ _ (boundAndCalled _ _ _) _ _ _
 unfold boundAndCalled
 have hb : bindSpecial (.builtin "BaseException.__getattribute__") (.ref x) = pure (.builtin "BaseException.__getattribute__", [.ref x]) := PySem.F.attr_Exception.ga.bind (.ref x)
 rw [hb]
 refine wBD (wpAny_pure (wpAny_call ?_))
 have hk : builtinKind "BaseException.__getattribute__" = some .slot := by decide +kernel
 have hsplit : splitId "BaseException.__getattribute__" = some ("BaseException", "__getattribute__") := by decide +kernel
 have ha := F.args_bexc_ga (.ref x) (.str name t)
 refine codeAny_call_builtin PySem.F.attr_Exception.ga.plain F.entry_bexc_ga ?_
 show wpAny _ _ (checkBuiltinCall "BaseException.__getattribute__" ⟨Value.ref x :: [Value.str name t], []⟩) _ _ _
 refine check_slot (i := "BaseException.__getattribute__") (owner := "BaseException") (n := "__getattribute__") ?_ ?_ ?_ ?_ ?_
 ·exact hk
 ·exact hsplit
 ·exact S
 ·exact ha
 unfold Builtin.«object.__getattribute__»
 refine wBD (wpAny_of_eq (a := (Value.ref x, [Value.str name t])) rfl ?_)
 dsimp only
 refine wBD (wpAny_of_eq (a := name) rfl ?_)
 refine wBD (L0.at (wBD (L3.at ?_)))
 refine wpAny_pure ?_
 show wpAny _ _ (handedOut v) _ _ _
 rw [handedOut_of hh]
 exact wpAny_pure h
end
end
section
open PyProof.Rows PySem.Builtin PySem.Calls
noncomputable def zhf (p1 p2 p3 p4 p5 p6 p7 p8 p9 p10 p11 p12 p13 p14 p15 p16 p17 p18 : Pos) : Stmt :=
 .Return (some (.BoolOp .And [.Compare (.Name "words" p1) [.NotEq] [.Constant (.bytes []) 0 p2] p3,
  .Call (.Attribute (.Attribute (.Name "caught" p4) "value" p5) "startswith" p6) [.BinOp (.BinOp (.BinOp (.Constant (.bytes [113, 58]) 0 p7) .Add (.Call (.Name "_law_digits" p8) [.Name "line" p9] [] p10) p11) .Add (.Constant (.bytes [58, 32]) 0 p12) p13) .Add (.Name "words" p14) p15] [] p16] p17)) p18
structure bO (c : Cfg) : Prop where
 ga : findIn c.K (.ref c.excC) "__getattribute__" = some (some (.builtin "BaseException.__getattribute__"))
 gt : findIn c.K (.ref c.excC) "__getattr__" = some none
 mro : mroIn c.K c.excC (.type "BaseException") = some true
 dict : hasDictIn c.K c.excC = true
 val : findIn c.K (.ref c.excC) "value" = some none
section
variable {c : Cfg} {f : Frm} {T : Names} {fa : Nat -> Addr} {n : Nat}
theorem handler (S : St ⟨c, f⟩ T fa n) (X : bO c) {aD : Addr} (KD : pL c aD (fY um) 1) (hD : nsIn c.K mainGlobals "_law_digits" = some (some (.ref aD)) /\ keepIn c.K (.ref aD) = true) {p1 p2 p3 p4 p5 p6 p7 p8 p9 p10 p11 p12 p13 p14 p15 p16 p17 p18 : Pos} {e d : Addr} {oe : Obj} {vs : Array Value} {es : List DictEntry} {nn : Nat} {s : Shared} {m : Str -> Option Value} {w tail : Bs} {K : Nat} {t1 t2 t3 : Tok} {Q : Flow -> Shared -> Prop} {Ec : Value -> Shared -> Prop}
  (F : Fr f.h₀ f.L s.heap m) (N : News f.h₀ f.L s.heap [(e, oe)]) (hc : oe.cls = .ref c.excC) (hd : oe.data = .fields vs) (hctx : vs[2]? = some .none) (hdd : oe.dict = some d) (hdo : s.heap.get? d = some (dictOf es nn)) (hv : getL "value" es = some (some (.bytes ([113, 58] ++ kO K ++ [58, 32] ++ w ++ tail).toArray t1)))
  (mc : m "caught" = some (.ref e)) (mw : m "words" = some (.bytes w.toArray t2)) (ml : m "line" = some (.int (K : Int) t3)) (hw : w ≠ []) (hwl : w.length <= 1000) (hK0 : 0 < K) (hK : K < 100)
  (n1 : f.scope.names.lookup ("caught" : Str) = some .local) (n2 : f.scope.names.lookup ("words" : Str) = some .local) (n3 : f.scope.names.lookup ("line" : Str) = some .local) (n4 : f.scope.names.lookup ("_law_digits" : Str) = some .globalImplicit) (hline : (p6.endLine == p16.line) = true)
  (hq : ∀ h tk, Fr f.h₀ f.L h m -> Q (.ret (.bool true)) { s with heap := h, toks := tk }) :
  wpAny (model c.prog c.w) (f.A.mark (some (.ref e))) (execs [zhf p1 p2 p3 p4 p5 p6 p7 p8 p9 p10 p11 p12 p13 p14 p15 p16 p17 p18] f.env) Q Ec s := by
 have tr := topRead_of S.here.top
 refine wpAny_execs_cons (wpAny_Return_some ?_)
 show wpAny _ _ (boolOp p17 .And (evalEach [_, _] f.env)) _ _ _
 refine uL (c := true) ?_
 refine wpAny_Compare1 ?_
 refine ld F mw (Constant_bytes ?_) S.here.kind n2 (by decide)
 refine ne_bytes ?_
 show wpAny _ _ (truthy (.bool (!(w.toArray.toList == ([] : Bs).toArray.toList)))) _ _ _
 rw [dG, decide_eq_false hw]
 refine wpAny_truthy_bool ⟨λ z => ?_, λ h => nomatch (show true = false from h)⟩
 show wpAny _ _ (eval (.Call (.Attribute (.Attribute (.Name "caught" p4) "value" p5) "startswith" p6) [.BinOp (.BinOp (.BinOp (.Constant (.bytes [113, 58]) 0 p7) .Add (.Call (.Name "_law_digits" p8) [.Name "line" p9] [] p10) p11) .Add (.Constant (.bytes [58, 32]) 0 p12) p13) .Add (.Name "words" p14) p15] [] p16) f.env) _ _ _
 have hb : ∀ w : Sem Value, attributeBase (.Attribute (.Name "caught" p4) "value" p5) ("startswith" : Str) f.env w = w := λ w => rfl
 have hb2 : ∀ w : Sem Value, attributeBase (.Name "caught" p4) ("value" : Str) f.env w = w := λ w => rfl
 apply yD
 ·exact rfl
 ·exact yC rfl
 ·exact (by decide : (1 : Nat) < 20)
 ·exact hline
 refine Attribute_any_ ?_ ?_
 ·refine ld F mc ?_ S.here.kind n1 (by decide)
  have I : InstAt s.heap e oe c.excC (some (dictOf es nn)) := ⟨(N _ (.head _)).1, hc, by unfold notCls; rw [hd], by rw [hdd]; exact hdo⟩
  have hf : findObj c.K c.excC (some (dictOf es nn)) "value" = some (.value (.bytes ([113, 58] ++ kO K ++ [58, 32] ++ w ++ tail).toArray t1)) := by
   refine findObj_own X.dict X.val ?_ ?_
   ·unfold noGet; rfl
   ·exact hv
  generalize hmsg : [113, 58] ++ kO K ++ [58, 32] ++ w ++ tail = msg at hf
  have hhand : handedIn (.bytes msg.toArray t1) = true := rfl
  apply zhe (s := ⟨s.heap, s.gens, s.drawn, s.toks + 1, s.os⟩) (S.here.kin.keeps F.keep) I X.ga X.gt X.mro hf hhand
  intro pl
  show wpAny _ _ (getMethod (.bytes msg.toArray t1) ("startswith" : Str) pl) _ _ _
  apply getMethod_builtin
  ·exact typeIs_bytes _ _ _
  ·exact FB.plainAttrs_bytes
  ·exact pO
  ·exact f9
  ·exact λ a e => nomatch e
  refine yZ (P := λ z => True) rfl (zG (λ z e => nomatch e)) (args1 rfl ?_)
  refine wpAny_BinOp (wpAny_BinOp (wpAny_BinOp (Constant_bytes ?_)))
  refine Call_ (name_K F S.here.kin tr hD.1 ?_ S.here.kind n4 (by decide))
  refine yZ (P := c.K.In) rfl (λ h X => keeps_K hD.2 h X) (args1 rfl ?_)
  refine ld F ml ⟨S.here.kin.keeps F.keep, ?_⟩ S.here.kind n3 (by decide)
  have hdep : (f.A.mark (some (.ref e))).depth + 8 < recursionLimit := by
   have : f.A.depth + 3 * n + 10 < recursionLimit := S.here.depth
   show (f.A).depth + 8 < recursionLimit
   omega
  refine wpAny_call (zcS (s := ⟨s.heap, s.gens, s.drawn, s.toks + 1 + 1 + 1, s.os⟩) KD (S.fx.blt "bytes" (by decide)) S.here.below S.here.kin S.here.top S.here.kind (A := f.A.mark (some (.ref e))) S.here.stack rfl hdep F N (.head _) hd hctx hK λ h2 tk2 u2 F2 N2 => ?_)
  have hdg : zeM K = kO K := zeN ⟨K, hK⟩ hK0
  rw [hdg]
  have hdl := cJ K
  have z1 : ([113, 58] : Bs).toArray.size + (kO K).toArray.size <= 16777216 := nLT (Nat.add_le_add (Nat.le_refl 2) hdl) (by decide)
  apply bytes_add_K z1 rfl
  intro t4 k4
  apply Constant_bytes
  have z2 : ([113, 58] ++ kO K).toArray.size + ([58, 32] : Bs).toArray.size <= 16777216 := by
   rw [List.size_toArray, List.size_toArray, List.length_append]
   exact nLT (Nat.add_le_add (Nat.add_le_add (Nat.le_refl 2) hdl) (Nat.le_refl 2)) (by decide)
  apply bytes_add_K z2 rfl
  intro t5 k5
  apply ld F2 mw _ S.here.kind n2 (by decide)
  have z3 : ([113, 58] ++ kO K ++ [58, 32]).toArray.size + w.toArray.size <= 16777216 := by
   rw [List.size_toArray, List.size_toArray, List.length_append, List.length_append]
   exact nLT (Nat.add_le_add (Nat.add_le_add (Nat.add_le_add (Nat.le_refl 2) hdl) (Nat.le_refl 2)) hwl) (by decide)
  apply bytes_add_K z3 rfl
  intro t6 k6
  refine ⟨trivial, ?_⟩
  show wpAny _ _ (call (.builtin "bytes.startswith") [.bytes msg.toArray t1, .bytes ([113, 58] ++ kO K ++ [58, 32] ++ w).toArray t6]) _ _ _
  subst hmsg
  apply eF
  exact hq h2 _ F2
 ·rw [arm_eval_Attribute, hb2]
end
section
variable {c : Cfg} {f : Frm} {T : Names} {fa : Nat -> Addr} {n : Nat}
theorem ziR {m : Str -> Option Value} {g h : Heap} (hb : f.h₀ = f.base) {B : Heap} (F : Fr f.h₀ f.L g m) (U : g.UpToSlots h) (k1 : f.base.StaysIn B) (k2 : B.StaysIn h) : Fr f.h₀ f.L h m :=
 ⟨U.ns F.ns, λ b o e => k2 b o (k1 b o (hb ▸ e)), F.above⟩
theorem zcT (S : St ⟨c, f⟩ T fa n) (hb : f.h₀ = f.base) (X : bO c) {aD : Addr} (KD : pL c aD (fY um) 1) (hD : nsIn c.K mainGlobals "_law_digits" = some (some (.ref aD)) /\ keepIn c.K (.ref aD) = true) (hE : nsIn c.K mainGlobals "LuaSyntaxError" = some (some (.ref c.excC))) (hk : ktsIn c.K c.excC "BaseException" = true)
  {p1 p2 p3 p4 p5 p6 p7 p8 p9 p10 p11 p12 p13 p14 p15 p16 p17 p18 np hpos : Pos} {s : Shared} {m : Str -> Option Value} {msg : Bs} {ev : Value} {w tail : Bs} {K : Nat} {t2 t3 : Tok} {Q : Flow -> Shared -> Prop} {Ec : Value -> Shared -> Prop}
  (R : Rsd c f m msg ev s.heap) (hmsg : msg = [113, 58] ++ kO K ++ [58, 32] ++ w ++ tail)
  (mw : m "words" = some (.bytes w.toArray t2)) (ml : m "line" = some (.int (K : Int) t3)) (hw : w ≠ []) (hwl : w.length <= 1000) (hK0 : 0 < K) (hK : K < 100)
  (n1 : f.scope.names.lookup ("caught" : Str) = some .local) (n2 : f.scope.names.lookup ("words" : Str) = some .local) (n3 : f.scope.names.lookup ("line" : Str) = some .local) (n4 : f.scope.names.lookup ("_law_digits" : Str) = some .globalImplicit) (n5 : f.scope.names.lookup ("LuaSyntaxError" : Str) = some .globalImplicit) (hline : (p6.endLine == p16.line) = true)
  (hq : ∀ h tk m', Fr f.h₀ f.L h m' -> Q (.ret (.bool true)) { s with heap := h, toks := tk }) :
  wpAny (model c.prog c.w) f.A (noteFrame ev f.env) (λ x s₂ => wpAny (model c.prog c.w) f.A (setFlight ev none) (λ x s₃ => wpAny (model c.prog c.w) f.A (handleBy ev f.env [.ExceptHandler (some (.Name "LuaSyntaxError" np)) (some "caught") [zhf p1 p2 p3 p4 p5 p6 p7 p8 p9 p10 p11 p12 p13 p14 p15 p16 p17 p18] hpos]) Q Ec s₃) Ec s₂) Ec s := by
 refine zbC S.here.stack R λ h' H => zdm λ G0 g0 => ?_
 obtain ⟨⟨e, B, d, es, nn, a0, rfl, Mg, H⟩, g, F, U⟩ := H
 refine g0 ?_
 have y : wpAny (model c.prog c.w) f.A (setFlight (.ref e) none) (λ x s' => ∃ h'', s' = { s with heap := h'' } /\ Heap.FlyingW B (f.env :: f.outer) e (.ref c.excC) a0 h'' /\ h'.UpToSlots h'') Ec { s with heap := h' } :=
  wpAny_landsW (s := { s with heap := h' }) H λ h'' Fl U' => ⟨h'', rfl, Fl, U'⟩
 refine wpAny_mono (ud (xY _ _) y) (λ x s' z => zdm λ G1 g1 => ?_) λ x x z => z
 obtain ⟨⟨h5, rfl, Fl5, U5⟩, K5⟩ := z
 have Mg5 := Mg.kept K5
 have F5 : Fr f.h₀ f.L h5 m := ziR hb F (U.trans U5) Mg.stays Fl5.1
 have X5 : c.K.In h5 := S.here.kin.keeps F5.keep
 obtain ⟨ob, hob, hobc⟩ := Fl5.there
 obtain ⟨nm, q', Nn, bs, bm, hdct, sn, sub, ab, col, dd, k0, k1, k2, k3, k5, newId, hC, hbase, hbT⟩ := kts_cls X5 hk
 refine g1 (wpAny_handleBy_cons (codeAny_handlers_test (name_K (s := { s with heap := h5 }) F5 S.here.kin (topRead_of S.here.top) hE ?_ S.here.kind n5 (by decide))) (by intro q; cases q))
 refine wpAny_excMatches_sub_self hC hob hobc hbase (codeAny_handlers_suite_as ?_)
 have y6 : ∀ E' : Value -> Shared -> Prop, wpAny (model c.prog c.w) (f.A.mark (some (.ref e))) (setFlight (.ref e) none) (λ x s' => ∃ h'', s' = { s with heap := h'' } /\ Heap.FlyingW B (f.env :: f.outer) e (.ref c.excC) a0 h'' /\ h5.UpToSlots h'') E' { s with heap := h5 } := λ E' =>
  lands_againW (s := { s with heap := h5 }) Fl5 λ h'' Fl U' => ⟨h'', rfl, Fl, U'⟩
 refine wpAny_mono (ud (xY _ _) (y6 _)) (λ x s' z => zdm λ G2 g2 => ?_) λ x x z => z
 obtain ⟨⟨h6, rfl, Fl6, U6⟩, K6⟩ := z
 have Mg6 := Mg5.kept K6
 have F6 : Fr f.h₀ f.L h6 m := ziR hb F ((U.trans U5).trans U6) Mg.stays Fl6.1
 obtain ⟨oe, hoe, hoed, vs, hoef, hctx⟩ := Mg6.at_
 obtain ⟨oe', hoe', hoec⟩ := Fl6.there
 rw [hoe] at hoe'
 cases hoe'
 obtain ⟨t1, hv⟩ := Mg6.val
 have hd6 : h6.get? d = some (dictOf es nn) := Fl6.1 _ _ Mg6.dict
 have he0 : f.h₀.get? e = none := by
  cases q : f.h₀.get? e with
  | none => rfl
  | some o =>
   have := Mg.stays _ _ (hb ▸ q)
   rw [Fl6.2.1] at this; cases this
 have heL : e ≠ f.L := λ q => by
  obtain ⟨o, es', ep', ho, hd', _⟩ := F6.ns
  rw [<- q, hoe] at ho
  cases ho
  rw [hoef] at hd'; cases hd'
 have hdL : d ≠ f.L := λ q => by
  obtain ⟨_, ⟨L', _, hf, hn', _⟩, _⟩ := Fl6.2.2.1
  have hf : some f.L = some L' := hf
  cases hf
  have := Mg6.dict
  rw [q, hn'] at this; cases this
 have hlo : f.env.kindOf ("caught" : Str) = some .local := n1
 have Nd : ∃ nws, News f.h₀ f.L h6 ((e, oe) :: nws) /\ ∀ h7, Fr f.h₀ f.L h7 (λ y => if y = ("caught" : Str) then some (Value.ref e) else m y) -> News f.h₀ f.L h7 ((e, oe) :: nws) -> h7.get? d = some (dictOf es nn) := by
  cases q : f.h₀.get? d with
  | none =>
   refine ⟨[(d, dictOf es nn)], λ p hp => ?_, λ h7 x N7 => (N7 _ (.tail _ (.head _))).1⟩
   rcases mCM hp with rfl | hp
   ·exact ⟨hoe, heL, he0⟩
   ·rw [List.mem_singleton.mp hp]; exact ⟨hd6, hdL, q⟩
  | some o =>
   refine ⟨[], λ p hp => ?_, λ h7 F7 x => ?_⟩
   ·rw [List.mem_singleton.mp hp]; exact ⟨hoe, heL, he0⟩
   ·have e1 := F6.keep _ _ q
    rw [hd6] at e1; cases e1
    exact F7.keep _ _ q
 obtain ⟨nws, N6, hd7⟩ := Nd
 refine g2 (stN (s := { s with heap := h6 }) F6 N6 (λ h7 F7 N7 => ?_) S.here.kind n1)
 refine handler (s := { s with heap := h7, toks := _ }) S X KD hD F7 (λ p hp => N7 p (by rw [List.mem_singleton.mp hp]; exact .head _)) hoec hoef hctx hoed (hd7 h7 F7 N7) (by rw [<- hmsg]; exact hv) (if_pos rfl) ((if_neg (by decide)).trans mw) ((if_neg (by decide)).trans ml) hw hwl hK0 hK n1 n2 n3 n4 hline λ h8 tk8 F8 => ?_
 refine wpAny_nameGoes (s := { s with heap := h8, toks := tk8 }) hlo F8.ns ?_ λ h9 m9 hn9 hs9 => ?_
 ·show (f.scope.kind == .class || (f.scope.kind == .module && f.L != mainGlobals)) = false
  rw [S.here.kind]; rfl
 ·exact hq h9 _ m9 (F8.set hn9 hs9)
end
section
variable {M : Model} {A : Around} {E : Value -> Shared -> Prop} {s : Shared} {env : Env} {n : Bool}
theorem eH {α : Type} {m : Sem α} {Q : Except Value α -> Shared -> Prop} (h : wpX n M A m (λ a => Q (.ok a)) (λ e => Q (.error e)) s) : wpX n M A m.attempt Q E s := λ Γ p hΓ hn => by
 rw [Sem.wp_attempt]; exact h Γ p hΓ hn
theorem zhg (b o : Sem Flow) (h₀ : ExceptHandler) (hs : List ExceptHandler) (env : Env) : tryStmt false b (h₀ :: hs) o [] env = (do
  match <- b.attempt with
  | .ok .next => o
  | .ok f => pure f
  | .error e =>
   noteFrame e env
   setFlight e none
   handleBy e env (h₀ :: hs)) := by kernel_rfl
theorem zhh {body orelse : List Stmt} {h₀ : ExceptHandler} {hs : List ExceptHandler} {pos : Pos} {Q : Flow -> Shared -> Prop}
  (h : wpX n M A (execs body env) (λ f s₁ => match f with | .next => wpX n M A (execs orelse env) Q E s₁ | f => Q f s₁)
   (λ e s₁ => wpAny M A (noteFrame e env) (λ z s₂ => wpAny M A (setFlight e none) (λ z s₃ => wpAny M A (handleBy e env (h₀ :: hs)) Q E s₃) E s₂) E s₁) s) :
  wpX n M A (exec (.Try body (h₀ :: hs) orelse [] pos) env) Q E s := by
 rw [arm_exec_Try]
 refine zc (wpAny_standAt ?_)
 rw [zhg]
 refine zx (eH (zP h (λ f s₁ h₁ => ?_) λ e s₁ h₁ => ?_))
 ·cases f <;> first | exact h₁ | exact zA h₁
 ·exact zH (wBD (wpAny_mono h₁ (λ z z h₂ => wBD h₂) λ z z x => x))
end
section
variable {c : Cfg} {fa : Nat -> Addr} {f : Frm} {T : Names} {N rk m : Nat} {cl : Nat -> Bool}
theorem zeR {fI : Addr} (S : StX ⟨c, f⟩ T fa (CL (m + 11)) rk N true cl) (ZL : ql c fI) (hL : nsIn c.K mainGlobals "Limits" = some (some (.ref c.limC))) (hLk : keepIn c.K (.ref c.limC) = true)
  {y : Lc} {d : Wd} {Qc : Flow -> Shared -> Prop} {Ec : Value -> Shared -> Prop} {tx : Bs} {Rr : Rt} {p1 p2 p3 p4 p5 p6 p7 p8 : Pos} {x0 : Option AV} {xr : Loc}
  (R : Rl ⟨c, f⟩ ⟨x0 :: some (.bytes tx) :: xr, y.g, y.m⟩ d) (hz : tx.length <= 84) (hR : rd fuel (alike tx) = some Rr) (hlr : Rr.1.length <= 900) (hlx : y.g.lx = none)
  (h1 : zB f.scope.names 1 "text" = true) (h5 : zB f.scope.names 5 "found" = true) (ha : zy f.scope.names "all_tokens" (T.fn 22) = true) (hLg : zy f.scope.names "Limits" "Limits" = true)
  (k : Rr.2.1 = [] -> ∀ ad g' m b, g'.hp ad = some Rr.1 -> (∀ a vs, y.g.hp a = some vs -> g'.hp a = some vs) -> Rl ⟨c, f⟩ ⟨setL (x0 :: some (.bytes tx) :: xr) 5 (.list ad), g', m⟩ b -> Up d b -> Qc .next b.s)
  (xx : Rr.2.1 ≠ [] -> ∀ tail ev h tk, Rsd c f y.m ([113, 58] ++ kO (1 + cnt (alike tx) - cnt Rr.2.2) ++ [58, 32] ++ Rr.2.1 ++ tail) ev h -> Ec ev (d.to h tk)) :
  wpX true (model c.prog c.w) f.A (exec (.Assign [.Name "found" p1] (.Call (.Name "all_tokens" p2) [.Name "text" p3, .Constant (.bytes [61, 113]) 0 p4, .Call (.Name "Limits" p5) [] [] p6] [] p7) p8) f.env) Qc Ec d.s := by
 refine xQ h1 λ i1 i2 i3 => yH hLg λ z r2 r3 => ?_
 obtain ⟨w1, b2, b3⟩ := R.loc 1 _ _ rfl i1
 rw [exec_Assign_Name f.env "found" p1 _ p8 (z6 rfl _ _)]
 refine zc (wpAny_standAt (zx ?_))
 show wpX true _ _ (do callWith p7 (<- eval (.Name "all_tokens" p2) f.env) [] (backTo p7 (starEach [_, _, _] f.env)) []) _ _ _
 refine zc (xR S.st R ha (S.st.fx.fnN 22 (by decide)) ?_)
 apply qO (P := c.K.In)
 ·rfl
 ·exact λ h X => keeps_K (S.st.fx.fnK 22 (by decide)) h X
 refine zH (args_cons ?_ rfl)
 refine ld R.F b2 ?_ S.st.here.kind i3 i2
 refine args_cons (Constant_bytes ?_) rfl
 refine args1 rfl ?_
 refine Call_ (name_K R.F S.st.here.kin (topRead_of S.st.here.top) hL ?_ S.st.here.kind r3 r2)
 apply yZ (P := c.K.In)
 ·rfl
 ·exact λ h X => keeps_K hLk h X
 refine args_nil ⟨S.st.here.kin.keeps R.F.keep, ?_⟩
 refine wpAny_call (zj5 ZL (b := ⟨d.P, { d.s with toks := _ }⟩) (S.st.here.less (Nat.zero_le _)) R.tk λ z wl d2 D2 => ?_)
 refine ⟨S.st.here.kin.keeps D2.R.F.keep, ?_⟩
 have U2 : Up d d2 := ⟨D2.u.ext, D2.u.st⟩
 have hp : CL (m + 11) 22 [.bytes tx, .bytes [61, 113], o8] y.g (λ v g' => ∃ ad, v = .list ad /\ Rr.2.1 = [] /\ g'.hp ad = some Rr.1 /\ ∀ a vs, y.g.hp a = some vs -> g'.hp a = some vs) (λ msg => Rr.2.1 ≠ [] /\ ∃ tail, msg = [113, 58] ++ kO (1 + cnt (alike tx) - cnt Rr.2.2) ++ [58, 32] ++ Rr.2.1 ++ tail) :=
  jW (nLT hz (by decide)) hR hlr hlx (λ hw ad g' e1 e2 => ⟨ad, rfl, hw, e1, e2⟩) λ hw tail => ⟨hw, tail, rfl⟩
 refine xg ((S.calls 22 (Bool.or_true _)).go (y := ⟨x0 :: some (.bytes tx) :: xr, y.g, y.m⟩) ((S.here 22 (Bool.or_true _)).less (Nat.le_succ N)) S.gd hp D2.R ⟨VR.mono U2.ext _ b3, ⟨_⟩, D2.v, trivial⟩ (λ v w g' b q D => ?_) (λ h tk ev msg q hr => ?_))
 ·obtain ⟨ad, rfl, hw, e1, e2⟩ := q
  refine zH (wBD (wpAny_standAt (wBD (wpAny_bindName ?_))))
  exact vh S.st D.R h5 D.v λ m3 b3 R3 U3 => wpAny_pure (k hw ad g' m3 b3 e1 e2 R3 (U2.trans (D.u.trans U3)))
 ·obtain ⟨hw, tail, rfl⟩ := q
  exact (U2.to h tk).symm ▸ xx hw tail ev h tk hr
end
noncomputable def yM : NS := [("script", .local), ("text", .local), ("due", .local), ("words", .local), ("line", .local), ("found", .local), ("caught", .local), ("_law_read", .globalImplicit), ("_law_alike", .globalImplicit), ("all_tokens", .globalImplicit), ("Limits", .globalImplicit), ("LuaSyntaxError", .globalImplicit), ("_law_digits", .globalImplicit), ("repr", .globalImplicit)]
structure bQ (c : Cfg) : Prop where
 piece : wQ c 477
 lim : ql c 36
 limN : nsIn c.K mainGlobals "Limits" = some (some (.ref c.limC))
 limK : keepIn c.K (.ref c.limC) = true
 excG : bO c
 dig : pL c 564 (fY um) 1
 digN : nsIn c.K mainGlobals "_law_digits" = some (some (.ref 564))
 digK : keepIn c.K (.ref 564) = true
 exc : nsIn c.K mainGlobals "LuaSyntaxError" = some (some (.ref c.excC))
 excK : ktsIn c.K c.excC "BaseException" = true
 rep : nsIn c.K mainGlobals "repr" = some none
section
variable {c : Cfg} {f : Frm} {fa : Nat -> Addr} {T : Names} {m N : Nat} {cl : Nat -> Bool} {M : Model} {A : Around} {env : Env}
theorem vg {n : Bool} {st : Stmt} {sts : List Stmt} {Q : Flow -> Shared -> Prop} {E : Value -> Shared -> Prop} {s : Shared} (h : wpX n M A (exec st env) (λ fl s' => match fl with | .next => wpX n M A (execs sts env) Q E s' | f => Q f s') E s) : wpX n M A (execs (st :: sts) env) Q E s := by
 rw [execs_cons]
 refine zx (zP h (λ fl s' h' => ?_) λ z z x => x)
 cases fl <;> first | exact h' | exact zA h'
theorem zeS (S0 : StX ⟨c, f⟩ T fa (CL (m + 11)) 64 N false cl) (S : StX ⟨c, f⟩ T fa (CL (m + 11)) 64 N true cl) (Z : bQ c) (hb : f.h₀ = f.base) (hns : f.scope.names = yM) (hu : f.A.units + 8 < cLine)
  {p1 p2 p3 p4 p5 p6 p7 p8 p9 q1 q2 q3 q4 q5 q6 q7 q8 q9 q10 q11 r1 r2 r3 r4 r5 r6 r7 r8 r9 r10 u1 u2 u3 u4 u5 u6 u7 u8 v1 v2 v3 v4 v5 v6 v7 v8 v9 v10 v11 v12 v13 v14 v15 v16 v17 v18 vnp vhp vtp w1 w2 w3 w4 w5 w6 w7 w8 w9 w10 w11 w12 : Pos} {k' : Nat}
  {g : GS} {mm : Str -> Option Value} {d : Wd} {sc : Addr} {its : Array Value} {ks : List Int} {Ec : Value -> Shared -> Prop}
  (R : Rl ⟨c, f⟩ ⟨[some (.list sc), none, none, none, none, none, none], g, mm⟩ d) (hlx : g.lx = none) (hl : f.h₀.IsList sc its) (hi : IntsAre its.toList ks) (hz : its.size <= sizeLine) (hline : (q3.endLine == q10.line) = true) (hline2 : (v6.endLine == v16.line) = true) (hch : zay T yM 64 false cl (.call 34 [.call 25 [.loc 1]]) (.Call (.Name "_law_read" r5) [.Call (.Name "_law_alike" r6) [.Name "text" r7] [] r8] [] r9) = true) (hag : zy yM "all_tokens" (T.fn 22) = true) :
  wpX true (model c.prog c.w) f.A (execs [
   .Assign [.Name "text" q1] (.Call (.Attribute (.Constant (.bytes []) 0 q2) "join" q3) [.ListComp (qm p1 p2 p3 p4 p5 p6 p7 p8 p9) [⟨.Name "one" q4, .Subscript (.Name "script" q5) (.Slice none (some (.Constant (.int 14) 0 q6)) none q7) q8, [], 0⟩] uh q9] [] q10) q11,
   .Assign [.Tuple [.Name "due" r1, .Name "words" r2, .Name "line" r3] 0 r4] (.Call (.Name "_law_read" r5) [.Call (.Name "_law_alike" r6) [.Name "text" r7] [] r8] [] r9) r10,
   .Try [.Assign [.Name "found" u1] (.Call (.Name "all_tokens" u2) [.Name "text" u3, .Constant (.bytes [61, 113]) 0 u4, .Call (.Name "Limits" u5) [] [] u6] [] u7) u8]
    [.ExceptHandler (some (.Name "LuaSyntaxError" vnp)) (some "caught") [zhf v1 v2 v3 v4 v5 v6 v7 v8 v9 v10 v11 v12 v13 v14 v15 v16 v17 v18] vhp] [] [] vtp,
   .Return (some (.BoolOp .And [.Compare (.Name "words" w1) [.Eq] [.Constant (.bytes []) 0 w2] w3, .Compare (.Call (.Name "repr" w4) [.Name "found" w5] [] w6) [.Eq] [.Call (.Name "repr" w7) [.Name "due" w8] [] w9] w10] w11)) w12] f.env)
   (λ fl s' => fl = .ret (.bool true) /\ ∃ h tk m', s' = d.to h tk /\ Fr f.h₀ f.L h m') Ec d.s := by
 have nm : ∀ (i : Nat) (y : Str), zB yM i y = true -> zB f.scope.names i y = true := λ i y h => hns ▸ h
 have gm : ∀ (y : Str), zy yM y y = true -> zy f.scope.names y y = true := λ y h => hns ▸ h
 have lk : ∀ (y : Str) (k : NameKind), yM.lookup y = some k -> f.scope.names.lookup y = some k := λ y k h => hns ▸ h
 refine vg (zH (zg9 S.st Z.piece R rfl (nm 0 _ (by decide +kernel)) (nm 1 _ (by decide +kernel)) hl hi hz hline λ tx m1 b1 htx R1 U1 => ?_))
 have hA : (alike tx).length <= 84 := nLT (xK tx) htx
 obtain ⟨Rr, hR, ok⟩ := zjU (f := fuel) (a := alike tx) (Nat.lt_of_le_of_lt hA (by decide)) (nLT hA (by decide))
 have hlr : Rr.1.length <= 900 := nLT ok.len (nLT hA (by decide))
 refine vg (zH (zha (m := m + 8) S0 (y := ⟨[], g, m1⟩) (tx := tx) (x0 := some (.list sc)) (xr := [none, none, none, none, none]) R1 htx hR hlr (nm 2 _ (by decide +kernel)) (nm 3 _ (by decide +kernel)) (nm 4 _ (by decide +kernel)) ?_ rfl λ ad1 g1 m2 b2 hg1 e1 R2 U2 => ?_))
 ·rw [hns]; exact hch
 have hlx1 : g1.lx = none := hg1.lx.trans hlx
 have hcl : cnt (alike tx) <= 84 := nLT (za0 _) hA
 refine vg (zhh (vg (zeR (m := m) S (y := ⟨[], g1, m2⟩) (tx := tx) Z.lim Z.limN Z.limK (x0 := some (.list sc)) (xr := [some (.list ad1), some (.bytes Rr.2.1), some (.int (jZ (alike tx) Rr.2.1 Rr.2.2 : Nat)), none, none]) R2 htx hR hlr hlx1 (nm 1 _ (by decide +kernel)) (nm 5 _ (by decide +kernel)) ?_ (gm _ (by decide +kernel)) (λ hw ad2 g2 m3 b3 e2 hgr R3 U3 => ?_) (λ hw tail ev h3 tk3 hr => ?_))))
 ·rw [hns]; exact hag
 ·rw [execs_nil]
  refine zA ?_
  show wpX true _ _ (execs [] f.env) _ _ _
  rw [execs_nil]
  refine zA ?_
  rw [hw] at R3
  refine zH (wpAny_execs_cons (ziQ S.st (S.gd rfl) R3 rfl rfl rfl (nm 2 _ (by decide +kernel)) (nm 3 _ (by decide +kernel)) (nm 5 _ (by decide +kernel)) (gm _ (by decide +kernel)) Z.rep (hgr _ _ e1) e2 hlr ok.ts hu λ b4 R4 U4 => ?_))
  exact ⟨rfl, b4.s.heap, b4.s.toks, _, (U1.trans (U2.trans (U3.trans U4))).st, R4.F⟩
 ·have i3 : yj f.scope.names 3 = some (("words" : Str), .local) := hns ▸ rfl
  have i4 : yj f.scope.names 4 = some (("line" : Str), .local) := hns ▸ rfl
  obtain ⟨w3', c2, c3⟩ := R2.loc 3 (.bytes Rr.2.1) _ rfl i3
  obtain ⟨w4', d2, d3⟩ := R2.loc 4 (.int (jZ (alike tx) Rr.2.1 Rr.2.2 : Nat)) _ rfl i4
  obtain ⟨t2⟩ : wU Rr.2.1 w3' := c3
  have hx : jZ (alike tx) Rr.2.1 Rr.2.2 = 1 + cnt (alike tx) - cnt Rr.2.2 := if_neg hw
  rw [hx] at d3
  obtain ⟨t3⟩ : xX ((1 + cnt (alike tx) - cnt Rr.2.2 : Nat) : Int) w4' := d3
  have hcr : cnt Rr.2.2 <= cnt (alike tx) := by
   obtain ⟨x, e⟩ := ok.suf
   rw [<- e, cnt_append]
   exact Nat.le_add_left _ _
  refine zcT (s := b2.to h3 tk3) S.st hb Z.excG Z.dig ⟨Z.digN, Z.digK⟩ Z.exc Z.excK hr rfl c2 d2 hw (nLT ok.wl (by decide)) (Nat.sub_pos_of_lt (by rw [Nat.add_comm]; exact Nat.lt_succ_of_le hcr)) (Nat.lt_of_le_of_lt (Nat.sub_le _ _) (Nat.lt_of_le_of_lt (Nat.add_le_add_left hcl 1) (by decide))) (lk _ _ (by decide +kernel)) (lk _ _ (by decide +kernel)) (lk _ _ (by decide +kernel)) (lk _ _ (by decide +kernel)) (lk _ _ (by decide +kernel)) hline2 λ h4 tk4 m4 F4 => ?_
  exact ⟨rfl, h4, tk4, m4, (U1.trans U2).to h4 tk4, F4⟩
end
end
section
open PyProof.Rows PySem.Calls
open PySem.Sem (wp)
theorem zcU {prog : Program} {w : World} {t : Sem Fin} {s : Shared} {R : Result -> Shared -> Prop} (hreg : s.asleep)
  (h : wpX true (model prog w) callerA t (λ fin s' => ∃ f, fin = .done f /\ (R (.ok f) s' /\ leftWithCleanup s'.gens = false)) (λ e s' => R (.error e) s' /\ leftWithCleanup s'.gens = false) s) :
  ∃ n r s' s'', runN (denote table) prog w n s ⟨t, .builtin "claim.caller" {}, default, []⟩ = .halted (outcomeOf r) s' /\
   schedN (denote table) prog w n (.single s ⟨t, .builtin "claim.caller" {}, default, []⟩) = .halted (outcomeOf r) s' /\ s'.forget = s''.forget /\ R r s'' := by
 have h0 : wp (model prog w) ⟨.builtin "claim.caller" {}, none, none, [], none⟩ t (Sem.finPost (model prog w) ⟨.builtin "claim.caller" {}, none, none, [], none⟩ λ r s' => R r s' /\ leftWithCleanup s'.gens = false)
   (λ e z s' => R (.error e) s' /\ leftWithCleanup s'.gens = false) default s := by
  refine Sem.wp_mono _ _ t (λ fin p' s' h' => ?_) (λ z z z h' => h') default s (h _ default caller_in λ z => ⟨by decide +kernel, λ x hx => nomatch hx⟩)
  obtain ⟨f, rfl, hf⟩ := h'
  exact hf
 obtain ⟨n, r, s₁, s₂, hs, hn, hfo, hR⟩ := wp_halts_full (M := model prog w) (R := R) hreg h0
 exact ⟨n, r, s₂, s₁, hn, hs, hfo, hR⟩
theorem zaE {c : ClaimW} {tree : List Value -> Sem Fin} {w : World} {s : Shared} {free : Addr -> Prop} {gens : Prop} {kept : Heap -> Prop} (hz : s.asleep) (hgens : s.gens = #[])
  (hspec : ∀ args, c.pre args = true -> WData.layableAll args = true ->
   ∀ ord : List DictEntry -> List DictEntry, (∀ l, (ord l).Perm l) ->
   ∃ vs s₁, layAllW c.records (classAt s.heap) w.params ord args s = some (vs, s₁) /\
    wpX true (model c.prog w) callerA (tree vs) (λ fin s' => ∃ f, fin = .done f /\ (c.Ends s args vs s₁ (.ok f) s' /\ s'.os = s.os /\ AllBare s'.gens /\ kept s'.heap))
     (λ e s' => c.Ends s args vs s₁ (.error e) s' /\ s'.os = s.os /\ AllBare s'.gens /\ kept s'.heap) s₁) :
  c.CallFrom (λ vs => ⟨tree vs, .builtin "claim.caller" {}, default, []⟩) w free gens kept s := by
 intro args hpre hlay ord hord
 obtain ⟨vs, s₁, hlaid, hcode⟩ := hspec args hpre hlay ord hord
 have hal := layAllW_rest _ _ _ hlaid
 obtain ⟨k, r, s', s'', hrun, hsched, hfo, hcase, hos, hkp⟩ := zcU (prog := c.prog) (w := w) (t := tree vs) (s := s₁)
  (R := λ r s' => c.Ends s args vs s₁ r s' /\ s'.os = s.os /\ kept s'.heap)
  (Shared.asleep_of_life hal.2.2.2 hz)
  (zP hcode (λ fin s' ⟨f, e, h1, h2, h3, h4⟩ => ⟨f, e, ⟨h1, h2, h4⟩, leftWithCleanup_false_of_bare h3⟩) λ e s' ⟨h1, h2, h3, h4⟩ => ⟨⟨h1, h2, h4⟩, leftWithCleanup_false_of_bare h3⟩)
 obtain ⟨eh, _, _, eo, _⟩ := Shared.forget_eq hfo
 have hcase := hcase.congr eh
 have hkp : kept s'.heap := by first | exact eh ▸ hkp | (rw [eh] at hkp; exact hkp) | (rw [<- eh] at hkp; exact hkp)
 rw [<- eo] at hos
 have hlife : s'.heap.life = s.heap.life := (runN_life _ _ _ hrun).trans hal.2.2.2
 refine ⟨vs, s₁, hlaid, k, _, s', hsched, ?_, (λ z i x hx => by rw [hgens] at hx; simp at hx), hkp, by rw [hlife], Shared.rest_eq hos⟩
 exact Or.imp (Exists.imp λ v => And.imp (congrArg outcomeOf) (And.imp_right (And.imp_right (And.imp_right (And.imp_left λ d4 b o y z => d4 b o y)))))
  (Exists.imp λ e => Exists.imp λ ob => Exists.imp λ cls => And.imp (congrArg outcomeOf) (And.imp_right (And.imp_right (And.imp_right (And.imp_right λ d5 b o y z => d5 b o y))))) hcase
noncomputable abbrev WalkX (q : Program) (loose : List Str) (XP : (Str -> Option Value) -> Heap -> Prop) (YP : World -> Heap -> Prop) (r : RowW) (d : DefRec) (kwd : List (Str × Expr)) (run : Value -> List Value -> Sem Value) : Prop :=
 ∀ (w : World) (s₀ s₁ : Shared) (mg mb : Str -> Option Value), Ground q loose r.records XP w s₀ mg mb s₁.heap -> YP w s₁.heap -> ∀ (a : Addr) (o : Obj) (pm cd doc dV kV : Value), s₁.heap.get? a = some o ->
  o.data = .func { docDef d.name d.params d.body d.scope pm cd doc with defaults := dV, kwdefaults := kV } -> s₁.heap.CodeRec cd d.name -> Dflts mg s₁.heap d.params kwd dV kV -> mg d.name = some (.ref a) -> s₁.gens = #[] ->
  ∀ (args : List WData) (vals : List Value) (as : List Addr), r.claim.pre args = true -> WData.layableAll args = true -> ReadsAllW r.records (classAt s₀.heap) s₁.heap vals args as -> WellAll w.params s₁.heap vals args -> (∀ a ∈ as, (a == sysModules) = false) ->
   wpX true (model r.prog w) callerA (run (.ref a) vals) (λ v s' => GoodWG r.claim (classAt s₀.heap) (ExcName.means s₀.heap) args s₁ (.ok (.ret v)) s')
    (λ e s' => GoodWG r.claim (classAt s₀.heap) (ExcName.means s₀.heap) args s₁ (.error e) s') s₁
theorem ziS {r : RowW} {q : Program} {loose defs kps : List Str} {writes : Bool} {Xt : Shared -> Bool} {XP : (Str -> Option Value) -> Heap -> Prop} {α : Type} {Yf : Shared -> α} {Ya : World -> α} {YP : World -> Heap -> Prop} {N : Nat}
  (left : LeftO r.prog q loose Xt Yf Ya N) (hY : ∀ w s, Yf s = Ya w -> YP w s.heap) (hYk : ∀ w h h', YP w h -> (∀ b o, h.get? b = some o -> h'.get? b = some o) -> YP w h') (hX : ∀ s, Xt s = true -> XP (s.heap.nsMap mainGlobals) s.heap) (hXk : ∀ mg h h', XP mg h -> (∀ b o, h.get? b = some o -> h'.get? b = some o) -> XP mg h')
  (hRf : ∀ s, Xt s = true -> RecFacts r.records s.heap) (hwr : (!writes || r.records.isEmpty) = true) (ok : (chainsOk q && opensWell r.prog && (frees r && r.within.isEmpty)) = true) (hb : r.prog.bare) (hw : r.promised)
  (pin : ∀ w s, s.heap.isNs mainGlobals = true -> Ground q loose [] XP w s (s.heap.nsMap mainGlobals) (s.heap.nsMap builtinsNs) s.heap -> ∀ n ∈ defs, isTheDefsW r.prog s.heap n)
  (call : ∀ (w : World) (s₀ s₁ : Shared) (mg mb : Str -> Option Value), Ground q loose r.records XP w s₀ mg mb s₁.heap -> YP w s₁.heap -> ∀ (args : List WData) (vs : List Value) (as : List Addr),
   r.claim.pre args = true -> WData.layableAll args = true -> Laid r.records w s₀ s₁ args vs as -> sysModules < s₀.heap.objs.size -> ∃ f, mg r.name = some f /\
    wpX true (model r.prog w) callerA (PySem.call f vs) (λ v s' => GoodWG r.claim (classAt s₀.heap) (ExcName.means s₀.heap) args s₁ (.ok (.ret v)) s')
     (λ e s' => GoodWG r.claim (classAt s₀.heap) (ExcName.means s₀.heap) args s₁ (.error e) s') s₁) : r.claim.HoldsOpenBy (λ vs => ⟨do match <- nsGet mainNs r.name with
   | some f => do ret (<- PySem.call f vs)
   | none => unsupported "claim.caller:no-such-global", .builtin "claim.caller" {}, default, []⟩) defs kps writes := by
 obtain ⟨ok, k5⟩ := Bool.and_eq_true_iff.mp ok
 obtain ⟨hch, o1⟩ := Bool.and_eq_true_iff.mp ok
 obtain ⟨k5, k6⟩ := Bool.and_eq_true_iff.mp k5
 obtain ⟨hsame, hu, ha, hap, hm⟩ := frees_parts k5
 refine ⟨⟨hb, o1, by show r.makers.map _ = []; rw [hm]; rfl⟩, hw.witness, λ w => ⟨(left.behind hX hch w).1, λ s' hs' => ?_⟩⟩
 obtain ⟨s₀, hf, hg0, s, hT, hz, hgens, hg, G00, y⟩ := (left.behind (XP := λ mg h => XP mg h /\ RecFacts r.records h) (λ s hs => ⟨hX s hs, hRf s hs⟩) hch w).2 s' hs'
 have G0 : Ground q loose [] XP w s (s.heap.nsMap mainGlobals) (s.heap.nsMap builtinsNs) s.heap := ⟨G00.T, G00.B, G00.D, G00.TE, G00.TD, G00.W, G00.X.1, G00.cls, G00.has, G00.apart, G00.once, G00.K⟩
 have RF := G00.X.2
 have hT' := hT
 refine ⟨s₀, hf, hg0, s, hT, pin w s hg G0, RF.1, RF.2.1, ?_⟩
 have hgens : s.gens = #[] := Array.eq_empty_of_size_eq_zero (beq_iff_eq.mp hgens)
 have G : Ground q loose r.records XP w s _ _ s.heap := RF.ground G0
 refine zaE (c := r.claim) hz hgens λ args hpre hlay ord hord => ?_
 obtain ⟨⟨vs, s₁⟩, hlaid⟩ := Option.isSome_iff_exists.mp (layAllW_isSome (P := w.params) (ord := ord) G.has args r.args s (pre_splitW hpre).1)
 have keeps := layAllW_keeps _ _ _ hlaid
 have hal := layAllW_rest _ _ _ hlaid
 obtain ⟨as, hrd, hin, hold⟩ := reads_layAllW hord _ _ _ hlaid hlay s₁.heap (λ x x e => e)
 have L : Laid r.records w s s₁ args vs as := ⟨⟨ord, hord, hlaid⟩, hrd, hin, hold, keeps, hal.1.trans hgens, hal.2.2.1⟩
 have G₁ := G.keeps hXk keeps
 obtain ⟨f, hf, h⟩ := call w s s₁ _ _ G₁ (hYk _ _ _ (hY w s y) keeps) args vs as hpre hlay L G.low
 have hi := ident_freeW hu ha hap
 have hwi : r.claim.within = [] := List.isEmpty_iff.mp k6
 refine ⟨vs, s₁, hlaid, ?_⟩
 refine zc (wpAny_nsGet G₁.T.g ?_)
 rw [hf]
 refine zx (zP h (λ v s' g => zA ⟨_, rfl, ?_⟩) λ e s' g => ?_)
 ·have z := g.laid (c := r.claim) hsame hwi hi L
  exact ⟨z.1, z.2.1, z.2.2, λ q => ⟨namesKept_of hT' hg kps keeps g.2.1.old, noTable hwr q⟩⟩
 ·have z := g.laid (c := r.claim) hsame hwi hi L
  exact ⟨z.1, z.2.1, z.2.2, λ q => ⟨namesKept_of hT' hg kps keeps g.2.1.old, noTable hwr q⟩⟩
theorem holds_openX {r : OpenRow} {q : Program} {loose : List Str} {Xt : Shared -> Bool} {XP : (Str -> Option Value) -> Heap -> Prop} {α : Type} {Yf : Shared -> α} {Ya : World -> α} {YP : World -> Heap -> Prop} {d : DefRec} {kwd : List (Str × Expr)} {N : Nat}
  (hY : ∀ w s, Yf s = Ya w -> YP w s.heap) (hYk : ∀ w h h', YP w h -> (∀ b o, h.get? b = some o -> h'.get? b = some o) -> YP w h')
  (hX : ∀ s, Xt s = true -> XP (s.heap.nsMap mainGlobals) s.heap) (hXk : ∀ mg h h', XP mg h -> (∀ b o, h.get? b = some o -> h'.get? b = some o) -> XP mg h')
  (hdef : defOf q r.name = some (d, kwd)) (hp : r.prog.theDef r.name = some (d.params, d.body, d.scope)) (hk : kwWritten? d.params.kwonlyargs d.params.kw_defaults = some kwd) (hRf : ∀ s, Xt s = true -> RecFacts r.records s.heap) (hwr : (!r.writes || r.records.isEmpty) = true)
  (k1 : r.wellSaid = true) (ok : (chainsOk q && opensWell r.prog && (frees r.toRowW && r.within.isEmpty)) = true) (hb : r.prog.bare) (hw : r.toRowW.promised)
  (lc : LeftO r.prog q loose Xt Yf Ya N /\ WalkX q loose XP YP r.toRowW d kwd λ f vs => PySem.call f vs) : r.Holds := by
 refine ⟨k1, hw, ziS (r := r.toRowW) lc.1 hY hYk hX hXk hRf hwr ok hb hw (λ w s hg G n hn => ?_) λ w s₀ s₁ mg mb G Y args vs as hpre hlay L low => ?_⟩
 ·obtain rfl : n = r.name := by split at hn <;> simp_all
  exact pinned_of_view hg G hdef hp hk
 ·obtain ⟨a, o, pm, cd, doc, dV, kV, h1, h2, h3, h4, h5⟩ := G.fn hdef
  exact ⟨.ref a, h1, lc.2 w s₀ s₁ mg mb G Y a o pm cd doc dV kV h2 h3 h4 h5 (defOf_name hdef ▸ h1) L.gens args vs as hpre hlay L.reads L.well (L.low low)⟩
end
section
open PyProof.Rows PySem.Builtin PySem.Builtin.ObjectAttr PySem.Calls
open PySem.Sem (wp)
section
variable {prog : Program} {w : World} {A : Around} {E : Value -> Shared -> Prop} {h : Heap} {g : Array GenState} {d : Drawn} {t : Nat} {os : OsState}
variable {nm q : Str} {C N : Addr} {bs bm bmB : List Value} {hdct : Bool} {sn : List Str} {sub : List Value} {ab : Bool} {col : Option Bool} {dd : Option Addr} {k0 k1 k2 k3 k5 : Option Value} {B newId initId : String}
structure pU (B : String) (bm : List Value) : Prop where
 hB : bm.contains (.type B) = true
 hBase : bm.contains (.type "BaseException") = true
 noA : bm.contains (.type "AttributeError") = false
 noN : bm.contains (.type "NameError") = false
theorem zeT {M : Model} (F : ExcBaseFacts B newId initId bmB) (T : pU B bm) {rest : List Value} {Q : Unit -> Shared -> Prop} (hC : h.get? C = some (excClassObj nm q C N bs bm hdct sn sub ab col dd k0 k1 k2 k3 k5 newId))
  (hq : Q () ⟨h, g, d, t, os⟩) : wpAny M A (checkBuiltinCall newId ⟨.ref C :: rest, []⟩) Q E ⟨h, g, d, t, os⟩ := by
 have hcont : (Value.ref C :: bm).contains (.type B) = true := by rw [List.contains_cons, T.hB, Bool.or_true]
 have hstar := F.noStar
 simp only [checkBuiltinCall, F.newKind, F.newSplit, F.newRow]
 repeat (first | refine wpAny_loadPart_at hC ?_ | (refine wpAny_isSubtype_exc hC ?_; rw [hcont]) | refine wpAny_staticBase_exc hC ?_ | refine wpAny_madeBy_exc hC ?_ | refine bm_if_false (by first | rfl | exact bne_self_eq_false _) ?_ | wp_step)
 exact hq
theorem ziT (F : ExcBaseFacts B newId initId bmB) (T : pU B bm) {R : Result -> Shared -> Prop} {rest : List Value} (hC : h.get? C = some (excClassObj nm q C N bs bm hdct sn sub ab col dd k0 k1 k2 k3 k5 newId))
  (hq : R (.ok (.ret (.ref (h.objs.size + 1)))) ⟨(h.push { cls := .type "tuple", data := .seq rest.toArray }).push
   { cls := .ref C, data := .fields #[.ref h.objs.size, .none, .none, .none, .bool false, .none] }, g, d, t, os⟩) (hrest : rest.length <= sizeLine) :
  codeAny (model prog w) A (.builtin newId ⟨.ref C :: rest, []⟩) R ⟨h, g, d, t, os⟩ := by
 have hends := F.ends
 have hcB : (Value.ref C :: bm).contains (.type B) = true := by rw [List.contains_cons, T.hB, Bool.or_true]
 have hcA : (Value.ref C :: bm).contains (.type "AttributeError") = false := by rw [List.contains_cons, T.noA]; rfl
 have hcN : (Value.ref C :: bm).contains (.type "NameError") = false := by rw [List.contains_cons, T.noN]; rfl
 refine codeAny_builtinAt F.entry ?_
 unfold Builtin.«BaseException.__new__»
 refine PySem.wpAt_bind ?_
 show PySem.wpAt _ _ _ (stack >>= _) _ _ _
 refine PySem.wpAt_bind (PySem.wpAt_stack λ p below => PySem.wpAt_of_wpAny ?_)
 wp_walk
 refine PySem.wpAt_of_wpAny ?_
 rw [F.owner]
 repeat (first | with_reducible refine wpAny_madeHere_exc F.canon hC ?_ | with_reducible refine wpAny_loadPart_at hC ?_ | (with_reducible refine wpAny_isSubtype_exc hC ?_; first | rw [hcB] | rw [hcA] | rw [hcN]) | wp_step)
 show R _ _
 rw [Heap.size_push]
 exact hq
theorem iJ (F : ExcBaseFacts B newId initId bmB) (T : pU B bm) {K : Frag} {rest : List Value} {fI : Addr} {Q : Fin -> Shared -> Prop}
  (hC : h.get? C = some (excClassObj nm q C N bs bm hdct sn sub ab col dd k0 k1 k2 k3 k5 newId)) (X : K.In h) (hi : findIn K (.ref C) "__init__" = some (some (.ref fI))) (hf : typeIn K (.ref fI) = some (.type "function"))
  (hq : ∀ h' e, Heap.MadeExcOf h h' e (.ref C) rest ->
   wpAny (model prog w) A (call (.ref fI) (.ref e :: rest)) (λ r s' => r = .none /\ Q (.done (.ret (.ref e))) s') E ⟨h', g, d, t, os⟩) (hrest : rest.length <= sizeLine) :
  wpAny (model prog w) A (Builtin.«type.__call__» ⟨.ref C :: rest, []⟩) Q E ⟨h, g, d, t, os⟩ := by
 repeat (first | with_reducible refine wpAny_loadPart_at hC ?_ | with_reducible refine wpAny_madeBy_exc hC ?_ | wp_step)
 refine codeAny_call_builtin_code (Code.quiet_builtin _ F.quiet) (zeT F T hC ?_)
 refine ziT F T hC ?_ hrest
 show wpAny _ _ _ _ _ _
 have hk : ∀ b o, h.get? b = some o -> ((h.push { cls := .type "tuple", data := .seq rest.toArray }).push { cls := .ref C, data := .fields #[.ref h.objs.size, .none, .none, .none, .bool false, .none] }).get? b = some o :=
  λ b o e => Heap.get?_push_of_some _ (Heap.get?_push_of_some _ e)
 have hC₁ := hk _ _ hC
 have X₁ := X.keeps hk
 have hget : ((h.push { cls := .type "tuple", data := .seq rest.toArray }).push
   { cls := .ref C, data := .fields #[.ref h.objs.size, .none, .none, .none, .bool false, .none] }).get? (h.objs.size + 1) = some
   { cls := .ref C, data := .fields #[.ref h.objs.size, .none, .none, .none, .bool false, .none] } := by heap_get
 have hcC : (Value.ref C :: bm).contains (.ref C) = true := by simp
 unfold isInstance
 repeat (first | with_reducible refine wpAny_loadPart_at hget ?_ | (with_reducible refine wpAny_isSubtype_exc hC₁ ?_; rw [hcC]) | wp_step)
 show wpAny _ _ (typeLookup (.ref C) _) _ _ _
 refine (looks_findIn (M := model prog w) X₁ hi).here (wpAny_holding (wBD ?_))
 unfold bindSpecial
 refine wBD ((looks_typeIn (M := model prog w) X₁ hf).here ?_)
 rw [if_pos (by decide)]
 refine wpAny_pure (wBD (wpAny_mono (hq _ (h.objs.size + 1) ⟨hk, Heap.get?_none_of_le (Nat.le_succ _), h.objs.size, hget, Heap.get?_none_of_le (Nat.le_refl _), ?_⟩) (λ r s' hr => ?_) λ z z x => x))
 ·exact Heap.get?_push_of_some _ (Heap.get?_push_at rfl rfl)
 ·obtain ⟨rfl, hQ⟩ := hr
  wp_walk
  exact hQ
theorem zhi (F : ExcBaseFacts B newId initId bmB) (T : pU B bm) {K : Frag} {rest : List Value} {fI : Addr} {Q : Value -> Shared -> Prop}
  (hC : h.get? C = some (excClassObj nm q C N bs bm hdct sn sub ab col dd k0 k1 k2 k3 k5 newId)) (X : K.In h) (hi : findIn K (.ref C) "__init__" = some (some (.ref fI))) (hf : typeIn K (.ref fI) = some (.type "function"))
  (hq : ∀ h' e, Heap.MadeExcOf h h' e (.ref C) rest ->
   wpAny (model prog w) (A.under (.builtin "type.__call__" ⟨.ref C :: rest, []⟩)) (call (.ref fI) (.ref e :: rest)) (λ r s' => r = .none /\ Q (.ref e) s') E ⟨h', g, d, t, os⟩) (hrest : rest.length <= sizeLine) :
  wpAny (model prog w) A (call (.ref C) rest) Q E ⟨h, g, d, t, os⟩ := by
 have f1 := tc_lookup
 have f2 := tc_bind (.ref C)
 have hT : (⟨h, g, d, t, os⟩ : Shared).TypeIs (.ref C) "type" := ⟨_, hC, rfl⟩
 refine wpAny_call (codeAny_of_tree ?_)
 show wpAny _ _ (callAny (.ref C) _) _ _ _
 repeat (any_goals (first | assumption | with_reducible refine wpAny_loadPart_at hC ?_ | wp_step))
 refine ⟨rfl, ?_⟩
 refine codeAny_call_builtin_at (Code.quiet_builtin _ (by decide +kernel)) entry_typeCall (wpAny_check_type_call_sub hC (iJ F T hC X hi hf (λ h' e hm => ?_) hrest))
 exact hq h' e hm
end
section
variable {M : Model} {A : Around} {E : Value -> Shared -> Prop} {s : Shared} {env : Env}
variable {nm q : Str} {C N : Addr} {bs bm : List Value} {hdct : Bool} {sn : List Str} {sub : List Value} {ab : Bool} {col : Option Bool} {dd : Option Addr} {k0 k1 k2 k3 k5 : Option Value} {newId : String}
theorem zeU {x : Sem Value} {Q : Flow -> Shared -> Prop} (hbase : bm.contains (.type "BaseException") = true) (hh : A.handled = none)
  (h : wpAny M A x (λ v s₁ => ∃ e t oe, v = .ref e /\ s₁.heap.get? C = some (excClassObj nm q C N bs bm hdct sn sub ab col dd k0 k1 k2 k3 k5 newId) /\
   s₁.heap.get? e = some oe /\ oe.cls = .ref C /\ oe.data = .fields #[.ref t, .none, .none, .none, .bool false, .none] /\ E (.ref e) s₁) E s) :
  wpAny M A (raiseStmt env (some x) none) Q E s := by
 have hcB : (Value.ref C :: bm).contains (.type "BaseException") = true := by rw [List.contains_cons, hbase, Bool.or_true]
 unfold raiseStmt
 refine wBD (wpAny_mono h (λ v s₁ h₁ => ?_) λ z z x => x)
 obtain ⟨e, t, oe, rfl, hC, he, hc, hd, hE⟩ := h₁
 obtain ⟨oc, od, odt, osl⟩ := oe
 dsimp only at hc hd
 subst hc hd
 obtain ⟨hp, g, d, tk, os⟩ := s₁
 repeat (first | with_reducible refine wpAny_loadPart_at he ?_ | with_reducible refine wpAny_loadPart_at hC ?_ | (with_reducible refine wpAny_isSubtype_exc hC ?_; rw [hcB]) | wp_step)
 exact wpAny_raiseNew_none hh hE
end
end
section
open PyProof.Rows PySem.Builtin PySem.Builtin.ObjectAttr PySem.Calls
section
variable {prog : Program} {w : World} {A : Around} {E : Value -> Shared -> Prop} {s : Shared} {K : Frag} {x C L : Addr} {h₀ : Heap} {m : Str -> Option Value}
noncomputable def zeV (K : Frag) (C : Addr) : Prop := ∃ cd C1 C2, clsIn K C = some cd /\ cd.mro = [.ref C1, .ref C2, .type "Exception", .type "BaseException", .type "object"]
theorem iK {R : Result -> Shared -> Prop} {ox : Obj} {od : Option Obj} {name : Str} {tk : Tok} {v : Value} (X : K.In s.heap) (I : InstAt s.heap x ox C od) (hp : zeV K C) (ht : takerIn K C name = some none)
  (h : ∀ b, wpAny (model prog w) A.in1 (storeInOwnDict (.ref x) (.ref C) (.str name tk) name v b)
   (λ fin s' => match fin with | .done f => R (.ok f) s' | .again c' => c'.quiet = true /\ codeAny (model prog w) A c' R s') (λ e s' => R (.error e) s') s) :
  codeAny (model prog w) A (.call (.builtin "object.__setattr__") ⟨[.ref x, .str name tk, v], []⟩) R s := by
 have SF := PySem.F.store_object
 obtain ⟨cd, C1, C2, hc, ho⟩ := hp
 have sub : Looks (model prog w) s.heap (isInstance (.ref x) (.type "object")) true := I.type.andThen (looks_mroIn X (by unfold mroIn; rw [hc, Option.bind_some, ho]; rfl))
 refine codeAny_call_builtin SF.slot.plain SF.entry (@check_slot (model prog w) _ _ s "object.__setattr__" "object" "__setattr__" (.ref x) [.str name tk, v] [] _ SF.kind SF.split sub (SF.args (.ref x) (.str name tk) v) ?_)
 obtain ⟨attr, ha, hr⟩ := Option.bind_eq_some_iff.mp ht
 have hm : Looks (model prog w) s.heap (mroOf (.ref C)) cd.mro := (looks_clsIn X hc).andThen .now
 have L3 : Looks (model prog w) s.heap (storeTaker? attr) none := by
  cases attr with
  | none => exact .now
  | some a =>
   obtain ⟨b, hb, hr⟩ := Option.map_eq_some_iff.mp hr
   cases b with
   | true => cases hr
   | false => exact (looks_takesIn X hb).andThen .now
 rw [osa_eq, refuse_eq]
 refine wBD (wBD (I.type.here (wBD (hm.here ?_))))
 rw [ho, refuseLoop_ref, refuseLoop_ref, PySem.F.store_Exception.passes]
 refine wpAny_pure (wBD (I.type.here (wBD ((looks_findIn X ha).here (wBD (L3.here ?_))))))
 exact h _
theorem zeW {R : Result -> Shared -> Prop} {ox : Obj} {dx : Addr} {name : Str} {tk : Tok} {v : Value} {pre post : List (Addr × Obj)} {es es' : List DictEntry} {n n' : Nat} (F : Fr h₀ L s.heap m) (N : News h₀ L s.heap (pre ++ (dx, dictOf es n) :: post)) (X : K.In s.heap)
  (I : InstAt s.heap x ox C (some (dictOf es n))) (hd : ox.dict = some dx) (hp : zeV K C) (ht : takerIn K C name = some none) (hh : (clsIn K C).any (·.hasDict) = true)
  (hl : es.any (·.refKey) = false) (h1 : ∀ p ∈ pre, p.1 ≠ dx) (h2 : ∀ p ∈ post, p.1 ≠ dx)
  (e : Obj.putName name (PyData.keyHash w.params name) (.str name s.toks) v (dictOf es n) = dictOf es' n') (hz : es'.length <= 1000)
  (h : ∀ h', Fr h₀ L h' m -> News h₀ L h' (pre ++ (dx, dictOf es' n') :: post) -> R (.ok (.ret .none)) { s with heap := h', toks := s.toks + 1 }) :
  codeAny (model prog w) A (.call (.builtin "object.__setattr__") ⟨[.ref x, .str name tk, v], []⟩) R s := by
 refine iK X I hp ht λ b => ?_
 obtain ⟨cd, hc, hd'⟩ := any_some hh
 obtain ⟨U1, U2⟩ := news_upd (f := Obj.putName name (PyData.keyHash w.params name) (.str name s.toks) v) F N h1 h2 e rfl
 have D := (N (dx, dictOf es n) (by simp)).1
 have D' := (U2 (dx, dictOf es' n') (by simp)).1
 obtain ⟨hx, hcl, hn, -⟩ := I
 obtain ⟨oc, odi, oda, osl⟩ := ox
 dsimp only at hcl hd
 subst hcl hd
 refine wBD (wpAny_pure (wBD (wBD (wpAny_loadPart hx (wBD ((looks_clsIn X hc).here ?_))))))
 rw [hd']
 refine wpAny_pure (a := some dx) (wBD (wpAny_pure (wBD ?_)))
 unfold nsSet
 refine wBD (wBD (wpAny_askSetting (wpAny_pure (wBD (wpAny_mkText (wBD (wpAny_loadPart D ?_)))))))
 dsimp only
 have c : (!es.toArray.any (·.key.isStr name) && es.toArray.any (·.refKey)) = false := by
  rw [<- Array.any_toList, <- Array.any_toList]
  dsimp only
  rw [hl, Bool.and_false]
 rw [aRefKeyMayBeTheName_at, c]
 refine wpAny_updatePart D ?_
 refine wBD (wpAny_lookBehind D' (pastItsLine_dict (by rw [List.size_toArray, sizeLine_eq]; omega)) ?_)
 exact wpAny_pure (h _ U1 U2)
theorem zhj {R : Result -> Shared -> Prop} {ox : Obj} {name : Str} {tk : Tok} {v : Value} {pre post : List (Addr × Obj)} {es : List DictEntry} {n : Nat} {vs : Array Value} (F : Fr h₀ L s.heap m) (N : News h₀ L s.heap (pre ++ (x, ox) :: post)) (X : K.In s.heap)
  (I : InstAt s.heap x ox C none) (hd : ox.dict = none) (hdt : ox.data = .fields vs) (hp : zeV K C) (ht : takerIn K C name = some none) (hh : (clsIn K C).any (·.hasDict) = true)
  (h1 : ∀ p ∈ pre, p.1 ≠ x) (h2 : ∀ p ∈ post, p.1 ≠ x)
  (e : Obj.putName name (PyData.keyHash w.params name) (.str name s.toks) v (dictOf [] 0) = dictOf es n) (hz : es.length <= 1000)
  (h : ∀ h' d, (∀ p ∈ pre ++ (x, ox) :: post, p.1 < d) -> Fr h₀ L h' m -> News h₀ L h' ((d, dictOf es n) :: (pre ++ (x, { ox with dict := some d }) :: post)) -> R (.ok (.ret .none)) { s with heap := h', toks := s.toks + 1 }) :
  codeAny (model prog w) A (.call (.builtin "object.__setattr__") ⟨[.ref x, .str name tk, v], []⟩) R s := by
 refine iK X I hp ht λ b => ?_
 obtain ⟨cd, hc, hd'⟩ := any_some hh
 have N1 := News.push F N (dictOf [] 0)
 have F1 : Fr h₀ L (s.heap.push (dictOf [] 0)) m := F.keeps λ b o e => Heap.get?_push_of_some _ e
 have hlt : ∀ p ∈ pre ++ (x, ox) :: post, p.1 < s.heap.objs.size := λ p hp => Heap.lt_size (N p hp).1
 have hxd : ∀ p ∈ (s.heap.objs.size, dictOf [] 0) :: pre, p.1 ≠ x := λ p hp => by
  rcases mCM hp with rfl | hp
  ·exact Nat.ne_of_gt (hlt (x, ox) (by simp))
  ·exact h1 p hp
 obtain ⟨hx, hcl, hn, -⟩ := I
 have hx0 := hx
 obtain ⟨oc, odi, oda, osl⟩ := ox
 dsimp only at hcl hd hdt
 subst hcl hd hdt
 obtain ⟨U1, U2⟩ := news_upd (pre := (s.heap.objs.size, dictOf [] 0) :: pre) (f := λ o => { o with dict := some s.heap.objs.size }) (o' := ⟨.ref C, some s.heap.objs.size, .fields vs, osl⟩) F1 N1 hxd h2 rfl rfl
 have hxne : ∀ p ∈ pre ++ (x, (⟨.ref C, some s.heap.objs.size, .fields vs, osl⟩ : Obj)) :: post, p.1 ≠ s.heap.objs.size := λ p hp => by
  refine Nat.ne_of_lt ?_
  rcases List.mem_append.mp hp with hp | hp
  ·exact hlt p (by simp [hp])
  ·rcases mCM hp with rfl | hp
   ·exact hlt (x, ⟨.ref C, none, .fields vs, osl⟩) (by simp)
   ·exact hlt p (by simp [hp])
 obtain ⟨V1, V2⟩ := news_upd (pre := []) (d := s.heap.objs.size) (f := Obj.putName name (PyData.keyHash w.params name) (.str name s.toks) v) (o' := dictOf es n) U1 U2 (λ p hp => nomatch hp) hxne e rfl
 have D := (U2 (s.heap.objs.size, dictOf [] 0) (.head _)).1
 have D' := (V2 (s.heap.objs.size, dictOf es n) (.head _)).1
 have hxp : (s.heap.push (dictOf [] 0)).get? x = some ⟨.ref C, none, .fields vs, osl⟩ := Heap.get?_push_of_some _ hx0
 refine wBD (wpAny_pure (wBD (wBD (wpAny_loadPart hx (wBD ((looks_clsIn X hc).here ?_))))))
 rw [hd']
 refine wBD (wpAny_alloc ?_)
 refine wBD (wpAny_update hxp ?_)
 refine wpAny_pure (a := some s.heap.objs.size) (wBD (wpAny_pure (wBD ?_)))
 unfold nsSet
 refine wBD (wBD (wpAny_askSetting (wpAny_pure (wBD (wpAny_mkText (wBD (wpAny_loadPart D ?_)))))))
 dsimp only
 rw [aRefKeyMayBeTheName_at, show (!(#[] : Array DictEntry).any (·.key.isStr name) && (#[] : Array DictEntry).any (·.refKey)) = false from by simp]
 refine wpAny_updatePart D ?_
 refine wBD (wpAny_lookBehind D' (pastItsLine_dict (by rw [List.size_toArray, sizeLine_eq]; omega)) ?_)
 exact wpAny_pure (h _ _ hlt V1 V2)
end
inductive zfX (c : Cfg) : Prop
 | mk (nm q N bs bm hdct sn sub ab col dd k0 k1 k2 k3 k5 : _) : (c.K.lookup c.excC = some (excClassObj nm q c.excC N bs bm hdct sn sub ab col dd k0 k1 k2 k3 k5 "Exception.__new__")) -> (pU "Exception" bm) -> zfX c
inductive zfY (c : Cfg) (fI : Addr) : Prop
 | mk (name qual : Str) (params : Arguments) (p1 p2 p3 p4 p5 p6 p7 p8 : Pos) (scope : Scope) (dV kV doc pm : Value) (an : Option Addr) (cdv ct oc : Value) (od : Option Addr) (osl : Array (Option Value)) : (c.K.lookup fI = some ⟨oc, od, .func (fnOf name qual params [.Assign [.Attribute (.Name "self" p1) (zf 13) p2] (.Name "value" p3) p4, .Assign [.Attribute (.Name "self" p5) "trace" p6] (.List [] p7) p8] scope dV kV doc pm an cdv ct), osl⟩) -> (codeIn c.K cdv qual = true) -> (scope.isCoroutine = false) -> (scope.isGenerator = false) -> (scope.kind = .function) -> ((∀ x ∈ scope.names, x.2 ≠ .cell)) -> (scope.names.lookup ("self" : Str) = some NameKind.local) -> (scope.names.lookup ("value" : Str) = some NameKind.local) -> (∀ (s : Shared) (a b : Value), BindsTo s (fnOf name qual params [.Assign [.Attribute (.Name "self" p1) (zf 13) p2] (.Name "value" p3) p4, .Assign [.Attribute (.Name "self" p5) "trace" p6] (.List [] p7) p8] scope dV kV doc pm an cdv ct) ⟨[a, b], []⟩ [("self", a), ("value", b)]) -> zfY c fI
structure bR (c : Cfg) (fI : Addr) : Prop where
 obj : zfX c
 init : findIn c.K (.ref c.excC) "__init__" = some (some (.ref fI))
 fn : typeIn c.K (.ref fI) = some (.type "function")
 setA : findIn c.K (.ref c.excC) "__setattr__" = some (some (.builtin "object.__setattr__")) /\ zeV c.K c.excC /\ takerIn c.K c.excC (zf 13) = some none /\ takerIn c.K c.excC "trace" = some none /\ (clsIn c.K c.excC).any (·.hasDict) = true
 name : nsIn c.K mainGlobals "LuaSyntaxError" = some (some (.ref c.excC)) /\ keepIn c.K (.ref c.excC) = true
 ex : zfY c fI
theorem tQ {h B : Heap} : ∀ {l : List Env} {base : Heap}, h.FunFrames base l -> (∀ b ∈ l.filterMap (·.frame), B.get? b = none) -> h.FunFrames B l
 | [], _, _, _ => trivial
 | env :: r, base, ⟨hk, ⟨L, o, hf, hn, ho, hd⟩, hr⟩, hB => ⟨hk, ⟨L, o, hf, hB L (by rw [List.filterMap_cons, hf]; exact .head _), ho, hd⟩, tQ hr λ b hb => hB b (by rw [List.filterMap_cons, hf]; exact .tail _ hb)⟩
noncomputable abbrev frs (l : List Env) : List Addr := l.filterMap (·.frame)
noncomputable abbrev xcO (C t : Addr) (d : Option Addr) : Obj := { cls := .ref C, dict := d, data := .fields #[.ref t, .none, .none, .none, .bool false, .none], slots := #[] }
theorem zcV (e : Expr) (pos : Pos) (env : Env) : exec (.Raise (some e) none pos) env = (do
  standAt pos
  raiseStmt env (some (do let v <- eval e env; standAt pos; pure v)) none) := rfl
theorem zhk {c : Cfg} {fI : Addr} (Z : bR c fI) : wD c := by
 intro f y a z np cpos pos e Kc Ec H hg hs R hp
 have below := H.below
 have kin := H.kin
 have top := H.top
 have kind := H.kind
 have hA := H.stack
 have hh := H.hh
 have depth := H.depth
 obtain ⟨nm, q, N, bs, bm, hdct, sn, sub, ab, col, dd, k0, k1, k2, k3, k5, hC, TH⟩ := Z.obj
 obtain ⟨fname, qual, params, p1, p2, p3, p4, p5, p6, p7, p8, scope, dV, kV, doc, pm, an, cdv, ct, oc, od, osl, hf1, hf2, hf3, hf4, hf5, hf6, l1, l2, hb⟩ := Z.ex
 rw [zcV]
 refine wBD (wpAny_standAt (zeU (C := c.excC) (nm := nm) (q := q) (N := N) (bs := bs) (bm := bm) (hdct := hdct) (sn := sn) (sub := sub) (ab := ab) (col := col) (dd := dd) (k0 := k0) (k1 := k1) (k2 := k2) (k3 := k3) (k5 := k5) (newId := "Exception.__new__") TH.hBase hh (wBD ?_)))
 refine wpAny_mono (Q := λ v s₁ => ∃ e t oe, v = .ref e /\ s₁.heap.get? c.excC = some (excClassObj nm q c.excC N bs bm hdct sn sub ab col dd k0 k1 k2 k3 k5 "Exception.__new__") /\
   s₁.heap.get? e = some oe /\ oe.cls = .ref c.excC /\ oe.data = .fields #[.ref t, .none, .none, .none, .bool false, .none] /\ Ec (.ref e) s₁) (E := Ec) ?_ (λ v s₁ h₁ => wBD (wpAny_standAt (wpAny_pure h₁))) λ u u x => x
 show wpAny _ _ (do callWith cpos (<- eval (.Name z np) f.env) [] (backTo cpos (starEach [e] f.env)) []) _ _ _
 refine yH hg λ z1 z2 z3 => wBD (name_K R.F kin (topRead_of top) (z1 ▸ Z.name.1) ?_ kind z3 z2)
 refine yZ (P := c.K.In) (yC hs) (λ h X => keeps_K Z.name.2 h X) (args1 hs (wpAny_mono hp (λ w s₁ h₁ => ?_) λ u u x => x))
 obtain ⟨msg, t, b, R', U, hl, hE⟩ := h₁
 refine ⟨kin.keeps R'.F.keep, ?_⟩
 refine zhi (nm := nm) (q := q) (C := c.excC) PySem.F.excBase_Exception TH ((kin.keeps R'.F.keep) _ _ hC) (kin.keeps R'.F.keep) Z.init Z.fn (λ h1 e1 hm => wpAny_call ?_) (by show 1 <= _; rw [sizeLine_eq]; omega)
 obtain ⟨tt, ht1, ht2, ht3⟩ := hm.there
 have F1 : Fr f.h₀ f.L h1 y.m := R'.F.keeps hm.keeps
 have hnew : f.h₀.get? e1 = none := by
  cases q : f.h₀.get? e1 with
  | none => rfl
  | some o => have := R'.F.keep _ _ q; rw [hm.new] at this; cases this
 have hneL : e1 ≠ f.L := λ q => by
  obtain ⟨o, _, _, ho, _⟩ := R'.F.ns
  rw [<- q, hm.new] at ho; cases ho
 have N1 : News f.h₀ f.L h1 ((e1, xcO c.excC tt none) :: b.P.news) := λ p hp => by
  rcases mCM hp with rfl | hp
  ·exact ⟨ht1, hneL, hnew⟩
  ·exact ⟨hm.keeps _ _ (R'.N p hp).1, (R'.N p hp).2⟩
 have hfe : ∀ p ∈ b.P.news, p.1 ≠ e1 := λ p hp q => by
  have := (R'.N p hp).1
  rw [q, hm.new] at this; cases this
 refine code_def (A := f.A.under (.builtin "type.__call__" ⟨.ref c.excC :: ([] ++ [.bytes msg.toArray t]), []⟩)) (s := b.to h1 b.s.toks) below F1 kin N1 top hA rfl kind hf1 hf2 (by show f.A.depth + 1 < recursionLimit; omega) (hb _ _ _) (λ y hy => ?_) (λ g0 L' hp1 F0 F2 N2 B1 K1 T1 => ?_) hf3 hf4 hf5 hf6
 ·simp only [List.mem_cons, List.not_mem_nil, or_false] at hy
  rcases hy with rfl | rfl
  ·exact l1
  ·exact l2
 refine wpAny_execs_cons (plainObj_wpAny_Assign_Attribute (ld F2 (v := .bytes msg.toArray t) rfl ?_ hf5 l2) (z6 rfl _ _))
 refine ld F2 (v := .ref e1) rfl ?_ hf5 l1
 have I1 : InstAt hp1 e1 (xcO c.excC tt none) c.excC none := ⟨(N2 _ (.head _)).1, rfl, rfl, trivial⟩
 refine set_plain (K1.keeps F2.keep) I1 Z.setA.1 ?_
 refine zhj (s := b.to hp1 _) (pre := []) F2 N2 (K1.keeps F2.keep) I1 rfl rfl Z.setA.2.1 Z.setA.2.2.1 Z.setA.2.2.2.2 (λ p hp => nomatch hp) hfe (putName_dict _ _ _ _ _ _) (by show 1 <= 1000; omega) λ h2' d hlt F3 N3 => ?_
 refine wpAny_execs_cons (plainObj_wpAny_Assign_Attribute (List_ (args_nil ?_)) rfl)
 refine newList_N F3 N3 (λ h3' F4 N4 => ?_) (by rw [sizeLine_eq]; exact Nat.zero_le _)
 refine ld F4 (v := .ref e1) rfl ?_ hf5 l1
 have hdne : ∀ p ∈ (e1, xcO c.excC tt (some d)) :: b.P.news, p.1 ≠ d := λ p hp => by
  refine Nat.ne_of_lt ?_
  rcases mCM hp with rfl | hp
  ·exact hlt (e1, xcO c.excC tt none) (.head _)
  ·exact hlt p (.tail _ hp)
 have hls : ∀ p ∈ [(h2'.objs.size, listOf ([] : List Value).toArray 0)], p.1 ≠ d := λ p hp => by
  simp only [List.mem_singleton] at hp
  subst hp
  exact Nat.ne_of_gt (Heap.lt_size (N3 _ (.head _)).1)
 have I2 : InstAt h3' e1 (xcO c.excC tt (some d)) c.excC (some (dictOf (putL (zf 13) (PyData.keyHash c.w.params (zf 13)) (.str (zf 13) (b.s.toks + [(("self" : Str), Value.ref e1), ("value", .bytes msg.toArray t)].length + 1)) (.bytes msg.toArray t) []) (putN (zf 13) [] 0))) :=
  ⟨(N4 _ (.tail _ (.tail _ (.head _)))).1, rfl, rfl, (N4 _ (.tail _ (.head _))).1⟩
 refine set_plain (K1.keeps F4.keep) I2 Z.setA.1 ?_
 refine zeW (s := b.to h3' _) (dx := d) (pre := [(h2'.objs.size, listOf ([] : List Value).toArray 0)]) (post := (e1, xcO c.excC tt (some d)) :: b.P.news) F4 N4 (K1.keeps F4.keep) I2 rfl Z.setA.2.1 Z.setA.2.2.2.1 Z.setA.2.2.2.2 rfl hls hdne (putName_dict _ _ _ _ _ _) (by show 2 <= 1000; omega) λ h4' F5 N5 => ?_
 refine wpAny_execs_nil ?_
 refine leaveK_ F5 N5 λ F6 N6 => ⟨rfl, ?_⟩
 have He := N6 (e1, xcO c.excC tt (some d)) (.tail _ (.tail _ (.head _)))
 have Hd := N6 (d, _) (.tail _ (.head _))
 refine ⟨e1, tt, _, rfl, (kin.keeps F6.keep) _ _ hC, He.1, rfl, rfl, ?_⟩
 have hfr : h4'.FunFrames f.base (f.env :: f.outer) := (below.push F6 kind).frames
 have hmem := λ b (hb : b ∈ frs (f.env :: f.outer)) => hfr.mem hb
 have hB : ∀ b o, f.base.get? b = some o -> (hideAll h4' (e1 :: frs (f.env :: f.outer))).get? b = some o := λ b o q => by
  refine hideAll_get _ (F6.keep _ _ (below.stays _ _ q)) λ z => ?_
  rcases mCM z with rfl | z
  ·have := below.stays _ _ q
   rw [hnew] at this; cases this
  ·rw [(hmem b z).1] at q; cases q
 have G : Rsd c f y.m msg (.ref e1) h4' -> ∀ tk, Ec (.ref e1) (b.to h4' tk) := λ q tk => (U.to h4' tk).symm ▸ hE (.ref e1) h4' tk q
 refine G ⟨.inl ⟨e1, hideAll h4' (e1 :: frs (f.env :: f.outer)), d, _, _, _, _, _, rfl, ⟨(hB : f.base.StaysIn _), hideAll_get _ Hd.1 λ z => ?_, ⟨t, rfl⟩, _, He.1, rfl, _, rfl, rfl⟩, λ b o q => of_hideAll _ q, hideAll_none _ (.head _), tQ hfr λ b hb => hideAll_none _ (.tail _ hb), He.1, rfl, rfl, rfl, rfl⟩, h4', F6, Heap.UpToSlots.refl _⟩ _
 rcases mCM z with z | z
 ·exact hdne (e1, xcO c.excC tt (some d)) (.head _) z.symm
 ·have z : d ∈ f.L :: frs f.outer := z
  rcases mCM z with z | z
  ·exact Hd.2.1 z
  ·obtain ⟨_, o, ho, _⟩ := below.frames.mem z
   rw [Hd.2.2] at ho; cases ho
end
section
open PyProof.Rows PySem.Builtin PySem.Calls
set_option tactic.hygienic true
set_option maxHeartbeats 1000000 in
theorem eN (b : Array UInt8) (t : Tok) :
  Meets (Builtin.«enumerate.__new__» ⟨[.type "enumerate", .bytes b t], []⟩) (λ z R s =>
   R (.ok (.ret (.ref (s.heap.push { cls := .type "bytes_iterator", data := .fields #[.bytes b t, .int 0 0] }).objs.size)))
    { s with heap := (s.heap.push { cls := .type "bytes_iterator", data := .fields #[.bytes b t, .int 0 0] }).push { cls := .type "enumerate", data := .fields #[.none, .bool false, .ref s.heap.objs.size, rawInt 0, .none, .none] } }) :=
 .of_wp λ prog w A R s h => by
  obtain ⟨hp, g, d, tk, os⟩ := s
  have hsub := sub_enumerate
  wp_walk
  refine wpAny_stack_any λ st => wpAny_pure ?_
  split
  ·rename_i c _ _ _ _ _
   cases (c == Value.type "enumerate")
   ·wp_walk using KBw.pyIter_bytes
    exact ⟨_, rfl, h⟩
   ·wp_walk using KBw.pyIter_bytes
    exact ⟨_, rfl, h⟩
  ·wp_walk using KBw.pyIter_bytes
   exact ⟨_, rfl, h⟩
section
variable {prog : Program} {w : World} {A : Around} {E : Value -> Shared -> Prop} {s : Shared}
theorem zaF {b : Array UInt8} {t : Tok} {Q : Value -> Shared -> Prop}
  (h : ∀ h', IsEnum h' (s.heap.objs.size + 1) s.heap.objs.size 0 .none -> KBw.IsBytesIter h' s.heap.objs.size b t 0 -> (∀ b o, s.heap.get? b = some o -> h'.get? b = some o) -> Q (.ref (s.heap.objs.size + 1)) { s with heap := h' }) :
  wpAny (model prog w) A (call (.type "enumerate") [.bytes b t]) Q E s := by
 refine callType_new F.called_enumerate (by decide) (F.typeCall_enumerate_1 _) (F.newCall_enumerate_1 _) (λ obj => F.args_object_init_2 obj _) F.entry_enumerate_new (eN b t) ?_
 have hz : (s.heap.push { cls := .type "bytes_iterator", data := .fields #[.bytes b t, .int 0 0] }).objs.size = s.heap.objs.size + 1 := Heap.size_push ..
 show _ /\ _
 rw [hz]
 have he : IsEnum ((s.heap.push { cls := .type "bytes_iterator", data := .fields #[.bytes b t, .int 0 0] }).push
   { cls := .type "enumerate", data := .fields #[.none, .bool false, .ref s.heap.objs.size, rawInt 0, .none, .none] }) (s.heap.objs.size + 1) s.heap.objs.size 0 .none := by
  have := Heap.get?_push_size (s.heap.push { cls := .type "bytes_iterator", data := .fields #[.bytes b t, .int 0 0] })
   (o := { cls := .type "enumerate", data := .fields #[.none, .bool false, .ref s.heap.objs.size, rawInt 0, .none, .none] }) rfl
  rw [hz] at this; exact this
 exact ⟨⟨_, he, rfl⟩, h _ he ⟨_, Heap.get?_push_of_some _ (Heap.get?_push_size _ rfl), rfl, rfl⟩ λ b o x => Heap.get?_push_of_some _ (Heap.get?_push_of_some _ x)⟩
theorem zhl {b : Array UInt8} {t : Tok} {it : Addr} {i : Nat} {c : UInt8} {Q : Value -> Shared -> Prop} (hit : KBw.IsBytesIter s.heap it b t i) (hx : b[i]? = some c)
  (hQ : ∀ h', KBw.IsBytesIter h' it b t (i + 1) -> Heap.SameBut it s.heap h' -> Q (.int (c.toNat : Int) s.toks) { s with heap := h', toks := s.toks + 1 }) : wpAny (model prog w) A (Builtin.SmallTypes.nextOf (.ref it)) Q E s := by
 obtain ⟨o, ho, hc, hd⟩ := id hit
 unfold Builtin.SmallTypes.nextOf
 refine wBD (wpAny_callSpecial?_slot (name := Str.ofString "__next__") (KBw.iter_typeIs hit) KBw.slot_next
  (wpAny_call_entry KBw.slot_next (KBw.iter_typeIs hit) KBw.entry_next ?_ (KBw.args_next _)))
 show wpAny _ _ (field (.ref it) 0 >>= _) _ _ s
 refine wBD (wpAny_field ho hd (x := .bytes b t) rfl ?_)
 show wpAny _ _ (if (Value.bytes b t == Value.none) = true then _ else _) _ _ s
 rw [if_neg (show ¬ ((Value.bytes b t == Value.none) = true) from Bool.false_ne_true)]
 show wpAny _ _ (field (.ref it) 1 >>= _) _ _ s
 refine wBD (wpAny_field ho hd (x := .int i 0) rfl ?_)
 refine wBD (wpAny_of_eq (a := b) rfl ?_)
 simp only [Int.toNat_natCast, hx]
 refine wBD (wpAny_setField ho hd (by simp) (wBD (wpAny_mkInt (wpAny_pure ⟨_, rfl, wpAny_pure (hQ _ ?_ (Heap.SameBut.update ..))⟩))))
 exact ⟨_, Heap.get?_update_self _ ho (Obj.isFreed_of_fields (Obj.data_mapFields hd _)), (Obj.cls_mapFields ..).trans hc, by
  rw [Obj.data_mapFields hd]; simp [rawInt]⟩
theorem ziU {b : Array UInt8} {t : Tok} {it : Addr} {i : Nat} {Q : Value -> Shared -> Prop} (hh : A.handled = none) (hit : KBw.IsBytesIter s.heap it b t i) (hx : b[i]? = none)
  (hE : ∀ h' e, Heap.ExtBut it s.heap h' -> (∃ o, h'.get? e = some o /\ o.cls = .type "StopIteration") -> E (.ref e) { s with heap := h' }) : wpAny (model prog w) A (Builtin.SmallTypes.nextOf (.ref it)) Q E s := by
 obtain ⟨o, ho, hc, hd⟩ := id hit
 unfold Builtin.SmallTypes.nextOf
 refine wBD (wpAny_callSpecial?_slot (name := Str.ofString "__next__") (KBw.iter_typeIs hit) KBw.slot_next
  (wpAny_call_entry KBw.slot_next (KBw.iter_typeIs hit) KBw.entry_next ?_ (KBw.args_next _)))
 show wpAny _ _ (field (.ref it) 0 >>= _) _ _ s
 refine wBD (wpAny_field ho hd (x := .bytes b t) rfl ?_)
 show wpAny _ _ (if (Value.bytes b t == Value.none) = true then _ else _) _ _ s
 rw [if_neg (show ¬ ((Value.bytes b t == Value.none) = true) from Bool.false_ne_true)]
 show wpAny _ _ (field (.ref it) 1 >>= _) _ _ s
 refine wBD (wpAny_field ho hd (x := .int i 0) rfl ?_)
 refine wBD (wpAny_of_eq (a := b) rfl ?_)
 simp only [Int.toNat_natCast, hx]
 refine wBD (wpAny_rule (wBD (wpAny_setField ho hd (by simp) ?_)))
 show wpAny _ _ (newExc (.type "StopIteration") [] >>= _) _ _ _
 refine wBD ?_
 simp only [newExc, newTuple]
 refine wBD (wpAny_newObj_type ?_ (by size_fits))
 refine wBD (m := firstArgMember _ _) (wpAny_of_eq (a := Value.none) (by first | rfl | (simp only [firstArgMember]; rfl)) ?_)
 refine wpAny_newObj_type ?_ (by size_fits)
 simp only [raiseNew]
 refine wBD (wpAny_handled ?_)
 first | rw [show A.in1.handled = none from hh] | rw [hh]
 refine wBD (wpAny_pure (wpAny_throw ?_))
 exact hE _ _ (((Heap.SameBut.update ..).extBut.push _).push _) ⟨_, Heap.get?_push_size _ rfl, rfl⟩
theorem ziV (hh : A.handled = none) (it : Addr) (b : Array UInt8) (t : Tok) : Draws prog w A it [it] b.size (λ i v => ∃ c u, b[i]? = some c /\ v = .int (c.toNat : Int) u) (λ i h => KBw.IsBytesIter h it b t i) where
 live := λ i h st => let ⟨o, e, _⟩ := st; ⟨o, e⟩
 frame := λ z z z st hk => let ⟨o, ho, r⟩ := st; ⟨o, hk it (by simp) o ho, r⟩
 item := λ i s Q E hi st hQ => zhl st (c := b[i]) (by simp [hi]) λ h' hit' hs' => hQ _ h' _ ⟨_, _, by simp [hi], rfl⟩ hit' hs'
 done := λ s Q E st hE => ziU hh st (by simp) hE
end
end
section
open PyProof.Rows PyProof.Rows.LCg PySem.Builtin PySem.Calls
theorem iM {vs : List Value} {is : List Int} {i : Int} {t : Tok} (h : IntsAre vs is) : IntsAre (vs ++ [.int i t]) (is ++ [i]) := by
 induction h with
 | nil => exact .cons i t .nil
 | cons j u _ ih => exact .cons j u ih
noncomputable def isV (val : Nat -> UInt8 -> Int) (l : Bs) : List Int := l.zipIdx.map λ p => val p.2 p.1
theorem zeX {val : Nat -> UInt8 -> Int} {l : Bs} {c : UInt8} : isV val (l ++ [c]) = isV val l ++ [val l.length c] := by
 unfold isV
 rw [List.zipIdx_append, List.map_append]
 simp
set_option maxHeartbeats 1000000 in
theorem eO {M : Program} {w : World} {A : Around} {E : Value -> Shared -> Prop} {s : Shared} {h₀ : Heap} {L : Addr} {m : Str -> Option Value} {env : Env} {elt iter : Expr} {x x₂ : Str} {px px₂ tp : Pos} {tk : Nat} {scope : Scope} {cl : List (Str × Addr)} {pos : Pos} {Q : Value -> Shared -> Prop} {b : Array UInt8} {val : Nat -> UInt8 -> Int}
  (hclos : closureFor scope env = pure cl) (hcell : ∀ y ∈ scope.names, y.2 ≠ .cell) (hkind : scope.kind = .function)
  (hnames : ∀ y ∈ scope.names, y.2 = .local -> scope.names.lookup y.1 = some .local) (hx : scope.names.lookup x = some .local) (hx₂ : scope.names.lookup x₂ = some .local) (hxx : x ≠ x₂) (hh : A.handled = none) (hz : b.size <= 1000)
  (h : wpAny (model M w) A (eval iter env) (λ xv s₁ => ∃ eI it news t, xv = .ref eI /\ eI ≠ it /\ (∃ old, IsEnum s₁.heap eI it ((0 : Nat) : Int) old) /\ KBw.IsBytesIter s₁.heap it b t 0 /\ Fr h₀ L s₁.heap m /\ News h₀ L s₁.heap news /\ h₀.get? eI = none /\ h₀.get? it = none /\ L ≠ eI /\ L ≠ it /\ (∀ p ∈ news, p.1 ≠ eI /\ p.1 ≠ it) /\
   (∀ i c C m₂ hp tk' t1 t2 (E' : Value -> Shared -> Prop) (Q' : Value -> Shared -> Prop), b[i]? = some c -> hp.Ns C m₂ -> m₂ x = some (.int (i : Int) t1) -> m₂ x₂ = some (.int (c.toNat : Int) t2) -> News h₀ L hp news -> (∀ u tk'', Q' (.int (val i c) u) { s₁ with heap := hp, toks := tk'' }) -> wpAny (model M w) A (eval elt (compEnvC scope cl C env)) Q' E' { s₁ with heap := hp, toks := tk' }) /\
   (∀ D hp tk' ys, Fr h₀ L hp m -> News h₀ L hp news -> hp.IsList D ys -> (∃ is, IntsAre ys.toList is /\ is = isV val b.toList) -> Q (.ref D) { s₁ with heap := hp, toks := tk' })) E s)
  (hs : ∀ x, foldedSetIterable iter env x = pure x) :
  wpAny (model M w) A (eval (.ListComp elt [⟨.Tuple [.Name x px, .Name x₂ px₂] tk tp, iter, [], 0⟩] scope pos) env) Q E s := by
 rw [eval_ListComp]
 refine wpAny_comprehension_free (use := none) rfl hs hclos hkind hnames (wpAny_mono h (λ xv s₁ h₁ => uo λ Q1 q1 => ?_) λ z z e => e)
 obtain ⟨eI, it, news, t, rfl, hne, ⟨old, he⟩, hit, F, N, he₀, hi₀, hLe, hLi, off, helt, fin⟩ := h₁
 refine wpAny_pyIter_enum he (q1 _ _ ?_)
 have W := WalksT.enumerateD (ziV (prog := M) (w := w) (A := A.in1) hh it b t) eI hne (by simpa using hne) (by simp)
 refine wpAny_newObj_type (wpAny_newFunctionEnv hcell (by intro y hy; simp at hy) (λ h₁ hns₁ hsb₁ => ?_) hkind)
 dsimp only at hns₁ hsb₁ ⊢
 generalize hH2 : s₁.heap.push { cls := .type "list", dict := none, data := .seq ([] : List Value).toArray } = H2 at hns₁ hsb₁ ⊢
 have hC : H2.objs.size = s₁.heap.objs.size + 1 := by rw [<- hH2, Heap.size_push]
 generalize hD : s₁.heap.objs.size = D at hC hns₁ hsb₁ ⊢
 have below : ∀ a o, s₁.heap.get? a = some o -> a < D := λ a o e => hD ▸ Heap.lt_size e
 have oldK : ∀ a o, s₁.heap.get? a = some o -> h₁.get? a = some o := λ a o e => hsb₁.extBut a o (by rw [hC]; exact Nat.ne_of_lt (Nat.lt_succ_of_lt (below a o e))) (Heap.get?_push_of_some _ (hH2 ▸ Heap.get?_push_of_some _ e))
 have hDC : D ≠ H2.objs.size := by rw [hC]; exact Nat.ne_of_lt (Nat.lt_succ_self _)
 have hacc : h₁.get? D = some (lst []) := hsb₁.extBut _ _ hDC (Heap.get?_push_of_some _ (by rw [<- hH2, <- hD]; exact Heap.get?_push_size _ rfl))
 have fresh₀ : ∀ a, D <= a -> h₀.get? a = none := λ a ha => by
  cases q : h₀.get? a with
  | none => rfl
  | some o => exact absurd (below a o (F.keep _ _ q)) (Nat.not_lt.mpr ha)
 have hLD : L < D := hD ▸ F.ns.lt
 have hCL : H2.objs.size ≠ L := by rw [hC]; exact Nat.ne_of_gt (Nat.lt_succ_of_lt hLD)
 have hC₀ : h₀.get? H2.objs.size = none := fresh₀ _ (by rw [hC]; exact Nat.le_succ _)
 have heD : eI < D := below _ _ he
 have hiD : it < D := by obtain ⟨o, e, _⟩ := hit; exact below _ _ e
 have hND : ∀ p ∈ news, p.1 < D := λ p hp => below _ _ (N p hp).1
 have loop : ∀ s₃ : Shared, s₃ = { s₁ with heap := h₁, toks := s₁.toks + ([] : List (Str × Value)).length } ->
   codeAny (model M w) A (.compLoop (.ListComp elt [⟨.Tuple [.Name x px, .Name x₂ px₂] tk tp, iter, [], 0⟩] scope pos) 0 (.ref eI) (.ref D) (compEnvC scope cl H2.objs.size env))
    (compPost (model M w) A E none Q (.ref D) H2.objs.size) s₃ := by
  rintro s₃ rfl
  refine LCp.codeAny_compLoop_pair
   (λ k s' => ∃ h' tk i ys m', s' = { s₁ with heap := h', toks := tk } /\ i <= b.size /\ k = b.size + 1 - i /\ IntsAre ys (isV val (b.toList.take i)) /\ (∃ old, IsEnum h' eI it (i : Int) old) /\ KBw.IsBytesIter h' it b t i /\ Fr h₀ L h' m /\ h'.Ns H2.objs.size m' /\ News h₀ L h' news /\ h'.get? D = some (lst ys)) ?_ (b.size + 1)
   ⟨h₁, _, 0, [], _, rfl, Nat.zero_le _, rfl, .nil, ⟨old, oldK _ _ he⟩, (by obtain ⟨o, e, r⟩ := hit; exact ⟨o, oldK _ _ e, r⟩), F.keeps oldK, hns₁, N.grown oldK, hacc⟩
  refine λ k s' hI => uo λ Q2 q2 => qu λ E2 => ?_
  obtain ⟨h', tk, i, ys, m', rfl, hi, rfl, hys, ⟨old', he'⟩, hit', F', hn', N', hD'⟩ := hI
  have hyl : ys.length = i := by
   have := hys.length
   have e2 : b.toList.length = b.size := Array.length_toList
   rw [isV, List.length_map, List.length_zipIdx, List.length_take, e2] at this
   omega
  by_cases hlt : i < b.size
  ·refine W.item i _ _ _ hlt ⟨⟨old', he'⟩, hit'⟩ λ T vals h2 tk2 hPt hT hTup hMid hk2 => q2 _ _ (uo λ Q3 q3 => qu λ E3 => ?_)
   obtain ⟨t1, v, ⟨c, u, hc, rfl⟩, rfl⟩ := hPt
   refine W.go _ _ _ i T { s₁ with heap := h2, toks := tk2 } _ _ hMid λ h3 hSt3 hk3 => q3 _ _ (uo λ Q4 q4 => qu λ E4 => ?_)
   have hTw : T ∉ [eI, it] := W.apart _ _ _ hMid
   have keep3 : ∀ a o, a ≠ eI -> a ≠ it -> h'.get? a = some o -> h3.get? a = some o := λ a o n1 n2 e => hk3 a o (by simp [n1, n2]) (hk2 a o (by simp [n1, n2]) e)
   have ht3 : IsTup h3 T #[.int (i : Int) t1, .int (c.toNat : Int) u] := by
    obtain ⟨o, ho, r⟩ := hTup
    exact ⟨o, hk3 T o hTw ho, r⟩
   refine assign_Tuple_tuple (s := { s₁ with heap := h3, toks := tk2 }) hh ht3 rfl rfl λ h5 he5 => ?_
   have he5' : ∀ a o, h3.get? a = some o -> h5.get? a = some o := λ a o e => he5 a o (Nat.ne_of_lt (Heap.lt_size e)) e
   have hCe : H2.objs.size ≠ eI := by rw [hC]; exact Nat.ne_of_gt (Nat.lt_succ_of_lt heD)
   have hCi : H2.objs.size ≠ it := by rw [hC]; exact Nat.ne_of_gt (Nat.lt_succ_of_lt hiD)
   refine assignInOrder_cons (wpAny_assign_Name (wpAny_storeName_local (lookup_relabel_local hx) ((hn'.at' λ o e => keep3 _ o hCe hCi e).at' λ o e => he5' _ o e) (λ h6 hn6 hs6 => ?_) (by simp [compEnvC, relabel, hkind])))
   refine assignInOrder_cons (wpAny_assign_Name (wpAny_storeName_local (lookup_relabel_local hx₂) hn6 (λ h7 hn7 hs7 => ?_) (by simp [compEnvC, relabel, hkind])))
   refine assignInOrder_nil (q4 _ _ ?_)
   have up : ∀ a o, a ≠ H2.objs.size -> h3.get? a = some o -> h7.get? a = some o := λ a o n e => hs7.extBut a o n (hs6.extBut a o n (he5' a o e))
   have up' : ∀ a o, a ≠ H2.objs.size -> a ≠ eI -> a ≠ it -> h'.get? a = some o -> h7.get? a = some o := λ a o n n1 n2 e => up a o n (keep3 a o n1 n2 e)
   have ltC : ∀ a, a < D -> a ≠ H2.objs.size := λ a ha => by rw [hC]; exact Nat.ne_of_lt (Nat.lt_succ_of_lt ha)
   have F7 : Fr h₀ L h7 m := ⟨F'.ns.at' λ o e => up' _ o (Ne.symm hCL) hLe hLi e, λ a o e => up' _ o (λ q => by rw [q, hC₀] at e; cases e) (λ q => by rw [q, he₀] at e; cases e) (λ q => by rw [q, hi₀] at e; cases e) (F'.keep a o e), F'.above⟩
   have N7 : News h₀ L h7 news := λ p hp => ⟨up' _ _ (ltC _ (hND p hp)) (off p hp).1 (off p hp).2 (N' p hp).1, (N' p hp).2⟩
   have hD7 : h7.get? D = some (lst ys) := up' _ _ hDC (Nat.ne_of_gt heD) (Nat.ne_of_gt hiD) hD'
   obtain ⟨⟨old3, he3⟩, hit3⟩ := hSt3
   have he7 : IsEnum h7 eI it ((i + 1 : Nat) : Int) old3 := up _ _ (ltC _ heD) he3
   have hit7 : KBw.IsBytesIter h7 it b t (i + 1) := by obtain ⟨o, e, r⟩ := hit3; exact ⟨o, up _ _ (ltC _ hiD) e, r⟩
   refine helt i c H2.objs.size _ h7 _ t1 u _ _ hc hn7 (by simp [hxx]) (by simp) N7 λ u4 tk4 => ?_
   refine append_at (s := { s₁ with heap := h7, toks := tk4 }) (hsz := by show ys.toArray.size <= sizeLine; rw [List.size_toArray, hyl]; exact nLT (nLT hi hz) (by decide)) hD7 λ h8 hs8 hD8 => ?_
   have hDL : D ≠ L := Nat.ne_of_gt hLD
   refine ⟨b.size + 1 - (i + 1), by omega, h8, tk4, i + 1, ys ++ [.int (val i c) u4], _, rfl, hlt, rfl, ?_, ⟨old3, hs8.extBut _ _ (Nat.ne_of_lt heD) he7⟩, (by obtain ⟨o, e, r⟩ := hit7; exact ⟨o, hs8.extBut _ _ (Nat.ne_of_lt hiD) e, r⟩), F7.change hs8 hDL (fresh₀ _ (Nat.le_refl _)), hn7.sameBut hs8 (Ne.symm hDC), λ p hp => ⟨hs8.extBut _ _ (Nat.ne_of_lt (hND p hp)) (N7 p hp).1, (N7 p hp).2⟩, hD8.trans (congrArg some (lst_snoc ys _))⟩
   have htk : b.toList.take (i + 1) = b.toList.take i ++ [c] := by
    have e1 : b.toList[i]? = some c := by rw [Array.getElem?_toList]; exact hc
    rw [List.take_add_one, e1]; rfl
   have e2 : b.toList.length = b.size := Array.length_toList
   rw [htk, zeX, List.length_take, Nat.min_eq_left (by omega)]
   exact iM hys
  ·obtain rfl : i = b.size := Nat.le_antisymm hi (Nat.not_lt.mp hlt)
   refine W.done _ _ _ ⟨⟨old', he'⟩, hit'⟩ λ h2 tk2 hk2 => q2 _ _ ?_
   have hCe : H2.objs.size ≠ eI := by rw [hC]; exact Nat.ne_of_gt (Nat.lt_succ_of_lt heD)
   have hCi : H2.objs.size ≠ it := by rw [hC]; exact Nat.ne_of_gt (Nat.lt_succ_of_lt hiD)
   have k2 : ∀ a o, a ≠ eI -> a ≠ it -> h'.get? a = some o -> h2.get? a = some o := λ a o n1 n2 e => hk2 a o (by simp [n1, n2]) e
   refine ⟨m', hn'.at' λ o e => k2 _ o hCe hCi e, λ h'' hs'' => fin D h'' tk2 ys.toArray ?_ ?_ ?_ ?_⟩
   ·exact ⟨F'.ns.at' λ o e => hs''.extBut _ o (Ne.symm hCL) (k2 _ o hLe hLi e), λ a o e => hs''.extBut _ o (λ q => by rw [q, hC₀] at e; cases e) (k2 _ o (λ q => by rw [q, he₀] at e; cases e) (λ q => by rw [q, hi₀] at e; cases e) (F'.keep a o e)), F'.above⟩
   ·exact λ p hp => ⟨hs''.extBut _ _ (by rw [hC]; exact Nat.ne_of_lt (Nat.lt_succ_of_lt (hND p hp))) (k2 _ _ (off p hp).1 (off p hp).2 (N' p hp).1), (N' p hp).2⟩
   ·exact ⟨_, hs''.extBut _ _ hDC (k2 _ _ (Nat.ne_of_gt heD) (Nat.ne_of_gt hiD) hD'), rfl, _, rfl⟩
   ·refine ⟨_, hys, ?_⟩
    rw [List.take_of_length_le (by rw [Array.length_toList]; exact Nat.le_refl _)]
 exact codeAny_compStart_list (loop _ rfl) (W.self 0 _ _ _ ⟨⟨old, oldK _ _ he⟩, (by obtain ⟨o, e, r⟩ := hit; exact ⟨o, oldK _ _ e, r⟩)⟩ (loop _ rfl))
end
section
open PyProof.Rows PySem.Builtin PySem.Calls
noncomputable def eU : Scope := ⟨.function, [(".0", .local), ("spot", .local), ("one", .local), ("at", .free), ("end", .free)], false, false, []⟩
noncomputable def zfZ (p : Nat -> Pos) : Expr := .BinOp (.BinOp (.Name "one" (p 39)) .Sub (.Constant (.int 48) 0 (p 40)) (p 41)) .Mult (.BinOp (.Constant (.int 10) 0 (p 42)) .Pow (.BinOp (.BinOp (.BinOp (.Name "end" (p 43)) .Sub (.Name "at" (p 44)) (p 45)) .Sub (.Constant (.int 1) 0 (p 46)) (p 47)) .Sub (.Name "spot" (p 48)) (p 49)) (p 50)) (p 51)
noncomputable def zf0 (p : Nat -> Pos) : Stmt := .Assign [.Name "number" (p 37)] (.Call (.Name "sum" (p 38)) [.ListComp (zfZ p) [⟨.Tuple [.Name "spot" (p 52), .Name "one" (p 53)] 0 (p 54), .Call (.Name "enumerate" (p 55)) [.Subscript (.Name "text" (p 56)) (.Slice (some (.Name "at" (p 57))) (some (.Name "end" (p 58))) none (p 59)) (p 60)] [] (p 61), [], 0⟩] eU (p 62)] [] (p 63)) (p 64)
noncomputable def ziW (p : Nat -> Pos) : Stmt := .While (.BoolOp .And [.Compare (.Name "end" (p 14)) [.Lt] [.BinOp (.Name "at" (p 15)) .Add (.Constant (.int 3) 0 (p 16)) (p 17)] (p 18), .Compare (.Name "end" (p 19)) [.Lt] [.Call (.Name "len" (p 20)) [.Name "text" (p 21)] [] (p 22)] (p 23), .Compare (.Constant (.int 48) 0 (p 24)) [.LtE, .LtE] [.Subscript (.Name "text" (p 25)) (.Name "end" (p 26)) (p 27), .Constant (.int 57) 0 (p 28)] (p 29)] (p 30)) [.Assign [.Name "end" (p 31)] (.BinOp (.Name "end" (p 32)) .Add (.Constant (.int 1) 0 (p 33)) (p 34)) (p 35)] [] (p 36)
noncomputable def zkX (p : Nat -> Pos) : Stmt := .Return (some (.Tuple [.IfExp (.Compare (.Name "number" (p 65)) [.Lt] [.Constant (.int 256) 0 (p 66)] (p 67)) (.Name "number" (p 68)) (.Constant .none 0 (p 69)) (p 70), .Name "end" (p 71)] 0 (p 72))) (p 73)
noncomputable def zj6 (p : Nat -> Pos) : Stmt := .Assign [.Name "names" (p 75)] (.Dict [some (.Constant (.int 97) 0 (p 76)), some (.Constant (.int 98) 0 (p 77)), some (.Constant (.int 102) 0 (p 78)), some (.Constant (.int 110) 0 (p 79)), some (.Constant (.int 114) 0 (p 80)), some (.Constant (.int 116) 0 (p 81)), some (.Constant (.int 118) 0 (p 82))] [.Constant (.int 7) 0 (p 83), .Constant (.int 8) 0 (p 84), .Constant (.int 12) 0 (p 85), .Constant (.int 10) 0 (p 86), .Constant (.int 13) 0 (p 87), .Constant (.int 9) 0 (p 88), .Constant (.int 11) 0 (p 89)] (p 90)) (p 91)
noncomputable def zkY (p : Nat -> Pos) : Stmt := .Return (some (.Tuple [.Call (.Attribute (.Name "names" (p 92)) "get" (p 93)) [.Name "sign" (p 94), .Name "sign" (p 95)] [] (p 96), .BinOp (.Name "at" (p 97)) .Add (.Constant (.int 1) 0 (p 98)) (p 99)] 0 (p 100))) (p 101)
noncomputable def zj7 (p : Nat -> Pos) : List Stmt := [.Assign [.Name "sign" (p 0)] (.Subscript (.Name "text" (p 1)) (.Name "at" (p 2)) (p 3)) (p 4),
 .If (.Compare (.Constant (.int 48) 0 (p 5)) [.LtE, .LtE] [.Name "sign" (p 6), .Constant (.int 57) 0 (p 7)] (p 8)) [.Assign [.Name "end" (p 9)] (.BinOp (.Name "at" (p 10)) .Add (.Constant (.int 1) 0 (p 11)) (p 12)) (p 13), ziW p, zf0 p, zkX p] [] (p 74), zj6 p, zkY p]
noncomputable def zkZ : List Pos := [⟨472, 4, 472, 8⟩, ⟨472, 11, 472, 15⟩, ⟨472, 16, 472, 18⟩, ⟨472, 11, 472, 19⟩, ⟨472, 4, 472, 19⟩, ⟨473, 7, 473, 9⟩, ⟨473, 13, 473, 17⟩, ⟨473, 21, 473, 23⟩, ⟨473, 7, 473, 23⟩, ⟨474, 8, 474, 11⟩, ⟨474, 14, 474, 16⟩, ⟨474, 19, 474, 20⟩, ⟨474, 14, 474, 20⟩, ⟨474, 8, 474, 20⟩, ⟨475, 14, 475, 17⟩, ⟨475, 20, 475, 22⟩, ⟨475, 25, 475, 26⟩, ⟨475, 20, 475, 26⟩, ⟨475, 14, 475, 26⟩, ⟨475, 31, 475, 34⟩, ⟨475, 37, 475, 40⟩, ⟨475, 41, 475, 45⟩, ⟨475, 37, 475, 46⟩, ⟨475, 31, 475, 46⟩, ⟨475, 52, 475, 54⟩, ⟨475, 58, 475, 62⟩, ⟨475, 63, 475, 66⟩, ⟨475, 58, 475, 67⟩, ⟨475, 71, 475, 73⟩, ⟨475, 52, 475, 73⟩, ⟨475, 14, 475, 74⟩, ⟨476, 12, 476, 15⟩, ⟨476, 18, 476, 21⟩, ⟨476, 24, 476, 25⟩, ⟨476, 18, 476, 25⟩, ⟨476, 12, 476, 25⟩, ⟨475, 8, 476, 25⟩, ⟨477, 8, 477, 14⟩, ⟨477, 17, 477, 20⟩, ⟨477, 23, 477, 26⟩, ⟨477, 29, 477, 31⟩, ⟨477, 23, 477, 31⟩, ⟨477, 35, 477, 37⟩, ⟨477, 42, 477, 45⟩, ⟨477, 48, 477, 50⟩, ⟨477, 42, 477, 50⟩, ⟨477, 53, 477, 54⟩, ⟨477, 42, 477, 54⟩, ⟨477, 57, 477, 61⟩, ⟨477, 42, 477, 61⟩, ⟨477, 35, 477, 62⟩, ⟨477, 22, 477, 62⟩, ⟨477, 67, 477, 71⟩, ⟨477, 73, 477, 76⟩, ⟨477, 67, 477, 76⟩, ⟨477, 80, 477, 89⟩, ⟨477, 90, 477, 94⟩, ⟨477, 95, 477, 97⟩, ⟨477, 98, 477, 101⟩, ⟨477, 95, 477, 101⟩, ⟨477, 90, 477, 102⟩, ⟨477, 80, 477, 103⟩, ⟨477, 21, 477, 104⟩, ⟨477, 17, 477, 105⟩, ⟨477, 8, 477, 105⟩, ⟨478, 26, 478, 32⟩, ⟨478, 35, 478, 38⟩, ⟨478, 26, 478, 38⟩, ⟨478, 16, 478, 22⟩, ⟨478, 44, 478, 48⟩, ⟨478, 16, 478, 48⟩, ⟨478, 50, 478, 53⟩, ⟨478, 15, 478, 54⟩, ⟨478, 8, 478, 54⟩, ⟨473, 4, 478, 54⟩, ⟨479, 4, 479, 9⟩, ⟨479, 13, 479, 15⟩, ⟨479, 20, 479, 22⟩, ⟨479, 27, 479, 30⟩, ⟨479, 36, 479, 39⟩, ⟨479, 45, 479, 48⟩, ⟨479, 54, 479, 57⟩, ⟨479, 62, 479, 65⟩, ⟨479, 17, 479, 18⟩, ⟨479, 24, 479, 25⟩, ⟨479, 32, 479, 34⟩, ⟨479, 41, 479, 43⟩, ⟨479, 50, 479, 52⟩, ⟨479, 59, 479, 60⟩, ⟨479, 67, 479, 69⟩, ⟨479, 12, 479, 70⟩, ⟨479, 4, 479, 70⟩, ⟨480, 12, 480, 17⟩, ⟨480, 12, 480, 21⟩, ⟨480, 22, 480, 26⟩, ⟨480, 28, 480, 32⟩, ⟨480, 12, 480, 33⟩, ⟨480, 35, 480, 37⟩, ⟨480, 40, 480, 41⟩, ⟨480, 35, 480, 41⟩, ⟨480, 11, 480, 42⟩, ⟨480, 4, 480, 42⟩]
noncomputable def zeY : NS := [("text", .local), ("at", .cell), ("sign", .local), ("end", .cell), ("number", .local), ("names", .local), ("len", .globalImplicit), ("sum", .globalImplicit), ("enumerate", .globalImplicit)]
noncomputable def tR : Scope := ⟨.function, zeY, false, false, [("fast", .str "text"), ("fast", .str "at"), ("fast", .str "sign"), ("fast", .str "end"), ("fast", .str "spot"), ("fast", .str "one"), ("fast", .str "number"), ("fast", .str "names")]⟩
inductive zf1 (c : Cfg) (a : Addr) : Prop
 | mk (name qual : Str) (params : Arguments) (body : List Stmt) (scope : Scope) (dV kV doc pm : Value) (an : Option Addr) (cdv ct oc : Value) (od : Option Addr) (osl : Array (Option Value)) (p : Nat -> Pos) : (c.K.lookup a = some ⟨oc, od, .func (fnOf name qual params body scope dV kV doc pm an cdv ct), osl⟩) -> (codeIn c.K cdv qual = true) -> (body = zj7 p) -> (scope = tR) -> ((p 93).endLine = (p 96).line) -> (∀ (s : Shared) (w1 w2 : Value), BindsTo s (fnOf name qual params body scope dV kV doc pm an cdv ct) ⟨[w1, w2], []⟩ [("text", w1), ("at", w2)]) -> zf1 c a
structure ziX (c : Cfg) (a : Addr) : Prop where
 ex : zf1 c a
noncomputable abbrev yQ (q : Str) (L a : Addr) (cd : Value) : Env := envOfC q tR L a cd
section
variable {M : Model} {A : Around} {E : Value -> Shared -> Prop} {s : Shared} {q : Str} {L a : Addr} {cd : Value} {g : Heap} {m : Str -> Option Value} {news : List (Addr × Obj)} {oE oA : Obj} {pos : Pos} {v : Value} {Q : Value -> Shared -> Prop}
theorem zj8 (N : News g L s.heap ((L + 2, oE) :: (L + 1, oA) :: news)) (hd : oA.data = .cell (some v)) (h : Q v s) : wpAny M A (eval (.Name "at" pos) (yQ q L a cd)) Q E s :=
 ldCN (c := L + 1) (o := oA) N rfl (.tail _ (.head _)) hd h
theorem eV (N : News g L s.heap ((L + 2, oE) :: (L + 1, oA) :: news)) (hd : oE.data = .cell (some v)) (h : Q v s) : wpAny M A (eval (.Name "end" pos) (yQ q L a cd)) Q E s :=
 ldCN (c := L + 2) (o := oE) N rfl (.head _) hd h
theorem ziY {v₀ : Option Value} {Q : Unit -> Shared -> Prop} (F : Fr g L s.heap m) (N : News g L s.heap ((L + 2, oE) :: (L + 1, oA) :: news)) (hn : ∀ p ∈ news, p.1 ≠ L + 2) (hd : oE.data = .cell v₀)
  (h : ∀ h' o', Fr g L h' m -> News g L h' ((L + 2, o') :: (L + 1, oA) :: news) -> o'.data = .cell (some v) -> Q () { s with heap := h' }) : wpAny M A (storeName (yQ q L a cd) "end" v) Q E s :=
 stCN (own := []) (rest := (L + 1, oA) :: news) (c := L + 2) (o := oE) F N rfl hd (λ z h => nomatch h) (λ p hp => by
  rcases mCM hp with rfl | hp
  ·exact Nat.ne_of_lt (Nat.lt_succ_self _)
  ·exact hn p hp) h
theorem zhm {K : Frag} {mg mb : Str -> Option Value} {c : Program} {loose : List Str} {x : Str} (F : Fr g L s.heap m) (X : K.In g) (T : TopRead c loose mg mb g) (e : nsIn K mainGlobals x = some none) (hv : bootBuiltins x = some v) (hn : x ≠ "__name__") (h : Q v s)
  (hx : (yQ q L a cd).kindOf x = some .globalImplicit := by rfl) (hd : (x == ("__debug__" : Str)) = false := by decide) : wpAny M A (eval (.Name x pos) (yQ q L a cd)) Q E s :=
 Name_function_global rfl hx (loadGlobal_builtin (env := yQ q L a cd) (T.g.keeps F.keep) (mg_none_of X T.g e) (T.b.keeps F.keep) ((T.builtins x hn).trans hv) h) hd
end
theorem zcW {α : Type} {p : α -> Bool} : ∀ {l : List α} {k : Nat}, k <= (l.takeWhile p).length -> (k < (l.takeWhile p).length ↔ ∃ c, l[k]? = some c /\ p c = true)
 | [], k, h => by simp
 | x :: r, k, h => by
  by_cases hx : p x = true
  ·rw [List.takeWhile_cons_of_pos hx] at h ⊢
   cases k with
   | zero => simp [hx]
   | succ k =>
    simp only [List.length_cons] at h ⊢
    have := zcW (p := p) (l := r) (k := k) (by omega)
    simp only [List.getElem?_cons_succ]
    rw [<- this]; omega
  ·rw [List.takeWhile_cons_of_neg hx] at h ⊢
   simp only [List.length_nil, Nat.le_zero] at h
   subst h
   simp [hx]
theorem bT (a : Bs) : (vJ a).length <= 3 := nLT (List.takeWhile_sublist _).length_le (List.length_take_le 3 a)
theorem iQ {l : Bs} {k : Nat} (h : k <= (vJ l).length) : k < (vJ l).length ↔ k < 3 /\ ∃ c, l[k]? = some c /\ isD c = true := by
 unfold vJ at h ⊢
 rw [zcW h]
 rw [List.getElem?_take]
 by_cases q : k < 3
 ·rw [if_pos q]; simp [q]
 ·rw [if_neg q]; simp [q]
section
variable {prog : Program} {w : World} {A : Around} {E : Value -> Shared -> Prop} {s : Shared}
theorem bU {env : Env} {x : Expr} {c : UInt8} {p1 p2 p3 : Pos} {whole : Sem Value} {Q : Bool -> Shared -> Prop} (hs : okE x = true)
  (hx : ∀ Q' : Value -> Shared -> Prop, (∀ u tk, Q' (.int (c.toNat : Int) u) { s with toks := tk }) -> wpAny (model prog w) A (eval x env) Q' E { s with toks := s.toks + 1 })
  (h : ∀ tk, Q (isD c) { s with toks := tk }) : wpAny (model prog w) A (isTrue (.Compare (.Constant (.int 48) 0 p1) [.LtE, .LtE] [x, .Constant (.int 57) 0 p2] p3) env whole) Q E s := by
 show wpAny _ _ (do testChain p3 (<- eval (.Constant (.int 48) 0 p1) env) [.LtE, .LtE] (markedEach [.LtE, .LtE] [x, .Constant (.int 57) 0 p2] (evalEach [x, .Constant (.int 57) 0 p2] env))) _ _ _
 rw [markedEach_of_false _ _ _ (uY (s6 hs rfl))]
 refine wBD (wpAny_Constant_int ?_)
 refine test_link (hx _ λ u tk => ?_)
 refine PyProof.Rows.le_int (wpAny_truthy_bool ?_)
 by_cases h1 : (48 : Int) <= (c.toNat : Int)
 ·rw [decide_eq_true h1, if_pos rfl]
  refine test_last (wpAny_Constant_int (PyProof.Rows.le_int (wpAny_truthy_bool ?_)))
  have e : decide ((c.toNat : Int) <= 57) = isD c := by
   show _ = (decide (48 <= iv c) && decide (iv c <= 57))
   rw [show iv c = (c.toNat : Int) from rfl, decide_eq_true h1]; rfl
  rw [e]; exact h _
 ·rw [decide_eq_false h1, if_neg (by decide)]
  have e : false = isD c := by
   show _ = (decide (48 <= iv c) && decide (iv c <= 57))
   rw [show iv c = (c.toNat : Int) from rfl, decide_eq_false h1]; rfl
  rw [e]; exact h _
variable {q : Str} {L a : Addr} {cd : Value} {g : Heap} {m : Str -> Option Value} {news : List (Addr × Obj)} {oE oA : Obj} {pos : Pos} {Q : Value -> Shared -> Prop}
theorem zcX {i k : Int} {ti : Tok} {p1 p2 p3 : Pos} (N : News g L s.heap ((L + 2, oE) :: (L + 1, oA) :: news)) (hd : oA.data = .cell (some (.int i ti))) (h : ∀ u tk, Q (.int (i + k) u) { s with toks := tk }) :
  wpAny (model prog w) A (eval (.BinOp (.Name "at" p1) .Add (.Constant (.int k) 0 p2) p3) (yQ q L a cd)) Q E s :=
 wpAny_BinOp (zj8 N hd (wpAny_Constant_int (PyProof.Rows.add_int (h _ _))))
theorem zhn {i k : Int} {ti : Tok} {p1 p2 p3 : Pos} (N : News g L s.heap ((L + 2, oE) :: (L + 1, oA) :: news)) (hd : oE.data = .cell (some (.int i ti))) (h : ∀ u tk, Q (.int (i + k) u) { s with toks := tk }) :
  wpAny (model prog w) A (eval (.BinOp (.Name "end" p1) .Add (.Constant (.int k) 0 p2) p3) (yQ q L a cd)) Q E s :=
 wpAny_BinOp (eV N hd (wpAny_Constant_int (PyProof.Rows.add_int (h _ _))))
theorem bV {b : Bs} {t u : Tok} {k : Nat} {z : UInt8} {e : Expr} {p1 p2 : Pos} (F : Fr g L s.heap m) (ht : m "text" = some (.bytes b.toArray t)) (hz : b.length <= 1000000) (hk : b[k]? = some z) (hn : okE e = true)
  (he : ∀ Q' : Value -> Shared -> Prop, Q' (.int (k : Int) u) s -> wpAny (model prog w) A (eval e (yQ q L a cd)) Q' E s) (h : ∀ u tk, Q (.int (z.toNat : Int) u) { s with toks := tk }) :
  wpAny (model prog w) A (eval (.Subscript (.Name "text" p1) e p2) (yQ q L a cd)) Q E s := by
 obtain ⟨hk', hz'⟩ := List.getElem?_eq_some_iff.mp hk
 refine Subscript_ (ldLoc F ht (he _ ?_))
 refine tail_any (typeIs_bytes _ _ _) FB.slot_bytes_getitem.lookup (getItem_bytes (by omega) (by omega) (by omega) ?_) (dJ hn _ _)
 have : b.getD ((k : Int).toNat) 0 = z := by rw [List.getD_eq_getElem?_getD, Int.toNat_natCast, hk]; rfl
 rw [this]; exact h _ _
end
section
variable {c : Cfg} {A : Around} {E : Value -> Shared -> Prop} {s : Shared} {q : Str} {L a : Addr} {cd : Value} {g : Heap} {m : Str -> Option Value} {news : List (Addr × Obj)} {oE oA : Obj} {Q : Flow -> Shared -> Prop}
set_option maxHeartbeats 1000000 in
theorem zeZ {i k : Nat} (h : k < 3) : ((i + k : Nat) : Int) < (i : Int) + 3 := Int.ofNat_lt.mpr (Nat.add_lt_add_left h i)
theorem zcY {i k : Nat} (h : ((i + k : Nat) : Int) < (i : Int) + 3) : k < 3 := Nat.lt_of_add_lt_add_left (Int.ofNat_lt.mp h)
theorem zcZ {b : Bs} {t ti te : Tok} {i : Nat} {p : Nat -> Pos} (kin : c.K.In g) (top : Top c.p c.loose c.mean c.mg c.mb g) (bl : nsIn c.K mainGlobals "len" = some none)
  (F : Fr g L s.heap m) (N : News g L s.heap ((L + 2, oE) :: (L + 1, oA) :: news)) (hn : ∀ p ∈ news, p.1 ≠ L + 2) (ht : m "text" = some (.bytes b.toArray t)) (hz : b.length <= 1000000) (hi : i < b.length) (h1 : 1 <= (vJ (b.drop i)).length)
  (hA : oA.data = .cell (some (.int (i : Int) ti))) (hE : oE.data = .cell (some (.int ((i : Int) + 1) te)))
  (h : ∀ hp tk oE' u, Fr g L hp m -> News g L hp ((L + 2, oE') :: (L + 1, oA) :: news) -> oE'.data = .cell (some (.int ((i + (vJ (b.drop i)).length : Nat) : Int) u)) -> Q .next { s with heap := hp, toks := tk }) :
  wpAny (model c.prog c.w) A (exec (ziW p) (yQ q L a cd)) Q E s := by
 have hl3 := bT (b.drop i)
 refine wpAny_While (codeAny_whileLoop (λ n' s' => ∃ (k : Nat) (hp : Heap) (tk : Nat) (oE' : Obj) (u : Tok), n' = 3 - k /\ 1 <= k /\ k <= (vJ (b.drop i)).length /\ Fr g L hp m /\ News g L hp ((L + 2, oE') :: (L + 1, oA) :: news) /\ oE'.data = .cell (some (.int ((i + k : Nat) : Int) u)) /\ s' = { s with heap := hp, toks := tk }) (λ n' s' hI => uo λ Q2 q2 => qu λ E2 => ?_) 2
  ⟨1, s.heap, s.toks, oE, te, rfl, Nat.le_refl _, h1, F, N, hE, rfl⟩)
 obtain (⟨k, hp, tk, oE', u, rfl, hk1, hk2, F1, N1, hE1, rfl⟩) := hI
 have nx := iQ hk2
 have stop : ∀ tk', ¬ k < (vJ (b.drop i)).length -> Q2 false { s with heap := hp, toks := tk' } := λ tk' hq => q2 _ _ (ifF (by decide) (wpAny_execs_nil (h hp tk' oE' u F1 N1 ((Nat.le_antisymm hk2 (Nat.not_lt.mp hq)) ▸ hE1))))
 refine wpAny_isTrue_BoolOp (wpAny_allTrue_And_cons (uo λ Q3 q3 => ?_))
 refine wpAny_isTrue_Compare1 (eV N1 hE1 (zcX (s := { s with heap := hp, toks := tk }) N1 hA λ u2 tk2 => ?_))
 refine PyProof.Rows.lt_int (wpAny_truthy_bool (q3 _ _ ?_))
 by_cases q1 : k < 3
 ·refine ifT (decide_eq_true (zeZ q1)) ?_
  refine wpAny_allTrue_And_cons (uo λ Q4 q4 => wpAny_isTrue_Compare1 (eV (s := { s with heap := hp, toks := _ }) N1 hE1 ?_))
  refine Call_ (zhm (s := { s with heap := hp, toks := _ }) F1 kin (topRead_of top) bl boot_len (by decide) ?_)
  refine yZ (P := λ z => True) rfl (zG (λ z e => nomatch e)) (args1 rfl (ldLoc (s := { s with heap := hp, toks := _ }) F1 ht ⟨trivial, ?_⟩))
  refine len_bytes (s := { s with heap := hp, toks := _ }) (b := b.toArray) (nLT hz (by decide)) ?_
  refine PyProof.Rows.lt_int (wpAny_truthy_bool (q4 _ _ ?_))
  rw [List.size_toArray]
  by_cases q2' : i + k < b.length
  ·refine ifT (decide_eq_true (Int.ofNat_lt.mpr q2')) ?_
   have hk : b[i + k]? = some b[i + k] := List.getElem?_eq_getElem q2'
   have hk' : (b.drop i)[k]? = some b[i + k] := by rw [List.getElem?_drop]; exact hk
   refine wpAny_allTrue_And_cons (uo λ Q5 q5 => bU (s := { s with heap := hp, toks := _ }) (c := b[i + k]) rfl (λ Q' hq => ?_) λ tk5 => q5 _ _ ?_)
   ·exact bV (s := { s with heap := hp, toks := _ }) F1 ht hz hk rfl (λ Q' hq => eV (s := { s with heap := hp, toks := _ }) N1 hE1 hq) λ u tk => hq u tk
   ·cases q3 : isD b[i + k] with
    | true =>
     refine ifT rfl (wpAny_allTrue_And_nil (q2 _ _ (ifT rfl (uo λ Q6 q6 => qu λ E6 => ?_))))
     have hlt : k < (vJ (b.drop i)).length := nx.mpr ⟨q1, _, hk', q3⟩
     refine wpAny_execs_cons (wpAny_Assign_Name ?_ rfl)
     refine zhn (s := { s with heap := hp, toks := _ }) N1 hE1 λ u6 tk6 => ?_
     refine ziY (s := { s with heap := hp, toks := _ }) F1 N1 hn hE1 λ h7 oE7 F7 N7 hE7 => wpAny_execs_nil (q6 _ _ ?_)
     refine ⟨3 - (k + 1), Nat.sub_lt_sub_left q1 (Nat.lt_succ_self k), k + 1, h7, tk6, oE7, u6, rfl, Nat.succ_le_succ (Nat.zero_le _), hlt, F7, N7, ?_, rfl⟩
     rw [hE7]
     rfl
    | false =>
     refine ifF (by decide) (stop _ λ hq => ?_)
     obtain (⟨_, c', e1, e2⟩) := nx.mp hq
     rw [hk'] at e1; cases e1
     rw [q3] at e2; cases e2
  ·refine ifF (λ x => q2' (Int.ofNat_lt.mp (of_decide_eq_true x))) (stop _ λ hq => ?_)
   obtain (⟨_, c', e1, e2⟩) := nx.mp hq
   rw [List.getElem?_drop, List.getElem?_eq_none (Nat.not_lt.mp q2')] at e1; cases e1
 ·exact ifF (λ x => q1 (zcY (of_decide_eq_true x))) (stop _ λ hq => q1 (Nat.lt_of_lt_of_le hq hl3))
end
noncomputable def zj9 (n : Nat) (j : Nat) (z : UInt8) : Int := ((z.toNat : Int) - 48) * 10 ^ (n - 1 - j)
theorem zho {d : Bs} (h1 : 1 <= d.length) (h3 : d.length <= 3) : (isV (zj9 d.length) d).sum = zdr d := by
 match d, h1, h3 with
 | [a], _, _ =>
  show (((a.toNat : Int) - 48) * 10 ^ 0 + 0 : Int) = 10 * 0 + (a.toNat : Int) - 48
  omega
 | [a, b], _, _ =>
  show (((a.toNat : Int) - 48) * 10 ^ 1 + (((b.toNat : Int) - 48) * 10 ^ 0 + 0) : Int) = 10 * (10 * 0 + (a.toNat : Int) - 48) + (b.toNat : Int) - 48
  omega
 | [a, b, e], _, _ =>
  show (((a.toNat : Int) - 48) * 10 ^ 2 + (((b.toNat : Int) - 48) * 10 ^ 1 + (((e.toNat : Int) - 48) * 10 ^ 0 + 0)) : Int) = 10 * (10 * (10 * 0 + (a.toNat : Int) - 48) + (b.toNat : Int) - 48) + (e.toNat : Int) - 48
  omega
 | _ :: _ :: _ :: _ :: _, _, h => exact absurd h (by simp [List.length_cons])
theorem boot_sum : bootBuiltins "sum" = some (.builtin "sum") := by decide +kernel
theorem eX {q : Str} {L a : Addr} {cd : Value} : closureFor eU (yQ q L a cd) = pure [(("end" : Str), L + 2), (("at" : Str), L + 1)] := rfl
theorem zc0 (a : Bs) : a.take (vJ a).length = vJ a := (List.prefix_iff_eq_take.mp ((List.takeWhile_prefix _).trans (List.take_prefix 3 a))).symm
theorem iR (z : UInt8) {k : Nat} (hk : k <= 2) : IntMulOk ((z.toNat : Int) - 48) (10 ^ k) := by
 have hz : z.toNat < 256 := z.toNat_lt
 refine PyProof.Rows.mulOk_of_bits (m := 64) (n := 64) (intBits_le (by omega)) (intBits_le ?_) (by decide)
 have : k = 0 \/ k = 1 \/ k = 2 := by omega
 rcases this with rfl | rfl | rfl <;> decide
section
variable {c : Cfg} {A : Around} {E : Value -> Shared -> Prop} {s : Shared} {q : Str} {L a : Addr} {cd : Value} {g : Heap} {m : Str -> Option Value} {news : List (Addr × Obj)} {oE oA : Obj} {Q : Flow -> Shared -> Prop}
set_option maxHeartbeats 1000000 in
theorem zc1 {i n j : Nat} (hj : j < n) : ((i + n : Nat) : Int) - (i : Int) - 1 - (j : Int) = ((n - 1 - j : Nat) : Int) := by omega
theorem zhp {s : Shared} {Q : Value -> Shared -> Prop} {C : Addr} {m₂ : Str -> Option Value} {z : UInt8} {t1 t2 ti te : Tok} {i n j : Nat} {p : Nat -> Pos} (N : News g L s.heap ((L + 2, oE) :: (L + 1, oA) :: news)) (hC : s.heap.Ns C m₂)
  (h1 : m₂ "spot" = some (.int (j : Int) t1)) (h2 : m₂ "one" = some (.int (z.toNat : Int) t2)) (hA : oA.data = .cell (some (.int (i : Int) ti))) (hE : oE.data = .cell (some (.int ((i + n : Nat) : Int) te))) (hj : j < n) (hn : n <= 3)
  (h : ∀ u tk, Q (.int (zj9 n j z) u) { s with toks := tk }) : wpAny (model c.prog c.w) A (eval (zfZ p) (compEnvC eU [(("end" : Str), L + 2), (("at" : Str), L + 1)] C (yQ q L a cd))) Q E s := by
 have iA : s.heap.IsCell (L + 1) (some (.int (i : Int) ti)) := ⟨oA, N.get (.tail _ (.head _)), hA⟩
 have iE : s.heap.IsCell (L + 2) (some (.int ((i + n : Nat) : Int) te)) := ⟨oE, N.get (.head _), hE⟩
 refine wpAny_BinOp (wpAny_BinOp (ldVarK hC h2 (wpAny_Constant_int (PyProof.Rows.sub_int ?_))))
 refine wpAny_BinOp (wpAny_Constant_int (wpAny_BinOp (wpAny_BinOp (wpAny_BinOp ?_))))
 refine ldCellK (s := { s with toks := _ }) (c := L + 2) rfl iE (ldCellK (s := { s with toks := _ }) (c := L + 1) rfl iA (PyProof.Rows.sub_int ?_))
 refine wpAny_Constant_int (PyProof.Rows.sub_int ?_)
 refine ldVarK (s := { s with toks := _ }) hC h1 (PyProof.Rows.sub_int ?_)
 have e0 := zc1 (i := i) hj
 refine pow_int_small (e0 ▸ Int.natCast_nonneg _) (e0 ▸ Int.ofNat_le.mpr (nLT (Nat.sub_le _ _) (nLT (Nat.sub_le _ _) (nLT hn (by decide))))) (by decide) ?_
 have e : (((i + n : Nat) : Int) - (i : Int) - 1 - (j : Int)).toNat = n - 1 - j := congrArg Int.toNat e0
 rw [e]
 exact PyProof.Rows.mul_int (h _ _) (iR z (nLT (Nat.sub_le _ _) (Nat.sub_le_sub_right hn 1)))
set_option maxHeartbeats 1000000 in
theorem zhq {b : Bs} {t ti te : Tok} {i : Nat} {p : Nat -> Pos} (kin : c.K.In g) (top : Top c.p c.loose c.mean c.mg c.mb g) (bs : nsIn c.K mainGlobals "sum" = some none) (be : nsIn c.K mainGlobals "enumerate" = some none) (hh : A.handled = none)
  (F : Fr g L s.heap m) (N : News g L s.heap ((L + 2, oE) :: (L + 1, oA) :: news)) (ht : m "text" = some (.bytes b.toArray t)) (hz : b.length <= 1000000) (h1 : 1 <= (vJ (b.drop i)).length)
  (hA : oA.data = .cell (some (.int (i : Int) ti))) (hE : oE.data = .cell (some (.int ((i + (vJ (b.drop i)).length : Nat) : Int) te)))
  (h : ∀ hp tk u, Fr g L hp (λ y => if y = "number" then some (.int (zdr (vJ (b.drop i))) u) else m y) -> News g L hp ((L + 2, oE) :: (L + 1, oA) :: news) -> Q .next { s with heap := hp, toks := tk }) :
  wpAny (model c.prog c.w) A (exec (zf0 p) (yQ q L a cd)) Q E s := by
 have hl3 := bT (b.drop i)
 refine wpAny_Assign_Name ?_ rfl
 refine Call_ (zhm F kin (topRead_of top) bs boot_sum (by decide) ?_)
 refine zcB (P := λ x => True) (λ x => rfl) (zG (λ x e => nomatch e)) ?_
 have hcut : KBy.picked b.toArray (some (i : Int)) (some ((i + (vJ (b.drop i)).length : Nat) : Int)) = (yq b (some (i : Int)) (some ((i + (vJ (b.drop i)).length : Nat) : Int))).toArray := by
  rw [KBc.picked_eq]
  simp only [List.size_toArray, yq]
 have hps : KBy.picked b.toArray (some (i : Int)) (some ((i + (vJ (b.drop i)).length : Nat) : Int)) = (vJ (b.drop i)).toArray := by
  rw [hcut, zea, Nat.add_sub_cancel_left, zc0]
 refine eO (b := (vJ (b.drop i)).toArray) (val := zj9 (vJ (b.drop i)).length) (h₀ := g) (L := L) (m := m) eX (by decide) rfl (by decide) (by decide) (by decide) (by decide) hh (nLT hl3 (by decide)) ?_ (λ x => rfl)
 refine Call_ (zhm F kin (topRead_of top) be PyProof.Rows.boot_enumerate (by decide) ?_)
 refine yZ (P := λ x => True) rfl (zG (λ x e => nomatch e)) (args1 rfl ?_)
 refine Subscript_ (ldLoc F ht (wpAny_Slice ?_))
 rw [evalPart_some]
 refine zj8 N hA ?_
 rw [evalPart_some]
 refine eV N hE ?_
 refine wpAny_pure ?_
 refine tail_any (typeIs_bytes _ _ _) FB.slot_bytes_getitem.lookup (getItem_meets (typeIs_bytes _ _ _) (by decide) FB.slot_bytes_getitem FB.entry_bytes_getitem (FB.args_bytes_getitem_2 _ _) (KBc.meets_slice2 b.toArray t _ (.int _ _) (.int _ _))
   ⟨Heap.IsSliceOf.new _ _ _ _, nLT (KBc.size_picked_le _ _ _) (by rw [sizeLine_eq, List.size_toArray]; exact nLT hz (by decide)), λ t' kk => ⟨trivial, ?_⟩⟩) rfl
 rw [hps]
 have F1 : Fr g L (s.heap.push { cls := .type "slice", data := .fields #[.int (i : Int) ti, .int ((i + (vJ (b.drop i)).length : Nat) : Int) te, .none] }) m := F.keeps λ b o e => Heap.get?_push_of_some _ e
 have N1 : News g L (s.heap.push { cls := .type "slice", data := .fields #[.int (i : Int) ti, .int ((i + (vJ (b.drop i)).length : Nat) : Int) te, .none] }) ((L + 2, oE) :: (L + 1, oA) :: news) := λ p hp => ⟨Heap.get?_push_of_some _ (N p hp).1, (N p hp).2⟩
 generalize s.heap.push { cls := .type "slice", data := .fields #[.int (i : Int) ti, .int ((i + (vJ (b.drop i)).length : Nat) : Int) te, .none] } = H1 at F1 N1 ⊢
 refine zaF (s := { s with heap := H1, toks := kk }) λ h2 he hit hk2 => ?_
 have lt : ∀ a o, H1.get? a = some o -> a < H1.objs.size := λ a o e => Heap.lt_size e
 have fresh : ∀ a, H1.objs.size <= a -> g.get? a = none := λ a ha => by
  cases q : g.get? a with
  | none => rfl
  | some o => exact absurd (lt a o (F1.keep _ _ q)) (Nat.not_lt.mpr ha)
 refine ⟨_, _, (L + 2, oE) :: (L + 1, oA) :: news, t', rfl, Nat.succ_ne_self _, ⟨_, he⟩, hit, F1.keeps hk2, λ p hp => ⟨hk2 _ _ (N1 p hp).1, (N1 p hp).2⟩, fresh _ (Nat.le_succ _), fresh _ (Nat.le_refl _), Nat.ne_of_lt (Nat.lt_succ_of_lt F1.ns.lt), Nat.ne_of_lt F1.ns.lt,
  λ p hp => ⟨Nat.ne_of_lt (Nat.lt_succ_of_lt (lt _ _ (N1 p hp).1)), Nat.ne_of_lt (lt _ _ (N1 p hp).1)⟩, ?_, ?_⟩
 ·intro j z C m₂ hp tk' t1 t2 E' Q' hz hC e1 e2 N3 hq
  have hj : j < (vJ (b.drop i)).length := by
   have := (Array.getElem?_eq_some_iff.mp hz).1
   rwa [List.size_toArray] at this
  exact zhp (s := { s with heap := hp, toks := tk' }) (i := i) N3 hC e1 e2 hA hE hj hl3 λ u tk => hq u tk
 ·rintro D hp tk' ys F3 N3 hl ⟨is, hi, rfl⟩
  refine ⟨trivial, ?_⟩
  refine PyProof.Rows.LSm.sum_ints (s := { s with heap := hp, toks := tk' }) (vs := ys.toList) F3 N3 hh (by rw [Array.toArray_toList]; exact hl) hi λ h4 tk4 t4 F4 N4 => ?_
  rw [zho h1 hl3]
  exact stLocN (s := { s with heap := h4, toks := tk4 }) F4 N4 λ h5 F5 N5 => h h5 _ _ F5 N5
end
end
section
open PyProof.Rows PySem.Builtin PySem.Calls
set_option tactic.hygienic true
theorem rF : ∀ kvs : List (Int × Int), intKeyed (kvs.map λ p => (PyData.int p.1, PyData.int p.2)) = true
 | [] => rfl
 | _ :: r => rF r
theorem tU : ∀ kvs : List (Int × Int), intKeysOf (kvs.map λ p => (PyData.int p.1, PyData.int p.2)) = kvs.map (·.1)
 | [] => rfl
 | _ :: r => congrArg _ (tU r)
theorem bW : ∀ {kvs : List (Int × Int)} {ps : List (Int × Value)}, PyProof.V.FlatPairs PyData.int ps (kvs.map λ p => (PyData.int p.1, PyData.int p.2)) -> ∀ k d t, ∃ t', (valueAt ps k).getD (.int d t) = .int (vM k d kvs) t'
 | [], _, h, k, d, t => by
  cases h
  exact ⟨t, rfl⟩
 | p :: r, ps, h, k, d, t => by
  rw [List.map_cons] at h
  generalize hx : (PyData.int p.1, PyData.int p.2) = q at h
  cases h with
  | cons hf hr =>
   rename_i k' v dd kvs'
   injection hx with e1 e2
   injection e1 with e1
   subst e1 e2
   obtain ⟨t', rfl⟩ := hf.int_inv
   unfold valueAt vM
   rw [List.find?_cons]
   by_cases q : p.1 = k
   ·rw [decide_eq_true q, if_pos q]
    exact ⟨t', rfl⟩
   ·rw [decide_eq_false q, if_neg q]
    exact bW hr k d t
theorem zc2 {h : Heap} {a : Addr} (ha : h.objs.size <= a) : h.get? a = none := by
 cases q : h.get? a with
 | none => rfl
 | some o => exact absurd (Nat.lt_of_lt_of_le (Heap.lt_size q) ha) (Nat.lt_irrefl _)
section
variable {c : Cfg} {f : Frm} {A : Around} {E : Value -> Shared -> Prop} {s s0 : Shared} {q : Str} {L a : Addr} {cd : Value} {g : Heap} {m m0 : Str -> Option Value} {news : List (Addr × Obj)} {oE oA : Obj}
theorem pW {y : Lc} {b : Wd} {Q : Prop} {Qc Ec : Value -> Shared -> Prop} {v1 v2 : AV} (R : Rl ⟨c, f⟩ y b) (k : Go ⟨c, f⟩ y b Q (.tup [v1, v2]) Qc) (q : Q) {hp : Heap} {tk : Nat} {w1 w2 : Value} {own : List (Addr × Obj)}
  (F : Fr g L hp m) (N : News g L hp (own ++ b.P.news)) (h1 : VR c b.P v1 w1) (h2 : VR c b.P v2 w2) :
  wpAny (model c.prog c.w) A (newTuple [w1, w2]) (λ v s' => LeaveK f.h₀ f.L y.m g (zbh Qc Ec) v s') E (b.to hp tk) := by
 refine newTuple_N (s := b.to hp tk) F N (λ h' F2 N2 => ?_) (by rw [sizeLine_eq]; show 2 <= 16777216; decide)
 refine leaveK_ F2 N2 λ F9 N9 => ?_
 have hfresh : hp.objs.size ∉ b.P.keys := λ q => by
  obtain ⟨p, hp', e⟩ := List.mem_map.mp q
  exact Nat.lt_irrefl _ (e ▸ Heap.lt_size (N p (List.mem_append_right _ hp')).1)
 have N10 : News f.h₀ f.L h' ((hp.objs.size, za6 [w1, w2] 0) :: b.P.news) := λ p hp' => by
  rcases mCM hp' with rfl | hp'
  ·exact N9 _ (.head _)
  ·exact N9 _ (.tail _ (List.mem_append_right _ hp'))
 exact k q _ ⟨b.P.push hp.objs.size (za6 [w1, w2] 0), b.to h' tk⟩ ⟨Rl.push (x := ⟨c, f⟩) R hfresh F9 N10, ⟨vL.push.ext, rfl⟩, [w1, w2], ⟨VR.mono vL.push.ext _ h1, VR.mono vL.push.ext _ h2, rfl⟩, .mk _ 0 ⟨.head _, λ q => hfresh (R.led.mem _ q)⟩⟩
theorem zc3 {p : Nat -> Pos} {Q : Value -> Shared -> Prop} (top : Top c.p c.loose c.mean c.mg c.mb g) (F : Fr g L s.heap m) (N : News g L s.heap news)
  (h : ∀ d o h1 tk ps, Fr g L h1 m -> News g L h1 ((d, o) :: news) -> (d == sysModules) = false -> o.IsDictOf (intKind c.prog c.w) ps -> (∀ k dd t, ∃ t', (valueAt ps k).getD (.int dd t) = .int (vM k dd xO) t') -> Q (.ref d) { s with heap := h1, toks := tk }) {env : Env} :
  wpAny (model c.prog c.w) A (eval (.Dict [some (.Constant (.int 97) 0 (p 76)), some (.Constant (.int 98) 0 (p 77)), some (.Constant (.int 102) 0 (p 78)), some (.Constant (.int 110) 0 (p 79)), some (.Constant (.int 114) 0 (p 80)), some (.Constant (.int 116) 0 (p 81)), some (.Constant (.int 118) 0 (p 82))] [.Constant (.int 7) 0 (p 83), .Constant (.int 8) 0 (p 84), .Constant (.int 12) 0 (p 85), .Constant (.int 10) 0 (p 86), .Constant (.int 13) 0 (p 87), .Constant (.int 9) 0 (p 88), .Constant (.int 11) 0 (p 89)] (p 90)) env) Q E s := by
 with_reducible refine Dict_lits_int (D := xO.map λ p => (PyData.int p.1, PyData.int p.2)) ?_ ?_ ?_ ?_ ?_ ?_ ?_ ?_
 ·rfl
 ·exact rF _
 ·rw [tU]; decide
 ·rfl
 ·rfl
 ·exact λ e => nomatch e
 ·show 7 <= 15; omega
 intro a o h₁ tk hsz ho ⟨ps, hd, hf⟩ hk
 have hL : L < s.heap.objs.size := F.ns.lt
 have hlow := modules_low (Top.nolimit top)
 refine h a o h₁ tk ps (F.keeps hk) (λ p hp => ?_) (beq_eq_false_iff_ne.mpr (Nat.ne_of_gt (Nat.lt_of_lt_of_le (Nat.lt_trans hlow (Nat.lt_of_le_of_lt F.above hL)) hsz))) hd (bW hf)
 rcases mCM hp with rfl | hp
 ·refine ⟨ho, λ e => absurd (Nat.lt_of_lt_of_le hL hsz) (by rw [show a = L from e]; exact Nat.lt_irrefl _), ?_⟩
  cases q : g.get? a with
  | none => rfl
  | some o' => have := F.keep _ _ q; rw [zc2 hsz] at this; cases this
 ·exact ⟨hk _ _ (N p hp).1, (N p hp).2⟩
end
end
section
open PyProof.Rows PySem.Builtin PySem.Calls
section
variable {c : Cfg} {f : Frm} {A : Around} {E : Value -> Shared -> Prop} {s s0 : Shared} {q : Str} {L a : Addr} {cd : Value} {g : Heap} {m m0 : Str -> Option Value} {news : List (Addr × Obj)} {oE oA : Obj}
theorem zhr {p : Nat -> Pos} {Q : Flow -> Shared -> Prop} (top : Top c.p c.loose c.mean c.mg c.mb g) (F : Fr g L s.heap m) (N : News g L s.heap news)
  (h : ∀ d o h1 tk ps, Fr g L h1 (λ y => if y = ("names" : Str) then some (Value.ref d) else m y) -> News g L h1 ((d, o) :: news) -> (d == sysModules) = false -> o.IsDictOf (intKind c.prog c.w) ps -> (∀ k dd t, ∃ t', (valueAt ps k).getD (.int dd t) = .int (vM k dd xO) t') -> Q .next { s with heap := h1, toks := tk }) :
  wpAny (model c.prog c.w) A (exec (zj6 p) (yQ q L a cd)) Q E s := by
 unfold zj6
 refine wpAny_Assign_Name ?_ ?_
 ·have h2 := λ (d : Addr) (o : Obj) (h1 : Heap) (tk : Nat) (ps : List (Int × Value)) (F3 : Fr g L h1 m) (N3 : News g L h1 ((d, o) :: news)) (lo : (d == sysModules) = false) (hd : o.IsDictOf (intKind c.prog c.w) ps) (hk : ∀ k dd t, ∃ t', (valueAt ps k).getD (.int dd t) = .int (vM k dd xO) t') =>
   stLocN (M := model c.prog c.w) (A := A) (E := E) (s := { s with heap := h1, toks := tk }) (name := q) (scope := tR) (L := L) (a := a) (cd := cd) (x := "names") (v := Value.ref d) (Q := λ z => Q .next) F3 N3 (λ h4 F4 N4 => h d o h4 _ ps F4 N4 lo hd hk) rfl rfl
  have h3 := @zc3 c A E s L g m news p (λ v s₁ => wpAny (model c.prog c.w) A (storeName (yQ q L a cd) "names" v) (λ z => Q .next) E s₁) top F N h2 (yQ q L a cd)
  with_reducible exact h3
 ·rfl
end
section
variable {c : Cfg} {T : Names} {fa : Nat -> Addr}
theorem zc4 (K : ziX c (fa 29)) (bl : nsIn c.K mainGlobals "len" = some none) (bs : nsIn c.K mainGlobals "sum" = some none) (be : nsIn c.K mainGlobals "enumerate" = some none) : rH c fa 29 := by
 intro f A y d ws vs Q Qc Ec H hp R hv kq
 revert hv kq
 refine pbn (M := λ vs => yx (VR c d.P) vs ws -> Go ⟨c, f⟩ y d Q (PF 29 vs y.g) Qc -> codeAny (model c.prog c.w) A (.call (.ref (fa 29)) ⟨ws, []⟩) (zbh Qc Ec) d.s) hp (λ b i h => h.1.2.1) λ b i h hv kq => ?_
 obtain ⟨⟨hz0, -, hlt⟩, q⟩ := h
 have hz : b.length <= 1000000 := nLT hz0 (by decide)
 have hi : i < b.length := Int.ofNat_lt.mp hlt
 clear hp hz0 hlt
 obtain ⟨wa, ws, rfl⟩ : ∃ wa r, ws = wa :: r := by cases ws with
  | nil => exact hv.elim
  | cons a r => exact ⟨a, r, rfl⟩
 obtain ⟨wb, ws, rfl⟩ : ∃ wb r, ws = wb :: r := by cases ws with
  | nil => exact hv.2.elim
  | cons a r => exact ⟨a, r, rfl⟩
 obtain rfl : ws = [] := by cases ws with
  | nil => rfl
  | cons => exact hv.2.2.elim
 obtain ⟨t⟩ : wU b wa := hv.1
 obtain ⟨ti⟩ : xX (i : Int) wb := hv.2.1
 clear hv
 have kq : Go ⟨c, f⟩ y d Q (za3 (zde (b.drop i)).1 (i : Int) (zde (b.drop i)).2) Qc := kq
 obtain ⟨name, qual, params, body, scope, dV, kV, doc, pm, an, cdv, ct, oc, od, osl, p, h1, h2, rfl, rfl, h5, h6⟩ := K.ex
 have hh := H.hh
 refine code_defC (s := d.s) H.below R.F H.kin R.N H.top H.stack rfl H.kind h1 h2 (by have := H.depth; omega) (h6 d.s _ _) rfl (by decide) (λ g L' hp1 tk1 cells F0 F1 N1 C1 B1 K1 T1 l1 => ?_) rfl rfl rfl
 have hn : ∀ p ∈ d.P.news, p.1 ≠ L' + 2 := λ p hp => Nat.ne_of_lt (Nat.lt_of_lt_of_le (l1 p hp) (Nat.le_add_right _ _))
 obtain ⟨oE, oA, rfl, hE, hA1⟩ := CellsAre.two (show CellsAre _ [(("end" : Str), L' + 2), (("at" : Str), L' + 1)] cells from C1)
 have hE0 : oE.data = .cell none := hE
 have hA0 : oA.data = .cell (some (.int (i : Int) ti)) := hA1
 have hb : bindL (envOfC qual tR L' (fa 29) cdv).kindOf [(("text" : Str), Value.bytes b.toArray t), (("at" : Str), Value.int (i : Int) ti)] (λ x => none) "text" = some (.bytes b.toArray t) := rfl
 generalize bindL (envOfC qual tR L' (fa 29) cdv).kindOf [(("text" : Str), Value.bytes b.toArray t), (("at" : Str), Value.int (i : Int) ti)] (λ x => none) = m1 at F1 hb
 have hd : b.drop i = b[i] :: b.drop (i + 1) := List.drop_eq_getElem_cons hi
 have ev : zde (b.drop i) = if isD b[i] = true then (if zdr (vJ (b.drop i)) < 256 then .int (zdr (vJ (b.drop i))) else .none, (vJ (b.drop i)).length) else (.int (vM (iv b[i]) (iv b[i]) xO), 1) := by
  rw [hd]; rfl
 have hbi : b[i]? = some b[i] := List.getElem?_eq_getElem hi
 generalize b[i] = z at ev hbi
 rw [ev] at kq
 clear hd ev
 replace N1 : News g L' hp1 ((L' + 2, oE) :: (L' + 1, oA) :: d.P.news) := N1
 refine wpAny_execs_cons (wpAny_Assign_Name ?_ rfl)
 refine bV (s := { d.s with heap := hp1, toks := tk1 }) (k := i) F1 hb hz hbi rfl (λ Q' hq => zj8 (s := { d.s with heap := hp1, toks := tk1 }) N1 hA0 hq) λ u tk2 => ?_
 refine stLocN (s := { d.s with heap := hp1, toks := tk2 }) F1 N1 λ h2 F2 N2 => ?_
 have ht2 : (λ y => if y = ("sign" : Str) then some (Value.int (z.toNat : Int) u) else m1 y) "text" = some (.bytes b.toArray t) := (if_neg (by decide)).trans hb
 have hs2 : (λ y => if y = ("sign" : Str) then some (Value.int (z.toNat : Int) u) else m1 y) "sign" = some (Value.int (z.toNat : Int) u) := if_pos rfl
 generalize (λ y => if y = ("sign" : Str) then some (Value.int (z.toNat : Int) u) else m1 y) = m2 at F2 ht2 hs2
 refine wpAny_execs_cons (wpAny_If ?_)
 refine bU (s := { d.s with heap := h2, toks := _ }) (c := z) rfl (λ Q' hq => ldLoc (s := { d.s with heap := h2, toks := _ }) F2 hs2 (hq _ _)) λ tk3 => ?_
 cases hdg : isD z with
 | true =>
  rw [hdg, if_pos rfl] at kq
  rw [if_pos rfl]
  refine wpAny_execs_cons (wpAny_Assign_Name ?_ rfl)
  refine zcX (s := { d.s with heap := h2, toks := tk3 }) N2 hA0 λ u4 tk4 => ?_
  refine ziY (s := { d.s with heap := h2, toks := tk4 }) F2 N2 hn hE0 λ h5 oE5 F5 N5 hE5 => ?_
  have h1d : 1 <= (vJ (b.drop i)).length := (iQ (Nat.zero_le _)).mpr ⟨by decide, z, by rw [List.getElem?_drop]; exact hbi, hdg⟩
  refine wpAny_execs_cons (zcZ (s := { d.s with heap := h5, toks := tk4 }) K1 T1 bl F5 N5 hn ht2 hz hi h1d hA0 hE5 λ h6 tk6 oE6 u6 F6 N6 hE6 => ?_)
  refine wpAny_execs_cons (zhq (s := { d.s with heap := h6, toks := tk6 }) K1 T1 bs be hh F6 N6 ht2 hz h1d hA0 hE6 λ h7 tk7 u7 F7 N7 => ?_)
  refine wpAny_execs_cons (wpAny_Return_some (Tuple_ (args2 rfl rfl (wpAny_IfExp ?_))))
  refine wpAny_isTrue_Compare1 (ldLoc (s := { d.s with heap := h7, toks := tk7 }) F7 (if_pos rfl) (wpAny_Constant_int (PyProof.Rows.lt_int (wpAny_truthy_bool ?_))))
  by_cases hv : zdr (vJ (b.drop i)) < 256
  ·rw [decide_eq_true hv, if_pos rfl]
   rw [if_pos hv] at kq
   refine ldLoc (s := { d.s with heap := h7, toks := _ }) F7 (if_pos rfl) (eV (s := { d.s with heap := h7, toks := _ }) N7 hE6 ?_)
   exact pW R kq (v1 := .int (zdr (vJ (b.drop i)))) (v2 := .int ((i : Int) + ((vJ (b.drop i)).length : Int))) q F7 (own := [(L' + 2, oE6), (L' + 1, oA)]) N7 ⟨_⟩ ⟨_⟩
  ·rw [decide_eq_false hv, if_neg (by decide)]
   rw [if_neg hv] at kq
   refine wpAny_Constant_none ?_
   refine eV (s := { d.s with heap := h7, toks := _ }) N7 hE6 ?_
   exact pW R kq (v1 := .none) (v2 := .int ((i : Int) + ((vJ (b.drop i)).length : Int))) q F7 (own := [(L' + 2, oE6), (L' + 1, oA)]) N7 rfl ⟨_⟩
 | false =>
  rw [hdg, if_neg Bool.false_ne_true] at kq
  rw [if_neg (by decide)]
  refine wpAny_execs_nil ?_
  refine wpAny_execs_cons ?_
  with_reducible refine zhr (s := { d.s with heap := h2, toks := tk3 }) T1 F2 N2 ?_
  intro dd o h4 tk4 ps F4 N4 lo hd hk
  dsimp only
  have hs4 : (λ y => if y = ("names" : Str) then some (Value.ref dd) else m2 y) "sign" = some (Value.int (z.toNat : Int) u) := (if_neg (by decide)).trans hs2
  refine wpAny_execs_cons (wpAny_Return_some (Tuple_ (args2 rfl rfl ?_)))
  refine yD rfl (s6 rfl rfl) (by show 2 < 20; decide) (by rw [h5]; exact beq_self_eq_true _) ?_
  refine ldLoc (s := { d.s with heap := h4, toks := _ }) F4 (if_pos rfl) (λ pl => ?_)
  refine kdg_method N4 (.head _) hd ?_
  refine yZ (P := λ x => True) rfl (zG (λ x e => nomatch e)) (args2 rfl rfl (ldLoc (s := { d.s with heap := h4, toks := _ }) F4 hs4 (ldLoc (s := { d.s with heap := h4, toks := _ }) F4 hs4 ⟨trivial, ?_⟩)))
  refine kdg_get2 (s := { d.s with heap := h4, toks := _ }) N4 (.head _) hd lo (intKind_is _ _ _ u) _ rfl ?_
  obtain ⟨t', e⟩ := hk (z.toNat : Int) (z.toNat : Int) u
  rw [e]
  refine zcX (s := { d.s with heap := h4, toks := _ }) (λ p hp => N4 p (.tail _ hp)) hA0 λ u5 tk5 => ?_
  exact pW R kq (v1 := .int (vM (iv z) (iv z) xO)) (v2 := .int ((i : Int) + 1)) q F4 (own := [(dd, o), (L' + 2, oE), (L' + 1, oA)]) N4 ⟨_⟩ ⟨_⟩
end
end
end
section
open PyProof.Rows
set_option tactic.hygienic true
theorem zaG : opening lp = plainProg lp.main.scope.names := by kernel_rfl
theorem zaH : ∀ s, fenceModules? lp s = some s := λ s => by kernel_rfl
theorem zhs {σ α β : Type} {x : Option σ} {A : σ -> α} {B : σ -> β} {s : σ} {a : α} {b : β} (e : x = some s) (h : x.map (λ s => (A s, B s)) = some (a, b)) : A s = a /\ B s = b := by
 subst e
 exact Prod.mk.inj (sIJ h)
theorem zc5 {σ α : Type} {x : Option σ} {A : σ -> α} {s : σ} {a : α} (e : x = some s) (h : x.map A = some a) : A s = a := by
 subst e
 exact sIJ h
theorem zk0 {a x y z : Bool} (ha : a = true) (h : (x && y && z) = true) : (a && x && y && z) = true := by
 cases ha; exact h
theorem left_by {α : Type} {Yf : Shared -> α} {Ya : World -> α} (h : ∀ w os, (dh w os).map (λ s => Yf s.abs) = some (Ya w)) :
  LeftO lp vw ls (λ s => xlAt vw [] s && recOk PySem.Challenge.rw_pc0173_01.row.records s) Yf Ya 7418 := by
 refine zaQ (p := lp) (N := 7418) zaG (by decide) zaH λ w os => ?_
 have hs : ∃ s, dh w os = some s := (Option.map_eq_some_iff.mp (h w os)).imp λ s q => q.1
 obtain ⟨s, e⟩ := hs
 have e' := e
 obtain ⟨b1, b2⟩ := zhs e (l1 w os)
 have b4 := zc5 e (l2 w os)
 obtain ⟨b5, b6⟩ := zhs e (l5 w os)
 have b7 := zc5 e (l3 w os)
 have b8 := zc5 e (l6 w os)
 obtain ⟨b9, b10⟩ := zhs e (l4 w os)
 have a0 := zc5 e (h w os)
 have b11 := zk0 b4 b5
 unfold dh at e'
 rw [e']
 refine congrArg some ?_
 refine Prod.ext b1 (Prod.ext (Prod.ext (congrArg (λ q => q.1) b2) (Prod.ext (congrArg (λ q => q.2) b2) (Prod.ext b11 (Prod.ext b6 (Prod.ext b7 (Prod.ext b8 (Prod.ext b9 b10))))))) a0)
theorem look_cut {as : List Addr} {K : Params -> Frag} {e : ∀ P, as = (K P).map (·.1)} (n : Nat) (h1 : ∀ (w : World) (os : OsState), (dh w os).map (λ s => (((K w.params).map (·.1)).take n).map s.abs.heap.get?) = some (((K w.params).take n).map λ p => some p.2))
  (h2 : ∀ (w : World) (os : OsState), (dh w os).map (λ s => (((K w.params).map (·.1)).drop n).map s.abs.heap.get?) = some (((K w.params).drop n).map λ p => some p.2)) (w : World) (os : OsState) : (dh w os).map (λ s => (kHook K as e).obs s.abs) = some ((kHook K as e).val w) := by
 obtain ⟨s, hs, a⟩ := Option.map_eq_some_iff.mp (h1 w os)
 have b := zc5 hs (h2 w os)
 rw [hs]
 refine congrArg some ?_
 show as.map s.abs.heap.get? = (K w.params).map λ p => some p.2
 have c := congr (congrArg HAppend.hAppend a) b
 rw [<- List.map_append, List.take_append_drop, <- List.map_append, List.take_append_drop, <- e] at c
 exact c
open Lean in
local macro_rules
 | `(tactic| o_law) => `(tactic| refine PySem.W.holds_law Mine.said λ said => ?_)
 | `(tactic| refine $f:ident $as*) => do
  if f.getId == ``PySem.W.holds_open then
   let a := as.extract 4 8 ++ as.extract 9 as.size
   `(tactic| refine Mine.holds_openX (q := Mine.vw) (loose := Mine.ls) (Xt := λ s => xlAt Mine.vw [] s && recOk PySem.Challenge.rw_pc0173_01.row.records s) (XP := XL Mine.vw []) $a*)
  else Macro.throwUnsupported
set_option maxHeartbeats 8000000 in
open_top hd for PySem.Challenge.rw_pc0173_01
theorem look_a (w : World) (os : OsState) : (dh w os).map (λ s => (((hd.heap_1 w.params).map (·.1)).take 187).map s.abs.heap.get?) = some (((hd.heap_1 w.params).take 187).map λ p => some p.2) := by kernel_rfl
theorem look_b (w : World) (os : OsState) : (dh w os).map (λ s => (((hd.heap_1 w.params).map (·.1)).drop 187).map s.abs.heap.get?) = some (((hd.heap_1 w.params).drop 187).map λ p => some p.2) := by kernel_rfl
end
section
open PyProof.Rows PySem.Calls
noncomputable def fnT : List (Str × Nat) := ([("is_number", 96), ("wrap", 103), ("is_blank_values", 110), ("digit_of", 117), ("read_digits", 124), ("skip_blanks", 131), ("text_in_base", 145), ("str_to_number", 138), ("number_text", 152), ("to_text", 159), ("c_text", 166), ("first_line", 173), ("chunk_id", 180), ("is_digit", 189), ("is_letter", 196), ("is_name_sign", 203), ("is_blank_lexer", 210), ("is_control", 217), ("is_newline", 224), ("escaped_sign", 231), ("reserved_kinds", 238), ("token_text", 245), ("all_tokens", 476), ("_law_words", 484), ("_law_signs", 491), ("_law_alike", 498), ("_law_line", 503), ("_law_level", 510), ("_law_long", 517), ("_law_escape", 522), ("_law_quoted", 529), ("_law_is_word_sign", 536), ("_law_numeral", 543), ("_law_token", 550), ("_law_read", 557), ("_law_digits", 564)] : List (String × Nat)).map λ p => (Str.ofString p.1, p.2)
noncomputable def meT : List (Str × Nat) := ([("next", 287), ("error", 301), ("syntax_error", 308), ("near_text", 315), ("move", 322), ("keep", 329), ("keep_and_move", 336), ("keep_if", 343), ("clear", 350), ("end_line", 357), ("read", 364), ("skip_blank", 371), ("sign_behind", 378), ("skip_comment", 385), ("read_compared", 392), ("read_dots", 399), ("read_word", 406), ("read_numeral", 413), ("read_bracket", 420), ("read_level", 427), ("read_long", 434), ("read_inner", 441), ("read_string", 448), ("read_escape", 455), ("read_digits", 462)] : List (String × Nat)).map λ p => (Str.ofString p.1, p.2)
noncomputable def zkr : List (Str × Nat) := ("is_number", 96) :: fnT
noncomputable def zks : List (Str × Nat) := ("next", 287) :: meT
noncomputable def fnAt (k : Nat) : Str × Nat := (yj fnT k).getD ("is_number", 96)
noncomputable def zka (k : Nat) : Str × Nat := (yj meT (k - 51)).getD ("next", 287)
noncomputable def z8 (k : Nat) : Addr := match Nat.blt k 50 with
 | true => (fnAt k).2
 | false => match Nat.beq k 50 with
  | true => 280
  | false => (zka k).2
noncomputable def zkt : List (Str × Int) := ([("END_OF_TEXT", -1), ("FIRST_RESERVED", 257), ("TK_AND", 257), ("TK_CONCAT", 278), ("TK_DOTS", 279), ("TK_EQ", 280), ("TK_GE", 281), ("TK_LE", 282), ("TK_NE", 283), ("TK_NUMBER", 284), ("TK_NAME", 285), ("TK_STRING", 286), ("TK_EOS", 287), ("SOURCE_SIZE", 80), ("MOST_LINES", 2147483645), ("NEWLINE", 10), ("RETURN", 13), ("QUOTE_DOUBLE", 34), ("QUOTE_SINGLE", 39), ("PLUS", 43), ("MINUS", 45), ("DOT", 46), ("LESS", 60), ("EQUALS", 61), ("GREATER", 62), ("BRACKET_OPEN", 91), ("BACKSLASH", 92), ("BRACKET_CLOSE", 93), ("UNDERSCORE", 95), ("TILDE", 126)] : List (String × Int)).map λ p => (Str.ofString p.1, p.2)
noncomputable def byT : List (Str × Bs) := [("BLANKS", [32, 9, 10, 11, 12, 13])]
noncomputable def lsT : List ((Str × Nat) × List Bs) := [(("RESERVED", 181), zm), (("OTHER_TEXTS", 182), zfj)]
noncomputable def zht : List AV -> List Bs -> Bool
 | [], bs => bs.isEmpty
 | v :: vs, bs => match bs with
  | [] => false
  | b :: bs => (match v with
   | .bytes a => decide (a = b)
   | _ => false) && zht vs bs
noncomputable def TT : Names where
 fn k := (fnAt k).1
 meth k := (zka k).1
 has x v := match v with
  | .int i => zkt.any λ p => decide (p.1 = x) && decide (p.2 = i)
  | .bytes b => byT.any λ p => decide (p.1 = x) && decide (p.2 = b)
  | .lst vs => lsT.any λ p => decide (p.1.1 = x) && zht vs p.2
  | _ => false
noncomputable def cfgOf (w : World) (loose : List Str) (mean : ExcName -> Option Value) (mg mb : Str -> Option Value) : Cfg where
 prog := Challenge.rw_pc0173_01.row.prog
 w := w
 K := hd.heap_1 w.params
 p := vw
 loose := loose
 mean := mean
 mg := mg
 mb := mb
 tokC := 262
 lexC := 465
 limC := 53
 excC := 87
theorem zc6 {α : Type} {l : List α} {d : α} {P : α -> Prop} (h : ∀ q ∈ d :: l, P q) (k : Nat) : P ((yj l k).getD d) := by
 cases e : yj l k with
 | none => exact h d (.head _)
 | some q => exact h q (.tail _ (gj e))
noncomputable def zhu (K : Frag) (p : Str × Int) : Bool := match nsIn K mainGlobals p.1 with
 | some (some (.int i _)) => decide (i = p.2)
 | _ => false
noncomputable def zkb (K : Frag) (p : Str × Bs) : Bool := match nsIn K mainGlobals p.1 with
 | some (some (.bytes b _)) => decide (b.toList = p.2)
 | _ => false
noncomputable def zc7 : List Bs -> List Value -> Bool
 | [], vs => vs.isEmpty
 | b :: bs, vs => match vs with
  | [] => false
  | v :: vs => (match v with
   | .bytes a _ => decide (a.toList = b)
   | _ => false) && zc7 bs vs
noncomputable def zk1 (v : Value) (n : String) : Bool := match v with
 | .type t => t == n
 | _ => false
noncomputable def zju (K : Frag) (p : (Str × Nat) × List Bs) : Bool := match K.lookup p.1.2 with
 | some o => match o.data with
  | .seq ws n => zc7 p.2 ws.toList && (zk1 o.cls "list" && (o.dict.isNone && o.slots.isEmpty))
  | _ => false
 | none => false
section
variable (w : World) (loose : List Str) (mean : ExcName -> Option Value) (mg mb : Str -> Option Value)
theorem zhv : zkr.map (λ q => (nsIn (hd.heap_1 w.params) mainGlobals q.1, keepIn (hd.heap_1 w.params) (.ref q.2))) = zkr.map (λ q => (some (some (.ref q.2)), true)) := by kernel_rfl
theorem zhw : zks.map (λ q => (findIn (hd.heap_1 w.params) (.ref 465) q.1, isFn (hd.heap_1 w.params) (.ref q.2), keepIn (hd.heap_1 w.params) (.ref q.2), zh0.all λ f => !(zf f == q.1))) = zks.map (λ q => (some (some (.ref q.2)), true, true, true)) := by kernel_rfl
theorem ze0 : (zkt.all (zhu (hd.heap_1 w.params)) && byT.all (zkb (hd.heap_1 w.params))) = true := by kernel_rfl
theorem zc8 : lsT.all (zju (hd.heap_1 w.params)) = true /\ lsT.map (λ p => nsIn (hd.heap_1 w.params) mainGlobals p.1.1) = lsT.map λ p => some (some (.ref p.1.2)) := ⟨by kernel_rfl, by kernel_rfl⟩
theorem ze1 : (List.range 12).map (λ f => ((findIn (hd.heap_1 w.params) (.ref 465) (zf f)).any (noGet (hd.heap_1 w.params)), takerIn (hd.heap_1 w.params) 465 (zf f))) = (List.range 12).map (λ z => (true, some none)) := by kernel_rfl
theorem ze2 : (plainGet (hd.heap_1 w.params) 465 "at", hasDictIn (hd.heap_1 w.params) 465, findIn (hd.heap_1 w.params) (.ref 465) "__setattr__", plainOver (hd.heap_1 w.params) 465, nsIn (hd.heap_1 w.params) mainGlobals "Token", keepIn (hd.heap_1 w.params) (.ref 262)) = (true, true, some (some (.builtin "object.__setattr__")), true, some (some (.ref 262)), true) := by kernel_rfl
theorem ze3 : [262, 53].map (λ a => (plainGet (hd.heap_1 w.params) a "at", hasDictIn (hd.heap_1 w.params) a)) = [(true, true), (true, true)] := by kernel_rfl
theorem zhx : ([(262, tokF), (53, rM)] : List (Nat × List Nat)).all (λ p => p.2.all λ f => (findIn (hd.heap_1 w.params) (.ref p.1) (zf f)).any (noGet (hd.heap_1 w.params))) = true := by kernel_rfl
theorem ze4 : rP.map (nsIn (hd.heap_1 w.params) mainGlobals) = rP.map λ z => some none := by kernel_rfl
theorem ze5 : (makesIn (hd.heap_1 w.params) 465, findIn (hd.heap_1 w.params) (.ref 465) "__init__", typeIn (hd.heap_1 w.params) (.ref 280), nsIn (hd.heap_1 w.params) mainGlobals "Lexer", keepIn (hd.heap_1 w.params) (.ref 465)) = (true, some (some (.ref 280)), some (.type "function"), some (some (.ref 465)), true) := by kernel_rfl
end
end
section
open PyProof.Rows PySem.Calls
set_option tactic.hygienic true
section
variable (w : World) (loose : List Str) (mean : ExcName -> Option Value) (mg mb : Str -> Option Value)
theorem ze6 : bI (cfgOf w loose mean mg mb) 259 where
 makes := by kernel_rfl
 init := by kernel_rfl
 fn := by kernel_rfl
 setA := ⟨by kernel_rfl, by kernel_rfl, by kernel_rfl, by kernel_rfl, by kernel_rfl⟩
 ex := ⟨_, _, _, _, _, _, _, _, _, _, _, _, _, _, _, _, _, _, _, _, _, _, rfl, rfl, rfl, rfl, rfl, by decide +kernel, rfl, rfl, rfl, λ s a b d => BindsTo.of_eq rfl⟩
theorem ze7 : bR (cfgOf w loose mean mg mb) 71 where
 obj := ⟨_, _, _, _, _, _, _, _, _, _, _, _, _, _, _, _, rfl, ⟨by decide +kernel, by decide +kernel, by decide +kernel, by decide +kernel⟩⟩
 init := by kernel_rfl
 fn := by kernel_rfl
 setA := ⟨by kernel_rfl, ⟨_, _, _, rfl, rfl⟩, by kernel_rfl, by kernel_rfl, by kernel_rfl⟩
 name := ⟨by kernel_rfl, by kernel_rfl⟩
 ex := ⟨_, _, _, _, _, _, _, _, _, _, _, _, _, _, _, _, _, _, _, _, _, _, rfl, rfl, rfl, rfl, rfl, by decide +kernel, rfl, rfl, λ s a b => BindsTo.of_eq rfl⟩
theorem tV : wD (cfgOf w loose mean mg mb) := zhk (ze7 w loose mean mg mb)
theorem ziZ {k : Nat} (h : k < 50) : z8 k = (fnAt k).2 := by
 have e : Nat.blt k 50 = true := Nat.ble_eq_true_of_le h
 unfold z8
 rw [e]
theorem zhy {k : Nat} (h : 50 < k) : z8 k = (zka k).2 := by
 have e : Nat.blt k 50 = false := Bool.eq_false_iff.mpr λ q => Nat.lt_asymm h (Nat.le_of_ble_eq_true q)
 have e2 : Nat.beq k 50 = false := Bool.eq_false_iff.mpr λ q => Nat.ne_of_gt h (Nat.eq_of_beq_eq_true q)
 unfold z8
 rw [e, e2]
theorem bY {α : Type} {o : Option α} {P : α -> Bool} (h : o.any P = true) : ∃ a, o = some a /\ P a = true := by
 cases o with
 | none => exact nomatch h
 | some a => exact ⟨a, rfl, h⟩
theorem ze8 {K : Frag} {p : Str × Int} (h : zhu K p = true) : ∃ v, nsIn K mainGlobals p.1 = some (some v) /\ xX p.2 v := by
 unfold zhu at h
 split at h
 ·rename_i i t e
  exact ⟨_, e, of_decide_eq_true h ▸ ⟨t⟩⟩
 ·exact nomatch h
theorem zhz {K : Frag} {p : Str × Bs} (h : zkb K p = true) : ∃ v, nsIn K mainGlobals p.1 = some (some v) /\ wU p.2 v := by
 unfold zkb at h
 split at h
 ·rename_i b t e
  exact ⟨_, e, of_decide_eq_true h ▸ (⟨t⟩ : wU b.toList (.bytes b.toList.toArray t))⟩
 ·exact nomatch h
theorem zi0 {c : Cfg} {P : Pl} {bs : List Bs} : ∀ {vs : List AV} {ws : List Value}, zht vs bs = true -> zc7 bs ws = true -> VRs c P vs ws := by
 induction bs with
 | nil =>
  intro vs ws h1 h2
  cases vs with
  | cons => exact nomatch h1
  | nil => cases ws with
   | cons => exact nomatch h2
   | nil => exact rfl
 | cons b bs ih =>
  intro vs ws h1 h2
  cases vs with
  | nil => exact nomatch h1
  | cons v vs => cases ws with
   | nil => exact nomatch h2
   | cons w ws => exact a2 h1 λ h1 h3 => a2 h2 λ h2 h4 => ⟨by
    cases v with
    | bytes a => cases w with
     | bytes d t =>
      have e1 : a = b := of_decide_eq_true h1
      have e2 : d.toList = b := of_decide_eq_true h2
      exact (e1.trans e2.symm) ▸ (⟨t⟩ : wU d.toList (.bytes d.toList.toArray t))
     | _ => exact (nomatch h2)
    | _ => exact (nomatch h1), ih h3 h4⟩
theorem zc9 {K : Frag} {p : (Str × Nat) × List Bs} (h : zju K p = true) : ∃ ws n, K.lookup p.1.2 = some (listOf (List.toArray ws) n) /\ zc7 p.2 ws = true := by
 unfold zju at h
 cases e : K.lookup p.1.2 with
 | none => rw [e] at h; exact nomatch h
 | some o =>
  rw [e] at h
  obtain ⟨oc, od, da, sl⟩ := o
  cases da with
  | seq ws n =>
   refine a2 h λ h1 h => a3 h λ h2 h3 h4 => ⟨ws.toList, n, ?_, h1⟩
   have c2 : oc = .type "list" := by cases oc with
    | type t => exact congrArg _ (eq_of_beq h2)
    | _ => exact nomatch h2
   have c3 : od = none := Option.isNone_iff_eq_none.mp h3
   have c4 : sl = #[] := Array.isEmpty_iff.mp h4
   rw [c2, c3, c4]
  | _ => exact nomatch h
theorem zi1 (x : Str) (v : AV) (h : TT.has x v = true) : ∃ u, nsIn (hd.heap_1 w.params) mainGlobals x = some (some u) /\ ∀ P, VR (cfgOf w loose mean mg mb) P v u := by
 refine a2 (ze0 w) λ h1 h2 => ?_
 cases v with
 | int i =>
  obtain ⟨p, hp, q⟩ := List.any_eq_true.mp h
  obtain ⟨v, e, r⟩ := ze8 (List.all_eq_true.mp h1 p hp)
  refine a2 q λ q1 q2 => ?_
  rw [of_decide_eq_true q1] at e
  rw [of_decide_eq_true q2] at r
  exact ⟨v, e, λ z => r⟩
 | bytes b =>
  obtain ⟨p, hp, q⟩ := List.any_eq_true.mp h
  obtain ⟨v, e, r⟩ := zhz (List.all_eq_true.mp h2 p hp)
  refine a2 q λ q1 q2 => ?_
  rw [of_decide_eq_true q1] at e
  rw [of_decide_eq_true q2] at r
  exact ⟨v, e, λ z => r⟩
 | lst vs =>
  obtain ⟨p, hp, q⟩ := List.any_eq_true.mp h
  obtain ⟨ws, n, e, r⟩ := zc9 (List.all_eq_true.mp (zc8 w).1 p hp)
  refine a2 q λ q1 q2 => ⟨.ref p.1.2, of_decide_eq_true q1 ▸ List.map_inj_left.mp (zc8 w).2 p hp, λ P => ⟨ws, zi0 q2 r, .std _ n λ h X => X _ _ e⟩⟩
 | _ => exact nomatch h
theorem ze9 : Fx (cfgOf w loose mean mg mb) TT z8 := by
 have hf := λ k => zc6 (List.map_inj_left.mp (zhv w)) k
 have hm := λ k => zc6 (List.map_inj_left.mp (zhw w)) (k - 51)
 have hg := λ f (h : f < 12) => List.map_inj_left.mp (ze1 w) f (List.mem_range.mpr h)
 have hl := ze2 w
 have hi := List.map_inj_left.mp ((ze3 w).trans (rfl : _ = List.map (λ _ : Nat => (true, true)) [262, 53]))
 have hz := zhx w
 have hcA : ∀ k, cA (cfgOf w loose mean mg mb) k ∈ [262, 53] := λ k => match k with
  | 0 => .head _
  | _ + 1 => .tail _ (.head _)
 exact {
  fnN := λ k h => by rw [ziZ h]; exact congrArg Prod.fst (hf k)
  fnK := λ k h => by rw [ziZ h]; exact congrArg Prod.snd (hf k)
  meN := λ k h => by rw [zhy h]; exact congrArg Prod.fst (hm k)
  meF := λ k h => by rw [zhy h]; exact congrArg (·.2.1) (hm k)
  meK := λ k h => by rw [zhy h]; exact congrArg (·.2.2.1) (hm k)
  meX := λ k h => congrArg (·.2.2.2) (hm k)
  con := zi1 w loose mean mg mb
  lexAt := congrArg (·.1) hl
  lexDict := congrArg (·.2.1) hl
  lexGet := λ f h => bY (congrArg Prod.fst (hg f h))
  setA := congrArg (·.2.2.1) hl
  setO := congrArg (·.2.2.2.1) hl
  setT := λ f h => congrArg Prod.snd (hg f h)
  insAt := λ k => congrArg Prod.fst (hi _ (hcA k))
  insDict := λ k => congrArg Prod.snd (hi _ (hcA k))
  insGet := λ k f h => bY (match k, h with
   | 0, h => List.all_eq_true.mp (List.all_eq_true.mp hz (262, tokF) (.head _)) f h
   | _ + 1, h => List.all_eq_true.mp (List.all_eq_true.mp hz (53, rM) (.tail _ (.head _))) f h)
  tok := zj3 (ze6 w loose mean mg mb)
  tokN := congrArg (·.2.2.2.2.1) hl
  tokK := congrArg (·.2.2.2.2.2) hl
  blt := List.map_inj_left.mp (ze4 w) }
theorem iT : rE (cfgOf w loose mean mg mb) z8 := by
 have h := ze5 w
 exact ⟨congrArg (·.1) h, congrArg (·.2.1) h, congrArg (·.2.2.1) h, congrArg (·.2.2.2.1) h, congrArg (·.2.2.2.2) h⟩
end
end
section
open PyProof.Rows PySem.Calls
noncomputable def clT (k : Nat) : Bool := Nat.blt k 22 || (Nat.blt 22 k && Nat.blt k 50 || (Nat.beq k 52 || (Nat.beq k 53 || (Nat.beq k 54 || (Nat.beq k 55 || (Nat.beq k 60 || (Nat.beq k 63 || Nat.beq k 65)))))))
theorem yN {P : List Value -> Prop} {n : Nat} {ws : List Value} (hl : ws.length = n + 1) (k : ∀ v r, r.length = n -> P (v :: r)) : P ws := by
 cases ws with
 | nil => cases hl
 | cons v r => exact k v r (Nat.succ.inj hl)
theorem pX {P : List Value -> Prop} {ws : List Value} (hl : ws.length = 0) (k : P []) : P ws := by
 cases ws with
 | nil => exact k
 | cons => cases hl
section
variable {c : Cfg} {a : Addr} {x0 x1 x2 x3 : Str} {chk : NS -> List Stmt -> Bool}
noncomputable abbrev BT (c : Cfg) (a : Addr) (s : Shared) (xs : List Str) (ws : List Value) : Prop := BindsTo s (zcv c.K a) ⟨ws, []⟩ (xs.zip ws)
theorem fn0 (h : zaz c.K a [] chk = true) (hb : bindArgs (zcv c.K a) ⟨[], []⟩ = pure []) : pL c a chk 0 := zcw h rfl λ s ws hl => pX (P := BT c a s []) hl (BindsTo.of_eq hb)
theorem fn1 (h : zaz c.K a [x0] chk = true) (hb : ∀ v0, bindArgs (zcv c.K a) ⟨[v0], []⟩ = pure [(x0, v0)]) : pL c a chk 1 := zcw h rfl λ s ws hl => yN (P := BT c a s [x0]) hl λ v0 r hl => pX (P := λ r => BT c a s [x0] (v0 :: r)) hl (BindsTo.of_eq (hb v0))
theorem fn2 (h : zaz c.K a [x0, x1] chk = true) (hb : ∀ v0 v1, bindArgs (zcv c.K a) ⟨[v0, v1], []⟩ = pure [(x0, v0), (x1, v1)]) : pL c a chk 2 := zcw h rfl λ s ws hl => yN (P := BT c a s [x0, x1]) hl λ v0 r hl => yN (P := λ r => BT c a s [x0, x1] (v0 :: r)) hl λ v1 r hl => pX (P := λ r => BT c a s [x0, x1] (v0 :: v1 :: r)) hl (BindsTo.of_eq (hb v0 v1))
theorem fn3 (h : zaz c.K a [x0, x1, x2] chk = true) (hb : ∀ v0 v1 v2, bindArgs (zcv c.K a) ⟨[v0, v1, v2], []⟩ = pure [(x0, v0), (x1, v1), (x2, v2)]) : pL c a chk 3 := zcw h rfl λ s ws hl => yN (P := BT c a s [x0, x1, x2]) hl λ v0 r hl => yN (P := λ r => BT c a s [x0, x1, x2] (v0 :: r)) hl λ v1 r hl => yN (P := λ r => BT c a s [x0, x1, x2] (v0 :: v1 :: r)) hl λ v2 r hl => pX (P := λ r => BT c a s [x0, x1, x2] (v0 :: v1 :: v2 :: r)) hl (BindsTo.of_eq (hb v0 v1 v2))
theorem fn4 (h : zaz c.K a [x0, x1, x2, x3] chk = true) (hb : ∀ v0 v1 v2 v3, bindArgs (zcv c.K a) ⟨[v0, v1, v2, v3], []⟩ = pure [(x0, v0), (x1, v1), (x2, v2), (x3, v3)]) : pL c a chk 4 := zcw h rfl λ s ws hl => yN (P := BT c a s [x0, x1, x2, x3]) hl λ v0 r hl => yN (P := λ r => BT c a s [x0, x1, x2, x3] (v0 :: r)) hl λ v1 r hl => yN (P := λ r => BT c a s [x0, x1, x2, x3] (v0 :: v1 :: r)) hl λ v2 r hl => yN (P := λ r => BT c a s [x0, x1, x2, x3] (v0 :: v1 :: v2 :: r)) hl λ v3 r hl => pX (P := λ r => BT c a s [x0, x1, x2, x3] (v0 :: v1 :: v2 :: v3 :: r)) hl (BindsTo.of_eq (hb v0 v1 v2 v3))
end
theorem cD0 {b : Bool} : Chn (λ P => dec b P) := sX zfT
theorem cD1 {b : Bool} {A : Prop} : Chn (λ P => dec b (A /\ P)) := sX zcx
theorem cD2 {b : Bool} {m : AV} {A : Prop} : Chn (λ P => dec b (za2 m (A /\ P))) := sX (zg5 zcx)
theorem cD3 {b d : Bool} : Chn (λ P => dec b (dec d P)) := sX (sX zfT)
section
variable (w : World) (loose : List Str) (mean : ExcName -> Option Value) (mg mb : Str -> Option Value)
theorem w_0 : PE (cfgOf w loose mean mg mb) TT z8 0 := .code 1 1 ux rfl (fn1 (x0 := "value") (by kernel_rfl) λ z => by kernel_rfl) p0 λ z z => cD0
theorem w_1 : PE (cfgOf w loose mean mg mb) TT z8 1 := .code 3 2 body_wrap rfl (fn2 (x0 := "n") (x1 := "width") (by kernel_rfl) λ z z => by kernel_rfl) p1 λ z z => cD1
theorem w_2 : PE (cfgOf w loose mean mg mb) TT z8 2 := .code 1 1 yV rfl (fn1 (x0 := "octet") (by kernel_rfl) λ z => by kernel_rfl) p2 λ z z => cD1
theorem w_3 : PE (cfgOf w loose mean mg mb) TT z8 3 := .code 1 1 u0 rfl (fn1 (x0 := "octet") (by kernel_rfl) λ z => by kernel_rfl) p3 λ z z => cD0
theorem w_4 : PE (cfgOf w loose mean mg mb) TT z8 4 := .code 5 3 vm rfl (fn3 (x0 := "text") (x1 := "at") (x2 := "base") (by kernel_rfl) λ z z z => by kernel_rfl) p4 λ z z => cD1
theorem w_5 : PE (cfgOf w loose mean mg mb) TT z8 5 := .code 2 2 vo rfl (fn2 (x0 := "text") (x1 := "at") (by kernel_rfl) λ z z => by kernel_rfl) p5 λ z z => cD1
theorem w_6 : PE (cfgOf w loose mean mg mb) TT z8 6 := .code 8 3 yg rfl (fn3 (x0 := "text") (x1 := "base") (x2 := "limits") (by kernel_rfl) λ z z z => by kernel_rfl) p6 λ z z => cD2
theorem w_7 : PE (cfgOf w loose mean mg mb) TT z8 7 := .code 2 2 xZ rfl (fn2 (x0 := "text") (x1 := "limits") (by kernel_rfl) λ z z => by kernel_rfl) p7 λ z z => cD2
theorem w_8 : PE (cfgOf w loose mean mg mb) TT z8 8 := .code 3 1 vq rfl (fn1 (x0 := "n") (by kernel_rfl) λ z => by kernel_rfl) p8 λ z z => cD1
theorem w_9 : PE (cfgOf w loose mean mg mb) TT z8 9 := .code 1 1 rA rfl (fn1 (x0 := "value") (by kernel_rfl) λ z => by kernel_rfl) p9 λ z z => cD1
theorem zk2 : PE (cfgOf w loose mean mg mb) TT z8 10 := .code 2 1 qQ rfl (fn1 (x0 := "text") (by kernel_rfl) λ z => by kernel_rfl) p10 λ z z => cD0
theorem zk3 : PE (cfgOf w loose mean mg mb) TT z8 12 := .code 5 2 u9 rfl (fn2 (x0 := "source") (x1 := "size") (by kernel_rfl) λ z z => by kernel_rfl) p12 λ z z => cD3
theorem zk4 : PE (cfgOf w loose mean mg mb) TT z8 13 := .code 1 1 tB rfl (fn1 (x0 := "sign") (by kernel_rfl) λ z => by kernel_rfl) p13 λ z z => cD0
theorem zk5 : PE (cfgOf w loose mean mg mb) TT z8 14 := .code 1 1 uy rfl (fn1 (x0 := "sign") (by kernel_rfl) λ z => by kernel_rfl) p14 λ z z => cD0
theorem zk6 : PE (cfgOf w loose mean mg mb) TT z8 15 := .code 1 1 wJ rfl (fn1 (x0 := "sign") (by kernel_rfl) λ z => by kernel_rfl) p15 λ z z => cD0
theorem zk7 : PE (cfgOf w loose mean mg mb) TT z8 16 := .code 1 1 xT rfl (fn1 (x0 := "sign") (by kernel_rfl) λ z => by kernel_rfl) p16 λ z z => cD0
theorem zk8 : PE (cfgOf w loose mean mg mb) TT z8 17 := .code 1 1 vU rfl (fn1 (x0 := "sign") (by kernel_rfl) λ z => by kernel_rfl) p17 λ z z => cD0
theorem zk9 : PE (cfgOf w loose mean mg mb) TT z8 18 := .code 1 1 vV rfl (fn1 (x0 := "sign") (by kernel_rfl) λ z => by kernel_rfl) p18 λ z z => cD0
theorem zla : PE (cfgOf w loose mean mg mb) TT z8 19 := .code 2 1 yI rfl (fn1 (x0 := "sign") (by kernel_rfl) λ z => by kernel_rfl) p19 λ z z => cD1
theorem zlb : PE (cfgOf w loose mean mg mb) TT z8 21 := .code 2 1 vW rfl (fn1 (x0 := "kind") (by kernel_rfl) λ z => by kernel_rfl) p21 λ z z => cD1
theorem zlc : PE (cfgOf w loose mean mg mb) TT z8 23 := .code 0 0 uD rfl (fn0  (by kernel_rfl) (by kernel_rfl)) p23 λ z z => cD0
theorem zld : PE (cfgOf w loose mean mg mb) TT z8 24 := .code 0 0 uE rfl (fn0  (by kernel_rfl) (by kernel_rfl)) p24 λ z z => cD0
theorem zle : PE (cfgOf w loose mean mg mb) TT z8 25 := .code 4 1 uF rfl (fn1 (x0 := "text") (by kernel_rfl) λ z => by kernel_rfl) p25 λ z z => cD1
theorem zlf : PE (cfgOf w loose mean mg mb) TT z8 27 := .code 3 2 uG rfl (fn2 (x0 := "text") (x1 := "at") (by kernel_rfl) λ z z => by kernel_rfl) p27 λ z z => cD1
theorem zlg : PE (cfgOf w loose mean mg mb) TT z8 31 := .code 3 2 yP rfl (fn2 (x0 := "text") (x1 := "at") (by kernel_rfl) λ z z => by kernel_rfl) p31 λ z z => cD1
theorem zlh : PE (cfgOf w loose mean mg mb) TT z8 32 := .code 8 2 zK rfl (fn2 (x0 := "text") (x1 := "at") (by kernel_rfl) λ z z => by kernel_rfl) p32 λ z z => cD1
theorem zli : PE (cfgOf w loose mean mg mb) TT z8 54 := .code 2 2 vA rfl (fn2 (x0 := "self") (x1 := "kind") (by kernel_rfl) λ z z => by kernel_rfl) p54 λ z z => cD1
theorem zlj : PE (cfgOf w loose mean mg mb) TT z8 63 := .code 1 1 wg rfl (fn1 (x0 := "self") (by kernel_rfl) λ z => by kernel_rfl) p63 λ z z => cD1
theorem zlk : QEn (cfgOf w loose mean mg mb) TT z8 clT 22 := .code 6 3 yG rfl (fn3 (x0 := "text") (x1 := "chunk") (x2 := "limits") (by kernel_rfl) λ z z z => by kernel_rfl)
theorem zll : QEn (cfgOf w loose mean mg mb) TT z8 clT 28 := .code 7 4 xq rfl (fn4 (x0 := "text") (x1 := "at") (x2 := "level") (x3 := "word") (by kernel_rfl) λ z z z z => by kernel_rfl)
theorem zlm : QEn (cfgOf w loose mean mg mb) TT z8 clT 30 := .code 5 2 xV rfl (fn2 (x0 := "text") (x1 := "at") (by kernel_rfl) λ z z => by kernel_rfl)
theorem zln : QEn (cfgOf w loose mean mg mb) TT z8 clT 33 := .code 9 2 zU rfl (fn2 (x0 := "text") (x1 := "at") (by kernel_rfl) λ z z => by kernel_rfl)
theorem zlo : QEn (cfgOf w loose mean mg mb) TT z8 clT 34 := .code 6 1 tC rfl (fn1 (x0 := "text") (by kernel_rfl) λ z => by kernel_rfl)
theorem zlp : QEn (cfgOf w loose mean mg mb) TT z8 clT 50 := .code 4 4 uP rfl (fn4 (x0 := "self") (x1 := "text") (x2 := "chunk") (x3 := "limits") (by kernel_rfl) λ z z z z => by kernel_rfl)
theorem zlq : QEn (cfgOf w loose mean mg mb) TT z8 clT 51 := .code 1 1 qR rfl (fn1 (x0 := "self") (by kernel_rfl) λ z => by kernel_rfl)
theorem zlr : QEn (cfgOf w loose mean mg mb) TT z8 clT 52 := .code 4 3 rB rfl (fn3 (x0 := "self") (x1 := "text") (x2 := "kind") (by kernel_rfl) λ z z z => by kernel_rfl)
theorem zls : QEn (cfgOf w loose mean mg mb) TT z8 clT 53 := .code 2 2 xU rfl (fn2 (x0 := "self") (x1 := "text") (by kernel_rfl) λ z z => by kernel_rfl)
theorem zlt : QEn (cfgOf w loose mean mg mb) TT z8 clT 55 := .code 1 1 qT rfl (fn1 (x0 := "self") (by kernel_rfl) λ z => by kernel_rfl)
theorem zlu : QEn (cfgOf w loose mean mg mb) TT z8 clT 56 := .code 2 2 qU rfl (fn2 (x0 := "self") (x1 := "sign") (by kernel_rfl) λ z z => by kernel_rfl)
theorem zlv : QEn (cfgOf w loose mean mg mb) TT z8 clT 57 := .code 1 1 yW rfl (fn1 (x0 := "self") (by kernel_rfl) λ z => by kernel_rfl)
theorem zlw : QEn (cfgOf w loose mean mg mb) TT z8 clT 58 := .code 2 2 uz rfl (fn2 (x0 := "self") (x1 := "signs") (by kernel_rfl) λ z z => by kernel_rfl)
theorem zlx : QEn (cfgOf w loose mean mg mb) TT z8 clT 59 := .code 1 1 rC rfl (fn1 (x0 := "self") (by kernel_rfl) λ z => by kernel_rfl)
theorem zly : QEn (cfgOf w loose mean mg mb) TT z8 clT 60 := .code 2 1 yF rfl (fn1 (x0 := "self") (by kernel_rfl) λ z => by kernel_rfl)
theorem zlz : QEn (cfgOf w loose mean mg mb) TT z8 clT 61 := .code 2 1 uQ rfl (fn1 (x0 := "self") (by kernel_rfl) λ z => by kernel_rfl)
theorem zlA : QEn (cfgOf w loose mean mg mb) TT z8 clT 62 := .code 1 1 wK rfl (fn1 (x0 := "self") (by kernel_rfl) λ z => by kernel_rfl)
theorem zlB : QEn (cfgOf w loose mean mg mb) TT z8 clT 64 := .code 2 1 zZ rfl (fn1 (x0 := "self") (by kernel_rfl) λ z => by kernel_rfl)
theorem zlC : QEn (cfgOf w loose mean mg mb) TT z8 clT 65 := .code 2 2 yX rfl (fn2 (x0 := "self") (x1 := "sign") (by kernel_rfl) λ z z => by kernel_rfl)
theorem zlD : QEn (cfgOf w loose mean mg mb) TT z8 clT 66 := .code 1 1 vC rfl (fn1 (x0 := "self") (by kernel_rfl) λ z => by kernel_rfl)
theorem zlE : QEn (cfgOf w loose mean mg mb) TT z8 clT 67 := .code 3 1 vD rfl (fn1 (x0 := "self") (by kernel_rfl) λ z => by kernel_rfl)
theorem zlF : QEn (cfgOf w loose mean mg mb) TT z8 clT 68 := .code 2 1 zL rfl (fn1 (x0 := "self") (by kernel_rfl) λ z => by kernel_rfl)
theorem zlG : QEn (cfgOf w loose mean mg mb) TT z8 clT 69 := .code 2 1 yw rfl (fn1 (x0 := "self") (by kernel_rfl) λ z => by kernel_rfl)
theorem zlH : QEn (cfgOf w loose mean mg mb) TT z8 clT 70 := .code 3 1 yJ rfl (fn1 (x0 := "self") (by kernel_rfl) λ z => by kernel_rfl)
theorem zlI : QEn (cfgOf w loose mean mg mb) TT z8 clT 71 := .code 4 3 yU rfl (fn3 (x0 := "self") (x1 := "level") (x2 := "is_text") (by kernel_rfl) λ z z z => by kernel_rfl)
theorem zlJ : QEn (cfgOf w loose mean mg mb) TT z8 clT 72 := .code 2 2 yK rfl (fn2 (x0 := "self") (x1 := "level") (by kernel_rfl) λ z z => by kernel_rfl)
theorem zlK : QEn (cfgOf w loose mean mg mb) TT z8 clT 73 := .code 2 2 wj rfl (fn2 (x0 := "self") (x1 := "quote") (by kernel_rfl) λ z z => by kernel_rfl)
theorem zlL : QEn (cfgOf w loose mean mg mb) TT z8 clT 74 := .code 2 1 wz rfl (fn1 (x0 := "self") (by kernel_rfl) λ z => by kernel_rfl)
theorem zlM : QEn (cfgOf w loose mean mg mb) TT z8 clT 75 := .code 3 1 wA rfl (fn1 (x0 := "self") (by kernel_rfl) λ z => by kernel_rfl)
theorem w_all (h20 : rH (cfgOf w loose mean mg mb) z8 20) (h26 : rH (cfgOf w loose mean mg mb) z8 26) (h29 : rH (cfgOf w loose mean mg mb) z8 29) : ∀ k, PE (cfgOf w loose mean mg mb) TT z8 k := λ k => by
 rcases k with _ | k
 ·exact w_0 w loose mean mg mb
 rcases k with _ | k
 ·exact w_1 w loose mean mg mb
 rcases k with _ | k
 ·exact w_2 w loose mean mg mb
 rcases k with _ | k
 ·exact w_3 w loose mean mg mb
 rcases k with _ | k
 ·exact w_4 w loose mean mg mb
 rcases k with _ | k
 ·exact w_5 w loose mean mg mb
 rcases k with _ | k
 ·exact w_6 w loose mean mg mb
 rcases k with _ | k
 ·exact w_7 w loose mean mg mb
 rcases k with _ | k
 ·exact w_8 w loose mean mg mb
 rcases k with _ | k
 ·exact w_9 w loose mean mg mb
 rcases k with _ | k
 ·exact zk2 w loose mean mg mb
 rcases k with _ | k
 ·exact .no λ z z z h => h
 rcases k with _ | k
 ·exact zk3 w loose mean mg mb
 rcases k with _ | k
 ·exact zk4 w loose mean mg mb
 rcases k with _ | k
 ·exact zk5 w loose mean mg mb
 rcases k with _ | k
 ·exact zk6 w loose mean mg mb
 rcases k with _ | k
 ·exact zk7 w loose mean mg mb
 rcases k with _ | k
 ·exact zk8 w loose mean mg mb
 rcases k with _ | k
 ·exact zk9 w loose mean mg mb
 rcases k with _ | k
 ·exact zla w loose mean mg mb
 rcases k with _ | k
 ·exact .prim h20
 rcases k with _ | k
 ·exact zlb w loose mean mg mb
 rcases k with _ | k
 ·exact .no λ z z z h => h
 rcases k with _ | k
 ·exact zlc w loose mean mg mb
 rcases k with _ | k
 ·exact zld w loose mean mg mb
 rcases k with _ | k
 ·exact zle w loose mean mg mb
 rcases k with _ | k
 ·exact .prim h26
 rcases k with _ | k
 ·exact zlf w loose mean mg mb
 rcases k with _ | k
 ·exact .no λ z z z h => h
 rcases k with _ | k
 ·exact .prim h29
 rcases k with _ | k
 ·exact .no λ z z z h => h
 rcases k with _ | k
 ·exact zlg w loose mean mg mb
 rcases k with _ | k
 ·exact zlh w loose mean mg mb
 rcases k with _ | k
 ·exact .no λ z z z h => h
 rcases k with _ | k
 ·exact .no λ z z z h => h
 rcases k with _ | k
 ·exact .no λ z z z h => h
 rcases k with _ | k
 ·exact .no λ z z z h => h
 rcases k with _ | k
 ·exact .no λ z z z h => h
 rcases k with _ | k
 ·exact .no λ z z z h => h
 rcases k with _ | k
 ·exact .no λ z z z h => h
 rcases k with _ | k
 ·exact .no λ z z z h => h
 rcases k with _ | k
 ·exact .no λ z z z h => h
 rcases k with _ | k
 ·exact .no λ z z z h => h
 rcases k with _ | k
 ·exact .no λ z z z h => h
 rcases k with _ | k
 ·exact .no λ z z z h => h
 rcases k with _ | k
 ·exact .no λ z z z h => h
 rcases k with _ | k
 ·exact .no λ z z z h => h
 rcases k with _ | k
 ·exact .no λ z z z h => h
 rcases k with _ | k
 ·exact .no λ z z z h => h
 rcases k with _ | k
 ·exact .no λ z z z h => h
 rcases k with _ | k
 ·exact .no λ z z z h => h
 rcases k with _ | k
 ·exact .no λ z z z h => h
 rcases k with _ | k
 ·exact .no λ z z z h => h
 rcases k with _ | k
 ·exact .no λ z z z h => h
 rcases k with _ | k
 ·exact zli w loose mean mg mb
 rcases k with _ | k
 ·exact .no λ z z z h => h
 rcases k with _ | k
 ·exact .no λ z z z h => h
 rcases k with _ | k
 ·exact .no λ z z z h => h
 rcases k with _ | k
 ·exact .no λ z z z h => h
 rcases k with _ | k
 ·exact .no λ z z z h => h
 rcases k with _ | k
 ·exact .no λ z z z h => h
 rcases k with _ | k
 ·exact .no λ z z z h => h
 rcases k with _ | k
 ·exact .no λ z z z h => h
 rcases k with _ | k
 ·exact zlj w loose mean mg mb
 rcases k with _ | k
 ·exact .no λ z z z h => h
 rcases k with _ | k
 ·exact .no λ z z z h => h
 rcases k with _ | k
 ·exact .no λ z z z h => h
 rcases k with _ | k
 ·exact .no λ z z z h => h
 rcases k with _ | k
 ·exact .no λ z z z h => h
 rcases k with _ | k
 ·exact .no λ z z z h => h
 rcases k with _ | k
 ·exact .no λ z z z h => h
 rcases k with _ | k
 ·exact .no λ z z z h => h
 rcases k with _ | k
 ·exact .no λ z z z h => h
 rcases k with _ | k
 ·exact .no λ z z z h => h
 rcases k with _ | k
 ·exact .no λ z z z h => h
 rcases k with _ | k
 ·exact .no λ z z z h => h
 exact .no λ z z z h => h
theorem v_all : ∀ k, QEn (cfgOf w loose mean mg mb) TT z8 clT k := λ k => by
 rcases k with _ | k
 ·exact .no rfl
 rcases k with _ | k
 ·exact .no rfl
 rcases k with _ | k
 ·exact .no rfl
 rcases k with _ | k
 ·exact .no rfl
 rcases k with _ | k
 ·exact .no rfl
 rcases k with _ | k
 ·exact .no rfl
 rcases k with _ | k
 ·exact .no rfl
 rcases k with _ | k
 ·exact .no rfl
 rcases k with _ | k
 ·exact .no rfl
 rcases k with _ | k
 ·exact .no rfl
 rcases k with _ | k
 ·exact .no rfl
 rcases k with _ | k
 ·exact .no rfl
 rcases k with _ | k
 ·exact .no rfl
 rcases k with _ | k
 ·exact .no rfl
 rcases k with _ | k
 ·exact .no rfl
 rcases k with _ | k
 ·exact .no rfl
 rcases k with _ | k
 ·exact .no rfl
 rcases k with _ | k
 ·exact .no rfl
 rcases k with _ | k
 ·exact .no rfl
 rcases k with _ | k
 ·exact .no rfl
 rcases k with _ | k
 ·exact .no rfl
 rcases k with _ | k
 ·exact .no rfl
 rcases k with _ | k
 ·exact zlk w loose mean mg mb
 rcases k with _ | k
 ·exact .no rfl
 rcases k with _ | k
 ·exact .no rfl
 rcases k with _ | k
 ·exact .no rfl
 rcases k with _ | k
 ·exact .no rfl
 rcases k with _ | k
 ·exact .no rfl
 rcases k with _ | k
 ·exact zll w loose mean mg mb
 rcases k with _ | k
 ·exact .no rfl
 rcases k with _ | k
 ·exact zlm w loose mean mg mb
 rcases k with _ | k
 ·exact .no rfl
 rcases k with _ | k
 ·exact .no rfl
 rcases k with _ | k
 ·exact zln w loose mean mg mb
 rcases k with _ | k
 ·exact zlo w loose mean mg mb
 rcases k with _ | k
 ·exact .no rfl
 rcases k with _ | k
 ·exact .no rfl
 rcases k with _ | k
 ·exact .no rfl
 rcases k with _ | k
 ·exact .no rfl
 rcases k with _ | k
 ·exact .no rfl
 rcases k with _ | k
 ·exact .no rfl
 rcases k with _ | k
 ·exact .no rfl
 rcases k with _ | k
 ·exact .no rfl
 rcases k with _ | k
 ·exact .no rfl
 rcases k with _ | k
 ·exact .no rfl
 rcases k with _ | k
 ·exact .no rfl
 rcases k with _ | k
 ·exact .no rfl
 rcases k with _ | k
 ·exact .no rfl
 rcases k with _ | k
 ·exact .no rfl
 rcases k with _ | k
 ·exact .no rfl
 rcases k with _ | k
 ·exact zlp w loose mean mg mb
 rcases k with _ | k
 ·exact zlq w loose mean mg mb
 rcases k with _ | k
 ·exact zlr w loose mean mg mb
 rcases k with _ | k
 ·exact zls w loose mean mg mb
 rcases k with _ | k
 ·exact .no rfl
 rcases k with _ | k
 ·exact zlt w loose mean mg mb
 rcases k with _ | k
 ·exact zlu w loose mean mg mb
 rcases k with _ | k
 ·exact zlv w loose mean mg mb
 rcases k with _ | k
 ·exact zlw w loose mean mg mb
 rcases k with _ | k
 ·exact zlx w loose mean mg mb
 rcases k with _ | k
 ·exact zly w loose mean mg mb
 rcases k with _ | k
 ·exact zlz w loose mean mg mb
 rcases k with _ | k
 ·exact zlA w loose mean mg mb
 rcases k with _ | k
 ·exact .no rfl
 rcases k with _ | k
 ·exact zlB w loose mean mg mb
 rcases k with _ | k
 ·exact zlC w loose mean mg mb
 rcases k with _ | k
 ·exact zlD w loose mean mg mb
 rcases k with _ | k
 ·exact zlE w loose mean mg mb
 rcases k with _ | k
 ·exact zlF w loose mean mg mb
 rcases k with _ | k
 ·exact zlG w loose mean mg mb
 rcases k with _ | k
 ·exact zlH w loose mean mg mb
 rcases k with _ | k
 ·exact zlI w loose mean mg mb
 rcases k with _ | k
 ·exact zlJ w loose mean mg mb
 rcases k with _ | k
 ·exact zlK w loose mean mg mb
 rcases k with _ | k
 ·exact zlL w loose mean mg mb
 rcases k with _ | k
 ·exact zlM w loose mean mg mb
 exact .no rfl
end
end
section
open PyProof.Rows PySem.Builtin PySem.Calls
theorem eY {M : Program} {w : World} {A : Around} {E : Value -> Shared -> Prop} {s : Shared} {h₀ : Heap} {L : Addr} {m : Str -> Option Value} {env : Env} {ct elt iter : Expr} {x : Str} {px : Pos} {scope : Scope} {cl : List (Str × Addr)} {pos : Pos} {Q : Value -> Shared -> Prop}
  (hclos : closureFor scope env = pure cl) (hcell : ∀ y ∈ scope.names, y.2 ≠ .cell) (hkind : scope.kind = .function)
  (hnames : ∀ y ∈ scope.names, y.2 = .local -> scope.names.lookup y.1 = some .local) (hx : scope.names.lookup x = some .local)
  (h : wpAny (model M w) A (eval iter env) (λ xv s₁ => ∃ b t news, xv = .bytes b t /\ A.handled = none /\ Fr h₀ L s₁.heap m /\ News h₀ L s₁.heap news /\ b.size <= sizeLine /\
   ∀ h, LCt.CompRestT M w A h₀ L m env ct elt x scope cl { s₁ with heap := h } (λ nw => nw = news) (λ i v => ∃ c u, b[i]? = some c /\ v = .int (c.toNat : Int) u) (LCg.FinE h₀ L m { s₁ with heap := h } Q) b.size 0 [] news) E s)
  (hs : ∀ x, foldedSetIterable iter env x = pure x) :
  wpAny (model M w) A (eval (.ListComp elt [⟨.Name x px, iter, [ct], 0⟩] scope pos) env) Q E s := by
 rw [eval_ListComp]
 refine wpAny_comprehension_free (use := none) rfl hs hclos hkind hnames (wpAny_mono h (λ xv s₁ h₁ => ?_) λ z z e => e)
 obtain ⟨b, t, news, rfl, hh, F, N, hsz, R⟩ := h₁
 refine KBw.pyIter_bytes ?_
 have up : ∀ a o, s₁.heap.get? a = some o -> (s₁.heap.push { cls := .type "bytes_iterator", data := .fields #[.bytes b t, .int 0 0] }).get? a = some o := λ a o e => Heap.get?_push_of_some _ e
 refine LCt.block_T (S := λ nw => nw = news) (KBw.walks hh s₁.heap.objs.size b t) hsz (λ i h st => let ⟨o, e, _⟩ := st; ⟨o, e⟩) (λ i h h' o nw st e e' z z z => by
   obtain ⟨o', q, r⟩ := st
   rw [e] at q; cases q
   exact ⟨o, e', r⟩) hcell hkind hx ⟨_, Heap.get?_push_size _ rfl, rfl, rfl⟩ (λ a ha => ?_)
   (F.keeps up) (N.grown up) (Nat.ne_of_lt F.ns.lt) (next_is_new F) (λ p hp => Nat.ne_of_lt (Heap.lt_size (N p hp).1)) rfl (R _) ?_
 ·rw [List.mem_singleton.mp ha]
  show s₁.heap.objs.size < (s₁.heap.push _).objs.size
  rw [Heap.size_push]; exact Nat.lt_succ_self _
 ·intro D C h tk m' ys news' F' N' o1 hn hC₀ hD₀ hCL hDL hCD offC fin
  refine ⟨m', hn, λ h'' hs'' => fin D h'' tk (F'.change hs'' hCL hC₀) (λ p hp => ?_) o1⟩
  refine ⟨hs''.extBut _ _ ?_ (N' p hp).1, (N' p hp).2⟩
  rcases mCM hp with rfl | hp
  ·exact Ne.symm hCD
  ·exact offC p hp
noncomputable def iU : Scope := ⟨.function, [(".0", .local), ("one", .local)], false, false, []⟩
noncomputable def zi2 (c1 it : Expr) (p : Nat -> Pos) : List Stmt := [.Return (some (.BinOp c1 .Add (.Call (.Name "len" (p 1)) [.ListComp (.Name "one" (p 2)) [⟨(.Name "one" (p 3)), it, [.Compare (.Name "one" (p 8)) [.Eq] [.Constant (.int 10) 0 (p 9)] (p 10)], 0⟩] iU (p 11)] [] (p 12)) (p 13))) (p 14)]
noncomputable def zkc : List Pos := [⟨454, 11, 454, 12⟩, ⟨454, 15, 454, 18⟩, ⟨454, 20, 454, 23⟩, ⟨454, 28, 454, 31⟩, ⟨454, 35, 454, 39⟩, ⟨454, 41, 454, 43⟩, ⟨454, 40, 454, 43⟩, ⟨454, 35, 454, 44⟩, ⟨454, 48, 454, 51⟩, ⟨454, 55, 454, 57⟩, ⟨454, 48, 454, 57⟩, ⟨454, 19, 454, 58⟩, ⟨454, 15, 454, 59⟩, ⟨454, 11, 454, 59⟩, ⟨454, 4, 454, 59⟩]
noncomputable abbrev zi3 : PX := .slice (.loc 0) none (some (.loc 1))
inductive zda (ns : NS) (pb : List Stmt) : Prop
 | mk (c1 it : Expr) (p : Nat -> Pos) (e : pb = zi2 c1 it p) (h1 : xW TT ns 0 (.const (.int 1)) c1 = true) (h2 : zy ns "len" "len" = true) (h3 : okE it = true) (h4 : xW TT ns 0 zi3 it = true) : zda ns pb
theorem bZ {D : Addr} : ∀ {l : List (Addr × Obj)}, LCg.Off1 D l -> ∀ p ∈ l, p.1 ≠ D
 | [], _, _, h => nomatch h
 | _ :: _, x, p, h => (mCM h).elim (λ e => e ▸ x.1) (bZ x.2 p)
theorem zhA {a : Bs} {i : Nat} {c : UInt8} (h : a[i]? = some c) : cnt (a.take (i + 1)) = cnt (a.take i) + if c = 10 then 1 else 0 := by
 rw [List.take_add_one, h, cnt_append]
 show _ + cnt [c] = _
 rw [cnt_cons]
 rfl
theorem zhB {c : UInt8} : ((c.toNat : Int) == 10) = decide (c = 10) := by
 by_cases q : c = 10
 ·rw [q]; rfl
 ·rw [decide_eq_false q]
  exact beq_eq_false_iff_ne.mpr λ z => q (UInt8.toNat_inj.mp (Int.ofNat.inj z))
theorem zaI {M : Program} {w : World} {A : Around} {h₀ : Heap} {L : Addr} {m : Str -> Option Value} {env : Env} {px pc pk pp : Pos} {u : Nat} {s : Shared} {Q : Value -> Shared -> Prop} {a : Bs} {news : List (Addr × Obj)}
  (fin : ∀ D h tk ys, ys.length = cnt a -> Fr h₀ L h m -> News h₀ L h ((D, LCg.lst ys) :: news) -> LCg.Off1 D news -> Q (.ref D) { s with heap := h, toks := tk }) :
  ∀ k i ys, i + k = a.length -> ys.length = cnt (a.take i) ->
   LCt.CompRestT M w A h₀ L m env (.Compare (.Name "one" pc) [.Eq] [.Constant (.int 10) u pk] pp) (.Name "one" px) "one" iU [] s (λ nw => nw = news) (λ i v => ∃ c u, a.toArray[i]? = some c /\ v = .int (c.toNat : Int) u) (LCg.FinE h₀ L m s Q) k i ys news := λ k => by
 induction k with
 | zero =>
  intro i ys hi hl
  refine LCt.CompRestT.zero ?_
  intro D h tk F N o
  refine fin D h tk ys ?_ F N o
  rw [hl, List.take_of_length_le (Nat.le_of_eq hi.symm : a.length <= i)]
 | succ k ih =>
  intro i ys hi hl
  refine LCt.CompRestT.succ ?_
  intro v I oI C oC D m₂ h tk E' hP hC hx F N off ne
  obtain ⟨c, u, hc, rfl⟩ := hP
  have htk := zhA (List.getElem?_toArray .. ▸ hc : a[i]? = some c)
  have hi' : i + 1 + k = a.length := by rw [<- hi]; exact Nat.succ_add_eq_add_succ i k
  have hNs := hC.ns (N (C, oC) (.tail _ (.head _))).1
  refine wpAny_isTrue_Compare1 (ldVarK hNs hx (wpAny_Constant_int (eq_int (wpAny_truthy_bool ?_))) rfl rfl (by decide))
  rw [zhB]
  by_cases q : c = 10
  ·rw [if_pos q] at htk
   rw [decide_eq_true q, if_pos rfl]
   refine ldVarK hNs hx (LCg.CompEnd.intro F N news (λ p hp => hp) off rfl (ih (i + 1) _ hi' ?_)) rfl rfl (by decide)
   rw [htk, <- hl]; exact List.length_append
  ·rw [if_neg q] at htk
   rw [decide_eq_false q, if_neg Bool.false_ne_true]
   exact LCg.CompEnd.intro F N news (λ p hp => hp) off rfl (ih (i + 1) _ hi' (hl.trans htk.symm))
section
variable {c : Cfg} {fa : Nat -> Addr}
theorem zaJ (fx : Fx c TT fa) (rz : wD c) (nw : rE c fa) (K : pL c (fa 26) (fY zda) 2) : rH c fa 26 := by
 refine iw fx rz nw K (λ vs g P h => (pby (M := λ vs => vs.length = 2) h λ b i t => rfl)) λ f pb vs g m a2 P Kc Ec S ok R hp kq => ?_
 obtain ⟨c1, it, p, rfl, e1, e2, e3, e4⟩ := ok
 revert R kq
 refine pby (M := λ vs => Rl ⟨c, f⟩ ⟨yR vs 2, g, m⟩ a2 -> (P -> ∀ l' m' w b, Rl ⟨c, f⟩ ⟨l', g, m'⟩ b -> Up a2 b -> VR c b.P (PF 26 vs g) w -> Kc (.ret w) b.s) -> wpAny (model c.prog c.w) f.A (execs (zi2 c1 it p) f.env) Kc Ec a2.s) hp λ b i hb R kq => ?_
 obtain ⟨⟨hb1, hb2, hb3⟩, q⟩ := hb
 refine zkL (M := λ i => Rl ⟨c, f⟩ ⟨yR [.bytes b, .int i] 2, g, m⟩ a2 -> (P -> ∀ l' m' w d, Rl ⟨c, f⟩ ⟨l', g, m'⟩ d -> Up a2 d -> VR c d.P (PF 26 [.bytes b, .int i] g) w -> Kc (.ret w) d.s) -> _) hb2 (λ n R kq => ?_) R kq
 clear hb2 hb3 hp
 refine wpAny_execs_cons (wpAny_Return_some (wpAny_BinOp ?_))
 refine (sound S (.const (.int 1)) e1).E (Q := True) trivial R λ t w1 d1 B1 => ?_
 obtain ⟨t1⟩ : xX 1 w1 := B1.v
 refine yH e2 λ h1 h2 h3 => Call_ (name_B B1.R.F S.here.kin (topRead_of S.here.top) (S.fx.blt "len" (.head _)) boot_len (by decide) (zcB (P := λ t => True) (λ t => rfl) (zG λ t e => nomatch e) ?_) S.here.kind h3 h2)
 refine eY (h₀ := f.h₀) (L := f.L) (m := m) (cl := []) rfl (by decide) rfl (by decide) rfl ?_ (gD e3)
 refine (sound S zi3 e4).E (Q := True) (y := ⟨yR [.bytes b, .int (n : Int)] 2, g, m⟩) ⟨nLT hb1 (by decide), trivial⟩ B1.R λ t w2 d2 B2 => ?_
 obtain ⟨t2⟩ : wU (yq b none (some (n : Int))) w2 := B2.v
 have ec := lD b n
 have hz : (b.take n).length <= 1000 := nLT (List.length_take_le' _ _) hb1
 rw [ec]
 refine ⟨(b.take n).toArray, t2, d2.P.news, rfl, S.here.hh, B2.R.F, B2.R.N, nLT (Nat.le_of_eq List.size_toArray) (nLT hz (by rw [sizeLine_eq]; decide)), λ hh3 => ?_⟩
 rw [List.size_toArray]
 refine zaI (λ D hh tk ys hl F N o => ?_) _ 0 [] (Nat.zero_add _) rfl
 have fr : D ∉ d2.P.keys := λ q => (List.mem_map.mp q).elim λ p z => bZ o p z.1 z.2
 refine ⟨trivial, PySem.Calls.call_len_list (s := d2.to hh tk) (l := D) (items := ys.toArray) ⟨_, (N _ (.head _)).1, rfl, _, rfl⟩ ?_ (PyProof.Rows.add_int ?_)⟩
 ·rw [List.size_toArray, hl]
  have h9 := nLT (za0 (b.take n)) hz
  omega
 ·rw [List.size_toArray, hl]
  exact kq q _ m (.int (1 + (cnt (b.take n) : Int)) _) ⟨d2.P.push D (LCg.lst ys), d2.to hh _⟩ (Rl.push (x := ⟨c, f⟩) B2.R fr F N) (B1.u.trans (B2.u.trans ⟨vL.push.ext, rfl⟩)) ⟨_⟩
end
noncomputable def kvR : List Bs -> Int -> List (Bs × Value) -> Prop
 | [], _, kvs => kvs = []
 | b :: r, n, kvs => ∃ t kr, kvs = (b, .int n t) :: kr /\ kvR r (n + 1) kr
theorem zfa {b : Bs} {t : Tok} {l : List Bs} : ∀ {n : Int} {kvs : List (Bs × Value)}, kvR l n kvs -> kvR (l ++ [b]) n (kvs ++ [(b, .int (n + (l.length : Nat)) t)]) := by
 induction l with
 | nil =>
  intro n kvs h
  have h : kvs = [] := h
  subst h
  exact ⟨t, [], congrArg (λ z => [(b, Value.int z t)]) (Int.add_zero n), rfl⟩
 | cons a r ih =>
  intro n kvs h
  obtain (⟨u, kr, e, h⟩) := h
  subst e
  have e : n + ((r.length + 1 : Nat) : Int) = n + 1 + (r.length : Nat) := by rw [Int.natCast_add, Int.add_assoc, Int.add_comm 1]; rfl
  refine ⟨u, kr ++ [(b, .int (n + 1 + (r.length : Nat)) t)], ?_, ih h⟩
  show (a, Value.int n u) :: (kr ++ [(b, Value.int (n + ((r.length + 1 : Nat) : Int)) t)]) = _
  rw [e]
theorem zi4 {b : Bs} {l : List Bs} : ∀ {n : Int} {kvs : List (Bs × Value)}, kvR l n kvs -> match kindOf b l n with
  | some k => ∃ t, valueAt kvs b = some (.int k t)
  | none => valueAt kvs b = none := by
 induction l with
 | nil =>
  intro n kvs h
  have h : kvs = [] := h
  subst h; rfl
 | cons a r ih =>
  intro n kvs h
  obtain (⟨u, kr, e, h⟩) := h
  subst e
  rw [kindOf]
  by_cases q : a = b
  ·rw [if_pos q]
   exact ⟨u, by unfold valueAt; rw [List.find?_cons_of_pos (by simpa using q)]; rfl⟩
  ·rw [if_neg q]
   have e : valueAt ((a, Value.int n u) :: kr) b = valueAt kr b := by unfold valueAt; rw [List.find?_cons_of_neg (by simpa using q)]
   rw [e]
   exact ih h
theorem zhC {b : Bs} {l : List Bs} : ∀ {n : Int} {kvs : List (Bs × Value)}, kvR l n kvs -> (kvs.any λ kv => kv.1 = b) = l.any λ x => x = b := by
 induction l with
 | nil =>
  intro n kvs h
  have h : kvs = [] := h
  subst h; rfl
 | cons a r ih =>
  intro n kvs h
  obtain (⟨u, kr, e, h⟩) := h
  subst e
  rw [List.any_cons, List.any_cons, ih h]
theorem zhD {l : List Bs} : ∀ {n : Int} {kvs : List (Bs × Value)}, kvR l n kvs -> kvs.length = l.length := by
 induction l with
 | nil =>
  intro n kvs h
  have h : kvs = [] := h
  subst h; rfl
 | cons a r ih =>
  intro n kvs h
  obtain (⟨u, kr, e, h⟩) := h
  subst e
  exact congrArg (· + 1) (ih h)
theorem zhE : ∀ k : Fin 21, ((zm.take k.val).any λ x => x = zm.getD k.val []) = false := by decide +kernel
theorem zfb : ∀ k : Fin 21, zm.take k.val ++ [zm.getD k.val []] = zm.take (k.val + 1) := by decide +kernel
section
variable {c : Cfg} {fa : Nat -> Addr}
noncomputable def zi5 (p : Nat -> Pos) : List Stmt := [.Assign [.Name "kinds" (p 0)] (.Dict [] [] (p 1)) (p 2), .For (.Tuple [.Name "at" (p 3), .Name "word" (p 4)] 0 (p 5)) (.Call (.Name "enumerate" (p 6)) [.Name "RESERVED" (p 7)] [] (p 8)) [.Assign [.Subscript (.Name "kinds" (p 9)) (.Name "word" (p 10)) (p 11)] (.BinOp (.Name "FIRST_RESERVED" (p 12)) .Add (.Name "at" (p 13)) (p 14)) (p 15)] [] (p 16), .Return (some (.Name "kinds" (p 17))) (p 18)]
noncomputable def zi6 : List Pos := [⟨166, 4, 166, 9⟩, ⟨166, 12, 166, 14⟩, ⟨166, 4, 166, 14⟩, ⟨167, 8, 167, 10⟩, ⟨167, 12, 167, 16⟩, ⟨167, 8, 167, 16⟩, ⟨167, 20, 167, 29⟩, ⟨167, 30, 167, 38⟩, ⟨167, 20, 167, 39⟩, ⟨168, 8, 168, 13⟩, ⟨168, 14, 168, 18⟩, ⟨168, 8, 168, 19⟩, ⟨168, 22, 168, 36⟩, ⟨168, 39, 168, 41⟩, ⟨168, 22, 168, 41⟩, ⟨168, 8, 168, 41⟩, ⟨167, 4, 168, 41⟩, ⟨169, 11, 169, 16⟩, ⟨169, 4, 169, 16⟩]
inductive eZ (ns : NS) (pb : List Stmt) : Prop
 | mk (p : Nat -> Pos) (e : pb = zi5 p) (h1 : zB ns 0 "kinds" = true) (h2 : zB ns 1 "at" = true) (h3 : zB ns 2 "word" = true) (h4 : zy ns "enumerate" "enumerate" = true) (h5 : zy ns "RESERVED" "RESERVED" = true) (h6 : zy ns "FIRST_RESERVED" "FIRST_RESERVED" = true) : eZ ns pb
theorem zdb {P : Pl} {bs : List Bs} {ws : List Value} {i : Nat} {b : Bs} (h : VRs c P (bs.map AV.bytes) ws) (e : bs[i]? = some b) : ∃ t, ws[i]? = some (.bytes b.toArray t) := by
 induction bs generalizing ws i with
 | nil => exact nomatch e
 | cons x bs ih => cases ws with
  | nil => exact h.elim
  | cons w ws => cases i with
   | zero =>
    obtain ⟨t⟩ : wU x w := h.1
    exact ⟨t, sIJ e ▸ rfl⟩
   | succ i => exact ih (ws := ws) (i := i) h.2 e
theorem dg (fx : Fx c TT fa) (rz : wD c) (nw : rE c fa) (K : pL c (fa 20) (fY eZ) 0) : rH c fa 20 := by
 refine iw fx rz nw K (λ vs g P h => congrArg List.length (zan (zq h).1)) λ f pb vs g m a2 P Kc Ec S ok R hp kq => ?_
 obtain (⟨p, rfl, e1, e2, e3, e4, e5, e6⟩) := ok
 obtain (⟨hp, q⟩) := zq hp
 cases zan hp
 clear hp
 refine xQ e1 λ l1 d1 n1 => xQ e2 λ l2 d2 n2 => xQ e3 λ l3 d3 n3 => yH e4 λ z1 z2 z3 => yH e5 λ r1 r2 r3 => yH e6 λ f1 f2 f3 => ?_
 obtain (⟨wf, hfr, hvf⟩) := S.fx.con "FIRST_RESERVED" (.int 257) (by decide +kernel)
 obtain (⟨tf⟩) : xX 257 wf := hvf a2.P
 obtain (⟨wr, hrr, hvr⟩) := S.fx.con "RESERVED" (.lst uZ) (by decide +kernel)
 obtain (⟨ws, hws, hlr⟩) := hvr ⟨[], λ y => False, none⟩
 have hlr : ∃ ka nn, wr = .ref ka /\ ∀ h, c.K.In h -> h.get? ka = some (listOf ws.toArray nn) := match hlr with
  | .own _ _ o => nomatch o.1
  | .std a n h => ⟨a, n, rfl, h⟩
 obtain (⟨ka, nn, rfl, kl1⟩) := hlr
 have hwl : ws.length = 21 := (VRs.to hws).len
 refine ak λ Q1 q1 => wpAny_Assign_Name (wpAny_Dict_empty ?_) rfl
 have up1 : ∀ b o, a2.s.heap.get? b = some o -> (a2.s.heap.push { cls := .type "dict", data := .dict #[] }).get? b = some o := λ b o e => Heap.get?_push_of_some _ e
 have hh0 : ∀ b, a2.s.heap.objs.size <= b -> f.h₀.get? b = none := λ b hb => by
  cases q : f.h₀.get? b with
  | none => rfl
  | some o => exact absurd (Heap.lt_size (R.F.keep _ _ q)) (Nat.not_lt.mpr hb)
 have hL0 : f.L < a2.s.heap.objs.size := R.F.ns.lt
 have hP0 : ∀ p ∈ a2.P.news, p.1 < a2.s.heap.objs.size := λ p hp => Heap.lt_size (R.N p hp).1
 obtain (⟨o0, go0, do0⟩) := Heap.dictOf_iff.mp (Heap.DictOf.new (knd := bytesKind c.prog c.w) a2.s.heap)
 generalize hd : a2.s.heap.objs.size = d at hh0 hL0 hP0 go0 ⊢
 have N1 : News f.h₀ f.L (a2.s.heap.push { cls := .type "dict", data := .dict #[] }) ((d, o0) :: a2.P.news) := λ p hp => by
  rcases mCM hp with rfl | hp
  ·exact ⟨go0, Nat.ne_of_gt hL0, hh0 _ (Nat.le_refl _)⟩
  ·exact (R.N.grown up1) p hp
 refine stN (R.F.keeps up1) N1 (λ h2 F2 N2 => q1 _ ?_) S.here.kind n1
 refine ak λ Q1 q1 => wpAny_For ?_ (λ y => rfl)
 show wpAny _ _ (do callWith _ (<- eval (.Name "enumerate" _) f.env) [] (backTo _ (starEach [_] f.env)) []) _ _ _
 refine wBD (name_B F2 S.here.kin (topRead_of S.here.top) (S.fx.blt "enumerate" (by decide)) boot_enumerate (by decide) ?_ S.here.kind z3 z2)
 refine yZ (P := λ y => True) rfl (zG (λ y e => nomatch e)) (args1 rfl ?_)
 refine name_K F2 S.here.kin (topRead_of S.here.top) hrr ?_ S.here.kind r3 r2
 refine ⟨trivial, ?_⟩
 have isL : ∀ h' : Heap, (∀ b o, f.h₀.get? b = some o -> h'.get? b = some o) -> h'.IsList (ka) ws.toArray := λ h' hk => ⟨_, hk _ _ (kl1 _ S.here.kin), rfl, nn, rfl⟩
 refine call_enumerate_list (items := ws.toArray) (isL _ F2.keep) λ h3 he3 hit3 hz3 hk3 => ?_
 refine wpAny_pyIter_enum (s := { a2.s with heap := h3, toks := a2.s.toks + 1 }) he3 ?_
 generalize hI : h2.objs.size = I at *
 have F3 := F2.keeps hk3
 have N3 := N2.grown hk3
 have hdI : d < I := hI ▸ Heap.lt_size (N2 _ (.head _)).1
 have hLI : f.L < I := Nat.lt_trans hL0 hdI
 have hPI : ∀ p ∈ a2.P.news, p.1 < I := λ p hp => Nat.lt_trans (hP0 p hp) hdI
 have hI0 : ∀ b, I <= b -> f.h₀.get? b = none := λ b hb => hh0 b (nLT (Nat.le_of_lt hdI) hb)
 refine codeAny_forLoop_any (λ n' s' => ∃ (k : Nat) (h4 : Heap) (tk4 : Nat) (m4 : Str -> Option Value) (old : Value) (o : Obj) (kvs : List (Bs × Value)) (oi : Obj), k <= 21 /\ n' = 21 - k /\ Fr f.h₀ f.L h4 m4 /\ m4 "kinds" = some (.ref d) /\
  IsEnum h4 (I + 1) I (k : Int) old /\ h4.IsListIter I (ka) k /\ News f.h₀ f.L h4 ((d, o) :: a2.P.news) /\ o.IsDictOf (bytesKind c.prog c.w) kvs /\ kvR (zm.take k) 257 kvs /\ s' = { a2.s with heap := h4, toks := tk4 }) (λ n' s' hI => uo λ Q2 q2 => qu λ E2 => ?_) 21
  ⟨0, h3, _, _, .none, o0, [], o0, Nat.zero_le _, rfl, F3, by simp, he3, hit3, N3, do0, rfl, rfl⟩
 refine zkw hI ?_
 intro k h4 tk4 m4 old o kvs oi hx
 refine zjv hx ?_
 clear hx
 rintro hk rfl F4 hm4 he4 hit4 N4 ho4 hkv rfl
 have hl4 := isL _ F4.keep
 by_cases hlt : k < 21
 ·have hbk : zm[k]? = some (zm.getD k []) := by
   have hlen : zm.length = 21 := rfl
   rw [List.getD_eq_getElem?_getD, List.getElem?_eq_getElem hlt]
   rfl
  have hnew := zhE ⟨k, hlt⟩
  have htk := zfb ⟨k, hlt⟩
  dsimp only at hnew htk
  generalize zm.getD k [] = bw at hbk hnew htk
  obtain (⟨tw, hwk⟩) := zdb hws hbk
  refine wpAny_pyNext_enum_item (s := { a2.s with heap := h4, toks := tk4 }) he4 hit4 hl4 (by simpa using hwk) (Nat.succ_ne_self _) λ h5 heo hit5 htup hz5 hk5 => ?_
  refine q2 _ _ (uo λ Q3 q3 => ?_)
  refine wpAny_letOwnedTupleGo_enum (s := { a2.s with heap := h5, toks := tk4 + 1 }) heo λ h6 he6 hs6 => q3 _ _ (uo λ Q4 q4 => ?_)
  have hs6 : Heap.SameBut (I + 1) h5 h6 := hs6
  have keep6 : ∀ b x, b ≠ I + 1 -> b ≠ I -> h4.get? b = some x -> h6.get? b = some x := λ b x n1 n2 e => hs6.extBut b x n1 (hk5 b x n1 n2 e)
  have hI1 : I + 1 < h4.objs.size := Heap.lt_size he4
  have htup6 : h6.get? h4.objs.size = some (za6 [.int (k : Int) tk4, .bytes bw.toArray tw] 0) := hs6.extBut _ _ (Nat.ne_of_gt hI1) htup
  obtain (⟨oi6, goi6, ci6, di6⟩) := hit5.extBut hs6.extBut (Ne.symm (Nat.succ_ne_self _))
  have F6 : Fr f.h₀ f.L h6 m4 := ⟨F4.ns.at' λ o e => keep6 _ o (Nat.ne_of_lt (Nat.lt_succ_of_lt hLI)) (Nat.ne_of_lt hLI) e, λ b x e => keep6 _ x (λ q => by rw [q, hI0 _ (Nat.le_succ _)] at e; cases e) (λ q => by rw [q, hI0 _ (Nat.le_refl _)] at e; cases e) (F4.keep b x e), F4.above⟩
  have N6 : News f.h₀ f.L h6 ((I + 1, lY I (k + 1) (.bytes bw.toArray tw)) :: (I, oi6) :: (d, o) :: a2.P.news) := λ p hp => by
   rcases mCM hp with rfl | hp
   ·exact ⟨he6, Nat.ne_of_gt (Nat.lt_succ_of_lt hLI), hI0 _ (Nat.le_succ _)⟩
   ·rcases mCM hp with rfl | hp
    ·exact ⟨goi6, Nat.ne_of_gt hLI, hI0 _ (Nat.le_refl _)⟩
    ·have z := N4 p hp
     have lt : p.1 < I := by
      rcases mCM hp with rfl | hp
      ·exact hdI
      ·exact hPI p hp
     exact ⟨keep6 _ _ (Nat.ne_of_lt (Nat.lt_succ_of_lt lt)) (Nat.ne_of_lt lt) z.1, z.2⟩
  refine unpackN_ (s := { a2.s with heap := h6, toks := tk4 + 1 }) F6 N6 ⟨_, htup6, rfl, 0, rfl⟩ S.here.hh rfl rfl λ h7 F7 N7 => ?_
  show wpAny _ _ (do holding [.bytes bw.toArray tw] (assign (.Name "at" _) f.env (.int (k : Int) tk4)); assignInOrder [assign (.Name "word" _) f.env] [.bytes bw.toArray tw]) _ _ _
  refine wBD (wpAny_holding (assign_Name (stN F7 N7 (λ h8 F8 N8 => ?_) S.here.kind n2)))
  show wpAny _ _ (do holding [] (assign (.Name "word" _) f.env (.bytes bw.toArray tw)); assignInOrder [] []) _ _ _
  refine wBD (wpAny_holding (assign_Name (stN F8 N8 (λ h9 F9 N9 => ?_) S.here.kind n3)))
  refine wpAny_pure (q4 _ _ (uo λ Q5 q5 => ?_))
  refine ak λ Q6 q6 => (wpAny_Assign_Subscript ?_)
  refine wpAny_BinOp (name_K F9 S.here.kin (topRead_of S.here.top) hfr ?_ S.here.kind f3 f2)
  refine ld F9 ((if_neg (by decide)).trans (if_pos rfl)) ?_ S.here.kind n2 d2
  refine PyProof.Rows.add_int ?_
  refine ld F9 ((if_neg (by decide)).trans ((if_neg (by decide)).trans hm4)) ?_ S.here.kind n1 d1
  refine ld F9 (if_pos rfl) ?_ S.here.kind n3 d3
  have hst : ∀ u, stored kvs bw (.int (257 + (k : Nat)) u) = kvs ++ [(bw, .int (257 + (k : Nat)) u)] := λ u => by
   unfold stored
   rw [zhC hkv, hnew]; rfl
  refine wpAny_setItem_pairs (knd := bytesKind c.prog c.w) (bytesKind_is _ _ bw tw) (Heap.dictOf_iff.mpr ⟨o, (N9 _ (.tail _ (.tail _ (.head _)))).1, ho4⟩) (λ h10 hm10 hs10 => ?_) (by
   have := zhD hkv
   rw [List.length_take] at this
   exact nLT (nLT (Nat.le_of_eq this) (Nat.min_le_left _ _)) (nLT hk (by decide)))
  refine q6 _ (wpAny_execs_nil (q5 _ _ ?_))
  obtain (⟨o', go', do'⟩) := Heap.dictOf_iff.mp hm10
  rw [hst] at do'
  have ndI : I ≠ d := Nat.ne_of_gt hdI
  have ndI1 : I + 1 ≠ d := Nat.ne_of_gt (Nat.lt_succ_of_lt hdI)
  refine ⟨21 - (k + 1), Nat.sub_lt_sub_left hlt (Nat.lt_succ_self k), k + 1, h10, _, _, .bytes bw.toArray tw, o', _, o', hlt, rfl, F9.change hs10 (Nat.ne_of_gt hL0) (hh0 _ (Nat.le_refl _)), (if_neg (by decide)).trans ((if_neg (by decide)).trans hm4), hs10.extBut _ _ ndI1 (N9 _ (.head _)).1, ⟨oi6, hs10.extBut _ _ ndI (N9 _ (.tail _ (.head _))).1, ci6, di6⟩, λ p hp => ?_, do', ?_, rfl⟩
  ·rcases mCM hp with rfl | hp
   ·exact ⟨go', Nat.ne_of_gt hL0, hh0 _ (Nat.le_refl _)⟩
   ·have z := N9 p (.tail _ (.tail _ (.tail _ hp)))
    exact ⟨hs10.extBut _ _ (Nat.ne_of_lt (hP0 p hp)) z.1, z.2⟩
  ·rw [<- htk]
   have e : (257 + (k : Int)) = 257 + ((zm.take k).length : Nat) := by
    rw [List.length_take, show zm.length = 21 from rfl, Nat.min_eq_left hk]
   rw [e]
   exact zfa hkv
 ·obtain rfl : k = 21 := Nat.le_antisymm hk (Nat.not_lt.mp hlt)
  refine wpAny_pyNext_enum_end (s := { a2.s with heap := h4, toks := tk4 }) S.here.hh he4 hit4 hl4 (by rw [List.getElem?_toArray]; exact List.getElem?_eq_none (Nat.le_of_eq hwl)) λ h5 hx5 => ?_
  have F5 : Fr f.h₀ f.L h5 m4 := ⟨F4.ns.at' λ o e => hx5 _ o (Nat.ne_of_lt hLI) e, λ b x e => hx5 _ x (λ q => by rw [q, hI0 _ (Nat.le_refl _)] at e; cases e) (F4.keep b x e), F4.above⟩
  have N5 : News f.h₀ f.L h5 ((d, o) :: a2.P.news) := λ p hp => by
   have z := N4 p hp
   refine ⟨hx5 _ _ ?_ z.1, z.2⟩
   rcases mCM hp with rfl | hp
   ·exact Nat.ne_of_lt hdI
   ·exact Nat.ne_of_lt (hPI p hp)
  refine q2 _ _ (wpAny_execs_nil (q1 _ ?_))
  refine wpAny_execs_cons (wpAny_Return_some (ld (s := { a2.s with heap := h5, toks := tk4 }) F5 hm4 ?_ S.here.kind n1 d1))
  have fd : d ∉ a2.P.news.map (·.1) := λ q => by
   obtain (⟨p, hp, e⟩) := List.mem_map.mp q
   exact Nat.ne_of_lt (hP0 p hp) e
  have R5 : Rl ⟨c, f⟩ ⟨[], g, m4⟩ ⟨a2.P, a2.to h5 tk4⟩ := ⟨F5, λ p hp => N5 p (.tail _ hp), R.led, R.st, λ i v z e => nomatch e⟩
  exact kq q [] m4 (.ref d) ⟨a2.P.push d o, a2.to h5 tk4⟩ (Rl.push (x := ⟨c, f⟩) R5 fd F5 N5) ⟨vL.push.ext, rfl⟩ (.mk d o ⟨.head _, λ q => fd (R.led.mem _ q)⟩ ⟨kvs, ho4, λ b => zi4 hkv⟩ (beq_eq_false_iff_ne.mpr (Nat.ne_of_gt (Nat.lt_of_lt_of_le (modules_low S.here.top.nolimit) (nLT F5.above (Nat.le_of_lt hL0))))))
end
section
variable (w : World) (loose : List Str) (mean : ExcName -> Option Value) (mg mb : Str -> Option Value)
theorem zkd : ziX (cfgOf w loose mean mg mb) 522 :=
 ⟨⟨_, _, _, _, _, _, _, _, _, _, _, _, _, _, _, λ n => zkZ.getD n ⟨0, 0, 0, 0⟩, rfl, rfl, rfl, rfl, rfl, λ s a b => BindsTo.of_eq rfl⟩⟩
theorem zhF : pL (cfgOf w loose mean mg mb) 238 (fY eZ) 0 :=
 zcA (fn0 (by kernel_rfl) (by kernel_rfl)) ⟨λ n => zi6.getD n ⟨0, 0, 0, 0⟩, by kernel_rfl, by kernel_rfl, by kernel_rfl, by kernel_rfl, by kernel_rfl, by kernel_rfl, by kernel_rfl⟩
theorem zi7 : pL (cfgOf w loose mean mg mb) 503 (fY zda) 2 :=
 zcA (fn2 (x0 := "text") (x1 := "at") (by kernel_rfl) (λ z z => by kernel_rfl)) ⟨_, _, λ n => zkc.getD n ⟨0, 0, 0, 0⟩, by rfl, by kernel_rfl, by kernel_rfl, by kernel_rfl, by kernel_rfl⟩
theorem zku (k : Nat) : PE (cfgOf w loose mean mg mb) TT z8 k :=
 have fx := ze9 w loose mean mg mb
 w_all w loose mean mg mb (dg fx (tV w loose mean mg mb) (iT w loose mean mg mb) (zhF w loose mean mg mb)) (zaJ fx (tV w loose mean mg mb) (iT w loose mean mg mb) (zi7 w loose mean mg mb))
  (zc4 (zkd w loose mean mg mb) (fx.blt "len" (by decide)) (by kernel_rfl) (fx.blt "enumerate" (by decide))) k
theorem zfc (m : Nat) (n : Bool) (k : Nat) (h : (clT k || n) = true) : zeC (cfgOf w loose mean mg mb) z8 (CL m) (65 + 2 * m) n k :=
 zcz (ze9 w loose mean mg mb) (tV w loose mean mg mb) (iT w loose mean mg mb) (zku w loose mean mg mb) (v_all w loose mean mg mb) m n k h
theorem zfd (k : Nat) : rH (cfgOf w loose mean mg mb) z8 k := iu (ze9 w loose mean mg mb) (tV w loose mean mg mb) (iT w loose mean mg mb) (zku w loose mean mg mb) k
end
noncomputable def zdc : List Bs := [[97], [97, 110, 100], [32], [10], [13, 10], [13], [45, 45], [91], [93], [61], [91, 91], [93, 93], [91, 61, 91], [93, 61, 93], [61, 61], [126], [60], [62], [46], [46, 46], [49], [48, 120, 49, 70], [101], [57, 122], [34], [39], [92], [92, 110], [92, 54, 53], [92, 51, 48, 48], [92, 10], [120, 95], [36], [1], [45], [43], [119, 104, 105, 108, 101], [9], [233], [48, 55], [10, 13], [45, 45, 91, 91], [45, 45, 91, 61, 91], [93, 61, 61, 93], [92, 34], [46, 46, 46], [101, 110, 100], [92, 120]]
theorem zfe {bs : List Bs} : ∀ {ws : List Value}, zc7 bs ws = true -> uU ws bs := by
 induction bs with
 | nil =>
  intro ws h
  cases ws with
  | nil => exact .nil
  | cons => exact nomatch h
 | cons b bs ih =>
  intro ws h
  cases ws with
  | nil => exact nomatch h
  | cons w ws =>
   refine a2 h λ h1 h2 => ?_
   cases w with
   | bytes d t =>
    have e : d.toList = b := of_decide_eq_true h1
    rw [<- e]
    exact .cons (b := d.toList) (t := t) (ih h2)
   | _ => exact nomatch h1
section
variable (w : World) (loose : List Str) (mean : ExcName -> Option Value) (mg mb : Str -> Option Value)
theorem pY : (nsIn (hd.heap_1 w.params) mainGlobals "_law_pieces" = some (some (.ref 477))) /\ zju (hd.heap_1 w.params) (("_law_pieces", 477), zdc) = true := ⟨by kernel_rfl, by kernel_rfl⟩
theorem zaK : wQ (cfgOf w loose mean mg mb) 477 where
 name := (pY w).1
 obj := by
  obtain ⟨ws, n, e, r⟩ := zc9 (pY w).2
  exact ⟨ws, n, zdc, λ h X => X _ _ e, zfe r, rfl, by decide +kernel⟩
theorem zi8 : bO (cfgOf w loose mean mg mb) where
 ga := by kernel_rfl
 gt := by kernel_rfl
 mro := by kernel_rfl
 dict := by kernel_rfl
 val := by kernel_rfl
theorem zff : ql (cfgOf w loose mean mg mb) 36 where
 makes := by kernel_rfl
 init := by kernel_rfl
 fn := by kernel_rfl
 setA := ⟨by kernel_rfl, by kernel_rfl, List.map_inj_left.mp (by kernel_rfl : rM.map (λ i => takerIn (cfgOf w loose mean mg mb).K 53 (zf i)) = rM.map λ z => some none), by kernel_rfl⟩
 ex := ⟨_, _, _, _, _, _, _, _, _, _, _, _, _, _, _, [.int 64 210, .int 250 211, .int 60 212, .int 200 213, .int 40 214, .int 200 215, .int 2000 216, .int 50 217, .int 1000000000 218, .int 1000000 219], rfl, rfl, by decide +kernel, rfl, rfl, rfl, by decide +kernel, rfl, by decide +kernel, λ P => ⟨⟨_⟩, ⟨_⟩, ⟨_⟩, ⟨_⟩, ⟨_⟩, ⟨_⟩, ⟨_⟩, ⟨_⟩, ⟨_⟩, ⟨_⟩, rfl⟩, λ s a X => BindsTo.of_defaults (T := 29) rfl (X 29 _ rfl) rfl rfl rfl⟩
theorem zfg : pL (cfgOf w loose mean mg mb) 564 (fY um) 1 :=
 zcA (fn1 (x0 := "number") (by kernel_rfl) (λ z => by kernel_rfl)) ⟨λ n => zkW.getD n ⟨0, 0, 0, 0⟩, by kernel_rfl, by kernel_rfl, by kernel_rfl, by kernel_rfl⟩
theorem zfh : bQ (cfgOf w loose mean mg mb) where
 piece := zaK w loose mean mg mb
 lim := zff w loose mean mg mb
 limN := by kernel_rfl
 limK := by kernel_rfl
 excG := zi8 w loose mean mg mb
 dig := zfg w loose mean mg mb
 digN := by kernel_rfl
 digK := by kernel_rfl
 exc := by kernel_rfl
 excK := by kernel_rfl
 rep := by kernel_rfl
end
end
section
open PyProof.Rows PySem.Builtin PySem.Calls
set_option tactic.hygienic true
noncomputable def zfi : Scope := ⟨.function, yM, false, false, [("fast", .str "script"), ("fast", .str "one"), ("fast", .str "text"), ("fast", .str "due"), ("fast", .str "words"), ("fast", .str "line"), ("fast", .str "found"), ("fast", .str "caught")]⟩
theorem zi9 {w : World} {loose : List Str} {mean : ExcName -> Option Value} {mg mb : Str -> Option Value} (n : Bool) (f : Frm) (hA : f.A₁ = callerA) (below : Below f.A₁ f.base f.outer f.h₀) (kin : (cfgOf w loose mean mg mb).K.In f.h₀) (top : Top vw loose mean mg mb f.h₀) (kind : f.scope.kind = .function) (hns : f.scope.names = yM) :
  StX ⟨cfgOf w loose mean mg mb, f⟩ TT z8 (CL 11) 64 87 n clT := by
 have H : Here (cfgOf w loose mean mg mb) f f.A 88 := ⟨below, kin, top, kind, Around.frames_deeper below.stack, by show (f.A₁.deeper f.env).handled = none; rw [hA]; rfl, by show f.A₁.depth + 1 + 3 * 88 + 10 < recursionLimit; rw [hA]; decide +kernel, by show f.A₁.units + 3 + 12 * 88 + 40 < cLine; rw [hA]; decide +kernel⟩
 exact ⟨⟨H.less (by decide), by show (f.scope.names.map (·.1)).Nodup; rw [hns]; decide +kernel, ze9 w loose mean mg mb, λ k z => zfd w loose mean mg mb k⟩, λ z => by show (f.A₁.deeper f.env).guards = _; rw [hA]; rfl, λ k z => H, λ k h => zfc w loose mean mg mb 11 n k h, tV w loose mean mg mb, iT w loose mean mg mb⟩
theorem zlN {c : Cfg} {f : Frm} {s : Shared} {m : Str -> Option Value} {sc : Addr} (F : Fr f.h₀ f.L s.heap m) (hns : f.scope.names = yM) (hm : m "script" = some (.ref sc)) :
  Rl ⟨c, f⟩ ⟨[some (.list sc), none, none, none, none, none, none], ⟨none, [], λ z => none⟩, m⟩ ⟨⟨[], λ z => False, none⟩, s⟩ := by
 refine ⟨F, λ p hp => (nomatch hp), ⟨List.nodup_nil, λ a q => q.elim⟩, ⟨λ fs e => (nomatch e), λ a vs e => (nomatch e), λ z => rfl⟩, λ i v x e hz => ?_⟩
 have hz : yj f.scope.names i = some (x, .local) := hz
 rw [hns] at hz
 match i, e with
 | 0, e => cases e; cases hz; exact ⟨_, hm, rfl⟩
 | 1, e => cases e
 | 2, e => cases e
 | 3, e => cases e
 | 4, e => cases e
 | 5, e => cases e
 | 6, e => cases e
 | i + 7, e => cases e
set_option maxHeartbeats 4000000 in
theorem law_holds : PySem.Challenge.rw_pc0173_01.Holds := by
 refine Mine.hd ⟨Mine.left_by (Mine.look_cut 187 Mine.look_a Mine.look_b), ?_⟩
 intro w s₀ s₁ mg mb G Y fa o pm cd doc dV kV ho hd' hcd hD hmg hg args vals as hpre hlay hrd hwl hlo
 have KX := kIn_of Y
 have X := (Ground.X G).1
 have V := (Ground.X G).2
 refine Ground.open G ?_
 intro T B D TE TW
 clear D TE TW
 clear hmg
 wrow_args hpre hlay hrd hwl hlo
 rename_i ks hs1 hlay0 hL1 hr1 hl2 as4 as3 sc vs asx hL ra w1 r0 hI hr hc1 hc2
 have he := Dflts.none hD rfl
 subst he
 show wpX true _ _ (call (.ref fa) [.ref sc]) _ _ _
 refine xg ?_
 refine nT (by decide +kernel) ho hd' rfl rfl rfl hcd ?_
 refine BindsTo.of_eq (binds := [(("script" : Str), Value.ref sc)]) ?_ _ _ _ _ ?_
 ·rfl
 refine wpAny_newFunctionEnv ?_ (locs rfl) (λ h₁ hns hsb => ⟨(Top.nolimit T).fresh _ hsb, nR ?_⟩) rfl
 ·show ∀ x ∈ yM, x.2 ≠ NameKind.cell
  decide +kernel
 have hk₁ : ∀ b o, s₁.heap.get? b = some o -> h₁.get? b = some o := λ b o e => hsb.extBut b o (Nat.ne_of_lt (Heap.lt_size e)) (Heap.get?_push_of_some _ e)
 have F : Fr s₁.heap s₁.heap.objs.size h₁ (λ y => [(("script" : Str), Value.ref sc)].reverse.lookup y) := ⟨hns, hk₁, Nat.le_refl _⟩
 have hzz : vs.toArray.size <= sizeLine := by
  rw [List.size_toArray, hI.length]
  have h63 : ks.length <= 63 := by
   clear hns hsb hk₁ F
   omega
  exact nLT h63 (by decide)
 have SG := λ n => zi9 (w := w) (mg := mg) (mb := mb) n ⟨callerA, s₁.heap, s₁.heap, [], "law", zfi, s₁.heap.objs.size, fa, cd⟩ rfl (below_caller _) KX T rfl rfl
 refine zP (zeS (m := 0) (k' := 0) (d := ⟨⟨[], λ z => False, none⟩, { s₁ with heap := h₁, toks := _ }⟩) (SG false) (SG true) (zfh w _ _ mg mb) rfl rfl (by show callerA.units + 3 + 8 < cLine; decide +kernel) (Ec := λ z z => False) (zlN (sc := sc) F rfl rfl) rfl hL (by simpa using hI) hzz rfl rfl (by decide +kernel) (by decide +kernel)) (λ fl s' hs' => ?_) λ z z x => x.elim
 obtain (⟨rfl, h, tk, m', rfl, F'⟩) := hs'
 refine ⟨.inl ⟨.bool true, ofPy (.bool true), [], rfl, ?_, ?_, ?_, ?_⟩, OldK.of_keep F'.keep, rfl, AllBare.of_eq hg⟩
 ·exact raisesW_false (by wrow_none_raised)
 ·exact readsW_of_reads (.bool true)
 ·exact postW_of (by wrow_shape) (by wtm_val) (by w_fin)
 ·exact unshared_nil
end
end Mine
theorem PySem.Challenge.cw_pc0173_01_holds : PySem.Challenge.rw_pc0173_01.Holds :=
  Mine.law_holds
