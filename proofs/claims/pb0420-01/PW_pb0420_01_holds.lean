import PyProof.Rows.All
import Wide.All
import OpenK.AllK
import Wide.FinOn
import KE.KDictOf
import PyProof.AttrMissHeap
import KE.KDictList
import PyProof.ExcBaseAll.Exception
import Lean
import PySem.Challenge.RW_pb0420_01
set_option Elab.async false
set_option compiler.extract_closed false
set_option linter.unusedVariables false
set_option maxRecDepth 100000
set_option maxHeartbeats 8000000
namespace Mine
section HdNPart
open PySem PySem.W PyProof.Rows
abbrev pw := PySem.Challenge.pw_pb0420_01
def vw : Program := PySem.W.view pw [0, 2, 3, 5, 6, 7, 8, 9, 10, 11, 12, 13, 14, 15, 16, 17, 18, 19, 21, 23, 25, 26, 27, 28, 29, 30, 31, 32]
noncomputable def runG (stp : SharedT → Thread → Option (SharedT × Thread)) (ok : Thread → Bool) : Nat → SharedT → Thread → Option SharedT
  | 0, _, _ => none
  | n + 1, s, t => match through t with
    | true => some s
    | false => match ok t with
      | false => none
      | true => match stp s t with
        | some (s', t') => runG stp ok n s' t'
        | none => none
theorem runG_of {tb : String → Option Builtin} {p : Program} {w : World} {n₀ : Nat} {ann : Option Value} : ∀ {n : Nat} {s s' : SharedT} {t : Thread}, runG (stepT (denote tb) p w) (stepOk n₀ ann) n s t = some s' → topRun tb p w n₀ ann n s.abs t = some s'.abs
  | 0, _, _, _, h => by cases h
  | n + 1, s, s', t, h => by
    unfold runG at h
    unfold topRun
    cases he : through t with
    | true => rw [he] at h; cases h; rfl
    | false =>
      rw [he] at h
      cases hk : stepOk n₀ ann t with
      | false => rw [hk] at h; cases h
      | true =>
        rw [hk] at h
        cases hs : stepT (denote tb) p w s t with
        | none => rw [hs] at h; cases h
        | some r => obtain ⟨s₂, t₂⟩ := r; rw [hs] at h; rw [stepT_spec hs]; exact runG_of h
noncomputable def bootT (P : Params) : BT := (List.range 11).foldl (fun t i => t.ins i (((boot_heap P).objs.toList)[i]?.getD default)) BT.nil
theorem boot_abs : ∀ P, absHeap (bootT P) 11 {} = boot_heap P := by intro P; kernel_rfl
theorem left_of {p q : Program} {loose : List Str} {Xt : Shared → Bool} {α : Type} {Yf : Shared → α} {Ya : World → α} {N M : Nat}
    (open_ : ∀ w : World, (fencedOpening treeTable p w N).map (fun s => (s.heap, s.gens, s.drawn, s.toks)) = some (boot_heap w.params, Array.mk [], boot_drawn, boot_toks)) (le : Nat.ble M N = true)
    (size : ∀ P : Params, ((boot_heap P).isNs mainGlobals, (boot_heap P).objs.size, (boot_heap P).nsMap mainGlobals "__annotations__") = (true, 11, some (.ref 6)))
    (run2 : ∀ (w : World) (os : OsState), (runG (stepT (denote treeTable) p w) (stepOk 11 (some (.ref 6))) M ⟨bootT w.params, 11, {}, Array.mk [], boot_drawn, boot_toks, os⟩ (topStub p)).map (fun s => openSeen q loose (importedModules p.main.body) Xt true s.abs) = some (openGood q loose))
    (run1 : ∀ (w : World) (os : OsState), (runG (stepT (denote treeTable) p w) (stepOk 11 (some (.ref 6))) M ⟨bootT w.params, 11, {}, Array.mk [], boot_drawn, boot_toks, os⟩ (topStub p)).map (fun s => (staticsOk (importedModules p.main.body) (boot_heap w.params) s.abs.heap && namesBound p s.abs.heap && gensDone s.abs && laidKept (boot_heap w.params) s.abs.heap, Yf s.abs)) = some (true, Ya w)) :
    LeftO p q loose Xt Yf Ya N := fun w => by
  obtain ⟨⟨h, gs, d, k, os⟩, e, e'⟩ := Option.map_eq_some_iff.mp (open_ w)
  obtain ⟨rfl, rfl, rfl, rfl⟩ : h = boot_heap w.params ∧ gs = Array.mk [] ∧ d = boot_drawn ∧ k = boot_toks := by simpa using e'
  obtain ⟨z1, z2, z3⟩ : _ ∧ _ ∧ _ := by simpa only [Prod.mk.injEq] using size w.params
  obtain ⟨s₁, r, l⟩ := Option.map_eq_some_iff.mp (run1 w os)
  obtain ⟨l1, l3⟩ : _ ∧ _ := by simpa only [Prod.mk.injEq] using l
  obtain ⟨s₂, r2, l2⟩ := Option.map_eq_some_iff.mp (run2 w os)
  obtain rfl : s₁ = s₂ := Option.some.inj (r.symm.trans r2)
  have r := runG_of r
  rw [show SharedT.abs ⟨bootT w.params, 11, {}, Array.mk [], boot_drawn, boot_toks, os⟩ = ⟨boot_heap w.params, Array.mk [], boot_drawn, boot_toks, os⟩ from by unfold SharedT.abs; rw [boot_abs]] at r
  have r := topRun_mono (N - M) _ _ _ _ r
  rw [show M + (N - M) = N by have := Nat.le_of_ble_eq_true le; omega] at r
  have t : topFrom treeTable p w N ⟨boot_heap w.params, Array.mk [], boot_drawn, boot_toks, os⟩ = some s₁.abs := by
    unfold topFrom
    try dsimp only
    rw [z1, z2, z3, r]
    show (match staticsOk (importedModules p.main.body) (boot_heap w.params) s₁.abs.heap && namesBound p s₁.abs.heap && gensDone s₁.abs && laidKept (boot_heap w.params) s₁.abs.heap with | true => _ | false => _) = _
    rw [l1]
  unfold openEnds
  rw [e]
  show (topFrom treeTable p w N _).map _ = _
  rw [t]
  exact congrArg some (Prod.ext l2 l3)
theorem size_ok : ∀ P : Params, ((boot_heap P).isNs mainGlobals, (boot_heap P).objs.size, (boot_heap P).nsMap mainGlobals "__annotations__") = (true, 11, some (.ref 6)) := by intro P; kernel_rfl
theorem open_ok : ∀ w : World, (fencedOpening treeTable pw w 6502).map (fun s => (s.heap, s.gens, s.drawn, s.toks)) = some (boot_heap w.params, Array.mk [], boot_drawn, boot_toks) :=
  boot_open (by kernel_rfl) (by decide) (fun s => by kernel_rfl)
abbrev lse : List Str := [Str.ofString "MintError", Str.ofString "evaluate"]
/-- an object of the tree's heap, looked up in the tree -/
noncomputable def getT (s : SharedT) (a : Addr) : Option Obj := match a.blt s.n with
  | true => match s.tree.get a with
    | some o => alive o
    | none => alive default
  | false => none
theorem getT_eq (s : SharedT) (a : Addr) : s.abs.heap.get? a = getT s a := by
  unfold getT
  by_cases h : a < s.n
  · rw [show a.blt s.n = true from Nat.ble_eq_true_of_le h]
    show Heap.get? (absHeap s.tree s.n s.life) a = _
    cases g : s.tree.get a with
    | some o => exact abs_get h g
    | none =>
      unfold Heap.get?
      rw [absHeap_at, if_pos h, g]
      rfl
  · rw [show a.blt s.n = false from by rw [← Bool.not_eq_true]; exact fun e => h (Nat.le_of_ble_eq_true e)]
    exact abs_get_none h
theorem obs_run {K : Params → Frag} {as : List Addr} {e : ∀ P, as = (K P).map (·.1)} {R : Option SharedT} {F : SharedT → Bool} {w : World} (h : R.map (fun s => (F s, as.map (getT s))) = some (true, (K w.params).map fun p => some p.2)) :
    R.map (fun s => (F s, (kHook K as e).obs s.abs)) = some (true, (kHook K as e).val w) := by
  have : (fun s : SharedT => (F s, (kHook K as e).obs s.abs)) = fun s => (F s, as.map (getT s)) := by
    funext s
    exact congrArg (Prod.mk (F s)) (List.map_congr_left fun a _ => getT_eq s a)
  rw [this]
  exact h
theorem run_seen (w : World) (os : OsState) : (runG (stepT (denote treeTable) pw w) (stepOk 11 (some (.ref 6))) 3300 ⟨bootT w.params, 11, {}, Array.mk [], boot_drawn, boot_toks, os⟩ (topStub pw)).map (fun s => openSeen vw lse (importedModules pw.main.body) (fun s => xlAt vw [] s && recOk (RowW.records (OpenRow.toRowW (OpenLaw.row PySem.Challenge.rw_pb0420_01))) s) true s.abs) = some (openGood vw lse) := by
  rw [PySem.W.Fast.te10156331382660048174, PySem.W.Fast.te11892475500146522536, PySem.W.Fast.te6613529449190102663, PySem.W.Fast.te14364793385576792824, PySem.W.Fast.te4187177175401517315]; kernel_rfl
theorem law_said : OpenLaw.wellSaid PySem.Challenge.rw_pb0420_01 = true := (congrFun PySem.W.Fast.te9446332074065402090 _).trans (by kernel_rfl)
local macro_rules | `(tactic| o_law) => `(tactic| refine holds_law law_said fun said => ?_)
local macro_rules | `(tactic| o_head $H) => `(tactic| (refine' holds_open (q := vw) (loose := lse) (Xt := fun s => xlAt vw [] s && recOk (RowW.records (OpenRow.toRowW (OpenLaw.row PySem.Challenge.rw_pb0420_01))) s) (XP := XL vw []) (Yf := Hook.obs $H) (Ya := Hook.val $H) (YP := Hook.says $H) (N := 6502) (by exact left_of (M := 3300) open_ok (by decide) size_ok run_seen (by rw [PySem.W.Fast.te10156331382660048174, PySem.W.Fast.te11892475500146522536, PySem.W.Fast.te6613529449190102663, PySem.W.Fast.te14364793385576792824]; intro w os; refine obs_run ?_; kernel_rfl)) (Hook.of $H) (Hook.keeps $H) (fun s e => xl_of s (Bool.and_eq_true_iff.mp e).1) XL.keeps (by rfl) (by rfl) (by rfl) (fun s e => recFacts_of (Bool.and_eq_true_iff.mp e).2) (by rfl) (by first | assumption | decide +kernel) (by decide +kernel) ⟨rfl, rfl, rfl, rfl, rfl, by decide +kernel⟩ ?hw ?hc))
open_top hd for PySem.Challenge.rw_pb0420_01
theorem walkOff : True := by w_top off; trivial

end HdNPart
section CorePart
open PySem PySem.W PyProof.Rows PySem.Calls
theorem news_sub {h₀ h : Heap} {L : Addr} {l l' : List (Addr × Obj)} (N : News h₀ L h l) (hs : ∀ p ∈ l', p ∈ l) : News h₀ L h l' := fun p hp => N p (hs p hp)
theorem newsA {h₀ h : Heap} {L : Addr} {D P r : List (Addr × Obj)} (N : News h₀ L h (D ++ (P ++ r))) : News h₀ L h ((D ++ P) ++ r) := by rw [List.append_assoc]; exact N
theorem fmod_pos_lt {a M : Int} (hM : 0 < M) : Int.fmod a M < M := by rw [Int.fmod_eq_emod_of_nonneg _ (Int.le_of_lt hM)]; exact Int.emod_lt_of_pos _ hM
theorem fmod_pos_nonneg {a M : Int} (hM : 0 < M) : 0 ≤ Int.fmod a M := by rw [Int.fmod_eq_emod_of_nonneg _ (Int.le_of_lt hM)]; exact Int.emod_nonneg _ (Int.ne_of_gt hM)
theorem allLt_ne {d : Nat} : ∀ {l : List (Addr × Obj)}, AllLt d l → ∀ p ∈ l, p.1 ≠ d
  | [], _, _, hp => (nomatch hp)
  | q :: r, h, p, hp => by
    rcases List.mem_cons.mp hp with rfl | hp
    · exact Nat.ne_of_lt h.1
    · exact allLt_ne h.2 p hp
/-- where the walk is to halt -/
noncomputable def Stop (p : Prop) : Prop := p
theorem stop_out {p : Prop} (h : Stop p) : p := h
theorem stop_in {p : Prop} (h : p) : Stop p := h
/-- the walker's line at the named keys: halt -/
def stopAt (keys : List String) (k : Lean.TSyntax `str) : Lean.MacroM Lean.Syntax := do
  if keys.contains k.getString then return (← `(tactic| refine stop_out ?_)).raw else Lean.Macro.throwUnsupported
/-- the walker's keys for an item at a number -/
def isItem (s : String) : Bool := s == "subscriptTail" || (s.startsWith "subscriptTail " && s.endsWith " ref int")
/-- the functions that have a contract -/
noncomputable def ownFns : List Nat := [59, 200, 222, 229, 243, 250, 260, 269, 298, 305, 340, 347, 355, 362, 367, 375, 382, 389, 396, 403, 408]
theorem stop_call {M : Model} {A : Around} {E : Value → Shared → Prop} {s : Shared} {n : Nat} {args : List Value} {kw : List (Str × Value)} {Q : Value → Shared → Prop} (_hn : ownFns.contains n = true) (h : Stop (wpAny M A (call (.ref n) args kw) Q E s)) : wpAny M A (call (.ref n) args kw) Q E s := h
/-- the ledger without one entry -/
inductive Rem (c : Addr) (o : Obj) : List (Addr × Obj) → List (Addr × Obj) → Prop
  | head {r} : (∀ p ∈ r, p.1 ≠ c) → Rem c o ((c, o) :: r) r
  | tail {p r r'} : p.1 ≠ c → Rem c o r r' → Rem c o (p :: r) (p :: r')
  | app {D r r'} : (∀ p ∈ D, p.1 ≠ c) → Rem c o r r' → Rem c o (D ++ r) (D ++ r')
theorem Rem.mem {c : Addr} {o : Obj} {l r : List (Addr × Obj)} (R : Rem c o l r) : ∀ p, p ∈ l ↔ p = (c, o) ∨ p ∈ r := by
  induction R with
  | head _ => intro p; simp
  | tail _ _ ih => intro p; simp only [List.mem_cons, ih p]; constructor <;> (intro h; rcases h with h | h | h <;> simp [h])
  | app _ _ ih => intro p; simp only [List.mem_append, ih p]; constructor <;> (intro h; rcases h with h | h | h <;> simp [h])
theorem Rem.off {c : Addr} {o : Obj} {l r : List (Addr × Obj)} (R : Rem c o l r) : ∀ p ∈ r, p.1 ≠ c := by
  induction R with
  | head h => exact h
  | tail h _ ih => intro p hp; rcases List.mem_cons.mp hp with rfl | hp; exact h; exact ih p hp
  | app h _ ih => intro p hp; rcases List.mem_append.mp hp with hp | hp; exact h p hp; exact ih p hp
theorem Rem.news {c : Addr} {o : Obj} {l r : List (Addr × Obj)} {h₀ h : Heap} {L : Addr} (R : Rem c o l r) (N : News h₀ L h l) : News h₀ L h ((c, o) :: r) := fun p hp => N p ((R.mem p).mpr (List.mem_cons.mp hp))
theorem Upd.app {d : Addr} {o o' : Obj} {D r r' : List (Addr × Obj)} (h : ∀ p ∈ D, p.1 ≠ d) (U : Upd d o o' r r') : Upd d o o' (D ++ r) (D ++ r') := by
  induction D with
  | nil => exact U
  | cons p D ih => exact Upd.tail (h p (.head _)) (ih fun q hq => h q (.tail _ hq))
/-- made later than all of the ledger -/
noncomputable def Later (D news : List (Addr × Obj)) : Prop := ∀ p ∈ D, ∀ b ∈ news.map (·.1), b ≠ p.1
theorem Later.ne {D news : List (Addr × Obj)} (h : Later D news) {c : Addr} {o : Obj} (hc : (c, o) ∈ news) : ∀ p ∈ D, p.1 ≠ c := fun p hp => (h p hp _ (List.mem_map_of_mem hc)).symm
theorem Later.nil {news : List (Addr × Obj)} : Later [] news := fun _ h => (nomatch h)
theorem Later.cons {D news : List (Addr × Obj)} {x : Addr} {o : Obj} (h : ∀ b ∈ news.map (·.1), @LT.lt Nat _ b x) (k : Later D news) : Later ((x, o) :: D) news := fun p hp b hb => by
  rcases List.mem_cons.mp hp with rfl | hp
  · exact Nat.ne_of_lt (h b hb)
  · exact k p hp b hb
theorem Later.consN {D news : List (Addr × Obj)} {x : Addr} {o : Obj} (h : ∀ p ∈ news, p.1 ≠ x) (k : Later D news) : Later ((x, o) :: D) news := fun p hp b hb => by
  rcases List.mem_cons.mp hp with rfl | hp
  · obtain ⟨q, hq, rfl⟩ := List.mem_map.mp hb
    exact h q hq
  · exact k p hp b hb
theorem Later.app {D D' news : List (Addr × Obj)} (h : Later D news) (k : Later D' news) : Later (D ++ D') news := fun p hp b hb => (List.mem_append.mp hp).elim (fun z => h p z b hb) fun z => k p z b hb
theorem Later.weak {D news news' : List (Addr × Obj)} (h : Later D news) (s : ∀ b ∈ news'.map (·.1), b ∈ news.map (·.1)) : Later D news' := fun p hp b hb => h p hp b (s b hb)
theorem allLt_all {d : Nat} : ∀ {l : List (Addr × Obj)}, AllLt d l → ∀ b ∈ l.map (·.1), @LT.lt Nat _ b d
  | [], _, _, hp => (nomatch hp)
  | q :: r, h, b, hp => by
    rcases List.mem_cons.mp hp with rfl | hp
    · exact h.1
    · exact allLt_all h.2 b hp
theorem allLt_app {d : Nat} : ∀ {l l' : List (Addr × Obj)}, AllLt d (l ++ l') → AllLt d l ∧ AllLt d l'
  | [], _, h => ⟨trivial, h⟩
  | _ :: _, _, h => let ⟨a, b⟩ := allLt_app h.2; ⟨⟨h.1, a⟩, b⟩
theorem lt_via {D : List (Addr × Obj)} {d x b : Addr} (hb : b ∈ D.map (·.1)) (h : ∀ p ∈ D, p.1 < d) (k : @LE.le Nat _ d x) : @LT.lt Nat _ b x := by
  obtain ⟨q, hq, rfl⟩ := List.mem_map.mp hb
  exact Nat.lt_of_lt_of_le (h q hq) k
theorem lt_via' {D : List (Addr × Obj)} {d x b : Addr} (h : ∀ p ∈ D, p.1 < d) (k : @LE.le Nat _ d x) (hb : b ∈ D.map (·.1)) : @LT.lt Nat _ b x := lt_via hb h k
theorem lt_via2 {c : Prop} {D : List (Addr × Obj)} {d x b : Addr} (h : c ∧ AllLt d D) (k : @LE.le Nat _ d x) (hb : b ∈ D.map (·.1)) : @LT.lt Nat _ b x := Nat.lt_of_lt_of_le (allLt_all h.2 b hb) k
abbrev tupO (vs : List Value) : Obj := { cls := .type "tuple", data := .seq vs.toArray }

theorem news_swap {h₀ h : Heap} {L : Addr} {x y : Addr × Obj} {r : List (Addr × Obj)} (N : News h₀ L h (x :: y :: r)) : News h₀ L h (y :: ([x] ++ r)) :=
  news_sub N fun p hp => by
    rcases List.mem_cons.mp hp with rfl | hp
    · exact .tail _ (.head _)
    · rcases List.mem_cons.mp hp with rfl | hp
      · exact .head _
      · exact .tail _ (.tail _ hp)
theorem pull1 {h₀ h : Heap} {L : Addr} {x y : Addr × Obj} {r : List (Addr × Obj)} (N : News h₀ L h (x :: y :: r)) : News h₀ L h (y :: x :: r) :=
  news_sub N fun p hp => by simp only [List.mem_cons] at hp ⊢; rcases hp with h | h | h <;> simp [h]
theorem pullApp {h₀ h : Heap} {L : Addr} {x c y : Addr × Obj} {D D' fro : List (Addr × Obj)} (N : News h₀ L h (x :: c :: (D ++ y :: (D' ++ fro)))) : News h₀ L h (c :: ((x :: (D ++ y :: D')) ++ fro)) :=
  news_sub N fun p hp => by simp only [List.mem_cons, List.mem_append, List.cons_append, List.append_assoc] at hp ⊢; grind
theorem app3 {h₀ h : Heap} {L : Addr} {x y : Addr × Obj} {D D' fro : List (Addr × Obj)} (N : News h₀ L h (x :: y :: (D ++ (D' ++ fro)))) : News h₀ L h ((x :: y :: (D ++ D')) ++ fro) := by
  simpa only [List.cons_append, List.append_assoc] using N
theorem news_copy {h₀ h : Heap} {L : Addr} {x : Addr × Obj} {r : List (Addr × Obj)} (N : News h₀ L h r) (hx : x ∈ r) : News h₀ L h (x :: r) :=
  news_sub N fun p hp => (List.mem_cons.mp hp).elim (fun e => e ▸ hx) id
theorem pull3 {h₀ h : Heap} {L : Addr} {a b c y : Addr × Obj} {r : List (Addr × Obj)} (N : News h₀ L h (a :: b :: c :: y :: r)) : News h₀ L h (y :: ([a, b, c] ++ r)) :=
  news_sub N fun p hp => by simp only [List.mem_cons, List.cons_append, List.nil_append] at hp ⊢; rcases hp with h | h | h | h | h <;> simp [h]
theorem pullD {h₀ h : Heap} {L : Addr} {a y : Addr × Obj} {D3 D2 D1 r : List (Addr × Obj)} (N : News h₀ L h (D3 ++ a :: y :: (D2 ++ (D1 ++ r)))) : News h₀ L h (y :: ((D3 ++ (a :: (D2 ++ D1))) ++ r)) :=
  news_sub N fun p hp => by simp only [List.mem_cons, List.mem_append] at hp ⊢; grind
theorem pullN {h₀ h : Heap} {L : Addr} {y : Addr × Obj} {P D2 D1 r : List (Addr × Obj)} (N : News h₀ L h (P ++ y :: (D2 ++ (D1 ++ r)))) : News h₀ L h (y :: ((P ++ (D2 ++ D1)) ++ r)) :=
  news_sub N fun p hp => by simp only [List.mem_cons, List.mem_append] at hp ⊢; grind
inductive Op where
  | add | sub | mul
  deriving DecidableEq
noncomputable def Op.str : Op → Str
  | .add => Str.ofString "+"
  | .sub => Str.ofString "-"
  | .mul => Str.ofString "*"
section
variable {prog : Program} {w : World} {A : Around} {E : Value → Shared → Prop} {s : Shared} {x y : Str} {t u : Tok} {Q : Value → Shared → Prop}
theorem eq_strF (hne : x ≠ y) (h : Q (.bool false) s) : wpAny (model prog w) A (compareOp .Eq (.str x t) (.str y u)) Q E s :=
  PyProof.Rows.eq_str (by rw [beq_eq_false_iff_ne.mpr hne]; exact h)
theorem eq_strT (he : x = y) (h : Q (.bool true) s) : wpAny (model prog w) A (compareOp .Eq (.str x t) (.str y u)) Q E s :=
  PyProof.Rows.eq_str (by rw [beq_iff_eq.mpr he]; exact h)
end
theorem item_tup {prog : Program} {w : World} {A : Around} {E : Value → Shared → Prop} {s : Shared} {h₀ : Heap} {L : Addr} {news : List (Addr × Obj)} {value slice : PySem.Expr} {t : Addr} {vs : List Value} {k : Int} {u : Tok} {j : Nat} {v : Value} {Q : Value → Shared → Prop}
    (N : News h₀ L s.heap news) (ht : (t, tupO vs) ∈ news) (hlo : -(2 ^ 63) ≤ k) (hhi : k < 2 ^ 63) (hj : seqIndex? k vs.length = some j) (hx : vs[j]? = some v) (h : Q v s)
    (hs : subscripted slice false (.ref t) (.int k u) = operate [.ref t, .int k u] (getItem (.ref t) (.int k u)) := by with_unfolding_all rfl) :
    wpAny (model prog w) A (subscriptTail value slice (.ref t) (.int k u)) Q E s := item_tupleT ⟨_, (N _ ht).1, rfl, _, rfl⟩ hlo hhi hj hx h hs
theorem ne_lt {l : List (Addr × Obj)} {d : Addr} (h : ∀ q ∈ l, q.1 < d) : ∀ q ∈ l, q.1 ≠ d := fun q hq => Nat.ne_of_lt (h q hq)
theorem tup_not_list {a b : Addr} {vs : List Value} {us : Array Value} {n : Nat} (h : ((a, tupO vs) : Addr × Obj) = (b, listOf us n)) : False := by
  have := congrArg (fun p : Addr × Obj => p.2.cls) h
  simp at this
theorem sub_refl {α : Type} (l : List α) : ∀ p ∈ l, p ∈ l := fun _ h => h
theorem sub_tail {α : Type} {D r : List α} {x : α} (h : ∀ p ∈ D, p ∈ r) : ∀ p ∈ D, p ∈ x :: r := fun p hp => .tail _ (h p hp)
theorem sub_right {α : Type} {D l r : List α} (h : ∀ p ∈ D, p ∈ r) : ∀ p ∈ D, p ∈ l ++ r := fun p hp => List.mem_append_right _ (h p hp)
theorem sub_left {α : Type} {D l r : List α} (h : ∀ p ∈ D, p ∈ l) : ∀ p ∈ D, p ∈ l ++ r := fun p hp => List.mem_append_left _ (h p hp)
theorem op_num (o : Op) : o.str ≠ Str.ofString "number" := by cases o <;> decide
theorem op_name (o : Op) : o.str ≠ Str.ofString "name" := by cases o <;> decide
theorem op_con (o : Op) : o.str ≠ Str.ofString "contrary" := by cases o <;> decide
inductive Tr where
  | num (i : Int)
  | nam (x : Str)
  | neg (t : Tr)
  | bin (o : Op) (l r : Tr)
inductive TIn (fro : List (Addr × Obj)) : Value → Tr → Prop
  | num {a k i t} : (a, tupO [.str (Str.ofString "number") k, .int i t]) ∈ fro → TIn fro (.ref a) (.num i)
  | nam {a k x t} : (a, tupO [.str (Str.ofString "name") k, .str x t]) ∈ fro → TIn fro (.ref a) (.nam x)
  | neg {a k v t} : (a, tupO [.str (Str.ofString "contrary") k, v]) ∈ fro → TIn fro v t → TIn fro (.ref a) (.neg t)
  | bin {a k v u l r} (o : Op) : (a, tupO [.str o.str k, v, u]) ∈ fro → TIn fro v l → TIn fro u r → TIn fro (.ref a) (.bin o l r)
theorem TIn.mono {f g : List (Addr × Obj)} {v : Value} {t : Tr} (h : TIn f v t) (s : ∀ p ∈ f, p ∈ g) : TIn g v t := by
  induction h with
  | num h => exact .num (s _ h)
  | nam h => exact .nam (s _ h)
  | neg h _ ih => exact .neg (s _ h) ih
  | bin o h _ _ i1 i2 => exact .bin o (s _ h) i1 i2
noncomputable def eqName (k : Int) : Str := Str.ofString "equate" ++ Str.ofString (toString k)
noncomputable def isLabel (x : Str) : Prop := x = Str.ofString "north" ∨ x = Str.ofString "south" ∨ x = Str.ofString "east"
noncomputable def Tr.ok (M : Int) : Nat → Tr → Prop
  | _, .num i => 0 ≤ i ∧ i < 90
  | _, .nam x => isLabel x ∨ ∃ k : Int, 0 ≤ k ∧ k < M ∧ x = eqName k
  | 0, .neg _ => False
  | 0, .bin .. => False
  | d + 1, .neg t => t.ok M d
  | d + 1, .bin _ l r => l.ok M d ∧ r.ok M d
theorem rm0 {d k n : Nat} (h : d + k < n) : d < n := Nat.lt_of_le_of_lt (Nat.le_add_right d k) h
theorem rm1 {d a k n : Nat} (h : d + k < n) (e : Nat.ble a k = true) : d + a < n := Nat.lt_of_le_of_lt (Nat.add_le_add_left (Nat.le_of_ble_eq_true e) d) h
theorem rm2 {d a b k n : Nat} (h : d + k < n) (e : Nat.ble (a + b) k = true) : d + a + b < n := by rw [Nat.add_assoc]; exact rm1 h e
theorem rmx {d x k n : Nat} (h : d + x + k < n) : d + k < n := Nat.lt_of_le_of_lt (Nat.add_le_add_right (Nat.le_add_right d x) k) h
theorem rm3 {d a b c k n : Nat} (h : d + k < n) (e : Nat.ble (a + b + c) k = true) : d + a + b + c < n := by rw [Nat.add_assoc d, Nat.add_assoc d]; exact rm1 h e
/-- what stands behind a statement -/
noncomputable def nxt (M : Model) (A : Around) (E : Value → Shared → Prop) (env : Env) (rest : List Stmt) (Q : Flow → Shared → Prop) (f : Flow) (s : Shared) : Prop := match f with
  | .next => wpAny M A (execs rest env) Q E s
  | f => Q f s
theorem execs_norm {M : Model} {A : Around} {E : Value → Shared → Prop} {s₀ : Shared} {h : Heap} {t : Nat} {env : Env} {st : Stmt} {rest : List Stmt} {Q : Flow → Shared → Prop}
    (k : ∀ tk, let Q' := nxt M A E env rest Q; wpAny M A (exec st env) Q' E { s₀ with heap := h, toks := tk }) : wpAny M A (execs (st :: rest) env) Q E { s₀ with heap := h, toks := t } :=
  wpAny_execs_cons (k t)
section
variable {M : Model} {A : Around} {E : Value → Shared → Prop} {env : Env} {rest : List Stmt} {Q : Flow → Shared → Prop}
theorem nxt_next {s : Shared} {h : Heap} {t : Nat} (k : wpAny M A (execs rest env) Q E { s with heap := h, toks := t }) : nxt M A E env rest Q .next { s with heap := h, toks := t } := k
theorem nxt_ret {v : Value} {s : Shared} (k : Q (.ret v) s) : nxt M A E env rest Q (.ret v) s := k
theorem nxt_brk {s : Shared} (k : Q .brk s) : nxt M A E env rest Q .brk s := k
theorem nxt_cont {s : Shared} (k : Q .cont s) : nxt M A E env rest Q .cont s := k
end

end CorePart
open PySem PySem.W PyProof.Rows PySem.Calls
local macro_rules | `(tactic| walk_at "execs cons") => do let qk := Lean.mkIdent `qk; `(tactic| (refine execs_norm ?_; intro tk9 $qk:ident))
local macro_rules | `(tactic| walk_at "nxt") => `(tactic| (with_reducible first | refine nxt_next ?_ | refine nxt_ret ?_ | refine nxt_brk ?_ | refine nxt_cont ?_))
local macro_rules | `(tactic| kse_step) => `(tactic| with_reducible first | assumption | exact And.left (by first | assumption | exact And.right (by first | assumption | exact And.right (by first | assumption | exact And.right (by first | assumption | exact And.right (by first | assumption | exact And.right (by first | assumption | exact And.right (by first | assumption | exact And.right (by first | assumption | exact And.right (by first | assumption | exact And.right (by first | assumption | exact And.right (by first | assumption | exact And.right (by first | assumption | exact And.right (by first | assumption | exact And.right (by first | assumption)))))))))))))) | exact And.right (by first | assumption | exact And.right (by first | assumption | exact And.right (by first | assumption | exact And.right (by first | assumption | exact And.right (by first | assumption | exact And.right (by first | assumption | exact And.right (by first | assumption | exact And.right (by first | assumption | exact And.right (by first | assumption | exact And.right (by first | assumption | exact And.right (by first | assumption | exact And.right (by first | assumption)))))))))))))
local macro_rules | `(tactic| omega) => `(tactic| first | with_reducible assumption | exact Nat.le_refl _ | exact Nat.le_of_ble_eq_true rfl | exact rm2 (by with_reducible assumption) rfl | exact rm1 (by with_reducible assumption) rfl | exact rm0 (by with_reducible assumption) | exact rm3 (by with_reducible assumption) rfl | kse_step | exact Nat.le_of_lt (by kse_step) | (exact Nat.ne_of_lt (by kse_step)) | (exact Nat.ne_of_gt (by kse_step)) | ((repeat (rename _ < _ ∧ _ => zz9; clear zz9)); (repeat (rename _ ≠ _ => zz9; clear zz9)); omega (config := {})))
local macro_rules | `(tactic| k_ne) => `(tactic| first | with_reducible assumption | exact Ne.symm (by with_reducible assumption) | exact Nat.ne_of_lt (by kse_step) | exact Nat.ne_of_gt (by kse_step) | (refine neN ?_; (try dsimp only); omega))
local macro_rules | `(tactic| walk_at "call ref") => `(tactic| (with_reducible refine stop_call (by decide) ?_))
local macro_rules | `(tactic| kbo_bools) => `(tactic| first | exact List.mem_cons_self | with_reducible assumption | (refine List.mem_cons_of_mem _ ?_; kbo_bools) | (refine List.mem_append_right _ ?_; kbo_bools) | (refine List.mem_append_left _ ?_; kbo_bools))
local macro_rules | `(tactic| k_mem) => `(tactic| kbo_bools)
local macro_rules | `(tactic| kp_flats) => `(tactic| first | assumption | exact List.forall_mem_nil _ | (exact allLt_ne (by assumption)) | (exact allLt_ne (And.right (by assumption))) | (exact allLt_ne (And.right (And.right (by assumption)))) | (exact allLt_ne (And.right (And.right (And.right (by assumption))))) | (exact allLt_ne (And.right (And.right (And.right (And.right (by assumption)))))) | (exact ne_lt (by assumption)) | (exact Later.ne (by assumption) (by kbo_bools)) | (refine' List.forall_mem_cons.mpr ⟨?a, ?b⟩; (case a => k_ne); (case b => kp_flats)) | (refine' List.forall_mem_append.mpr ⟨?a, ?b⟩; (case a => kp_flats); (case b => kp_flats)))
local macro_rules | `(tactic| k_all) => `(tactic| kp_flats)
local macro_rules | `(tactic| k_upd) => `(tactic| (refine' Upd.app ?a ?b; (case a => k_all); (case b => k_upd)))
local macro_rules | `(tactic| walk_at "REM") => `(tactic| first | (refine' Rem.head ?a; (case a => kp_flats)) | (refine' Rem.tail ?a ?b; (case a => k_ne); (case b => walk_at "REM")) | (refine' Rem.app ?a ?b; (case a => kp_flats); (case b => walk_at "REM")))
local macro_rules | `(tactic| kct_strs) => `(tactic| first | with_reducible exact sub_refl _ | (refine sub_tail ?_; kct_strs) | (refine sub_right ?_; kct_strs) | (refine sub_left ?_; kct_strs))
local macro_rules | `(tactic| kba_ints) => `(tactic| first | with_reducible exact sub_refl _ | with_reducible exact List.forall_mem_nil _ | (refine List.forall_mem_cons.mpr ⟨?memA, ?memB⟩; (case memA => kbo_bools); (case memB => kba_ints)) | (refine List.forall_mem_append.mpr ⟨?memA, ?memB⟩; (case memA => kba_ints); (case memB => kba_ints)) | kct_strs)
local macro_rules | `(tactic| walk_at "MEM") => `(tactic| ((try simp only [List.map_cons, List.map_append, List.cons_append, List.nil_append]); kba_ints))
local macro_rules | `(tactic| krn_off) => `(tactic| first | exact Later.nil | ((refine' Later.cons ?ha ?hb); (case ha => (intro b hb; (try simp only [List.mem_cons, List.map_cons, List.map_append, List.mem_append] at hb); (repeat' ((refine Or.elim hb ?_ ?_) <;> (clear hb; intro hb))); all_goals (first | (subst hb; first | kse_step | exact Nat.lt_succ_self _ | omega) | (exact lt_via hb (by assumption) (by first | exact Nat.le_refl _ | exact Nat.le_of_lt (by kse_step) | omega)) | (exact lt_via' (by assumption) (by first | exact Nat.le_refl _ | exact Nat.le_of_lt (by kse_step) | omega) (by simp only [List.map_append, List.map_cons, List.mem_append, List.mem_cons, hb, or_true, true_or])) | (exact allLt_all (And.right (by assumption)) _ (by simp only [List.map_append, List.map_cons, List.mem_append, List.mem_cons, hb, or_true, true_or])) | (exact allLt_all (And.right (And.right (by assumption))) _ (by simp only [List.map_append, List.map_cons, List.mem_append, List.mem_cons, hb, or_true, true_or])) | (exact allLt_all (And.right (And.right (And.right (by assumption)))) _ (by simp only [List.map_append, List.map_cons, List.mem_append, List.mem_cons, hb, or_true, true_or])) | (exact allLt_all (And.right (And.right (And.right (And.right (by assumption))))) _ (by simp only [List.map_append, List.map_cons, List.mem_append, List.mem_cons, hb, or_true, true_or])) | (exact allLt_all (And.right (And.right (And.right (And.right (And.right (by assumption)))))) _ (by simp only [List.map_append, List.map_cons, List.mem_append, List.mem_cons, hb, or_true, true_or])) | (exact lt_via2 (by assumption) (by first | exact Nat.le_refl _ | exact Nat.le_of_lt (by kse_step) | omega) (by simp only [List.map_append, List.map_cons, List.mem_append, List.mem_cons, hb, or_true, true_or]))))); (case hb => krn_off)) | ((refine' Later.consN ?ha ?hb); (case ha => kp_flats); (case hb => krn_off)) | ((refine' Later.app ?ha ?hb); (case ha => krn_off); (case hb => krn_off)) | exact Later.weak (by assumption) (by walk_at "MEM"))
local macro_rules | `(tactic| walk_at "execs cons") => `(tactic| ((with_reducible show wpAny _ _ (execs (Stmt.For _ _ _ _ _ :: _) _) _ _ _); refine stop_out ?_))
local macro_rules | `(tactic| walk_at "execs cons") => `(tactic| ((with_reducible show wpAny _ _ (execs (Stmt.While _ _ _ _ :: _) _) _ _ _); refine stop_out ?_))
local macro_rules | `(tactic| walk_at "FOR") => `(tactic| (refine stop_in (wpAny_execs_cons ?_); (rename Fr _ _ _ _ => lF9); (with_unfolding_all refine' For_invVF lF9 ?k1 ?k2 ?_; (case k1 => exact rfl); (case k2 => exact rfl))))
local macro_rules | `(tactic| walk_at $k) => do if !(isItem k.getString) then Lean.Macro.throwUnsupported else `(tactic| (k_here; (with_reducible show wpAny _ _ (subscriptTail _ _ (Value.ref _) (Value.int _ _)) _ _ _); (with_unfolding_all refine' item_tup ?N ?ht ?k2 ?k3 ?k4 ?k5 ?_ ?k6; (case N => k_asm); (case ht => kbo_bools); (case k2 => decide); (case k3 => decide); (case k4 => exact rfl); (case k5 => exact rfl); (case k6 => with_unfolding_all rfl); k_whole)))
local macro_rules | `(tactic| walk_at "compareOp Eq str str") => `(tactic| ((with_reducible refine' eq_strF ?ne ?_); (case ne => first | exact op_num _ | exact op_name _ | exact op_con _)))
local macro_rules | `(tactic| k_room) => `(tactic| first | exact rm2 (by assumption) rfl | exact rm1 (by assumption) rfl | exact rm0 (by assumption) | exact rm3 (by assumption) rfl | decide | ((try simp only [depth_mark, depth_under_make, depth_under_kw, depth_in1, depth_deeper, depth_caller, recursionLimit, ktrTop] at *); omega))
local macro_rules | `(tactic| ktr_room) => `(tactic| k_room)
local macro_rules | `(tactic| units_room) => `(tactic| first | exact rm2 (by assumption) rfl | exact rm1 (by assumption) rfl | exact rm0 (by assumption) | exact rm3 (by assumption) rfl | decide | ((try simp only [units_in1, units_deeper, Around.mark_units, units_caller, cLine, ktrTop] at *); omega))
local macro_rules | `(tactic| k_units) => `(tactic| units_room)
local macro_rules | `(tactic| kl_room) => `(tactic| first | assumption | decide | ((try simp only [sizeLine_eq, List.length_append, List.length_cons, List.length_nil, List.size_toArray, List.toList_toArray] at *); omega))
local macro_rules | `(tactic| walk_at $k) => stopAt ["pyIter ref"] k
section NodePart
open PySem PySem.W PyProof.Rows PySem.Calls
abbrev kv (h : Int) (x : String) (t : Tok) (v : Value) : DictEntry := ⟨h, .str (Str.ofString x) t, v⟩
inductive NIn (fro : List (Addr × Obj)) : Value → Tr → Prop
  | num {x dx h1 h2 t1 t2 t3 t4 i} : (x, instObj 113 dx) ∈ fro → (dx, dictOf [kv h1 "kind" t1 (.str (Str.ofString "number") t2), kv h2 "worth" t3 (.int i t4)] 2) ∈ fro → NIn fro (.ref x) (.num i)
  | nam {x dx h1 h2 t1 t2 t3 t4 n} : (x, instObj 139 dx) ∈ fro → (dx, dictOf [kv h1 "kind" t1 (.str (Str.ofString "symbol") t2), kv h2 "name" t3 (.str n t4)] 2) ∈ fro → NIn fro (.ref x) (.nam n)
  | neg {x dx h1 h2 h3 t1 t2 t3 t4 t5 v t} : (x, instObj 165 dx) ∈ fro → (dx, dictOf [kv h1 "kind" t1 (.str (Str.ofString "unary") t2), kv h2 "sign" t3 (.str (Str.ofString "-") t4), kv h3 "body" t5 v] 3) ∈ fro → NIn fro v t → NIn fro (.ref x) (.neg t)
  | bin {x dx h1 h2 h3 h4 t1 t2 t3 t4 t5 t6 v u l r} (o : Op) : (x, instObj 191 dx) ∈ fro → (dx, dictOf [kv h1 "kind" t1 (.str (Str.ofString "binary") t2), kv h2 "sign" t3 (.str o.str t4), kv h3 "left" t5 v, kv h4 "right" t6 u] 4) ∈ fro → NIn fro v l → NIn fro u r → NIn fro (.ref x) (.bin o l r)
theorem NIn.mono {f g : List (Addr × Obj)} {v : Value} {t : Tr} (h : NIn f v t) (s : ∀ p ∈ f, p ∈ g) : NIn g v t := by
  induction h with
  | num h k => exact .num (s _ h) (s _ k)
  | nam h k => exact .nam (s _ h) (s _ k)
  | neg h k _ ih => exact .neg (s _ h) (s _ k) ih
  | bin o h k _ _ i1 i2 => exact .bin o (s _ h) (s _ k) i1 i2
noncomputable def Tr.dep : Tr → Nat
  | .num _ => 0
  | .nam _ => 0
  | .neg t => t.dep + 1
  | .bin _ l r => max l.dep r.dep + 1

end NodePart
section RulesPart
open PySem PySem.W PyProof.Rows PySem.Calls
/-- the end of a turn of a loop -/
noncomputable def TurnEnd (h₀ : Heap) (L I : Addr) (io : Obj) (keep : Addr × Obj) (J : (Str → Option Value) → List (Addr × Obj) → Prop) (s₁ : Shared) (f : Flow) (s₂ : Shared) : Prop :=
  f = .next ∧ ∃ h' tk m₂ news₂, s₂ = { s₁ with heap := h', toks := tk } ∧ Fr h₀ L h' m₂ ∧ News h₀ L h' ((I, io) :: news₂) ∧ (∀ p ∈ news₂, p.1 ≠ I) ∧ keep ∈ news₂ ∧ J m₂ news₂
theorem TurnEnd.intro {h₀ : Heap} {L I : Addr} {io : Obj} {keep : Addr × Obj} {J : (Str → Option Value) → List (Addr × Obj) → Prop} {s₁ : Shared} {h' : Heap} {tk : Nat} {m₂ : Str → Option Value} {news₂ : List (Addr × Obj)}
    (F : Fr h₀ L h' m₂) (N : News h₀ L h' ((I, io) :: news₂)) (ho : ∀ p ∈ news₂, p.1 ≠ I) (hk : keep ∈ news₂) (hj : J m₂ news₂) : TurnEnd h₀ L I io keep J s₁ .next { s₁ with heap := h', toks := tk } :=
  ⟨rfl, h', tk, m₂, news₂, rfl, F, N, ho, hk, hj⟩
section
variable {prog : Program} {w : World} {A : Around} {E : Value → Shared → Prop} {s : Shared} {env : Env} {h₀ : Heap} {x : Str} {body : List Stmt} {Q : Flow → Shared → Prop}
theorem loop_core {l I : Addr} {lo : Obj} {n : Nat} {P : Nat → Value → Prop} {St : Nat → Heap → Prop} {m₀ : Str → Option Value} {news : List (Addr × Obj)} {s₂ : Shared} (J : Nat → (Str → Option Value) → List (Addr × Obj) → Prop)
    (W : Walks prog w A I [I, l] [I] n P St) (hst : St 0 s₂.heap) (hio : ∀ i h, St i h → ∃ io, h.get? I = some io)
    (F : Fr h₀ env.locals s₂.heap m₀) (N : News h₀ env.locals s₂.heap news) (hI : ∀ p ∈ news, p.1 ≠ I) (hLI : env.locals ≠ I) (h0I : h₀.get? I = none) (hl : (l, lo) ∈ news) (hj : J 0 m₀ news)
    (turn : ∀ i v m₁ news₁ io h tk, i < n → P i v → J i m₁ news₁ → (l, lo) ∈ news₁ → (∀ p ∈ news₁, p.1 ≠ I) → Fr h₀ env.locals h (fun y => if y = x then some v else m₁ y) → News h₀ env.locals h ((I, io) :: news₁) →
      wpAny (model prog w) A (execs body env) (TurnEnd h₀ env.locals I io (l, lo) (J (i + 1)) { s₂ with heap := h, toks := tk }) E { s₂ with heap := h, toks := tk })
    (done : ∀ m₁ news₁ h tk, J n m₁ news₁ → (l, lo) ∈ news₁ → Fr h₀ env.locals h m₁ → News h₀ env.locals h news₁ → Q .next { s₂ with heap := h, toks := tk }) :
    LoopAtV prog w A h₀ env x body Q E (.ref I) s₂ := by
  have hlL : env.locals ≠ l := fun e => (N _ hl).2.1 e.symm
  refine ⟨I, [I, l], [I], n, P, St, m₀, news, (fun i m₁ news₁ => J i m₁ news₁ ∧ (l, lo) ∈ news₁), rfl, W, ?_, ?_, ?_, hst, F, N, ⟨hj, hl⟩, ?_, ?_⟩
  · intro hm
    rcases List.mem_cons.mp hm with e | hm
    · exact hLI e
    · exact hlL (List.mem_singleton.mp hm)
  · intro b hb; rw [List.mem_singleton.mp hb]; exact h0I
  · intro p hp hm; exact hI p hp (List.mem_singleton.mp hm)
  · rintro i v m₁ news₁ s₁ own ⟨h, tk, rfl⟩ hin hP ⟨hJ, hl1⟩ hoff hown hget hall hst1 F1 N1
    obtain ⟨io, hio1⟩ := hio _ _ hst1
    have hIo : (I, io) ∈ own := hall I (.head _) h0I io hio1
    have hoff' : ∀ p ∈ news₁, p.1 ≠ I := fun p hp e => hoff p hp (List.mem_singleton.mpr e)
    have N2 : News h₀ env.locals h ((I, io) :: news₁) := fun p hp => by
      rcases List.mem_cons.mp hp with rfl | hp
      · exact N1 _ (List.mem_append_left _ hIo)
      · exact N1 _ (List.mem_append_right _ hp)
    refine wpAny_mono (turn i v m₁ news₁ io h tk hin hP hJ hl1 hoff' F1 N2) (fun f s₃ h3 => ?_) fun _ _ e => e
    obtain ⟨rfl, h', tk', m₂, news₂, rfl, F3, N3, ho3, hk3, hj3⟩ := h3
    refine .next ⟨rfl, h', tk', m₂, news₂, rfl, F3, fun p hp => ?_, fun p hp hm => ho3 p hp (List.mem_singleton.mp hm), hj3, hk3⟩
    rcases List.mem_append.mp hp with hp | hp
    · rcases List.mem_cons.mp (hown p hp) with e | e
      · obtain ⟨p1, p2⟩ := p
        simp only at e; subst e
        have := hget _ hp
        rw [hio1] at this
        simp only [Option.some.injEq] at this; subst this
        exact N3 _ (.head _)
      · have e := List.mem_singleton.mp e
        obtain ⟨p1, p2⟩ := p
        simp only at e; subst e
        have h1 := hget _ hp
        have h2 := (N2 _ (.tail _ hl1)).1
        rw [h2] at h1
        simp only [Option.some.injEq] at h1; subst h1
        exact N3 _ (.tail _ hk3)
    · exact N3 _ (.tail _ hp)
  · rintro h' tk m' news' F' N' _ ⟨hJ, hl1⟩
    exact done m' news' h' tk hJ hl1 F' N'
theorem for_list {l : Addr} {vs : List Value} {n0 : Nat} {m₀ : Str → Option Value} {news : List (Addr × Obj)} (J : Nat → (Str → Option Value) → List (Addr × Obj) → Prop) (hh : A.handled = none)
    (F : Fr h₀ env.locals s.heap m₀) (N : News h₀ env.locals s.heap news) (hl : (l, listOf vs.toArray n0) ∈ news) (hj : J 0 m₀ news)
    (turn : ∀ i v m₁ news₁ I io h tk, vs[i]? = some v → J i m₁ news₁ → (l, listOf vs.toArray n0) ∈ news₁ → (∀ p ∈ news₁, p.1 ≠ I) → Fr h₀ env.locals h (fun y => if y = x then some v else m₁ y) → News h₀ env.locals h ((I, io) :: news₁) →
      wpAny (model prog w) A (execs body env) (TurnEnd h₀ env.locals I io (l, listOf vs.toArray n0) (J (i + 1)) { s with heap := h, toks := tk }) E { s with heap := h, toks := tk })
    (done : ∀ m₁ news₁ h tk, J vs.length m₁ news₁ → (l, listOf vs.toArray n0) ∈ news₁ → Fr h₀ env.locals h m₁ → News h₀ env.locals h news₁ → Q .next { s with heap := h, toks := tk }) :
    wpAny (model prog w) A (pyIter (.ref l)) (fun it s₂ => LoopAtV prog w A h₀ env x body Q E it s₂) E s := by
  have hls : s.heap.IsList l vs.toArray := ⟨_, (N _ hl).1, rfl, _, rfl⟩
  have hne : l ≠ s.heap.objs.size := Nat.ne_of_lt (Heap.lt_size (N _ hl).1)
  refine wpAny_pyIter_list hls ?_
  have W := Walks.list (prog := prog) (w := w) hh s.heap.objs.size l hne vs.toArray
  have hz : vs.toArray.size = vs.length := by simp
  refine loop_core J (hz ▸ W) ⟨⟨_, Heap.get?_push_size _ rfl, rfl, rfl⟩, hls.at fun o e => Heap.get?_push_of_some _ e⟩ (fun i h st => ?_) (F.push _) (fun p hp => ⟨Heap.get?_push_of_some _ (N p hp).1, (N p hp).2⟩) (fun p hp => Nat.ne_of_lt (Heap.lt_size (N p hp).1)) (Nat.ne_of_lt F.ns.lt) (next_is_new F) hl hj (fun i v m₁ news₁ io h tk hin hP hJ hl1 ho F1 N1 => ?_) (fun m₁ news₁ h tk hJ hl1 F1 N1 => ?_)
  · obtain ⟨⟨o, ho, _⟩, _⟩ := st; exact ⟨o, ho⟩
  · exact turn i v m₁ news₁ _ io h tk (by simpa using hP) hJ hl1 ho F1 N1
  · exact done m₁ news₁ h tk hJ hl1 F1 N1
theorem for_tuple {l : Addr} {vs : List Value} {m₀ : Str → Option Value} {news : List (Addr × Obj)} (J : Nat → (Str → Option Value) → List (Addr × Obj) → Prop) (hh : A.handled = none)
    (F : Fr h₀ env.locals s.heap m₀) (N : News h₀ env.locals s.heap news) (hl : (l, tupO vs) ∈ news) (hj : J 0 m₀ news)
    (turn : ∀ i v m₁ news₁ I io h tk, vs[i]? = some v → J i m₁ news₁ → (l, tupO vs) ∈ news₁ → (∀ p ∈ news₁, p.1 ≠ I) → Fr h₀ env.locals h (fun y => if y = x then some v else m₁ y) → News h₀ env.locals h ((I, io) :: news₁) →
      wpAny (model prog w) A (execs body env) (TurnEnd h₀ env.locals I io (l, tupO vs) (J (i + 1)) { s with heap := h, toks := tk }) E { s with heap := h, toks := tk })
    (done : ∀ m₁ news₁ h tk, J vs.length m₁ news₁ → (l, tupO vs) ∈ news₁ → Fr h₀ env.locals h m₁ → News h₀ env.locals h news₁ → Q .next { s with heap := h, toks := tk }) :
    wpAny (model prog w) A (pyIter (.ref l)) (fun it s₂ => LoopAtV prog w A h₀ env x body Q E it s₂) E s := by
  have hls : s.heap.IsTuple l vs.toArray := ⟨_, (N _ hl).1, rfl, _, rfl⟩
  have hne : l ≠ s.heap.objs.size := Nat.ne_of_lt (Heap.lt_size (N _ hl).1)
  refine wpAny_pyIter_tuple hls ?_
  have W := Walks.tuple (prog := prog) (w := w) hh s.heap.objs.size l hne vs.toArray
  have hz : vs.toArray.size = vs.length := by simp
  refine loop_core J (hz ▸ W) ⟨⟨_, Heap.get?_push_size _ rfl, rfl, rfl⟩, hls.at fun o e => Heap.get?_push_of_some _ e⟩ (fun i h st => ?_) (F.push _) (fun p hp => ⟨Heap.get?_push_of_some _ (N p hp).1, (N p hp).2⟩) (fun p hp => Nat.ne_of_lt (Heap.lt_size (N p hp).1)) (Nat.ne_of_lt F.ns.lt) (next_is_new F) hl hj (fun i v m₁ news₁ io h tk hin hP hJ hl1 ho F1 N1 => ?_) (fun m₁ news₁ h tk hJ hl1 F1 N1 => ?_)
  · obtain ⟨⟨o, ho, _⟩, _⟩ := st; exact ⟨o, ho⟩
  · exact turn i v m₁ news₁ _ io h tk (by simpa using hP) hJ hl1 ho F1 N1
  · exact done m₁ news₁ h tk hJ hl1 F1 N1
section
variable {prog : Program} {w : World} {A : Around} {E : Value → Shared → Prop} {Q : Flow → Shared → Prop} {s : Shared} {env : Env} {h₀ : Heap} {L : Addr}
noncomputable def WStep {σ : Type} (h₀ : Heap) (L : Addr) (s : Shared) (mk : (Str → Option Value) → σ → Str → Option Value) (m₁ : Str → Option Value) (J : Nat → σ → List (Addr × Obj) → Prop) (n : Nat) : Flow → Shared → Prop :=
  WhileStep h₀ L s (fun n m news => ∃ a, m = mk m₁ a ∧ J n a news) n
/-- a while whose turns change a few names and the ledger -/
theorem whileS {σ : Type} {test : PySem.Expr} {body : List Stmt} {pos : Pos} {m₁ : Str → Option Value} {news : List (Addr × Obj)} (mk : (Str → Option Value) → σ → Str → Option Value) (J : Nat → σ → List (Addr × Obj) → Prop) {n₀ : Nat} {a₀ : σ}
    (F : Fr h₀ L s.heap m₁) (hs : mk m₁ a₀ = m₁) (N : News h₀ L s.heap news) (hJ : J n₀ a₀ news)
    (turn : ∀ n a news₁ h₁ tk₁, Fr h₀ L h₁ (mk m₁ a) → News h₀ L h₁ news₁ → J n a news₁ →
      wpAny (model prog w) A (isTrue test env (eval test env)) (fun b s₂ =>
        if b = true then wpAny (model prog w) A (execs body env) (WStep h₀ L s mk m₁ J n) E s₂ else Q .next s₂) E { s with heap := h₁, toks := tk₁ })
    (hE : PassesOwn (model prog w) A env E := by passes_own) :
    wpAny (model prog w) A (exec (.While test body [] pos) env) Q E s :=
  While_inv (fun n m news => ∃ a, m = mk m₁ a ∧ J n a news) F N ⟨a₀, hs.symm, hJ⟩ (fun n m₂ news₁ h₁ tk₁ F₁ N₁ hj => by
    obtain ⟨a, rfl, hj⟩ := hj
    exact turn n a news₁ h₁ tk₁ F₁ N₁ hj) hE
theorem ov1 (x : Str) (u v : Option Value) (m : Str → Option Value) : (fun y => if y = x then u else if y = x then v else m y) = fun y => if y = x then u else m y := by
  funext y; by_cases e : y = x <;> simp [e]
theorem same2 (x z : Str) (u v : Option Value) (m : Str → Option Value) : (fun y => if y = x then u else if y = z then v else if y = x then u else if y = z then v else m y) = fun y => if y = x then u else if y = z then v else m y := by
  funext y
  by_cases e : y = x
  · simp [e]
  · by_cases e2 : y = z <;> simp [e, e2]
theorem ov2 (x z : Str) (u v u' v' : Option Value) (m : Str → Option Value) : (fun y => if y = x then u else if y = z then v else if y = x then u' else if y = z then v' else m y) = fun y => if y = x then u else if y = z then v else m y := by
  funext y
  by_cases e : y = x
  · simp [e]
  · by_cases e2 : y = z <;> simp [e, e2]
theorem same0 (x : Str) (m : Str → Option Value) : (fun y => if y = x then m x else m y) = m := by
  funext y; by_cases e : y = x <;> simp [e]
theorem same00 (x z : Str) (m : Str → Option Value) : (fun y => if y = x then m x else if y = z then m z else m y) = m := by
  funext y
  by_cases e : y = x
  · rw [if_pos e, e]
  · rw [if_neg e]
    by_cases e2 : y = z
    · rw [if_pos e2, e2]
    · rw [if_neg e2]
theorem same000 (x1 x2 x3 : Str) (m : Str → Option Value) : (fun y => if y = x1 then m x1 else if y = x2 then m x2 else if y = x3 then m x3 else m y) = m := by
  funext y
  repeat (split; · rename_i h; rw [h])
  rfl
theorem same5 (x1 x2 x3 x4 x5 : Str) (m : Str → Option Value) : (fun y => if y = x1 then m x1 else if y = x2 then m x2 else if y = x3 then m x3 else if y = x4 then m x4 else if y = x5 then m x5 else m y) = m := by
  funext y
  repeat (split; · rename_i h; rw [h])
  rfl
theorem same1 (x z : Str) (u : Option Value) (m : Str → Option Value) : (fun y => if y = x then u else if y = z then m z else if y = x then u else m y) = fun y => if y = x then u else m y := by
  funext y
  by_cases e : y = x
  · simp [e]
  · by_cases e2 : y = z <;> simp [e, e2]
theorem ov3 (x1 x2 x3 : Str) (a1 a2 a3 b1 b2 b3 : Option Value) (m : Str → Option Value) : (fun y => if y = x1 then a1 else if y = x2 then a2 else if y = x3 then a3 else if y = x1 then b1 else if y = x2 then b2 else if y = x3 then b3 else m y) = fun y => if y = x1 then a1 else if y = x2 then a2 else if y = x3 then a3 else m y := by
  funext y
  by_cases e : y = x1
  · simp [e]
  · by_cases e2 : y = x2
    · simp [e, e2]
    · by_cases e3 : y = x3 <;> simp [e, e2, e3]
theorem stepS {σ : Type} {h' : Heap} {n n' tk : Nat} {mk : (Str → Option Value) → σ → Str → Option Value} {J : Nat → σ → List (Addr × Obj) → Prop} {m₁ m₂ : Str → Option Value} {news₂ : List (Addr × Obj)} (a : σ)
    (F : Fr h₀ L h' m₂) (hm : m₂ = mk m₁ a) (N : News h₀ L h' news₂) (hn : n' < n) (hJ : J n' a news₂) : WStep h₀ L s mk m₁ J n .next { s with heap := h', toks := tk } :=
  WhileStep.intro F N hn ⟨a, hm, hJ⟩
end
section
variable {prog : Program} {w : World} {A : Around} {E : Value → Shared → Prop} {s : Shared} {env : Env} {h₀ : Heap} {x : Str} {body : List Stmt} {Q : Flow → Shared → Prop}
noncomputable def TStep {σ : Type} (h₀ : Heap) (L I : Addr) (io : Obj) (keep : Addr × Obj) (mk : (Str → Option Value) → σ → Str → Option Value) (m₁ : Str → Option Value) (J : σ → List (Addr × Obj) → Prop) (s₁ : Shared) : Flow → Shared → Prop :=
  TurnEnd h₀ L I io keep (fun m news => ∃ a, m = mk m₁ a ∧ J a news) s₁
theorem TStep.intro {σ : Type} {L I : Addr} {io : Obj} {keep : Addr × Obj} {mk : (Str → Option Value) → σ → Str → Option Value} {m₁ : Str → Option Value} {J : σ → List (Addr × Obj) → Prop} {s₁ : Shared} {h' : Heap} {tk : Nat} {m₂ : Str → Option Value} {news₂ : List (Addr × Obj)} (a : σ)
    (F : Fr h₀ L h' m₂) (hm : m₂ = mk m₁ a) (N : News h₀ L h' ((I, io) :: news₂)) (ho : ∀ p ∈ news₂, p.1 ≠ I) (hk : keep ∈ news₂) (hj : J a news₂) : TStep h₀ L I io keep mk m₁ J s₁ .next { s₁ with heap := h', toks := tk } :=
  TurnEnd.intro F N ho hk ⟨a, hm, hj⟩
theorem forS_list {σ : Type} {l : Addr} {vs : List Value} {n0 : Nat} {m₀ : Str → Option Value} {news : List (Addr × Obj)} (mk : (Str → Option Value) → σ → Str → Option Value) (J : Nat → σ → List (Addr × Obj) → Prop) {a₀ : σ} (hh : A.handled = none)
    (F : Fr h₀ env.locals s.heap m₀) (hs : mk m₀ a₀ = m₀) (N : News h₀ env.locals s.heap news) (hl : (l, listOf vs.toArray n0) ∈ news) (hj : J 0 a₀ news)
    (turn : ∀ i v a news₁ I io h tk, vs[i]? = some v → J i a news₁ → (l, listOf vs.toArray n0) ∈ news₁ → (∀ p ∈ news₁, p.1 ≠ I) → Fr h₀ env.locals h (fun y => if y = x then some v else mk m₀ a y) → News h₀ env.locals h ((I, io) :: news₁) →
      wpAny (model prog w) A (execs body env) (TStep h₀ env.locals I io (l, listOf vs.toArray n0) mk m₀ (J (i + 1)) { s with heap := h, toks := tk }) E { s with heap := h, toks := tk })
    (done : ∀ a news₁ h tk, J vs.length a news₁ → (l, listOf vs.toArray n0) ∈ news₁ → Fr h₀ env.locals h (mk m₀ a) → News h₀ env.locals h news₁ → Q .next { s with heap := h, toks := tk }) :
    wpAny (model prog w) A (pyIter (.ref l)) (fun it s₂ => LoopAtV prog w A h₀ env x body Q E it s₂) E s := by
  refine for_list (fun i m news => ∃ a, m = mk m₀ a ∧ J i a news) hh F N hl ⟨a₀, hs.symm, hj⟩ (fun i v m₁ news₁ I io h tk hv hJ hl1 ho F1 N1 => ?_) (fun m₁ news₁ h tk hJ hl1 F1 N1 => ?_)
  · obtain ⟨a, rfl, hj⟩ := hJ
    exact turn i v a news₁ I io h tk hv hj hl1 ho F1 N1
  · obtain ⟨a, rfl, hj⟩ := hJ
    exact done a news₁ h tk hj hl1 F1 N1
end
/-- behind a statement that stores one name -/
noncomputable def Mid (h₀ : Heap) (L : Addr) (x : Str) (m₀ : Str → Option Value) (P : Value → List (Addr × Obj) → Prop) (s : Shared) (f : Flow) (s' : Shared) : Prop :=
  f = .next ∧ ∃ v news' h' tk', s' = { s with heap := h', toks := tk' } ∧ Fr h₀ L h' (fun y => if y = x then some v else m₀ y) ∧ News h₀ L h' news' ∧ P v news'
theorem Mid.intro {h₀ h' : Heap} {L : Addr} {x : Str} {m₀ : Str → Option Value} {P : Value → List (Addr × Obj) → Prop} {s : Shared} {tk' : Nat} {v : Value} {news' : List (Addr × Obj)} (F : Fr h₀ L h' (fun y => if y = x then some v else m₀ y)) (N : News h₀ L h' news') (hp : P v news') :
    Mid h₀ L x m₀ P s .next { s with heap := h', toks := tk' } := ⟨rfl, v, news', h', tk', rfl, F, N, hp⟩
theorem mid_stmt {M : Model} {A : Around} {E : Value → Shared → Prop} {s : Shared} {env : Env} {h₀ : Heap} {L : Addr} {x : Str} {m₀ : Str → Option Value} {st : Stmt} {rest : List Stmt} {Q : Flow → Shared → Prop} (P : Value → List (Addr × Obj) → Prop) (F : Fr h₀ L s.heap m₀)
    (h1 : wpAny M A (exec st env) (Mid h₀ L x m₀ P s) E s)
    (h2 : ∀ v news' h' tk', Fr h₀ L h' (fun y => if y = x then some v else m₀ y) → News h₀ L h' news' → P v news' → wpAny M A (execs rest env) Q E { s with heap := h', toks := tk' }) : wpAny M A (execs (st :: rest) env) Q E s := by
  refine wpAny_execs_cons (wpAny_mono h1 (fun f s' h => ?_) fun _ _ e => e)
  obtain ⟨rfl, v, news', h', tk', rfl, F', N', hp⟩ := h
  exact h2 v news' h' tk' F' N' hp
/-- a turn that stores no name but the loop's own -/
noncomputable def J0 (x : Str) (m₀ : Str → Option Value) (J : List (Addr × Obj) → Prop) (m : Str → Option Value) (news : List (Addr × Obj)) : Prop := (∃ u, m = fun y => if y = x then u else m₀ y) ∧ J news
theorem j0_over {x : Str} {m₀ m : Str → Option Value} {v : Option Value} (h : ∃ u, m = fun y => if y = x then u else m₀ y) : (fun y => if y = x then v else m y) = fun y => if y = x then v else m₀ y := by
  obtain ⟨u, rfl⟩ := h
  funext y
  by_cases e : y = x <;> simp [e]
theorem for_list0 {l : Addr} {vs : List Value} {n0 : Nat} {m₀ : Str → Option Value} {news : List (Addr × Obj)} (J : Nat → List (Addr × Obj) → Prop) (hh : A.handled = none)
    (F : Fr h₀ env.locals s.heap m₀) (N : News h₀ env.locals s.heap news) (hl : (l, listOf vs.toArray n0) ∈ news) (hj : J 0 news)
    (turn : ∀ i v news₁ I io h tk, vs[i]? = some v → J i news₁ → (l, listOf vs.toArray n0) ∈ news₁ → (∀ p ∈ news₁, p.1 ≠ I) → Fr h₀ env.locals h (fun y => if y = x then some v else m₀ y) → News h₀ env.locals h ((I, io) :: news₁) →
      wpAny (model prog w) A (execs body env) (TurnEnd h₀ env.locals I io (l, listOf vs.toArray n0) (J0 x m₀ (J (i + 1))) { s with heap := h, toks := tk }) E { s with heap := h, toks := tk })
    (done : ∀ u news₁ h tk, J vs.length news₁ → (l, listOf vs.toArray n0) ∈ news₁ → Fr h₀ env.locals h (fun y => if y = x then u else m₀ y) → News h₀ env.locals h news₁ → Q .next { s with heap := h, toks := tk }) :
    wpAny (model prog w) A (pyIter (.ref l)) (fun it s₂ => LoopAtV prog w A h₀ env x body Q E it s₂) E s := by
  refine for_list (fun i => J0 x m₀ (J i)) hh F N hl ⟨⟨m₀ x, ?_⟩, hj⟩ (fun i v m₁ news₁ I io h tk hv hJ hl1 ho F1 N1 => ?_) (fun m₁ news₁ h tk hJ hl1 F1 N1 => ?_)
  · funext y; by_cases e : y = x <;> simp [e]
  · exact turn i v news₁ I io h tk hv hJ.2 hl1 ho (j0_over hJ.1 ▸ F1) N1
  · obtain ⟨⟨u, rfl⟩, hj⟩ := hJ
    exact done u news₁ h tk hj hl1 F1 N1
theorem for_tuple0 {l : Addr} {vs : List Value} {m₀ : Str → Option Value} {news : List (Addr × Obj)} (J : Nat → List (Addr × Obj) → Prop) (hh : A.handled = none)
    (F : Fr h₀ env.locals s.heap m₀) (N : News h₀ env.locals s.heap news) (hl : (l, tupO vs) ∈ news) (hj : J 0 news)
    (turn : ∀ i v news₁ I io h tk, vs[i]? = some v → J i news₁ → (l, tupO vs) ∈ news₁ → (∀ p ∈ news₁, p.1 ≠ I) → Fr h₀ env.locals h (fun y => if y = x then some v else m₀ y) → News h₀ env.locals h ((I, io) :: news₁) →
      wpAny (model prog w) A (execs body env) (TurnEnd h₀ env.locals I io (l, tupO vs) (J0 x m₀ (J (i + 1))) { s with heap := h, toks := tk }) E { s with heap := h, toks := tk })
    (done : ∀ u news₁ h tk, J vs.length news₁ → (l, tupO vs) ∈ news₁ → Fr h₀ env.locals h (fun y => if y = x then u else m₀ y) → News h₀ env.locals h news₁ → Q .next { s with heap := h, toks := tk }) :
    wpAny (model prog w) A (pyIter (.ref l)) (fun it s₂ => LoopAtV prog w A h₀ env x body Q E it s₂) E s := by
  refine for_tuple (fun i => J0 x m₀ (J i)) hh F N hl ⟨⟨m₀ x, ?_⟩, hj⟩ (fun i v m₁ news₁ I io h tk hv hJ hl1 ho F1 N1 => ?_) (fun m₁ news₁ h tk hJ hl1 F1 N1 => ?_)
  · funext y; by_cases e : y = x <;> simp [e]
  · exact turn i v news₁ I io h tk hv hJ.2 hl1 ho (j0_over hJ.1 ▸ F1) N1
  · obtain ⟨⟨u, rfl⟩, hj⟩ := hJ
    exact done u news₁ h tk hj hl1 F1 N1
end
section
variable {prog : Program} {w : World} {A : Around} {E : Value → Shared → Prop} {s : Shared} {h₀ : Heap} {L : Addr} {m : Str → Option Value} {news : List (Addr × Obj)} {Q : Value → Shared → Prop}
theorem add_tup {t b : Addr} {vs us : List Value} (F : Fr h₀ L s.heap m) (N : News h₀ L s.heap news) (ht : (t, tupO vs) ∈ news) (hb : (b, tupO us) ∈ news) (hz : vs.length + us.length ≤ 1000)
    (h : ∀ d D h', Later D news → (d, tupO (vs ++ us)) ∈ D ++ news → Fr h₀ L h' m → News h₀ L h' (D ++ news) → Q (.ref d) { s with heap := h' }) :
    wpAny (model prog w) A (binaryOp .Add (.ref t) (.ref b)) Q E s := by
  have ht' : IsTup s.heap t vs.toArray := ⟨_, (N _ ht).1, rfl, _, rfl⟩
  have hb' : IsTup s.heap b us.toArray := ⟨_, (N _ hb).1, rfl, _, rfl⟩
  refine add_tuples F N ht' hb' (fun e => ?_) (fun _ e => ?_) (fun _ _ h' F' N' => ?_) (by rw [sizeLine_eq]; omega)
  · subst e; exact h b [] s.heap Later.nil hb F N
  · subst e; exact h t [] s.heap Later.nil (by simpa using ht) F N
  · exact h _ [_] h' (Later.cons (fun b hb => by obtain ⟨p, hp, rfl⟩ := List.mem_map.mp hb; exact Heap.lt_size (N p hp).1) Later.nil) (.head _) F' N'
theorem tup_of_list {l : Addr} {vs : List Value} {n : Nat} (F : Fr h₀ L s.heap m) (N : News h₀ L s.heap news) (hl : (l, listOf vs.toArray n) ∈ news) (hz : vs.length ≤ 1000)
    (h : ∀ D h', Fr h₀ L h' m → News h₀ L h' ((D, tupO vs) :: news) → (∀ p ∈ news, p.1 < D) → Q (.ref D) { s with heap := h' }) : wpAny (model prog w) A (call (.type "tuple") [.ref l]) Q E s :=
  kde_tupleOf F N ⟨_, (N _ hl).1, rfl, _, rfl⟩ (by simp; omega) rfl h
theorem list_of_tup {l : Addr} {vs : List Value} (F : Fr h₀ L s.heap m) (N : News h₀ L s.heap news) (hl : (l, tupO vs) ∈ news) (hz : vs.length ≤ 1000)
    (h : ∀ D c h', Fr h₀ L h' m → News h₀ L h' ((D, listOf vs.toArray c) :: news) → (∀ q ∈ news, q.1 < D) → Q (.ref D) { s with heap := h' }) : wpAny (model prog w) A (call (.type "list") [.ref l]) Q E s :=
  list_copyKT F N ⟨_, (N _ hl).1, rfl, _, rfl⟩ h (by simp [sizeLine_eq]; omega)
theorem list_of_list {l : Addr} {vs : List Value} {n : Nat} (F : Fr h₀ L s.heap m) (N : News h₀ L s.heap news) (hl : (l, listOf vs.toArray n) ∈ news) (hz : vs.length ≤ 1000)
    (h : ∀ D c h', Fr h₀ L h' m → News h₀ L h' ((D, listOf vs.toArray c) :: news) → (∀ q ∈ news, q.1 < D) → Q (.ref D) { s with heap := h' }) : wpAny (model prog w) A (call (.type "list") [.ref l]) Q E s :=
  list_copyK F N ⟨_, (N _ hl).1, rfl, _, rfl⟩ h (by simp [sizeLine_eq]; omega)
theorem stored_new {kvs : List (Str × Value)} {x : Str} {v : Value} (h : valueAt kvs x = none) : stored kvs x v = kvs ++ [(x, v)] := by
  unfold stored
  rw [if_neg]
  intro hh
  unfold valueAt at h
  rw [Option.map_eq_none_iff, List.find?_eq_none] at h
  obtain ⟨p, hp, hq⟩ := List.any_eq_true.mp hh
  exact h p hp hq
theorem valueAt_stored_self (kvs : List (Str × Value)) (x : Str) (v : Value) : valueAt (stored kvs x v) x = some v := by
  unfold stored
  split
  · rename_i h
    induction kvs with
    | nil => simp at h
    | cons p r ih =>
      simp only [valueAt, List.map_cons, List.find?_cons]
      by_cases e : p.1 = x
      · simp [e]
      · simp only [e, if_false, decide_false]
        have h' : (r.any fun kv => decide (kv.1 = x)) = true := by simpa [e] using h
        simpa [valueAt] using ih h'
  · rename_i h
    have : kvs.find? (fun kv => decide (kv.1 = x)) = none := by
      rw [List.find?_eq_none]; intro p hp hq; exact h (List.any_eq_true.mpr ⟨p, hp, hq⟩)
    simp [valueAt, List.find?_append, this]
theorem strsAre_get {vs : List Value} {xs : List Str} (h : StrsAre vs xs) : ∀ {i : Nat} {v : Value}, vs[i]? = some v → ∃ x t, v = Value.str x t ∧ xs[i]? = some x := by
  induction h with
  | nil => intro i v h; simp at h
  | cons y t _ ih =>
    intro i v h
    cases i with
    | zero => simp at h; exact ⟨y, t, h.symm, rfl⟩
    | succ i => simpa using ih (by simpa using h)
theorem strsAre_append {vs us : List Value} {xs ys : List Str} (h : StrsAre vs xs) (k : StrsAre us ys) : StrsAre (vs ++ us) (xs ++ ys) := by
  induction h with
  | nil => exact k
  | cons y t _ ih => exact .cons y t ih
theorem strsAre_erase {vs : List Value} {xs : List Str} (h : StrsAre vs xs) : ∀ j, StrsAre (vs.eraseIdx j) (xs.eraseIdx j) := by
  induction h with
  | nil => intro j; exact .nil
  | cons y t h ih =>
    intro j
    cases j with
    | zero => exact h
    | succ j => exact .cons y t (ih j)
theorem strsAre_take {vs : List Value} {xs : List Str} (h : StrsAre vs xs) : ∀ i, StrsAre (vs.take i) (xs.take i) := by
  induction h with
  | nil => intro i; simpa using .nil
  | cons y t h ih =>
    intro i
    cases i with
    | zero => exact .nil
    | succ i => exact .cons y t (ih i)
theorem strsAre_zero {vs : List Value} (h : StrsAre vs []) : vs = [] := by cases h; rfl
theorem strsAre_one {vs : List Value} {x : Str} (h : StrsAre vs [x]) : ∃ t, vs = [.str x t] := by
  cases h with
  | cons _ t h => cases h; exact ⟨t, rfl⟩
theorem strsAre_length {vs : List Value} {xs : List Str} (h : StrsAre vs xs) : vs.length = xs.length := by
  induction h with
  | nil => rfl
  | cons y t _ ih => simp [ih]
end
theorem findIdx_str {xs : List Str} {x : Str} (h : x ∈ xs) : ∃ j, ∃ hj : j < xs.length, xs[j] = x ∧ (∀ m (hm : m < xs.length), m < j → xs[m] ≠ x) ∧ xs.eraseIdx j = xs.erase x := by
  induction xs with
  | nil => cases h
  | cons y r ih =>
    by_cases e : y = x
    · subst e
      exact ⟨0, by simp, rfl, fun m hm h => absurd h (Nat.not_lt_zero _), by simp⟩
    · obtain ⟨j, hj, h1, h2, h3⟩ := ih ((List.mem_cons.mp h).resolve_left fun q => e q.symm)
      refine ⟨j + 1, by simpa using hj, by simpa using h1, fun m hm hlt => ?_, ?_⟩
      · cases m with
        | zero => simpa using e
        | succ m => simpa using h2 m (by simpa using hm) (by omega)
      · rw [List.erase_cons_tail (by simpa using e)]; simp [h3]
section
variable {prog : Program} {w : World} {A : Around} {E : Value → Shared → Prop} {s : Shared} {h₀ : Heap} {L : Addr} {m : Str → Option Value} {news fro : List (Addr × Obj)} {Q : Value → Shared → Prop}
theorem remove_str {l : Addr} {vs : List Value} {xs : List Str} {n : Nat} {x : Str} {t : Tok} (F : Fr h₀ L s.heap m) (N : News h₀ L s.heap ((l, listOf vs.toArray n) :: fro)) (ho : ∀ p ∈ fro, p.1 ≠ l) (hv : StrsAre vs xs) (hx : x ∈ xs) (hz : vs.length ≤ 1000)
    (h : ∀ h' vs' n', StrsAre vs' (xs.erase x) → Fr h₀ L h' m → News h₀ L h' ((l, listOf vs'.toArray n') :: fro) → Q .none { s with heap := h' }) : wpAny (model prog w) A (call (.builtin "list.remove") [.ref l, .str x t]) Q E s := by
  obtain ⟨j, hj, h1, h2, h3⟩ := findIdx_str hx
  have z := N _ (.head _)
  have hlen := strsAre_length hv
  have hjv : j < vs.toArray.size := by simpa [hlen] using hj
  have he : ∀ y, y ∈ vs.toArray → PySem.MeetsSeq.EqGives y (.str x t) ((fun v => match v with | .str y _ => y == x | _ => false) y) := by
    intro y hy
    obtain ⟨i, hi⟩ := List.mem_iff_getElem?.mp (List.mem_toArray.mp hy)
    obtain ⟨y', u, rfl, _⟩ := strsAre_get hv hi
    exact eqGives_str _ _ _ _
  have gt : ∀ m (hm : m < vs.toArray.size), ∃ u, ∃ hm' : m < xs.length, vs.toArray[m] = Value.str xs[m] u := by
    intro m hm
    have hm' : m < vs.length := by simpa using hm
    obtain ⟨y', u, e1, e2⟩ := strsAre_get hv (List.getElem?_eq_getElem hm')
    have hx' : m < xs.length := by omega
    rw [List.getElem?_eq_getElem hx'] at e2
    exact ⟨u, hx', by simp only [List.getElem_toArray]; rw [e1]; injection e2 with e2; rw [e2]⟩
  refine call_meets PySem.F.slot_list_remove ⟨_, z.1, rfl⟩ PySem.F.entry_list_remove (PySem.F.args_list_remove_2 _ _) (PySem.MeetsSeq.list_remove l vs.toArray n (.str x t) (fun v => match v with | .str y _ => y == x | _ => false) he j hjv ?_ ?_ (by simp [sizeLine_eq]; omega)) ⟨z.1, h _ (vs.eraseIdx j) (n + 1) (h3 ▸ strsAre_erase hv j) (F.change (Heap.SameBut.update ..) z.2.1 z.2.2) ?_⟩
  · obtain ⟨u, hm', e⟩ := gt j hjv
    rw [e]; simp [h1]
  · intro m hm hlt
    obtain ⟨u, hm', e⟩ := gt m hm
    rw [e]; simpa using h2 m hm' hlt
  · refine kl_turn (pre := []) (its := vs.toArray) (n := n) (fun xs => xs.eraseIdxIfInBounds j) N (fun _ hp => (nomatch hp)) ho ?_ ?_
    · unfold Array.eraseIdxIfInBounds
      rw [dif_pos hjv]
      apply Array.toList_inj.mp
      rw [Array.toList_eraseIdx]
    · have : j < vs.length := by simpa using hjv
      simp [List.length_eraseIdx, this]
      omega
theorem in_strs {l : Addr} {vs : List Value} {xs : List Str} {n : Nat} {x : Str} {t : Tok} (N : News h₀ L s.heap news) (hl : (l, listOf vs.toArray n) ∈ news) (hv : StrsAre vs xs) (h : Q (.bool (decide (x ∈ xs))) s) :
    wpAny (model prog w) A (compareOp .In (.str x t) (.ref l)) Q E s := by
  have e : xs.any (· == x) = decide (x ∈ xs) := by
    rw [List.any_eq]; congr 1; simp
  exact in_list_strs (vs := vs) ⟨_, (N _ hl).1, rfl, _, rfl⟩ hv (e ▸ h)
theorem notin_strs {l : Addr} {vs : List Value} {xs : List Str} {n : Nat} {x : Str} {t : Tok} (N : News h₀ L s.heap news) (hl : (l, listOf vs.toArray n) ∈ news) (hv : StrsAre vs xs) (h : Q (.bool (!decide (x ∈ xs))) s) :
    wpAny (model prog w) A (compareOp .NotIn (.str x t) (.ref l)) Q E s := by
  have e : xs.any (· == x) = decide (x ∈ xs) := by
    rw [List.any_eq]; congr 1; simp
  exact notin_list_strs (vs := vs) ⟨_, (N _ hl).1, rfl, _, rfl⟩ hv (e ▸ h)
theorem len_list {l : Addr} {vs : List Value} {n : Nat} (N : News h₀ L s.heap news) (hl : (l, listOf vs.toArray n) ∈ news) (hz : vs.length ≤ 1000) (h : Q (.int vs.length (s.toks + 1)) { s with toks := s.toks + 1 + 1 }) :
    wpAny (model prog w) A (call (.builtin "len") [.ref l]) Q E s :=
  call_len_list (items := vs.toArray) ⟨_, (N _ hl).1, rfl, _, rfl⟩ (by simp; omega) (by simpa using h)
theorem append_at1 {l : Addr} {vs : List Value} {n : Nat} {x : Value} (F : Fr h₀ L s.heap m) (N : News h₀ L s.heap ((l, listOf vs.toArray n) :: fro)) (ho : ∀ p ∈ fro, p.1 ≠ l) (hz : vs.length ≤ 1000)
    (h : ∀ h', Fr h₀ L h' m → News h₀ L h' ((l, listOf (vs ++ [x]).toArray (n + 1)) :: fro) → Q .none { s with heap := h' }) : wpAny (model prog w) A (call (.builtin "list.append") [.ref l, x]) Q E s :=
  append_K F N (.head ho) (fun h' F' N' => h h' F' (by simpa using N')) (by simp [sizeLine_eq]; omega)
theorem reverse_at {l : Addr} {vs : List Value} {n : Nat} (F : Fr h₀ L s.heap m) (N : News h₀ L s.heap ((l, listOf vs.toArray n) :: fro)) (ho : ∀ p ∈ fro, p.1 ≠ l) (hz : vs.length ≤ 1000)
    (h : ∀ h' n', Fr h₀ L h' m → News h₀ L h' ((l, listOf vs.reverse.toArray n') :: fro) → Q .none { s with heap := h' }) : wpAny (model prog w) A (call (.builtin "list.reverse") [.ref l]) Q E s :=
  kl_reverse F N rfl (.head ho) (by simp [sizeLine_eq]; omega) fun h' F' N' => h h' _ F' (by simpa using N')
theorem kl_last_snoc (y : Value) : ∀ p : List Value, kl_last (p ++ [y]) = some (p, y)
  | [] => rfl
  | x :: r => by rw [List.cons_append, kl_last, kl_last_snoc y r]
theorem pop_at {l : Addr} {p : List Value} {y : Value} {n : Nat} (F : Fr h₀ L s.heap m) (N : News h₀ L s.heap ((l, listOf (p ++ [y]).toArray n) :: fro)) (ho : ∀ p ∈ fro, p.1 ≠ l) (hz : p.length ≤ 1000)
    (h : ∀ h' n', Fr h₀ L h' m → News h₀ L h' ((l, listOf p.toArray n') :: fro) → Q y { s with heap := h' }) : wpAny (model prog w) A (call (.builtin "list.pop") [.ref l]) Q E s :=
  kl_pop F N (p := p) (y := y) (by simpa using kl_last_snoc y p) (.head ho) (by simp [sizeLine_eq]; omega) fun h' F' N' => h h' _ F' N'
theorem sort_strs {l : Addr} {vs : List Value} {n : Nat} {xs : List Str} (F : Fr h₀ L s.heap m) (N : News h₀ L s.heap news) (hl : (l, listOf vs.toArray n) ∈ news) (hv : StrsAre vs xs) (hz : vs.length < 64)
    (h : ∀ D h' vs' n' xs', StrsAre vs' xs' → xs'.Perm xs → Fr h₀ L h' m → News h₀ L h' ((D, listOf vs'.toArray n') :: news) → (∀ p ∈ news, p.1 < D) → Q (.ref D) { s with heap := h' }) : wpAny (model prog w) A (call (.builtin "sorted") [.ref l]) Q E s :=
  PyProof.Rows.sorted_N_str F N ⟨_, (N _ hl).1, rfl, _, rfl⟩ hv hz fun h' vs' xs' e F' N' hv' hp _ => h _ h' vs' e xs' hv' hp F' N' fun p hp => Nat.lt_succ_of_lt (Heap.lt_size (N p hp).1)
theorem in_strsT {l : Addr} {vs : List Value} {xs : List Str} {n : Nat} {x : Str} {t : Tok} (N : News h₀ L s.heap news) (hl : (l, listOf vs.toArray n) ∈ news) (hv : StrsAre vs xs) (hx : x ∈ xs) (h : Q (.bool true) s) :
    wpAny (model prog w) A (compareOp .In (.str x t) (.ref l)) Q E s := in_strs N hl hv (by rw [decide_eq_true hx]; exact h)
theorem in_strsF {l : Addr} {vs : List Value} {xs : List Str} {n : Nat} {x : Str} {t : Tok} (N : News h₀ L s.heap news) (hl : (l, listOf vs.toArray n) ∈ news) (hv : StrsAre vs xs) (hx : x ∉ xs) (h : Q (.bool false) s) :
    wpAny (model prog w) A (compareOp .In (.str x t) (.ref l)) Q E s := in_strs N hl hv (by rw [decide_eq_false hx]; exact h)
theorem notin_strsT {l : Addr} {vs : List Value} {xs : List Str} {n : Nat} {x : Str} {t : Tok} (N : News h₀ L s.heap news) (hl : (l, listOf vs.toArray n) ∈ news) (hv : StrsAre vs xs) (hx : x ∉ xs) (h : Q (.bool true) s) :
    wpAny (model prog w) A (compareOp .NotIn (.str x t) (.ref l)) Q E s := notin_strs N hl hv (by rw [decide_eq_false hx]; exact h)
theorem notin_strsF {l : Addr} {vs : List Value} {xs : List Str} {n : Nat} {x : Str} {t : Tok} (N : News h₀ L s.heap news) (hl : (l, listOf vs.toArray n) ∈ news) (hv : StrsAre vs xs) (hx : x ∈ xs) (h : Q (.bool false) s) :
    wpAny (model prog w) A (compareOp .NotIn (.str x t) (.ref l)) Q E s := notin_strs N hl hv (by rw [decide_eq_true hx]; exact h)
theorem dict_notinT {d : Addr} {o : Obj} {kvs : List (Str × Value)} {x : Str} {t : Tok} (N : News h₀ L s.heap news) (hm : (d, o) ∈ news) (hd : o.IsDictOf (PySem.strKind prog w) kvs) (lo : (d == sysModules) = false) (hv : valueAt kvs x = none) (h : Q (.bool true) { s with toks := s.toks + 1 }) :
    wpAny (model prog w) A (compareOp .NotIn (.str x t) (.ref d)) Q E s := kdg_notin (knd := PySem.strKind prog w) (k := x) N hm hd lo (strKind_is _ _ _ _) false (by rw [hv]; rfl) h
theorem dict_notinF {d : Addr} {o : Obj} {kvs : List (Str × Value)} {x : Str} {t : Tok} {v : Value} (N : News h₀ L s.heap news) (hm : (d, o) ∈ news) (hd : o.IsDictOf (PySem.strKind prog w) kvs) (lo : (d == sysModules) = false) (hv : valueAt kvs x = some v) (h : Q (.bool false) { s with toks := s.toks + 1 }) :
    wpAny (model prog w) A (compareOp .NotIn (.str x t) (.ref d)) Q E s := kdg_notin (knd := PySem.strKind prog w) (k := x) N hm hd lo (strKind_is _ _ _ _) true (by rw [hv]; rfl) h
theorem dict_inT {d : Addr} {o : Obj} {kvs : List (Str × Value)} {x : Str} {t : Tok} {v : Value} (N : News h₀ L s.heap news) (hm : (d, o) ∈ news) (hd : o.IsDictOf (PySem.strKind prog w) kvs) (lo : (d == sysModules) = false) (hv : valueAt kvs x = some v) (h : Q (.bool true) { s with toks := s.toks + 1 }) :
    wpAny (model prog w) A (compareOp .In (.str x t) (.ref d)) Q E s := kda_in (knd := PySem.strKind prog w) (k := x) N hm hd lo (strKind_is _ _ _ _) true (by rw [hv]; rfl) h
theorem dict_inF {d : Addr} {o : Obj} {kvs : List (Str × Value)} {x : Str} {t : Tok} (N : News h₀ L s.heap news) (hm : (d, o) ∈ news) (hd : o.IsDictOf (PySem.strKind prog w) kvs) (lo : (d == sysModules) = false) (hv : valueAt kvs x = none) (h : Q (.bool false) { s with toks := s.toks + 1 }) :
    wpAny (model prog w) A (compareOp .In (.str x t) (.ref d)) Q E s := kda_in (knd := PySem.strKind prog w) (k := x) N hm hd lo (strKind_is _ _ _ _) false (by rw [hv]; rfl) h
theorem dict_item {value slice : PySem.Expr} {d : Addr} {o : Obj} {kvs : List (Str × Value)} {x : Str} {t : Tok} {v : Value} (N : News h₀ L s.heap news) (hm : (d, o) ∈ news) (hd : o.IsDictOf (PySem.strKind prog w) kvs) (hv : valueAt kvs x = some v) (h : Q v { s with toks := s.toks + 1 })
    (hs : subscripted slice false (.ref d) (.str x t) = operate [.ref d, .str x t] (getItem (.ref d) (.str x t)) := by with_unfolding_all rfl) (hg : ∀ r, letTemporaryGo value (.ref d) r = pure () := by intro _; with_unfolding_all rfl) :
    wpAny (model prog w) A (subscriptTail value slice (.ref d) (.str x t)) Q E s := kda_item (knd := PySem.strKind prog w) (k := x) N hm hd (strKind_is _ _ _ _) hv h hs hg
theorem dict_set1 {d : Addr} {o : Obj} {kvs : List (Str × Value)} {x : Str} {t : Tok} {v : Value} {Q : Unit → Shared → Prop} (F : Fr h₀ L s.heap m) (N : News h₀ L s.heap ((d, o) :: fro)) (ho : ∀ p ∈ fro, p.1 ≠ d) (hd : o.IsDictOf (PySem.strKind prog w) kvs) (hv : valueAt kvs x = none) (hz : kvs.length ≤ 1000)
    (h : ∀ h' o', Fr h₀ L h' m → News h₀ L h' ((d, o') :: fro) → o'.IsDictOf (PySem.strKind prog w) (kvs ++ [(x, v)]) → Q () { s with heap := h', toks := s.toks + 1 }) : wpAny (model prog w) A (setItem (.ref d) (.str x t) v) Q E s := by
  have hm := N (d, o) (.head _)
  refine wpAny_setItem_pairs (hsz := by rw [sizeLine_eq]; omega) (knd := PySem.strKind prog w) (k := x) (strKind_is _ _ _ _) (Heap.dictOf_iff.mpr ⟨o, hm.1, hd⟩) fun h' hmm hs => ?_
  obtain ⟨o', ho', hd'⟩ := Heap.dictOf_iff.mp hmm
  rw [stored_new hv] at hd'
  exact h h' o' (F.change hs hm.2.1 hm.2.2) (news_set (pre := []) N (fun _ hp => (nomatch hp)) ho hs ho') hd'
theorem add_list {t b : Addr} {vs us : List Value} {n k : Nat} (F : Fr h₀ L s.heap m) (N : News h₀ L s.heap news) (ht : (t, listOf vs.toArray n) ∈ news) (hb : (b, listOf us.toArray k) ∈ news) (hz : vs.length + us.length ≤ 1000)
    (h : ∀ d h', Fr h₀ L h' m → News h₀ L h' ((d, listOf (vs ++ us).toArray 0) :: news) → (∀ p ∈ news, p.1 < d) → Q (.ref d) { s with heap := h' }) :
    wpAny (model prog w) A (binaryOp .Add (.ref t) (.ref b)) Q E s :=
  add_lists F N ⟨_, (N _ ht).1, rfl, _, rfl⟩ ⟨_, (N _ hb).1, rfl, _, rfl⟩ (fun h' F' N' => h _ h' F' N' fun p hp => Heap.lt_size (N p hp).1) (by rw [sizeLine_eq]; omega)
theorem slice1_tup {value slice : PySem.Expr} {t : Addr} {v0 : Value} {vs : List Value} {u : Tok} (F : Fr h₀ L s.heap m) (N : News h₀ L s.heap news) (ht : (t, tupO (v0 :: vs)) ∈ news) (hz : vs.length ≤ 1000)
    (h : ∀ D h', Fr h₀ L h' m → News h₀ L h' ((D, tupO vs) :: news) → (∀ p ∈ news, p.1 < D) → Q (.ref D) { s with heap := h' })
    (hs : subscripted slice false (.ref t) (.ref s.heap.objs.size) = operate [.ref s.heap.objs.size, .ref t] (getItem (.ref t) (.ref s.heap.objs.size)) := by with_unfolding_all rfl)
    (hg : ∀ r, letTemporaryGo value (.ref t) r = pure () := by intro _; with_unfolding_all rfl) :
    wpAny (model prog w) A (subscriptTail value slice (.ref t) (.ref s.heap.objs.size)) Q E { s with heap := s.heap.push { cls := .type "slice", data := .fields #[.int 1 u, .none, .none] } } :=
  slice_tuple_from (a := 1) (items := (v0 :: vs).toArray) F N ⟨_, (N _ ht).1, rfl, _, rfl⟩ (Nat.le_refl _) (by simp) (fun h' F' N' => h _ h' F' (by simpa using N') fun p hp => Nat.lt_succ_of_lt (Heap.lt_size (N p hp).1)) hs hg (by simp [sizeLine_eq]; omega)
theorem eq_nilT {a b : Addr} {vs : List Value} {n k : Nat} (N : News h₀ L s.heap news) (ha : (a, listOf vs.toArray n) ∈ news) (hb : (b, listOf #[] k) ∈ news) (hu : A.units < cLine) (hx : vs = []) (h : Q (.bool true) s) :
    wpAny (model prog w) A (compareOp .Eq (.ref a) (.ref b)) Q E s := by
  subst hx
  exact PySem.SeqAt.eq_listAt (items := #[]) (items2 := #[]) (e := fun _ => true) ⟨_, (N _ ha).1, rfl, _, rfl⟩ ⟨_, (N _ hb).1, rfl, _, rfl⟩ rfl hu (fun j h1 _ => absurd h1 (by simp)) h
theorem eq_nilF {a b : Addr} {vs : List Value} {n k : Nat} (N : News h₀ L s.heap news) (ha : (a, listOf vs.toArray n) ∈ news) (hb : (b, listOf #[] k) ∈ news) (hu : A.units < cLine) (hx : vs ≠ []) (h : Q (.bool false) s) :
    wpAny (model prog w) A (compareOp .Eq (.ref a) (.ref b)) Q E s :=
  PySem.SeqAt.eq_list_lengthsAt (items := vs.toArray) (items2 := #[]) ⟨_, (N _ ha).1, rfl, _, rfl⟩ ⟨_, (N _ hb).1, rfl, _, rfl⟩ (by cases vs with | nil => exact absurd rfl hx | cons _ _ => simp) hu h
theorem ne_nilF {a b : Addr} {vs : List Value} {n k : Nat} (N : News h₀ L s.heap news) (ha : (a, listOf vs.toArray n) ∈ news) (hb : (b, listOf #[] k) ∈ news) (hu : A.units < cLine) (hx : vs = []) (h : Q (.bool false) s) :
    wpAny (model prog w) A (compareOp .NotEq (.ref a) (.ref b)) Q E s := by
  subst hx
  exact PySem.SeqAt.RcNeAt.lists (items := #[]) (items2 := #[]) (e := fun _ => true) ⟨_, (N _ ha).1, rfl, _, rfl⟩ ⟨_, (N _ hb).1, rfl, _, rfl⟩ rfl hu (fun j h1 _ => absurd h1 (by simp)) prog w E Q h
theorem ne_nilT {a b : Addr} {vs : List Value} {n k : Nat} (N : News h₀ L s.heap news) (ha : (a, listOf vs.toArray n) ∈ news) (hb : (b, listOf #[] k) ∈ news) (hu : A.units < cLine) (hx : vs ≠ []) (h : Q (.bool true) s) :
    wpAny (model prog w) A (compareOp .NotEq (.ref a) (.ref b)) Q E s :=
  PySem.SeqAt.RcNeAt.lists_lengths (items := vs.toArray) (items2 := #[]) ⟨_, (N _ ha).1, rfl, _, rfl⟩ ⟨_, (N _ hb).1, rfl, _, rfl⟩ (by cases vs with | nil => exact absurd rfl hx | cons _ _ => simp) hu prog w E Q h
theorem readsAll_strs {h : Heap} {vs : List Value} {xs : List Str} (hv : StrsAre vs xs) : ReadsAll h vs (xs.map PyData.str) [] := by
  induction hv with
  | nil => exact .nil
  | cons y t _ ih => exact .cons (as := []) (.str y t) ih
end

end RulesPart
section JoinedPart
open PySem PySem.W PyProof.Rows PySem.Calls
structure Val where
  w : Int
  p : Option Str
  m : Option Str
noncomputable def OptIn (fro : List (Addr × Obj)) (b : Addr) (o : Option Str) : Prop := ∃ vs, (b, tupO vs) ∈ fro ∧ StrsAre vs o.toList
theorem OptIn.mono {f g : List (Addr × Obj)} {b : Addr} {o : Option Str} (h : OptIn f b o) (s : ∀ p ∈ f, p ∈ g) : OptIn g b o :=
  let ⟨vs, h1, h2⟩ := h; ⟨vs, s _ h1, h2⟩
theorem opt_len (o : Option Str) : o.toList.length ≤ 1 := by cases o <;> simp
inductive WIn (fro : List (Addr × Obj)) : Value → Val → Prop
  | mk {a b c i t p m} : (a, tupO [.int i t, .ref b, .ref c]) ∈ fro → OptIn fro b p → OptIn fro c m → WIn fro (.ref a) ⟨i, p, m⟩
theorem WIn.mono {f g : List (Addr × Obj)} {v : Value} {x : Val} (h : WIn f v x) (s : ∀ p ∈ f, p ∈ g) : WIn g v x := by
  cases h with
  | mk h k l => exact .mk (s _ h) (k.mono s) (l.mono s)
noncomputable def joinStep (z : List Str × List Str) (x : Str) : List Str × List Str := if x ∈ z.1 then (z.1.erase x, z.2) else (z.1, z.2 ++ [x])
noncomputable def joinL (ps ms : List Str) : List Str × List Str := ms.foldl joinStep (ps, [])
theorem joinL_len (ps ms : List Str) : (joinL ps ms).1.length ≤ ps.length ∧ (joinL ps ms).2.length ≤ ms.length := by
  have go : ∀ (ms : List Str) (z : List Str × List Str), (ms.foldl joinStep z).1.length ≤ z.1.length ∧ (ms.foldl joinStep z).2.length ≤ z.2.length + ms.length := by
    intro ms
    induction ms with
    | nil => intro z; exact ⟨Nat.le_refl _, Nat.le_refl _⟩
    | cons x r ih =>
      intro z
      have h := ih (joinStep z x)
      have h1 : (joinStep z x).1.length ≤ z.1.length := by unfold joinStep; split; exact List.length_erase_le; exact Nat.le_refl _
      have h2 : (joinStep z x).2.length ≤ z.2.length + 1 := by unfold joinStep; split <;> simp
      simp only [List.foldl_cons, List.length_cons]
      omega
  have := go ms (ps, [])
  simpa [joinL] using this
theorem joinL_take {ps ms : List Str} {i : Nat} {x : Str} (h : ms[i]? = some x) : joinL ps (ms.take (i + 1)) = joinStep (joinL ps (ms.take i)) x := by
  unfold joinL
  rw [List.take_add_one, h]; simp
noncomputable def joinV (a b : Val) : Option Val :=
  let z := joinL (a.p.toList ++ b.p.toList) (a.m.toList ++ b.m.toList)
  if z.1.length < 2 ∧ z.2.length < 2 then some ⟨a.w + b.w, z.1.head?, z.2.head?⟩ else none
theorem joinV_some {a b : Val} (h : (joinL (a.p.toList ++ b.p.toList) (a.m.toList ++ b.m.toList)).1.length < 2) (k : (joinL (a.p.toList ++ b.p.toList) (a.m.toList ++ b.m.toList)).2.length < 2) :
    joinV a b = some ⟨a.w + b.w, (joinL (a.p.toList ++ b.p.toList) (a.m.toList ++ b.m.toList)).1.head?, (joinL (a.p.toList ++ b.p.toList) (a.m.toList ++ b.m.toList)).2.head?⟩ := by
  unfold joinV; simp only; rw [if_pos ⟨h, k⟩]
theorem joinV_none {a b : Val} (h : ¬ ((joinL (a.p.toList ++ b.p.toList) (a.m.toList ++ b.m.toList)).1.length < 2 ∧ (joinL (a.p.toList ++ b.p.toList) (a.m.toList ++ b.m.toList)).2.length < 2)) : joinV a b = none := by
  unfold joinV; simp only; rw [if_neg h]
theorem head_toList {l : List Str} (h : l.length < 2) : l.head?.toList = l := by
  match l, h with
  | [], _ => rfl
  | [x], _ => rfl
  | _ :: _ :: _, h => simp at h; omega
/-- what _law_joined hands back -/
noncomputable def OWIn (fro : List (Addr × Obj)) (v : Value) : Option Val → Prop
  | none => v = .none
  | some x => WIn fro v x

local macro_rules | `(tactic| walk_at "binaryOp Add ref ref") => `(tactic| (k_here; k_dflt (refine' add_tup (by k_asm) (by k_asm) (by k_mem) (by k_mem) (by omega) ?_); intro d' D' h' hl' hm' F' N'))
local macro_rules | `(tactic| walk_at "call type:list") => `(tactic| (k_here; (with_reducible show wpAny _ _ (call (Value.type _) [Value.ref _]) _ _ _); k_dflt (refine' list_of_tup (by k_asm) (by k_asm) (by k_mem) (by (try simp only [List.length_append]); omega) ?_); intro D' c' h' F' N' l1; (try k_lt l1)))
local macro_rules | `(tactic| walk_at "compareOp In str ref") => `(tactic| (k_here; k_dflt (refine' in_strs (by k_asm) (by k_mem) (by assumption) ?_)))
local macro_rules | `(tactic| walk_at $k) => stopAt ["call builtin:list.remove"] k
local macro_rules | `(tactic| walk_at "call builtin:len") => `(tactic| (k_here; k_dflt (refine' len_list (by k_asm) (by k_mem) (by omega) ?_)))
local macro_rules | `(tactic| walk_at "call type:tuple") => `(tactic| (k_here; k_dflt (refine' tup_of_list (by k_asm) (by k_asm) (by k_mem) (by omega) ?_); intro D' h' F' N' l1; (try k_lt l1)))
theorem OWIn.mono {f g : List (Addr × Obj)} {v : Value} {x : Option Val} (h : OWIn f v x) (s : ∀ p ∈ f, p ∈ g) : OWIn g v x := by
  cases x with
  | none => exact h
  | some x => exact WIn.mono h s
/-- what holds in the loop of joined -/
inductive JoJ (ps ms : List Str) (la lb : Addr) (base : List (Addr × Obj)) (i : Nat) (news₁ : List (Addr × Obj)) : Prop
  | mk (vs : List Value) (n : Nat) (us : List Value) (k : Nat) (e : news₁ = (la, listOf vs.toArray n) :: (lb, listOf us.toArray k) :: base) (sv : StrsAre vs (joinL ps (ms.take i)).1) (su : StrsAre us (joinL ps (ms.take i)).2) : JoJ ps ms la lb base i news₁
theorem joined_call {w : World} {mean : ExcName → Option Value} {mg mb : Str → Option Value} {dp un : Nat} {gd : Option (List Code)} {cn : Str} {cs : Scope} {a : Addr} {ccd : Value} {cl : List (Str × Addr)} {outer : List Env} {A₀ : Around} {base h₀ : Heap} {L : Addr} {m : Str → Option Value} {s : Shared} {E : Value → Shared → Prop} {v u : Value} {x y : Val} {fro : List (Addr × Obj)} {Q : Value → Shared → Prop} (B : Below A₀ base outer h₀) (F : Fr h₀ L s.heap m) (X : (hd.heap_1 w.params).In h₀) (T : Top vw (looseW vw lse) mean mg mb h₀) (hk : cs.kind = .function)
    (N : News h₀ L s.heap fro) (hx : WIn fro v x) (hy : WIn fro u y)
    (hd : dp + 4 < 1000) (hu : un + 100 < 9900)
    (ret : ∀ r D h' tk', OWIn D r (joinV x y) → Later D fro → Fr h₀ L h' m → News h₀ L h' (D ++ fro) → Q r { s with heap := h', toks := tk' }) :
    wpAny (model (RowW.prog (OpenRow.toRowW (OpenLaw.row PySem.Challenge.rw_pb0420_01))) w) (ktrTop dp un gd cn cs L a ccd cl outer) (call (.ref 396) [v, u]) Q E s := by
  revert X; k_fill; intro X
  cases hx with
  | mk hx1 hx2 hx3 =>
  cases hy with
  | mk hy1 hy2 hy3 =>
  rename_i a1 b1 c1 i1 t1 p1 m1 a2 b2 c2 i2 t2 p2 m2
  obtain ⟨vp1, hx2, sp1⟩ := hx2
  obtain ⟨vm1, hx3, sm1⟩ := hx3
  obtain ⟨vp2, hy2, sp2⟩ := hy2
  obtain ⟨vm2, hy3, sm2⟩ := hy3
  have lp1 := strsAre_length sp1; have lp2 := strsAre_length sp2; have lm1 := strsAre_length sm1; have lm2 := strsAre_length sm2
  have op1 := opt_len p1; have op2 := opt_len p2; have om1 := opt_len m1; have om2 := opt_len m2
  refine wpAny_call ?_
  (show codeAny _ _ (Code.call _ ⟨[?x1_0, ?x1_1], []⟩) _ _; k_dflt (refine' code_def (binds := [(Str.ofString "one", ?x1_0), (Str.ofString "other", ?x1_1)]) ?k1 ?k2 ?k3 ?k4 ?k5 ?kA ?kF ?kK ?k6 ?k7 ?k8 ?k9 ?kB ?_ ?c2 ?c3 ?c4 ?c5; (case kA => exact rfl); (case kF => exact rfl); (case kK => first | exact rfl | assumption); (case k1 => k_asm); (case k2 => k_asm); (case k3 => k_asm); (case k4 => k_asm); (case k5 => k_asm); (case k6 => k_is); (case k7 => k_is); (case k8 => ktr_room); (case k9 => first | exact BindsTo.of_eq rfl | exact binds_K (by k_in) rfl (by k_is) rfl rfl rfl); (case c5 => decide); (case kB => exact locs rfl); (case c2 => exact rfl); (case c3 => exact rfl); (case c4 => exact rfl); k_whole; intro g' L' h' FG' F' N' B' X' T'; (try dsimp only); (try k_fold)))
  k_steps
  walk_at "FOR"
  k_steps
  rename_i d1 D1 h1 hl1 hm1 la c1 h2 l2 lb h3 l3 tp h4 l4 h5 h6 h7 lF9 N9 d2 D2 h8 hl2 hm2 F8 N8
  have hab := neN (a := la) (b := lb) (by omega)
  have N9 := news_sub N8 (l' := (la, listOf (vp1 ++ vp2).toArray c1) :: (lb, listOf ([] : List Value).toArray 0) :: (D2 ++ (tp, tupO [.ref la, .ref lb]) :: (D1 ++ fro))) (by walk_at "MEM")
  have hm3 : (d2, tupO (vm1 ++ vm2)) ∈ (la, listOf (vp1 ++ vp2).toArray c1) :: (lb, listOf ([] : List Value).toArray 0) :: (D2 ++ (tp, tupO [.ref la, .ref lb]) :: (D1 ++ fro)) := (show ∀ p ∈ _, p ∈ _ from by walk_at "MEM") _ hm2
  have hoa : ∀ p ∈ D2 ++ (tp, tupO [.ref la, .ref lb]) :: (D1 ++ fro), p.1 ≠ la := by k_all
  have hob : ∀ p ∈ D2 ++ (tp, tupO [.ref la, .ref lb]) :: (D1 ++ fro), p.1 ≠ lb := by k_all
  refine stop_in (for_tuple0 (vs := vm1 ++ vm2) (JoJ (p1.toList ++ p2.toList) (m1.toList ++ m2.toList) la lb (D2 ++ (tp, tupO [.ref la, .ref lb]) :: (D1 ++ fro))) rfl F8 N9 hm3 ⟨_, _, [], _, rfl, strsAre_append sp1 sp2, .nil⟩ ?_ ?_)
  · intro i v news₁ I io h tk hv hJ hlm hoI F1 N1
    obtain ⟨vs, n, us, k, rfl, sv, su⟩ := hJ
    obtain ⟨x, tx, rfl, hx⟩ := strsAre_get (strsAre_append sm1 sm2) hv
    have hIa : la ≠ I := hoI _ (.head _)
    have hIb : lb ≠ I := hoI _ (.tail _ (.head _))
    have hz1 := strsAre_length sv
    have hz2 := strsAre_length su
    have hz3 := joinL_len (p1.toList ++ p2.toList) ((m1.toList ++ m2.toList).take i)
    have hz4 : ((m1.toList ++ m2.toList).take i).length ≤ 2 := by simp [List.length_take]; omega
    simp only [List.length_append] at hz3
    k_steps
    · rename_i hin _
      rename Fr _ _ _ _ => Fz
      rename News _ _ _ _ => Nz
      refine stop_in (remove_str Fz (news_sub Nz (l' := (la, listOf vs.toArray n) :: (I, io) :: (lb, listOf us.toArray k) :: (D2 ++ (tp, tupO [.ref la, .ref lb]) :: (D1 ++ fro))) (by walk_at "MEM")) (by simp only [List.forall_mem_cons]; exact ⟨Ne.symm hIa, Ne.symm hab, hoa⟩) sv hin (by omega) fun h5 vs5 n5 sv5 F5 N5 => ?_)
      k_steps
      refine TurnEnd.intro F5 (news_sub N5 (l' := (I, io) :: (la, listOf vs5.toArray n5) :: (lb, listOf us.toArray k) :: (D2 ++ (tp, tupO [.ref la, .ref lb]) :: (D1 ++ fro))) (by walk_at "MEM")) ?_ ?_ ⟨⟨_, rfl⟩, _, _, _, _, rfl, ?_, ?_⟩
      · exact List.forall_mem_cons.mpr ⟨hIa, fun p hp => hoI p (.tail _ hp)⟩
      · rcases List.mem_cons.mp hlm with e | e
        · exact (tup_not_list e).elim
        · exact .tail _ e
      · rw [joinL_take hx]; unfold joinStep; rw [if_pos hin]; exact sv5
      · rw [joinL_take hx]; unfold joinStep; rw [if_pos hin]; exact su
    · rename_i hin _ _ _ _
      rename Fr _ _ _ _ => Fz
      rename News _ _ _ _ => Nz
      rw [List.push_toArray] at Nz
      refine TurnEnd.intro Fz (news_sub Nz (l' := (I, io) :: (la, listOf vs.toArray n) :: (lb, listOf (us ++ [Value.str x tx]).toArray (k + 1)) :: (D2 ++ (tp, tupO [.ref la, .ref lb]) :: (D1 ++ fro))) (by walk_at "MEM")) ?_ ?_ ⟨⟨_, rfl⟩, _, _, _, _, rfl, ?_, ?_⟩
      · exact List.forall_mem_cons.mpr ⟨hIa, List.forall_mem_cons.mpr ⟨hIb, fun p hp => hoI p (.tail _ (.tail _ hp))⟩⟩
      · rcases List.mem_cons.mp hlm with e | e
        · exact (tup_not_list e).elim
        · rcases List.mem_cons.mp e with e | e
          · exact (tup_not_list e).elim
          · exact .tail _ (.tail _ e)
      · rw [joinL_take hx]; unfold joinStep; rw [if_neg hin]; exact sv
      · rw [joinL_take hx]; unfold joinStep; rw [if_neg hin]; exact strsAre_append su (.cons x tx .nil)
  · intro u news₁ h tk hJ hlm F1 N1
    obtain ⟨vs, n, us, k, rfl, sv, su⟩ := hJ
    rw [show (vm1 ++ vm2).length = (m1.toList ++ m2.toList).length from strsAre_length (strsAre_append sm1 sm2), List.take_length] at sv su
    have hz1 := strsAre_length sv
    have hz2 := strsAre_length su
    have hz3 := joinL_len (p1.toList ++ p2.toList) (m1.toList ++ m2.toList)
    rw [List.length_append, List.length_append] at hz3
    k_steps
    · rename_i ha hb tA hA lA tB hB lB tC hC FC NC lC kF kN Tc kX
      have q1 : (joinL (p1.toList ++ p2.toList) (m1.toList ++ m2.toList)).1.length < 2 := by omega
      have q2 : (joinL (p1.toList ++ p2.toList) (m1.toList ++ m2.toList)).2.length < 2 := by omega
      refine ret (.ref tC) ((tC, tupO [.int (i1 + i2) _, .ref tA, .ref tB]) :: (tB, tupO us) :: (tA, tupO vs) :: (la, listOf vs.toArray n) :: (lb, listOf us.toArray k) :: (D2 ++ (tp, tupO [.ref la, .ref lb]) :: D1)) _ _ ?_ (by krn_off) kF (by simpa only [List.cons_append, List.append_assoc] using kN)
      rw [joinV_some (a := ⟨i1, p1, m1⟩) (b := ⟨i2, p2, m2⟩) q1 q2]
      exact WIn.mk (.head _) ⟨vs, .tail _ (.tail _ (.head _)), by rw [head_toList q1]; exact sv⟩ ⟨us, .tail _ (.head _), by rw [head_toList q2]; exact su⟩
    · rename_i ha hb kF kN Tc kX
      have q : ¬ ((joinL (p1.toList ++ p2.toList) (m1.toList ++ m2.toList)).1.length < 2 ∧ (joinL (p1.toList ++ p2.toList) (m1.toList ++ m2.toList)).2.length < 2) := by omega
      refine ret _ ((la, listOf vs.toArray n) :: (lb, listOf us.toArray k) :: (D2 ++ (tp, tupO [.ref la, .ref lb]) :: D1)) _ _ ?_ (by krn_off) kF (by simpa only [List.cons_append, List.append_assoc] using kN)
      rw [joinV_none (a := ⟨i1, p1, m1⟩) (b := ⟨i2, p2, m2⟩) q]; rfl
    · rename_i ha kF kN Tc kX
      have q : ¬ ((joinL (p1.toList ++ p2.toList) (m1.toList ++ m2.toList)).1.length < 2 ∧ (joinL (p1.toList ++ p2.toList) (m1.toList ++ m2.toList)).2.length < 2) := by omega
      refine ret _ ((la, listOf vs.toArray n) :: (lb, listOf us.toArray k) :: (D2 ++ (tp, tupO [.ref la, .ref lb]) :: D1)) _ _ ?_ (by krn_off) kF (by simpa only [List.cons_append, List.append_assoc] using kN)
      rw [joinV_none (a := ⟨i1, p1, m1⟩) (b := ⟨i2, p2, m2⟩) q]; rfl

end JoinedPart
section PurePart
open PySem PySem.W PyProof.Rows PySem.Calls
section
variable {β : Type}
noncomputable def lk (kn : List (Str × β)) (x : Str) : Option β := (kn.find? fun p => p.1 = x).map (·.2)
theorem lk_nil (x : Str) : lk ([] : List (Str × β)) x = none := rfl
theorem lk_cons (y : Str) (b : β) (r : List (Str × β)) (x : Str) : lk ((y, b) :: r) x = if y = x then some b else lk r x := by
  unfold lk; rw [List.find?_cons]
  by_cases e : y = x <;> simp [e]
theorem lk_none {kn : List (Str × β)} {x : Str} : lk kn x = none ↔ x ∉ kn.map (·.1) := by
  induction kn with
  | nil => simp [lk_nil]
  | cons p r ih =>
    obtain ⟨y, b⟩ := p
    rw [lk_cons]
    by_cases e : y = x
    · simp [e]
    · simp only [if_neg e, ih, List.map_cons, List.mem_cons, not_or]
      exact ⟨fun h => ⟨fun q => e q.symm, h⟩, fun h => h.2⟩
theorem lk_mem {kn : List (Str × β)} {x : Str} {b : β} (h : lk kn x = some b) : (x, b) ∈ kn := by
  induction kn with
  | nil => simp [lk_nil] at h
  | cons p r ih =>
    obtain ⟨y, c⟩ := p
    rw [lk_cons] at h
    by_cases e : y = x
    · rw [if_pos e] at h; cases h; subst e; exact .head _
    · rw [if_neg e] at h; exact .tail _ (ih h)
theorem lk_some {kn : List (Str × β)} {x : Str} (h : x ∈ kn.map (·.1)) : ∃ b, lk kn x = some b := by
  cases e : lk kn x with
  | none => exact absurd h (lk_none.mp e)
  | some b => exact ⟨b, rfl⟩
theorem lk_append {kn : List (Str × β)} {x y : Str} {b : β} : lk (kn ++ [(y, b)]) x = (lk kn x).or (if y = x then some b else none) := by
  induction kn with
  | nil => rw [List.nil_append, lk_cons, lk_nil]; rfl
  | cons p r ih =>
    obtain ⟨z, c⟩ := p
    rw [List.cons_append, lk_cons, lk_cons, ih]
    by_cases e : z = x <;> simp [e]
theorem lk_of_mem {kn : List (Str × β)} {x : Str} {b : β} (hn : (kn.map (·.1)).Nodup) (h : (x, b) ∈ kn) : lk kn x = some b := by
  induction kn with
  | nil => cases h
  | cons p r ih =>
    obtain ⟨y, c⟩ := p
    rw [lk_cons]
    simp only [List.map_cons, List.nodup_cons] at hn
    rcases List.mem_cons.mp h with e | h
    · cases e; rw [if_pos rfl]
    · rw [if_neg (fun e : y = x => hn.1 (by rw [e]; exact List.mem_map_of_mem (f := (·.1)) h)), ih hn.2 h]
/-- a dict's items and what they mean -/
inductive Rel2 (R : Value → β → Prop) : List (Str × Value) → List (Str × β) → Prop
  | nil : Rel2 R [] []
  | cons {x v b kvs bs} : R v b → Rel2 R kvs bs → Rel2 R ((x, v) :: kvs) ((x, b) :: bs)
theorem Rel2.mono {R S : Value → β → Prop} {kvs : List (Str × Value)} {bs : List (Str × β)} (h : Rel2 R kvs bs) (s : ∀ v b, R v b → S v b) : Rel2 S kvs bs := by
  induction h with
  | nil => exact .nil
  | cons h _ ih => exact .cons (s _ _ h) ih
theorem Rel2.keys {R : Value → β → Prop} {kvs : List (Str × Value)} {bs : List (Str × β)} (h : Rel2 R kvs bs) : kvs.map (·.1) = bs.map (·.1) := by
  induction h with
  | nil => rfl
  | cons _ _ ih => simp [ih]
theorem Rel2.length {R : Value → β → Prop} {kvs : List (Str × Value)} {bs : List (Str × β)} (h : Rel2 R kvs bs) : kvs.length = bs.length := by
  induction h with
  | nil => rfl
  | cons _ _ ih => simp [ih]
theorem Rel2.append {R : Value → β → Prop} {kvs : List (Str × Value)} {bs : List (Str × β)} (h : Rel2 R kvs bs) {x : Str} {v : Value} {b : β} (r : R v b) : Rel2 R (kvs ++ [(x, v)]) (bs ++ [(x, b)]) := by
  induction h with
  | nil => exact .cons r .nil
  | cons h _ ih => exact .cons h ih
theorem Rel2.at {R : Value → β → Prop} {kvs : List (Str × Value)} {bs : List (Str × β)} (h : Rel2 R kvs bs) (x : Str) :
    (lk bs x = none ∧ valueAt kvs x = none) ∨ ∃ v b, lk bs x = some b ∧ valueAt kvs x = some v ∧ R v b := by
  induction h with
  | nil => exact .inl ⟨rfl, rfl⟩
  | @cons y v b kvs bs r _ ih =>
    rw [lk_cons]
    unfold valueAt
    rw [List.find?_cons]
    by_cases e : y = x
    · exact .inr ⟨v, b, by simp [e], by simp [e], r⟩
    · rcases ih with ⟨i1, i2⟩ | ⟨v', b', i1, i2, i3⟩
      · exact .inl ⟨by simp [e, i1], by simpa [e, valueAt] using i2⟩
      · exact .inr ⟨v', b', by simp [e, i1], by simpa [e, valueAt] using i2, i3⟩
end
/-- what a told tree is worth -/
inductive Ev (kn : List (Str × Tr)) : Nat → Tr → Val → Prop
  | num {n i} : Ev kn n (.num i) ⟨i, none, none⟩
  | lab {n x} : lk kn x = none → Ev kn n (.nam x) ⟨0, some x, none⟩
  | nam {n x t v} : lk kn x = some t → Ev kn n t v → Ev kn (n + 1) (.nam x) v
  | neg {n t v} : Ev kn n t v → Ev kn (n + 1) (.neg t) ⟨0 - v.w, v.m, v.p⟩
  | add {n l r a b v} : Ev kn n l a → Ev kn n r b → joinV a b = some v → Ev kn (n + 1) (.bin .add l r) v
  | sub {n l r a b v} : Ev kn n l a → Ev kn n r b → joinV a ⟨0 - b.w, b.m, b.p⟩ = some v → Ev kn (n + 1) (.bin .sub l r) v
  | mul {n l r i j} : Ev kn n l ⟨i, none, none⟩ → Ev kn n r ⟨j, none, none⟩ → Ev kn (n + 1) (.bin .mul l r) ⟨i * j, none, none⟩
theorem Ev.mono {kn : List (Str × Tr)} {n : Nat} {t : Tr} {v : Val} (h : Ev kn n t v) : ∀ {m}, n ≤ m → Ev kn m t v := by
  induction h with
  | num => intro m _; exact .num
  | lab h => intro m _; exact .lab h
  | nam h _ ih => intro m hm; obtain ⟨m, rfl⟩ : ∃ k, m = k + 1 := ⟨m - 1, by omega⟩; exact .nam h (ih (by omega))
  | neg _ ih => intro m hm; obtain ⟨m, rfl⟩ : ∃ k, m = k + 1 := ⟨m - 1, by omega⟩; exact .neg (ih (by omega))
  | add _ _ h i1 i2 => intro m hm; obtain ⟨m, rfl⟩ : ∃ k, m = k + 1 := ⟨m - 1, by omega⟩; exact .add (i1 (by omega)) (i2 (by omega)) h
  | sub _ _ h i1 i2 => intro m hm; obtain ⟨m, rfl⟩ : ∃ k, m = k + 1 := ⟨m - 1, by omega⟩; exact .sub (i1 (by omega)) (i2 (by omega)) h
  | mul _ _ i1 i2 => intro m hm; obtain ⟨m, rfl⟩ : ∃ k, m = k + 1 := ⟨m - 1, by omega⟩; exact .mul (i1 (by omega)) (i2 (by omega))
theorem Ev.det {kn : List (Str × Tr)} {n : Nat} {t : Tr} {v : Val} (h : Ev kn n t v) : ∀ {m u}, Ev kn m t u → u = v := by
  induction h with
  | num => intro m u k; cases k; rfl
  | lab h => intro m u k; cases k with
    | lab _ => rfl
    | nam h' _ => rw [h] at h'; cases h'
  | nam h _ ih => intro m u k; cases k with
    | lab h' => rw [h] at h'; cases h'
    | nam h' k => rw [h] at h'; cases h'; exact ih k
  | neg _ ih => intro m u k; cases k with | neg k => rw [ih k]
  | add _ _ h i1 i2 => intro m u k; cases k with
    | add k1 k2 h' => have e1 := i1 k1; have e2 := i2 k2; subst e1; subst e2; rw [h] at h'; cases h'; rfl
  | sub _ _ h i1 i2 => intro m u k; cases k with
    | sub k1 k2 h' => have e1 := i1 k1; have e2 := i2 k2; subst e1; subst e2; rw [h] at h'; cases h'; rfl
  | mul _ _ i1 i2 => intro m u k; cases k with
    | mul k1 k2 => have e1 := i1 k1; have e2 := i2 k2; injection e1; injection e2; simp_all
noncomputable def Has (kn : List (Str × Tr)) (t : Tr) : Prop := ∃ n v, Ev kn n t v
/-- r is the worth of t, none where it has none -/
noncomputable def Worth (kn : List (Str × Tr)) (t : Tr) (r : Option Val) : Prop := match r with
  | some v => ∃ n, Ev kn n t v
  | none => ¬ Has kn t
theorem Ev.self {kn : List (Str × Tr)} {t : Tr} (h : ∀ n v, Ev kn n t v → ∃ m, m < n ∧ ∃ u, Ev kn m t u) : ¬ Has kn t := by
  rintro ⟨n, v, k⟩
  induction n using Nat.strongRecOn generalizing v with
  | ind n ih => obtain ⟨m, hm, u, k'⟩ := h n v k; exact ih m hm u k'
/-- each name in ax leans on t -/
noncomputable def Leans (kn : List (Str × Tr)) (ax : List Str) (t : Tr) : Prop := ∀ x ∈ ax, ∀ n v, Ev kn n (.nam x) v → ∃ m, m < n ∧ ∃ u, Ev kn m t u
theorem Leans.nil {kn : List (Str × Tr)} {t : Tr} : Leans kn [] t := fun _ h => (nomatch h)
theorem Leans.neg {kn : List (Str × Tr)} {ax : List Str} {t : Tr} (h : Leans kn ax (.neg t)) : Leans kn ax t := fun x hx n v k => by
  obtain ⟨m, hm, u, k'⟩ := h x hx n v k
  cases k' with | neg k' => exact ⟨_, by omega, _, k'⟩
theorem Leans.left {kn : List (Str × Tr)} {ax : List Str} {o : Op} {l r : Tr} (h : Leans kn ax (.bin o l r)) : Leans kn ax l := fun x hx n v k => by
  obtain ⟨m, hm, u, k'⟩ := h x hx n v k
  cases k' with
  | add k1 _ _ => exact ⟨_, by omega, _, k1⟩
  | sub k1 _ _ => exact ⟨_, by omega, _, k1⟩
  | mul k1 _ => exact ⟨_, by omega, _, k1⟩
theorem Leans.right {kn : List (Str × Tr)} {ax : List Str} {o : Op} {l r : Tr} (h : Leans kn ax (.bin o l r)) : Leans kn ax r := fun x hx n v k => by
  obtain ⟨m, hm, u, k'⟩ := h x hx n v k
  cases k' with
  | add _ k1 _ => exact ⟨_, by omega, _, k1⟩
  | sub _ k1 _ => exact ⟨_, by omega, _, k1⟩
  | mul _ k1 => exact ⟨_, by omega, _, k1⟩
theorem Leans.nam {kn : List (Str × Tr)} {ax : List Str} {x : Str} {t : Tr} (h : Leans kn ax (.nam x)) (hx : lk kn x = some t) : Leans kn (ax ++ [x]) t := fun y hy n v k => by
  rcases List.mem_append.mp hy with hy | hy
  · obtain ⟨m, hm, u, k'⟩ := h y hy n v k
    cases k' with
    | lab h' => rw [hx] at h'; cases h'
    | nam h' k' => rw [hx] at h'; cases h'; exact ⟨_, by omega, _, k'⟩
  · rw [List.mem_singleton.mp hy] at k
    cases k with
    | lab h' => rw [hx] at h'; cases h'
    | nam h' k' => rw [hx] at h'; cases h'; exact ⟨_, Nat.lt_succ_self _, _, k'⟩
theorem Leans.ring {kn : List (Str × Tr)} {ax : List Str} {x : Str} (h : Leans kn ax (.nam x)) (hx : x ∈ ax) : ¬ Has kn (.nam x) := Ev.self fun n v k => h x hx n v k
noncomputable def Tr.lv : Tr → Nat
  | .num _ => 1
  | .nam _ => 1
  | .neg t => t.lv
  | .bin _ l r => l.lv + r.lv
theorem Tr.lv_pos (t : Tr) : 1 ≤ t.lv := by induction t <;> simp only [Tr.lv] <;> omega
theorem worth_nam {kn : List (Str × Tr)} {x : Str} {t : Tr} {r : Option Val} (hx : lk kn x = some t) (h : Worth kn t r) : Worth kn (.nam x) r := by
  cases r with
  | some v => obtain ⟨n, h⟩ := h; exact ⟨n + 1, .nam hx h⟩
  | none =>
    rintro ⟨n, v, k⟩
    cases k with
    | lab h' => rw [hx] at h'; cases h'
    | nam h' k' => rw [hx] at h'; cases h'; exact h ⟨_, _, k'⟩
theorem worth_neg {kn : List (Str × Tr)} {t : Tr} {r : Option Val} (h : Worth kn t r) : Worth kn (.neg t) (r.map fun v => ⟨0 - v.w, v.m, v.p⟩) := by
  cases r with
  | some v => obtain ⟨n, h⟩ := h; exact ⟨n + 1, .neg h⟩
  | none =>
    rintro ⟨n, v, k⟩
    cases k with | neg k => exact h ⟨_, _, k⟩
theorem worth_left {kn : List (Str × Tr)} {o : Op} {l r : Tr} (h : Worth kn l none) : Worth kn (.bin o l r) none := by
  rintro ⟨n, v, k⟩
  cases k with
  | add k _ _ => exact h ⟨_, _, k⟩
  | sub k _ _ => exact h ⟨_, _, k⟩
  | mul k _ => exact h ⟨_, _, k⟩
theorem worth_right {kn : List (Str × Tr)} {o : Op} {l r : Tr} (h : Worth kn r none) : Worth kn (.bin o l r) none := by
  rintro ⟨n, v, k⟩
  cases k with
  | add _ k _ => exact h ⟨_, _, k⟩
  | sub _ k _ => exact h ⟨_, _, k⟩
  | mul _ k => exact h ⟨_, _, k⟩
theorem worth_add {kn : List (Str × Tr)} {l r : Tr} {a b : Val} (h : Worth kn l (some a)) (k : Worth kn r (some b)) : Worth kn (.bin .add l r) (joinV a b) := by
  obtain ⟨n, h⟩ := h
  obtain ⟨m, k⟩ := k
  cases e : joinV a b with
  | some v => exact ⟨_, .add (h.mono (Nat.le_max_left n m)) (k.mono (Nat.le_max_right n m)) e⟩
  | none =>
    rintro ⟨i, v, z⟩
    cases z with | add z1 z2 e' => rw [h.det z1, k.det z2, e] at e'; cases e'
theorem worth_sub {kn : List (Str × Tr)} {l r : Tr} {a b : Val} (h : Worth kn l (some a)) (k : Worth kn r (some b)) : Worth kn (.bin .sub l r) (joinV a ⟨0 - b.w, b.m, b.p⟩) := by
  obtain ⟨n, h⟩ := h
  obtain ⟨m, k⟩ := k
  cases e : joinV a ⟨0 - b.w, b.m, b.p⟩ with
  | some v => exact ⟨_, .sub (h.mono (Nat.le_max_left n m)) (k.mono (Nat.le_max_right n m)) e⟩
  | none =>
    rintro ⟨i, v, z⟩
    cases z with | sub z1 z2 e' => rw [h.det z1, k.det z2, e] at e'; cases e'
/-- a product, where both are numbers -/
noncomputable def mulV (a b : Val) : Option Val := if (a.p = none ∧ a.m = none) ∧ b.p = none ∧ b.m = none then some ⟨a.w * b.w, none, none⟩ else none
theorem mulV_some {i j : Int} : mulV ⟨i, none, none⟩ ⟨j, none, none⟩ = some ⟨i * j, none, none⟩ := by unfold mulV; simp
theorem mulV_none {a b : Val} (h : ¬ ((a.p = none ∧ a.m = none) ∧ b.p = none ∧ b.m = none)) : mulV a b = none := by unfold mulV; rw [if_neg h]
theorem worth_mul {kn : List (Str × Tr)} {l r : Tr} {a b : Val} (h : Worth kn l (some a)) (k : Worth kn r (some b)) : Worth kn (.bin .mul l r) (mulV a b) := by
  obtain ⟨n, h⟩ := h
  obtain ⟨m, k⟩ := k
  obtain ⟨i, p, q⟩ := a
  obtain ⟨j, p', q'⟩ := b
  unfold mulV
  by_cases c : (p = none ∧ q = none) ∧ p' = none ∧ q' = none
  · obtain ⟨⟨rfl, rfl⟩, rfl, rfl⟩ := c
    rw [if_pos (by simp)]
    exact ⟨_, .mul (h.mono (Nat.le_max_left n m)) (k.mono (Nat.le_max_right n m))⟩
  · rw [if_neg c]
    rintro ⟨i, v, z⟩
    cases z with
    | mul z1 z2 =>
      have e1 := h.det z1
      have e2 := k.det z2
      injection e1 with a1 a2 a3
      injection e2 with b1 b2 b3
      exact c ⟨⟨a2.symm, a3.symm⟩, b2.symm, b3.symm⟩
theorem two_pow_add {a b : Nat} {p q : Nat} (ha : a < 2 ^ p) (hb : b < 2 ^ q) (hp : 1 ≤ p) (hq : 1 ≤ q) : a + b < 2 ^ (p + q) := by
  have h1 : 2 ^ 1 ≤ 2 ^ p := Nat.pow_le_pow_right (by decide) hp
  have h2 : 2 ^ 1 ≤ 2 ^ q := Nat.pow_le_pow_right (by decide) hq
  rw [Nat.pow_add]
  have h3 : 2 * 2 ^ q ≤ 2 ^ p * 2 ^ q := Nat.mul_le_mul_right _ h1
  have h4 : 2 ^ p * 2 ≤ 2 ^ p * 2 ^ q := Nat.mul_le_mul_left _ h2
  omega
theorem joinV_w {a b v : Val} (h : joinV a b = some v) : v.w = a.w + b.w := by
  unfold joinV at h
  simp only at h
  split at h
  · cases h; rfl
  · cases h
theorem bits_sum {a b c p q k1 k2 : Nat} (ha : a < 2 ^ (7 * p * 4 ^ k1)) (hb : b < 2 ^ (7 * q * 4 ^ k2)) (hc : c ≤ a + b) (hk : k1 ≤ k2) (hp : 1 ≤ p) (hq : 1 ≤ q) : c < 2 ^ (7 * (p + q) * 4 ^ k2) := by
  have h4 : 1 ≤ 4 ^ k2 := Nat.one_le_pow _ _ (by decide)
  have e : 7 * (p + q) * 4 ^ k2 = 7 * p * 4 ^ k2 + 7 * q * 4 ^ k2 := by rw [Nat.mul_add, Nat.add_mul]
  rw [e]
  refine Nat.lt_of_le_of_lt hc (two_pow_add (Nat.lt_of_lt_of_le ha (Nat.pow_le_pow_right (by decide) (Nat.mul_le_mul_left _ (Nat.pow_le_pow_right (by decide) hk)))) hb ?_ ?_)
  · exact Nat.mul_pos (by omega) h4
  · exact Nat.mul_pos (by omega) h4
theorem bits_prod {a b p q k1 k2 : Nat} (ha : a < 2 ^ (7 * p * 4 ^ k1)) (hb : b < 2 ^ (7 * q * 4 ^ k2)) (hk : k1 ≤ k2) : a * b < 2 ^ (7 * (p + q) * 4 ^ k2) := by
  have e : 7 * (p + q) * 4 ^ k2 = 7 * p * 4 ^ k2 + 7 * q * 4 ^ k2 := by rw [Nat.mul_add, Nat.add_mul]
  rw [e, Nat.pow_add]
  have ha' := Nat.lt_of_lt_of_le ha (Nat.pow_le_pow_right (j := 7 * p * 4 ^ k2) (by decide) (Nat.mul_le_mul_left _ (Nat.pow_le_pow_right (by decide) hk)))
  exact Nat.mul_lt_mul'' ha' hb
theorem mul_ok {a b : Int} {p q k1 k2 : Nat} (ha : a.natAbs < 2 ^ (7 * p * 4 ^ k1)) (hb : b.natAbs < 2 ^ (7 * q * 4 ^ k2)) (hp : p ≤ 4) (hq : q ≤ 4) (h1 : k1 ≤ 7) (h2 : k2 ≤ 7) : IntMulOk a b := by
  have go : ∀ {x : Int} {n : Nat}, x.natAbs < 2 ^ n → Builtin.Int.intBits x ≤ n := by
    intro x n h
    unfold Builtin.Int.intBits
    split
    · exact Nat.zero_le _
    · rename_i hx
      have hpos : x.natAbs ≠ 0 := by simpa using hx
      exact (Nat.log2_lt hpos).mpr h
  have bd : ∀ {n k : Nat}, n ≤ 4 → k ≤ 7 → 7 * n * 4 ^ k ≤ 458752 := by
    intro n k hn hk
    have h1 : 4 ^ k ≤ 4 ^ 7 := Nat.pow_le_pow_right (by decide) hk
    have h2 : 7 * n * 4 ^ k ≤ (7 * 4) * 4 ^ 7 := Nat.mul_le_mul (by omega) h1
    exact Nat.le_trans h2 (by decide)
  have h1 := Nat.le_trans (go ha) (bd hp h1)
  have h2 := Nat.le_trans (go hb) (bd hq h2)
  unfold IntMulOk Builtin.Int.intTooBig
  intro h
  simp only [Bool.and_eq_true, decide_eq_true_eq] at h
  have h3 := h.2
  have e : (bitsLine : Int) = 134217728 := by decide
  rw [e] at h3
  omega
noncomputable def Val.ok (v : Val) : Prop := (∀ x, v.p = some x → isLabel x) ∧ ∀ x, v.m = some x → isLabel x
theorem label_list {o : Option Str} (h : ∀ x, o = some x → isLabel x) : ∀ x ∈ o.toList, isLabel x := by
  cases o with
  | none => intro x hx; simp at hx
  | some y => intro x hx; simp at hx; rw [hx]; exact h y rfl
theorem joinL_sub (ps ms : List Str) : (∀ x ∈ (joinL ps ms).1, x ∈ ps) ∧ (∀ x ∈ (joinL ps ms).2, x ∈ ms) ∧ ∀ x ∈ (joinL ps ms).2, x ∉ (joinL ps ms).1 := by
  have go : ∀ (ms : List Str) (z : List Str × List Str), (∀ x ∈ z.2, x ∉ z.1) → (∀ x ∈ (ms.foldl joinStep z).1, x ∈ z.1) ∧ (∀ x ∈ (ms.foldl joinStep z).2, x ∈ z.2 ∨ x ∈ ms) ∧ ∀ x ∈ (ms.foldl joinStep z).2, x ∉ (ms.foldl joinStep z).1 := by
    intro ms
    induction ms with
    | nil => intro z hz; exact ⟨fun x h => h, fun x h => .inl h, hz⟩
    | cons y r ih =>
      intro z hz
      rw [List.foldl_cons]
      have hz' : ∀ x ∈ (joinStep z y).2, x ∉ (joinStep z y).1 := by
        unfold joinStep
        split
        · intro x hx h; exact hz x hx (List.mem_of_mem_erase h)
        · rename_i hy
          intro x hx h
          rcases List.mem_append.mp hx with hx | hx
          · exact hz x hx h
          · rw [List.mem_singleton.mp hx] at h; exact hy h
      obtain ⟨i1, i2, i3⟩ := ih (joinStep z y) hz'
      refine ⟨fun x h => ?_, fun x h => ?_, i3⟩
      · have := i1 x h
        unfold joinStep at this
        split at this
        · exact List.mem_of_mem_erase this
        · exact this
      · rcases i2 x h with h | h
        · unfold joinStep at h
          split at h
          · exact .inl h
          · rcases List.mem_append.mp h with h | h
            · exact .inl h
            · rw [List.mem_singleton.mp h]; exact .inr (.head _)
        · exact .inr (.tail _ h)
  obtain ⟨h1, h2, h3⟩ := go ms (ps, []) (fun _ h => (nomatch h))
  exact ⟨h1, fun x h => (h2 x h).elim (fun h => (nomatch h)) id, h3⟩
theorem joinV_ok {a b v : Val} (ha : a.ok) (hb : b.ok) (h : joinV a b = some v) : v.ok := by
  unfold joinV at h
  simp only at h
  split at h
  · cases h
    obtain ⟨h1, h2, _⟩ := joinL_sub (a.p.toList ++ b.p.toList) (a.m.toList ++ b.m.toList)
    refine ⟨fun x hx => ?_, fun x hx => ?_⟩
    · have := h1 x (List.mem_of_mem_head? (by simpa using hx))
      exact (List.mem_append.mp this).elim (label_list ha.1 x) (label_list hb.1 x)
    · have := h2 x (List.mem_of_mem_head? (by simpa using hx))
      exact (List.mem_append.mp this).elim (label_list ha.2 x) (label_list hb.2 x)
  · cases h
noncomputable def Full (M : Int) (kn : List (Str × Tr)) : Prop := (∀ k, 0 ≤ k → k < M → eqName k ∈ kn.map (·.1)) ∧ ∀ p ∈ kn, p.2.ok M 2
theorem Ev.okv {M : Int} {kn : List (Str × Tr)} {n : Nat} {t : Tr} {v : Val} (hf : Full M kn) (h : Ev kn n t v) : ∀ {d}, t.ok M d → v.ok := by
  induction h with
  | num => intro d _; exact ⟨fun _ h => (nomatch h), fun _ h => (nomatch h)⟩
  | @lab n x hx =>
    intro d hok
    have hl : isLabel x := by
      have : isLabel x ∨ ∃ k : Int, 0 ≤ k ∧ k < M ∧ x = eqName k := by cases d <;> exact hok
      rcases this with h | ⟨k, h1, h2, rfl⟩
      · exact h
      · exact absurd (hf.1 k h1 h2) (lk_none.mp hx)
    exact ⟨fun y h => by cases h; exact hl, fun _ h => (nomatch h)⟩
  | nam hx _ ih => intro d _; exact ih (hf.2 _ (lk_mem hx))
  | neg _ ih =>
    intro d hok
    cases d with
    | zero => exact hok.elim
    | succ d => have := ih (d := d) hok; exact ⟨this.2, this.1⟩
  | add _ _ h i1 i2 =>
    intro d hok
    cases d with
    | zero => exact hok.elim
    | succ d => exact joinV_ok (i1 hok.1) (i2 hok.2) h
  | sub _ _ h i1 i2 =>
    intro d hok
    cases d with
    | zero => exact hok.elim
    | succ d => exact joinV_ok (i1 hok.1) ⟨(i2 hok.2).2, (i2 hok.2).1⟩ h
  | mul _ _ _ _ => intro d _; exact ⟨fun _ h => (nomatch h), fun _ h => (nomatch h)⟩
theorem Worth.okv {M : Int} {kn : List (Str × Tr)} {t : Tr} {v : Val} {d : Nat} (hf : Full M kn) (h : Worth kn t (some v)) (hok : t.ok M d) : v.ok := let ⟨_, h⟩ := h; h.okv hf hok
section
variable {prog : Program} {w : World} {A : Around} {E : Value → Shared → Prop} {s : Shared} {h₀ : Heap} {L : Addr} {m : Str → Option Value} {news : List (Addr × Obj)} {Q : Value → Shared → Prop}
theorem reads_opt {a b c : Addr} {p q : Option Str} (N : News h₀ L s.heap news) (hm : (a, tupO [.ref b, .ref c]) ∈ news) (hp : OptIn news b p) (hq : OptIn news c q) :
    Reads s.heap (.ref a) (.tuple [.tuple (p.toList.map PyData.str), .tuple (q.toList.map PyData.str)]) [] := by
  obtain ⟨vp, m1, s1⟩ := hp
  obtain ⟨vq, m2, s2⟩ := hq
  exact .tuple (N _ hm).1 rfl rfl (.cons (as := []) (.tuple (N _ m1).1 rfl rfl (readsAll_strs s1)) (.cons (as := []) (.tuple (N _ m2).1 rfl rfl (readsAll_strs s2)) .nil))
theorem eq_units {a b c a' b' c' : Addr} {p q : Option Str} (N : News h₀ L s.heap news) (hm : (a, tupO [.ref b, .ref c]) ∈ news) (hp : OptIn news b p) (hq : OptIn news c q)
    (hm' : (a', tupO [.ref b', .ref c']) ∈ news) (hb' : (b', tupO []) ∈ news) (hc' : (c', tupO []) ∈ news) (lp : ∀ x, p = some x → isLabel x) (lq : ∀ x, q = some x → isLabel x) (hu : A.units + 64 < cLine)
    (h : Q (.bool (decide (p = none ∧ q = none))) s) : wpAny (model prog w) A (compareOp .Eq (.ref a) (.ref a')) Q E s := by
  have r1 := reads_opt N hm hp hq
  have r2 := reads_opt (p := none) (q := none) N hm' ⟨[], hb', .nil⟩ ⟨[], hc', .nil⟩
  have sh : ∀ o : Option Str, (∀ x, o = some x → isLabel x) → o = none ∨ o = some (Str.ofString "north") ∨ o = some (Str.ofString "south") ∨ o = some (Str.ofString "east") := by
    intro o ho
    cases o with
    | none => exact .inl rfl
    | some x => rcases ho x rfl with rfl | rfl | rfl <;> simp
  have e : PySem.Spec.same (.tuple [.tuple (p.toList.map PyData.str), .tuple (q.toList.map PyData.str)]) (.tuple [.tuple ((none : Option Str).toList.map PyData.str), .tuple ((none : Option Str).toList.map PyData.str)]) = decide (p = none ∧ q = none) := by
    rcases sh p lp with rfl | rfl | rfl | rfl <;> rcases sh q lq with rfl | rfl | rfl | rfl <;> decide +kernel
  refine eq_dataH_same r1 r2 ?_ (by decide +kernel) hu ?_ ?_
  · rcases sh p lp with rfl | rfl | rfl | rfl <;> rcases sh q lq with rfl | rfl | rfl | rfl <;> decide +kernel
  · rcases sh p lp with rfl | rfl | rfl | rfl <;> rcases sh q lq with rfl | rfl | rfl | rfl <;> decide +kernel
  · rw [e]; exact h
theorem eq_unitsT {a b c a' b' c' : Addr} {p q : Option Str} (N : News h₀ L s.heap news) (hm : (a, tupO [.ref b, .ref c]) ∈ news) (hp : OptIn news b p) (hq : OptIn news c q)
    (hm' : (a', tupO [.ref b', .ref c']) ∈ news) (hb' : (b', tupO []) ∈ news) (hc' : (c', tupO []) ∈ news) (lp : ∀ x, p = some x → isLabel x) (lq : ∀ x, q = some x → isLabel x) (hu : A.units + 64 < cLine) (hc : p = none ∧ q = none)
    (h : Q (.bool true) s) : wpAny (model prog w) A (compareOp .Eq (.ref a) (.ref a')) Q E s := eq_units N hm hp hq hm' hb' hc' lp lq hu (by rw [decide_eq_true hc]; exact h)
theorem eq_unitsF {a b c a' b' c' : Addr} {p q : Option Str} (N : News h₀ L s.heap news) (hm : (a, tupO [.ref b, .ref c]) ∈ news) (hp : OptIn news b p) (hq : OptIn news c q)
    (hm' : (a', tupO [.ref b', .ref c']) ∈ news) (hb' : (b', tupO []) ∈ news) (hc' : (c', tupO []) ∈ news) (lp : ∀ x, p = some x → isLabel x) (lq : ∀ x, q = some x → isLabel x) (hu : A.units + 64 < cLine) (hc : ¬ (p = none ∧ q = none))
    (h : Q (.bool false) s) : wpAny (model prog w) A (compareOp .Eq (.ref a) (.ref a')) Q E s := eq_units N hm hp hq hm' hb' hc' lp lq hu (by rw [decide_eq_false hc]; exact h)
end

end PurePart
section AffPart
open PySem PySem.W PyProof.Rows PySem.Calls
noncomputable def optS (o : Option Str) : Str := o.getD (Str.ofString "")
inductive AIn (fro : List (Addr × Obj)) : Value → Val → Prop
  | mk {x dx h1 h2 h3 t1 t2 t3 t4 t5 t6 i p m} : (x, instObj 260 dx) ∈ fro → (dx, dictOf [kv h1 "worth" t1 (.int i t2), kv h2 "plus" t3 (.str (optS p) t4), kv h3 "minus" t5 (.str (optS m) t6)] 3) ∈ fro → AIn fro (.ref x) ⟨i, p, m⟩
theorem AIn.mono {f g : List (Addr × Obj)} {v : Value} {a : Val} (h : AIn f v a) (s : ∀ p ∈ f, p ∈ g) : AIn g v a := by
  cases h with
  | mk h k => exact .mk (s _ h) (s _ k)
/-- labels, and not the same on both sides -/
noncomputable def Val.fit (v : Val) : Prop := v.ok ∧ (optS v.p = optS v.m → v.p = none ∧ v.m = none)
section
variable {prog : Program} {w : World} {A : Around} {E : Value → Shared → Prop} {s : Shared} {x y : Str} {t u : Tok} {Q : Value → Shared → Prop}
theorem ne_strT (hne : x ≠ y) (h : Q (.bool true) s) : wpAny (model prog w) A (compareOp .NotEq (.str x t) (.str y u)) Q E s :=
  PyProof.Rows.ne_str (by rw [show (x != y) = true from by simpa using hne]; exact h)
theorem ne_strF (he : x = y) (h : Q (.bool false) s) : wpAny (model prog w) A (compareOp .NotEq (.str x t) (.str y u)) Q E s :=
  PyProof.Rows.ne_str (by rw [show (x != y) = false from by simpa using he]; exact h)
end
local macro_rules | `(tactic| walk_at "compareOp NotEq str str") => `(tactic| (first | ((with_reducible refine' ne_strT ?ne ?_); (case ne => with_reducible assumption)) | ((with_reducible refine' ne_strF ?ne ?_); (case ne => with_reducible assumption))))
theorem aff3_call {w : World} {mean : ExcName → Option Value} {mg mb : Str → Option Value} {dp un : Nat} {gd : Option (List Code)} {cn : Str} {cs : Scope} {a : Addr} {ccd : Value} {cl : List (Str × Addr)} {outer : List Env} {A₀ : Around} {base h₀ : Heap} {L : Addr} {m : Str → Option Value} {s : Shared} {E : Value → Shared → Prop} {i : Int} {ti tp tm : Tok} {p m' : Option Str} {news : List (Addr × Obj)} {Q : Value → Shared → Prop} (B : Below A₀ base outer h₀) (F : Fr h₀ L s.heap m) (X : (hd.heap_1 w.params).In h₀) (T : Top vw (looseW vw lse) mean mg mb h₀) (hk : cs.kind = .function)
    (N : News h₀ L s.heap news) (hf : optS p = optS m' → p = none ∧ m' = none) (hd : dp + 4 < 1000) (hu : un + 100 < 9900)
    (ret : ∀ r D h' tk', AIn D r ⟨i, p, m'⟩ → Later D news → Fr h₀ L h' m → News h₀ L h' (D ++ news) → Q r { s with heap := h', toks := tk' }) :
    wpAny (model (RowW.prog (OpenRow.toRowW (OpenLaw.row PySem.Challenge.rw_pb0420_01))) w) (ktrTop dp un gd cn cs L a ccd cl outer) (call (.ref 260) [.int i ti, .str (optS p) tp, .str (optS m') tm]) Q E s := by
  revert X; k_fill; intro X
  by_cases c : optS p = optS m'
  · obtain ⟨rfl, rfl⟩ := hf c
    (k_dflt (refine' call_cls ?k1 ?k2 ?k3 ?k4 ?k5 ?k6 ?_; (case k1 => k_asm); (case k2 => k_asm); (case k3 => k_asm); (case k4 => k_is); (case k5 => k_is); (case k6 => k_is); k_whole); intro x' d' h' F' N' l1 l2; (try k_lt l1); (try k_lt2 l2))
    (k_dflt (refine' code_def (binds := [(Str.ofString "self", .ref x'), (Str.ofString "worth", .int i ti), (Str.ofString "plus", .str (optS none) tp), (Str.ofString "minus", .str (optS none) tm)]) ?k1 ?k2 ?k3 ?k4 ?k5 ?kA ?kF ?kK ?k6 ?k7 ?k8 ?k9 ?kB ?_ ?c2 ?c3 ?c4 ?c5; (case kA => exact rfl); (case kF => exact rfl); (case kK => first | exact rfl | assumption); (case k1 => k_asm); (case k2 => k_asm); (case k3 => k_asm); (case k4 => k_asm); (case k5 => k_asm); (case k6 => k_is); (case k7 => k_is); (case k8 => ktr_room); (case k9 => first | exact BindsTo.of_eq rfl | exact binds_K (by k_in) rfl (by k_is) rfl rfl rfl); (case c5 => decide); (case kB => exact locs rfl); (case c2 => exact rfl); (case c3 => exact rfl); (case c4 => exact rfl); k_whole; intro g' L' h' FG' F' N' B' X' T'; (try dsimp only); (try k_fold)))
    k_steps
    rename_i kF kN Tc kX
    exact ret _ [_, _] _ _ (AIn.mk (.head _) (.tail _ (.head _))) (by krn_off) kF kN
  · (k_dflt (refine' call_cls ?k1 ?k2 ?k3 ?k4 ?k5 ?k6 ?_; (case k1 => k_asm); (case k2 => k_asm); (case k3 => k_asm); (case k4 => k_is); (case k5 => k_is); (case k6 => k_is); k_whole); intro x' d' h' F' N' l1 l2; (try k_lt l1); (try k_lt2 l2))
    (k_dflt (refine' code_def (binds := [(Str.ofString "self", .ref x'), (Str.ofString "worth", .int i ti), (Str.ofString "plus", .str (optS p) tp), (Str.ofString "minus", .str (optS m') tm)]) ?k1 ?k2 ?k3 ?k4 ?k5 ?kA ?kF ?kK ?k6 ?k7 ?k8 ?k9 ?kB ?_ ?c2 ?c3 ?c4 ?c5; (case kA => exact rfl); (case kF => exact rfl); (case kK => first | exact rfl | assumption); (case k1 => k_asm); (case k2 => k_asm); (case k3 => k_asm); (case k4 => k_asm); (case k5 => k_asm); (case k6 => k_is); (case k7 => k_is); (case k8 => ktr_room); (case k9 => first | exact BindsTo.of_eq rfl | exact binds_K (by k_in) rfl (by k_is) rfl rfl rfl); (case c5 => decide); (case kB => exact locs rfl); (case c2 => exact rfl); (case c3 => exact rfl); (case c4 => exact rfl); k_whole; intro g' L' h' FG' F' N' B' X' T'; (try dsimp only); (try k_fold)))
    k_steps
    rename_i kF kN Tc kX
    exact ret _ [_, _] _ _ (AIn.mk (.head _) (.tail _ (.head _))) (by krn_off) kF kN
theorem aff2_call {w : World} {mean : ExcName → Option Value} {mg mb : Str → Option Value} {dp un : Nat} {gd : Option (List Code)} {cn : Str} {cs : Scope} {a : Addr} {ccd : Value} {cl : List (Str × Addr)} {outer : List Env} {A₀ : Around} {base h₀ : Heap} {L : Addr} {m : Str → Option Value} {s : Shared} {E : Value → Shared → Prop} {i : Int} {ti tp : Tok} {x : Str} {news : List (Addr × Obj)} {Q : Value → Shared → Prop} (B : Below A₀ base outer h₀) (F : Fr h₀ L s.heap m) (X : (hd.heap_1 w.params).In h₀) (T : Top vw (looseW vw lse) mean mg mb h₀) (hk : cs.kind = .function)
    (N : News h₀ L s.heap news) (hx : x ≠ Str.ofString "") (hd : dp + 4 < 1000) (hu : un + 100 < 9900)
    (ret : ∀ r D h' tk', AIn D r ⟨i, some x, none⟩ → Later D news → Fr h₀ L h' m → News h₀ L h' (D ++ news) → Q r { s with heap := h', toks := tk' }) :
    wpAny (model (RowW.prog (OpenRow.toRowW (OpenLaw.row PySem.Challenge.rw_pb0420_01))) w) (ktrTop dp un gd cn cs L a ccd cl outer) (call (.ref 260) [.int i ti, .str x tp]) Q E s := by
  revert X; k_fill; intro X
  (k_dflt (refine' call_cls ?k1 ?k2 ?k3 ?k4 ?k5 ?k6 ?_; (case k1 => k_asm); (case k2 => k_asm); (case k3 => k_asm); (case k4 => k_is); (case k5 => k_is); (case k6 => k_is); k_whole); intro x' d' h' F' N' l1 l2; (try k_lt l1); (try k_lt2 l2))
  (k_dflt (refine' code_def (binds := [(Str.ofString "self", .ref x'), (Str.ofString "worth", .int i ti), (Str.ofString "plus", .str x tp), (Str.ofString "minus", .str (Str.ofString "") 454)]) ?k1 ?k2 ?k3 ?k4 ?k5 ?kA ?kF ?kK ?k6 ?k7 ?k8 ?k9 ?kB ?_ ?c2 ?c3 ?c4 ?c5; (case kA => exact rfl); (case kF => exact rfl); (case kK => first | exact rfl | assumption); (case k1 => k_asm); (case k2 => k_asm); (case k3 => k_asm); (case k4 => k_asm); (case k5 => k_asm); (case k6 => k_is); (case k7 => k_is); (case k8 => ktr_room); (case k9 => first | exact BindsTo.of_eq rfl | exact binds_K (by k_in) rfl (by k_is) rfl rfl rfl); (case c5 => decide); (case kB => exact locs rfl); (case c2 => exact rfl); (case c3 => exact rfl); (case c4 => exact rfl); k_whole; intro g' L' h' FG' F' N' B' X' T'; (try dsimp only); (try k_fold)))
  k_steps
  rename_i kF kN Tc kX
  exact ret _ [_, _] _ _ (AIn.mk (p := some x) (m := none) (.head _) (.tail _ (.head _))) (by krn_off) kF kN
theorem aff1_call {w : World} {mean : ExcName → Option Value} {mg mb : Str → Option Value} {dp un : Nat} {gd : Option (List Code)} {cn : Str} {cs : Scope} {a : Addr} {ccd : Value} {cl : List (Str × Addr)} {outer : List Env} {A₀ : Around} {base h₀ : Heap} {L : Addr} {m : Str → Option Value} {s : Shared} {E : Value → Shared → Prop} {i : Int} {ti : Tok} {news : List (Addr × Obj)} {Q : Value → Shared → Prop} (B : Below A₀ base outer h₀) (F : Fr h₀ L s.heap m) (X : (hd.heap_1 w.params).In h₀) (T : Top vw (looseW vw lse) mean mg mb h₀) (hk : cs.kind = .function)
    (N : News h₀ L s.heap news) (hd : dp + 4 < 1000) (hu : un + 100 < 9900)
    (ret : ∀ r D h' tk', AIn D r ⟨i, none, none⟩ → Later D news → Fr h₀ L h' m → News h₀ L h' (D ++ news) → Q r { s with heap := h', toks := tk' }) :
    wpAny (model (RowW.prog (OpenRow.toRowW (OpenLaw.row PySem.Challenge.rw_pb0420_01))) w) (ktrTop dp un gd cn cs L a ccd cl outer) (call (.ref 260) [.int i ti]) Q E s := by
  revert X; k_fill; intro X
  (k_dflt (refine' call_cls ?k1 ?k2 ?k3 ?k4 ?k5 ?k6 ?_; (case k1 => k_asm); (case k2 => k_asm); (case k3 => k_asm); (case k4 => k_is); (case k5 => k_is); (case k6 => k_is); k_whole); intro x' d' h' F' N' l1 l2; (try k_lt l1); (try k_lt2 l2))
  (k_dflt (refine' code_def (binds := [(Str.ofString "self", .ref x'), (Str.ofString "worth", .int i ti), (Str.ofString "plus", .str (Str.ofString "") 453), (Str.ofString "minus", .str (Str.ofString "") 454)]) ?k1 ?k2 ?k3 ?k4 ?k5 ?kA ?kF ?kK ?k6 ?k7 ?k8 ?k9 ?kB ?_ ?c2 ?c3 ?c4 ?c5; (case kA => exact rfl); (case kF => exact rfl); (case kK => first | exact rfl | assumption); (case k1 => k_asm); (case k2 => k_asm); (case k3 => k_asm); (case k4 => k_asm); (case k5 => k_asm); (case k6 => k_is); (case k7 => k_is); (case k8 => ktr_room); (case k9 => first | exact BindsTo.of_eq rfl | exact binds_K (by k_in) rfl (by k_is) rfl rfl rfl); (case c5 => decide); (case kB => exact locs rfl); (case c2 => exact rfl); (case c3 => exact rfl); (case c4 => exact rfl); k_whole; intro g' L' h' FG' F' N' B' X' T'; (try dsimp only); (try k_fold)))
  k_steps
  rename_i kF kN Tc kX
  exact ret _ [_, _] _ _ (AIn.mk (p := none) (m := none) (.head _) (.tail _ (.head _))) (by krn_off) kF kN

end AffPart
section ErrPart
open PySem PySem.W PyProof.Rows PySem.Calls Builtin Builtin.ObjectAttr
section
variable {prog : Program} {w : World} {A : Around} {K : Frag} {x C : Addr} {s : Shared} {R : Result → Shared → Prop}
theorem osa_err {cd : ClassData} {ox : Obj} {od : Option Obj} {name : Str} {tk : Tok} {v : Value} (X : K.In s.heap) (I : InstAt s.heap x ox C od) (hc : clsIn K C = some cd) (ne : cd.mro.isEmpty = false)
    (hob : cd.mro.contains (.type "object") = true) (ho : refuseLoop (.ref x) "__setattr__" cd.mro = pure ()) (ha : findIn K (.ref C) name = some none)
    (h : wpAny (model prog w) A.in1 (storeInOwnDict (.ref x) (.ref C) (.str name tk) name v false)
      (fun fin s' => match fin with | .done f => R (.ok f) s' | .again c' => c'.quiet = true ∧ codeAny (model prog w) A c' R s') (fun e s' => R (.error e) s') s) :
    codeAny (model prog w) A (.call (.builtin "object.__setattr__") ⟨[.ref x, .str name tk, v], []⟩) R s := by
  have SF := PySem.F.store_object
  have sub : Looks (model prog w) s.heap (isInstance (.ref x) (.type "object")) true := I.type.andThen (looks_mroIn X (by unfold mroIn; rw [hc, Option.bind_some, if_neg (by rw [ne]; decide), hob]))
  refine codeAny_call_builtin SF.slot.plain SF.entry (@check_slot (model prog w) _ _ s "object.__setattr__" "object" "__setattr__" (.ref x) [.str name tk, v] [] _ SF.kind SF.split sub (SF.args (.ref x) (.str name tk) v) ?_)
  have hm : Looks (model prog w) s.heap (mroOf (.ref C)) cd.mro := (looks_clsIn X hc).andThen .now
  rw [osa_eq, refuse_eq]
  refine wpAny_bind (wpAny_bind (I.type.here (wpAny_bind (hm.here ?_))))
  rw [ho]
  exact wpAny_pure (wpAny_bind (I.type.here (wpAny_bind ((looks_findIn X ha).here (wpAny_bind (wpAny_pure h))))))
end
section
variable {prog : Program} {w : World} {A : Around} {K : Frag} {x C L : Addr} {s : Shared} {h₀ : Heap} {m : Str → Option Value} {E : Value → Shared → Prop}
theorem err_put0 {cd : ClassData} {vs : Array Value} {name : Str} {v : Value} {news : List (Addr × Obj)} {Q : Unit → Shared → Prop} (F : Fr h₀ L s.heap m) (X₀ : K.In h₀) (N : News h₀ L s.heap ((x, { cls := .ref C, data := .fields vs }) :: news))
    (hc : clsIn K C = some cd) (ne : cd.mro.isEmpty = false) (hob : cd.mro.contains (.type "object") = true) (ho : refuseLoop (.ref x) "__setattr__" cd.mro = pure ()) (ha : findIn K (.ref C) name = some none)
    (hs : findIn K (.ref C) "__setattr__" = some (some (.builtin "object.__setattr__"))) (hd : cd.hasDict = true) (h1 : ∀ p ∈ news, p.1 ≠ x)
    (h : ∀ h' D k u, Fr h₀ L h' m → News h₀ L h' ((x, { cls := .ref C, dict := some D, data := .fields vs }) :: (D, dictOf [⟨k, .str name u, v⟩] 1) :: news) → x < D → (∀ p ∈ news, p.1 < D) → Q () { s with heap := h', toks := s.toks + 2 }) :
    wpAny (model prog w) A (setAttr (.ref x) name v) Q E s := by
  have X := X₀.keeps F.keep
  have hx := (N _ (.head _)).1
  have I : InstAt s.heap x { cls := .ref C, data := .fields vs } C none := ⟨hx, rfl, rfl, trivial⟩
  refine set_plain X I hs (osa_err (s := { s with toks := s.toks + 1 }) X I hc ne hob ho ha ?_)
  have ND := N.push F emptyDict
  have FD := F.push (o := emptyDict)
  have hxD : x ≠ s.heap.objs.size := Nat.ne_of_lt (Heap.lt_size hx)
  refine wpAny_bind (wpAny_pure (wpAny_bind (wpAny_bind (wpAny_loadPart hx (wpAny_bind ((looks_clsIn X hc).at ?_))))))
  rw [hd]
  refine wpAny_bind (wpAny_alloc ?_)
  obtain ⟨U1, U2⟩ := news_upd (pre := [(s.heap.objs.size, emptyDict)]) (f := fun o => { cls := o.cls, dict := some s.heap.objs.size, data := o.data, slots := o.slots }) (o' := { cls := .ref C, dict := some s.heap.objs.size, data := .fields vs }) FD ND
    (by intro p hp; rw [List.mem_singleton.mp hp]; exact hxD.symm) h1 rfl rfl
  obtain ⟨V1, V2⟩ := news_upd (pre := []) (f := Obj.putName name (PyData.keyHash w.params name) (.str name (s.toks + 1)) v) (o' := dictOf [⟨PyData.keyHash w.params name, .str name (s.toks + 1), v⟩] 1) U1 U2
    (by intro p hp; cases hp) (by intro p hp; rcases List.mem_cons.mp hp with rfl | hp; exact hxD; exact Nat.ne_of_lt (Heap.lt_size (N p (.tail _ hp)).1)) rfl rfl
  have D := (U2 _ (.head _)).1
  have D' := (V2 _ (.head _)).1
  refine wpAny_bind (wpAny_update' (ND _ (.tail _ (.head _))).1 (wpAny_pure ?_))
  show wpAny _ _ (storeInDict s.heap.objs.size (.str name s.toks) name v) _ _ _
  unfold storeInDict newKeyGuard
  refine wpAny_bind (wpAny_pure (wpAny_bind ?_))
  unfold nsSet
  refine wpAny_bind (wpAny_bind (wpAny_askSetting (wpAny_pure (wpAny_bind (wpAny_mkText (wpAny_bind (wpAny_loadPart D ?_)))))))
  refine wpAny_updatePart D ?_
  refine wpAny_bind (wpAny_lookBehind D' (pastItsLine_dict (by rw [List.size_toArray, sizeLine_eq]; show 1 ≤ _; omega)) ?_)
  exact wpAny_pure (h _ _ _ _ V1 (fun p hp => V2 p (by rcases List.mem_cons.mp hp with rfl | hp; exact .tail _ (.head _); rcases List.mem_cons.mp hp with rfl | hp; exact .head _; exact .tail _ (.tail _ hp))) (Heap.lt_size hx) fun p hp => Heap.lt_size (N p (.tail _ hp)).1)
theorem err_put1 {cd : ClassData} {vs : Array Value} {name n1 : Str} {v v1 : Value} {D : Addr} {k1 : Int} {u1 : Tok} {news : List (Addr × Obj)} {Q : Unit → Shared → Prop} (F : Fr h₀ L s.heap m) (X₀ : K.In h₀) (N : News h₀ L s.heap ((x, { cls := .ref C, dict := some D, data := .fields vs }) :: (D, dictOf [⟨k1, .str n1 u1, v1⟩] 1) :: news))
    (hc : clsIn K C = some cd) (ne : cd.mro.isEmpty = false) (hob : cd.mro.contains (.type "object") = true) (ho : refuseLoop (.ref x) "__setattr__" cd.mro = pure ()) (ha : findIn K (.ref C) name = some none)
    (hs : findIn K (.ref C) "__setattr__" = some (some (.builtin "object.__setattr__"))) (hd : cd.hasDict = true) (hx : x < D) (h2 : ∀ p ∈ news, p.1 < D)
    (e : ∀ k u, Obj.putName name k (.str name u) v (dictOf [⟨k1, .str n1 u1, v1⟩] 1) = dictOf [⟨k1, .str n1 u1, v1⟩, ⟨k, .str name u, v⟩] 2)
    (h : ∀ h' od, Fr h₀ L h' m → News h₀ L h' ((x, { cls := .ref C, dict := some D, data := .fields vs }) :: (D, od) :: news) → Q () { s with heap := h', toks := s.toks + 2 }) :
    wpAny (model prog w) A (setAttr (.ref x) name v) Q E s := by
  have X := X₀.keeps F.keep
  have hx' := (N _ (.head _)).1
  have hD := (N _ (.tail _ (.head _))).1
  have I : InstAt s.heap x { cls := .ref C, dict := some D, data := .fields vs } C (some (dictOf [⟨k1, .str n1 u1, v1⟩] 1)) := ⟨hx', rfl, rfl, hD⟩
  refine set_plain X I hs (osa_err (s := { s with toks := s.toks + 1 }) X I hc ne hob ho ha ?_)
  refine wpAny_bind (wpAny_pure (wpAny_bind (wpAny_bind (wpAny_loadPart hx' (wpAny_bind ((looks_clsIn X hc).at ?_))))))
  rw [hd]
  obtain ⟨V1, V2⟩ := news_upd (pre := [_]) (f := Obj.putName name (PyData.keyHash w.params name) (.str name (s.toks + 1)) v) F N
    (by intro p hp; rw [List.mem_singleton.mp hp]; exact Nat.ne_of_lt hx) (by intro p hp; exact Nat.ne_of_lt (h2 p hp)) (e _ _) rfl
  have D' := (V2 _ (.tail _ (.head _))).1
  refine wpAny_pure (a := some D) ?_
  show wpAny _ _ (storeInDict D (.str name s.toks) name v) _ _ _
  unfold storeInDict newKeyGuard
  refine wpAny_bind (wpAny_pure (wpAny_bind ?_))
  unfold nsSet
  refine wpAny_bind (wpAny_bind (wpAny_askSetting (wpAny_pure (wpAny_bind (wpAny_mkText (wpAny_bind (wpAny_loadPart hD ?_)))))))
  try dsimp only
  have c : (!([⟨k1, .str n1 u1, v1⟩] : List DictEntry).toArray.any (·.key.isStr name) && ([⟨k1, .str n1 u1, v1⟩] : List DictEntry).toArray.any (·.refKey)) = false := by
    rw [← Array.any_toList, ← Array.any_toList]
    show (_ && (false || false)) = false
    simp
  rw [aRefKeyMayBeTheName_at, c]
  refine wpAny_updatePart hD ?_
  refine wpAny_bind (wpAny_lookBehind D' (pastItsLine_dict (by rw [List.size_toArray, sizeLine_eq]; show 2 ≤ _; omega)) ?_)
  exact wpAny_pure (h _ _ V1 V2)
abbrev excObj (C : Addr) (od : Option Addr) (T : Addr) : Obj := { cls := .ref C, dict := od, data := .fields #[.ref T, .none, .none, .none, .bool false, .none] }
abbrev tupObj (vs : List Value) : Obj := { cls := .type "tuple", data := .seq vs.toArray }
theorem err_init {T : Addr} {oc : Value} {odc : Option Addr} {cd : ClassData} {sl : Array (Option Value)} {v : Value} {news : List (Addr × Obj)} {Q : Value → Shared → Prop} (F : Fr h₀ L s.heap m) (X₀ : K.In h₀) (N : News h₀ L s.heap ((x, excObj C none T) :: news))
    (hb : mroIn K C (.type "Exception") = some true) (hC : K.lookup C = some ⟨oc, odc, .cls cd, sl⟩) (h1 : ∀ p ∈ news, p.1 ≠ x)
    (h : ∀ h' T', Fr h₀ L h' m → News h₀ L h' ((x, excObj C none T') :: (T', tupObj [v]) :: news) → x < T' → (∀ p ∈ news, p.1 < T') → Q .none { s with heap := h' }) :
    wpAny (model prog w) A (call (.builtin "Exception.__init__") [.ref x, v]) Q E s := by
  have X := X₀.keeps F.keep
  have hx := (N _ (.head _)).1
  have EF := PySem.F.excBase_Exception
  have I : InstAt s.heap x (excObj C none T) C none := ⟨hx, rfl, rfl, trivial⟩
  have sub : Looks (model prog w) s.heap (isInstance (.ref x) (.type "Exception")) true := I.type.andThen (looks_mroIn X hb)
  refine wpAny_call (codeAny_call_builtin EF.init.plain EF.initEntry ?_)
  simp only [checkBuiltinCall, EF.initKind, EF.initSplit, EF.initRow]
  refine wpAny_bind (sub.here ?_)
  have hshort := EF.noStar
  have hC' := X _ _ hC
  repeat (first | with_reducible refine wpAny_loadPart_at hx ?_ | with_reducible refine wpAny_loadPart_at hC' ?_ | with_reducible refine wpAny_load hC' ?_ | wp_step)
  have ND := N.push F (tupObj [v])
  have FD := F.push (o := tupObj [v])
  have hxD : x ≠ s.heap.objs.size := Nat.ne_of_lt (Heap.lt_size hx)
  obtain ⟨U1, U2⟩ := news_upd (pre := [(s.heap.objs.size, tupObj [v])]) (f := Obj.mapFields fun x => x.setIfInBounds 0 (.ref s.heap.objs.size)) (o' := excObj C none s.heap.objs.size) FD ND
    (by intro p hp; rw [List.mem_singleton.mp hp]; exact hxD.symm) h1 rfl rfl
  exact h _ _ U1 (fun p hp => U2 p (by rcases List.mem_cons.mp hp with rfl | hp; exact .tail _ (.head _); rcases List.mem_cons.mp hp with rfl | hp; exact .head _; exact .tail _ (.tail _ hp))) (Heap.lt_size hx) fun p hp => Heap.lt_size (N p (.tail _ hp)).1
end
section
variable {prog : Program} {w : World} {A : Around} {K : Frag} {C L : Addr} {h₀ h : Heap} {g : Array GenState} {d : Drawn} {t : Nat} {os : OsState} {m : Str → Option Value}
variable {nm q : Str} {Ns : Addr} {bs bm : List Value} {hdct : Bool} {sn : List Str} {sub : List Value} {ab : Bool} {col : Option Bool} {dd : Option Addr} {k0 k1 k2 k3 k5 : Option Value}
theorem err_new {rest : List Value} {R : Result → Shared → Prop} (hC : h.get? C = some (excClassObj nm q C Ns bs bm hdct sn sub ab col dd k0 k1 k2 k3 k5 "Exception.__new__"))
    (b1 : bm.contains (.type "Exception") = true) (b2 : bm.contains (.type "AttributeError") = false) (b3 : bm.contains (.type "NameError") = false) (hrest : rest.length ≤ sizeLine)
    (hq : R (.ok (.ret (.ref (h.objs.size + 1)))) ⟨(h.push (tupObj rest)).push (excObj C none h.objs.size), g, d, t, os⟩) :
    codeAny (model prog w) A (.builtin "Exception.__new__" ⟨.ref C :: rest, []⟩) R ⟨h, g, d, t, os⟩ := by
  have EF := PySem.F.excBase_Exception
  have hcB : (Value.ref C :: bm).contains (.type "Exception") = true := by rw [List.contains_cons, b1, Bool.or_true]
  have hcA : (Value.ref C :: bm).contains (.type "AttributeError") = false := by rw [List.contains_cons, b2]; rfl
  have hcN : (Value.ref C :: bm).contains (.type "NameError") = false := by rw [List.contains_cons, b3]; rfl
  have hends := EF.ends
  refine codeAny_builtinAt EF.entry ?_
  unfold Builtin.«BaseException.__new__»
  refine PySem.wpAt_bind ?_
  show PySem.wpAt _ _ _ (stack >>= _) _ _ _
  refine PySem.wpAt_bind (PySem.wpAt_stack fun p below => PySem.wpAt_of_wpAny ?_)
  wp_walk
  refine PySem.wpAt_of_wpAny ?_
  rw [EF.owner]
  repeat (first | with_reducible refine wpAny_madeHere_exc EF.canon hC ?_ | with_reducible refine wpAny_loadPart_at hC ?_ | (with_reducible refine wpAny_isSubtype_exc hC ?_; first | rw [hcB] | rw [hcA] | rw [hcN]) | wp_step)
  show R _ _
  rw [Heap.size_push]
  exact hq
theorem err_make {rest : List Value} {fI : Addr} {news : List (Addr × Obj)} {R : Result → Shared → Prop} (F : Fr h₀ L h m) (X₀ : K.In h₀) (N : News h₀ L h news)
    (hC₀ : K.lookup C = some (excClassObj nm q C Ns bs bm hdct sn sub ab col dd k0 k1 k2 k3 k5 "Exception.__new__"))
    (b1 : bm.contains (.type "Exception") = true) (b2 : bm.contains (.type "AttributeError") = false) (b3 : bm.contains (.type "NameError") = false)
    (hi : findIn K (.ref C) "__init__" = some (some (.ref fI))) (hf : typeIn K (.ref fI) = some (.type "function")) (hrest : rest.length ≤ sizeLine)
    (hq : ∀ x T h', Fr h₀ L h' m → News h₀ L h' ((x, excObj C none T) :: (T, tupObj rest) :: news) → T < x → (∀ p ∈ news, p.1 < T) →
      codeAny (model prog w) (A.under (.builtin "type.__call__" ⟨.ref C :: rest, []⟩)) (.call (.ref fI) ⟨.ref x :: rest, []⟩) (InitBack x R) ⟨h', g, d, t, os⟩) :
    codeAny (model prog w) A (.call (.ref C) ⟨rest, []⟩) R ⟨h, g, d, t, os⟩ := by
  have X := X₀.keeps F.keep
  have hC := X _ _ hC₀
  have EF := PySem.F.excBase_Exception
  have f1 := tc_lookup
  have f2 := tc_bind (.ref C)
  have hT : (⟨h, g, d, t, os⟩ : Shared).TypeIs (.ref C) "type" := ⟨_, hC, rfl⟩
  have hcB : (Value.ref C :: bm).contains (.type "Exception") = true := by rw [List.contains_cons, b1, Bool.or_true]
  have hcA : (Value.ref C :: bm).contains (.type "AttributeError") = false := by rw [List.contains_cons, b2]; rfl
  have hcN : (Value.ref C :: bm).contains (.type "NameError") = false := by rw [List.contains_cons, b3]; rfl
  refine codeAny_of_tree ?_
  show wpAny _ _ (callAny (.ref C) _) _ _ _
  repeat (any_goals (first | assumption | with_reducible refine wpAny_loadPart_at hC ?_ | wp_step))
  refine ⟨rfl, ?_⟩
  refine codeAny_call_builtin_at (Code.quiet_builtin _ (by decide +kernel)) entry_typeCall (wpAny_check_type_call_sub hC ?_)
  repeat (first | with_reducible refine wpAny_loadPart_at hC ?_ | with_reducible refine wpAny_madeBy_exc hC ?_ | wp_step)
  refine codeAny_call_builtin_code (Code.quiet_builtin _ EF.quiet) ?_
  · have hstar := EF.noStar
    simp only [checkBuiltinCall, EF.newKind, EF.newSplit, EF.newRow]
    repeat (first | refine wpAny_loadPart_at hC ?_ | (refine wpAny_isSubtype_exc hC ?_; rw [hcB]) | refine wpAny_staticBase_exc hC ?_ | refine wpAny_madeBy_exc hC ?_ | simp only [bne_self_eq_false, Bool.false_eq_true, if_false] | wp_step)
    refine err_new hC b1 b2 b3 hrest ?_
    simp only [List.append_eq, List.nil_append, List.cons_append]
    have k : ∀ b o, h.get? b = some o → ((h.push (tupObj rest)).push (excObj C none h.objs.size)).get? b = some o := fun b o e => Heap.get?_push_of_some _ (Heap.get?_push_of_some _ e)
    have hx : ((h.push (tupObj rest)).push (excObj C none h.objs.size)).get? (h.objs.size + 1) = some (excObj C none h.objs.size) := by heap_get
    have N' := (N.push F (tupObj rest)).push (F.push _) (excObj C none h.objs.size)
    rw [Heap.size_push] at N'
    have z := hq (h.objs.size + 1) h.objs.size _ ((F.push (o := tupObj rest)).push (o := excObj C none h.objs.size)) N' (Nat.lt_succ_self _) fun p hp => Heap.lt_size (N p hp).1
    have t1 : Looks (model prog w) ((h.push (tupObj rest)).push (excObj C none h.objs.size)) (typeOf (.ref (h.objs.size + 1))) (.ref C) := (Looks.ld hx).andThen .now
    have s1 : Looks (model prog w) ((h.push (tupObj rest)).push (excObj C none h.objs.size)) (isSubtype (.ref C) (.ref C)) true := (looks_mroIn X (by unfold mroIn clsIn; rw [hC₀]; simp)).keeps k
    have i1 : Looks (model prog w) ((h.push (tupObj rest)).push (excObj C none h.objs.size)) (typeLookup (.ref C) "__init__") (some (.ref fI)) := (looks_findIn X hi).keeps k
    have b1' : Looks (model prog w) ((h.push (tupObj rest)).push (excObj C none h.objs.size)) (bindSpecial (.ref fI) (.ref (h.objs.size + 1))) (.ref fI, [.ref (h.objs.size + 1)]) := (bind_fn X _ hf).keeps k
    unfold isInstance callSpecial? specialOf
    repeat (first | with_reducible refine wpAny_call ?_ | lk)
    refine codeAny_mono z fun r s' z => ?_
    rcases r with e | (v | _ | _ | _) <;> first | exact z | exact z.elim | skip
    obtain ⟨rfl, z⟩ := z
    exact wpAny_pure (wpAny_pure z)
end

end ErrPart
section ErrBPart
open PySem PySem.W PyProof.Rows PySem.Calls Builtin Builtin.ObjectAttr
theorem meta_exc : typeOf (.type "Exception") = pure (.type "type") := by kernel_rfl
local macro_rules | `(tactic| walk_at "getMethod type:Exception") => `(tactic| (k_here; refine' method_type (by k_asm) (by k_asm) meta_exc (by decide +kernel) (by k_dflt k_is) (by k_handed) ?_))
theorem over59 (self : Value) : refuseLoop self "__setattr__" [.ref 59, .ref 46, .type "Exception", .type "BaseException", .type "object"] = pure () := by
  rw [refuseLoop_ref, refuseLoop_ref]; exact PySem.F.store_Exception.passes self
local macro_rules | `(tactic| walk_at "call builtin:Exception.__init__") => `(tactic| (k_here; refine' err_init (by k_asm) (by k_asm) (by k_asm) (by with_unfolding_all rfl) rfl (by intro p hp; rcases List.mem_cons.mp hp with rfl | hp; exact Nat.ne_of_lt (by assumption); exact Nat.ne_of_lt (Nat.lt_trans (by apply_assumption; assumption) (by assumption))) ?_; intro h5 T5 F5 N5 l5 l6))
local macro_rules | `(tactic| walk_at "setAttr ref") => `(tactic| (k_here; first
  | (refine' err_put0 (cd := _) (by k_asm) (by k_asm) (by k_asm) rfl rfl rfl (over59 _) (by with_unfolding_all rfl) (by with_unfolding_all rfl) rfl (by assumption) ?_; intro h6 D6 ky6 u6 F6 N6 l7 l8)
  | (refine' err_put1 (cd := _) (by k_asm) (by k_asm) (by k_asm) rfl rfl rfl (over59 _) (by with_unfolding_all rfl) (by with_unfolding_all rfl) rfl (by assumption) (by assumption) (by intro k u; rfl) ?_; intro h8 o8 F8 N8)))
theorem err_calls {w : World} {mean : ExcName → Option Value} {mg mb : Str → Option Value} {dp un : Nat} {gd : Option (List Code)} {cn : Str} {cs : Scope} {a : Addr} {ccd : Value} {cl : List (Str × Addr)} {outer : List Env} {A₀ : Around} {base h₀ : Heap} {L : Addr} {m : Str → Option Value} {s : Shared} {E : Value → Shared → Prop} {x : Str} {t : Tok} {rest : List Value} {news : List (Addr × Obj)} {Q : Value → Shared → Prop} (B : Below A₀ base outer h₀) (F : Fr h₀ L s.heap m) (X : (hd.heap_1 w.params).In h₀) (T : Top vw (looseW vw lse) mean mg mb h₀) (hk : cs.kind = .function)
    (hrest : rest = [.str x t] ∨ rest = [.str x t, .none]) (N : News h₀ L s.heap news) (hd : dp + 4 < 1000) (hu : un + 100 < 9900)
    (ret : ∀ e T T' D od h' tk', (∀ p ∈ news, p.1 ≠ e) → Fr h₀ L h' m → News h₀ L h' ((e, excObj 59 (some D) T) :: (D, od) :: (T, tupObj [.str x t]) :: (T', tupObj rest) :: news) → Q (.ref e) { s with heap := h', toks := tk' }) :
    wpAny (model (RowW.prog (OpenRow.toRowW (OpenLaw.row PySem.Challenge.rw_pb0420_01))) w) (ktrTop dp un gd cn cs L a ccd cl outer) (call (.ref 59) rest) Q E s := by
  revert X; k_fill; intro X
  refine wpAny_call (err_make F X N rfl rfl rfl rfl (by with_unfolding_all rfl) (by with_unfolding_all rfl) (by rw [sizeLine_eq]; rcases hrest with rfl | rfl; exact Nat.le_of_ble_eq_true rfl; exact Nat.le_of_ble_eq_true rfl) fun e T h' F' N' l1 l2 => ?_)
  (k_dflt (refine' code_def (binds := [(Str.ofString "self", .ref e), (Str.ofString "what", .str x t), (Str.ofString "at", .none)]) ?k1 ?k2 ?k3 ?k4 ?k5 ?kA ?kF ?kK ?k6 ?k7 ?k8 ?k9 ?kB ?_ ?c2 ?c3 ?c4 ?c5; (case kA => exact rfl); (case kF => exact rfl); (case kK => first | exact rfl | assumption); (case k1 => k_asm); (case k2 => k_asm); (case k3 => k_asm); (case k4 => k_asm); (case k5 => k_asm); (case k6 => k_is); (case k7 => k_is); (case k8 => ktr_room); (case k9 => (rcases hrest with rfl | rfl <;> first | exact BindsTo.of_eq rfl | exact binds_K (by k_in) rfl (by k_is) rfl rfl rfl)); (case c5 => decide); (case kB => exact locs rfl); (case c2 => exact rfl); (case c3 => exact rfl); (case c4 => exact rfl); k_whole; intro g' L' h' FG' F' N' B' X' T'; (try dsimp only); (try k_fold)))
  k_steps
  refine err_init (by k_asm) (by k_asm) (by k_asm) (by with_unfolding_all rfl) rfl (fun p hp => by rcases List.mem_cons.mp hp with rfl | hp; exact Nat.ne_of_lt l1; exact Nat.ne_of_lt (Nat.lt_trans (l2 p hp) l1)) fun h5 T5 F5 N5 l5 l6 => ?_
  have hne : ∀ p ∈ (T5, tupObj [Value.str x t]) :: (T, tupObj rest) :: news, p.1 ≠ e := by
    intro p hp
    rcases List.mem_cons.mp hp with rfl | hp
    · exact Nat.ne_of_gt l5
    rcases List.mem_cons.mp hp with rfl | hp
    · exact Nat.ne_of_lt l1
    · exact Nat.ne_of_lt (Nat.lt_trans (l2 p hp) l1)
  k_steps
  rename_i kF kN Tc kX
  exact ret _ _ _ _ _ _ _ (fun p hp => hne p (.tail _ (.tail _ hp))) kF kN
theorem err_call {w : World} {mean : ExcName → Option Value} {mg mb : Str → Option Value} {dp un : Nat} {gd : Option (List Code)} {cn : Str} {cs : Scope} {a : Addr} {ccd : Value} {cl : List (Str × Addr)} {outer : List Env} {A₀ : Around} {base h₀ : Heap} {L : Addr} {m : Str → Option Value} {s : Shared} {E : Value → Shared → Prop} {x : Str} {t : Tok} {news : List (Addr × Obj)} {Q : Value → Shared → Prop} (B : Below A₀ base outer h₀) (F : Fr h₀ L s.heap m) (X : (hd.heap_1 w.params).In h₀) (T : Top vw (looseW vw lse) mean mg mb h₀) (hk : cs.kind = .function)
    (N : News h₀ L s.heap news) (hd : dp + 4 < 1000) (hu : un + 100 < 9900)
    (ret : ∀ e T T' D od h' tk', (∀ p ∈ news, p.1 ≠ e) → Fr h₀ L h' m → News h₀ L h' ((e, excObj 59 (some D) T) :: (D, od) :: (T, tupObj [.str x t]) :: (T', tupObj [.str x t]) :: news) → Q (.ref e) { s with heap := h', toks := tk' }) :
    wpAny (model (RowW.prog (OpenRow.toRowW (OpenLaw.row PySem.Challenge.rw_pb0420_01))) w) (ktrTop dp un gd cn cs L a ccd cl outer) (call (.ref 59) [.str x t]) Q E s := err_calls B F X T hk (.inl rfl) N hd hu ret
theorem err_call2 {w : World} {mean : ExcName → Option Value} {mg mb : Str → Option Value} {dp un : Nat} {gd : Option (List Code)} {cn : Str} {cs : Scope} {a : Addr} {ccd : Value} {cl : List (Str × Addr)} {outer : List Env} {A₀ : Around} {base h₀ : Heap} {L : Addr} {m : Str → Option Value} {s : Shared} {E : Value → Shared → Prop} {x : Str} {t : Tok} {news : List (Addr × Obj)} {Q : Value → Shared → Prop} (B : Below A₀ base outer h₀) (F : Fr h₀ L s.heap m) (X : (hd.heap_1 w.params).In h₀) (T : Top vw (looseW vw lse) mean mg mb h₀) (hk : cs.kind = .function)
    (N : News h₀ L s.heap news) (hd : dp + 4 < 1000) (hu : un + 100 < 9900)
    (ret : ∀ e T T' D od h' tk', (∀ p ∈ news, p.1 ≠ e) → Fr h₀ L h' m → News h₀ L h' ((e, excObj 59 (some D) T) :: (D, od) :: (T, tupObj [.str x t]) :: (T', tupObj [.str x t, .none]) :: news) → Q (.ref e) { s with heap := h', toks := tk' }) :
    wpAny (model (RowW.prog (OpenRow.toRowW (OpenLaw.row PySem.Challenge.rw_pb0420_01))) w) (ktrTop dp un gd cn cs L a ccd cl outer) (call (.ref 59) [.str x t, .none]) Q E s := err_calls B F X T hk (.inr rfl) N hd hu ret

end ErrBPart
section ErrCPart
open PySem PySem.W PyProof.Rows PySem.Calls Builtin Builtin.ObjectAttr
section
variable {M : Model} {A : Around} {E : Value → Shared → Prop} {env : Env} {s : Shared} {K : Frag} {C : Addr}
variable {nm q : Str} {Ns : Addr} {bs bm : List Value} {hdct : Bool} {sn : List Str} {sub : List Value} {ab : Bool} {col : Option Bool} {dd : Option Addr} {k0 k1 k2 k3 k5 : Option Value} {newId : String}
theorem err_raise {x : Sem Value} {Q : Flow → Shared → Prop} (hbase : bm.contains (.type "BaseException") = true) (hh : A.handled = none)
    (h : wpAny M A x (fun v s₁ => ∃ e t D, v = .ref e ∧ s₁.heap.get? C = some (excClassObj nm q C Ns bs bm hdct sn sub ab col dd k0 k1 k2 k3 k5 newId) ∧
      s₁.heap.get? e = some (excObj C (some D) t) ∧ E (.ref e) s₁) E s) :
    wpAny M A (raiseStmt env (some x) none) Q E s := by
  have hcB : (Value.ref C :: bm).contains (.type "BaseException") = true := by rw [List.contains_cons, hbase, Bool.or_true]
  unfold raiseStmt
  refine wpAny_bind (wpAny_mono h (fun v s₁ h₁ => ?_) fun _ _ x => x)
  obtain ⟨e, t, D, rfl, hC, he, hE⟩ := h₁
  obtain ⟨hp, g, d, tk, os⟩ := s₁
  repeat (first | with_reducible refine wpAny_loadPart_at he ?_ | with_reducible refine wpAny_loadPart_at hC ?_ | (with_reducible refine wpAny_isSubtype_exc hC ?_; rw [hcB]) | wp_step)
  exact wpAny_raiseNew_none hh hE
theorem err_stmt {c : PySem.Expr} {pos : Pos} {Q : Flow → Shared → Prop} (hbase : bm.contains (.type "BaseException") = true) (hh : A.handled = none)
    (h : wpAny M A (eval c env) (fun v s₁ => ∃ e t D, v = .ref e ∧ s₁.heap.get? C = some (excClassObj nm q C Ns bs bm hdct sn sub ab col dd k0 k1 k2 k3 k5 newId) ∧
      s₁.heap.get? e = some (excObj C (some D) t) ∧ E (.ref e) s₁) E s) :
    wpAny M A (exec (.Raise (some c) none pos) env) Q E s := by
  rw [arm_exec_Raise]
  exact wpAny_bind (wpAny_standAt (err_raise hbase hh (wpAny_bind (wpAny_mono h (fun v s₃ h₃ => wpAny_bind (wpAny_standAt (wpAny_pure h₃))) fun _ _ x => x))))
end
section
variable {M : Model} {A : Around} {E : Value → Shared → Prop} {s' : Shared} {base g : Heap} {outer : List Env} {L a e T D C : Addr} {m : Str → Option Value} {name : Str} {scope : Scope} {cd : Value} {Q : Unit → Shared → Prop} {news : List (Addr × Obj)}
end
theorem err_stmt59 {w : World} {M : Model} {A : Around} {E : Value → Shared → Prop} {env : Env} {s : Shared} {h₀ : Heap} {c : PySem.Expr} {pos : Pos} {Q : Flow → Shared → Prop} (X : (hd.heap_1 w.params).In h₀) (hh : A.handled = none)
    (h : wpAny M A (eval c env) (fun v s₁ => ∃ e t D, v = .ref e ∧ (∀ b o, h₀.get? b = some o → s₁.heap.get? b = some o) ∧ s₁.heap.get? e = some (excObj 59 (some D) t) ∧ E (.ref e) s₁) E s) :
    wpAny M A (exec (.Raise (some c) none pos) env) Q E s := by
  obtain ⟨nm, qn, Ns, bs, bm, hdct, sn, sub, ab, col, dd, k0, k1, k2, k3, k5, newId, hC, hbase, _⟩ := kts_cls (C := 59) (T := "BaseException") X (by with_unfolding_all rfl)
  refine err_stmt (C := 59) (nm := nm) (q := qn) (Ns := Ns) (bs := bs) (hdct := hdct) (sn := sn) (sub := sub) (ab := ab) (col := col) (dd := dd) (k0 := k0) (k1 := k1) (k2 := k2) (k3 := k3) (k5 := k5) (newId := newId) hbase hh (wpAny_mono h (fun v s₁ z => ?_) fun _ _ z => z)
  obtain ⟨e, t, D, a, k, b, c⟩ := z
  exact ⟨e, t, D, a, k _ _ hC, b, c⟩

end ErrCPart
section ErrDPart
open PySem PySem.W PyProof.Rows PySem.Calls PySem.Spec Builtin Builtin.ObjectAttr
section
variable {M : Model} {A : Around} {E : Value → Shared → Prop} {s' : Shared} {base g g₂ : Heap} {outer : List Env} {env : Env} {L e T D C : Addr} {m : Str → Option Value} {Q : Unit → Shared → Prop} {news : List (Addr × Obj)}
theorem memX {b : Addr} (hf : env.frame = some L) (hm : b ∈ (env :: outer).filterMap (·.frame)) : b = L ∨ b ∈ outer.filterMap (·.frame) := by
  obtain ⟨env', he, hf'⟩ := List.mem_filterMap.mp hm
  rcases List.mem_cons.mp he with rfl | he
  · exact .inl (Option.some.inj (hf.symm.trans hf')).symm
  · exact .inr (List.mem_filterMap.mpr ⟨env', he, hf'⟩)
theorem leave_errX (hf : env.frame = some L) (hke : env.scope.kind = .function) (K : Below A base outer g) (F : Fr g L s'.heap m) (N : News g L s'.heap news) (he : s'.heap.get? e = some (excObj C (some D) T)) (hg : g.get? e = none) (hne : ∀ p ∈ news, p.1 ≠ e)
    (hQ : ∀ h', RaisedSN base g outer e (.ref C) news h' → g.UpToSlots h' → Q () { s' with heap := h' }) :
    wpAny M (A.deeper env) (leaving env (.ref e)) Q E s' := by
  have K' := pushX K F hf hke
  have hin : ∀ env' ∈ (env :: outer), ∀ b, env'.frame = some b → b ∈ e :: (env :: outer).filterMap (·.frame) := fun env' he b hb => .tail _ (List.mem_filterMap.mpr ⟨env', he, hb⟩)
  have heb : base.get? e = none := fresh_of_stays K.stays hg
  have st : base.StaysIn (hideAll s'.heap (e :: (env :: outer).filterMap (·.frame))) := fun b o q => hideAll_get _ (K'.stays b o q) fun hm => by
    rcases List.mem_cons.mp hm with rfl | hm
    · rw [heb] at q; cases q
    · rw [(K'.frames.mem hm).1] at q; cases q
  have sg : ∀ b o, g.get? b = some o → b ∉ outer.filterMap (·.frame) → (hideAll s'.heap (e :: (env :: outer).filterMap (·.frame))).get? b = some o := fun b o q nm => hideAll_get _ (F.keep b o q) fun hm => by
    rcases List.mem_cons.mp hm with rfl | hm
    · rw [hg] at q; cases q
    rcases memX hf hm with z | z
    · rw [z, kts_self F] at q; cases q
    · exact nm z
  have hl : ∀ q ∈ news, (hideAll s'.heap (e :: (env :: outer).filterMap (·.frame))).get? q.1 = some q.2 ∧ g.get? q.1 = none ∧ base.get? q.1 = none := fun q hq => by
    refine ⟨hideAll_get _ (N q hq).1 fun hm => ?_, (N q hq).2.2, fresh_of_stays K.stays (N q hq).2.2⟩
    rcases List.mem_cons.mp hm with hm | hm
    · exact hne q hq hm
    rcases memX hf hm with z | z
    · exact (N q hq).2.1 z
    · obtain ⟨o, ho, _⟩ := (K.frames.mem z).2
      rw [(N q hq).2.2] at ho; cases ho
  refine wpAny_leaving_firstW (a0 := .ref T) K'.stack ((funFrames_hide K'.frames hin).of_keeps fun b o hb _ => ⟨o, hb, rfl⟩) hf he (fun b o hb => of_hideAll _ hb) (hideAll_none _ (.head _)) rfl rfl rfl fun h' hL => ?_
  obtain ⟨k1, ⟨_, _, k2⟩, k3, k4⟩ := hL
  exact hQ h' ⟨_, .ref T, st, sg, hl, k1, hideAll_none _ (.head _), k2, k3⟩ ((Heap.UpToSlots.of_keeps F.keep).trans k4)
theorem leave_onX {cls : Value} (hf : env.frame = some L) (K : Below A base outer g) (F : Fr g L g₂ m) (R : RaisedSN base g₂ (env :: outer) e cls news s'.heap) (hsm : g₂.UpToSlots s'.heap)
    (hQ : ∀ h', RaisedSN base g outer e cls news h' → g.UpToSlots h' → Q () { s' with heap := h' }) :
    wpAny M (A.deeper env) (leaving env (.ref e)) Q E s' := by
  obtain ⟨B, a0, hB, hBG, hl, hfl⟩ := R
  exact wpAny_leaves_onW (Around.frames_deeper K.stack) hf hfl fun h' x1 x2 =>
    hQ h' ⟨B, a0, hB, fun b o q nm => hBG b o (F.keep b o q) (fun hm => by
      rcases memX hf hm with z | z
      · rw [z, kts_self F] at q
        cases q
      · exact nm z), fun q hq => ⟨(hl q hq).1, kts_none F.keep (hl q hq).2.1, (hl q hq).2.2⟩, x1⟩ ((Heap.UpToSlots.of_keeps F.keep).trans (hsm.trans x2))
theorem raisedSN_sub {base G : Heap} {l : List Env} {cls : Value} {news news' : List (Addr × Obj)} {h : Heap} (R : RaisedSN base G l e cls news h) (s : ∀ p ∈ news', p ∈ news) : RaisedSN base G l e cls news' h := by
  obtain ⟨B, a0, hB, hBG, hl, hfl⟩ := R
  exact ⟨B, a0, hB, hBG, fun q hq => hl q (s q hq), hfl⟩
end
/-- what a raise that leaves a callee must meet -/
noncomputable def Fly (base h₀ : Heap) (L : Addr) (m : Str → Option Value) (l : List Env) (fro : List (Addr × Obj)) (E : Value → Shared → Prop) (s : Shared) : Prop :=
  ∀ e g h' tk', Fr h₀ L g m → RaisedSN base g l e (.ref 59) fro h' → g.UpToSlots h' → E (.ref e) { s with heap := h', toks := tk' }
theorem raise_out {M : Model} {A : Around} {E E₀ : Value → Shared → Prop} {s' : Shared} {base h₀ g : Heap} {outer : List Env} {env : Env} {L₀ L e T D : Addr} {m₀ m : Str → Option Value} {Q : Unit → Shared → Prop} {s : Shared} {x y z : Addr × Obj} {news rest : List (Addr × Obj)}
    (hfly : Fly base h₀ L₀ m₀ outer news E₀ s) (FG : Fr h₀ L₀ g m₀) (hf : env.frame = some L) (hke : env.scope.kind = .function) (K : Below A base outer g) (F : Fr g L s'.heap m) (N : News g L s'.heap ((e, excObj 59 (some D) T) :: x :: y :: z :: rest)) (sub : ∀ p ∈ news, p ∈ rest) (hne : ∀ p ∈ rest, p.1 ≠ e)
    (hs : ∀ h', E₀ (.ref e) { s with heap := h', toks := s'.toks } → Q () { s' with heap := h' }) :
    wpAny M (A.deeper env) (leaving env (.ref e)) Q E s' :=
  leave_errX hf hke K F (news_sub N fun p hp => .tail _ (.tail _ (.tail _ (.tail _ (sub p hp))))) (N _ (.head _)).1 (N _ (.head _)).2.2 (fun p hp => hne p (sub p hp)) fun h' R U => hs h' (hfly e g h' _ FG R U)
theorem fly_on {M : Model} {A : Around} {E E₀ : Value → Shared → Prop} {s' : Shared} {base h₀ g g₂ : Heap} {outer : List Env} {env : Env} {L₀ L e : Addr} {m₀ m : Str → Option Value} {Q : Unit → Shared → Prop} {s : Shared} {news rest : List (Addr × Obj)}
    (hfly : Fly base h₀ L₀ m₀ outer news E₀ s) (FG : Fr h₀ L₀ g m₀) (hf : env.frame = some L) (K : Below A base outer g) (F : Fr g L g₂ m) (R : RaisedSN base g₂ (env :: outer) e (.ref 59) rest s'.heap) (U : g₂.UpToSlots s'.heap) (sub : ∀ p ∈ news, p ∈ rest)
    (hs : ∀ h', E₀ (.ref e) { s with heap := h', toks := s'.toks } → Q () { s' with heap := h' }) :
    wpAny M (A.deeper env) (leaving env (.ref e)) Q E s' :=
  leave_onX hf K F (raisedSN_sub R sub) U fun h' R U => hs h' (hfly e g h' _ FG R U)
section
variable {prog : Program} {w : World} {A₀ : Around} {E : Value → Shared → Prop} {s' : Shared} {base g g₀ G : Heap} {outer : List Env} {L a e C : Addr} {m : Str → Option Value} {name : Str} {scope : Scope} {cd : Value}
  {n : Str} {b₀ : Stmt} {suite : List Stmt} {pos np : Pos} {rest : List ExceptHandler} {Q : Flow → Shared → Prop} {news : List (Addr × Obj)} {KF : Frag}
  {p : Program} {loose : List Str} {mean : ExcName → Option Value} {mg mb : Str → Option Value} {x : Str}
end

end ErrDPart
local macro_rules | `(tactic| walk_at "compareOp In str ref") => `(tactic| (k_here; k_dflt (first
  | (refine' in_strsT (by k_asm) (by kbo_bools) (by assumption) (by assumption) ?_)
  | (refine' in_strsF (by k_asm) (by kbo_bools) (by assumption) (by assumption) ?_)
  | (refine' dict_inT (by k_asm) (by kbo_bools) (by assumption) (by assumption) (by assumption) ?_)
  | (refine' dict_inF (by k_asm) (by kbo_bools) (by assumption) (by assumption) (by assumption) ?_))))
local macro_rules | `(tactic| walk_at "compareOp NotIn str ref") => `(tactic| (k_here; k_dflt (first
  | (refine' notin_strsT (by k_asm) (by kbo_bools) (by assumption) (by assumption) ?_)
  | (refine' notin_strsF (by k_asm) (by kbo_bools) (by assumption) (by assumption) ?_)
  | (refine' dict_notinT (by k_asm) (by kbo_bools) (by assumption) (by assumption) (by assumption) ?_)
  | (refine' dict_notinF (by k_asm) (by kbo_bools) (by assumption) (by assumption) (by assumption) ?_))))
local macro_rules | `(tactic| walk_at "subscriptTail") => `(tactic| (k_here; (with_reducible show wpAny _ _ (subscriptTail _ _ (Value.ref _) (Value.str _ _)) _ _ _); (with_unfolding_all refine' dict_item ?N ?hl ?hd ?hx ?_ ?h1 ?h2; (case N => k_asm); (case hl => kbo_bools); (case hd => assumption); (case hx => assumption); (case h1 => with_unfolding_all rfl); (case h2 => intro _; with_unfolding_all rfl))))
local macro_rules | `(tactic| walk_at "compareOp NotEq ref ref") => `(tactic| (k_here; k_dflt (first
  | (refine' ne_nilT (by k_asm) (by kbo_bools) (by kbo_bools) (by k_units) (by assumption) ?_)
  | (refine' ne_nilF (by k_asm) (by kbo_bools) (by kbo_bools) (by k_units) (by assumption) ?_))))
local macro_rules | `(tactic| walk_at "compareOp Eq ref ref") => `(tactic| (k_here; k_dflt (first
  | (refine' eq_nilF (by k_asm) (by kbo_bools) (by kbo_bools) (by k_units) (by assumption) ?_)
  | (refine' eq_nilT (by k_asm) (by kbo_bools) (by kbo_bools) (by k_units) (by assumption) ?_))))
local macro_rules | `(tactic| walk_at "exec Raise some none") => `(tactic| (k_here; (with_reducible show wpAny _ _ (exec (Stmt.Raise _ _ _) _) _ _ _); refine stop_out ?_))
section AffOfPart
open PySem PySem.W PyProof.Rows PySem.Calls
local macro_rules | `(tactic| walk_at "CompEnd") => `(tactic| (k_dflt (refine LCg.CompEnd.intro (by assumption) (by assumption) _ (sub_refl _) (by assumption) (by first | assumption | lcg_src | kbo_bools) ?_)))
theorem opt_cases (p : Option Str) (h : ∀ x, p = some x → x ≠ Str.ofString "") : (p = none ∧ optS p = Str.ofString "") ∨ ∃ x, p = some x ∧ optS p ≠ Str.ofString "" := by
  cases p with
  | none => exact .inl ⟨rfl, rfl⟩
  | some x => exact .inr ⟨x, rfl, h x rfl⟩
local macro_rules | `(tactic| walk_at "compareOp NotEq str str") => `(tactic| (first | ((with_reducible refine' ne_strT ?ne ?_); (case ne => with_reducible assumption)) | ((with_reducible refine' ne_strF ?ne ?_); (case ne => with_reducible assumption))))
theorem comp2T {prog : Program} {w : World} {A : Around} {h₀ : Heap} {L : Addr} {m : Str → Option Value} {env : Env} {ct elt : PySem.Expr} {x : Str} {scope : Scope} {cl : List (Str × Addr)} {s : Shared} {S : List (Addr × Obj) → Prop} {P : Nat → Value → Prop}
    {Fin : List Value → List (Addr × Obj) → Prop} {n i : Nat} {ys0 : List Value} {news : List (Addr × Obj)} (Pr : List Value → Prop) (h : ∀ ys, Pr ys → Fin ys news)
    (hr : ∀ Fin' : List Value → List (Addr × Obj) → Prop, (∀ ys, Pr ys → Fin' ys news) → LCt.CompRestT prog w A h₀ L m env ct elt x scope cl s S P Fin' n i ys0 news) : LCt.CompRestT prog w A h₀ L m env ct elt x scope cl s S P Fin n i ys0 news := hr Fin h
local macro_rules | `(tactic| walk_at $k) => stopAt ["CompSrcT", "call builtin:list.remove", "call builtin:list.append"] k
theorem off1_ne {D : Addr} : ∀ {l : List (Addr × Obj)}, LCg.Off1 D l → ∀ p ∈ l, p.1 ≠ D
  | [], _, _, h => (nomatch h)
  | q :: r, h, p, hp => by
    rcases List.mem_cons.mp hp with rfl | hp
    · exact h.1
    · exact off1_ne h.2 p hp
theorem joinL_snoc {ps ms : List Str} {x : Str} : joinL ps (ms ++ [x]) = joinStep (joinL ps ms) x := by unfold joinL; simp
theorem label_ne {x : Str} (h : isLabel x) : x ≠ Str.ofString "" := by rcases h with rfl | rfl | rfl <;> decide
local macro_rules | `(tactic| walk_at "call builtin:len") => `(tactic| (k_here; k_dflt (refine' len_list (by k_asm) (by kbo_bools) (by omega) ?_)))
/-- what holds in the loop of affine_of -/
inductive AfJ (ps zs : List Str) (ta ad : Addr) (base news₁ : List (Addr × Obj)) : Prop
  | mk (vs : List Value) (n : Nat) (us : List Value) (k : Nat) (e : news₁ = (ta, listOf us.toArray k) :: (ad, listOf vs.toArray n) :: base) (sv : StrsAre vs (joinL ps zs).1) (su : StrsAre us (joinL ps zs).2) : AfJ ps zs ta ad base news₁
theorem affof_call {w : World} {mean : ExcName → Option Value} {mg mb : Str → Option Value} {dp un : Nat} {gd : Option (List Code)} {cn : Str} {cs : Scope} {a : Addr} {ccd : Value} {cl : List (Str × Addr)} {outer : List Env} {A₀ : Around} {base h₀ : Heap} {L : Addr} {m : Str → Option Value} {s : Shared} {E : Value → Shared → Prop} {i1 i2 : Int} {ti t1 t2 t3 t4 : Tok} {p1 p2 m1 m2 : Option Str} {pl ml : Addr} {news : List (Addr × Obj)} {Q : Value → Shared → Prop} (B : Below A₀ base outer h₀) (F : Fr h₀ L s.heap m) (X : (hd.heap_1 w.params).In h₀) (T : Top vw (looseW vw lse) mean mg mb h₀) (hk : cs.kind = .function)
    (N : News h₀ L s.heap news) (hp : (pl, listOf #[.str (optS p1) t1, .str (optS p2) t2] 0) ∈ news) (hm : (ml, listOf #[.str (optS m1) t3, .str (optS m2) t4] 0) ∈ news)
    (lp1 : ∀ x, p1 = some x → isLabel x) (lp2 : ∀ x, p2 = some x → isLabel x) (lm1 : ∀ x, m1 = some x → isLabel x) (lm2 : ∀ x, m2 = some x → isLabel x) (hd : dp + 14 < 1000) (hu : un + 200 < 9900)
    (ret : ∀ v r D h' tk', joinV ⟨i1, p1, m1⟩ ⟨i2, p2, m2⟩ = some v → AIn D r v → Later D news → Fr h₀ L h' m → News h₀ L h' (D ++ news) → Q r { s with heap := h', toks := tk' })
    (fly : joinV ⟨i1, p1, m1⟩ ⟨i2, p2, m2⟩ = none → Fly base h₀ L m (envX cn cs L a ccd cl :: outer) news E s) :
    wpAny (model (RowW.prog (OpenRow.toRowW (OpenLaw.row PySem.Challenge.rw_pb0420_01))) w) (ktrTop dp un gd cn cs L a ccd cl outer) (call (.ref 269) [.int (i1 + i2) ti, .ref pl, .ref ml]) Q E s := by
  revert X; k_fill; intro X
  refine wpAny_call ?_
  (show codeAny _ _ (Code.call _ ⟨[?x2_0, ?x2_1, ?x2_2], []⟩) _ _; k_dflt (refine' code_def (binds := [(Str.ofString "worth", ?x2_0), (Str.ofString "pluses", ?x2_1), (Str.ofString "minuses", ?x2_2)]) ?k1 ?k2 ?k3 ?k4 ?k5 ?kA ?kF ?kK ?k6 ?k7 ?k8 ?k9 ?kB ?_ ?c2 ?c3 ?c4 ?c5; (case kA => exact rfl); (case kF => exact rfl); (case kK => first | exact rfl | assumption); (case k1 => k_asm); (case k2 => k_asm); (case k3 => k_asm); (case k4 => k_asm); (case k5 => k_asm); (case k6 => k_is); (case k7 => k_is); (case k8 => ktr_room); (case k9 => first | exact BindsTo.of_eq rfl | exact binds_K (by k_in) rfl (by k_is) rfl rfl rfl); (case c5 => decide); (case kB => exact locs rfl); (case c2 => exact rfl); (case c3 => exact rfl); (case c4 => exact rfl); k_whole; intro g' L' h' FG' F' N' B' X' T'; (try dsimp only); (try k_fold)))
  k_steps
  refine stop_in ?_
  k_dflt (refine LCt.CompSrcT.ledger (by rfl) (by k_asm) (by k_asm) (by k_mem) (by first | size_fits | exact Nat.le_of_ble_eq_true rfl) ?_)
  intro g'
  lct_lit
  refine comp2T (fun ys => StrsAre ys (p1.toList ++ p2.toList)) ?_ ?_
  rotate_left
  · intro Fin' hF
    rcases opt_cases p1 (fun x h => label_ne (lp1 x h)) with ⟨e1, f1⟩ | ⟨x1, e1, f1⟩ <;> rcases opt_cases p2 (fun x h => label_ne (lp2 x h)) with ⟨e2, f2⟩ | ⟨x2, e2, f2⟩
    all_goals k_steps
    · subst e1; subst e2; exact hF _ .nil
    · subst e1; subst e2; exact hF _ (.cons x2 t2 .nil)
    · subst e1; subst e2; exact hF _ (.cons x1 t1 .nil)
    · subst e1; subst e2; exact hF _ (.cons x1 t1 (.cons x2 t2 .nil))
  · intro ys hys
    k_steps
    walk_at "FOR"
    k_steps
    rename_i ad h2 tk2 o2 ta h3 l3 h4 lF9 N4
    have hab := neN (a := ta) (b := ad) (by omega)
    have hpo1 := opt_len p1; have hpo2 := opt_len p2; have hmo1 := opt_len m1; have hmo2 := opt_len m2
    have hyl := strsAre_length hys
    rw [List.length_append] at hyl
    have hoa : ∀ p ∈ news, p.1 ≠ ad := off1_ne o2
    have hot : ∀ p ∈ news, p.1 ≠ ta := by k_all
    refine stop_in (for_list0 (l := ml) (vs := [.str (optS m1) t3, .str (optS m2) t4]) (n0 := 0) (fun i news₁ => AfJ (p1.toList ++ p2.toList) (([m1, m2].take i).flatMap Option.toList) ta ad news news₁) rfl (by assumption) N4 (by k_mem) ⟨ys, _, [], _, rfl, by simpa [joinL] using hys, .nil⟩ ?_ ?_)
    ·
      intro i v news₁ I io h tk hv hJ hlm hoI F1 N1
      obtain ⟨vs, n, us, k, rfl, sv, su⟩ := hJ
      have hIt : ta ≠ I := hoI _ (.head _)
      have hIa : ad ≠ I := hoI _ (.tail _ (.head _))
      have hon : ∀ p ∈ news, p.1 ≠ I := fun p hp => hoI p (.tail _ (.tail _ hp))
      have hz1 := strsAre_length sv
      have hz2 := strsAre_length su
      have hz3 := joinL_len (p1.toList ++ p2.toList) (([m1, m2].take i).flatMap Option.toList)
      have hz4 : (([m1, m2].take i).flatMap Option.toList).length ≤ 2 := by
        match i with
        | 0 => simp
        | 1 => simp; omega
        | n + 2 => simp; omega
      rw [List.length_append] at hz3
      obtain ⟨o, tt, rfl, lo, eo⟩ : ∃ o tt, v = Value.str (optS o) tt ∧ (∀ x, o = some x → isLabel x) ∧ ([m1, m2].take (i + 1)).flatMap Option.toList = ([m1, m2].take i).flatMap Option.toList ++ o.toList := by
        match i, hv with
        | 0, hv => simp at hv; exact ⟨m1, t3, hv.symm, lm1, by simp⟩
        | 1, hv => simp at hv; exact ⟨m2, t4, hv.symm, lm2, by simp⟩
        | n + 2, hv => simp at hv
      rw [eo]
      rcases opt_cases o (fun x h => label_ne (lo x h)) with ⟨e1, f1⟩ | ⟨x, e1, f1⟩
      · subst e1
        k_steps
        exact TurnEnd.intro (by assumption) N1 hoI hlm ⟨⟨_, rfl⟩, _, _, _, _, rfl, by simpa using sv, by simpa using su⟩
      · subst e1
        by_cases hin : x ∈ (joinL (p1.toList ++ p2.toList) (([m1, m2].take i).flatMap Option.toList)).1
        · k_steps
          refine stop_in (remove_str (x := x) (by assumption) (news_sub N1 (l' := (ad, listOf vs.toArray n) :: (I, io) :: (ta, listOf us.toArray k) :: news) (by walk_at "MEM")) (by simp only [List.forall_mem_cons]; exact ⟨Ne.symm hIa, hab, hoa⟩) sv hin (by omega) fun h5 vs5 n5 sv5 F5 N5 => ?_)
          k_steps
          refine TurnEnd.intro F5 (news_sub N5 (l' := (I, io) :: (ta, listOf us.toArray k) :: (ad, listOf vs5.toArray n5) :: news) (by walk_at "MEM")) ?_ ?_ ⟨⟨_, rfl⟩, _, _, _, _, rfl, ?_, ?_⟩
          · exact List.forall_mem_cons.mpr ⟨hIt, List.forall_mem_cons.mpr ⟨hIa, hon⟩⟩
          · exact .tail _ (.tail _ hm)
          · rw [show (some x).toList = [x] from rfl, joinL_snoc]; unfold joinStep; rw [if_pos hin]; exact sv5
          · rw [show (some x).toList = [x] from rfl, joinL_snoc]; unfold joinStep; rw [if_pos hin]; exact su
        · k_steps
          refine stop_in (append_at1 (by assumption) (news_sub N1 (l' := (ta, listOf us.toArray k) :: (I, io) :: (ad, listOf vs.toArray n) :: news) (by walk_at "MEM")) (by simp only [List.forall_mem_cons]; exact ⟨Ne.symm hIt, Ne.symm hab, hot⟩) (by omega) fun h5 F5 N5 => ?_)
          k_steps
          refine TurnEnd.intro F5 (news_sub N5 (l' := (I, io) :: (ta, listOf (us ++ [Value.str x tt]).toArray (k + 1)) :: (ad, listOf vs.toArray n) :: news) (by walk_at "MEM")) ?_ ?_ ⟨⟨_, rfl⟩, _, _, _, _, rfl, ?_, ?_⟩
          · exact List.forall_mem_cons.mpr ⟨hIt, List.forall_mem_cons.mpr ⟨hIa, hon⟩⟩
          · exact .tail _ (.tail _ hm)
          · rw [show (some x).toList = [x] from rfl, joinL_snoc]; unfold joinStep; rw [if_neg hin]; exact sv
          · rw [show (some x).toList = [x] from rfl, joinL_snoc]; unfold joinStep; rw [if_neg hin]; exact strsAre_append su (.cons x tt .nil)
    · intro u news₁ h tk hJ hlm F1 N1
      obtain ⟨vs, n, us, k, rfl, sv, su⟩ := hJ
      have ej : ([m1, m2].take ([Value.str (optS m1) t3, Value.str (optS m2) t4] : List Value).length).flatMap Option.toList = m1.toList ++ m2.toList := by simp
      rw [ej] at sv su
      have hz1 := strsAre_length sv
      have hz2 := strsAre_length su
      have hz3 := joinL_len (p1.toList ++ p2.toList) (m1.toList ++ m2.toList)
      rw [List.length_append, List.length_append] at hz3
      generalize hzz : joinL (p1.toList ++ p2.toList) (m1.toList ++ m2.toList) = z at sv su hz1 hz2 hz3
      obtain ⟨z1, z2⟩ := z
      simp only at sv su hz1 hz2 hz3
      by_cases c : z1.length < 2 ∧ z2.length < 2
      · rcases z1 with _ | ⟨x, _ | ⟨x', r⟩⟩ <;> rcases z2 with _ | ⟨y, _ | ⟨y', r'⟩⟩
        all_goals try (exact absurd c.1 (Nat.not_lt.mpr (Nat.le_add_left 2 _)))
        all_goals try (exact absurd c.2 (Nat.not_lt.mpr (Nat.le_add_left 2 _)))
        all_goals (
          have hv := joinV_some (a := ⟨i1, p1, m1⟩) (b := ⟨i2, p2, m2⟩) (by rw [hzz]; exact c.1) (by rw [hzz]; exact c.2)
          simp only [hzz, List.head?_nil, List.head?_cons] at hv
          obtain ⟨j1, j2, j3⟩ := joinL_sub (p1.toList ++ p2.toList) (m1.toList ++ m2.toList)
          rw [hzz] at j1 j2 j3)
        · obtain rfl := strsAre_zero sv
          obtain rfl := strsAre_zero su
          have e1 : ([] : List Value) = [] := rfl
          k_steps
          refine stop_in ?_
          k_dflt (refine' aff3_call (p := none) (m' := none) ?B ?F ?X ?T ?hk ?N ?hf ?hd ?hu ?_; (case B => k_asm); (case F => k_asm); (case X => k_asm); (case T => k_asm); (case hk => first | exact rfl | assumption); (case N => k_asm); (case hf => exact fun _ => ⟨rfl, rfl⟩); (case hd => k_room); (case hu => k_units))
          intro r5 D5 h5 tk5 hr5 hl5 F5 N5
          k_steps
          rename_i kF kN Tc kX
          exact ret _ _ (D5 ++ [_, _, _, _]) _ _ hv (hr5.mono fun p hp => List.mem_append_left _ hp) (Later.app (by krn_off) (by krn_off)) kF (newsA (P := [_, _, _, _]) kN)
        · obtain rfl := strsAre_zero sv
          obtain ⟨ty, rfl⟩ := strsAre_one su
          have e1 : ([] : List Value) = [] := rfl
          have e2 : [Value.str y ty] ≠ [] := by simp
          have ly : isLabel y := by
            rcases List.mem_append.mp (j2 y (.head _)) with q | q
            · exact lm1 y (by simpa using q)
            · exact lm2 y (by simpa using q)
          have e3 : Str.ofString "" ≠ y := (label_ne ly).symm
          k_steps
          refine stop_in ?_
          k_dflt (refine' aff3_call (p := none) (m' := some y) ?B ?F ?X ?T ?hk ?N ?hf ?hd ?hu ?_; (case B => k_asm); (case F => k_asm); (case X => k_asm); (case T => k_asm); (case hk => first | exact rfl | assumption); (case N => k_asm); (case hf => exact fun e => absurd e e3); (case hd => k_room); (case hu => k_units))
          intro r5 D5 h5 tk5 hr5 hl5 F5 N5
          k_steps
          rename_i kF kN Tc kX
          exact ret _ _ (D5 ++ [_, _, _, _]) _ _ hv (hr5.mono fun p hp => List.mem_append_left _ hp) (Later.app (by krn_off) (by krn_off)) kF (newsA (P := [_, _, _, _]) kN)
        · obtain rfl := strsAre_zero su
          obtain ⟨tx, rfl⟩ := strsAre_one sv
          have e1 : ([] : List Value) = [] := rfl
          have e2 : [Value.str x tx] ≠ [] := by simp
          have lx : isLabel x := by
            rcases List.mem_append.mp (j1 x (.head _)) with q | q
            · exact lp1 x (by simpa using q)
            · exact lp2 x (by simpa using q)
          have e3 : x ≠ Str.ofString "" := label_ne lx
          k_steps
          refine stop_in ?_
          k_dflt (refine' aff3_call (p := some x) (m' := none) ?B ?F ?X ?T ?hk ?N ?hf ?hd ?hu ?_; (case B => k_asm); (case F => k_asm); (case X => k_asm); (case T => k_asm); (case hk => first | exact rfl | assumption); (case N => k_asm); (case hf => exact fun e => absurd e e3); (case hd => k_room); (case hu => k_units))
          intro r5 D5 h5 tk5 hr5 hl5 F5 N5
          k_steps
          rename_i kF kN Tc kX
          exact ret _ _ (D5 ++ [_, _, _, _]) _ _ hv (hr5.mono fun p hp => List.mem_append_left _ hp) (Later.app (by krn_off) (by krn_off)) kF (newsA (P := [_, _, _, _]) kN)
        · obtain ⟨tx, rfl⟩ := strsAre_one sv
          obtain ⟨ty, rfl⟩ := strsAre_one su
          have e1 : [Value.str y ty] ≠ [] := by simp
          have e2 : [Value.str x tx] ≠ [] := by simp
          have e3 : x ≠ y := fun e => j3 y (.head _) (e ▸ .head _)
          k_steps
          refine stop_in ?_
          k_dflt (refine' aff3_call (p := some x) (m' := some y) ?B ?F ?X ?T ?hk ?N ?hf ?hd ?hu ?_; (case B => k_asm); (case F => k_asm); (case X => k_asm); (case T => k_asm); (case hk => first | exact rfl | assumption); (case N => k_asm); (case hf => exact fun e => absurd e e3); (case hd => k_room); (case hu => k_units))
          intro r5 D5 h5 tk5 hr5 hl5 F5 N5
          k_steps
          rename_i kF kN Tc kX
          exact ret _ _ (D5 ++ [_, _, _, _]) _ _ hv (hr5.mono fun p hp => List.mem_append_left _ hp) (Later.app (by krn_off) (by krn_off)) kF (newsA (P := [_, _, _, _]) kN)
      · have hfly := fly (joinV_none (a := ⟨i1, p1, m1⟩) (b := ⟨i2, p2, m2⟩) (by rw [hzz]; exact c))
        k_steps
        all_goals (refine stop_in (err_stmt59 (by k_asm) rfl ?_); k_steps; refine stop_in ?_; k_dflt (refine' err_call (by k_asm) (by k_asm) (by k_asm) (by k_asm) (by first | exact rfl | assumption) (by k_asm) (by k_room) (by k_units) ?_); intro e9 T9 T8 D9 o9 h9 tk9 hne9 F9 N9; refine ⟨e9, T9, D9, rfl, F9.keep, (N9 _ (.head _)).1, ?_⟩; exact raise_out (by assumption) (by assumption) rfl rfl (by assumption) F9 N9 (by walk_at "MEM") hne9 fun h' z => z)

end AffOfPart
section AffMPart
open PySem PySem.W PyProof.Rows PySem.Calls
noncomputable def negV (a : Val) : Val := ⟨0 - a.w, a.m, a.p⟩
theorem negV_eq (a : Val) : negV a = ⟨-a.w, a.m, a.p⟩ := by unfold negV; rw [Int.zero_sub]
local macro_rules | `(tactic| walk_at "compareOp Eq str str") => `(tactic| (first | ((with_reducible refine' eq_strF ?ne ?_); (case ne => with_reducible assumption)) | ((with_reducible refine' eq_strT ?ne ?_); (case ne => with_reducible assumption))))
theorem add_call {w : World} {mean : ExcName → Option Value} {mg mb : Str → Option Value} {dp un : Nat} {gd : Option (List Code)} {cn : Str} {cs : Scope} {a : Addr} {ccd : Value} {cl : List (Str × Addr)} {outer : List Env} {A₀ : Around} {base h₀ : Heap} {L : Addr} {m : Str → Option Value} {s : Shared} {E : Value → Shared → Prop} {v u : Value} {x y : Val} {news : List (Addr × Obj)} {Q : Value → Shared → Prop} (B : Below A₀ base outer h₀) (F : Fr h₀ L s.heap m) (X : (hd.heap_1 w.params).In h₀) (T : Top vw (looseW vw lse) mean mg mb h₀) (hk : cs.kind = .function)
    (N : News h₀ L s.heap news) (hx : AIn news v x) (hy : AIn news u y) (ox : x.ok) (oy : y.ok) (hd : dp + 16 < 1000) (hu : un + 300 < 9900)
    (ret : ∀ z r D h' tk', joinV x y = some z → AIn D r z → Later D news → Fr h₀ L h' m → News h₀ L h' (D ++ news) → Q r { s with heap := h', toks := tk' })
    (fly : joinV x y = none → Fly base h₀ L m (envX cn cs L a ccd cl :: outer) news E s) :
    wpAny (model (RowW.prog (OpenRow.toRowW (OpenLaw.row PySem.Challenge.rw_pb0420_01))) w) (ktrTop dp un gd cn cs L a ccd cl outer) (call (.ref 250) [v, u]) Q E s := by
  revert X; k_fill; intro X
  cases hx with
  | mk hx1 hx2 =>
  cases hy with
  | mk hy1 hy2 =>
  refine wpAny_call ?_
  (show codeAny _ _ (Code.call _ ⟨[?x3_0, ?x3_1], []⟩) _ _; k_dflt (refine' code_def (binds := [(Str.ofString "self", ?x3_0), (Str.ofString "other", ?x3_1)]) ?k1 ?k2 ?k3 ?k4 ?k5 ?kA ?kF ?kK ?k6 ?k7 ?k8 ?k9 ?kB ?_ ?c2 ?c3 ?c4 ?c5; (case kA => exact rfl); (case kF => exact rfl); (case kK => first | exact rfl | assumption); (case k1 => k_asm); (case k2 => k_asm); (case k3 => k_asm); (case k4 => k_asm); (case k5 => k_asm); (case k6 => k_is); (case k7 => k_is); (case k8 => ktr_room); (case k9 => first | exact BindsTo.of_eq rfl | exact binds_K (by k_in) rfl (by k_is) rfl rfl rfl); (case c5 => decide); (case kB => exact locs rfl); (case c2 => exact rfl); (case c3 => exact rfl); (case c4 => exact rfl); k_whole; intro g' L' h' FG' F' N' B' X' T'; (try dsimp only); (try k_fold)))
  k_steps
  refine stop_in ?_
  k_dflt (refine' affof_call ?B ?F ?X ?T ?hk ?N ?hp ?hm ?lp1 ?lp2 ?lm1 ?lm2 ?hd ?hu ?ret ?fly; (case B => k_asm); (case F => k_asm); (case X => k_asm); (case T => k_asm); (case hk => first | exact rfl | assumption); (case N => k_asm); (case hp => k_mem); (case hm => k_mem); (case lp1 => exact ox.1); (case lp2 => exact oy.1); (case lm1 => exact ox.2); (case lm2 => exact oy.2); (case hd => k_room); (case hu => k_units))
  · intro z r D h' tk' hz hr hl F' N'
    k_steps
    rename_i kF kN Tc kX
    refine ret z r (D ++ [_, _]) _ _ hz (hr.mono ?_) ?_ kF (newsA (P := [_, _]) kN)
    · walk_at "MEM"
    · krn_off
  · intro hz e g h' tk' FG R U
    exact fly_on (fly hz) (by assumption) rfl (by assumption) FG R U (by walk_at "MEM") fun h' z => z
theorem negate_call {w : World} {mean : ExcName → Option Value} {mg mb : Str → Option Value} {dp un : Nat} {gd : Option (List Code)} {cn : Str} {cs : Scope} {a : Addr} {ccd : Value} {cl : List (Str × Addr)} {outer : List Env} {A₀ : Around} {base h₀ : Heap} {L : Addr} {m : Str → Option Value} {s : Shared} {E : Value → Shared → Prop} {v : Value} {x : Val} {news : List (Addr × Obj)} {Q : Value → Shared → Prop} (B : Below A₀ base outer h₀) (F : Fr h₀ L s.heap m) (X : (hd.heap_1 w.params).In h₀) (T : Top vw (looseW vw lse) mean mg mb h₀) (hk : cs.kind = .function)
    (N : News h₀ L s.heap news) (hx : AIn news v x) (fx : optS x.p = optS x.m → x.p = none ∧ x.m = none) (hd : dp + 16 < 1000) (hu : un + 300 < 9900)
    (ret : ∀ r D h' tk', AIn D r (negV x) → Later D news → Fr h₀ L h' m → News h₀ L h' (D ++ news) → Q r { s with heap := h', toks := tk' }) :
    wpAny (model (RowW.prog (OpenRow.toRowW (OpenLaw.row PySem.Challenge.rw_pb0420_01))) w) (ktrTop dp un gd cn cs L a ccd cl outer) (call (.ref 243) [v]) Q E s := by
  revert X; k_fill; intro X
  cases hx with
  | mk hx1 hx2 =>
  rename_i i0 p0 m0
  refine wpAny_call ?_
  (show codeAny _ _ (Code.call _ ⟨[?x4_0], []⟩) _ _; k_dflt (refine' code_def (binds := [(Str.ofString "self", ?x4_0)]) ?k1 ?k2 ?k3 ?k4 ?k5 ?kA ?kF ?kK ?k6 ?k7 ?k8 ?k9 ?kB ?_ ?c2 ?c3 ?c4 ?c5; (case kA => exact rfl); (case kF => exact rfl); (case kK => first | exact rfl | assumption); (case k1 => k_asm); (case k2 => k_asm); (case k3 => k_asm); (case k4 => k_asm); (case k5 => k_asm); (case k6 => k_is); (case k7 => k_is); (case k8 => ktr_room); (case k9 => first | exact BindsTo.of_eq rfl | exact binds_K (by k_in) rfl (by k_is) rfl rfl rfl); (case c5 => decide); (case kB => exact locs rfl); (case c2 => exact rfl); (case c3 => exact rfl); (case c4 => exact rfl); k_whole; intro g' L' h' FG' F' N' B' X' T'; (try dsimp only); (try k_fold)))
  k_steps
  refine stop_in ?_
  k_dflt (refine' aff3_call (p := m0) (m' := p0) ?B ?F ?X ?T ?hk ?N ?hf ?hd ?hu ?ret; (case B => k_asm); (case F => k_asm); (case X => k_asm); (case T => k_asm); (case hk => first | exact rfl | assumption); (case N => k_asm); (case hf => exact fun e => (fx e.symm).symm); (case hd => k_room); (case hu => k_units))
  intro r D h' tk' hr hl F' N'
  k_steps
  rename_i kF kN Tc kX
  exact ret r D _ _ (by rw [negV_eq]; exact hr) hl kF kN
theorem isnum_call {w : World} {mean : ExcName → Option Value} {mg mb : Str → Option Value} {dp un : Nat} {gd : Option (List Code)} {cn : Str} {cs : Scope} {a : Addr} {ccd : Value} {cl : List (Str × Addr)} {outer : List Env} {A₀ : Around} {base h₀ : Heap} {L : Addr} {m : Str → Option Value} {s : Shared} {E : Value → Shared → Prop} {v : Value} {x : Val} {news : List (Addr × Obj)} {Q : Value → Shared → Prop} (B : Below A₀ base outer h₀) (F : Fr h₀ L s.heap m) (X : (hd.heap_1 w.params).In h₀) (T : Top vw (looseW vw lse) mean mg mb h₀) (hk : cs.kind = .function)
    (N : News h₀ L s.heap news) (hx : AIn news v x) (ox : x.ok) (hd : dp + 16 < 1000) (hu : un + 300 < 9900)
    (ret : ∀ b h' tk', (b = true ↔ x.p = none ∧ x.m = none) → Fr h₀ L h' m → News h₀ L h' news → Q (.bool b) { s with heap := h', toks := tk' }) :
    wpAny (model (RowW.prog (OpenRow.toRowW (OpenLaw.row PySem.Challenge.rw_pb0420_01))) w) (ktrTop dp un gd cn cs L a ccd cl outer) (call (.ref 229) [v]) Q E s := by
  revert X; k_fill; intro X
  cases hx with
  | mk hx1 hx2 =>
  rename_i p m'
  rcases opt_cases p (fun x h => label_ne (ox.1 x h)) with ⟨rfl, f1⟩ | ⟨x1, rfl, f1⟩
  · rcases opt_cases m' (fun x h => label_ne (ox.2 x h)) with ⟨rfl, f2⟩ | ⟨x2, rfl, f2⟩
    · refine wpAny_call ?_
      (show codeAny _ _ (Code.call _ ⟨[?x5_0], []⟩) _ _; k_dflt (refine' code_def (binds := [(Str.ofString "self", ?x5_0)]) ?k1 ?k2 ?k3 ?k4 ?k5 ?kA ?kF ?kK ?k6 ?k7 ?k8 ?k9 ?kB ?_ ?c2 ?c3 ?c4 ?c5; (case kA => exact rfl); (case kF => exact rfl); (case kK => first | exact rfl | assumption); (case k1 => k_asm); (case k2 => k_asm); (case k3 => k_asm); (case k4 => k_asm); (case k5 => k_asm); (case k6 => k_is); (case k7 => k_is); (case k8 => ktr_room); (case k9 => first | exact BindsTo.of_eq rfl | exact binds_K (by k_in) rfl (by k_is) rfl rfl rfl); (case c5 => decide); (case kB => exact locs rfl); (case c2 => exact rfl); (case c3 => exact rfl); (case c4 => exact rfl); k_whole; intro g' L' h' FG' F' N' B' X' T'; (try dsimp only); (try k_fold)))
      k_steps
      rename_i kF kN Tc kX
      try dsimp only at kF kN ⊢
      exact ret _ _ _ (by simp) kF kN
    · refine wpAny_call ?_
      (show codeAny _ _ (Code.call _ ⟨[?x6_0], []⟩) _ _; k_dflt (refine' code_def (binds := [(Str.ofString "self", ?x6_0)]) ?k1 ?k2 ?k3 ?k4 ?k5 ?kA ?kF ?kK ?k6 ?k7 ?k8 ?k9 ?kB ?_ ?c2 ?c3 ?c4 ?c5; (case kA => exact rfl); (case kF => exact rfl); (case kK => first | exact rfl | assumption); (case k1 => k_asm); (case k2 => k_asm); (case k3 => k_asm); (case k4 => k_asm); (case k5 => k_asm); (case k6 => k_is); (case k7 => k_is); (case k8 => ktr_room); (case k9 => first | exact BindsTo.of_eq rfl | exact binds_K (by k_in) rfl (by k_is) rfl rfl rfl); (case c5 => decide); (case kB => exact locs rfl); (case c2 => exact rfl); (case c3 => exact rfl); (case c4 => exact rfl); k_whole; intro g' L' h' FG' F' N' B' X' T'; (try dsimp only); (try k_fold)))
      k_steps
      rename_i kF kN Tc kX
      try dsimp only at kF kN ⊢
      exact ret _ _ _ (by simp) kF kN
  · refine wpAny_call ?_
    (show codeAny _ _ (Code.call _ ⟨[?x7_0], []⟩) _ _; k_dflt (refine' code_def (binds := [(Str.ofString "self", ?x7_0)]) ?k1 ?k2 ?k3 ?k4 ?k5 ?kA ?kF ?kK ?k6 ?k7 ?k8 ?k9 ?kB ?_ ?c2 ?c3 ?c4 ?c5; (case kA => exact rfl); (case kF => exact rfl); (case kK => first | exact rfl | assumption); (case k1 => k_asm); (case k2 => k_asm); (case k3 => k_asm); (case k4 => k_asm); (case k5 => k_asm); (case k6 => k_is); (case k7 => k_is); (case k8 => ktr_room); (case k9 => first | exact BindsTo.of_eq rfl | exact binds_K (by k_in) rfl (by k_is) rfl rfl rfl); (case c5 => decide); (case kB => exact locs rfl); (case c2 => exact rfl); (case c3 => exact rfl); (case c4 => exact rfl); k_whole; intro g' L' h' FG' F' N' B' X' T'; (try dsimp only); (try k_fold)))
    k_steps
    rename_i kF kN Tc kX
    try dsimp only at kF kN ⊢
    exact ret _ _ _ (by simp) kF kN
theorem afftold_call {w : World} {mean : ExcName → Option Value} {mg mb : Str → Option Value} {dp un : Nat} {gd : Option (List Code)} {cn : Str} {cs : Scope} {a : Addr} {ccd : Value} {cl : List (Str × Addr)} {outer : List Env} {A₀ : Around} {base h₀ : Heap} {L : Addr} {m : Str → Option Value} {s : Shared} {E : Value → Shared → Prop} {v : Value} {x : Val} {news : List (Addr × Obj)} {Q : Value → Shared → Prop} (B : Below A₀ base outer h₀) (F : Fr h₀ L s.heap m) (X : (hd.heap_1 w.params).In h₀) (T : Top vw (looseW vw lse) mean mg mb h₀) (hk : cs.kind = .function)
    (N : News h₀ L s.heap news) (hx : AIn news v x) (hd : dp + 16 < 1000) (hu : un + 300 < 9900)
    (ret : ∀ d t1 t2 t3 h' tk', Later [(d, tupO [.int x.w t1, .str (optS x.p) t2, .str (optS x.m) t3])] news → Fr h₀ L h' m → News h₀ L h' ((d, tupO [.int x.w t1, .str (optS x.p) t2, .str (optS x.m) t3]) :: news) → Q (.ref d) { s with heap := h', toks := tk' }) :
    wpAny (model (RowW.prog (OpenRow.toRowW (OpenLaw.row PySem.Challenge.rw_pb0420_01))) w) (ktrTop dp un gd cn cs L a ccd cl outer) (call (.ref 222) [v]) Q E s := by
  revert X; k_fill; intro X
  cases hx with
  | mk hx1 hx2 =>
  rename_i p m'
  refine wpAny_call ?_
  (show codeAny _ _ (Code.call _ ⟨[?x8_0], []⟩) _ _; k_dflt (refine' code_def (binds := [(Str.ofString "self", ?x8_0)]) ?k1 ?k2 ?k3 ?k4 ?k5 ?kA ?kF ?kK ?k6 ?k7 ?k8 ?k9 ?kB ?_ ?c2 ?c3 ?c4 ?c5; (case kA => exact rfl); (case kF => exact rfl); (case kK => first | exact rfl | assumption); (case k1 => k_asm); (case k2 => k_asm); (case k3 => k_asm); (case k4 => k_asm); (case k5 => k_asm); (case k6 => k_is); (case k7 => k_is); (case k8 => ktr_room); (case k9 => first | exact BindsTo.of_eq rfl | exact binds_K (by k_in) rfl (by k_is) rfl rfl rfl); (case c5 => decide); (case kB => exact locs rfl); (case c2 => exact rfl); (case c3 => exact rfl); (case c4 => exact rfl); k_whole; intro g' L' h' FG' F' N' B' X' T'; (try dsimp only); (try k_fold)))
  k_steps
  rename_i kF kN Tc kX
  exact ret _ _ _ _ _ _ (by krn_off) kF kN

end AffMPart
section FindPart
open PySem PySem.W PyProof.Rows PySem.Calls
local macro_rules | `(tactic| walk_at "PAD") => `(tactic| (fail "pad"))
local macro_rules | `(tactic| walk_at "call builtin:len") => `(tactic| (k_here; k_dflt (refine' kda_len (knd := PySem.strKind _ _) (by k_asm) (by kbo_bools) (by assumption) (by assumption) (by omega) ?_)))
theorem joinV_zero {v : Val} (f : v.fit) : joinV ⟨0, none, none⟩ v = some v := by
  obtain ⟨⟨o1, o2⟩, f⟩ := f
  obtain ⟨w, p, m⟩ := v
  simp only at o1 o2 f
  unfold joinV joinL joinStep
  cases p with
  | none => cases m <;> simp
  | some x =>
    cases m with
    | none => simp
    | some y =>
      have : y ≠ x := fun e => by
        have := f (by rw [e])
        simp at this
      simp [this]
/-- the scope's dict at hand -/
structure ScIn (prog : Program) (w : World) (news : List (Addr × Obj)) (sc : Value) (fdv : List (Str × Val)) : Prop where
  at_ : ∃ sa dsc fd fo kvs h1 t1, sc = .ref sa ∧ (sa, instObj 308 dsc) ∈ news ∧ (dsc, dictOf [kv h1 "equates" t1 (.ref fd)] 1) ∈ news ∧ (fd, fo) ∈ news ∧ fo.IsDictOf (PySem.strKind prog w) kvs ∧ Rel2 (AIn news) kvs fdv ∧ (fd == sysModules) = false
  fit : ∀ p ∈ fdv, p.2.fit
  keys : ∀ p ∈ fdv, ¬ isLabel p.1 ∧ p.1 ≠ Str.ofString ""
  len : fdv.length ≤ 7
theorem ScIn.mono {prog : Program} {w : World} {f g : List (Addr × Obj)} {sc : Value} {fdv : List (Str × Val)} (h : ScIn prog w f sc fdv) (s : ∀ p ∈ f, p ∈ g) : ScIn prog w g sc fdv := by
  obtain ⟨⟨sa, dsc, fd, fo, kvs, h1, t1, e, a, b, c, d, r, l⟩, x, y, z⟩ := h
  exact ⟨⟨sa, dsc, fd, fo, kvs, h1, t1, e, s _ a, s _ b, s _ c, d, r.mono fun v b q => q.mono s, l⟩, x, y, z⟩
noncomputable def foundV (fdv : List (Str × Val)) (x : Str) : Val := (lk fdv x).getD ⟨0, some x, none⟩
/-- what holds in the loop of settled -/
inductive SetJ (news D0 : List (Addr × Obj)) (x : Str) (kvs : List (Str × Value)) (fdv : List (Str × Val)) (n : Nat) (u : Value × Value) (news₁ : List (Addr × Obj)) : Prop
  | mk (D : List (Addr × Obj)) (e : news₁ = D ++ news) (hl : Later D news) (h : (n = 1 ∧ AIn (D ++ D0) u.1 ⟨0, some x, none⟩ ∧ (∃ l t, u.2 = .int l t ∧ l ≠ 0 ∧ l < 1000) ∧ ∃ v vv, lk fdv x = some v ∧ valueAt kvs x = some vv ∧ AIn news vv v) ∨ (n = 0 ∧ AIn (D ++ D0) u.1 (foundV fdv x))) : SetJ news D0 x kvs fdv n u news₁
theorem settled_call {w : World} {mean : ExcName → Option Value} {mg mb : Str → Option Value} {dp un : Nat} {gd : Option (List Code)} {cn : Str} {cs : Scope} {a : Addr} {ccd : Value} {cl : List (Str × Addr)} {outer : List Env} {A₀ : Around} {base h₀ : Heap} {L : Addr} {m : Str → Option Value} {s : Shared} {E : Value → Shared → Prop} {sc r0 : Value} {x : Str} {fdv : List (Str × Val)} {news D0 : List (Addr × Obj)} {Q : Value → Shared → Prop} (B : Below A₀ base outer h₀) (F : Fr h₀ L s.heap m) (X : (hd.heap_1 w.params).In h₀) (T : Top vw (looseW vw lse) mean mg mb h₀) (hk : cs.kind = .function)
    (N : News h₀ L s.heap news) (hs : ScIn (RowW.prog (OpenRow.toRowW (OpenLaw.row PySem.Challenge.rw_pb0420_01))) w news sc fdv) (hr : AIn D0 r0 ⟨0, some x, none⟩) (hsub : ∀ p ∈ D0, p ∈ news) (hx : lk fdv x = none → isLabel x) (hd : dp + 25 < 1000) (hu : un + 400 < 9900)
    (ret : ∀ r D h' tk', AIn (D ++ D0) r (foundV fdv x) → Later D news → Fr h₀ L h' m → News h₀ L h' (D ++ news) → Q r { s with heap := h', toks := tk' }) :
    wpAny (model (RowW.prog (OpenRow.toRowW (OpenLaw.row PySem.Challenge.rw_pb0420_01))) w) (ktrTop dp un gd cn cs L a ccd cl outer) (call (.ref 305) [sc, r0]) Q E s := by
  revert X; k_fill; intro X
  obtain ⟨⟨sa, dsc, fd, fo, kvs, h1, t1, rfl, m1, m2, m3, isd, rel, los⟩, fit, keys, len⟩ := hs
  have hkl := rel.length
  have hnk : ∀ o : Option Str, (∀ y, o = some y → isLabel y) → valueAt kvs (optS o) = none := by
    intro o ho
    rcases rel.at (optS o) with ⟨_, q⟩ | ⟨v, b, q1, _, _⟩
    · exact q
    · have := keys _ (lk_mem q1)
      cases o with
      | none => exact absurd rfl this.2
      | some y => exact absurd (ho y rfl) this.1
  refine wpAny_call ?_
  (show codeAny _ _ (Code.call _ ⟨[?x9_0, ?x9_1], []⟩) _ _; k_dflt (refine' code_def (binds := [(Str.ofString "self", ?x9_0), (Str.ofString "affine", ?x9_1)]) ?k1 ?k2 ?k3 ?k4 ?k5 ?kA ?kF ?kK ?k6 ?k7 ?k8 ?k9 ?kB ?_ ?c2 ?c3 ?c4 ?c5; (case kA => exact rfl); (case kF => exact rfl); (case kK => first | exact rfl | assumption); (case k1 => k_asm); (case k2 => k_asm); (case k3 => k_asm); (case k4 => k_asm); (case k5 => k_asm); (case k6 => k_is); (case k7 => k_is); (case k8 => ktr_room); (case k9 => first | exact BindsTo.of_eq rfl | exact binds_K (by k_in) rfl (by k_is) rfl rfl rfl); (case c5 => decide); (case kB => exact locs rfl); (case c2 => exact rfl); (case c3 => exact rfl); (case c4 => exact rfl); k_whole; intro g' L' h' FG' F' N' B' X' T'; (try dsimp only); (try k_fold)))
  k_steps
  rename_i F0 N0
  have stop0 : (lk fdv x = none → isLabel x) → ∀ z, z = foundV fdv x → valueAt kvs (optS z.p) = none ∧ valueAt kvs (optS z.m) = none := by
    rintro hx z rfl
    unfold foundV
    cases e : lk fdv x with
    | none => exact ⟨hnk _ (fun y hy => by simp at hy; rw [← hy]; exact hx e), hnk _ (fun y hy => by simp at hy)⟩
    | some v => exact ⟨hnk _ (fit _ (lk_mem e)).1.1, hnk _ (fit _ (lk_mem e)).1.2⟩
  refine stop_in (wpAny_execs_cons (whileS (σ := Value × Value) (fun m u y => if y = Str.ofString "found" then some u.1 else if y = Str.ofString "left" then some u.2 else m y)
    (SetJ news D0 x kvs fdv) (n₀ := if (lk fdv x).isSome then 1 else 0) (a₀ := (r0, _)) F0 (same2 _ _ _ _ _) N0 ⟨[], rfl, Later.nil, ?_⟩ ?_))
  · rcases rel.at x with ⟨q, _⟩ | ⟨vv, v, q1, q2, q3⟩
    · rw [q]; exact .inr ⟨rfl, by unfold foundV; rw [q]; exact hr⟩
    · rw [q1]
      have hpos : 1 ≤ kvs.length := by
        cases kvs with
        | nil => cases q2
        | cons _ _ => simp
      have hb : ((kvs.length : Int) * (↑kvs.length + 2)) = ((kvs.length * (kvs.length + 2) : Nat) : Int) := by push_cast; rfl
      have h63 : kvs.length * (kvs.length + 2) ≤ 7 * 9 := Nat.mul_le_mul (by omega) (by omega)
      have h0 : 0 < kvs.length * (kvs.length + 2) := Nat.mul_pos (by omega) (by omega)
      exact .inl ⟨rfl, hr, ⟨_, _, rfl, by rw [hb]; omega, by rw [hb]; omega⟩, v, vv, rfl, q2, q3⟩
  · rintro n ⟨vf, vl⟩ news₁ h₁ tk₁ F₁ N₁ ⟨D, rfl, hl1, ⟨rfl, hf, ⟨l, t, rfl, hl0, hl2⟩, v, vv, q1, q2, q3⟩ | ⟨rfl, hf⟩⟩
    · dsimp only at F₁ hf
      have hsub' : ∀ p ∈ D ++ D0, p ∈ D ++ news := fun p hp => (List.mem_append.mp hp).elim (List.mem_append_left _) fun h => List.mem_append_right _ (hsub p h)
      cases hf with
      | mk a1 a2 =>
      replace a1 := hsub' _ a1
      replace a2 := hsub' _ a2
      have fv := fit _ (lk_mem q1)
      have ef : foundV fdv x = v := by unfold foundV; rw [q1]; rfl
      k_steps
      · exact absurd (by assumption) hl0
      refine stop_in ?_
      k_dflt (refine' aff3_call (p := none) (m' := none) ?B ?F ?X ?T ?hk ?N ?hf ?hd ?hu ?_; (case B => k_asm); (case F => k_asm); (case X => k_asm); (case T => k_asm); (case hk => first | exact rfl | assumption); (case N => k_asm); (case hf => exact fun _ => ⟨rfl, rfl⟩); (case hd => k_room); (case hu => k_units))
      intro r3 D3 h3 tk3 hr3 hl3 F3 N3
      cases hr3 with
      | mk b1 b2 =>
      k_steps
      refine stop_in ?_
      k_dflt (refine' add_call (x := ⟨0, none, none⟩) (y := v) ?B ?F ?X ?T ?hk ?N (AIn.mk (p := none) (m := none) ?b1 ?b2) ?hy ⟨fun _ h => (nomatch h), fun _ h => (nomatch h)⟩ fv.1 ?hd ?hu ?_ ?_; (case B => k_asm); (case F => k_asm); (case X => k_asm); (case T => k_asm); (case hk => first | exact rfl | assumption); (case N => k_asm); (case hd => k_room); (case hu => k_units); (case b1 => k_mem); (case b2 => k_mem); (case hy => exact q3.mono (by walk_at "MEM")))
      · intro z r4 D4 h4 tk4 hz hr4 hl4 F4 N4
        rw [joinV_zero fv] at hz
        cases hz
        k_steps
        rename_i kF kN
        have eD : D4 ++ (D3 ++ (D ++ news)) = (D4 ++ (D3 ++ D)) ++ news := by simp only [List.append_assoc]
        rw [eD] at kN
        refine stepS (_, _) kF (ov2 _ _ _ _ _ _ _) kN (n' := 0) (by decide) ⟨D4 ++ (D3 ++ D), rfl, ?_, .inr ⟨rfl, ?_⟩⟩
        · krn_off
        · rw [ef]; exact AIn.mono hr4 (by walk_at "MEM")
      · intro hz
        rw [joinV_zero fv] at hz
        cases hz
    · obtain ⟨s1, s2⟩ := stop0 hx _ rfl
      try dsimp only at F₁ hf
      have hf' := hf
      generalize foundV fdv x = z at hf hf' s1 s2 ret
      cases hf with
      | mk a1 a2 =>
      have hsub' : ∀ p ∈ D ++ D0, p ∈ D ++ news := fun p hp => (List.mem_append.mp hp).elim (List.mem_append_left _) fun h => List.mem_append_right _ (hsub p h)
      replace a1 := hsub' _ a1
      replace a2 := hsub' _ a2
      try dsimp only at s1 s2
      k_steps
      rename_i kF kN Tc kX
      exact ret _ D _ _ hf' hl1 kF kN
theorem find_call {w : World} {mean : ExcName → Option Value} {mg mb : Str → Option Value} {dp un : Nat} {gd : Option (List Code)} {cn : Str} {cs : Scope} {a : Addr} {ccd : Value} {cl : List (Str × Addr)} {outer : List Env} {A₀ : Around} {base h₀ : Heap} {L : Addr} {m : Str → Option Value} {s : Shared} {E : Value → Shared → Prop} {sc : Value} {x : Str} {tx : Tok} {fdv : List (Str × Val)} {news : List (Addr × Obj)} {Q : Value → Shared → Prop} (B : Below A₀ base outer h₀) (F : Fr h₀ L s.heap m) (X : (hd.heap_1 w.params).In h₀) (T : Top vw (looseW vw lse) mean mg mb h₀) (hk : cs.kind = .function)
    (N : News h₀ L s.heap news) (hs : ScIn (RowW.prog (OpenRow.toRowW (OpenLaw.row PySem.Challenge.rw_pb0420_01))) w news sc fdv) (hx : lk fdv x = none → isLabel x) (hx0 : x ≠ Str.ofString "") (hd : dp + 30 < 1000) (hu : un + 500 < 9900)
    (ret : ∀ r D h' tk', AIn D r (foundV fdv x) → Later D news → Fr h₀ L h' m → News h₀ L h' (D ++ news) → Q r { s with heap := h', toks := tk' }) :
    wpAny (model (RowW.prog (OpenRow.toRowW (OpenLaw.row PySem.Challenge.rw_pb0420_01))) w) (ktrTop dp un gd cn cs L a ccd cl outer) (call (.ref 298) [sc, .str x tx]) Q E s := by
  revert X; k_fill; intro X
  have hs0 := hs
  obtain ⟨⟨sa, dsc, fd, fo, kvs, h1, t1, rfl, m1, m2, m3, isd, rel, los⟩, fit, keys, len⟩ := hs
  refine wpAny_call ?_
  (show codeAny _ _ (Code.call _ ⟨[?x10_0, ?x10_1], []⟩) _ _; k_dflt (refine' code_def (binds := [(Str.ofString "self", ?x10_0), (Str.ofString "name", ?x10_1)]) ?k1 ?k2 ?k3 ?k4 ?k5 ?kA ?kF ?kK ?k6 ?k7 ?k8 ?k9 ?kB ?_ ?c2 ?c3 ?c4 ?c5; (case kA => exact rfl); (case kF => exact rfl); (case kK => first | exact rfl | assumption); (case k1 => k_asm); (case k2 => k_asm); (case k3 => k_asm); (case k4 => k_asm); (case k5 => k_asm); (case k6 => k_is); (case k7 => k_is); (case k8 => ktr_room); (case k9 => first | exact BindsTo.of_eq rfl | exact binds_K (by k_in) rfl (by k_is) rfl rfl rfl); (case c5 => decide); (case kB => exact locs rfl); (case c2 => exact rfl); (case c3 => exact rfl); (case c4 => exact rfl); k_whole; intro g' L' h' FG' F' N' B' X' T'; (try dsimp only); (try k_fold)))
  k_steps
  refine stop_in ?_
  k_dflt (refine' aff2_call ?B ?F ?X ?T ?hk ?N ?hx ?hd ?hu ?_; (case B => k_asm); (case F => k_asm); (case X => k_asm); (case T => k_asm); (case hk => first | exact rfl | assumption); (case N => k_asm); (case hx => assumption); (case hd => k_room); (case hu => k_units))
  intro r0 D0 h0 tk0 hr0 hl0 F0 N0
  k_steps
  refine stop_in ?_
  k_dflt (refine' settled_call ?B ?F ?X ?T ?hk ?N ?hs hr0 ?hsub hx ?hd ?hu ?_; (case B => k_asm); (case F => k_asm); (case X => k_asm); (case T => k_asm); (case hk => first | exact rfl | assumption); (case N => k_asm); (case hs => exact hs0.mono (by walk_at "MEM")); (case hsub => walk_at "MEM"); (case hd => k_room); (case hu => k_units))
  intro r1 D1 h1 tk1 hr1 hl1 F1 N1
  k_steps
  rename_i kF kN Tc kX
  rw [← List.append_assoc] at kN
  exact ret r1 (D1 ++ D0) _ _ hr1 (by krn_off) kF kN

end FindPart
section CombPart
open PySem PySem.W PyProof.Rows PySem.Calls
noncomputable def opV : Op → Val → Val → Option Val
  | .add, a, b => joinV a b
  | .sub, a, b => joinV a (negV b)
  | .mul, a, b => mulV a b
theorem negV_fit {a : Val} (f : a.fit) : (negV a).fit := ⟨⟨f.1.2, f.1.1⟩, fun e => (f.2 e.symm).symm⟩
theorem comb_call {w : World} {mean : ExcName → Option Value} {mg mb : Str → Option Value} {dp un : Nat} {gd : Option (List Code)} {cn : Str} {cs : Scope} {a : Addr} {ccd : Value} {cl : List (Str × Addr)} {outer : List Env} {A₀ : Around} {base h₀ : Heap} {L : Addr} {m : Str → Option Value} {s : Shared} {E : Value → Shared → Prop} {o : Op} {to : Tok} {v u : Value} {x y : Val} {news : List (Addr × Obj)} {Q : Value → Shared → Prop} (B : Below A₀ base outer h₀) (F : Fr h₀ L s.heap m) (X : (hd.heap_1 w.params).In h₀) (T : Top vw (looseW vw lse) mean mg mb h₀) (hk : cs.kind = .function)
    (N : News h₀ L s.heap news) (hx : AIn news v x) (hy : AIn news u y) (fx : x.fit) (fy : y.fit) (hm : o = .mul → IntMulOk x.w y.w) (hd : dp + 20 < 1000) (hu : un + 400 < 9900)
    (ret : ∀ z r D h' tk', opV o x y = some z → AIn D r z → Later D news → Fr h₀ L h' m → News h₀ L h' (D ++ news) → Q r { s with heap := h', toks := tk' })
    (fly : opV o x y = none → Fly base h₀ L m (envX cn cs L a ccd cl :: outer) news E s) :
    wpAny (model (RowW.prog (OpenRow.toRowW (OpenLaw.row PySem.Challenge.rw_pb0420_01))) w) (ktrTop dp un gd cn cs L a ccd cl outer) (call (.ref 340) [.str o.str to, v, u]) Q E s := by
  revert X; k_fill; intro X
  have hx0 := hx
  have hy0 := hy
  cases hx with
  | mk a1 a2 =>
  rename_i i1 p1 m1
  cases hy with
  | mk b1 b2 =>
  rename_i i2 p2 m2
  cases o with
  | add =>
    refine wpAny_call ?_
    (show codeAny _ _ (Code.call _ ⟨[?x11_0, ?x11_1, ?x11_2], []⟩) _ _; k_dflt (refine' code_def (binds := [(Str.ofString "sign", ?x11_0), (Str.ofString "left", ?x11_1), (Str.ofString "right", ?x11_2)]) ?k1 ?k2 ?k3 ?k4 ?k5 ?kA ?kF ?kK ?k6 ?k7 ?k8 ?k9 ?kB ?_ ?c2 ?c3 ?c4 ?c5; (case kA => exact rfl); (case kF => exact rfl); (case kK => first | exact rfl | assumption); (case k1 => k_asm); (case k2 => k_asm); (case k3 => k_asm); (case k4 => k_asm); (case k5 => k_asm); (case k6 => k_is); (case k7 => k_is); (case k8 => ktr_room); (case k9 => first | exact BindsTo.of_eq rfl | exact binds_K (by k_in) rfl (by k_is) rfl rfl rfl); (case c5 => decide); (case kB => exact locs rfl); (case c2 => exact rfl); (case c3 => exact rfl); (case c4 => exact rfl); k_whole; intro g' L' h' FG' F' N' B' X' T'; (try dsimp only); (try k_fold)))
    k_steps
    (refine stop_in ?_; k_dflt (refine' add_call ?B ?F ?X ?T ?hk ?N ?hx ?hy ?ox ?oy ?hd ?hu ?_ ?_; (case B => k_asm); (case F => k_asm); (case X => k_asm); (case T => k_asm); (case hk => first | exact rfl | assumption); (case N => k_asm); (case hd => k_room); (case hu => k_units); (case hx => first | assumption | exact AIn.mono (by assumption) (by walk_at "MEM")); (case hy => first | assumption | exact AIn.mono (by assumption) (by walk_at "MEM")); (case ox => first | exact And.left (by assumption) | exact And.left (negV_fit (by assumption))); (case oy => first | exact And.left (by assumption) | exact And.left (negV_fit (by assumption)))))
    · intro z r D h' tk' hz hr hl F' N'
      k_steps
      rename_i kF kN Tc kX
      exact ret z r D _ _ hz hr hl kF kN
    · intro hz e g h' tk' FG R U
      exact fly_on (fly hz) (by assumption) rfl (by assumption) FG R U (by walk_at "MEM") fun h' z => z
  | sub =>
    have fn := negV_fit fy
    refine wpAny_call ?_
    (show codeAny _ _ (Code.call _ ⟨[?x12_0, ?x12_1, ?x12_2], []⟩) _ _; k_dflt (refine' code_def (binds := [(Str.ofString "sign", ?x12_0), (Str.ofString "left", ?x12_1), (Str.ofString "right", ?x12_2)]) ?k1 ?k2 ?k3 ?k4 ?k5 ?kA ?kF ?kK ?k6 ?k7 ?k8 ?k9 ?kB ?_ ?c2 ?c3 ?c4 ?c5; (case kA => exact rfl); (case kF => exact rfl); (case kK => first | exact rfl | assumption); (case k1 => k_asm); (case k2 => k_asm); (case k3 => k_asm); (case k4 => k_asm); (case k5 => k_asm); (case k6 => k_is); (case k7 => k_is); (case k8 => ktr_room); (case k9 => first | exact BindsTo.of_eq rfl | exact binds_K (by k_in) rfl (by k_is) rfl rfl rfl); (case c5 => decide); (case kB => exact locs rfl); (case c2 => exact rfl); (case c3 => exact rfl); (case c4 => exact rfl); k_whole; intro g' L' h' FG' F' N' B' X' T'; (try dsimp only); (try k_fold)))
    k_steps
    (refine stop_in ?_; k_dflt (refine' negate_call ?B ?F ?X ?T ?hk ?N ?hx ?fx ?hd ?hu ?_; (case B => k_asm); (case F => k_asm); (case X => k_asm); (case T => k_asm); (case hk => first | exact rfl | assumption); (case N => k_asm); (case hd => k_room); (case hu => k_units); (case hx => first | assumption | exact AIn.mono (by assumption) (by walk_at "MEM")); (case fx => exact And.right (by assumption))))
    intro r1 D1 h1 tk1 hr1 hl1 F1 N1
    k_steps
    (refine stop_in ?_; k_dflt (refine' add_call ?B ?F ?X ?T ?hk ?N ?hx ?hy ?ox ?oy ?hd ?hu ?_ ?_; (case B => k_asm); (case F => k_asm); (case X => k_asm); (case T => k_asm); (case hk => first | exact rfl | assumption); (case N => k_asm); (case hd => k_room); (case hu => k_units); (case hx => first | assumption | exact AIn.mono (by assumption) (by walk_at "MEM")); (case hy => first | assumption | exact AIn.mono (by assumption) (by walk_at "MEM")); (case ox => first | exact And.left (by assumption) | exact And.left (negV_fit (by assumption))); (case oy => first | exact And.left (by assumption) | exact And.left (negV_fit (by assumption)))))
    · intro z r D h' tk' hz hr hl F' N'
      k_steps
      rename_i kF kN Tc kX
      rw [← List.append_assoc] at kN
      exact ret z r (D ++ D1) _ _ hz (hr.mono (by walk_at "MEM")) (by krn_off) kF kN
    · intro hz e g h' tk' FG R U
      exact fly_on (fly hz) (by assumption) rfl (by assumption) FG R U (by walk_at "MEM") fun h' z => z
  | mul =>
    have hml := hm rfl
    try dsimp only at hml
    by_cases c1 : p1 = none ∧ m1 = none
    · by_cases c2 : p2 = none ∧ m2 = none
      · refine wpAny_call ?_
        (show codeAny _ _ (Code.call _ ⟨[?x13_0, ?x13_1, ?x13_2], []⟩) _ _; k_dflt (refine' code_def (binds := [(Str.ofString "sign", ?x13_0), (Str.ofString "left", ?x13_1), (Str.ofString "right", ?x13_2)]) ?k1 ?k2 ?k3 ?k4 ?k5 ?kA ?kF ?kK ?k6 ?k7 ?k8 ?k9 ?kB ?_ ?c2 ?c3 ?c4 ?c5; (case kA => exact rfl); (case kF => exact rfl); (case kK => first | exact rfl | assumption); (case k1 => k_asm); (case k2 => k_asm); (case k3 => k_asm); (case k4 => k_asm); (case k5 => k_asm); (case k6 => k_is); (case k7 => k_is); (case k8 => ktr_room); (case k9 => first | exact BindsTo.of_eq rfl | exact binds_K (by k_in) rfl (by k_is) rfl rfl rfl); (case c5 => decide); (case kB => exact locs rfl); (case c2 => exact rfl); (case c3 => exact rfl); (case c4 => exact rfl); k_whole; intro g' L' h' FG' F' N' B' X' T'; (try dsimp only); (try k_fold)))
        k_steps
        (refine stop_in ?_; k_dflt (refine' isnum_call ?B ?F ?X ?T ?hk ?N ?hx ?fx ?hd ?hu ?_; (case B => k_asm); (case F => k_asm); (case X => k_asm); (case T => k_asm); (case hk => first | exact rfl | assumption); (case N => k_asm); (case hd => k_room); (case hu => k_units); (case hx => first | assumption | exact AIn.mono (by assumption) (by walk_at "MEM")); (case fx => exact And.left (by assumption))))
        intro bb h1 tk1 hb F1 N1
        obtain rfl := hb.mpr c1
        k_steps
        (refine stop_in ?_; k_dflt (refine' isnum_call ?B ?F ?X ?T ?hk ?N ?hx ?fx ?hd ?hu ?_; (case B => k_asm); (case F => k_asm); (case X => k_asm); (case T => k_asm); (case hk => first | exact rfl | assumption); (case N => k_asm); (case hd => k_room); (case hu => k_units); (case hx => first | assumption | exact AIn.mono (by assumption) (by walk_at "MEM")); (case fx => exact And.left (by assumption))))
        intro bb h2 tk2 hb F2 N2
        obtain rfl := hb.mpr c2
        k_steps
        refine stop_in ?_
        k_dflt (refine' aff1_call ?B ?F ?X ?T ?hk ?N ?hd ?hu ?_; (case B => k_asm); (case F => k_asm); (case X => k_asm); (case T => k_asm); (case hk => first | exact rfl | assumption); (case N => k_asm); (case hd => k_room); (case hu => k_units))
        intro r D h3 tk3 hr hl F3 N3
        k_steps
        rename_i kF kN Tc kX
        obtain ⟨rfl, rfl⟩ := c1
        obtain ⟨rfl, rfl⟩ := c2
        exact ret _ r D _ _ mulV_some hr hl kF kN
      · have hfly := fly (mulV_none (a := ⟨i1, p1, m1⟩) (b := ⟨i2, p2, m2⟩) (fun h => c2 h.2))
        refine wpAny_call ?_
        (show codeAny _ _ (Code.call _ ⟨[?x14_0, ?x14_1, ?x14_2], []⟩) _ _; k_dflt (refine' code_def (binds := [(Str.ofString "sign", ?x14_0), (Str.ofString "left", ?x14_1), (Str.ofString "right", ?x14_2)]) ?k1 ?k2 ?k3 ?k4 ?k5 ?kA ?kF ?kK ?k6 ?k7 ?k8 ?k9 ?kB ?_ ?c2 ?c3 ?c4 ?c5; (case kA => exact rfl); (case kF => exact rfl); (case kK => first | exact rfl | assumption); (case k1 => k_asm); (case k2 => k_asm); (case k3 => k_asm); (case k4 => k_asm); (case k5 => k_asm); (case k6 => k_is); (case k7 => k_is); (case k8 => ktr_room); (case k9 => first | exact BindsTo.of_eq rfl | exact binds_K (by k_in) rfl (by k_is) rfl rfl rfl); (case c5 => decide); (case kB => exact locs rfl); (case c2 => exact rfl); (case c3 => exact rfl); (case c4 => exact rfl); k_whole; intro g' L' h' FG' F' N' B' X' T'; (try dsimp only); (try k_fold)))
        k_steps
        (refine stop_in ?_; k_dflt (refine' isnum_call ?B ?F ?X ?T ?hk ?N ?hx ?fx ?hd ?hu ?_; (case B => k_asm); (case F => k_asm); (case X => k_asm); (case T => k_asm); (case hk => first | exact rfl | assumption); (case N => k_asm); (case hd => k_room); (case hu => k_units); (case hx => first | assumption | exact AIn.mono (by assumption) (by walk_at "MEM")); (case fx => exact And.left (by assumption))))
        intro bb h1 tk1 hb F1 N1
        obtain rfl := hb.mpr c1
        k_steps
        (refine stop_in ?_; k_dflt (refine' isnum_call ?B ?F ?X ?T ?hk ?N ?hx ?fx ?hd ?hu ?_; (case B => k_asm); (case F => k_asm); (case X => k_asm); (case T => k_asm); (case hk => first | exact rfl | assumption); (case N => k_asm); (case hd => k_room); (case hu => k_units); (case hx => first | assumption | exact AIn.mono (by assumption) (by walk_at "MEM")); (case fx => exact And.left (by assumption))))
        intro bb h2 tk2 hb F2 N2
        obtain rfl : bb = false := Bool.eq_false_iff.mpr fun h => c2 (hb.mp h)
        k_steps
        (refine stop_in (err_stmt59 (by k_asm) rfl ?_); k_steps; refine stop_in ?_; k_dflt (refine' err_call (by k_asm) (by k_asm) (by k_asm) (by k_asm) (by first | exact rfl | assumption) (by k_asm) (by k_room) (by k_units) ?_); intro e9 T9 T8 D9 o9 h9 tk9 hne9 F9 N9; refine ⟨e9, T9, D9, rfl, F9.keep, (N9 _ (.head _)).1, ?_⟩; exact raise_out (by assumption) (by assumption) rfl rfl (by assumption) F9 N9 (by walk_at "MEM") hne9 fun h' z => z)
    · have hfly := fly (mulV_none (a := ⟨i1, p1, m1⟩) (b := ⟨i2, p2, m2⟩) (fun h => c1 h.1))
      refine wpAny_call ?_
      (show codeAny _ _ (Code.call _ ⟨[?x15_0, ?x15_1, ?x15_2], []⟩) _ _; k_dflt (refine' code_def (binds := [(Str.ofString "sign", ?x15_0), (Str.ofString "left", ?x15_1), (Str.ofString "right", ?x15_2)]) ?k1 ?k2 ?k3 ?k4 ?k5 ?kA ?kF ?kK ?k6 ?k7 ?k8 ?k9 ?kB ?_ ?c2 ?c3 ?c4 ?c5; (case kA => exact rfl); (case kF => exact rfl); (case kK => first | exact rfl | assumption); (case k1 => k_asm); (case k2 => k_asm); (case k3 => k_asm); (case k4 => k_asm); (case k5 => k_asm); (case k6 => k_is); (case k7 => k_is); (case k8 => ktr_room); (case k9 => first | exact BindsTo.of_eq rfl | exact binds_K (by k_in) rfl (by k_is) rfl rfl rfl); (case c5 => decide); (case kB => exact locs rfl); (case c2 => exact rfl); (case c3 => exact rfl); (case c4 => exact rfl); k_whole; intro g' L' h' FG' F' N' B' X' T'; (try dsimp only); (try k_fold)))
      k_steps
      (refine stop_in ?_; k_dflt (refine' isnum_call ?B ?F ?X ?T ?hk ?N ?hx ?fx ?hd ?hu ?_; (case B => k_asm); (case F => k_asm); (case X => k_asm); (case T => k_asm); (case hk => first | exact rfl | assumption); (case N => k_asm); (case hd => k_room); (case hu => k_units); (case hx => first | assumption | exact AIn.mono (by assumption) (by walk_at "MEM")); (case fx => exact And.left (by assumption))))
      intro bb h1 tk1 hb F1 N1
      obtain rfl : bb = false := Bool.eq_false_iff.mpr fun h => c1 (hb.mp h)
      k_steps
      (refine stop_in (err_stmt59 (by k_asm) rfl ?_); k_steps; refine stop_in ?_; k_dflt (refine' err_call (by k_asm) (by k_asm) (by k_asm) (by k_asm) (by first | exact rfl | assumption) (by k_asm) (by k_room) (by k_units) ?_); intro e9 T9 T8 D9 o9 h9 tk9 hne9 F9 N9; refine ⟨e9, T9, D9, rfl, F9.keep, (N9 _ (.head _)).1, ?_⟩; exact raise_out (by assumption) (by assumption) rfl rfl (by assumption) F9 N9 (by walk_at "MEM") hne9 fun h' z => z)
theorem turned_call {w : World} {mean : ExcName → Option Value} {mg mb : Str → Option Value} {dp un : Nat} {gd : Option (List Code)} {cn : Str} {cs : Scope} {a : Addr} {ccd : Value} {cl : List (Str × Addr)} {outer : List Env} {A₀ : Around} {base h₀ : Heap} {L : Addr} {m : Str → Option Value} {s : Shared} {E : Value → Shared → Prop} {ts : Tok} {v : Value} {x : Val} {news : List (Addr × Obj)} {Q : Value → Shared → Prop} (B : Below A₀ base outer h₀) (F : Fr h₀ L s.heap m) (X : (hd.heap_1 w.params).In h₀) (T : Top vw (looseW vw lse) mean mg mb h₀) (hk : cs.kind = .function)
    (N : News h₀ L s.heap news) (hx : AIn news v x) (fx : x.fit) (hd : dp + 20 < 1000) (hu : un + 400 < 9900)
    (ret : ∀ r D h' tk', AIn D r (negV x) → Later D news → Fr h₀ L h' m → News h₀ L h' (D ++ news) → Q r { s with heap := h', toks := tk' }) :
    wpAny (model (RowW.prog (OpenRow.toRowW (OpenLaw.row PySem.Challenge.rw_pb0420_01))) w) (ktrTop dp un gd cn cs L a ccd cl outer) (call (.ref 347) [.str (Str.ofString "-") ts, v]) Q E s := by
  revert X; k_fill; intro X
  have hx0 := hx
  cases hx with
  | mk a1 a2 =>
  refine wpAny_call ?_
  (show codeAny _ _ (Code.call _ ⟨[?x16_0, ?x16_1], []⟩) _ _; k_dflt (refine' code_def (binds := [(Str.ofString "sign", ?x16_0), (Str.ofString "affine", ?x16_1)]) ?k1 ?k2 ?k3 ?k4 ?k5 ?kA ?kF ?kK ?k6 ?k7 ?k8 ?k9 ?kB ?_ ?c2 ?c3 ?c4 ?c5; (case kA => exact rfl); (case kF => exact rfl); (case kK => first | exact rfl | assumption); (case k1 => k_asm); (case k2 => k_asm); (case k3 => k_asm); (case k4 => k_asm); (case k5 => k_asm); (case k6 => k_is); (case k7 => k_is); (case k8 => ktr_room); (case k9 => first | exact BindsTo.of_eq rfl | exact binds_K (by k_in) rfl (by k_is) rfl rfl rfl); (case c5 => decide); (case kB => exact locs rfl); (case c2 => exact rfl); (case c3 => exact rfl); (case c4 => exact rfl); k_whole; intro g' L' h' FG' F' N' B' X' T'; (try dsimp only); (try k_fold)))
  k_steps
  (refine stop_in ?_; k_dflt (refine' negate_call ?B ?F ?X ?T ?hk ?N ?hx ?fx ?hd ?hu ?_; (case B => k_asm); (case F => k_asm); (case X => k_asm); (case T => k_asm); (case hk => first | exact rfl | assumption); (case N => k_asm); (case hd => k_room); (case hu => k_units); (case hx => first | assumption | exact AIn.mono (by assumption) (by walk_at "MEM")); (case fx => exact And.right (by assumption))))
  intro r1 D1 h1 tk1 hr1 hl1 F1 N1
  k_steps
  rename_i kF kN Tc kX
  exact ret r1 D1 _ _ hr1 hl1 kF kN

end CombPart
section SpinePart
open PySem PySem.W PyProof.Rows PySem.Calls
noncomputable def Tr.inner : Tr → Tr
  | .bin _ l _ => l.inner
  | t => t
noncomputable def Tr.sp : Tr → List (Op × Tr)
  | .bin o l r => l.sp ++ [(o, r)]
  | _ => []
noncomputable def Tr.nobin : Tr → Prop
  | .bin .. => False
  | _ => True
theorem Tr.inner_nobin (t : Tr) : t.inner.nobin := by
  induction t with
  | bin o l r ihl _ => exact ihl
  | _ => trivial
inductive SpIn (fro : List (Addr × Obj)) : List Value → List (Op × Tr) → Prop
  | nil : SpIn fro [] []
  | cons {x dx h1 h2 h3 h4 t1 t2 t3 t4 t5 t6 v u o r vs ps} : (x, instObj 191 dx) ∈ fro → (dx, dictOf [kv h1 "kind" t1 (.str (Str.ofString "binary") t2), kv h2 "sign" t3 (.str (Op.str o) t4), kv h3 "left" t5 v, kv h4 "right" t6 u] 4) ∈ fro → NIn fro u r → SpIn fro vs ps → SpIn fro (.ref x :: vs) ((o, r) :: ps)
theorem SpIn.append {fro : List (Addr × Obj)} {vs us : List Value} {ps qs : List (Op × Tr)} (h : SpIn fro vs ps) (k : SpIn fro us qs) : SpIn fro (vs ++ us) (ps ++ qs) := by
  induction h with
  | nil => exact k
  | cons a b c _ ih => exact .cons a b c ih
theorem SpIn.reverse {fro : List (Addr × Obj)} {vs : List Value} {ps : List (Op × Tr)} (h : SpIn fro vs ps) : SpIn fro vs.reverse ps.reverse := by
  induction h with
  | nil => exact .nil
  | cons a b c _ ih => rw [List.reverse_cons, List.reverse_cons]; exact ih.append (.cons a b c .nil)
theorem SpIn.mono {f g : List (Addr × Obj)} {vs : List Value} {ps : List (Op × Tr)} (h : SpIn f vs ps) (s : ∀ p ∈ f, p ∈ g) : SpIn g vs ps := by
  induction h with
  | nil => exact .nil
  | cons a b c _ ih => exact .cons (s _ a) (s _ b) (c.mono s) ih
theorem SpIn.length {fro : List (Addr × Obj)} {vs : List Value} {ps : List (Op × Tr)} (h : SpIn fro vs ps) : vs.length = ps.length := by
  induction h with
  | nil => rfl
  | cons _ _ _ _ ih => simp [ih]
theorem sp_len (t : Tr) : t.sp.length ≤ t.dep := by
  induction t with
  | bin o l r ihl _ => simp only [Tr.sp, Tr.dep, List.length_append, List.length_singleton]; omega
  | _ => exact Nat.zero_le _
local macro_rules | `(tactic| walk_at $k) => stopAt ["call builtin:list.append", "call builtin:list.reverse"] k
/-- what holds in the loop of left_spine -/
inductive SpJ (t : Tr) (fro : List (Addr × Obj)) (sp : Addr) (n : Nat) (vi : Value) (news₁ : List (Addr × Obj)) : Prop
  | mk (ti : Tr) (vs : List Value) (ps : List (Op × Tr)) (k : Nat) (e : n = ti.dep) (e' : news₁ = (sp, listOf vs.toArray k) :: fro) (hi : NIn fro vi ti) (hs : SpIn fro vs ps) (e1 : t.inner = ti.inner) (e2 : t.sp = ti.sp ++ ps.reverse) (e3 : vs.length + ti.dep ≤ t.dep) : SpJ t fro sp n vi news₁
theorem spine_call {w : World} {mean : ExcName → Option Value} {mg mb : Str → Option Value} {dp un : Nat} {gd : Option (List Code)} {cn : Str} {cs : Scope} {a : Addr} {ccd : Value} {cl : List (Str × Addr)} {outer : List Env} {A₀ : Around} {base h₀ : Heap} {L : Addr} {m : Str → Option Value} {s : Shared} {E : Value → Shared → Prop} {v : Value} {t : Tr} {fro : List (Addr × Obj)} {Q : Value → Shared → Prop} (B : Below A₀ base outer h₀) (F : Fr h₀ L s.heap m) (X : (hd.heap_1 w.params).In h₀) (T : Top vw (looseW vw lse) mean mg mb h₀) (hk : cs.kind = .function)
    (N : News h₀ L s.heap fro) (ht : NIn fro v t) (hz : t.dep ≤ 100) (hd : dp + 4 < 1000) (hu : un + 100 < 9900)
    (ret : ∀ vi sp vs n d h' tk', NIn fro vi t.inner → SpIn fro vs t.sp → Later [(d, tupO [vi, .ref sp]), (sp, listOf vs.toArray n)] fro → Fr h₀ L h' m → News h₀ L h' ((d, tupO [vi, .ref sp]) :: (sp, listOf vs.toArray n) :: fro) → Q (.ref d) { s with heap := h', toks := tk' }) :
    wpAny (model (RowW.prog (OpenRow.toRowW (OpenLaw.row PySem.Challenge.rw_pb0420_01))) w) (ktrTop dp un gd cn cs L a ccd cl outer) (call (.ref 200) [v]) Q E s := by
  revert X; k_fill; intro X
  refine wpAny_call ?_
  (show codeAny _ _ (Code.call _ ⟨[?x17_0], []⟩) _ _; k_dflt (refine' code_def (binds := [(Str.ofString "node", ?x17_0)]) ?k1 ?k2 ?k3 ?k4 ?k5 ?kA ?kF ?kK ?k6 ?k7 ?k8 ?k9 ?kB ?_ ?c2 ?c3 ?c4 ?c5; (case kA => exact rfl); (case kF => exact rfl); (case kK => first | exact rfl | assumption); (case k1 => k_asm); (case k2 => k_asm); (case k3 => k_asm); (case k4 => k_asm); (case k5 => k_asm); (case k6 => k_is); (case k7 => k_is); (case k8 => ktr_room); (case k9 => first | exact BindsTo.of_eq rfl | exact binds_K (by k_in) rfl (by k_is) rfl rfl rfl); (case c5 => decide); (case kB => exact locs rfl); (case c2 => exact rfl); (case c3 => exact rfl); (case c4 => exact rfl); k_whole; intro g' L' h' FG' F' N' B' X' T'; (try dsimp only); (try k_fold)))
  k_steps
  rename_i sp _ hsp _ _ _ F0 N0
  refine stop_in (wpAny_execs_cons (whileS (σ := Value) (fun m u y => if y = Str.ofString "inner" then some u else m y) (SpJ t fro sp) (a₀ := v) F0 ?_ N0 ⟨t, [], [], 0, rfl, rfl, ht, .nil, rfl, by simp, by simp⟩ ?_))
  · funext y; by_cases e : y = Str.ofString "inner" <;> simp [e]
  · rintro n vi news₁ h₁ tk₁ F₁ N₁ ⟨ti, vs, ps, k, rfl, rfl, hi, hs, e1, e2, e3⟩
    try dsimp only at F₁
    cases hi with
    | bin o a1 a2 a3 a4 =>
      k_steps
      refine stop_in (append_at1 (by assumption) N₁ (by k_all) (by omega) fun h5 F5 N5 => ?_)
      k_steps
      rename_i kF kN
      simp only [Tr.inner, Tr.sp, Tr.dep] at e1 e2 e3
      refine stepS _ kF (ov1 _ _ _ _) kN (n' := Tr.dep _) ?_ ⟨_, _, _, _, rfl, rfl, a3, hs.append (.cons a1 a2 a4 .nil), e1, ?_, ?_⟩
      · simp only [Tr.dep]; omega
      · rw [e2, List.reverse_append]; simp
      · simp only [List.length_append, List.length_singleton]; omega
    | _ =>
      k_steps
      refine stop_in (reverse_at (by assumption) N₁ (by k_all) (by omega) fun h5 k5 F5 N5 => ?_)
      k_steps
      rename_i kF kN Tc kX
      simp only [Tr.inner, Tr.sp, List.nil_append] at e1 e2
      exact ret _ _ _ _ _ _ _ (by rw [e1]; first | exact .num (by assumption) (by assumption) | exact .nam (by assumption) (by assumption) | exact .neg (by assumption) (by assumption) (by assumption)) (by rw [e2]; exact hs.reverse) (by krn_off) kF kN

end SpinePart
section PureBPart
open PySem PySem.W PyProof.Rows PySem.Calls
noncomputable def Tr.names : Tr → List Str
  | .num _ => []
  | .nam x => [x]
  | .neg t => t.names
  | .bin _ l r => l.names ++ r.names
noncomputable def Tr.n90 : Tr → Prop
  | .num i => 0 ≤ i ∧ i < 90
  | .nam _ => True
  | .neg t => t.n90
  | .bin _ l r => l.n90 ∧ r.n90
/-- what evaluate makes of a tree, where found holds fd -/
noncomputable def evF (fd : List (Str × Val)) : Tr → Option Val
  | .num i => some ⟨i, none, none⟩
  | .nam x => some (foundV fd x)
  | .neg t => (evF fd t).map negV
  | .bin o l r => (evF fd l).bind fun a => (evF fd r).bind fun b => opV o a b
noncomputable def plug (l : Tr) (ps : List (Op × Tr)) : Tr := ps.foldl (fun l p => .bin p.1 l p.2) l
theorem plug_sp (t : Tr) : plug t.inner t.sp = t := by
  induction t with
  | bin o l r ihl _ => simp only [Tr.inner, Tr.sp, plug, List.foldl_append, List.foldl_cons, List.foldl_nil] at ihl ⊢; rw [ihl]
  | _ => rfl
theorem plug_take {l : Tr} {ps : List (Op × Tr)} {i : Nat} {p : Op × Tr} (h : ps[i]? = some p) : plug l (ps.take (i + 1)) = .bin p.1 (plug l (ps.take i)) p.2 := by
  unfold plug
  rw [List.take_add_one, h]; simp
/-- l is a left part of t -/
structure Part (l t : Tr) : Prop where
  names : ∀ x ∈ l.names, x ∈ t.names
  n90 : t.n90 → l.n90
  lv : l.lv ≤ t.lv
  dep : l.dep ≤ t.dep
theorem Part.refl (t : Tr) : Part t t := ⟨fun _ h => h, id, Nat.le_refl _, Nat.le_refl _⟩
theorem Part.trans {a b c : Tr} (h : Part a b) (k : Part b c) : Part a c := ⟨fun x hx => k.names x (h.names x hx), fun z => h.n90 (k.n90 z), Nat.le_trans h.lv k.lv, Nat.le_trans h.dep k.dep⟩
theorem Part.left (o : Op) (l r : Tr) : Part l (.bin o l r) := ⟨fun _ h => List.mem_append_left _ h, And.left, by simp only [Tr.lv]; omega, by simp only [Tr.dep]; omega⟩
theorem Part.right (o : Op) (l r : Tr) : Part r (.bin o l r) := ⟨fun _ h => List.mem_append_right _ h, And.right, by simp only [Tr.lv]; omega, by simp only [Tr.dep]; omega⟩
theorem part_plug (ps : List (Op × Tr)) : ∀ l, Part l (plug l ps) := by
  induction ps with
  | nil => exact Part.refl
  | cons p ps ih => intro l; exact (Part.left p.1 l p.2).trans (ih _)
theorem part_take {t : Tr} (i : Nat) : Part (plug t.inner (t.sp.take i)) t := by
  have h := part_plug (t.sp.drop i) (plug t.inner (t.sp.take i))
  have e : plug (plug t.inner (t.sp.take i)) (t.sp.drop i) = t := by
    unfold plug; rw [← List.foldl_append, List.take_append_drop]; exact plug_sp t
  rwa [e] at h
theorem part_inner (t : Tr) : Part t.inner t := part_take (t := t) 0
theorem part_sp {t : Tr} {p : Op × Tr} (h : p ∈ t.sp) : Part p.2 t ∧ p.2.dep < t.dep ∧ p.2.lv + 1 ≤ t.lv := by
  induction t with
  | bin o l r ihl _ =>
    simp only [Tr.sp, List.mem_append, List.mem_singleton] at h
    rcases h with h | rfl
    · obtain ⟨a, b, c⟩ := ihl h
      exact ⟨a.trans (Part.left ..), by simp only [Tr.dep]; omega, by simp only [Tr.lv]; omega⟩
    · exact ⟨Part.right .., by simp only [Tr.dep]; omega, by have := l.lv_pos; simp only [Tr.lv]; omega⟩
  | _ => cases h
theorem joinV_fit {a b v : Val} (ha : a.ok) (hb : b.ok) (h : joinV a b = some v) : v.fit := by
  have ho := joinV_ok ha hb h
  refine ⟨ho, fun e => ?_⟩
  unfold joinV at h
  simp only at h
  split at h
  · cases h
    obtain ⟨_, _, h3⟩ := joinL_sub (a.p.toList ++ b.p.toList) (a.m.toList ++ b.m.toList)
    try dsimp only at e ho ⊢
    generalize (joinL (a.p.toList ++ b.p.toList) (a.m.toList ++ b.m.toList)).1 = z1 at h3 e ho ⊢
    generalize (joinL (a.p.toList ++ b.p.toList) (a.m.toList ++ b.m.toList)).2 = z2 at h3 e ho ⊢
    cases z1 with
    | nil =>
      cases z2 with
      | nil => exact ⟨rfl, rfl⟩
      | cons y r2 => exact absurd e.symm (label_ne (ho.2 y rfl))
    | cons x r =>
      cases z2 with
      | nil => exact absurd e (label_ne (ho.1 x rfl))
      | cons y r2 => exact absurd (show y ∈ x :: r by rw [show x = y from e]; exact .head _) (h3 y (.head _))
  · cases h
theorem foundV_some {fd : List (Str × Val)} {x : Str} {v : Val} (h : lk fd x = some v) : foundV fd x = v := by unfold foundV; rw [h]; rfl
theorem foundV_none {fd : List (Str × Val)} {x : Str} (h : lk fd x = none) : foundV fd x = ⟨0, some x, none⟩ := by unfold foundV; rw [h]; rfl
theorem mulV_eq {a b v : Val} (h : mulV a b = some v) : v = ⟨a.w * b.w, none, none⟩ := by
  unfold mulV at h
  split at h
  · cases h; rfl
  · cases h
theorem evF_good {fd : List (Str × Val)} {K : Nat} (hf : ∀ p ∈ fd, p.2.fit) (hb : ∀ p ∈ fd, p.2.w.natAbs < 2 ^ (7 * 4 ^ K)) : ∀ {t : Tr} {v : Val}, (∀ x ∈ t.names, lk fd x = none → isLabel x) → t.n90 → evF fd t = some v → v.fit ∧ v.w.natAbs < 2 ^ (7 * t.lv * 4 ^ K) := by
  intro t
  induction t with
  | num i =>
    intro v _ h90 h
    cases h
    refine ⟨⟨⟨fun _ h => (nomatch h), fun _ h => (nomatch h)⟩, fun _ => ⟨rfl, rfl⟩⟩, ?_⟩
    have h90 : 0 ≤ i ∧ i < 90 := h90
    refine Nat.lt_of_lt_of_le (show i.natAbs < 2 ^ 7 by omega) (Nat.pow_le_pow_right (by decide) ?_)
    have := Nat.one_le_pow K 4 (by decide)
    simp only [Tr.lv]; omega
  | nam x =>
    intro v hn _ h
    have h : some (foundV fd x) = some v := h
    cases h
    cases e : lk fd x with
    | none =>
      rw [foundV_none e]
      have hl := hn x (.head _) e
      exact ⟨⟨⟨fun y hy => by cases hy; exact hl, fun _ h => (nomatch h)⟩, fun q => absurd q (label_ne hl)⟩, Nat.two_pow_pos _⟩
    | some u =>
      rw [foundV_some e]
      exact ⟨hf _ (lk_mem e), by simpa [Tr.lv] using hb _ (lk_mem e)⟩
  | neg t ih =>
    intro v hn h90 h
    have h : (evF fd t).map negV = some v := h
    cases e : evF fd t with
    | none => rw [e] at h; cases h
    | some a =>
      rw [e] at h; cases h
      obtain ⟨h1, h2⟩ := ih hn h90 e
      exact ⟨negV_fit h1, by simp only [Tr.lv]; rwa [show (negV a).w.natAbs = a.w.natAbs by unfold negV; simp only; omega]⟩
  | bin o l r ihl ihr =>
    intro v hn h90 h
    have h : ((evF fd l).bind fun a => (evF fd r).bind fun b => opV o a b) = some v := h
    cases e1 : evF fd l with
    | none => rw [e1] at h; cases h
    | some a =>
      cases e2 : evF fd r with
      | none => rw [e1, e2] at h; cases h
      | some b =>
        rw [e1, e2] at h
        have h : opV o a b = some v := h
        obtain ⟨f1, b1⟩ := ihl (fun x hx => hn x (List.mem_append_left _ hx)) h90.1 e1
        obtain ⟨f2, b2⟩ := ihr (fun x hx => hn x (List.mem_append_right _ hx)) h90.2 e2
        cases o with
        | add =>
          exact ⟨joinV_fit f1.1 f2.1 h, bits_sum b1 b2 (by rw [joinV_w h]; omega) (Nat.le_refl _) l.lv_pos r.lv_pos⟩
        | sub =>
          exact ⟨joinV_fit f1.1 (negV_fit f2).1 h, bits_sum b1 b2 (by rw [joinV_w h]; unfold negV; simp only; omega) (Nat.le_refl _) l.lv_pos r.lv_pos⟩
        | mul =>
          have h : mulV a b = some v := h
          rw [mulV_eq h]
          exact ⟨⟨⟨fun _ h => (nomatch h), fun _ h => (nomatch h)⟩, fun _ => ⟨rfl, rfl⟩⟩, Nat.lt_of_le_of_lt (Nat.le_of_eq (Int.natAbs_mul _ _)) (bits_prod b1 b2 (Nat.le_refl _))⟩

end PureBPart
section EvalPart
open PySem PySem.W PyProof.Rows PySem.Calls
local macro_rules | `(tactic| walk_at "PAD") => `(tactic| (fail "pad"))
theorem spIn_get {fro : List (Addr × Obj)} {vs : List Value} {ps : List (Op × Tr)} (h : SpIn fro vs ps) : ∀ {i : Nat} {v : Value}, vs[i]? = some v → ∃ x dx h1 h2 h3 h4 t1 t2 t3 t4 t5 t6 v' u p, v = .ref x ∧ ps[i]? = some p ∧ (x, instObj 191 dx) ∈ fro ∧
    (dx, dictOf [kv h1 "kind" t1 (.str (Str.ofString "binary") t2), kv h2 "sign" t3 (.str (Op.str p.1) t4), kv h3 "left" t5 v', kv h4 "right" t6 u] 4) ∈ fro ∧ NIn fro u p.2 := by
  induction h with
  | nil => intro i v h; simp at h
  | cons a b c _ ih =>
    intro i v h
    cases i with
    | zero => simp at h; subst h; exact ⟨_, _, _, _, _, _, _, _, _, _, _, _, _, _, _, rfl, rfl, a, b, c⟩
    | succ i => exact ih (by simpa using h)
theorem evF_plug_none {fd : List (Str × Val)} (ps : List (Op × Tr)) : ∀ {l : Tr}, evF fd l = none → evF fd (plug l ps) = none := by
  induction ps with
  | nil => intro l h; exact h
  | cons p ps ih => intro l h; exact ih (l := .bin p.1 l p.2) (by show ((evF fd l).bind _) = none; rw [h]; rfl)
theorem evF_take_none {fd : List (Str × Val)} {t : Tr} (i : Nat) (h : evF fd (plug t.inner (t.sp.take i)) = none) : evF fd t = none := by
  have := evF_plug_none (t.sp.drop i) h
  unfold plug at this
  rw [← List.foldl_append, List.take_append_drop] at this
  have e := plug_sp t
  unfold plug at e
  rwa [e] at this
local macro_rules | `(tactic| walk_at "execs cons") => `(tactic| ((with_reducible show wpAny _ _ (execs (Stmt.If _ _ _ _ :: _) _) _ _ _); refine stop_out ?_))
noncomputable def EvC (t : Tr) : Prop := ∀ {w : World} {mean : ExcName → Option Value} {mg mb : Str → Option Value} {dp un : Nat} {gd : Option (List Code)} {cn : Str} {cs : Scope} {a : Addr} {ccd : Value} {cl : List (Str × Addr)} {outer : List Env} {A₀ : Around} {base h₀ : Heap} {L : Addr} {m : Str → Option Value} {s : Shared} {E : Value → Shared → Prop} {v sc : Value} {th : Tok} {args : List Value} {K : Nat} {fdv : List (Str × Val)} {news : List (Addr × Obj)} {Q : Value → Shared → Prop} (B : Below A₀ base outer h₀) (F : Fr h₀ L s.heap m) (X : (hd.heap_1 w.params).In h₀) (T : Top vw (looseW vw lse) mean mg mb h₀) (hk : cs.kind = .function)
    (ha : args = [v, sc, .str (Str.ofString "") th] ∨ (args = [v, sc] ∧ th = 625)) (N : News h₀ L s.heap news) (ht : NIn news v t) (hs : ScIn (RowW.prog (OpenRow.toRowW (OpenLaw.row PySem.Challenge.rw_pb0420_01))) w news sc fdv) (hb : ∀ p ∈ fdv, p.2.w.natAbs < 2 ^ (7 * 4 ^ K)) (hn : ∀ x ∈ t.names, (lk fdv x = none → isLabel x) ∧ x ≠ Str.ofString "") (h90 : t.n90) (hK : K ≤ 7) (hlv : t.lv ≤ 4) (hdep : t.dep ≤ 20)
    (hd : dp + 3 * t.dep + 40 < 1000) (hu : un + 40 * t.dep + 900 < 9900)
    (ret : ∀ z r D h' tk', evF fdv t = some z → AIn D r z → Later D news → Fr h₀ L h' m → News h₀ L h' (D ++ news) → Q r { s with heap := h', toks := tk' })
    (fly : evF fdv t = none → Fly base h₀ L m (envX cn cs L a ccd cl :: outer) news E s),
    wpAny (model (RowW.prog (OpenRow.toRowW (OpenLaw.row PySem.Challenge.rw_pb0420_01))) w) (ktrTop dp un gd cn cs L a ccd cl outer) (call (.ref 355) args) Q E s
theorem ev_use {t : Tr} (IH : EvC t) {w : World} {mean : ExcName → Option Value} {mg mb : Str → Option Value} {dp un : Nat} {gd : Option (List Code)} {cn : Str} {cs : Scope} {a : Addr} {ccd : Value} {cl : List (Str × Addr)} {outer : List Env} {A₀ : Around} {base h₀ : Heap} {L : Addr} {m : Str → Option Value} {s : Shared} {E : Value → Shared → Prop} {v sc : Value} {th : Tok} {args : List Value} {K : Nat} {fdv : List (Str × Val)} {news : List (Addr × Obj)} {Q : Value → Shared → Prop} (B : Below A₀ base outer h₀) (F : Fr h₀ L s.heap m) (X : (hd.heap_1 w.params).In h₀) (T : Top vw (looseW vw lse) mean mg mb h₀) (hk : cs.kind = .function)
    (ha : args = [v, sc, .str (Str.ofString "") th] ∨ (args = [v, sc] ∧ th = 625)) (N : News h₀ L s.heap news) (ht : NIn news v t) (hs : ScIn (RowW.prog (OpenRow.toRowW (OpenLaw.row PySem.Challenge.rw_pb0420_01))) w news sc fdv) (hb : ∀ p ∈ fdv, p.2.w.natAbs < 2 ^ (7 * 4 ^ K)) (hn : ∀ x ∈ t.names, (lk fdv x = none → isLabel x) ∧ x ≠ Str.ofString "") (h90 : t.n90) (hK : K ≤ 7) (hlv : t.lv ≤ 4) (hdep : t.dep ≤ 20)
    (hd : dp + 3 * t.dep + 40 < 1000) (hu : un + 40 * t.dep + 900 < 9900)
    (ret : ∀ z r D h' tk', evF fdv t = some z → AIn D r z → Later D news → Fr h₀ L h' m → News h₀ L h' (D ++ news) → Q r { s with heap := h', toks := tk' })
    (fly : evF fdv t = none → Fly base h₀ L m (envX cn cs L a ccd cl :: outer) news E s) :
    wpAny (model (RowW.prog (OpenRow.toRowW (OpenLaw.row PySem.Challenge.rw_pb0420_01))) w) (ktrTop dp un gd cn cs L a ccd cl outer) (call (.ref 355) args) Q E s := IH B F X T hk ha N ht hs hb hn h90 hK hlv hdep hd hu ret fly
/-- the worth so far -/
inductive EvJ (fdv : List (Str × Val)) (base : List (Addr × Obj)) (r : Option Val) (v : Value) (news₁ : List (Addr × Obj)) : Prop
  | mk (D : List (Addr × Obj)) (z : Val) (e : news₁ = D ++ base) (hl : Later D base) (hr : AIn D v z) (hz : r = some z) : EvJ fdv base r v news₁
theorem ev_step (t : Tr) (IH : ∀ u : Tr, u.dep < t.dep → EvC u) : EvC t := by
  intro w mean mg mb dp un gd cn cs a ccd cl outer A₀ base h₀ L m s E v sc th args K fdv news Q B F X T hk ha N ht hs hb hn h90 hK hlv hdep hd hu ret fly
  have hd9 : dp + 40 < 1000 := rmx hd
  have hu9 : un + 900 < 9900 := rmx hu
  revert X; k_fill; intro X
  have hs0 := hs
  obtain ⟨⟨sa, dsc, fd, fo, kvs, hh1, tt1, rfl, m1, m2, m3, isd, rel, los⟩, fit, keys, len⟩ := hs
  refine wpAny_call ?_
  (k_dflt (refine' code_def (binds := [(Str.ofString "node", v), (Str.ofString "scope", .ref sa), (Str.ofString "here", .str (Str.ofString "") th)]) ?k1 ?k2 ?k3 ?k4 ?k5 ?kA ?kF ?kK ?k6 ?k7 ?k8 ?k9 ?kB ?_ ?c2 ?c3 ?c4 ?c5; (case kA => exact rfl); (case kF => exact rfl); (case kK => first | exact rfl | assumption); (case k1 => k_asm); (case k2 => k_asm); (case k3 => k_asm); (case k4 => k_asm); (case k5 => k_asm); (case k6 => k_is); (case k7 => k_is); (case k8 => ktr_room); (case k9 => (rcases ha with rfl | ⟨rfl, rfl⟩ <;> first | exact BindsTo.of_eq rfl | exact binds_K (by k_in) rfl (by k_is) rfl rfl rfl)); (case c5 => decide); (case kB => exact locs rfl); (case c2 => exact rfl); (case c3 => exact rfl); (case c4 => exact rfl); k_whole; intro g' L' h' FG' F' N' B' X' T'; (try dsimp only); (try k_fold)))
  k_steps
  refine stop_in ?_
  k_dflt (refine' spine_call ?B ?F ?X ?T ?hk ?N ht ?hz ?hd ?hu ?_; (case hz => omega); (case B => k_asm); (case F => k_asm); (case X => k_asm); (case T => k_asm); (case hk => first | exact rfl | assumption); (case N => k_asm); (case hd => k_room); (case hu => k_units))
  intro vi sp vs n0 d1 h1 tk1 hi hsp hl1 F1 N1
  k_steps
  rename_i F2 N2
  have pin := part_inner t
  have nob := t.inner_nobin
  have hsp0 := sp_len t
  have hspl := hsp.length
  refine stop_in (mid_stmt (x := Str.ofString "worth") (fun wv news' => EvJ fdv ((d1, tupO [vi, .ref sp]) :: (sp, listOf vs.toArray n0) :: news) (evF fdv t.inner) wv news') F2 ?_ ?_)
  · generalize hti : t.inner = ti at hi pin nob
    have hno : evF fdv ti = none → evF fdv t = none := fun h => evF_take_none (t := t) 0 (by rw [← hti] at h; exact h)
    cases hi with
    | num a1 a2 =>
      k_steps
      refine stop_in ?_
      k_dflt (refine' aff1_call ?B ?F ?X ?T ?hk ?N ?hd ?hu ?_; (case B => k_asm); (case F => k_asm); (case X => k_asm); (case T => k_asm); (case hk => first | exact rfl | assumption); (case N => k_asm); (case hd => k_room); (case hu => k_units))
      intro r3 D3 h3 tk3 hr3 hl3 F3 N3
      k_steps
      rename_i kF kN
      exact Mid.intro kF kN ⟨D3, _, rfl, hl3, hr3, rfl⟩
    | nam a1 a2 =>
      rename_i nx
      have hnx := hn nx (pin.names nx (.head _))
      k_steps
      refine stop_in (wpAny_execs_cons ?_)
      k_steps
      refine stop_in ?_
      k_dflt (refine' find_call ?B ?F ?X ?T ?hk ?N ?hs hnx.1 hnx.2 ?hd ?hu ?_; (case B => k_asm); (case F => k_asm); (case X => k_asm); (case T => k_asm); (case hk => first | exact rfl | assumption); (case N => k_asm); (case hd => k_room); (case hu => k_units); (case hs => exact hs0.mono (by walk_at "MEM")))
      intro r3 D3 h3 tk3 hr3 hl3 F3 N3
      k_steps
      rename_i kF kN
      exact Mid.intro kF kN ⟨D3, _, rfl, hl3, hr3, rfl⟩
    | neg a1 a2 a3 =>
      rename_i bt
      have hlt : bt.dep < t.dep := Nat.lt_of_lt_of_le (Nat.lt_succ_self _) pin.dep
      have p90 := pin.n90 h90
      have plv := Nat.le_trans pin.lv hlv
      have pgood := fun v => evF_good (v := v) fit hb (t := bt) (fun x hx => (hn x (pin.names x hx)).1) p90
      k_steps
      refine stop_in (wpAny_execs_cons ?_)
      k_steps
      refine stop_in (wpAny_execs_cons ?_)
      k_steps
      refine stop_in ?_
      k_dflt (refine' ev_use (IH _ hlt) ?B ?F ?X ?T ?hk (.inl rfl) ?N ?ht ?hs hb (fun x hx => hn x (pin.names x hx)) p90 hK plv (by omega) ?hd ?hu ?_ ?_; (case B => k_asm); (case F => k_asm); (case X => k_asm); (case T => k_asm); (case hk => first | exact rfl | assumption); (case N => k_asm); (case hd => k_room); (case hu => k_units); (case hs => exact hs0.mono (by walk_at "MEM")); (case ht => exact a3.mono (by walk_at "MEM")))
      · intro z3 r3 D3 h3 tk3 hz3 hr3 hl3 F3 N3
        have hg := (pgood _ hz3).1
        k_steps
        refine stop_in ?_
        k_dflt (refine' turned_call ?B ?F ?X ?T ?hk ?N ?hr3 hg ?hd ?hu ?_; (case B => k_asm); (case F => k_asm); (case X => k_asm); (case T => k_asm); (case hk => first | exact rfl | assumption); (case N => k_asm); (case hd => k_room); (case hu => k_units); (case hr3 => exact hr3.mono (by walk_at "MEM")))
        intro r4 D4 h4 tk4 hr4 hl4 F4 N4
        k_steps
        rename_i kF kN
        rw [← List.append_assoc] at kN
        exact Mid.intro kF kN ⟨D4 ++ D3, _, rfl, by krn_off, hr4.mono (by walk_at "MEM"), by show (evF fdv bt).map negV = _; rw [hz3]; rfl⟩
      · intro hz e g h' tk' FG R U
        exact fly_on (fly (hno (by show (evF fdv bt).map negV = none; rw [hz]; rfl))) (by assumption) rfl (by assumption) FG R U (by walk_at "MEM") fun h' z => z
    | bin _ _ _ _ _ => exact nob.elim
  · rintro wv news' h2 tk2 F3 N3 ⟨D3, z, rfl, hl3, hw, hz⟩
    walk_at "FOR"
    k_steps
    rename_i F4
    refine stop_in (forS_list (σ := Option Value × Value) (l := sp) (vs := vs) (n0 := n0) (fun m u y => if y = Str.ofString "worth" then some u.2 else if y = Str.ofString "part" then u.1 else m y)
      (fun i u news₁ => EvJ fdv ((d1, tupO [vi, .ref sp]) :: (sp, listOf vs.toArray n0) :: news) (evF fdv (plug t.inner (t.sp.take i))) u.2 news₁) (a₀ := (_, wv)) rfl F4 (same1 _ _ _ _) N3 (by k_mem) ⟨D3, z, rfl, hl3, hw, hz⟩ ?_ ?_)
    · rintro i v0 ⟨u, wv⟩ news₁ I io h tk hv ⟨D, z, rfl, hlD, hw, hz⟩ hlm hoI F5 N5
      try dsimp only at F5 hw
      obtain ⟨x, dx, g1, g2, g3, g4, q1, q2, q3, q4, q5, q6, v', u', ⟨o, r⟩, rfl, hp, e1, e2, hr⟩ := spIn_get hsp hv
      try dsimp only at e2 hr
      obtain ⟨pr, plt, prl⟩ := part_sp (List.mem_of_getElem? hp)
      try dsimp only at plt prl pr
      have ptk := part_take (t := t) i
      obtain ⟨gf, gb⟩ := evF_good fit hb (fun x hx => (hn x (ptk.names x hx)).1) (ptk.n90 h90) hz
      have prg := fun v => evF_good (v := v) fit hb (t := r) (fun x hx => (hn x (pr.names x hx)).1) (pr.n90 h90)
      k_steps
      refine stop_in ?_
      k_dflt (refine' ev_use (IH r plt) ?B ?F ?X ?T ?hk (.inl rfl) ?N ?ht ?hs hb (fun x hx => hn x (pr.names x hx)) (pr.n90 h90) hK (by omega) (by omega) ?hd ?hu ?_ ?_; (case B => k_asm); (case F => k_asm); (case X => k_asm); (case T => k_asm); (case hk => first | exact rfl | assumption); (case N => k_asm); (case hd => k_room); (case hu => k_units); (case hs => exact hs0.mono (by walk_at "MEM")); (case ht => exact hr.mono (by walk_at "MEM")))
      · intro z3 r3 D3 h3 tk3 hz3 hr3 hl3 F6 N6
        obtain ⟨rf, rb⟩ := prg _ hz3
        k_steps
        refine stop_in ?_
        k_dflt (refine' comb_call ?B ?F ?X ?T ?hk ?N ?hx ?hr3 gf rf (fun _ => mul_ok gb rb (Nat.le_trans ptk.lv hlv) (by omega) hK hK) ?hd ?hu ?_ ?_; (case B => k_asm); (case F => k_asm); (case X => k_asm); (case T => k_asm); (case hk => first | exact rfl | assumption); (case N => k_asm); (case hd => k_room); (case hu => k_units); (case hx => exact hw.mono (by walk_at "MEM")); (case hr3 => exact hr3.mono (by walk_at "MEM")))
        · intro z4 r4 D4 h4 tk4 hz4 hr4 hl4 F7 N7
          k_steps
          rename_i kF kN
          refine TStep.intro (_, _) kF (ov2 _ _ _ _ _ _ _) (news_sub kN (l' := (I, io) :: (D4 ++ (D3 ++ (D ++ (d1, tupO [vi, .ref sp]) :: (sp, listOf vs.toArray n0) :: news)))) (by walk_at "MEM")) (by kp_flats) (by kbo_bools) ⟨D4 ++ (D3 ++ D), z4, by simp only [List.append_assoc], ?_, ?_, ?_⟩
          · krn_off
          · exact hr4.mono (by walk_at "MEM")
          · rw [plug_take hp]
            show ((evF fdv _).bind _) = some z4
            rw [hz]
            show ((evF fdv r).bind _) = some z4
            rw [hz3]
            exact hz4
        · intro hz4 e g h' tk' FG R U
          refine fly_on (fly (evF_take_none (i + 1) ?_)) (by assumption) rfl (by assumption) FG R U (by walk_at "MEM") fun h' z => z
          rw [plug_take hp]
          show ((evF fdv _).bind _) = none
          rw [hz]
          show ((evF fdv r).bind _) = none
          rw [hz3]
          exact hz4
      · intro hz3 e g h' tk' FG R U
        refine fly_on (fly (evF_take_none (i + 1) ?_)) (by assumption) rfl (by assumption) FG R U (by walk_at "MEM") fun h' z => z
        rw [plug_take hp]
        show ((evF fdv _).bind _) = none
        rw [hz]
        show ((evF fdv r).bind _) = none
        rw [hz3]
        rfl
    · rintro ⟨u, wv⟩ news₁ h tk ⟨D, z, rfl, hlD, hw, hz⟩ hlm F5 N5
      try dsimp only at F5 hw
      rw [hspl, List.take_length, plug_sp] at hz
      k_steps
      rename_i kF kN Tc kX
      exact ret z wv (D ++ [_, _]) _ _ hz (hw.mono (by walk_at "MEM")) (by krn_off) kF (newsA (P := [_, _]) kN)
theorem ev_all (t : Tr) : EvC t := by
  have go : ∀ n, ∀ t : Tr, t.dep < n → EvC t := by
    intro n
    induction n with
    | zero => intro t h; exact absurd h (Nat.not_lt_zero _)
    | succ n ih => intro t h; exact ev_step t fun u hu => ih u (by omega)
  exact @go _ t (Nat.lt_succ_self _)

end EvalPart
section NamesInPart
open PySem PySem.W PyProof.Rows PySem.Calls
local macro_rules | `(tactic| walk_at "PAD") => `(tactic| (fail "pad"))
noncomputable def Tr.size : Tr → Nat
  | .num _ => 1
  | .nam _ => 1
  | .neg t => t.size + 1
  | .bin _ l r => l.size + r.size + 1
inductive NIns (fro : List (Addr × Obj)) : List Value → List Tr → Prop
  | nil : NIns fro [] []
  | snoc {vs ts v t} : NIns fro vs ts → NIn fro v t → NIns fro (vs ++ [v]) (ts ++ [t])
theorem NIns.length {fro : List (Addr × Obj)} {vs : List Value} {ts : List Tr} (h : NIns fro vs ts) : vs.length = ts.length := by
  induction h with
  | nil => rfl
  | snoc _ _ ih => simp [ih]
noncomputable def sizes (ts : List Tr) : Nat := (ts.map Tr.size).sum
theorem sizes_snoc (ts : List Tr) (t : Tr) : sizes (ts ++ [t]) = sizes ts + t.size := by unfold sizes; simp
theorem Tr.size_pos (t : Tr) : 1 ≤ t.size := by cases t <;> simp only [Tr.size] <;> omega
theorem sizes_len (ts : List Tr) : ts.length ≤ sizes ts := by
  induction ts with
  | nil => exact Nat.zero_le _
  | cons t r ih => have := t.size_pos; unfold sizes at ih ⊢; simp only [List.map_cons, List.sum_cons, List.length_cons]; omega
local macro_rules | `(tactic| walk_at $k) => stopAt ["call builtin:list.append", "call builtin:list.pop", "call builtin:sorted"] k
local macro_rules | `(tactic| walk_at "compareOp Eq str str") => `(tactic| (first | ((with_reducible refine' eq_strF ?ne ?_); (case ne => with_reducible assumption)) | ((with_reducible refine' eq_strT ?ne ?_); (case ne => with_reducible assumption))))
/-- between the turns: what is found, and what is to do -/
structure Hunt (t : Tr) (n : Nat) (xs : List Str) (ts : List Tr) : Prop where
  sz : n = sizes ts
  names : ∀ x, x ∈ t.names ↔ x ∈ xs ∨ ∃ u ∈ ts, x ∈ u.names
  len : xs.length + n ≤ t.size
theorem Hunt.num {t : Tr} {n : Nat} {xs : List Str} {ts : List Tr} {i : Int} (h : Hunt t n xs (ts ++ [.num i])) : Hunt t (sizes ts) xs ts ∧ sizes ts < n := by
  have e := h.sz
  rw [sizes_snoc] at e
  have := h.len
  simp only [Tr.size] at e
  refine ⟨⟨rfl, fun x => ?_, by omega⟩, by omega⟩
  rw [h.names x]
  simp [Tr.names, or_and_right, exists_or]
theorem Hunt.nam {t : Tr} {n : Nat} {xs : List Str} {ts : List Tr} {y : Str} (h : Hunt t n xs (ts ++ [.nam y])) : (y ∈ xs → Hunt t (sizes ts) xs ts) ∧ Hunt t (sizes ts) (xs ++ [y]) ts ∧ sizes ts < n := by
  have e := h.sz
  rw [sizes_snoc] at e
  have := h.len
  simp only [Tr.size] at e
  refine ⟨fun hy => ⟨rfl, fun x => ?_, by omega⟩, ⟨rfl, fun x => ?_, by simp; omega⟩, by omega⟩
  · rw [h.names x]
    constructor
    · rintro (h | ⟨u, hu, hx⟩)
      · exact .inl h
      · rcases List.mem_append.mp hu with hu | hu
        · exact .inr ⟨u, hu, hx⟩
        · rw [List.mem_singleton.mp hu] at hx
          rw [show x = y from by simpa [Tr.names] using hx]; exact .inl hy
    · rintro (h | ⟨u, hu, hx⟩)
      · exact .inl h
      · exact .inr ⟨u, List.mem_append_left _ hu, hx⟩
  · rw [h.names x]
    constructor
    · rintro (h | ⟨u, hu, hx⟩)
      · exact .inl (List.mem_append_left _ h)
      · rcases List.mem_append.mp hu with hu | hu
        · exact .inr ⟨u, hu, hx⟩
        · rw [List.mem_singleton.mp hu] at hx
          rw [show x = y from by simpa [Tr.names] using hx]; exact .inl (List.mem_append_right _ (.head _))
    · rintro (h | ⟨u, hu, hx⟩)
      · rcases List.mem_append.mp h with h | h
        · exact .inl h
        · exact .inr ⟨.nam y, List.mem_append_right _ (.head _), by rw [List.mem_singleton.mp h]; exact .head _⟩
      · exact .inr ⟨u, List.mem_append_left _ hu, hx⟩
theorem Hunt.neg {t : Tr} {n : Nat} {xs : List Str} {ts : List Tr} {u : Tr} (h : Hunt t n xs (ts ++ [.neg u])) : Hunt t (sizes (ts ++ [u])) xs (ts ++ [u]) ∧ sizes (ts ++ [u]) < n := by
  have e := h.sz
  rw [sizes_snoc] at e
  have := h.len
  simp only [Tr.size] at e
  refine ⟨⟨rfl, fun x => ?_, by rw [sizes_snoc]; omega⟩, by rw [sizes_snoc]; omega⟩
  rw [h.names x]
  simp [Tr.names, or_and_right, exists_or]
theorem Hunt.bin {t : Tr} {n : Nat} {xs : List Str} {ts : List Tr} {o : Op} {l r : Tr} (h : Hunt t n xs (ts ++ [.bin o l r])) : Hunt t (sizes (ts ++ [l] ++ [r])) xs (ts ++ [l] ++ [r]) ∧ sizes (ts ++ [l] ++ [r]) < n := by
  have e := h.sz
  rw [sizes_snoc] at e
  have := h.len
  simp only [Tr.size] at e
  refine ⟨⟨rfl, fun x => ?_, by rw [sizes_snoc, sizes_snoc]; omega⟩, by rw [sizes_snoc, sizes_snoc]; omega⟩
  rw [h.names x]
  simp [Tr.names, or_and_right, exists_or]
/-- what holds in the loop of names_in -/
inductive NaJ (t : Tr) (news : List (Addr × Obj)) (td fo : Addr) (n : Nat) (news₁ : List (Addr × Obj)) : Prop
  | mk (fvs : List Value) (fn : Nat) (tvs : List Value) (tn : Nat) (xs : List Str) (ts : List Tr) (e : news₁ = (td, listOf tvs.toArray tn) :: (fo, listOf fvs.toArray fn) :: news) (hf : StrsAre fvs xs) (ht : NIns news tvs ts) (H : Hunt t n xs ts) : NaJ t news td fo n news₁
theorem names_call {w : World} {mean : ExcName → Option Value} {mg mb : Str → Option Value} {dp un : Nat} {gd : Option (List Code)} {cn : Str} {cs : Scope} {a : Addr} {ccd : Value} {cl : List (Str × Addr)} {outer : List Env} {A₀ : Around} {base h₀ : Heap} {L : Addr} {m : Str → Option Value} {s : Shared} {E : Value → Shared → Prop} {v : Value} {t : Tr} {news : List (Addr × Obj)} {Q : Value → Shared → Prop} (B : Below A₀ base outer h₀) (F : Fr h₀ L s.heap m) (X : (hd.heap_1 w.params).In h₀) (T : Top vw (looseW vw lse) mean mg mb h₀) (hk : cs.kind = .function)
    (N : News h₀ L s.heap news) (ht : NIn news v t) (hz : t.size ≤ 40) (hd : dp + 4 < 1000) (hu : un + 200 < 9900)
    (ret : ∀ l vs n xs D h' tk', (l, listOf vs.toArray n) ∈ D → StrsAre vs xs → (∀ x, x ∈ xs ↔ x ∈ t.names) → xs.length ≤ 40 → Later D news → Fr h₀ L h' m → News h₀ L h' (D ++ news) → Q (.ref l) { s with heap := h', toks := tk' }) :
    wpAny (model (RowW.prog (OpenRow.toRowW (OpenLaw.row PySem.Challenge.rw_pb0420_01))) w) (ktrTop dp un gd cn cs L a ccd cl outer) (call (.ref 362) [v]) Q E s := by
  revert X; k_fill; intro X
  refine wpAny_call ?_
  (k_dflt (refine' code_def (binds := [(Str.ofString "node", v)]) ?k1 ?k2 ?k3 ?k4 ?k5 ?kA ?kF ?kK ?k6 ?k7 ?k8 ?k9 ?kB ?_ ?c2 ?c3 ?c4 ?c5; (case kA => exact rfl); (case kF => exact rfl); (case kK => first | exact rfl | assumption); (case k1 => k_asm); (case k2 => k_asm); (case k3 => k_asm); (case k4 => k_asm); (case k5 => k_asm); (case k6 => k_is); (case k7 => k_is); (case k8 => ktr_room); (case k9 => first | exact BindsTo.of_eq rfl | exact binds_K (by k_in) rfl (by k_is) rfl rfl rfl); (case c5 => decide); (case kB => exact locs rfl); (case c2 => exact rfl); (case c3 => exact rfl); (case c4 => exact rfl); k_whole; intro g' L' h' FG' F' N' B' X' T'; (try dsimp only); (try k_fold)))
  k_steps
  rename_i fo _ hfo _ _ td _ hto _ F0 N0
  have hft : ∀ p ∈ news, p.1 ≠ fo := ne_lt hfo
  have htt : ∀ p ∈ news, p.1 ≠ td := allLt_ne hto.2
  have hne : fo ≠ td := Nat.ne_of_lt hto.1
  refine stop_in (wpAny_execs_cons (whileS (σ := Option Value) (fun m u y => if y = Str.ofString "part" then u else m y)
    (fun n _ news₁ => NaJ t news td fo n news₁) (n₀ := t.size) (a₀ := _) F0 (same0 _ _) N0
    ⟨[], 0, [v], 0, [], [t], rfl, .nil, .snoc .nil ht, ⟨by simp [sizes], fun x => by simp, by simp⟩⟩ ?_))
  rintro n u news₁ h₁ tk₁ F₁ N₁ ⟨fvs, fn, tvs, tn, xs, ts, rfl, sv, st, hh⟩
  try dsimp only at F₁
  have hl1 := strsAre_length sv
  have hl2 := st.length
  have hl3 := hh.len
  have hl4 := sizes_len ts
  have hl5 := hh.sz
  by_cases he : tvs = []
  · have hts : ts = [] := by subst he; exact List.eq_nil_of_length_eq_zero (by simpa using hl2.symm)
    have hnm := hh.names
    rw [hts] at hnm
    k_steps
    refine stop_in (sort_strs (by k_asm) (by k_asm) (by k_mem) sv (by omega) fun D h5 vs' n' xs' sv' hp F5 N5 l5 => ?_)
    k_steps
    rename_i kF kN Tc kX
    exact ret D vs' n' xs' [_, _, _, _] _ _ (.head _) sv' (fun x => by rw [hp.mem_iff, hnm x]; simp) (by rw [hp.length_eq]; omega) (by krn_off) kF kN
  · cases st with
    | nil => exact absurd rfl he
    | snoc st hn =>
      rename_i tvs ts v u
      have hl6 := st.length
      simp only [List.length_append, List.length_singleton] at hl4
      cases hn with
      | num a1 a2 =>
        have hnx := hh.num
        k_steps
        refine stop_in (pop_at (by k_asm) (news_sub (by k_asm) (l' := (td, listOf (tvs ++ [_]).toArray tn) :: (fo, listOf fvs.toArray fn) :: news) (by walk_at "MEM")) (by k_all) (by omega) fun h5 n5 F5 N5 => ?_)
        k_steps
        rename Fr _ _ _ _ => kF
        rename News _ _ _ _ => kN
        exact stepS _ kF (ov1 _ _ _ _) kN hnx.2 ⟨fvs, _, tvs, _, xs, ts, rfl, sv, st, hnx.1⟩
      | nam a1 a2 =>
        rename_i nx
        have hnx := hh.nam
        by_cases hin : nx ∈ xs
        · k_steps
          refine stop_in (pop_at (by k_asm) (news_sub (by k_asm) (l' := (td, listOf (tvs ++ [_]).toArray tn) :: (fo, listOf fvs.toArray fn) :: news) (by walk_at "MEM")) (by k_all) (by omega) fun h5 n5 F5 N5 => ?_)
          k_steps
          rename Fr _ _ _ _ => kF
          rename News _ _ _ _ => kN
          exact stepS _ kF (ov1 _ _ _ _) kN hnx.2.2 ⟨fvs, _, tvs, _, xs, ts, rfl, sv, st, hnx.1 hin⟩
        · k_steps
          refine stop_in (pop_at (by k_asm) (news_sub (by k_asm) (l' := (td, listOf (tvs ++ [_]).toArray tn) :: (fo, listOf fvs.toArray fn) :: news) (by walk_at "MEM")) (by k_all) (by omega) fun h5 n5 F5 N5 => ?_)
          k_steps
          refine stop_in (append_at1 (by k_asm) (news_sub (by k_asm) (l' := (fo, listOf fvs.toArray fn) :: (td, listOf tvs.toArray n5) :: news) (by walk_at "MEM")) (by k_all) (by omega) fun h6 F6 N6 => ?_)
          k_steps
          exact stepS _ F6 (ov1 _ _ _ _) (news_sub N6 (by walk_at "MEM")) hnx.2.2 ⟨_, _, tvs, _, _, ts, rfl, strsAre_append sv (.cons nx _ .nil), st, hnx.2.1⟩
      | neg a1 a2 a3 =>
        have hnx := hh.neg
        k_steps
        refine stop_in (pop_at (by k_asm) (news_sub (by k_asm) (l' := (td, listOf (tvs ++ [_]).toArray tn) :: (fo, listOf fvs.toArray fn) :: news) (by walk_at "MEM")) (by k_all) (by omega) fun h5 n5 F5 N5 => ?_)
        k_steps
        refine stop_in (append_at1 (by k_asm) (news_sub (by k_asm) (l' := (td, listOf tvs.toArray n5) :: (fo, listOf fvs.toArray fn) :: news) (by walk_at "MEM")) (by k_all) (by omega) fun h6 F6 N6 => ?_)
        k_steps
        exact stepS _ F6 (ov1 _ _ _ _) N6 hnx.2 ⟨fvs, _, _, _, xs, _, rfl, sv, st.snoc a3, hnx.1⟩
      | bin o a1 a2 a3 a4 =>
        have hnx := hh.bin
        k_steps
        refine stop_in (pop_at (by k_asm) (news_sub (by k_asm) (l' := (td, listOf (tvs ++ [_]).toArray tn) :: (fo, listOf fvs.toArray fn) :: news) (by walk_at "MEM")) (by k_all) (by omega) fun h5 n5 F5 N5 => ?_)
        k_steps
        refine stop_in (append_at1 (by k_asm) (news_sub (by k_asm) (l' := (td, listOf tvs.toArray n5) :: (fo, listOf fvs.toArray fn) :: news) (by walk_at "MEM")) (by k_all) (by omega) fun h6 F6 N6 => ?_)
        k_steps
        refine stop_in (append_at1 F6 N6 (by k_all) (by simp only [List.length_append, List.length_singleton]; omega) fun h7 F7 N7 => ?_)
        k_steps
        exact stepS _ F7 (ov1 _ _ _ _) N7 hnx.2 ⟨fvs, _, _, _, xs, _, rfl, sv, (st.snoc a3).snoc a4, hnx.1⟩

end NamesInPart
section WorthPart
open PySem PySem.W PyProof.Rows PySem.Calls
structure KnOk (M : Int) (kn : List (Str × Tr)) : Prop where
  len : kn.length ≤ 7
  nodup : (kn.map (·.1)).Nodup
  ok : ∀ p ∈ kn, p.2.ok M 2
  full : ∀ k, 0 ≤ k → k < M → eqName k ∈ kn.map (·.1)
structure SolOk (kn : List (Str × Tr)) (sl : List (Str × Option Val)) : Prop where
  nodup : (sl.map (·.1)).Nodup
  sub : ∀ x ∈ sl.map (·.1), x ∈ kn.map (·.1)
  worth : ∀ p ∈ sl, Worth kn (.nam p.1) p.2
  bits : ∀ p ∈ sl, ∀ v, p.2 = some v → v.w.natAbs < 2 ^ (7 * 4 ^ sl.length)
theorem Tr.ok_lv {M : Int} : ∀ {t : Tr} {d : Nat}, t.ok M d → t.lv ≤ 2 ^ d
  | .num _, d, _ => Nat.one_le_two_pow
  | .nam _, d, _ => Nat.one_le_two_pow
  | .neg t, 0, h => h.elim
  | .bin _ l r, 0, h => h.elim
  | .neg t, d + 1, h => Nat.le_trans (Tr.ok_lv (t := t) (d := d) h) (Nat.pow_le_pow_right (by decide) (Nat.le_succ _))
  | .bin _ l r, d + 1, h => by
    have h1 := Tr.ok_lv (t := l) (d := d) h.1
    have h2 := Tr.ok_lv (t := r) (d := d) h.2
    simp only [Tr.lv, Nat.pow_succ]; omega
theorem SolOk.snoc {M : Int} {kn : List (Str × Tr)} {sl : List (Str × Option Val)} {x : Str} {t : Tr} {r : Option Val} (S : SolOk kn sl) (hx : lk sl x = none) (ht : lk kn x = some t) (hw : Worth kn t r) (hok : t.ok M 2)
    (hb : ∀ z, r = some z → z.w.natAbs < 2 ^ (7 * t.lv * 4 ^ sl.length)) : SolOk kn (sl ++ [(x, r)]) := by
  have hlen : (sl ++ [(x, r)]).length = sl.length + 1 := by simp
  have hlv := Tr.ok_lv hok
  refine ⟨?_, fun y hy => ?_, fun p hp => ?_, fun p hp v hv => ?_⟩
  · rw [List.map_append, List.nodup_append]
    refine ⟨S.nodup, by simp, fun a ha b hb e => ?_⟩
    simp at hb
    exact lk_none.mp hx (by rw [← hb, ← e]; exact ha)
  · rw [List.map_append] at hy
    rcases List.mem_append.mp hy with hy | hy
    · exact S.sub y hy
    · simp at hy; rw [hy]; exact List.mem_map_of_mem (f := (·.1)) (lk_mem ht)
  · rcases List.mem_append.mp hp with hp | hp
    · exact S.worth p hp
    · rw [List.mem_singleton.mp hp]; exact worth_nam ht hw
  · rw [hlen]
    rcases List.mem_append.mp hp with hp | hp
    · exact Nat.lt_of_lt_of_le (S.bits p hp v hv) (Nat.pow_le_pow_right (by decide) (Nat.mul_le_mul_left _ (Nat.pow_le_pow_right (by decide) (Nat.le_succ _))))
    · rw [List.mem_singleton.mp hp] at hv
      refine Nat.lt_of_lt_of_le (hb v hv) (Nat.pow_le_pow_right (by decide) ?_)
      rw [Nat.pow_succ, Nat.mul_comm (4 ^ sl.length) 4, ← Nat.mul_assoc]
      exact Nat.mul_le_mul_right _ (by omega)
theorem nodup_length {α : Type} [DecidableEq α] : ∀ {l m : List α}, l.Nodup → (∀ x ∈ l, x ∈ m) → l.length ≤ m.length
  | [], _, _, _ => Nat.zero_le _
  | x :: r, m, h, s => by
    have hx := s x (.head _)
    have h' := List.nodup_cons.mp h
    have := nodup_length (l := r) (m := m.erase x) h'.2 fun y hy => by
      rw [List.mem_erase_of_ne (fun e : y = x => h'.1 (e ▸ hy))]; exact s y (.tail _ hy)
    rw [List.length_erase_of_mem hx] at this
    have hp := List.length_pos_of_mem hx
    simp only [List.length_cons]; omega
theorem SolOk.len {M : Int} {kn : List (Str × Tr)} {sl : List (Str × Option Val)} (S : SolOk kn sl) (K : KnOk M kn) : sl.length ≤ 7 := by
  have := nodup_length S.nodup S.sub
  simp only [List.length_map] at this
  have := K.len; omega
noncomputable def WorthP (S : Tr → Prop) (μ : Nat) : Prop := ∀ {w : World} {mean : ExcName → Option Value} {mg mb : Str → Option Value} {dp un : Nat} {gd : Option (List Code)} {cn : Str} {cs : Scope} {a : Addr} {ccd : Value} {cl : List (Str × Addr)} {outer : List Env} {A₀ : Around} {base h₀ : Heap} {L : Addr} {m : Str → Option Value} {s : Shared} {E : Value → Shared → Prop} {kd ar sd : Addr} {ko so : Obj} {kvs skvs : List (Str × Value)} {kn : List (Str × Tr)} {sl : List (Str × Option Val)} {avs : List Value} {an d : Nat} {M : Int} {ax : List Str} {v : Value} {t : Tr} {fro : List (Addr × Obj)} {Q : Value → Shared → Prop} (B : Below A₀ base outer h₀) (F : Fr h₀ L s.heap m) (X : (hd.heap_1 w.params).In h₀) (T : Top vw (looseW vw lse) mean mg mb h₀) (hk : cs.kind = .function)
    (N : News h₀ L s.heap ((sd, so) :: fro)) (hoff : ∀ p ∈ fro, p.1 ≠ sd)
    (hkm : (kd, ko) ∈ fro) (hkd : ko.IsDictOf (PySem.strKind (RowW.prog (OpenRow.toRowW (OpenLaw.row PySem.Challenge.rw_pb0420_01))) w) kvs) (hkr : Rel2 (TIn fro) kvs kn) (lok : (kd == sysModules) = false)
    (hsd : so.IsDictOf (PySem.strKind (RowW.prog (OpenRow.toRowW (OpenLaw.row PySem.Challenge.rw_pb0420_01))) w) skvs) (hsr : Rel2 (OWIn fro) skvs sl) (los : (sd == sysModules) = false)
    (ham : (ar, listOf avs.toArray an) ∈ fro) (has : StrsAre avs ax) (ht : TIn fro v t)
    (hK : KnOk M kn) (hS : SolOk kn sl) (han : ax.Nodup) (hax : ∀ x ∈ ax, x ∈ kn.map (·.1)) (hle : Leans kn ax t) (hok : t.ok M d) (hd2 : d ≤ 2)
    (hP : S t) (hμ : (7 - ax.length) * 4 + d ≤ μ) (hd : dp + μ + 6 < 1000) (hu : un + 20 * μ + 300 < 9900)
    (ret : ∀ r x D h' tk' so' skvs' sl', OWIn (D ++ fro) r x → Worth kn t x → (∀ z, x = some z → z.w.natAbs < 2 ^ (7 * t.lv * 4 ^ sl'.length)) → so'.IsDictOf (PySem.strKind (RowW.prog (OpenRow.toRowW (OpenLaw.row PySem.Challenge.rw_pb0420_01))) w) skvs' → Rel2 (OWIn (D ++ fro)) skvs' sl' → SolOk kn sl' →
      (∀ y ∈ sl'.map (·.1), y ∈ sl.map (·.1) ∨ y ∉ ax) → sl.length ≤ sl'.length → Later D ((sd, so) :: fro) → Fr h₀ L h' m → News h₀ L h' ((sd, so') :: (D ++ fro)) → Q r { s with heap := h', toks := tk' }),
    wpAny (model (RowW.prog (OpenRow.toRowW (OpenLaw.row PySem.Challenge.rw_pb0420_01))) w) (ktrTop dp un gd cn cs L a ccd cl outer) (call (.ref 403) [v, .ref kd, .ref ar, .ref sd]) Q E s
abbrev WorthC (μ : Nat) : Prop := WorthP (fun _ => True) μ
theorem worth_use {μ : Nat} (IH : WorthC μ) {w : World} {mean : ExcName → Option Value} {mg mb : Str → Option Value} {dp un : Nat} {gd : Option (List Code)} {cn : Str} {cs : Scope} {a : Addr} {ccd : Value} {cl : List (Str × Addr)} {outer : List Env} {A₀ : Around} {base h₀ : Heap} {L : Addr} {m : Str → Option Value} {s : Shared} {E : Value → Shared → Prop} {kd ar sd : Addr} {ko so : Obj} {kvs skvs : List (Str × Value)} {kn : List (Str × Tr)} {sl : List (Str × Option Val)} {avs : List Value} {an d : Nat} {M : Int} {ax : List Str} {v : Value} {t : Tr} {fro : List (Addr × Obj)} {Q : Value → Shared → Prop} (B : Below A₀ base outer h₀) (F : Fr h₀ L s.heap m) (X : (hd.heap_1 w.params).In h₀) (T : Top vw (looseW vw lse) mean mg mb h₀) (hk : cs.kind = .function)
    (N : News h₀ L s.heap ((sd, so) :: fro)) (hoff : ∀ p ∈ fro, p.1 ≠ sd)
    (hkm : (kd, ko) ∈ fro) (hkd : ko.IsDictOf (PySem.strKind (RowW.prog (OpenRow.toRowW (OpenLaw.row PySem.Challenge.rw_pb0420_01))) w) kvs) (hkr : Rel2 (TIn fro) kvs kn) (lok : (kd == sysModules) = false)
    (hsd : so.IsDictOf (PySem.strKind (RowW.prog (OpenRow.toRowW (OpenLaw.row PySem.Challenge.rw_pb0420_01))) w) skvs) (hsr : Rel2 (OWIn fro) skvs sl) (los : (sd == sysModules) = false)
    (ham : (ar, listOf avs.toArray an) ∈ fro) (has : StrsAre avs ax) (ht : TIn fro v t)
    (hK : KnOk M kn) (hS : SolOk kn sl) (han : ax.Nodup) (hax : ∀ x ∈ ax, x ∈ kn.map (·.1)) (hle : Leans kn ax t) (hok : t.ok M d) (hd2 : d ≤ 2)
    (hμ : (7 - ax.length) * 4 + d ≤ μ) (hd : dp + μ + 6 < 1000) (hu : un + 20 * μ + 300 < 9900)
    (ret : ∀ r x D h' tk' so' skvs' sl', OWIn (D ++ fro) r x → Worth kn t x → (∀ z, x = some z → z.w.natAbs < 2 ^ (7 * t.lv * 4 ^ sl'.length)) → so'.IsDictOf (PySem.strKind (RowW.prog (OpenRow.toRowW (OpenLaw.row PySem.Challenge.rw_pb0420_01))) w) skvs' → Rel2 (OWIn (D ++ fro)) skvs' sl' → SolOk kn sl' →
      (∀ y ∈ sl'.map (·.1), y ∈ sl.map (·.1) ∨ y ∉ ax) → sl.length ≤ sl'.length → Later D ((sd, so) :: fro) → Fr h₀ L h' m → News h₀ L h' ((sd, so') :: (D ++ fro)) → Q r { s with heap := h', toks := tk' }) :
    wpAny (model (RowW.prog (OpenRow.toRowW (OpenLaw.row PySem.Challenge.rw_pb0420_01))) w) (ktrTop dp un gd cn cs L a ccd cl outer) (call (.ref 403) [v, .ref kd, .ref ar, .ref sd]) Q E s :=
  IH B F X T hk N hoff hkm hkd hkr lok hsd hsr los ham has ht hK hS han hax hle hok hd2 trivial hμ hd hu ret

local macro_rules | `(tactic| walk_at "binaryOp Add ref ref") => `(tactic| (k_here; k_dflt (refine' add_list (by k_asm) (by k_asm) (by k_mem) (by k_mem) (by (simp only [List.length_cons, List.length_nil]; omega)) ?_); intro d' h' F' N' l1; (try k_lt l1)))
local macro_rules | `(tactic| walk_at $k) => stopAt ["setItem ref str"] k
theorem worth_num (μ : Nat) (IH : ∀ ν, ν < μ → WorthC ν) : WorthP (fun t => ∃ i, t = .num i) μ := by
  intro w mean mg mb dp un gd cn cs a ccd cl outer A₀ base h₀ L m s E kd ar sd ko so kvs skvs kn sl avs an d M ax v t fro Q B F X T hk N hoff hkm hkd hkr lok hsd hsr los ham has ht hK hS han hax hle hok hd2 hP hμ hd hu ret
  obtain ⟨i, rfl⟩ := hP
  have hd9 : dp + 6 < 1000 := rmx hd
  have hu9 : un + 300 < 9900 := rmx hu
  revert X; k_fill; intro X
  have hav : avs.length ≤ 7 := by
    have h1 := strsAre_length has
    have h2 := nodup_length han hax
    have h3 := hK.len
    simp only [List.length_map] at h2
    omega
  cases ht with
  | num hm =>
    refine wpAny_call ?_
    (show codeAny _ _ (Code.call _ ⟨[?x18_0, ?x18_1, ?x18_2, ?x18_3], []⟩) _ _; k_dflt (refine' code_def (binds := [(Str.ofString "told", ?x18_0), (Str.ofString "known", ?x18_1), (Str.ofString "around", ?x18_2), (Str.ofString "solved", ?x18_3)]) ?k1 ?k2 ?k3 ?k4 ?k5 ?kA ?kF ?kK ?k6 ?k7 ?k8 ?k9 ?kB ?_ ?c2 ?c3 ?c4 ?c5; (case kA => exact rfl); (case kF => exact rfl); (case kK => first | exact rfl | assumption); (case k1 => k_asm); (case k2 => k_asm); (case k3 => k_asm); (case k4 => k_asm); (case k5 => k_asm); (case k6 => k_is); (case k7 => k_is); (case k8 => ktr_room); (case k9 => first | exact BindsTo.of_eq rfl | exact binds_K (by k_in) rfl (by k_is) rfl rfl rfl); (case c5 => decide); (case kB => exact locs rfl); (case c2 => exact rfl); (case c3 => exact rfl); (case c4 => exact rfl); k_whole; intro g' L' h' FG' F' N' B' X' T'; (try dsimp only); (try k_fold)))
    k_steps
    rename_i kF kN Tc kX
    refine ret _ (some ⟨i, none, none⟩) [_, _, _] _ _ so skvs sl (WIn.mk (.head _) ⟨_, .tail _ (.tail _ (.head _)), .nil⟩ ⟨_, .tail _ (.head _), .nil⟩) ⟨0, .num⟩ (fun z h => ?_) hsd (hsr.mono fun v b h => h.mono (by walk_at "MEM")) hS (fun y hy => .inl hy) (Nat.le_refl _) (by krn_off) kF (pull3 kN)
    cases h
    have h90 : 0 ≤ i ∧ i < 90 := by cases d <;> exact hok
    refine Nat.lt_of_lt_of_le (show i.natAbs < 2 ^ 7 by omega) (Nat.pow_le_pow_right (by decide) ?_)
    have := Nat.one_le_pow sl.length 4 (by decide)
    simp only [Tr.lv]; omega
theorem worth_nam' (μ : Nat) (IH : ∀ ν, ν < μ → WorthC ν) : WorthP (fun t => ∃ x, t = .nam x) μ := by
  intro w mean mg mb dp un gd cn cs a ccd cl outer A₀ base h₀ L m s E kd ar sd ko so kvs skvs kn sl avs an d M ax v t fro Q B F X T hk N hoff hkm hkd hkr lok hsd hsr los ham has ht hK hS han hax hle hok hd2 hP hμ hd hu ret
  obtain ⟨x, rfl⟩ := hP
  have hd9 : dp + 6 < 1000 := rmx hd
  have hu9 : un + 300 < 9900 := rmx hu
  revert X; k_fill; intro X
  have hav : avs.length ≤ 7 := by
    have h1 := strsAre_length has
    have h2 := nodup_length han hax
    have h3 := hK.len
    simp only [List.length_map] at h2
    omega
  cases ht with
  | nam hm =>
    rename_i at1 kt1 tx
    by_cases hin : x ∈ ax
    · refine wpAny_call ?_
      (show codeAny _ _ (Code.call _ ⟨[?x19_0, ?x19_1, ?x19_2, ?x19_3], []⟩) _ _; k_dflt (refine' code_def (binds := [(Str.ofString "told", ?x19_0), (Str.ofString "known", ?x19_1), (Str.ofString "around", ?x19_2), (Str.ofString "solved", ?x19_3)]) ?k1 ?k2 ?k3 ?k4 ?k5 ?kA ?kF ?kK ?k6 ?k7 ?k8 ?k9 ?kB ?_ ?c2 ?c3 ?c4 ?c5; (case kA => exact rfl); (case kF => exact rfl); (case kK => first | exact rfl | assumption); (case k1 => k_asm); (case k2 => k_asm); (case k3 => k_asm); (case k4 => k_asm); (case k5 => k_asm); (case k6 => k_is); (case k7 => k_is); (case k8 => ktr_room); (case k9 => first | exact BindsTo.of_eq rfl | exact binds_K (by k_in) rfl (by k_is) rfl rfl rfl); (case c5 => decide); (case kB => exact locs rfl); (case c2 => exact rfl); (case c3 => exact rfl); (case c4 => exact rfl); k_whole; intro g' L' h' FG' F' N' B' X' T'; (try dsimp only); (try k_fold)))
      k_steps
      rename_i kF kN Tc kX
      exact ret .none none [] _ _ so skvs sl rfl (hle.ring hin) (fun _ h => (nomatch h)) hsd hsr hS (fun y hy => .inl hy) (Nat.le_refl _) Later.nil kF kN
    · rcases hkr.at x with ⟨e1, e2⟩ | ⟨vx, tr, e1, e2, e3⟩
      · refine wpAny_call ?_
        (show codeAny _ _ (Code.call _ ⟨[?x20_0, ?x20_1, ?x20_2, ?x20_3], []⟩) _ _; k_dflt (refine' code_def (binds := [(Str.ofString "told", ?x20_0), (Str.ofString "known", ?x20_1), (Str.ofString "around", ?x20_2), (Str.ofString "solved", ?x20_3)]) ?k1 ?k2 ?k3 ?k4 ?k5 ?kA ?kF ?kK ?k6 ?k7 ?k8 ?k9 ?kB ?_ ?c2 ?c3 ?c4 ?c5; (case kA => exact rfl); (case kF => exact rfl); (case kK => first | exact rfl | assumption); (case k1 => k_asm); (case k2 => k_asm); (case k3 => k_asm); (case k4 => k_asm); (case k5 => k_asm); (case k6 => k_is); (case k7 => k_is); (case k8 => ktr_room); (case k9 => first | exact BindsTo.of_eq rfl | exact binds_K (by k_in) rfl (by k_is) rfl rfl rfl); (case c5 => decide); (case kB => exact locs rfl); (case c2 => exact rfl); (case c3 => exact rfl); (case c4 => exact rfl); k_whole; intro g' L' h' FG' F' N' B' X' T'; (try dsimp only); (try k_fold)))
        k_steps
        rename_i kF kN Tc kX
        refine ret _ (some ⟨0, some x, none⟩) [_, _, _] _ _ so skvs sl (WIn.mk (.head _) ⟨_, .tail _ (.tail _ (.head _)), .cons x tx .nil⟩ ⟨_, .tail _ (.head _), .nil⟩) ⟨0, .lab e1⟩ (fun z h => ?_) hsd (hsr.mono fun v b h => h.mono (by walk_at "MEM")) hS (fun y hy => .inl hy) (Nat.le_refl _) (by krn_off) kF (pull3 kN)
        cases h; exact Nat.two_pow_pos _
      · rcases hsr.at x with ⟨f1, f2⟩ | ⟨rx, vr, f1, f2, f3⟩
        · refine wpAny_call ?_
          (show codeAny _ _ (Code.call _ ⟨[?x21_0, ?x21_1, ?x21_2, ?x21_3], []⟩) _ _; k_dflt (refine' code_def (binds := [(Str.ofString "told", ?x21_0), (Str.ofString "known", ?x21_1), (Str.ofString "around", ?x21_2), (Str.ofString "solved", ?x21_3)]) ?k1 ?k2 ?k3 ?k4 ?k5 ?kA ?kF ?kK ?k6 ?k7 ?k8 ?k9 ?kB ?_ ?c2 ?c3 ?c4 ?c5; (case kA => exact rfl); (case kF => exact rfl); (case kK => first | exact rfl | assumption); (case k1 => k_asm); (case k2 => k_asm); (case k3 => k_asm); (case k4 => k_asm); (case k5 => k_asm); (case k6 => k_is); (case k7 => k_is); (case k8 => ktr_room); (case k9 => first | exact BindsTo.of_eq rfl | exact binds_K (by k_in) rfl (by k_is) rfl rfl rfl); (case c5 => decide); (case kB => exact locs rfl); (case c2 => exact rfl); (case c3 => exact rfl); (case c4 => exact rfl); k_whole; intro g' L' h' FG' F' N' B' X' T'; (try dsimp only); (try k_fold)))
          k_steps
          rename_i lb h2 F2 N2 l2 ar2 h3 F3 N3 l3
          have hnd : (ax ++ [x]).Nodup := by rw [List.nodup_append]; exact ⟨han, by simp, fun a ha b hb e => hin (by simp at hb; rw [← hb, ← e]; exact ha)⟩
          have hxs : ∀ y ∈ ax ++ [x], y ∈ kn.map (·.1) := fun y hy => (List.mem_append.mp hy).elim (hax y) fun h => by simp at h; rw [h]; exact List.mem_map_of_mem (f := (·.1)) (lk_mem e1)
          have hl7 := nodup_length hnd hxs
          have hkl := hK.len
          simp only [List.length_map, List.length_append, List.length_singleton] at hl7
          have hlt : (7 - (ax ++ [x]).length) * 4 + 2 < μ := by simp only [List.length_append, List.length_singleton]; omega
          have N9 := news_sub N3 (l' := (sd, so) :: (ar2, listOf (avs ++ [Value.str x tx]).toArray 0) :: (lb, listOf [Value.str x tx].toArray 0) :: fro) (by walk_at "MEM")
          refine stop_in ?_
          k_dflt (refine' worth_use (IH _ hlt) ?B F3 ?X ?T ?hk N9 ?hoff ?hkm hkd ?hkr lok hsd ?hsr los ?ham (strsAre_append has (.cons x tx .nil)) ?ht hK hS hnd hxs (hle.nam e1) (hK.ok _ (lk_mem e1)) (Nat.le_refl _) (Nat.le_refl _) ?hd ?hu ?_)
          (case B => k_asm)
          (case X => k_asm)
          (case T => k_asm)
          (case hk => first | exact rfl | assumption)
          (case hoff => k_all)
          (case hkm => k_mem)
          (case hkr => exact hkr.mono fun v b h => h.mono (by walk_at "MEM"))
          (case hsr => exact hsr.mono fun v b h => h.mono (by walk_at "MEM"))
          (case ham => k_mem)
          (case ht => exact e3.mono (by walk_at "MEM"))
          (case hd => k_room)
          (case hu => k_units)
          intro r1 x1 D1 h1 tk1 so1 sk1 sl1 how hw hb hsd1 hsr1 hS1 hnew hlen hl1 F1 N1
          try k_sweep
          have g1 : lk sl1 x = none := lk_none.mpr fun h => (hnew x h).elim (lk_none.mp f1) fun h => h (List.mem_append_right _ (.head _))
          have g2 : valueAt sk1 x = none := by rcases hsr1.at x with ⟨_, q⟩ | ⟨_, _, q, _, _⟩; exact q; rw [g1] at q; cases q
          have hz7 := hS1.len hK
          have hz8 := hsr1.length
          k_steps
          refine stop_in (dict_set1 (by k_asm) N1 (by k_all) hsd1 g2 (by omega) fun h5 so5 F5 N5 hsd5 => ?_)
          have g3 : valueAt (sk1 ++ [(x, r1)]) x = some r1 := by
            rcases (hsr1.append how (x := x)).at x with ⟨q, _⟩ | ⟨v', b', q1, q2, q3⟩
            · rw [lk_append, g1] at q; simp at q
            · rw [← stored_new g2]; exact valueAt_stored_self _ _ _
          k_steps
          rename_i kF kN Tc kX
          have eD : D1 ++ (ar2, listOf (avs ++ [Value.str x tx]).toArray 0) :: (lb, listOf [Value.str x tx].toArray 0) :: fro = (D1 ++ [(ar2, listOf (avs ++ [Value.str x tx]).toArray 0), (lb, listOf [Value.str x tx].toArray 0)]) ++ fro := by simp
          rw [eD] at how hsr1 kN
          have hlv : tr.lv ≤ 4 := Nat.le_trans (Tr.ok_lv (d := 2) (hK.ok _ (lk_mem e1))) (by decide)
          have hb' : ∀ z, x1 = some z → z.w.natAbs < 2 ^ (7 * (Tr.nam x).lv * 4 ^ (sl1 ++ [(x, x1)]).length) := fun z hz => by
            refine Nat.lt_of_lt_of_le (hb z hz) (Nat.pow_le_pow_right (by decide) ?_)
            simp only [Tr.lv, List.length_append, List.length_singleton, Nat.pow_succ, Nat.mul_one]
            rw [Nat.mul_comm (4 ^ sl1.length) 4, ← Nat.mul_assoc]
            exact Nat.mul_le_mul_right _ (by omega)
          refine ret r1 x1 _ _ _ so5 (sk1 ++ [(x, r1)]) (sl1 ++ [(x, x1)]) how (worth_nam e1 hw) hb' hsd5 (hsr1.append how) (hS1.snoc (M := M) g1 e1 hw (hK.ok _ (lk_mem e1)) hb) (fun y hy => ?_) (by simp; omega) ?_ kF kN
          · rw [List.map_append] at hy
            rcases List.mem_append.mp hy with hy | hy
            · exact (hnew y hy).imp id fun h h' => h (List.mem_append_left _ h')
            · simp at hy; rw [hy]; exact .inr hin
          · refine Later.app (hl1.weak (by walk_at "MEM")) ?_
            krn_off
        · refine wpAny_call ?_
          (show codeAny _ _ (Code.call _ ⟨[?x22_0, ?x22_1, ?x22_2, ?x22_3], []⟩) _ _; k_dflt (refine' code_def (binds := [(Str.ofString "told", ?x22_0), (Str.ofString "known", ?x22_1), (Str.ofString "around", ?x22_2), (Str.ofString "solved", ?x22_3)]) ?k1 ?k2 ?k3 ?k4 ?k5 ?kA ?kF ?kK ?k6 ?k7 ?k8 ?k9 ?kB ?_ ?c2 ?c3 ?c4 ?c5; (case kA => exact rfl); (case kF => exact rfl); (case kK => first | exact rfl | assumption); (case k1 => k_asm); (case k2 => k_asm); (case k3 => k_asm); (case k4 => k_asm); (case k5 => k_asm); (case k6 => k_is); (case k7 => k_is); (case k8 => ktr_room); (case k9 => first | exact BindsTo.of_eq rfl | exact binds_K (by k_in) rfl (by k_is) rfl rfl rfl); (case c5 => decide); (case kB => exact locs rfl); (case c2 => exact rfl); (case c3 => exact rfl); (case c4 => exact rfl); k_whole; intro g' L' h' FG' F' N' B' X' T'; (try dsimp only); (try k_fold)))
          k_steps
          rename_i kF kN Tc kX
          exact ret rx vr [] _ _ so skvs sl f3 (hS.worth _ (lk_mem f1)) (fun z hz => by have := hS.bits _ (lk_mem f1) z hz; simpa [Tr.lv] using this) hsd hsr hS (fun y hy => .inl hy) (Nat.le_refl _) Later.nil kF kN
theorem worth_neg' (μ : Nat) (IH : ∀ ν, ν < μ → WorthC ν) : WorthP (fun t => ∃ u, t = .neg u) μ := by
  intro w mean mg mb dp un gd cn cs a ccd cl outer A₀ base h₀ L m s E kd ar sd ko so kvs skvs kn sl avs an d M ax v t fro Q B F X T hk N hoff hkm hkd hkr lok hsd hsr los ham has ht hK hS han hax hle hok hd2 hP hμ hd hu ret
  obtain ⟨t1, rfl⟩ := hP
  have hd9 : dp + 6 < 1000 := rmx hd
  have hu9 : un + 300 < 9900 := rmx hu
  revert X; k_fill; intro X
  have hav : avs.length ≤ 7 := by
    have h1 := strsAre_length has
    have h2 := nodup_length han hax
    have h3 := hK.len
    simp only [List.length_map] at h2
    omega
  cases ht with
  | neg hm ht1 =>
    rename_i a1 k1 v1
    cases d with
    | zero => exact hok.elim
    | succ d =>
    have hlt : (7 - ax.length) * 4 + d < μ := by omega
    have hd8 : dp + 1 + ((7 - ax.length) * 4 + d) + 6 < 1000 := by omega
    have hu8 : un + 3 + 20 * ((7 - ax.length) * 4 + d) + 300 < 9900 := by omega
    refine wpAny_call ?_
    (show codeAny _ _ (Code.call _ ⟨[?x23_0, ?x23_1, ?x23_2, ?x23_3], []⟩) _ _; k_dflt (refine' code_def (binds := [(Str.ofString "told", ?x23_0), (Str.ofString "known", ?x23_1), (Str.ofString "around", ?x23_2), (Str.ofString "solved", ?x23_3)]) ?k1 ?k2 ?k3 ?k4 ?k5 ?kA ?kF ?kK ?k6 ?k7 ?k8 ?k9 ?kB ?_ ?c2 ?c3 ?c4 ?c5; (case kA => exact rfl); (case kF => exact rfl); (case kK => first | exact rfl | assumption); (case k1 => k_asm); (case k2 => k_asm); (case k3 => k_asm); (case k4 => k_asm); (case k5 => k_asm); (case k6 => k_is); (case k7 => k_is); (case k8 => ktr_room); (case k9 => first | exact BindsTo.of_eq rfl | exact binds_K (by k_in) rfl (by k_is) rfl rfl rfl); (case c5 => decide); (case kB => exact locs rfl); (case c2 => exact rfl); (case c3 => exact rfl); (case c4 => exact rfl); k_whole; intro g' L' h' FG' F' N' B' X' T'; (try dsimp only); (try k_fold)))
    k_steps
    refine stop_in ?_
    k_dflt (refine' worth_use (IH _ hlt) ?B ?F ?X ?T ?hk ?N ?hoff ?hkm hkd ?hkr lok hsd ?hsr los ?ham has ?ht hK hS han hax hle.neg hok (by omega) (Nat.le_refl _) ?hd ?hu ?_)
    (case B => k_asm)
    (case F => k_asm)
    (case X => k_asm)
    (case T => k_asm)
    (case hk => first | exact rfl | assumption)
    (case N => k_asm)
    (case hoff => k_all)
    (case hkm => k_mem)
    (case hkr => first | exact hkr | exact hkr.mono fun v b h => h.mono (by walk_at "MEM"))
    (case hsr => assumption)
    (case ham => k_mem)
    (case ht => first | assumption | exact ht2.mono (by walk_at "MEM"))
    (case hd => k_room)
    (case hu => k_units)
    intro r1 x1 D1 h1 tk1 so1 sk1 sl1 how hw hb hsd1 hsr1 hS1 hnew hlen hl1 F1 N1
    try k_sweep
    cases x1 with
    | none =>
      cases how
      k_steps
      rename_i kF kN Tc kX
      exact ret .none none D1 _ _ so1 sk1 sl1 rfl (worth_neg hw) (fun _ h => (nomatch h)) hsd1 hsr1 hS1 hnew hlen hl1 kF kN
    | some z =>
      cases how with
      | mk hm1 hp1 hq1 =>
      rename_i p1 b1 c1 i1 q1 pp mm
      k_steps
      rename_i n1 m1 F2 N2 l2 kF kN Tc kX
      refine ret (.ref n1) (some ⟨0 - i1, mm, pp⟩) ((n1, _) :: D1) _ _ so1 sk1 sl1 (WIn.mk (.head _) (hq1.mono (by walk_at "MEM")) (hp1.mono (by walk_at "MEM"))) (worth_neg hw) (fun z hz => ?_) hsd1 (hsr1.mono fun v b h => h.mono (by walk_at "MEM")) hS1 hnew hlen (by krn_off) kF (pull1 kN)
      cases hz
      have := hb _ rfl
      simp only [Tr.lv]
      rwa [show (0 - i1).natAbs = i1.natAbs by omega]

end WorthPart
section SolvePPart
open PySem PySem.W PyProof.Rows PySem.Calls
theorem cps_app (a b : Str) : (a ++ b).cps.toList = a.cps.toList ++ b.cps.toList := by
  show (Str.append a b).cps.toList = _
  unfold Str.append; simp
theorem eqName_two (k : Int) : (eqName k).cps.toList[1]? = some 113 := by
  unfold eqName
  rw [cps_app, List.getElem?_append_left (by decide)]
  decide
theorem eqName_ne {k : Int} : eqName k ≠ Str.ofString "" := fun e => by
  have := eqName_two k
  rw [e] at this
  revert this; decide
theorem eqName_nolabel {k : Int} : ¬ isLabel (eqName k) := fun h => by
  have := eqName_two k
  rcases h with e | e | e <;> (rw [e] at this; revert this; decide)
theorem ok_names {M : Int} : ∀ {t : Tr} {d : Nat}, t.ok M d → ∀ x ∈ t.names, isLabel x ∨ ∃ k : Int, 0 ≤ k ∧ k < M ∧ x = eqName k
  | .num _, _, _, x, hx => nomatch hx
  | .nam y, d, h, x, hx => by
    rw [List.mem_singleton.mp hx]
    cases d <;> exact h
  | .neg _, 0, h, _, _ => h.elim
  | .bin .., 0, h, _, _ => h.elim
  | .neg t, d + 1, h, x, hx => ok_names (t := t) (d := d) h x hx
  | .bin _ l r, d + 1, h, x, hx => (List.mem_append.mp hx).elim (ok_names (t := l) (d := d) h.1 x) (ok_names (t := r) (d := d) h.2 x)
theorem ok_n90 {M : Int} : ∀ {t : Tr} {d : Nat}, t.ok M d → t.n90
  | .num _, 0, h => h
  | .num _, _ + 1, h => h
  | .nam _, _, _ => trivial
  | .neg _, 0, h => h.elim
  | .bin .., 0, h => h.elim
  | .neg t, d + 1, h => ok_n90 (t := t) (d := d) h
  | .bin _ l r, d + 1, h => ⟨ok_n90 (t := l) (d := d) h.1, ok_n90 (t := r) (d := d) h.2⟩
theorem ok_dep {M : Int} : ∀ {t : Tr} {d : Nat}, t.ok M d → t.dep ≤ d
  | .num _, _, _ => Nat.zero_le _
  | .nam _, _, _ => Nat.zero_le _
  | .neg _, 0, h => h.elim
  | .bin .., 0, h => h.elim
  | .neg t, d + 1, h => by have := ok_dep (t := t) (d := d) h; simp only [Tr.dep]; omega
  | .bin _ l r, d + 1, h => by
    have h1 := ok_dep (t := l) (d := d) h.1
    have h2 := ok_dep (t := r) (d := d) h.2
    simp only [Tr.dep]; omega
theorem ok_size {M : Int} : ∀ {t : Tr} {d : Nat}, t.ok M d → t.size + 1 ≤ 2 ^ (d + 1)
  | .num _, d, _ => by simp only [Tr.size]; have := Nat.one_le_two_pow (n := d); rw [Nat.pow_succ]; omega
  | .nam _, d, _ => by simp only [Tr.size]; have := Nat.one_le_two_pow (n := d); rw [Nat.pow_succ]; omega
  | .neg _, 0, h => h.elim
  | .bin .., 0, h => h.elim
  | .neg t, d + 1, h => by
    have := ok_size (t := t) (d := d) h
    have := Nat.one_le_two_pow (n := d + 1)
    simp only [Tr.size]; rw [Nat.pow_succ 2 (d + 1)]; omega
  | .bin _ l r, d + 1, h => by
    have h1 := ok_size (t := l) (d := d) h.1
    have h2 := ok_size (t := r) (d := d) h.2
    simp only [Tr.size]; rw [Nat.pow_succ 2 (d + 1)]; omega
theorem ev_name {kn : List (Str × Tr)} {n : Nat} {t : Tr} {v : Val} (h : Ev kn n t v) : ∀ y ∈ t.names, ∃ m, m ≤ n ∧ ∃ u, Ev kn m (.nam y) u := by
  have up : ∀ {n m : Nat}, m = n + 1 → ∀ {y}, (∃ k, k ≤ n ∧ ∃ u, Ev kn k (.nam y) u) → ∃ k, k ≤ m ∧ ∃ u, Ev kn k (.nam y) u := fun e _ ⟨k, h, z⟩ => ⟨k, by omega, z⟩
  induction h with
  | num => intro y hy; cases hy
  | @lab n x h => intro y hy; rw [List.mem_singleton.mp hy]; exact ⟨n, Nat.le_refl _, _, .lab h⟩
  | @nam n x t v h k _ => intro y hy; rw [List.mem_singleton.mp hy]; exact ⟨n + 1, Nat.le_refl _, _, .nam h k⟩
  | neg _ ih => intro y hy; exact up rfl (ih y hy)
  | add _ _ _ i1 i2 => intro y hy; exact (List.mem_append.mp hy).elim (fun h => up rfl (i1 y h)) fun h => up rfl (i2 y h)
  | sub _ _ _ i1 i2 => intro y hy; exact (List.mem_append.mp hy).elim (fun h => up rfl (i1 y h)) fun h => up rfl (i2 y h)
  | mul _ _ i1 i2 => intro y hy; exact (List.mem_append.mp hy).elim (fun h => up rfl (i1 y h)) fun h => up rfl (i2 y h)
theorem ring_none {kn ws : List (Str × Tr)} (hnd : (kn.map (·.1)).Nodup) (hsub : ∀ p ∈ ws, p ∈ kn) (hl : ∀ p ∈ ws, ∃ y ∈ p.2.names, ∃ q ∈ ws, q.1 = y) : ∀ p ∈ ws, ¬ Has kn (.nam p.1) := by
  have go : ∀ n, ∀ p ∈ ws, ∀ v, ¬ Ev kn n (.nam p.1) v := by
    intro n
    induction n using Nat.strongRecOn with
    | ind n ih =>
      intro p hp v h
      have e := lk_of_mem hnd (show (p.1, p.2) ∈ kn from hsub p hp)
      cases h with
      | lab h => rw [e] at h; cases h
      | nam h k =>
        rw [e] at h; cases h
        obtain ⟨y, hy, q, hq, rfl⟩ := hl p hp
        obtain ⟨m, hm, u, z⟩ := ev_name k q.1 hy
        exact ih m (by omega) q hq u z
  rintro p hp ⟨n, v, h⟩
  exact go n p hp v h
structure FdOk (kn : List (Str × Tr)) (fdv : List (Str × Val)) : Prop where
  ev : ∀ p ∈ fdv, ∃ n, Ev kn n (.nam p.1) p.2
  nodup : (fdv.map (·.1)).Nodup
  keys : ∀ x ∈ fdv.map (·.1), x ∈ kn.map (·.1)
  fit : ∀ p ∈ fdv, p.2.fit
  bits : ∀ p ∈ fdv, p.2.w.natAbs < 2 ^ (7 * 4 ^ fdv.length)
theorem FdOk.nil (kn : List (Str × Tr)) : FdOk kn [] := ⟨fun _ h => (nomatch h), .nil, fun _ h => (nomatch h), fun _ h => (nomatch h), fun _ h => (nomatch h)⟩
theorem FdOk.len {kn : List (Str × Tr)} {fdv : List (Str × Val)} (h : FdOk kn fdv) : fdv.length ≤ kn.length := by
  have := nodup_length h.nodup h.keys
  simpa using this
theorem evF_worth {kn : List (Str × Tr)} {fdv : List (Str × Val)} (h : FdOk kn fdv) : ∀ {t : Tr}, (∀ x ∈ t.names, x ∈ kn.map (·.1) → x ∈ fdv.map (·.1)) → Worth kn t (evF fdv t) := by
  intro t
  induction t with
  | num i => intro _; exact ⟨0, .num⟩
  | nam x =>
    intro hc
    show Worth kn (.nam x) (some (foundV fdv x))
    cases e : lk fdv x with
    | some v => rw [foundV_some e]; exact h.ev _ (lk_mem e)
    | none =>
      rw [foundV_none e]
      refine ⟨0, .lab (lk_none.mpr fun hx => lk_none.mp e (hc x (.head _) hx))⟩
  | neg t ih => intro hc; exact worth_neg (ih hc)
  | bin o l r ihl ihr =>
    intro hc
    have h1 := ihl fun x hx => hc x (List.mem_append_left _ hx)
    have h2 := ihr fun x hx => hc x (List.mem_append_right _ hx)
    show Worth kn (.bin o l r) ((evF fdv l).bind fun a => (evF fdv r).bind fun b => opV o a b)
    cases e1 : evF fdv l with
    | none => rw [e1] at h1; exact worth_left h1
    | some a =>
      cases e2 : evF fdv r with
      | none => rw [e2] at h2; exact worth_right h2
      | some b =>
        rw [e1] at h1; rw [e2] at h2
        cases o with
        | add => exact worth_add h1 h2
        | sub => exact worth_sub h1 h2
        | mul => exact worth_mul h1 h2
/-- rows that the law draws -/
structure RwOk (M : Int) (kn : List (Str × Tr)) : Prop where
  ok : KnOk M kn
  eq : ∀ p ∈ kn, ∃ k : Int, p.1 = eqName k
theorem RwOk.hn {M : Int} {kn : List (Str × Tr)} {fdv : List (Str × Val)} (R : RwOk M kn) {p : Str × Tr} (hp : p ∈ kn) (hc : ∀ x ∈ p.2.names, x ∈ kn.map (·.1) → x ∈ fdv.map (·.1)) : ∀ x ∈ p.2.names, (lk fdv x = none → isLabel x) ∧ x ≠ Str.ofString "" := by
  intro x hx
  rcases ok_names (R.ok.ok p hp) x hx with h | ⟨k, h0, h1, rfl⟩
  · exact ⟨fun _ => h, label_ne h⟩
  · exact ⟨fun e => absurd (hc _ hx (R.ok.full k h0 h1)) (lk_none.mp e), eqName_ne⟩
theorem RwOk.key {M : Int} {kn : List (Str × Tr)} {fdv : List (Str × Val)} (R : RwOk M kn) (h : FdOk kn fdv) : ∀ p ∈ fdv, ¬ isLabel p.1 ∧ p.1 ≠ Str.ofString "" := by
  intro p hp
  obtain ⟨q, hq, e⟩ := List.mem_map.mp (h.keys p.1 (List.mem_map_of_mem (f := (·.1)) hp))
  obtain ⟨k, hk⟩ := R.eq q hq
  rw [← e, hk]
  exact ⟨eqName_nolabel, eqName_ne⟩
theorem FdOk.snoc {M : Int} {kn : List (Str × Tr)} {fdv : List (Str × Val)} (R : RwOk M kn) (h : FdOk kn fdv) {p : Str × Tr} {v : Val} (hp : p ∈ kn) (hf : p.1 ∉ fdv.map (·.1)) (hc : ∀ x ∈ p.2.names, x ∈ kn.map (·.1) → x ∈ fdv.map (·.1)) (hv : evF fdv p.2 = some v) : FdOk kn (fdv ++ [(p.1, v)]) := by
  have hw := evF_worth h hc
  rw [hv] at hw
  obtain ⟨n, hw⟩ := hw
  have hg := evF_good h.fit h.bits (fun x hx => (R.hn hp hc x hx).1) (ok_n90 (R.ok.ok p hp)) hv
  have e := lk_of_mem R.ok.nodup (show (p.1, p.2) ∈ kn from hp)
  refine ⟨fun q hq => ?_, ?_, fun x hx => ?_, fun q hq => ?_, fun q hq => ?_⟩
  · rcases List.mem_append.mp hq with hq | hq
    · exact h.ev q hq
    · rw [List.mem_singleton.mp hq]; exact ⟨n + 1, .nam e hw⟩
  · rw [List.map_append, List.nodup_append]
    refine ⟨h.nodup, by simp, fun a ha b hb e => hf ?_⟩
    simp at hb; rw [← hb, ← e]; exact ha
  · rw [List.map_append] at hx
    rcases List.mem_append.mp hx with hx | hx
    · exact h.keys x hx
    · simp at hx; rw [hx]; exact List.mem_map_of_mem (f := (·.1)) hp
  · rcases List.mem_append.mp hq with hq | hq
    · exact h.fit q hq
    · rw [List.mem_singleton.mp hq]; exact hg.1
  · rw [List.length_append, List.length_singleton]
    rcases List.mem_append.mp hq with hq | hq
    · exact Nat.lt_of_lt_of_le (h.bits q hq) (Nat.pow_le_pow_right (by decide) (Nat.mul_le_mul_left _ (Nat.pow_le_pow_right (by decide) (Nat.le_succ _))))
    · rw [List.mem_singleton.mp hq]
      refine Nat.lt_of_lt_of_le hg.2 (Nat.pow_le_pow_right (by decide) ?_)
      have hlv := Tr.ok_lv (R.ok.ok p hp)
      rw [Nat.pow_succ, Nat.mul_comm (4 ^ fdv.length) 4, ← Nat.mul_assoc]
      exact Nat.mul_le_mul_right _ (by omega)
/-- between the passes -/
structure Wait (kn : List (Str × Tr)) (fdv : List (Str × Val)) (ws : List (Str × Tr)) : Prop where
  fd : FdOk kn fdv
  sub : ∀ p ∈ ws, p ∈ kn
  cover : ∀ p ∈ kn, p.1 ∈ fdv.map (·.1) ∨ p ∈ ws
  disj : ∀ p ∈ ws, p.1 ∉ fdv.map (·.1)
  nd : (ws.map (·.1)).Nodup
theorem Wait.start {kn : List (Str × Tr)} (h : (kn.map (·.1)).Nodup) : Wait kn [] kn := ⟨.nil kn, fun _ h => h, fun _ h => .inr h, fun _ _ h => (nomatch h), h⟩
/-- within a pass -/
structure Pass (kn : List (Str × Tr)) (fd0 : List (Str × Val)) (ws : List (Str × Tr)) (i : Nat) (fdv : List (Str × Val)) (lws : List (Str × Tr)) : Prop where
  fd : FdOk kn fdv
  grow : ∀ x ∈ fd0.map (·.1), x ∈ fdv.map (·.1)
  cover : ∀ p ∈ kn, p.1 ∈ fdv.map (·.1) ∨ p ∈ lws ∨ p ∈ ws.drop i
  disj : ∀ p, p ∈ lws ∨ p ∈ ws.drop i → p.1 ∉ fdv.map (·.1)
  sl : lws.Sublist (ws.take i)
  len : lws.length ≤ i
  same : lws.length = i → fdv = fd0
  lean : ∀ p ∈ lws, ∃ y ∈ p.2.names, y ∈ kn.map (·.1) ∧ y ∉ fd0.map (·.1)
theorem Pass.start {kn : List (Str × Tr)} {fdv : List (Str × Val)} {ws : List (Str × Tr)} (h : Wait kn fdv ws) : Pass kn fdv ws 0 fdv [] :=
  ⟨h.fd, fun _ h => h, fun p hp => (h.cover p hp).imp id .inr, fun p hp => hp.elim (fun h => (nomatch h)) (h.disj p), by simp, Nat.le_refl _, fun _ => rfl, fun _ h => (nomatch h)⟩
theorem Pass.found {M : Int} {kn : List (Str × Tr)} {fd0 fdv : List (Str × Val)} {ws lws : List (Str × Tr)} {i : Nat} {p : Str × Tr} {v : Val} (R : RwOk M kn) (W : Wait kn fd0 ws) (h : Pass kn fd0 ws i fdv lws) (hp : ws[i]? = some p)
    (hc : ∀ x ∈ p.2.names, x ∈ kn.map (·.1) → x ∈ fdv.map (·.1)) (hv : evF fdv p.2 = some v) : Pass kn fd0 ws (i + 1) (fdv ++ [(p.1, v)]) lws := by
  have hlt := (List.getElem?_eq_some_iff.mp hp).1
  have hd : ws.drop i = p :: ws.drop (i + 1) := by rw [List.drop_eq_getElem_cons hlt, (List.getElem?_eq_some_iff.mp hp).2]
  have hpm : p ∈ ws := List.mem_of_getElem? hp
  have hnd := W.nd
  have hsp : ws = ws.take i ++ p :: ws.drop (i + 1) := by rw [← hd, List.take_append_drop]
  refine ⟨h.fd.snoc R (W.sub p hpm) (h.disj p (.inr (by rw [hd]; exact .head _))) hc hv, fun x hx => ?_, fun q hq => ?_, fun q hq hm => ?_, h.sl.trans (List.take_sublist_take_left (Nat.le_succ i)), Nat.le_succ_of_le h.len, fun e => absurd h.len (by omega), h.lean⟩
  · rw [List.map_append]; exact List.mem_append_left _ (h.grow x hx)
  · rw [List.map_append]
    rcases h.cover q hq with z | z | z
    · exact .inl (List.mem_append_left _ z)
    · exact .inr (.inl z)
    · rw [hd] at z
      rcases List.mem_cons.mp z with rfl | z
      · exact .inl (List.mem_append_right _ (.head _))
      · exact .inr (.inr z)
  · rw [List.map_append] at hm
    rcases List.mem_append.mp hm with hm | hm
    · refine h.disj q (hq.imp id fun z => ?_) hm
      rw [hd]; exact .tail _ z
    · simp at hm
      rw [hsp, List.map_append, List.map_cons, List.nodup_append] at hnd
      obtain ⟨_, n2, n3⟩ := hnd
      rcases hq with hq | hq
      · exact n3 q.1 (List.mem_map_of_mem (f := (·.1)) (h.sl.subset hq)) p.1 (.head _) hm
      · exact (List.nodup_cons.mp n2).1 (by rw [← hm]; exact List.mem_map_of_mem (f := (·.1)) hq)
theorem Pass.later {kn : List (Str × Tr)} {fd0 fdv : List (Str × Val)} {ws lws : List (Str × Tr)} {i : Nat} {p : Str × Tr} (h : Pass kn fd0 ws i fdv lws) (hp : ws[i]? = some p)
    (hl : ∃ y ∈ p.2.names, y ∈ kn.map (·.1) ∧ y ∉ fdv.map (·.1)) : Pass kn fd0 ws (i + 1) fdv (lws ++ [p]) := by
  have hlt := (List.getElem?_eq_some_iff.mp hp).1
  have hd : ws.drop i = p :: ws.drop (i + 1) := by rw [List.drop_eq_getElem_cons hlt, (List.getElem?_eq_some_iff.mp hp).2]
  refine ⟨h.fd, h.grow, fun q hq => ?_, fun q hq => ?_, ?_, by simp; exact h.len, fun e => h.same (by simpa using e), fun q hq => ?_⟩
  · rcases h.cover q hq with z | z | z
    · exact .inl z
    · exact .inr (.inl (List.mem_append_left _ z))
    · rw [hd] at z
      rcases List.mem_cons.mp z with rfl | z
      · exact .inr (.inl (List.mem_append_right _ (.head _)))
      · exact .inr (.inr z)
  · refine h.disj q ?_
    rw [hd]
    rcases hq with hq | hq
    · rcases List.mem_append.mp hq with hq | hq
      · exact .inl hq
      · rw [List.mem_singleton.mp hq]; exact .inr (.head _)
    · exact .inr (.tail _ hq)
  · rw [List.take_add_one, hp]
    exact h.sl.append (List.Sublist.refl _)
  · rcases List.mem_append.mp hq with hq | hq
    · exact h.lean q hq
    · rw [List.mem_singleton.mp hq]
      obtain ⟨y, h1, h2, h3⟩ := hl
      exact ⟨y, h1, h2, fun z => h3 (h.grow y z)⟩
theorem Pass.ring {kn : List (Str × Tr)} {fd0 fdv : List (Str × Val)} {ws lws : List (Str × Tr)} (W : Wait kn fd0 ws) (hnd : (kn.map (·.1)).Nodup) (h : Pass kn fd0 ws ws.length fdv lws) (he : lws.length = ws.length) : ∀ p ∈ lws, ¬ Has kn (.nam p.1) := by
  have hf := h.same he
  have hs : ∀ p ∈ lws, p ∈ kn := fun p hp => W.sub p (List.mem_of_mem_take (h.sl.subset hp))
  refine ring_none hnd hs fun p hp => ?_
  obtain ⟨y, h1, h2, h3⟩ := h.lean p hp
  obtain ⟨q, hq, rfl⟩ := List.mem_map.mp h2
  refine ⟨q.1, h1, q, ?_, rfl⟩
  rcases h.cover q hq with z | z | z
  · rw [hf] at z; exact absurd z h3
  · exact z
  · rw [List.drop_length] at z; cases z
theorem Pass.wait {kn : List (Str × Tr)} {fd0 fdv : List (Str × Val)} {ws lws : List (Str × Tr)} (W : Wait kn fd0 ws) (h : Pass kn fd0 ws ws.length fdv lws) : Wait kn fdv lws := by
  have hs : lws.Sublist ws := h.sl.trans (List.take_sublist _ _)
  refine ⟨h.fd, fun p hp => W.sub p (hs.subset hp), fun p hp => (h.cover p hp).imp id fun z => z.elim id fun z => ?_, fun p hp => h.disj p (.inl hp), W.nd.sublist (hs.map _)⟩
  rw [List.drop_length] at z; cases z

end SolvePPart
section RulesBPart
open PySem PySem.W PyProof.Rows PySem.Calls
section
variable {prog : Program} {w : World} {A : Around} {E : Value → Shared → Prop} {s : Shared} {env : Env} {h₀ : Heap} {body : List Stmt} {Q : Flow → Shared → Prop} {target : PySem.Expr}
/-- the end of a turn of a loop that any target binds -/
noncomputable def TEnd {σ : Type} (h₀ : Heap) (L : Addr) (its : List (Addr × Obj)) (keep : Addr × Obj) (mk : (Str → Option Value) → σ → Str → Option Value) (m₁ : Str → Option Value) (J : σ → List (Addr × Obj) → Prop) (s₁ : Shared) (f : Flow) (s₂ : Shared) : Prop :=
  f = .next ∧ ∃ h' tk a news₂, s₂ = { s₁ with heap := h', toks := tk } ∧ Fr h₀ L h' (mk m₁ a) ∧ News h₀ L h' (its ++ news₂) ∧ (∀ p ∈ news₂, ∀ q ∈ its, p.1 ≠ q.1) ∧ keep ∈ news₂ ∧ J a news₂
theorem TEnd.intro {σ : Type} {L : Addr} {its : List (Addr × Obj)} {keep : Addr × Obj} {mk : (Str → Option Value) → σ → Str → Option Value} {m₁ : Str → Option Value} {J : σ → List (Addr × Obj) → Prop} {s₁ : Shared} {h' : Heap} {tk : Nat} {m₂ : Str → Option Value} {news₂ : List (Addr × Obj)} (a : σ)
    (F : Fr h₀ L h' m₂) (hm : m₂ = mk m₁ a) (N : News h₀ L h' (its ++ news₂)) (ho : ∀ p ∈ news₂, ∀ q ∈ its, p.1 ≠ q.1) (hk : keep ∈ news₂) (hj : J a news₂) : TEnd h₀ L its keep mk m₁ J s₁ .next { s₁ with heap := h', toks := tk } :=
  ⟨rfl, h', tk, a, news₂, rfl, hm ▸ F, N, ho, hk, hj⟩
theorem items_ind {σ : Type} {ws : List (Addr × String)} {keep : Addr × Obj} {m₀ : Str → Option Value} (mk : (Str → Option Value) → σ → Str → Option Value) (J : Nat → σ → List (Addr × Obj) → Prop) (xs : List Itm)
    (turn : ∀ i x v a news₁ h tk, xs[i]? = some x → x.Is v h → J i a news₁ → keep ∈ news₁ → (∀ p ∈ news₁, p.1 ∉ ws.map (·.1)) → Fr h₀ env.locals h (mk m₀ a) → AllObj ws (fun its => News h₀ env.locals h (its ++ news₁) →
      wpAny (model prog w) A (assign target env v) (fun _ s₂ => wpAny (model prog w) A (execs body env) (TEnd h₀ env.locals its keep mk m₀ (J (i + 1)) { s with heap := h, toks := tk }) E s₂) E { s with heap := h, toks := tk }))
    (done : ∀ a news₁ h tk, J xs.length a news₁ → keep ∈ news₁ → Fr h₀ env.locals h (mk m₀ a) → News h₀ env.locals h news₁ → Q .next { s with heap := h, toks := tk }) :
    ∀ k i a news₁, i + k = xs.length → J i a news₁ → keep ∈ news₁ → (∀ p ∈ news₁, p.1 ∉ ws.map (·.1)) → ItemsRest prog w A E h₀ env target body Q s ws [keep] (xs.drop i) (mk m₀ a) news₁ := by
  intro k
  induction k with
  | zero =>
    intro i a news₁ hi hj hk hw
    rw [List.drop_of_length_le (by omega)]
    exact ItemsRest.zero fun h tk F N => done a news₁ h tk (by rw [← hi, Nat.add_zero]; exact hj) hk F N
  | succ k ih =>
    intro i a news₁ hi hj hk hw
    have hlt : i < xs.length := by omega
    rw [List.drop_eq_getElem_cons hlt]
    intro v h tk hv F
    have ht := turn i xs[i] v a news₁ h tk (List.getElem?_eq_getElem hlt) hv hj hk hw F
    have go : ∀ (ws' : List (Addr × String)) (k1 k2 : List (Addr × Obj) → Prop), (∀ its, its.map (·.1) = ws'.map (·.1) → k1 its → k2 its) → AllObj ws' k1 → AllObj ws' k2 := by
      intro ws'
      induction ws' with
      | nil => intro k1 k2 hk h; exact hk [] rfl h
      | cons p r ihw => intro k1 k2 hk h o ho; exact ihw _ _ (fun its e => hk _ (by simp [e])) (h o ho)
    refine go ws _ _ (fun its he z N => ?_) ht
    refine wpAny_mono (z N) (fun _ s₂ z₂ => wpAny_mono z₂ (fun f s₃ z₃ => ?_) fun _ _ e => e) fun _ _ e => e
    obtain ⟨rfl, h', tk', a', news₂, rfl, F₂, N₂, ho, hk₂, hj₂⟩ := z₃
    refine ⟨h', tk', mk m₀ a', news₂, rfl, F₂, N₂, ho, ⟨hk₂, trivial⟩, ih (i + 1) a' news₂ (by omega) hj₂ hk₂ fun p hp hm => ?_⟩
    rw [← he] at hm
    obtain ⟨q, hq, e⟩ := List.mem_map.mp hm
    exact ho p hp q hq e.symm
/-- a for over a list of the ledger, any target -/
theorem forT_list {σ : Type} {l : Addr} {vs : List Value} {n0 : Nat} {m₀ : Str → Option Value} {news : List (Addr × Obj)} (mk : (Str → Option Value) → σ → Str → Option Value) (J : Nat → σ → List (Addr × Obj) → Prop) {a₀ : σ} (hh : A.handled = none)
    (F : Fr h₀ env.locals s.heap m₀) (hs : mk m₀ a₀ = m₀) (N : News h₀ env.locals s.heap news) (hl : (l, listOf vs.toArray n0) ∈ news) (hj : J 0 a₀ news)
    (turn : ∀ i v a news₁ I io h tk, vs[i]? = some v → J i a news₁ → (l, listOf vs.toArray n0) ∈ news₁ → (∀ p ∈ news₁, p.1 ≠ I) → Fr h₀ env.locals h (mk m₀ a) → News h₀ env.locals h ([(I, io)] ++ news₁) →
      wpAny (model prog w) A (assign target env v) (fun _ s₂ => wpAny (model prog w) A (execs body env) (TEnd h₀ env.locals [(I, io)] (l, listOf vs.toArray n0) mk m₀ (J (i + 1)) { s with heap := h, toks := tk }) E s₂) E { s with heap := h, toks := tk })
    (done : ∀ a news₁ h tk, J vs.length a news₁ → (l, listOf vs.toArray n0) ∈ news₁ → Fr h₀ env.locals h (mk m₀ a) → News h₀ env.locals h news₁ → Q .next { s with heap := h, toks := tk }) :
    wpAny (model prog w) A (pyIter (.ref l)) (fun it s₂ => TurnsAt prog w A h₀ env target body Q E it s₂) E s := by
  refine iter_listTurns hh F N hl rfl rfl fun I hI => ?_
  have := items_ind (prog := prog) (w := w) (A := A) (E := E) (s := s) (env := env) (h₀ := h₀) (body := body) (Q := Q) (target := target) (ws := [(I, "list_iterator")]) (keep := (l, listOf vs.toArray n0)) (m₀ := m₀) mk J (vs.map .val) (fun i x v a news₁ h tk hx hv hj hk hw F o ho N => ?_) (fun a news₁ h tk hj hk F N => done a news₁ h tk (by simpa using hj) hk F N) vs.length 0 a₀ news (by simp) hj hl (fun p hp hm => by simp at hm; exact Nat.ne_of_lt (hI p hp) hm)
  · rw [hs] at this; exact this
  · simp only [List.getElem?_map, Option.map_eq_some_iff] at hx
    obtain ⟨u, hu, rfl⟩ := hx
    have hv : v = u := hv
    subst hv
    exact turn i v a news₁ I o h tk hu hj hk (fun p hp e => hw p hp (by simp [e])) F N
/-- a for over enumerate of a list of the ledger -/
theorem forE_list {σ : Type} {elts : List PySem.Expr} {ek : Nat} {epos : Pos} {l : Addr} {vs : List Value} {n0 : Nat} {m₀ : Str → Option Value} {news : List (Addr × Obj)} (mk : (Str → Option Value) → σ → Str → Option Value) (J : Nat → σ → List (Addr × Obj) → Prop) {a₀ : σ} (hh : A.handled = none)
    (F : Fr h₀ env.locals s.heap m₀) (hs : mk m₀ a₀ = m₀) (N : News h₀ env.locals s.heap news) (hl : (l, listOf vs.toArray n0) ∈ news) (hj : J 0 a₀ news)
    (turn : ∀ (i : Nat) v a news₁ I io io2 T t h tk, vs[i]? = some v → IsTup h T #[.int ((i : Nat) : Int) t, v] → J i a news₁ → (l, listOf vs.toArray n0) ∈ news₁ → (∀ p ∈ news₁, p.1 ≠ I + 1 ∧ p.1 ≠ I) → Fr h₀ env.locals h (mk m₀ a) → News h₀ env.locals h ([(I + 1, io), (I, io2)] ++ news₁) →
      wpAny (model prog w) A (assign (.Tuple elts ek epos) env (.ref T)) (fun _ s₂ => wpAny (model prog w) A (execs body env) (TEnd h₀ env.locals [(I + 1, io), (I, io2)] (l, listOf vs.toArray n0) mk m₀ (J (i + 1)) { s with heap := h, toks := tk }) E s₂) E { s with heap := h, toks := tk })
    (done : ∀ a news₁ h tk, J vs.length a news₁ → (l, listOf vs.toArray n0) ∈ news₁ → Fr h₀ env.locals h (mk m₀ a) → News h₀ env.locals h news₁ → Q .next { s with heap := h, toks := tk }) :
    wpAny (model prog w) A (call (.type "enumerate") [.ref l]) (fun xv s₁ => wpAny (model prog w) A (pyIter xv) (fun it s₂ => TurnsAt prog w A h₀ env (.Tuple elts ek epos) body Q E it s₂) E s₁) E s := by
  refine ktu_enum hh F N hl rfl rfl rfl fun I hI => ?_
  have := items_ind (prog := prog) (w := w) (A := A) (E := E) (s := s) (env := env) (h₀ := h₀) (body := body) (Q := Q) (target := .Tuple elts ek epos) (ws := [(I + 1, "enumerate"), (I, "list_iterator")]) (keep := (l, listOf vs.toArray n0)) (m₀ := m₀) mk J (enumItems 0 vs) (fun i x v a news₁ h tk hx hv hj hk hw F o ho o2 ho2 N => ?_) (fun a news₁ h tk hj hk F N => done a news₁ h tk (by simpa [enumItems_length] using hj) hk F N) vs.length 0 a₀ news (by simp [enumItems_length]) hj hl (fun p hp hm => by
      simp at hm
      have := hI p hp
      rcases hm with hm | hm
      · exact Nat.ne_of_lt (Nat.lt_succ_of_lt this) hm
      · exact Nat.ne_of_lt this hm)
  · rw [hs] at this; exact this
  · have hlt : i < vs.length := by
      have := (List.getElem?_eq_some_iff.mp hx).1
      rwa [enumItems_length] at this
    have hu := List.getElem?_eq_getElem hlt
    have e := enumItems_get vs 0 i hu
    rw [hx] at e
    cases e
    obtain ⟨T, t, rfl, hT⟩ := hv
    rw [Nat.zero_add] at hT
    exact turn i vs[i] a news₁ I o o2 T t h tk hu hT hj hk (fun p hp => ⟨fun e => hw p hp (by simp [e]), fun e => hw p hp (by simp [e])⟩) F N
end
section
open LCg LCt LCp
variable {prog : Program} {w : World} {A : Around} {h₀ : Heap} {L : Addr} {m : Str → Option Value} {env : Env} {elt ct : PySem.Expr} {x x₂ : Str} {scope : Scope} {cl : List (Str × Addr)} {s : Shared} {S : List (Addr × Obj) → Prop} {P : Nat → Value → Prop} {Fin : List Value → List (Addr × Obj) → Prop} {n : Nat}
theorem compEnd_mono {s₁ : Shared} {I C D : Addr} {oI oC oD : Obj} {r r' : Value → List (Addr × Obj) → Prop} {y : Value} {s₂ : Shared} (h : CompEnd h₀ L m s₁ I oI C oC D oD S r y s₂) (k : ∀ n', r y n' → r' y n') : CompEnd h₀ L m s₁ I oI C oC D oD S r' y s₂ := by
  obtain ⟨h', tk, news', e, F, N, o, hS, hr⟩ := h
  exact ⟨h', tk, news', e, F, N, o, hS, k _ hr⟩
/-- a comprehension by what holds between its turns -/
theorem compU (J : Nat → List Value → List (Addr × Obj) → Prop)
    (turn : ∀ i v ys news I oI C oC D m₂ h tk (E' : Value → Shared → Prop), i < n → P i v → J i ys news → NsObj oC m₂ → m₂ x = some v → Fr h₀ L h m → News h₀ L h ((I, oI) :: (C, oC) :: (D, lst ys) :: news) → Off3 I C D news → ((@Ne Nat I C) ∧ (@Ne Nat I D) ∧ (@Ne Nat C D)) →
      wpAny (model prog w) A (eval elt (compEnvC scope cl C env)) (CompEnd h₀ L m { s with heap := h, toks := tk } I oI C oC D (lst ys) S (fun y news' => J (i + 1) (ys ++ [y]) news')) E' { s with heap := h, toks := tk })
    (fin : ∀ ys news, J n ys news → Fin ys news) : ∀ k i ys news, i + k = n → J i ys news → CompRest prog w A h₀ L m env elt x scope cl s S P Fin k i ys news := by
  intro k
  induction k with
  | zero => intro i ys news hi hj; exact fin _ _ (by rw [← hi, Nat.add_zero]; exact hj)
  | succ k ih =>
    intro i ys news hi hj v I oI C oC D m₂ h tk E' hP hn hx F N o3 hne
    refine wpAny_mono (turn i v ys news I oI C oC D m₂ h tk E' (by omega) hP hj hn hx F N o3 hne) (fun y s₂ z => compEnd_mono z fun n' z => ?_) fun _ _ e => e
    exact ih (i + 1) _ _ (by omega) z
theorem compT (J : Nat → List Value → List (Addr × Obj) → Prop)
    (turn : ∀ i v ys news I oI C oC D m₂ h tk (E' : Value → Shared → Prop), i < n → P i v → J i ys news → NsObj oC m₂ → m₂ x = some v → Fr h₀ L h m → News h₀ L h ((I, oI) :: (C, oC) :: (D, lst ys) :: news) → Off3 I C D news → ((@Ne Nat I C) ∧ (@Ne Nat I D) ∧ (@Ne Nat C D)) →
      wpAny (model prog w) A (isTrue ct (compEnvC scope cl C env) (eval ct (compEnvC scope cl C env))) (fun ok s' => if ok = true then
        wpAny (model prog w) A (eval elt (compEnvC scope cl C env)) (CompEnd h₀ L m { s with heap := h, toks := tk } I oI C oC D (lst ys) S (fun y news' => J (i + 1) (ys ++ [y]) news')) E' s'
        else CompEnd h₀ L m { s with heap := h, toks := tk } I oI C oC D (lst ys) S (fun _ news' => J (i + 1) ys news') Value.none s') E' { s with heap := h, toks := tk })
    (fin : ∀ ys news, J n ys news → Fin ys news) : ∀ k i ys news, i + k = n → J i ys news → CompRestT prog w A h₀ L m env ct elt x scope cl s S P Fin k i ys news := by
  intro k
  induction k with
  | zero => intro i ys news hi hj; exact fin _ _ (by rw [← hi, Nat.add_zero]; exact hj)
  | succ k ih =>
    intro i ys news hi hj v I oI C oC D m₂ h tk E' hP hn hx F N o3 hne
    refine wpAny_mono (turn i v ys news I oI C oC D m₂ h tk E' (by omega) hP hj hn hx F N o3 hne) (fun ok s' z => ?_) fun _ _ e => e
    cases ok with
    | true =>
      simp only [if_true] at z ⊢
      exact wpAny_mono z (fun y s₂ z => compEnd_mono z fun n' z => ih (i + 1) _ _ (by omega) z) fun _ _ e => e
    | false =>
      simp only [Bool.false_eq_true, if_false] at z ⊢
      exact compEnd_mono z fun n' z => ih (i + 1) _ _ (by omega) z
theorem compP (J : Nat → List Value → List (Addr × Obj) → Prop)
    (item : ∀ i v ys news, i < n → P i v → J i ys news → ∃ (t : Addr) (v₁ v₂ : Value), v = .ref t ∧ (t, tupO [v₁, v₂]) ∈ news)
    (turn : ∀ i t v₁ v₂ ys news I oI C oC D m₂ h tk (E' : Value → Shared → Prop), i < n → P i (.ref t) → J i ys news → (t, tupO [v₁, v₂]) ∈ news → NsObj oC m₂ → m₂ x = some v₁ → m₂ x₂ = some v₂ → Fr h₀ L h m → News h₀ L h ((I, oI) :: (C, oC) :: (D, lst ys) :: news) → Off3 I C D news → ((@Ne Nat I C) ∧ (@Ne Nat I D) ∧ (@Ne Nat C D)) →
      wpAny (model prog w) A (eval elt (compEnvC scope cl C env)) (CompEnd h₀ L m { s with heap := h, toks := tk } I oI C oC D (lst ys) S (fun y news' => J (i + 1) (ys ++ [y]) news')) E' { s with heap := h, toks := tk })
    (fin : ∀ ys news, J n ys news → Fin ys news) : ∀ k i ys news, i + k = n → J i ys news → CompRestP prog w A h₀ L m env elt x x₂ scope cl s S P Fin k i ys news := by
  intro k
  induction k with
  | zero => intro i ys news hi hj; exact fin _ _ (by rw [← hi, Nat.add_zero]; exact hj)
  | succ k ih =>
    intro i ys news hi hj v hP
    obtain ⟨t, v₁, v₂, rfl, ht⟩ := item i v ys news (by omega) hP hj
    refine ⟨t, _, v₁, v₂, _, rfl, ht, rfl, rfl, fun I oI C oC D m₂ h tk E' hn hx hx₂ F N o3 hne => ?_⟩
    refine wpAny_mono (turn i t v₁ v₂ ys news I oI C oC D m₂ h tk E' (by omega) hP hj ht hn hx hx₂ F N o3 hne) (fun y s₂ z => compEnd_mono z fun n' z => ?_) fun _ _ e => e
    exact ih (i + 1) _ _ (by omega) z
end
/-- a ledger's last part -/
inductive Spl (n : List (Addr × Obj)) : List (Addr × Obj) → List (Addr × Obj) → Prop
  | here : Spl n n []
  | cons {p l D} : Spl n l D → Spl n (p :: l) (p :: D)
  | app {A l D} : Spl n l D → Spl n (A ++ l) (A ++ D)
theorem Spl.eq {n l D : List (Addr × Obj)} (h : Spl n l D) : l = D ++ n := by
  induction h with
  | here => rfl
  | cons _ ih => rw [ih]; rfl
  | app _ ih => rw [ih, List.append_assoc]
structure Grp (h₀ h : Heap) (L : Addr) (I : Addr) (io : Obj) (a : Addr) (ao : Obj) (b : Addr) (bo : Obj) (D news : List (Addr × Obj)) : Prop where
  N : News h₀ L h ([(I, io)] ++ ((a, ao) :: (b, bo) :: (D ++ news)))
  offI : ∀ p ∈ (a, ao) :: (b, bo) :: (D ++ news), p.1 ≠ I
  offa : ∀ p ∈ D, p.1 ≠ a
  offb : ∀ p ∈ D, p.1 ≠ b
theorem rem_N {h₀ h : Heap} {L c : Addr} {o : Obj} {l r : List (Addr × Obj)} {P : Prop} (N : News h₀ L h l) (R : Rem c o l r) (k : News h₀ L h ((c, o) :: r) → (∀ p ∈ r, p.1 ≠ c) → P) : P := k (R.news N) R.off
theorem Grp.of {h₀ h : Heap} {L I a b : Addr} {io ao bo : Obj} {r r1 r2 D news : List (Addr × Obj)} (R0 : ∀ p ∈ r, p.1 ≠ a) (N : News h₀ L h ((a, ao) :: r)) (R1 : Rem I io r r1) (R2 : Rem b bo r1 r2) (S : Spl news r2 D) (hI : a ≠ I) : Grp h₀ h L I io a ao b bo D news := by
  have e := S.eq
  refine ⟨news_sub N fun p hp => ?_, fun p hp => ?_, fun p hp => ?_, fun p hp => ?_⟩
  · rcases List.mem_cons.mp hp with rfl | hp
    · exact .tail _ ((R1.mem _).mpr (.inl rfl))
    rcases List.mem_cons.mp hp with rfl | hp
    · exact .head _
    rcases List.mem_cons.mp hp with rfl | hp
    · exact .tail _ ((R1.mem _).mpr (.inr ((R2.mem _).mpr (.inl rfl))))
    · exact .tail _ ((R1.mem _).mpr (.inr ((R2.mem _).mpr (.inr (by rw [e]; exact hp)))))
  · rcases List.mem_cons.mp hp with rfl | hp
    · exact hI
    rcases List.mem_cons.mp hp with rfl | hp
    · exact R1.off _ ((R2.mem _).mpr (.inl rfl))
    · exact R1.off _ ((R2.mem _).mpr (.inr (by rw [e]; exact hp)))
  · exact R0 p ((R1.mem _).mpr (.inr ((R2.mem _).mpr (.inr (by rw [e]; exact List.mem_append_left _ hp)))))
  · exact R2.off p (by rw [e]; exact List.mem_append_left _ hp)
theorem grp_k {h₀ h : Heap} {L I a b : Addr} {io ao bo : Obj} {r r1 r2 D news : List (Addr × Obj)} {P : Prop} (R0 : ∀ p ∈ r, p.1 ≠ a) (N : News h₀ L h ((a, ao) :: r)) (R1 : Rem I io r r1) (R2 : Rem b bo r1 r2) (S : Spl news r2 D) (hI : a ≠ I)
    (k : Grp h₀ h L I io a ao b bo D news → P) : P := k (Grp.of R0 N R1 R2 S hI)
theorem Grp.swap {h₀ h : Heap} {L I a b : Addr} {io ao bo : Obj} {D news : List (Addr × Obj)} (G : Grp h₀ h L I io a ao b bo D news) : Grp h₀ h L I io b bo a ao D news := by
  refine ⟨news_sub G.N fun p hp => ?_, fun p hp => ?_, G.offb, G.offa⟩
  · simp only [List.singleton_append, List.mem_append, List.mem_cons] at hp ⊢; rcases hp with h | h | h | h | h <;> simp [h]
  · refine G.offI p ?_
    simp only [List.mem_append, List.mem_cons] at hp ⊢; rcases hp with h | h | h | h <;> simp [h]
theorem filt_T {xs : List Str} {i : Nat} {y : Str} {p : Str → Bool} (hy : xs[i]? = some y) (hp : p y = true) : (xs.take (i + 1)).filter p = (xs.take i).filter p ++ [y] := by
  rw [List.take_add_one, hy, List.filter_append]; simp [hp]
theorem filt_F {xs : List Str} {i : Nat} {y : Str} {p : Str → Bool} (hy : xs[i]? = some y) (hp : p y = false) : (xs.take (i + 1)).filter p = (xs.take i).filter p := by
  rw [List.take_add_one, hy, List.filter_append]; simp [hp]

end RulesBPart
local macro_rules | `(tactic| walk_at "eval ListComp") => `(tactic| (k_here; (with_reducible show wpAny _ _ (eval (Expr.ListComp _ [Comprehension.mk (Expr.Name _ _) _ [] _] _ _) _) _ _ _); k_dflt (refine LCg.ListComp_U (F₀ := by k_asm) (by with_unfolding_all rfl) (by decide) (by rfl) (by decide) (by rfl) ?_)))
local macro_rules | `(tactic| walk_at "eval ListComp") => `(tactic| (k_here; (with_reducible show wpAny _ _ (eval (Expr.ListComp _ [Comprehension.mk (Expr.Name _ _) _ [_] _] _ _) _) _ _ _); k_dflt (refine LCt.ListComp_T (F₀ := by k_asm) (by with_unfolding_all rfl) (by decide) (by rfl) (by decide) (by rfl) ?_)))
local macro_rules | `(tactic| walk_at "eval ListComp") => `(tactic| (k_here; (with_reducible show wpAny _ _ (eval (Expr.ListComp _ [Comprehension.mk (Expr.Tuple _ _ _) _ [] _] _ _) _) _ _ _); k_dflt (refine LCp.ListComp_P (F₀ := by k_asm) (by with_unfolding_all rfl) (by decide) (by rfl) (by decide) (by rfl) (by rfl) (by decide) ?_)))
local macro_rules | `(tactic| walk_at "FORT") => `(tactic| (refine stop_in (wpAny_execs_cons ?_); (rename Fr _ _ _ _ => lF9); (with_unfolding_all refine' For_turns lF9 ?_)))
local macro_rules | `(tactic| walk_at $k) => stopAt ["CompSrc", "CompSrcT", "SrcLP", "CompEnd", "call type:enumerate", "TEnd"] k
section SolvePart
open PySem PySem.W PyProof.Rows PySem.Calls
local macro_rules | `(tactic| walk_at "call type:list") => `(tactic| (k_here; (with_reducible show wpAny _ _ (call (Value.type _) [Value.ref _]) _ _ _); k_dflt (refine' list_of_list (by k_asm) (by k_asm) (by kbo_bools) (by omega) ?_); intro D' c' h' F' N' l1; (try k_lt l1)))
local macro_rules | `(tactic| walk_at "call builtin:len") => `(tactic| (k_here; k_dflt (refine' len_list (by k_asm) (by kbo_bools) (by omega) ?_)))
local macro_rules | `(tactic| walk_at $k) => stopAt ["setItem ref str", "call builtin:list.append", "binaryOp Add str str"] k
theorem in_uptoT {prog : Program} {w : World} {A : Around} {Q E : Value → Shared → Prop} {s : Shared} {h₀ : Heap} {L : Addr} {news : List (Addr × Obj)} {l : Addr} {ns : List Value} {b n : Nat} {xs : List Str} {x : Str} {t : Tok} (N : News h₀ L s.heap news) (hl : (l, listOf (slicePick ns.toArray none (some b) none) n) ∈ news) (hb : b ≤ ns.length) (hv : StrsAre (ns.take b) xs) (hx : x ∈ xs) (h : Q (.bool true) s) :
    wpAny (model prog w) A (compareOp .In (.str x t) (.ref l)) Q E s := by
  rw [slicePick_upto _ b (by simpa using hb)] at hl
  exact in_strsT N hl hv hx h
theorem in_uptoF {prog : Program} {w : World} {A : Around} {Q E : Value → Shared → Prop} {s : Shared} {h₀ : Heap} {L : Addr} {news : List (Addr × Obj)} {l : Addr} {ns : List Value} {b n : Nat} {xs : List Str} {x : Str} {t : Tok} (N : News h₀ L s.heap news) (hl : (l, listOf (slicePick ns.toArray none (some b) none) n) ∈ news) (hb : b ≤ ns.length) (hv : StrsAre (ns.take b) xs) (hx : x ∉ xs) (h : Q (.bool false) s) :
    wpAny (model prog w) A (compareOp .In (.str x t) (.ref l)) Q E s := by
  rw [slicePick_upto _ b (by simpa using hb)] at hl
  exact in_strsF N hl hv hx h
local macro_rules | `(tactic| walk_at "compareOp In str ref") => `(tactic| (k_here; k_dflt (first | refine' in_uptoT (by k_asm) (by kbo_bools) (by assumption) (by assumption) (by assumption) ?_ | refine' in_uptoF (by k_asm) (by kbo_bools) (by assumption) (by assumption) (by assumption) ?_)))
inductive RIn (fro : List (Addr × Obj)) : List Value → List (Str × Tr) → Prop
  | nil : RIn fro [] []
  | cons {a x tx nv t vs ws} : (a, tupO [.str x tx, nv, .none]) ∈ fro → NIn fro nv t → RIn fro vs ws → RIn fro (.ref a :: vs) ((x, t) :: ws)
theorem RIn.mono {f g : List (Addr × Obj)} {vs : List Value} {ws : List (Str × Tr)} (h : RIn f vs ws) (s : ∀ p ∈ f, p ∈ g) : RIn g vs ws := by
  induction h with
  | nil => exact .nil
  | cons a b _ ih => exact .cons (s _ a) (b.mono s) ih
theorem RIn.length {fro : List (Addr × Obj)} {vs : List Value} {ws : List (Str × Tr)} (h : RIn fro vs ws) : vs.length = ws.length := by
  induction h with
  | nil => rfl
  | cons _ _ _ ih => simp [ih]
theorem RIn.append {fro : List (Addr × Obj)} {vs us : List Value} {ws zs : List (Str × Tr)} (h : RIn fro vs ws) (k : RIn fro us zs) : RIn fro (vs ++ us) (ws ++ zs) := by
  induction h with
  | nil => exact k
  | cons a b _ ih => exact .cons a b ih
theorem Wait.len {kn : List (Str × Tr)} {fdv : List (Str × Val)} {ws : List (Str × Tr)} (h : Wait kn fdv ws) : ws.length ≤ kn.length := by
  have := nodup_length h.nd (m := kn.map (·.1)) fun x hx => by
    obtain ⟨p, hp, rfl⟩ := List.mem_map.mp hx
    exact List.mem_map_of_mem (f := (·.1)) (h.sub p hp)
  simpa using this
theorem rIn_get {fro : List (Addr × Obj)} {vs : List Value} {ws : List (Str × Tr)} (h : RIn fro vs ws) : ∀ {i : Nat} {v : Value}, vs[i]? = some v → ∃ a x tx nv t, v = .ref a ∧ ws[i]? = some (x, t) ∧ (a, tupO [.str x tx, nv, .none]) ∈ fro ∧ NIn fro nv t := by
  induction h with
  | nil => intro i v h; simp at h
  | cons a b _ ih =>
    intro i v h
    cases i with
    | zero => simp at h; subst h; exact ⟨_, _, _, _, _, rfl, rfl, a, b⟩
    | succ i => exact ih (by simpa using h)
theorem names5 (u1 u2 u3 v1 v2 v3 v4 v5 x y : Option Value) (m : Str → Option Value) : (fun z => if z = Str.ofString "waiting" then x else if z = Str.ofString "at" then u3 else if z = Str.ofString "node" then u2 else if z = Str.ofString "name" then u1 else if z = Str.ofString "later" then y else if z = Str.ofString "waiting" then v1 else if z = Str.ofString "later" then v2 else if z = Str.ofString "name" then v3 else if z = Str.ofString "node" then v4 else if z = Str.ofString "at" then v5 else m z) =
    fun z => if z = Str.ofString "waiting" then x else if z = Str.ofString "later" then y else if z = Str.ofString "name" then u1 else if z = Str.ofString "node" then u2 else if z = Str.ofString "at" then u3 else m z := by
  funext z
  by_cases h1 : z = Str.ofString "waiting"
  · simp only [h1, if_true]
  rw [if_neg h1, if_neg h1, if_neg h1]
  by_cases h2 : z = Str.ofString "later"
  · subst h2; rw [if_neg (by decide), if_neg (by decide), if_neg (by decide), if_pos rfl, if_pos rfl]
  rw [if_neg h2, if_neg h2, if_neg h2]
  by_cases h3 : z = Str.ofString "name"
  · subst h3; rw [if_neg (by decide), if_neg (by decide), if_pos rfl, if_pos rfl]
  rw [if_neg h3, if_neg h3, if_neg h3]
  by_cases h4 : z = Str.ofString "node"
  · subst h4; rw [if_neg (by decide), if_pos rfl, if_pos rfl]
  rw [if_neg h4, if_neg h4, if_neg h4]
  by_cases h5 : z = Str.ofString "at"
  · rw [if_pos h5, if_pos h5]
  · rw [if_neg h5, if_neg h5, if_neg h5]
/-- what holds before a turn of the while loop of solve_equates -/
inductive SolW (w : World) (rws : List (Str × Tr)) (news : List (Addr × Obj)) (ns : List Value) (nl L₁ L₂ : Addr) (oN oF : Obj) (fd : Addr) (n : Nat) (u : Option Value × Option Value × Option Value × Option Value × Option Value) (news₁ : List (Addr × Obj)) : Prop
  | mk (wl : Addr) (wvs : List Value) (wn : Nat) (ws : List (Str × Tr)) (fo : Obj) (kvs : List (Str × Value)) (fdv : List (Str × Val)) (D : List (Addr × Obj)) (e1 : u.1 = some (.ref wl)) (e2 : n = ws.length) (e3 : news₁ = (fd, fo) :: (D ++ news))
      (hwl : (wl, listOf wvs.toArray wn) ∈ D) (hnl : (nl, LCg.lst ns) ∈ D) (hoN : (L₂, oN) ∈ D) (hoF : (L₁, oF) ∈ D) (hri : RIn (D ++ news) wvs ws) (W : Wait rws fdv ws) (isd : fo.IsDictOf (PySem.strKind (RowW.prog (OpenRow.toRowW (OpenLaw.row PySem.Challenge.rw_pb0420_01))) w) kvs) (rel : Rel2 (AIn (D ++ news)) kvs fdv) (hlt : Later D news) (hDf : ∀ p ∈ D, p.1 ≠ fd) : SolW w rws news ns nl L₁ L₂ oN oF fd n u news₁
/-- what holds before a turn of the inner loop -/
inductive SolP (w : World) (rws ws : List (Str × Tr)) (fdv : List (Str × Val)) (news : List (Addr × Obj)) (ns wvs : List Value) (wn : Nat) (nl wl L₁ L₂ : Addr) (oN oF : Obj) (fd lt : Addr) (i : Nat) (news₁ : List (Addr × Obj)) : Prop
  | mk (lvs : List Value) (ln : Nat) (lws : List (Str × Tr)) (fo : Obj) (kvs : List (Str × Value)) (fdv' : List (Str × Val)) (D' : List (Addr × Obj)) (e : news₁ = (fd, fo) :: (lt, listOf lvs.toArray ln) :: (D' ++ news)) (hnl : (nl, LCg.lst ns) ∈ D') (hoN : (L₂, oN) ∈ D') (hoF : (L₁, oF) ∈ D')
      (hwl : (wl, listOf wvs.toArray wn) ∈ D') (hri : RIn (D' ++ news) wvs ws) (hlr : RIn (D' ++ news) lvs lws) (P : Pass rws fdv ws i fdv' lws) (isd : fo.IsDictOf (PySem.strKind (RowW.prog (OpenRow.toRowW (OpenLaw.row PySem.Challenge.rw_pb0420_01))) w) kvs) (rel : Rel2 (AIn (D' ++ news)) kvs fdv') (hlt : Later D' news) (hDf : ∀ p ∈ D', p.1 ≠ fd) (hDl : ∀ p ∈ D', p.1 ≠ lt) : SolP w rws ws fdv news ns wvs wn nl wl L₁ L₂ oN oF fd lt i news₁
theorem solve_call {w : World} {mean : ExcName → Option Value} {mg mb : Str → Option Value} {dp un : Nat} {gd : Option (List Code)} {cn : Str} {cs : Scope} {a : Addr} {ccd : Value} {cl : List (Str × Addr)} {outer : List Env} {A₀ : Around} {base h₀ : Heap} {L : Addr} {m : Str → Option Value} {s : Shared} {E : Value → Shared → Prop} {rl : Addr} {rvs : List Value} {rn : Nat} {rws : List (Str × Tr)} {M : Int} {news : List (Addr × Obj)} {Q : Value → Shared → Prop} (B : Below A₀ base outer h₀) (F : Fr h₀ L s.heap m) (X : (hd.heap_1 w.params).In h₀) (T : Top vw (looseW vw lse) mean mg mb h₀) (hk : cs.kind = .function)
    (N : News h₀ L s.heap news) (hl : (rl, listOf rvs.toArray rn) ∈ news) (hr : RIn news rvs rws) (hz : rws.length ≤ 8) (hR : (rws.map (·.1)).Nodup → RwOk M rws) (hlx : ∀ p ∈ rws, p.1.length ≤ 1000) (hd : dp + 150 < 1000) (hu : un + 3000 < 9900)
    (ret : ∀ fd fo kvs fdv D h' tk', (rws.map (·.1)).Nodup → FdOk rws fdv → (∀ x ∈ rws.map (·.1), x ∈ fdv.map (·.1)) → fo.IsDictOf (PySem.strKind (RowW.prog (OpenRow.toRowW (OpenLaw.row PySem.Challenge.rw_pb0420_01))) w) kvs → Rel2 (AIn (D ++ news)) kvs fdv → (fd == sysModules) = false → (fd, fo) ∈ D → Later D news → Fr h₀ L h' m → News h₀ L h' (D ++ news) → Q (.ref fd) { s with heap := h', toks := tk' })
    (fly : (¬ (rws.map (·.1)).Nodup ∨ ∃ p ∈ rws, ¬ Has rws (.nam p.1)) → Fly base h₀ L m (envX cn cs L a ccd cl :: outer) news E s) :
    wpAny (model (RowW.prog (OpenRow.toRowW (OpenLaw.row PySem.Challenge.rw_pb0420_01))) w) (ktrTop dp un gd cn cs L a ccd cl outer) (call (.ref 367) [.ref rl]) Q E s := by
  revert X; k_fill; intro X
  have hrl := hr.length
  refine wpAny_call ?_
  (k_dflt (refine' code_defC (binds := [(Str.ofString "rows", .ref rl)]) ?k1 ?k2 ?k3 ?k4 ?k5 ?kA ?kF ?kK ?k6 ?k7 ?k8 ?k9 ?kB ?kD ?_ ?c2 ?c3 ?c4; (case kA => exact rfl); (case kF => exact rfl); (case kK => first | exact rfl | assumption); (case k1 => k_asm); (case k2 => k_asm); (case k3 => k_asm); (case k4 => k_asm); (case k5 => k_asm); (case k6 => k_is); (case k7 => k_is); (case k8 => ktr_room); (case k9 => first | exact BindsTo.of_eq rfl | exact binds_K (by k_in) rfl (by k_is) rfl rfl rfl); (case kB => exact rfl); (case kD => decide +kernel); (case c2 => exact rfl); (case c3 => exact rfl); (case c4 => exact rfl); k_whole; intro g' L' h' tk' cells' FG' F' N' Y' B' X' T' l1; (try k_lt l1); k_cells Y'; (try simp only [List.cons_append, List.nil_append] at N'); (try dsimp only); (try k_lift B'); (try k_fold)))
  have hL0 : ∀ p ∈ news, p.1 ≠ L' := ne_lt l1
  have hL1 : ∀ p ∈ news, p.1 ≠ L' + 1 := ne_lt fun p hp => Nat.lt_succ_of_lt (l1 p hp)
  have hL2 : ∀ p ∈ news, p.1 ≠ L' + 1 + 1 := ne_lt fun p hp => Nat.lt_succ_of_lt (Nat.lt_succ_of_lt (l1 p hp))
  k_steps
  rename_i oN oF dN dF _ _ fd _ fo los isd0 fs0 hi0 fi0 hfd wl wn _ hwl tp _ htp _ _ oF2 dF2 h1 F1 N1 _
  have hfdn : ∀ p ∈ news, p.1 ≠ fd := allLt_ne hfd.2.2
  have hwln : ∀ p ∈ news, p.1 ≠ wl := allLt_ne hwl.2.2.2
  have N2 := news_sub N1 (l' := (wl, listOf rvs.toArray wn) :: (fd, fo) :: (L' + 1 + 1, oN) :: (L' + 1, oF2) :: news) (by walk_at "MEM")
  refine stop_in (LCg.CompSrc.ledger rfl F1 N2 (by k_mem) (by simp [sizeLine_eq]; omega) fun g9 => ?_)
  refine compU (fun i ys news₁ => news₁ = (wl, listOf rvs.toArray wn) :: (fd, fo) :: (L' + 1 + 1, oN) :: (L' + 1, oF2) :: news ∧ StrsAre ys ((rws.take i).map (·.1))) ?_ ?_ _ 0 [] _ (Nat.zero_add _) ⟨rfl, .nil⟩
  · rintro i v ys news₁ I oI C oC D m₂ h tk E' hi hv ⟨rfl, hs⟩ hn hx F3 N3 o3 hne
    obtain ⟨a, x, tx, nv, t, rfl, hp, e1, e2⟩ := rIn_get hr (show rvs[i]? = some v by simpa using hv)
    k_steps
    refine stop_in (LCg.CompEnd.intro F3 N3 _ (sub_refl _) o3 (.inr ⟨_, by kbo_bools, rfl, _, rfl⟩) ⟨rfl, ?_⟩)
    rw [List.take_add_one, hp, List.map_append]
    exact strsAre_append hs (.cons x tx .nil)
  · rintro ns news₁ ⟨rfl, hns⟩ nl h2 tk2 F2 N2 o2
    rw [show rvs.toArray.size = rws.length by simp [hrl], List.take_length] at hns
    have hnln : ∀ p ∈ news, p.1 ≠ nl := fun p hp => off1_ne o2 p (.tail _ (.tail _ (.tail _ (.tail _ hp))))
    have hn1 : nl ≠ L' + 1 + 1 := (off1_ne o2 (L' + 1 + 1, oN) (by kbo_bools)).symm
    have hn2 : nl ≠ L' + 1 := (off1_ne o2 (L' + 1, oF2) (by kbo_bools)).symm
    have hn3 : nl ≠ fd := (off1_ne o2 (fd, fo) (by kbo_bools)).symm
    have hn4 : nl ≠ wl := (off1_ne o2 (wl, listOf rvs.toArray wn) (by kbo_bools)).symm
    try dsimp only
    k_steps
    walk_at "FORT"
    k_steps
    rename_i oN2 F3 N3 dN2
    refine stop_in (forE_list (σ := Option Value × Option Value) (vs := rvs) (n0 := rn) (fun m u y => if y = Str.ofString "row" then u.2 else if y = Str.ofString "spot" then u.1 else m y)
      (fun i _ news₁ => news₁ = (nl, LCg.lst ns) :: (wl, listOf rvs.toArray wn) :: (fd, fo) :: (L' + 1 + 1, oN2) :: (L' + 1, oF2) :: news ∧ ((rws.take i).map (·.1)).Nodup) (a₀ := (_, _)) rfl F3 (same00 _ _ _) N3 (by k_mem) ⟨rfl, by simp⟩ ?_ ?_)
    ·
      rintro i v ⟨u1, u2⟩ news₁ I io io2 T9 t9 h4 tk4 hv hT ⟨rfl, hnd⟩ hlm hoI F4 N4
      try dsimp only at F4
      obtain ⟨a, x, tx, nv, t, rfl, hp, e1, e2⟩ := rIn_get hr hv
      have hil : i ≤ ns.length := by
        have := (List.getElem?_eq_some_iff.mp hv).1
        rw [strsAre_length hns, List.length_map]; omega
      have hti : StrsAre (ns.take i) ((rws.take i).map (·.1)) := by rw [List.map_take]; exact strsAre_take hns i
      have htk : (rws.take (i + 1)).map (·.1) = (rws.take i).map (·.1) ++ [x] := by rw [List.take_add_one, hp]; simp
      by_cases hin : x ∈ (rws.take i).map (·.1)
      · have hfly := fly (.inl fun z => by
          have z' : ((rws.take (i + 1)).map (·.1)).Nodup := by rw [List.map_take]; exact z.sublist (List.take_sublist _ _)
          rw [htk, List.nodup_append] at z'
          exact z'.2.2 x hin x (.head _) rfl)
        k_steps
        refine stop_in (err_stmt59 (by k_asm) rfl ?_)
        k_steps
        refine stop_in (PyProof.Rows.add_str (hsz := ?hz) ?_)
        case hz =>
          have h12 : (Str.ofString "told twice: ").length = 12 := by decide
          have hxl := hlx _ (List.mem_of_getElem? hp)
          try dsimp only at hxl
          rw [sizeLine_eq, h12]; omega
        intro t7 tk7
        k_steps
        (refine stop_in ?_; k_dflt (refine' err_call2 (by k_asm) (by k_asm) (by k_asm) (by k_asm) (by first | exact rfl | assumption) (by k_asm) (by k_room) (by k_units) ?_); intro e9 T9 T8 D9 o9 h9 tk9 hne9 F9 N9; refine ⟨e9, T9, D9, rfl, F9.keep, (N9 _ (.head _)).1, ?_⟩; exact raise_out (by assumption) (by assumption) rfl rfl (by assumption) F9 N9 (by walk_at "MEM") hne9 fun h' z => z)
      · k_steps
        rename Fr _ _ _ _ => FS
        rename News _ _ _ _ => NS
        refine stop_in (TEnd.intro (_, _) FS (ov2 _ _ _ _ _ _ _) (news_sub NS (sub_tail (sub_refl _))) ?_ hlm ⟨rfl, ?_⟩)
        · intro p hp q hq
          rcases List.mem_cons.mp hq with rfl | hq
          · exact (hoI p hp).1
          · rw [List.mem_singleton.mp hq]; exact (hoI p hp).2
        · rw [htk, List.nodup_append]
          exact ⟨hnd, by simp, fun a ha b hb e => hin (by rw [← List.mem_singleton.mp hb, ← e]; exact ha)⟩
    · rintro ⟨u1, u2⟩ news₁ h4 tk4 ⟨rfl, hnd⟩ hlm F4 N4
      try dsimp only at F4
      rw [hrl, List.take_length] at hnd
      have R := hR hnd
      have isd1 := isd0
      have N5 := news_sub N4 (l' := (fd, fo) :: ([(wl, listOf rvs.toArray wn), (nl, LCg.lst ns), (L' + 1 + 1, oN2), (L' + 1, oF2)] ++ news)) (by walk_at "MEM")
      try dsimp only
      k_steps
      refine stop_in (wpAny_execs_cons (whileS (σ := Option Value × Option Value × Option Value × Option Value × Option Value)
        (fun m u y => if y = Str.ofString "waiting" then u.1 else if y = Str.ofString "later" then u.2.1 else if y = Str.ofString "name" then u.2.2.1 else if y = Str.ofString "node" then u.2.2.2.1 else if y = Str.ofString "at" then u.2.2.2.2 else m y)
        (SolW w rws news ns nl (L' + 1) (L' + 1 + 1) oN2 oF2 fd) (n₀ := rws.length) (a₀ := (_, _, _, _, _)) F4 (same5 _ _ _ _ _ _) N5
        ⟨wl, rvs, wn, rws, fo, [], [], _, rfl, rfl, rfl, by kbo_bools, by kbo_bools, by kbo_bools, by kbo_bools, hr.mono (by walk_at "MEM"), Wait.start hnd, isd1, .nil, ?_, ?_⟩ ?_))
      · krn_off
      · kp_flats
      · rintro n ⟨q1, q2, q3, q4, q5⟩ news₁ h6 tk6 F6 N6 ⟨wl, wvs, wn, ws, fo, kvs, fdv, D, rfl, rfl, rfl, hwl, hnl, hoN, hoF, hri, W, isd, rel, hlt, hDf⟩
        try dsimp only at F6
        have hrl2 := hri.length
        by_cases hw : wvs = []
        · have hws : ws = [] := List.eq_nil_of_length_eq_zero (by rw [← hrl2, hw]; rfl)
          k_steps
          rename_i kF kN Tc kX
          refine ret fd fo kvs fdv ((_, _) :: (fd, fo) :: D) _ _ hnd W.fd (fun x hx => ?_) isd (rel.mono fun v b h => h.mono (by walk_at "MEM")) los (by kbo_bools) (by krn_off) kF kN
          obtain ⟨p, hp, rfl⟩ := List.mem_map.mp hx
          exact (W.cover p hp).elim id fun z => by rw [hws] at z; cases z
        · k_steps
          walk_at "FORT"
          k_steps
          rename_i l0 _ hl0 lt _ _ _ hlt1 _ F8 N8
          have hltn : ∀ p ∈ news, p.1 ≠ lt := fun p hp => allLt_ne hlt1.2.2 p (List.mem_append_right _ hp)
          have hltD : ∀ p ∈ D, p.1 ≠ lt := fun p hp => allLt_ne hlt1.2.2 p (List.mem_append_left _ hp)
          have hlfd : fd ≠ lt := Nat.ne_of_lt hlt1.2.1
          have hl0lt : l0 ≠ lt := Nat.ne_of_lt hlt1.1
          have hl0n : ∀ p ∈ news, p.1 ≠ l0 := fun p hp => allLt_ne hl0.2 p (List.mem_append_right _ hp)
          have hl0fd : l0 ≠ fd := Nat.ne_of_gt hl0.1
          have N9 := news_sub N8 (l' := (fd, fo) :: (lt, listOf #[] 0) :: (((l0, listOf #[] 0) :: D) ++ news)) (by walk_at "MEM")
          refine stop_in (forT_list (σ := Option Value × Option Value × Option Value) (l := wl) (vs := wvs) (n0 := wn)
            (fun m u y => if y = Str.ofString "at" then u.2.2 else if y = Str.ofString "node" then u.2.1 else if y = Str.ofString "name" then u.1 else m y)
            (fun i _ news₁ => SolP w rws ws fdv news ns wvs wn nl wl (L' + 1) (L' + 1 + 1) oN2 oF2 fd lt i news₁) (a₀ := (_, _, _)) rfl F8 (same000 _ _ _ _) N9 (by k_mem)
            ⟨[], 0, [], fo, kvs, fdv, _, rfl, by kbo_bools, by kbo_bools, by kbo_bools, by kbo_bools, hri.mono (by walk_at "MEM"), .nil, Pass.start W, isd, rel.mono fun v b h => h.mono (by walk_at "MEM"), ?_, by kp_flats, by kp_flats⟩ ?_ ?_)
          · krn_off
          · rintro i v ⟨u1, u2, u3⟩ news₁ I io h9 tk9 hv ⟨lvs, ln, lws, fo, kvs, fdv', D', rfl, hnl, hoN, hoF, hwl', hri', hlr, P, isd, rel, hlt, hDf, hDl⟩ hlm hoI F9 N9
            try dsimp only at F9
            obtain ⟨a, x, tx, nv, t, rfl, hp, e1, e2⟩ := rIn_get hri' hv
            rw [List.singleton_append] at N9
            obtain ⟨na, rfl⟩ : ∃ z, nv = .ref z := by cases e2 <;> exact ⟨_, rfl⟩
            have hpw : (x, t) ∈ rws := W.sub _ (List.mem_of_getElem? hp)
            have hok := R.ok.ok _ hpw
            have hsz : t.size + 1 ≤ 8 := ok_size hok
            have hfI : fd ≠ I := hoI _ (.head _)
            have hlI : lt ≠ I := hoI _ (.tail _ (.head _))
            have hDI : ∀ p ∈ D' ++ news, p.1 ≠ I := fun p hp => hoI p (.tail _ (.tail _ hp))
            k_steps
            refine stop_in ?_
            k_dflt (refine' names_call ?B ?F ?X ?T ?hk ?N ?ht ?hz ?hd ?hu ?_; (case B => k_asm); (case F => k_asm); (case X => k_asm); (case T => k_asm); (case hk => first | exact rfl | assumption); (case N => k_asm); (case hd => k_room); (case hu => k_units); (case ht => exact e2.mono (by walk_at "MEM")); (case hz => omega))
            intro l9 vs9 n9 xs D9 h7 tk7 hm9 sv9 hx9 hxl9 hl9 F7 N7
            k_steps
            have N7' := news_sub N7 (l' := (I, io) :: (fd, fo) :: (lt, listOf lvs.toArray ln) :: (D9 ++ (D' ++ news))) (by walk_at "MEM")
            clear N7
            refine stop_in (LCt.CompSrcT.ledger rfl F7 N7' (by kbo_bools) (by have := strsAre_length sv9; simp [sizeLine_eq]; omega) fun g8 => ?_)
            have hlen9 := strsAre_length sv9
            generalize hpq : (fun y => decide (y ∈ rws.map (·.1) ∧ y ∉ fdv'.map (·.1))) = pq
            have hpT : ∀ y, y ∈ rws.map (·.1) → y ∉ fdv'.map (·.1) → pq y = true := fun y h1 h2 => by rw [← hpq]; simp only [decide_eq_true_eq]; exact ⟨h1, h2⟩
            have hpF : ∀ y, ¬ (y ∈ rws.map (·.1) ∧ y ∉ fdv'.map (·.1)) → pq y = false := fun y h1 => by rw [← hpq]; simp only [decide_eq_false_iff_not]; exact h1
            refine compT (fun i ys news₁ => news₁ = (I, io) :: (fd, fo) :: (lt, listOf lvs.toArray ln) :: (D9 ++ (D' ++ news)) ∧ StrsAre ys ((xs.take i).filter pq)) ?_ ?_ _ 0 [] _ (Nat.zero_add _) ⟨rfl, .nil⟩
            ·
              rintro i v ys news₁ I2 oI2 C oC D2 m₂ h tk E' hi hv ⟨rfl, hs⟩ hn hx F3 N3 o3 hne
              obtain ⟨y, ty, rfl, hy⟩ := strsAre_get sv9 (show vs9[i]? = some v by simpa using hv)
              have hns' := hns
              by_cases c1 : y ∈ rws.map (·.1)
              · rcases rel.at y with ⟨r1, r2⟩ | ⟨vv, bb, r1, r2, r3⟩
                · k_steps
                  refine stop_in (LCg.CompEnd.intro F3 N3 _ (sub_refl _) o3 (.inr ⟨_, by kbo_bools, rfl, _, rfl⟩) ⟨rfl, ?_⟩)
                  rw [filt_T hy (hpT y c1 (lk_none.mp r1))]
                  exact strsAre_append hs (.cons y ty .nil)
                · k_steps
                  refine stop_in (LCg.CompEnd.intro F3 N3 _ (sub_refl _) o3 (.inr ⟨_, by kbo_bools, rfl, _, rfl⟩) ⟨rfl, ?_⟩)
                  rw [filt_F hy (hpF y fun h => h.2 (List.mem_map_of_mem (f := (·.1)) (lk_mem r1)))]
                  exact hs
              · k_steps
                refine stop_in (LCg.CompEnd.intro F3 N3 _ (sub_refl _) o3 (.inr ⟨_, by kbo_bools, rfl, _, rfl⟩) ⟨rfl, ?_⟩)
                rw [filt_F hy (hpF y fun h => c1 h.1)]
                exact hs
            · rintro ys news₁ ⟨rfl, hys⟩ yl h2 tk2 F8 N8 o8
              try dsimp only
              rw [show vs9.toArray.size = xs.length by simp [hlen9], List.take_length] at hys
              have hyD : ∀ p ∈ (I, io) :: (fd, fo) :: (lt, listOf lvs.toArray ln) :: (D9 ++ (D' ++ news)), p.1 ≠ yl := off1_ne o8
              have hyI : I ≠ yl := hyD _ (.head _)
              have hyf : fd ≠ yl := hyD _ (.tail _ (.head _))
              have hyl : lt ≠ yl := hyD _ (.tail _ (.tail _ (.head _)))
              have hyI' : yl ≠ I := hyI.symm
              have hyf' : yl ≠ fd := hyf.symm
              have hyl' : yl ≠ lt := hyl.symm
              have hfI' : I ≠ fd := hfI.symm
              have hlI' : I ≠ lt := hlI.symm
              have hfl' : lt ≠ fd := hlfd.symm
              have hy9 : ∀ p ∈ D9 ++ (D' ++ news), p.1 ≠ yl := fun p hp => hyD p (.tail _ (.tail _ (.tail _ hp)))
              have hyn : ∀ p ∈ news, p.1 ≠ yl := fun p hp => hy9 p (List.mem_append_right _ (List.mem_append_right _ hp))
              have hl9n : Later D9 news := Later.weak hl9 (by walk_at "MEM")
              have h9f : ∀ p ∈ D9, p.1 ≠ fd := Later.ne hl9 (o := fo) (by kbo_bools)
              have h9l : ∀ p ∈ D9, p.1 ≠ lt := Later.ne hl9 (o := listOf lvs.toArray ln) (by kbo_bools)
              have h9I : ∀ p ∈ D9, p.1 ≠ I := Later.ne hl9 (o := io) (by kbo_bools)
              have hnf : ∀ p ∈ D' ++ news, p.1 ≠ fd := List.forall_mem_append.mpr ⟨hDf, hfdn⟩
              have hnl2 : ∀ p ∈ D' ++ news, p.1 ≠ lt := List.forall_mem_append.mpr ⟨hDl, hltn⟩
              by_cases hnil : ys = []
              · have hc : ∀ z ∈ t.names, z ∈ rws.map (·.1) → z ∈ fdv'.map (·.1) := by
                  intro z hz hzn
                  by_cases hzf : z ∈ fdv'.map (·.1)
                  · exact hzf
                  exfalso
                  have hm : z ∈ xs.filter pq := List.mem_filter.mpr ⟨(hx9 z).mpr hz, hpT z hzn hzf⟩
                  rw [hnil] at hys
                  have := strsAre_length hys
                  rw [List.eq_nil_of_length_eq_zero (l := xs.filter pq) (by simpa using this.symm)] at hm
                  cases hm
                have hfl := P.fd.len
                have hkl := rel.length
                have hrw7 := R.ok.len
                k_steps
                refine stop_in ?_
                k_dflt (refine' ev_use (ev_all t) (K := fdv'.length) (fdv := fdv') ?B ?F ?X ?T ?hk (.inr ⟨rfl, rfl⟩) ?N ?ht ?hs P.fd.bits (R.hn hpw hc) (ok_n90 hok) (by omega) (Tr.ok_lv hok) (Nat.le_trans (ok_dep hok) (by decide)) ?hd ?hu ?_ ?_; (case hd => have := ok_dep hok; k_room); (case hu => have := ok_dep hok; k_units); (case B => k_asm); (case F => k_asm); (case X => k_asm); (case T => k_asm); (case hk => first | exact rfl | assumption); (case N => k_asm); (case ht => exact e2.mono (by walk_at "MEM")); (case hs => exact ⟨⟨_, _, fd, fo, kvs, _, _, rfl, by kbo_bools, by kbo_bools, by kbo_bools, isd, rel.mono fun v b h => h.mono (by walk_at "MEM"), los⟩, P.fd.fit, R.key P.fd, by omega⟩))
                · intro z rz Dz hz tkz hev hrz hlz Fz Nz
                  have hval : valueAt kvs x = none := by
                    rcases rel.at x with ⟨_, q⟩ | ⟨vv, bb, q, _, _⟩
                    · exact q
                    · exact absurd (List.mem_map_of_mem (f := (·.1)) (lk_mem q)) (P.disj (x, t) (.inr (by rw [List.drop_eq_getElem_cons (List.getElem?_eq_some_iff.mp hp).1, (List.getElem?_eq_some_iff.mp hp).2]; exact .head _)))
                  k_steps
                  refine stop_in ?_
                  refine' rem_N (c := fd) (o := fo) Nz ?R ?_
                  case R => walk_at "REM"
                  intro Nz' hoz
                  refine dict_set1 Fz Nz' hoz isd hval (by omega) fun h5 fo2 F5 N5 isd5 => ?_
                  k_steps
                  refine stop_in ?_
                  refine' grp_k (I := I) (io := io) (b := lt) (bo := listOf lvs.toArray ln) (news := news) hoz N5 ?R1 ?R2 ?S hfI ?_
                  case R1 => walk_at "REM"
                  case R2 => walk_at "REM"
                  case S => repeat (first | (with_reducible exact Spl.here) | (with_reducible apply Spl.cons) | (with_reducible apply Spl.app))
                  intro G
                  refine TEnd.intro (_, _, _) F5 (ov3 _ _ _ _ _ _ _ _ _ _) G.N (fun p hp q hq => by rw [List.mem_singleton.mp hq]; exact G.offI p hp) (by kbo_bools) ⟨lvs, ln, lws, fo2, _, _, _, rfl, by kbo_bools, by kbo_bools, by kbo_bools, by kbo_bools, hri'.mono (by walk_at "MEM"), hlr.mono (by walk_at "MEM"), Pass.found R W P hp hc hev, isd5, (rel.mono fun v b h => h.mono (by walk_at "MEM")).append (hrz.mono (by walk_at "MEM")), ?_, G.offa, G.offb⟩
                  krn_off
                · intro hev e g h' tk' FG RR U
                  have hw := evF_worth P.fd hc
                  rw [hev] at hw
                  exact fly_on (fly (.inr ⟨(x, t), hpw, worth_nam (lk_of_mem hnd hpw) hw⟩)) (by assumption) rfl (by assumption) FG RR U (by walk_at "MEM") fun h' z => z
              · k_steps
                rename_i l5 h5 F5 N5 hl5 _ h6 F6 N6 _ _
                have hT : ∀ p ∈ (l5, listOf #[] 0) :: (yl, LCg.lst ys) :: (I, io) :: (fd, fo) :: (lt, listOf lvs.toArray ln) :: (D9 ++ (D' ++ news)), p.1 < h5.objs.size := fun p hp => Heap.lt_size (N5 p hp).1
                try dsimp only at N6
                generalize htp : h5.objs.size = tp at N6 hT ⊢
                have ht1 : tp ≠ I := Nat.ne_of_gt (hT (I, io) (by kbo_bools))
                have ht2 : tp ≠ fd := Nat.ne_of_gt (hT (fd, fo) (by kbo_bools))
                have ht3 : tp ≠ lt := Nat.ne_of_gt (hT (lt, listOf lvs.toArray ln) (by kbo_bools))
                have htn : ∀ p ∈ news, p.1 ≠ tp := fun p hp => Nat.ne_of_lt (hT p (.tail _ (.tail _ (.tail _ (.tail _ (.tail _ (List.mem_append_right _ (List.mem_append_right _ hp))))))))
                have hl5n : ∀ p ∈ news, p.1 ≠ l5 := fun p hp => allLt_ne hl5.2.2.2.2 p (List.mem_append_right _ (List.mem_append_right _ hp))
                have hlvl := hlr.length
                have hpl := P.len
                have hwl8 := W.len
                have hil := (List.getElem?_eq_some_iff.mp hp).1
                have hlean : ∃ y ∈ t.names, y ∈ rws.map (·.1) ∧ y ∉ fdv'.map (·.1) := by
                  have : xs.filter pq ≠ [] := fun e => by rw [e] at hys; exact hnil (strsAre_zero hys)
                  obtain ⟨y, hy⟩ := List.exists_mem_of_ne_nil _ this
                  obtain ⟨hy1, hy2⟩ := List.mem_filter.mp hy
                  rw [← hpq] at hy2
                  simp only [decide_eq_true_eq] at hy2
                  exact ⟨y, (hx9 y).mp hy1, hy2⟩
                refine stop_in ?_
                refine' rem_N (c := lt) (o := listOf lvs.toArray ln) N6 ?R ?_
                case R => walk_at "REM"
                intro N7 hol
                refine append_at1 F6 N7 hol (by omega) fun h8 F8' N8' => ?_
                k_steps
                refine stop_in ?_
                refine' grp_k (I := I) (io := io) (b := fd) (bo := fo) (news := news) hol N8' ?R1 ?R2 ?S hlI ?_
                case R1 => walk_at "REM"
                case R2 => walk_at "REM"
                case S => repeat (first | (with_reducible exact Spl.here) | (with_reducible apply Spl.cons) | (with_reducible apply Spl.app))
                intro G'
                have G := G'.swap
                refine TEnd.intro (_, _, _) F8' (ov3 _ _ _ _ _ _ _ _ _ _) G.N (fun p hp q hq => by rw [List.mem_singleton.mp hq]; exact G.offI p hp) (by kbo_bools) ⟨lvs ++ [.ref tp], ln + 1, lws ++ [(x, t)], fo, _, _, _, rfl, by kbo_bools, by kbo_bools, by kbo_bools, by kbo_bools, hri'.mono (by walk_at "MEM"), (hlr.mono (by walk_at "MEM")).append (.cons (by kbo_bools) (e2.mono (by walk_at "MEM")) .nil), Pass.later P hp hlean, isd, (rel.mono fun v b h => h.mono (by walk_at "MEM")), ?_, G.offa, G.offb⟩
                krn_off
          · rintro ⟨u1, u2, u3⟩ news₁ h9 tk9 ⟨lvs, ln, lws, fo, kvs, fdv', D', rfl, hnl, hoN, hoF, hwl', hri', hlr, P, isd, rel, hlt, hDf, hDl⟩ hlm F9 N9
            try dsimp only at F9
            try dsimp only
            have hlvl := hlr.length
            have hwl8 := W.len
            rw [hrl2] at P
            have hpl := P.len
            k_steps
            · rename_i hlen
              have hlw : lws.length = ws.length := by omega
              have hring := P.ring W hnd hlw
              cases hlr with
              | nil => exact absurd (List.eq_nil_of_length_eq_zero (by have : ws.length = 0 := by rw [← hlw]; rfl
                                                                       omega)) hw
              | cons r1 r2 r3 =>
                rename_i a9 x9 tx9 nv9 t9 vs9 ws9 _
                have hfly := fly (.inr ⟨(x9, t9), W.sub _ (List.mem_of_mem_take (P.sl.subset (.head _))), hring _ (.head _)⟩)
                (refine stop_in (err_stmt59 (by k_asm) rfl ?_); k_steps; refine stop_in ?_; k_dflt (refine' err_call2 (by k_asm) (by k_asm) (by k_asm) (by k_asm) (by first | exact rfl | assumption) (by k_asm) (by k_room) (by k_units) ?_); intro e9 T9 T8 D9 o9 h9 tk9 hne9 F9 N9; refine ⟨e9, T9, D9, rfl, F9.keep, (N9 _ (.head _)).1, ?_⟩; exact raise_out (by assumption) (by assumption) rfl rfl (by assumption) F9 N9 (by walk_at "MEM") hne9 fun h' z => z)
            · rename_i hlen _
              have hlt2 : lws.length < ws.length := by omega
              rename Fr _ _ _ _ => kF
              rename News _ _ _ _ => kN
              refine stepS (_, _, _, _, _) kF (names5 _ _ _ _ _ _ _ _ _ _ _) kN hlt2 ⟨lt, lvs, ln, lws, fo, kvs, fdv', (lt, listOf lvs.toArray ln) :: D', rfl, rfl, rfl, by kbo_bools, by kbo_bools, by kbo_bools, by kbo_bools, hlr.mono (by walk_at "MEM"), P.wait W, isd, rel.mono fun v b h => h.mono (by walk_at "MEM"), ?_, ?_⟩
              · exact Later.consN hltn hlt
              · exact List.forall_mem_cons.mpr ⟨fun e => hlfd e.symm, hDf⟩

end SolvePart
section CatchPart
open PySem PySem.W PyProof.Rows PySem.Calls PySem.Spec
section
variable {A₀ : Around} {base g G B h₅ : Heap} {outer : List Env} {env : Env} {L : Addr} {m : Str → Option Value}
theorem groundT (hf : env.frame = some L) (K : Below A₀ base outer g) (F : Fr g L G m) (hBG : ∀ b o, G.get? b = some o → b ∉ (env :: outer).filterMap (·.frame) → B.get? b = some o) (hBh : B.StaysIn h₅) (hsm : G.UpToSlots h₅) :
    ∃ g', KtsTurn (outer.filterMap (·.frame)) g g' ∧ Fr g' L h₅ m ∧ Below A₀ base outer g' := by
  obtain ⟨T, S⟩ := kts_turn_at (h := h₅) (fs := outer.filterMap (·.frame)) (g := g)
    (fun b hb => by
      obtain ⟨_, o, ho, _⟩ := K.frames.mem hb
      exact ⟨o, ho⟩)
    (fun b o e nm => hBh b o (hBG b o (F.keep b o e) (fun hm => by
      rcases memX hf hm with z | z
      · rw [z, kts_self F] at e
        cases e
      · exact nm z)))
    (fun b o e hm => by
      obtain ⟨_, o', ho', hd⟩ := K.frames.mem hm
      rw [e] at ho'
      cases ho'
      exact hsm b o (F.keep b o e) hd)
  refine ⟨_, T, ⟨hsm.ns F.ns, S, by rw [T.size]; exact F.above⟩, ⟨K.stack, fun b o e => T.other b o (K.stays b o e) (fun hm => by
    rw [(K.frames.mem hm).1] at e
    cases e), K.frames.of_keeps fun b o e _ => ?_⟩⟩
  obtain ⟨sl, hs⟩ := T.up e
  exact ⟨_, hs, rfl⟩
end
section
variable {prog : Program} {w : World} {A₀ : Around} {E : Value → Shared → Prop} {s' : Shared} {base g g₀ G : Heap} {outer : List Env} {L a e C : Addr} {m : Str → Option Value} {name : Str} {scope : Scope} {cd : Value} {cl : List (Str × Addr)}
  {n : Str} {b₀ : Stmt} {suite : List Stmt} {pos np : Pos} {rest : List ExceptHandler} {Q : Flow → Shared → Prop} {news : List (Addr × Obj)} {KF : Frag}
  {p : Program} {loose : List Str} {mean : ExcName → Option Value} {mg mb : Str → Option Value} {x : Str}
theorem caught_X (R : RaisedSN base G (envX name scope L a cd cl :: outer) e (.ref C) news s'.heap) (F : Fr g L G m) (K : Below A₀ base outer g) (hsm : G.UpToSlots s'.heap) (XB : KF.In base) (TB : Top p loose mean mg mb base)
    (D : KtsDicts (outer.filterMap (·.frame)) g) (T0 : KtsTurn (outer.filterMap (·.frame)) g₀ g)
    (ex : nsIn KF mainGlobals x = some (some (.ref C))) (q : ktsIn KF C "BaseException" = true)
    (k : ∀ h' g', KtsTurn (outer.filterMap (·.frame)) g₀ g' → Fr g' L h' m → News g' L h' news → Below A₀ base outer g' → KF.In g' → Top p loose mean mg mb g' → KtsDicts (outer.filterMap (·.frame)) g' →
      wpAny (model prog w) ((A₀.deeper (envX name scope L a cd cl)).mark (some (.ref e))) (execs (b₀ :: suite) (envX name scope L a cd cl)) Q E { s' with heap := h' })
    (hk : scope.kind = .function := by rfl) (hx : (envX name scope L a cd cl).kindOf x = some .globalImplicit := by rfl) (hd : (x == ("__debug__" : Str)) = false := by decide)
    (hE : PassesOwnAt (model prog w) ((A₀.deeper (envX name scope L a cd cl)).mark (some (.ref e))) (A₀.deeper (envX name scope L a cd cl)) (envX name scope L a cd cl) E := by passes_own) :
    wpAny (model prog w) (A₀.deeper (envX name scope L a cd cl)) (noteFrame (.ref e) (envX name scope L a cd cl))
      (fun _ s₂ => wpAny (model prog w) (A₀.deeper (envX name scope L a cd cl)) (setFlight (.ref e) none) (fun _ s₃ =>
        wpAny (model prog w) (A₀.deeper (envX name scope L a cd cl)) (handleBy (.ref e) (envX name scope L a cd cl) (.ExceptHandler (some (.Name x np)) none (b₀ :: suite) pos :: rest)) Q E s₃) E s₂) E s' := by
  obtain ⟨B, a0, hB, hBG, hl, hfl⟩ := R
  have hL : B.get? L = none := by
    obtain ⟨_, ⟨L', _, hf, hn', _⟩, _⟩ := hfl.2.2.1
    obtain rfl : L = L' := Option.some.inj hf
    exact hn'
  refine wpAny_looks_onW (Around.frames_deeper K.stack) rfl hfl fun h₄ hheld₄ hsm₄ => ?_
  refine wpAny_landsW hheld₄ fun h₅ hheld hsm₅' => ?_
  have hsm₅ := hsm₄.trans hsm₅'
  obtain ⟨g₅, T₅, F₅, K₅⟩ := groundT rfl K F hBG hheld.1 (hsm.trans hsm₅)
  have X₅ : KF.In g₅ := XB.keeps K₅.stays
  have P₅ : TopRead p loose mg mb g₅ := topRead_of (TB.keeps K₅.stays)
  obtain ⟨ob, hob, hobc⟩ := hheld.there
  obtain ⟨nm, q', N, bs, bm, hdct, sn, sub, ab, col, dd, k0, k1, k2, k3, k5, newId, hC, hbase, hbT⟩ := kts_cls X₅ q
  have hC₅ := F₅.keep _ _ hC
  refine wpAny_handleBy_cons (codeAny_handlers_test (nameX_K F₅ X₅ P₅ ex ?_ hk hx hd)) (by intro q; cases q)
  refine wpAny_excMatches_sub_self hC₅ hob hobc hbase (codeAny_handlers_suite ?_)
  refine lands_againW hheld fun h₆ hfl₆ hsm₆ => ?_
  obtain ⟨g₆, T₆, F₆, K₆⟩ := groundT rfl K F hBG hfl₆.1 ((hsm.trans hsm₅).trans hsm₆)
  have Nl : News g₆ L h₆ news := fun q hq => ⟨hfl₆.1 _ _ (hl q hq).1, (fun z => by have := (hl q hq).1; rw [z, hL] at this; cases this), T₆.none_ _ (kts_none F.keep (hl q hq).2.1)⟩
  have X₆ : KF.In g₆ := XB.keeps K₆.stays
  have P₆ : Top p loose mean mg mb g₆ := TB.keeps K₆.stays
  have D₆ : KtsDicts (outer.filterMap (·.frame)) g₆ := D.turn T₆
  exact wpAny_passesOwnAt hE (k h₆ g₆ (T0.trans T₆) F₆ Nl K₆ X₆ P₆ D₆)
end
section
variable {prog : Program} {w : World} {A₀ A : Around} {s : Shared} {base h₀ : Heap} {env : Env} {L : Addr} {m : Str → Option Value} {news : List (Addr × Obj)} {K : Frag} {p : Program} {loose : List Str} {mean : ExcName → Option Value} {mg mb : Str → Option Value}
    {R : Result → Shared → Prop} {name qual : Str} {params : Arguments} {body : List Stmt} {scope : Scope} {dV kV doc pm cdv ct oc : Value} {an od : Option Addr} {osl : Array (Option Value)} {f : Addr} {args : Args} {binds : List (Str × Value)}
theorem code_defSC (B : Below A₀ base [] h₀) (F : Fr h₀ L s.heap m) (X₀ : K.In h₀) (N : News h₀ L s.heap news) (T : Top p loose mean mg mb h₀) (hA : A.frames = some [env]) (hf : env.frame = some L) (hke : env.scope.kind = .function)
    (ho : K.lookup f = some ⟨oc, od, .func (fnOf name qual params body scope dV kV doc pm an cdv ct), osl⟩) (hcd : codeIn K cdv qual = true) (hroom : A.depth < recursionLimit)
    (hbind : BindsTo s (fnOf name qual params body scope dV kV doc pm an cdv ct) args binds) (hkind : (binds.all fun y => scope.names.lookup y.1 == some .local || scope.names.lookup y.1 == some .cell) = true)
    (hnd : ((cellsFrom 0 scope.names []).map (·.1)).Nodup)
    (h : ∀ g L' h₁ tk cells, Fr h₀ L g m → Fr g L' h₁ (bindL (envOfC qual scope L' f cdv).kindOf binds fun _ => none) → News g L' h₁ (cells ++ news) →
      CellsAre (bindC (envOfC qual scope L' f cdv).kindOf binds fun _ => none) (cellsFrom (L' + 1) scope.names []) cells → Below A base [env] g → K.In g → Top p loose mean mg mb g → (∀ p ∈ news, p.1 < L') → KtsDicts ([env].filterMap (·.frame)) g →
      wpAny (model prog w) (A.deeper (envOfC qual scope L' f cdv)) (execs body (envOfC qual scope L' f cdv))
        (fun fl s' => LeaveS0 ([env].filterMap (·.frame)) h₀ L m g R (match fl with | .ret v => v | _ => .none) s')
        (fun e s' => wpAny (model prog w) (A.deeper (envOfC qual scope L' f cdv)) (leaving (envOfC qual scope L' f cdv) e) (fun _ s'' => R (.error e) s'') (fun e' s'' => R (.error e') s'') s')
        { s with heap := h₁, toks := tk })
    (hco : scope.isCoroutine = false) (hgen : scope.isGenerator = false) (hk : scope.kind = .function) : codeAny (model prog w) A (.call (.ref f) args) R s := by
  have X := X₀.keeps F.keep
  obtain ⟨FG, BG, st, _⟩ := groundX (R := R) B F N hA hf hke
  have hlim := T.nolimit
  have hfr : [env].filterMap (·.frame) = [L] := by simp [hf]
  refine codeAny_call_function hroom (X _ _ ho) rfl hco hgen rfl (codeRec_of X hcd) (hbind _ _ _ _ ?_)
  refine wpAny_newFunctionEnv_cells hk (kindsX hkind _) fun env' he s' x => ?_
  subst he
  refine ⟨(hlim.keeps F.keep).keeps x.toInCall.keep, codeAny_func ?_⟩
  obtain ⟨h₁, tk, rfl, _⟩ := x.done
  have hk₁ := x.toInCall.keep
  obtain ⟨cells, NC, Y⟩ := Cl.news (h₀ := s.heap) (Nat.le_refl _) fun n c hm => ⟨x.cell n c (lookup_of_mem_nodup (cellsFrom_names scope.names 0 (s.heap.objs.size + 1) [] [] rfl ▸ hnd) hm), x.above n c hm⟩
  obtain ⟨oL, es, ep, hL, hLd, hLk, hLf⟩ := F.ns
  have nL : L ∉ news.map (·.1) := fun q => by
    obtain ⟨p, hp, e⟩ := List.mem_map.mp q
    exact (N p hp).2.1 e
  have hLg := hideAll_get (news.map (·.1)) hL nL
  have nL₀ : h₀.get? L = none := kts_self F
  have hDk : KtsDicts ([env].filterMap (·.frame)) (hideAll s.heap (news.map (·.1))) := fun b hb => by
    rw [hfr] at hb
    rw [List.mem_singleton.mp hb]; exact ⟨oL, es, ep, hLg, hLd⟩
  refine wpAny_mono (h _ s.heap.objs.size h₁ tk cells FG ⟨x.toInCall.ns, fun b o e => hk₁ b o (of_hideAll _ e), Nat.le_of_eq (hideAll_size _ _)⟩ (fun p hp => ?_) Y BG (X₀.keeps st) (T.keeps st) (fun p hp => Heap.lt_size (N p hp).1) hDk) (fun fl s' hl => ?_) fun _ _ y => y
  · rcases List.mem_append.mp hp with hp | hp
    · refine ⟨(NC p hp).1, (NC p hp).2.1, ?_⟩
      cases q : (hideAll s.heap (news.map (·.1))).get? p.1 with
      | none => rfl
      | some o => have := of_hideAll _ q; rw [(NC p hp).2.2] at this; cases this
    · exact ⟨hk₁ _ _ (N p hp).1, Nat.ne_of_lt (Heap.lt_size (N p hp).1), hideAll_none _ (List.mem_map_of_mem hp)⟩
  · obtain ⟨g', L', m', news', T', F', N', k⟩ := hl
    obtain ⟨sl, hs⟩ := T'.up hLg
    refine k ⟨⟨_, es, ep, F'.keep _ _ hs, hLd, hLk, hLf⟩, fun b o e => F'.keep b o (T'.other b o (st b o e) (fun q => by
      rw [hfr] at q
      rw [List.mem_singleton.mp q, nL₀] at e
      cases e)), F.above⟩ fun p hp => ⟨(N' p hp).1, fun q => ?_, ?_⟩
    · have := (N' p hp).2.2; rw [q, hs] at this; cases this
    · cases q : h₀.get? p.1 with
      | none => rfl
      | some o =>
        obtain ⟨sl', hs'⟩ := T'.up (st _ _ q)
        have := (N' p hp).2.2
        rw [hs'] at this
        cases this
end

end CatchPart
section DictPPart
open PySem PySem.W PyProof.Rows PySem.Calls
section
variable {prog : Program} {w : World} {K : Type} [DecidableEq K] {knd : KeyKind prog w K} {A : Around} {E : Value → Shared → Prop} {s : Shared}
theorem list_no_keys : typeLookup (.type "list") "keys" = pure none := by rw [typeLookup_type, builtinLookup_eq_fast]; kernel_rfl
theorem getAttr?_list_keys {a : Addr} {xs : Array Value} {k : Nat} {sl : Array (Option Value)} {Q : Option Value → Shared → Prop}
    (hx : s.heap.get? a = some { cls := .type "list", dict := none, data := .seq xs k, slots := sl }) (hA : A.handled = none)
    (h : ∀ h' tk, (∀ b o, s.heap.get? b = some o → h'.get? b = some o) → Q none { s with heap := h', toks := tk }) :
    wpAny (model prog w) A (getAttr? (.ref a) "keys") Q E s := by
  unfold getAttr? getAttrBy?
  refine wpAny_bind (wpAny_mkText ?_)
  refine wpAny_bind (wpAny_attempt ?_)
  obtain ⟨hp, g, d, tk, os⟩ := s
  have hT : ∀ tk', (⟨hp, g, d, tk', os⟩ : Shared).TypeIs (.ref a) "list" := fun _ => ⟨_, hx, rfl⟩
  have f1 := sub_AttributeError
  have f3 := F.slot_list_getattribute.lookup
  have f4 := F.slot_list_getattribute.bind (.ref a)
  have f5 := am_list_getattr_none
  unfold getAttrBy
  repeat (any_goals (first | assumption | exact hT _ | ((with_reducible show wpAny _ _ (call (Value.builtin "list.__getattribute__") _ _) _ _ _); refine call_meets F.slot_list_getattribute (hT _) am_entry_list_getattribute (F.args_list_getattribute_2 _ _) (meets_getattribute_miss_list a xs k sl "keys" _ list_no_keys (by decide) (by size_fits)) ⟨hx, hA, fun h' tk' e hx' => ?_⟩) | wp_step))
  obtain ⟨t', u', he⟩ := hx'.there
  show wpAny _ _ (getattributeRaised _ _ _ _ _ _ _) _ _ _
  unfold getattributeRaised
  repeat (any_goals (first | assumption | wp_step))
  all_goals exact h _ _ fun b o e => hx'.keeps b o e
theorem dpu_plain : plainId "dict.update.loop" = true := by decide +kernel
theorem dpu_entry : entryFor table "dict.update.loop" = some Builtin.«dict.update.loop» := entryFor_of_fast (by kernel_rfl)
theorem stored_len (kvs : List (K × Value)) (k : K) (v : Value) : (stored kvs k v).length ≤ kvs.length + 1 := by
  unfold stored; split <;> simp
theorem foldl_stored_len (ps : List (K × Value)) : ∀ kvs : List (K × Value), (ps.foldl (fun a p => stored a p.1 p.2) kvs).length ≤ kvs.length + ps.length := by
  induction ps with
  | nil => intro kvs; simp
  | cons p ps ih => intro kvs; have := ih (stored kvs p.1 p.2); have := stored_len kvs p.1 p.2; simp only [List.foldl_cons, List.length_cons]; omega
/-- the items of a list are two-tuples with a key and a value -/
noncomputable def PairsAt (knd : KeyKind prog w K) (h : Heap) (items : Array Value) (ps : List (K × Value)) : Prop :=
  ∀ (i : Nat) (p : K × Value), ps[i]? = some p → ∃ (a : Addr) (o : Obj) (kk : Value) (c : Nat), items[i]? = some (.ref a) ∧ h.get? a = some o ∧ o.cls = .type "tuple" ∧ o.data = .seq #[kk, p.2] c ∧ knd.is p.1 kk = true
theorem code_dpu_loop {I l d : Addr} {items : Array Value} {ps : List (K × Value)} {R : Result → Shared → Prop} (hh : A.handled = none) (hIl : l ≠ I) (hdI : d ≠ I) (hdl : d ≠ l) (hn : items.size = ps.length) (hz : ps.length ≤ sizeLine)
    (hpd : ∀ (i : Nat) (a : Addr), items[i]? = some (.ref a) → a ≠ d ∧ a ≠ I) :
    ∀ (k i : Nat) (j : Int) (s : Shared) (t : Tok), ps.length - i = k → i ≤ ps.length → (s.heap.IsListIter I l i ∧ s.heap.IsList l items) → PairsAt knd s.heap items ps → s.heap.DictOf knd d ((ps.take i).foldl (fun a p => stored a p.1 p.2) []) →
    (∀ h' tk, (∀ b o, b ≠ d → b ≠ I → s.heap.get? b = some o → h'.get? b = some o) → h'.DictOf knd d (ps.foldl (fun a p => stored a p.1 p.2) []) → R (.ok (.ret .none)) { s with heap := h', toks := tk }) →
    codeAny (model prog w) A (.builtin "dict.update.loop" ⟨[.ref d, .ref I, .int j t, .none], []⟩) R s := by
  have W : Walks prog w A.in1 I [I, l] [I] items.size (fun i v => items[i]? = some v) (fun i h => h.IsListIter I l i ∧ h.IsList l items) := Walks.list (A := A.in1) hh I l hIl items
  intro k
  induction k with
  | zero =>
    intro i j s t hk hi st hP hD hR
    have hin : i = ps.length := by omega
    subst hin
    refine codeAny_builtin dpu_entry ?_
    rw [Around.under_plainId dpu_plain _]
    show wpAny _ A.in1 (pyNext (.ref I) >>= _) _ _ s
    refine wpAny_bind (W.done s _ _ (hn ▸ st) fun h' tk hk' => ?_)
    show wpAny _ A.in1 (Builtin.Dict.addKeywords d [] >>= fun _ => ret .none) _ _ _
    refine wpAny_bind (wpAny_pure (wpAny_pure (hR h' tk (fun b o _ hb e => hk' b o (by simpa using hb) e) ?_)))
    rw [List.take_length] at hD
    obtain ⟨o, es, ep, ho, r⟩ := hD
    exact ⟨o, es, ep, hk' _ _ (by simpa using hdI) ho, r⟩
  | succ k ih =>
    intro i j s t hk hi st hP hD hR
    have hlt : i < ps.length := by omega
    obtain ⟨p, hp⟩ : ∃ p, ps[i]? = some p := ⟨ps[i], List.getElem?_eq_getElem hlt⟩
    obtain ⟨a, o, kk, c, hit, ha, hc, hdat, hkk⟩ := hP i p hp
    refine codeAny_builtin dpu_entry ?_
    rw [Around.under_plainId dpu_plain _]
    show wpAny _ A.in1 (pyNext (.ref I) >>= _) _ _ s
    refine wpAny_bind (W.item i s _ _ (hn ▸ hlt) st fun v h' tk hv st' hk' => ?_)
    rw [hit] at hv
    cases hv
    have hnot := hpd i a hit
    have ha' : h'.get? a = some o := hk' _ _ (by simpa using hnot.2) ha
    have hTa : ∀ tk', (⟨h', s.gens, s.drawn, tk', s.os⟩ : Shared).TypeIs (.ref a) "tuple" := fun _ => ⟨_, ha', hc⟩
    show wpAny _ A.in1 (holding [.ref a] ((Builtin.Dict.pairItems (.ref a)).tryCatch _ >>= _) >>= _) _ _ _
    refine wpAny_bind (wpAny_holding ?_)
    refine wpAny_bind (wpAny_tryCatch ?_)
    unfold Builtin.Dict.pairItems
    refine wpAny_bind (wpAny_typeOf (hTa _) ?_)
    rw [if_pos (by decide)]
    refine wpAny_bind (wpAny_seqItems ha' hdat (wpAny_pure ?_))
    show wpAny _ A.in1 (holding [kk, p.2] (dictSet d kk p.2)) _ _ _
    refine wpAny_holding ?_
    have hD' : h'.DictOf knd d ((ps.take i).foldl (fun a p => stored a p.1 p.2) []) := by
      obtain ⟨o, es, ep, ho, r⟩ := hD
      exact ⟨o, es, ep, hk' _ _ (by simpa using hdI) ho, r⟩
    refine wpAny_dictSet_pairs (hsz := Nat.le_trans (foldl_stored_len _ _) (by simp; omega)) hkk hD' fun h₂ hm hs => ?_
    refine wpAny_pure ⟨plainId_quiet dpu_plain _, ih (i + 1) _ _ _ (by omega) hlt ⟨st'.1.at fun o e => hs.extBut _ _ (Ne.symm hdI) e, st'.2.at fun o e => hs.extBut _ _ (Ne.symm hdl) e⟩ (fun i₁ p₁ hp₁ => ?_) ?_ fun h₃ tk₃ hk₃ hm₃ => ?_⟩
    · obtain ⟨a₁, o₁, kk₁, c₁, e1, e2, e3⟩ := hP i₁ p₁ hp₁
      have hn₁ := hpd i₁ a₁ e1
      exact ⟨a₁, o₁, kk₁, c₁, e1, hs.extBut _ _ hn₁.1 (hk' _ _ (by simpa using hn₁.2) e2), e3⟩
    · rw [List.take_add_one, hp]
      simpa [List.foldl_append] using hm
    · exact hR h₃ tk₃ (fun b o hb hbI e => hk₃ b o hb hbI (hs.extBut _ _ hb (hk' _ _ (by simpa using hbI) e))) hm₃
theorem dict_pairs {l : Addr} {items : Array Value} {c : Nat} {ps : List (K × Value)} {Q : Value → Shared → Prop} (hh : A.handled = none) (hl : s.heap.get? l = some { cls := .type "list", dict := none, data := .seq items c, slots := #[] }) (hn : items.size = ps.length) (hz : ps.length ≤ sizeLine) (hP : PairsAt knd s.heap items ps)
    (h : ∀ h' tk D, h'.DictOf knd D (ps.foldl (fun a p => stored a p.1 p.2) []) → s.heap.objs.size ≤ D → (∀ b o, s.heap.get? b = some o → h'.get? b = some o) → Q (.ref D) { s with heap := h', toks := tk }) :
    wpAny (model prog w) A (call (.type "dict") [.ref l]) Q E s := by
  refine callType_codes (Q₁ := fun obj s₁ => obj = .ref s.heap.objs.size ∧ s₁ = { s with heap := s.heap.push { cls := .type "dict", data := .dict #[] } }) F.kt_called_dict (F.kt_typeCall_dict_1 _) F.entry_dict_init (kt_code_dict_new _ ⟨rfl, rfl⟩) ?_
  rintro obj s₁ ⟨rfl, rfl⟩
  have hnew : (s.heap.push { cls := .type "dict", data := .dict #[] }).DictOf knd s.heap.objs.size [] := Heap.DictOf.new s.heap
  have up : ∀ b o, s.heap.get? b = some o → (s.heap.push { cls := .type "dict", data := .dict #[] }).get? b = some o := fun b o e => Heap.get?_push_of_some _ e
  have hl1 := up _ _ hl
  refine ⟨hnew.typeIs, F.args_dict_init_2 _ _, ?_⟩
  unfold Builtin.«dict.__init__»
  refine wpAny_bind ?_
  unfold Builtin.Dict.selfAndRest
  refine wpAny_bind (wpAny_notOrdered_dict hnew.typeIs ?_)
  show wpAny _ _ (pure (s.heap.objs.size, [Value.ref l])) _ _ _
  refine wpAny_pure ?_
  show wpAny _ _ (Builtin.Dict.updateFrom "dict.__init__" s.heap.objs.size (.ref l) [] .none) _ _ _
  unfold Builtin.Dict.updateFrom
  refine wpAny_bind (wpAny_typeOf (T := "list") ⟨_, hl1, rfl⟩ ?_)
  rw [if_pos (by decide)]
  refine wpAny_bind (getAttr?_list_keys hl1 hh fun h₂ tk₂ k₂ => ?_)
  rw [if_pos (show (none : Option Value).isNone = true from rfl)]
  refine wpAny_bind (wpAny_rule ?_)
  have hl2 := k₂ _ _ hl1
  have hLst : h₂.IsList l items := ⟨_, hl2, rfl, _, rfl⟩
  refine wpAny_bind (wpAny_pyIter_list hLst ?_)
  have up3 : ∀ b o, h₂.get? b = some o → (h₂.push { cls := .type "list_iterator", data := .fields #[.ref l, .int 0 0] }).get? b = some o := fun b o e => Heap.get?_push_of_some _ e
  have hD2 : h₂.DictOf knd s.heap.objs.size [] := by
    obtain ⟨o, es, ep, ho, r⟩ := hnew
    exact ⟨o, es, ep, k₂ _ _ ho, r⟩
  have hlD : l < s.heap.objs.size := Heap.lt_size hl
  have hDI : s.heap.objs.size < h₂.objs.size := by
    obtain ⟨o, es, ep, ho, r⟩ := hD2
    exact Heap.lt_size ho
  refine wpAny_pure ⟨plainId_quiet dpu_plain _, code_dpu_loop (A := A.in1) (knd := knd) (ps := ps) (l := l) (items := items) (d := s.heap.objs.size) (I := h₂.objs.size) hh (Nat.ne_of_lt (Nat.lt_trans hlD hDI)) (Nat.ne_of_lt hDI) (Nat.ne_of_gt hlD) hn hz (fun i a e => ?_) ps.length 0 _ _ _ (by omega) (Nat.zero_le _) ⟨⟨_, Heap.get?_push_size _ rfl, rfl, rfl⟩, hLst.push _⟩ (fun i p hp => ?_) ?_ fun h₃ tk₃ hk₃ hm₃ => ?_⟩
  · obtain ⟨p, hp⟩ : ∃ p, ps[i]? = some p := ⟨ps[i]'(by have := (Array.getElem?_eq_some_iff.mp e).1; omega), List.getElem?_eq_getElem _⟩
    obtain ⟨a', o, kk, c, e1, e2, _⟩ := hP i p hp
    rw [e] at e1
    cases e1
    have := Heap.lt_size e2
    exact ⟨Nat.ne_of_lt this, Nat.ne_of_lt (Nat.lt_trans this hDI)⟩
  · obtain ⟨a', o, kk, c, e1, e2, e3⟩ := hP i p hp
    exact ⟨a', o, kk, c, e1, up3 _ _ (k₂ _ _ (up _ _ e2)), e3⟩
  · obtain ⟨o, es, ep, ho, r⟩ := hD2
    exact ⟨o, es, ep, up3 _ _ ho, r⟩
  · exact ⟨rfl, h h₃ tk₃ _ hm₃ (Nat.le_refl _) fun b o e => hk₃ b o (Nat.ne_of_lt (Heap.lt_size e)) (Nat.ne_of_lt (Nat.lt_trans (Heap.lt_size e) hDI)) (up3 _ _ (k₂ _ _ (up _ _ e)))⟩
theorem dict_pairsN {h₀ : Heap} {L l : Addr} {m : Str → Option Value} {news : List (Addr × Obj)} {items : List Value} {c : Nat} {ps : List (K × Value)} {Q : Value → Shared → Prop} (hh : A.handled = none) (F : Fr h₀ L s.heap m) (N : News h₀ L s.heap news) (hbig : sysModules < h₀.objs.size) (hl : (l, listOf items.toArray c) ∈ news) (hn : items.length = ps.length) (hz : ps.length ≤ sizeLine)
    (hP : ∀ (i : Nat) (p : K × Value), ps[i]? = some p → ∃ (a : Addr) (kk : Value), items[i]? = some (.ref a) ∧ (a, tupO [kk, p.2]) ∈ news ∧ knd.is p.1 kk = true)
    (h : ∀ h' tk D o, Fr h₀ L h' m → News h₀ L h' ((D, o) :: news) → o.IsDictOf knd (ps.foldl (fun a p => stored a p.1 p.2) []) → (D == sysModules) = false → (∀ p ∈ news, p.1 < D) → Q (.ref D) { s with heap := h', toks := tk }) :
    wpAny (model prog w) A (call (.type "dict") [.ref l]) Q E s := by
  refine dict_pairs (items := items.toArray) (c := c) (ps := ps) (knd := knd) hh (N _ hl).1 (by simpa using hn) hz (fun i p hp => ?_) fun h' tk D hd hD k => ?_
  · obtain ⟨a, kk, e1, e2, e3⟩ := hP i p hp
    exact ⟨a, _, kk, 0, by simpa using e1, (N _ e2).1, rfl, rfl, e3⟩
  · obtain ⟨o, ho, hd'⟩ := Heap.dictOf_iff.mp hd
    have hg := F.above
    refine h h' tk D o (F.keeps k) (fun p hp => ?_) hd' ?_ (fun p hp => Nat.lt_of_lt_of_le (Heap.lt_size (N p hp).1) hD)
    · rcases List.mem_cons.mp hp with rfl | hp
      · exact ⟨ho, Nat.ne_of_gt (Nat.lt_of_lt_of_le F.ns.lt hD), Heap.get?_none_of_le (Nat.le_trans (Nat.le_trans F.above (Nat.le_of_lt F.ns.lt)) hD)⟩
      · exact N.grown k p hp
    · exact beq_false_of_ne fun e => Nat.lt_irrefl _ (e ▸ Nat.lt_of_lt_of_le hbig (Nat.le_trans (Nat.le_trans F.above (Nat.le_of_lt F.ns.lt)) hD))
end
section
open LCg
variable {prog : Program} {w : World} {K : Type} [DecidableEq K] {knd : KeyKind prog w K} {A : Around} {E : Value → Shared → Prop} {s : Shared} {h₀ : Heap} {L : Addr} {m : Str → Option Value} {env : Env}
theorem isAt {o : Obj} {kvs : List (K × Value)} (hd : o.IsDictOf knd kvs) : ∃ ep, ∀ (h : Heap) (d : Addr), h.get? d = some o → h.DictAt knd d kvs ep := by
  obtain ⟨es, ep, r⟩ := hd
  exact ⟨ep, fun h d ho => ⟨o, es, ho, r⟩⟩
/-- the source of a comprehension over a dict's keys -/
noncomputable def SrcDK (prog : Program) (w : World) (A : Around) (h₀ : Heap) (L : Addr) (m : Str → Option Value) (env : Env) (elt : PySem.Expr) (x : Str) (scope : Scope) (cl : List (Str × Addr)) (Fin : Shared → List Value → List (Addr × Obj) → Prop) (xv : Value) (s₁ : Shared) : Prop :=
  ∃ (d : Addr) (o : Obj) (kvs : List (Str × Value)) (news : List (Addr × Obj)), xv = .ref d ∧ A.handled = none ∧ Fr h₀ L s₁.heap m ∧ News h₀ L s₁.heap news ∧ (d, o) ∈ news ∧ o.IsDictOf (PySem.strKind prog w) kvs ∧ (d == sysModules) = false ∧ kvs.length ≤ sizeLine ∧
    ∀ g, CompRest prog w A h₀ L m env elt x scope cl { s₁ with heap := g } (fun nw => (d, o) ∈ nw) (fun i v => ∃ k x, kvs[i]? = some (k, x) ∧ (PySem.strKind prog w).is k v = true) (Fin { s₁ with heap := g }) kvs.length 0 [] news
theorem ListComp_DK {elt iter : PySem.Expr} {x : Str} {px : Pos} {scope : Scope} {cl : List (Str × Addr)} {pos : Pos} {Q : Value → Shared → Prop} (F₀ : Fr h₀ L s.heap m)
    (hclos : closureFor scope env = pure cl) (hcell : ∀ y ∈ scope.names, y.2 ≠ .cell) (hkind : scope.kind = .function)
    (hnames : ∀ y ∈ scope.names, y.2 = .local → scope.names.lookup y.1 = some .local) (hx : scope.names.lookup x = some .local)
    (h : wpAny (model prog w) A (eval iter env) (SrcDK prog w A h₀ L m env elt x scope cl (fun s₂ => FinE h₀ L m s₂ Q)) E s)
    (hs : ∀ x, foldedSetIterable iter env x = pure x := by intro _; rfl) :
    wpAny (model prog w) A (eval (.ListComp elt [⟨.Name x px, iter, [], 0⟩] scope pos) env) Q E s := by
  rw [eval_ListComp]
  refine wpAny_comprehension_free (use := none) rfl hs hclos hkind hnames (wpAny_mono h (fun xv s₁ h₁ => ?_) fun _ _ e => e)
  obtain ⟨d, o, kvs, news, rfl, hh, F, N, hm, hd, lo, hsz, R⟩ := h₁
  obtain ⟨ep, hat⟩ := isAt hd
  have hg := (N _ hm).1
  have hl := hat _ _ hg
  have hlt : d < s₁.heap.objs.size := Heap.lt_size hg
  refine wpAny_pyIter_dict lo hl ?_
  have up : ∀ b o, s₁.heap.get? b = some o → (s₁.heap.push { cls := .type "dict_keyiterator", data := .fields #[.ref d, .int 0 0, .int kvs.length 0, .int ep 0] }).get? b = some o := fun b o e => Heap.get?_push_of_some _ e
  refine block_U (Walks.dictKeys hh s₁.heap.objs.size d (Nat.ne_of_lt hlt) kvs ep) hsz (fun i h st => by obtain ⟨o, e, _⟩ := st.1; exact ⟨o, e⟩)
    (fun i h h' o' nw st e e' k N' S => ⟨by obtain ⟨o₂, q, r⟩ := st.1; rw [e] at q; cases q; exact ⟨_, e', r⟩, hat _ _ (N' _ S).1⟩) hcell hkind hx ⟨⟨_, Heap.get?_push_size _ rfl, rfl, rfl⟩, hl.push _⟩ (fun b hb => ?_)
    (F.keeps up) (N.grown up) (Nat.ne_of_lt F.ns.lt) (next_is_new F) (fun p hp => Nat.ne_of_lt (Heap.lt_size (N p hp).1)) hm (R _) ?_
  · show b < (s₁.heap.push _).objs.size
    rw [Heap.size_push]
    rcases List.mem_cons.mp hb with rfl | hb
    · exact Nat.lt_succ_self _
    · rw [List.mem_singleton.mp hb]; exact Nat.lt_succ_of_lt hlt
  · intro D C h tk m' ys news' F' N' o1 hn hC₀ hD₀ hCL hDL hCD offC fin
    refine ⟨m', hn, fun h'' hs'' => fin D h'' tk (F'.change hs'' hCL hC₀) (fun p hp => ?_) o1⟩
    refine ⟨hs''.extBut _ _ ?_ (N' p hp).1, (N' p hp).2⟩
    rcases List.mem_cons.mp hp with rfl | hp
    · exact Ne.symm hCD
    · exact offC p hp
end

end DictPPart
section NodeDPart
open PySem PySem.W PyProof.Rows PySem.Calls
noncomputable def NodeD (t : Tr) : Prop := ∀ {w : World} {mean : ExcName → Option Value} {mg mb : Str → Option Value} {dp un : Nat} {gd : Option (List Code)} {cn : Str} {cs : Scope} {a : Addr} {ccd : Value} {cl : List (Str × Addr)} {outer : List Env} {A₀ : Around} {base h₀ : Heap} {L : Addr} {m : Str → Option Value} {s : Shared} {E : Value → Shared → Prop} {v : Value} {fro : List (Addr × Obj)} {Q : Value → Shared → Prop} (B : Below A₀ base outer h₀) (F : Fr h₀ L s.heap m) (X : (hd.heap_1 w.params).In h₀) (T : Top vw (looseW vw lse) mean mg mb h₀) (hk : cs.kind = .function)
    (N : News h₀ L s.heap fro) (ht : TIn fro v t)
    (hd : dp + 2 * t.dep + 4 < 1000) (hu : un + 20 * t.dep + 100 < 9900)
    (ret : ∀ v' D h' tk', NIn D v' t → Later D fro → Fr h₀ L h' m → News h₀ L h' (D ++ fro) → Q v' { s with heap := h', toks := tk' }),
    wpAny (model (RowW.prog (OpenRow.toRowW (OpenLaw.row PySem.Challenge.rw_pb0420_01))) w) (ktrTop dp un gd cn cs L a ccd cl outer) (call (.ref 389) [v]) Q E s
theorem node_useD {t : Tr} (IH : NodeD t) {w : World} {mean : ExcName → Option Value} {mg mb : Str → Option Value} {dp un : Nat} {gd : Option (List Code)} {cn : Str} {cs : Scope} {a : Addr} {ccd : Value} {cl : List (Str × Addr)} {outer : List Env} {A₀ : Around} {base h₀ : Heap} {L : Addr} {m : Str → Option Value} {s : Shared} {E : Value → Shared → Prop} {v : Value} {fro : List (Addr × Obj)} {Q : Value → Shared → Prop} (B : Below A₀ base outer h₀) (F : Fr h₀ L s.heap m) (X : (hd.heap_1 w.params).In h₀) (T : Top vw (looseW vw lse) mean mg mb h₀) (hk : cs.kind = .function)
    (N : News h₀ L s.heap fro) (ht : TIn fro v t)
    (hd : dp + 2 * t.dep + 4 < 1000) (hu : un + 20 * t.dep + 100 < 9900)
    (ret : ∀ v' D h' tk', NIn D v' t → Later D fro → Fr h₀ L h' m → News h₀ L h' (D ++ fro) → Q v' { s with heap := h', toks := tk' }) :
    wpAny (model (RowW.prog (OpenRow.toRowW (OpenLaw.row PySem.Challenge.rw_pb0420_01))) w) (ktrTop dp un gd cn cs L a ccd cl outer) (call (.ref 389) [v]) Q E s := IH B F X T hk N ht hd hu ret
theorem node_callD (t : Tr) : NodeD t := by
  induction t with
  | num i =>
    intro w mean mg mb dp un gd cn cs a ccd cl outer A₀ base h₀ L m s E v fro Q B F X T hk N ht hd hu ret
    have hd9 : dp + 4 < 1000 := rmx hd
    have hu9 : un + 100 < 9900 := rmx hu
    revert X; k_fill; intro X
    cases ht
    refine wpAny_call ?_
    (show codeAny _ _ (Code.call _ ⟨[?x24_0], []⟩) _ _; k_dflt (refine' code_def (binds := [(Str.ofString "told", ?x24_0)]) ?k1 ?k2 ?k3 ?k4 ?k5 ?kA ?kF ?kK ?k6 ?k7 ?k8 ?k9 ?kB ?_ ?c2 ?c3 ?c4 ?c5; (case kA => exact rfl); (case kF => exact rfl); (case kK => first | exact rfl | assumption); (case k1 => k_asm); (case k2 => k_asm); (case k3 => k_asm); (case k4 => k_asm); (case k5 => k_asm); (case k6 => k_is); (case k7 => k_is); (case k8 => ktr_room); (case k9 => first | exact BindsTo.of_eq rfl | exact binds_K (by k_in) rfl (by k_is) rfl rfl rfl); (case c5 => decide); (case kB => exact locs rfl); (case c2 => exact rfl); (case c3 => exact rfl); (case c4 => exact rfl); k_whole; intro g' L' h' FG' F' N' B' X' T'; (try dsimp only); (try k_fold)))
    k_steps
    rename_i kF kN Tc kX
    exact ret _ [_, _] _ _ (NIn.num (.head _) (.tail _ (.head _))) (by krn_off) kF kN
  | nam i =>
    intro w mean mg mb dp un gd cn cs a ccd cl outer A₀ base h₀ L m s E v fro Q B F X T hk N ht hd hu ret
    have hd9 : dp + 4 < 1000 := rmx hd
    have hu9 : un + 100 < 9900 := rmx hu
    revert X; k_fill; intro X
    cases ht
    refine wpAny_call ?_
    (show codeAny _ _ (Code.call _ ⟨[?x25_0], []⟩) _ _; k_dflt (refine' code_def (binds := [(Str.ofString "told", ?x25_0)]) ?k1 ?k2 ?k3 ?k4 ?k5 ?kA ?kF ?kK ?k6 ?k7 ?k8 ?k9 ?kB ?_ ?c2 ?c3 ?c4 ?c5; (case kA => exact rfl); (case kF => exact rfl); (case kK => first | exact rfl | assumption); (case k1 => k_asm); (case k2 => k_asm); (case k3 => k_asm); (case k4 => k_asm); (case k5 => k_asm); (case k6 => k_is); (case k7 => k_is); (case k8 => ktr_room); (case k9 => first | exact BindsTo.of_eq rfl | exact binds_K (by k_in) rfl (by k_is) rfl rfl rfl); (case c5 => decide); (case kB => exact locs rfl); (case c2 => exact rfl); (case c3 => exact rfl); (case c4 => exact rfl); k_whole; intro g' L' h' FG' F' N' B' X' T'; (try dsimp only); (try k_fold)))
    k_steps
    rename_i kF kN Tc kX
    exact ret _ [_, _] _ _ (NIn.nam (.head _) (.tail _ (.head _))) (by krn_off) kF kN
  | neg t ih =>
    intro w mean mg mb dp un gd cn cs a ccd cl outer A₀ base h₀ L m s E v fro Q B F X T hk N ht hd hu ret
    have hd9 : dp + 4 < 1000 := rmx hd
    have hu9 : un + 100 < 9900 := rmx hu
    revert X; k_fill; intro X
    simp only [Tr.dep] at hd hu
    have hd8 : dp + 1 + 2 * t.dep + 4 < 1000 := by omega
    have hu8 : un + 3 + 20 * t.dep + 100 < 9900 := by omega
    cases ht
    rename_i a1 k1 v1 hv1 ha1
    refine wpAny_call ?_
    (show codeAny _ _ (Code.call _ ⟨[?x26_0], []⟩) _ _; k_dflt (refine' code_def (binds := [(Str.ofString "told", ?x26_0)]) ?k1 ?k2 ?k3 ?k4 ?k5 ?kA ?kF ?kK ?k6 ?k7 ?k8 ?k9 ?kB ?_ ?c2 ?c3 ?c4 ?c5; (case kA => exact rfl); (case kF => exact rfl); (case kK => first | exact rfl | assumption); (case k1 => k_asm); (case k2 => k_asm); (case k3 => k_asm); (case k4 => k_asm); (case k5 => k_asm); (case k6 => k_is); (case k7 => k_is); (case k8 => ktr_room); (case k9 => first | exact BindsTo.of_eq rfl | exact binds_K (by k_in) rfl (by k_is) rfl rfl rfl); (case c5 => decide); (case kB => exact locs rfl); (case c2 => exact rfl); (case c3 => exact rfl); (case c4 => exact rfl); k_whole; intro g' L' h' FG' F' N' B' X' T'; (try dsimp only); (try k_fold)))
    k_steps
    (refine stop_in ?_; k_dflt (refine' node_useD ?IH ?B ?F ?X ?T ?hk ?N ?ht ?hd ?hu ?_; (case B => k_asm); (case F => k_asm); (case X => k_asm); (case T => k_asm); (case hk => first | exact rfl | assumption); (case N => k_asm); (case ht => first | assumption | exact TIn.mono (by assumption) (by walk_at "MEM")); (case IH => assumption); (case hd => k_room); (case hu => k_units)))
    intro v2 D1 h1 tk1 hn1 hl1 F1 N1
    try k_sweep
    k_steps
    rename_i x d F8 N8 l8 l9 q8 kF kN Tc kX
    exact ret _ ((_, _) :: (_, _) :: D1) _ _ (NIn.neg (.head _) (.tail _ (.head _)) (hn1.mono (by walk_at "MEM"))) (by krn_off) kF kN
  | bin o l r ihl ihr =>
    intro w mean mg mb dp un gd cn cs a ccd cl outer A₀ base h₀ L m s E v fro Q B F X T hk N ht hd hu ret
    have hd9 : dp + 4 < 1000 := rmx hd
    have hu9 : un + 100 < 9900 := rmx hu
    revert X; k_fill; intro X
    simp only [Tr.dep] at hd hu
    have hd8 : dp + 1 + 2 * l.dep + 4 < 1000 := by omega
    have hu8 : un + 3 + 20 * l.dep + 100 < 9900 := by omega
    have hd7 : dp + 1 + 2 * r.dep + 4 < 1000 := by omega
    have hu7 : un + 3 + 20 * r.dep + 100 < 9900 := by omega
    cases ht
    rename_i a1 k1 v1 v2 hv1 hv2 ha1
    refine wpAny_call ?_
    (show codeAny _ _ (Code.call _ ⟨[?x27_0], []⟩) _ _; k_dflt (refine' code_def (binds := [(Str.ofString "told", ?x27_0)]) ?k1 ?k2 ?k3 ?k4 ?k5 ?kA ?kF ?kK ?k6 ?k7 ?k8 ?k9 ?kB ?_ ?c2 ?c3 ?c4 ?c5; (case kA => exact rfl); (case kF => exact rfl); (case kK => first | exact rfl | assumption); (case k1 => k_asm); (case k2 => k_asm); (case k3 => k_asm); (case k4 => k_asm); (case k5 => k_asm); (case k6 => k_is); (case k7 => k_is); (case k8 => ktr_room); (case k9 => first | exact BindsTo.of_eq rfl | exact binds_K (by k_in) rfl (by k_is) rfl rfl rfl); (case c5 => decide); (case kB => exact locs rfl); (case c2 => exact rfl); (case c3 => exact rfl); (case c4 => exact rfl); k_whole; intro g' L' h' FG' F' N' B' X' T'; (try dsimp only); (try k_fold)))
    k_steps
    (refine stop_in ?_; k_dflt (refine' node_useD ?IH ?B ?F ?X ?T ?hk ?N ?ht ?hd ?hu ?_; (case B => k_asm); (case F => k_asm); (case X => k_asm); (case T => k_asm); (case hk => first | exact rfl | assumption); (case N => k_asm); (case ht => first | assumption | exact TIn.mono (by assumption) (by walk_at "MEM")); (case IH => assumption); (case hd => k_room); (case hu => k_units)))
    intro n1 D1 h1 tk1 hn1 hl1 F1 N1
    try k_sweep
    k_steps
    (refine stop_in ?_; k_dflt (refine' node_useD ?IH ?B ?F ?X ?T ?hk ?N ?ht ?hd ?hu ?_; (case B => k_asm); (case F => k_asm); (case X => k_asm); (case T => k_asm); (case hk => first | exact rfl | assumption); (case N => k_asm); (case ht => first | assumption | exact TIn.mono (by assumption) (by walk_at "MEM")); (case IH => assumption); (case hd => k_room); (case hu => k_units)))
    intro n2 D2 h2 tk2 hn2 hl2 F2 N2
    try k_sweep
    k_steps
    rename_i kF kN Tc kX
    exact ret _ ((_, _) :: (_, _) :: (D2 ++ D1)) _ _ (NIn.bin o (.head _) (.tail _ (.head _)) (hn1.mono (by walk_at "MEM")) (hn2.mono (by walk_at "MEM"))) (by krn_off) kF (app3 kN)

end NodeDPart
section HeardPart
open PySem PySem.W PyProof.Rows PySem.Calls
inductive GIn (fro : List (Addr × Obj)) : List Value → List (Str × Tr) → Prop
  | nil : GIn fro [] []
  | cons {a x tx nv t vs ws} : (a, tupO [.str x tx, nv]) ∈ fro → TIn fro nv t → GIn fro vs ws → GIn fro (.ref a :: vs) ((x, t) :: ws)
theorem GIn.mono {f g : List (Addr × Obj)} {vs : List Value} {ws : List (Str × Tr)} (h : GIn f vs ws) (s : ∀ p ∈ f, p ∈ g) : GIn g vs ws := by
  induction h with
  | nil => exact .nil
  | cons a b _ ih => exact .cons (s _ a) (b.mono s) ih
theorem GIn.length {fro : List (Addr × Obj)} {vs : List Value} {ws : List (Str × Tr)} (h : GIn fro vs ws) : vs.length = ws.length := by
  induction h with
  | nil => rfl
  | cons _ _ _ ih => simp [ih]
theorem gIn_get {fro : List (Addr × Obj)} {vs : List Value} {ws : List (Str × Tr)} (h : GIn fro vs ws) : ∀ {i : Nat} {v : Value}, vs[i]? = some v → ∃ a x tx nv t, v = .ref a ∧ ws[i]? = some (x, t) ∧ (a, tupO [.str x tx, nv]) ∈ fro ∧ TIn fro nv t := by
  induction h with
  | nil => intro i v h; simp at h
  | cons a b _ ih =>
    intro i v h
    cases i with
    | zero => simp at h; subst h; exact ⟨_, _, _, _, _, rfl, rfl, a, b⟩
    | succ i => exact ih (by simpa using h)
theorem AIn.part {f g : List (Addr × Obj)} {v : Value} {a : Val} {oF : Obj} {c : Option Value} (h : AIn f v a) (hF : oF.data = .cell c) (s : ∀ p ∈ f, p ∈ g ∨ p.2 = oF) : AIn g v a := by
  cases h with
  | mk h k =>
    refine .mk ((s _ h).resolve_right fun e => ?_) ((s _ k).resolve_right fun e => ?_)
    · rw [← e] at hF; cases hF
    · rw [← e] at hF; cases hF
theorem rel2_at {β : Type} {R : Value → β → Prop} {kvs : List (Str × Value)} {bs : List (Str × β)} (h : Rel2 R kvs bs) : ∀ {i : Nat} {k : Str} {x : Value}, kvs[i]? = some (k, x) → ∃ b, bs[i]? = some (k, b) ∧ R x b := by
  induction h with
  | nil => intro i k x h; simp at h
  | cons a _ ih =>
    intro i k x h
    cases i with
    | zero => simp at h; obtain ⟨rfl, rfl⟩ := h; exact ⟨_, rfl, a⟩
    | succ i => exact ih (by simpa using h)
theorem dict_nodup {prog : Program} {w : World} {o : Obj} {kvs : List (Str × Value)} (h : o.IsDictOf (PySem.strKind prog w) kvs) : (kvs.map (·.1)).Nodup := by
  obtain ⟨_, _, _, _, _, _, h⟩ := h; exact h
noncomputable def TOut (fro : List (Addr × Obj)) (v : Value) (z : Val) : Prop := ∃ a t1 t2 t3, v = .ref a ∧ (a, tupO [.int z.w t1, .str (optS z.p) t2, .str (optS z.m) t3]) ∈ fro
theorem tup2_inj {h₀ h : Heap} {L a : Addr} {news : List (Addr × Obj)} {v₁ v₂ u₁ u₂ : Value} (N : News h₀ L h news) (h1 : (a, tupO [v₁, v₂]) ∈ news) (h2 : (a, tupO [u₁, u₂]) ∈ news) : v₁ = u₁ ∧ v₂ = u₂ := by
  have e := Option.some.inj ((N _ h1).1.symm.trans (N _ h2).1)
  have e2 : ([v₁, v₂].toArray : Array Value) = [u₁, u₂].toArray := by injection e with _ _ e3 _; injection e3
  have e3 : [v₁, v₂] = [u₁, u₂] := congrArg Array.toList e2
  injection e3 with e4 e5
  injection e5 with e6 _
  exact ⟨e4, e6⟩
theorem compEnd_later {h₀ : Heap} {L I C D : Addr} {m : Str → Option Value} {s₁ : Shared} {oI oC oD : Obj} {S : List (Addr × Obj) → Prop} {rest : Value → List (Addr × Obj) → Prop} {y : Value} {h' : Heap} {tk : Nat} {news : List (Addr × Obj)} (T : List (Addr × Obj))
    (F : Fr h₀ L h' m) (N : News h₀ L h' (T ++ ((I, oI) :: (C, oC) :: (D, oD) :: news))) (lt : Later T ((I, oI) :: (C, oC) :: (D, oD) :: news)) (off : LCg.Off3 I C D news) (hS : S (T ++ news)) (r : rest y (T ++ news)) :
    LCg.CompEnd h₀ L m s₁ I oI C oC D oD S rest y { s₁ with heap := h', toks := tk } := by
  refine LCg.CompEnd.intro F N (T ++ news) (by walk_at "MEM") (LCg.Off3.of fun p hp => ?_) hS r
  rcases List.mem_append.mp hp with hp | hp
  · exact ⟨lt.ne (.head _) p hp, lt.ne (.tail _ (.head _)) p hp, lt.ne (.tail _ (.tail _ (.head _))) p hp⟩
  · exact off.mem p hp
theorem TOut.mono {f g : List (Addr × Obj)} {v : Value} {z : Val} (h : TOut f v z) (s : ∀ p ∈ f, p ∈ g) : TOut g v z := by
  obtain ⟨a, t1, t2, t3, e, h⟩ := h; exact ⟨a, t1, t2, t3, e, s _ h⟩
inductive Outs (fro : List (Addr × Obj)) : List Value → List (Str × Val) → Prop
  | nil : Outs fro [] []
  | cons {a x tx v z vs ws} : (a, tupO [.str x tx, v]) ∈ fro → TOut fro v z → Outs fro vs ws → Outs fro (.ref a :: vs) ((x, z) :: ws)
theorem Outs.mono {f g : List (Addr × Obj)} {vs : List Value} {ws : List (Str × Val)} (h : Outs f vs ws) (s : ∀ p ∈ f, p ∈ g) : Outs g vs ws := by
  induction h with
  | nil => exact .nil
  | cons a b _ ih => exact .cons (s _ a) (b.mono s) ih
theorem Outs.append {fro : List (Addr × Obj)} {vs us : List Value} {ws zs : List (Str × Val)} (h : Outs fro vs ws) (k : Outs fro us zs) : Outs fro (vs ++ us) (ws ++ zs) := by
  induction h with
  | nil => exact k
  | cons a b _ ih => exact .cons a b ih
theorem Outs.pairs {fro : List (Addr × Obj)} {vs : List Value} {ws : List (Str × Val)} (h : Outs fro vs ws) : ∃ ps : List (Str × Value), Rel2 (TOut fro) ps ws ∧ ps.length = vs.length ∧
    ∀ (i : Nat) (p : Str × Value), ps[i]? = some p → ∃ (a : Addr) (t : Tok), vs[i]? = some (.ref a) ∧ (a, tupO [.str p.1 t, p.2]) ∈ fro := by
  induction h with
  | nil => exact ⟨[], .nil, rfl, fun i p h => by simp at h⟩
  | @cons a x tx v z vs ws h1 h2 _ ih =>
    obtain ⟨ps, r, l, k⟩ := ih
    refine ⟨(x, v) :: ps, .cons h2 r, by simp [l], fun i p hp => ?_⟩
    cases i with
    | zero => simp at hp; subst hp; exact ⟨_, _, rfl, h1⟩
    | succ i => exact k i p (by simpa using hp)
theorem stored_fold : ∀ (ps acc : List (Str × Value)), ((acc ++ ps).map (·.1)).Nodup → ps.foldl (fun a p => stored a p.1 p.2) acc = acc ++ ps
  | [], acc, _ => by simp
  | p :: ps, acc, h => by
    have hn : p.1 ∉ acc.map (·.1) := by
      intro hm
      rw [List.map_append, List.map_cons, List.nodup_append] at h
      exact h.2.2 _ hm _ (.head _) rfl
    have e : stored acc p.1 p.2 = acc ++ [p] := by
      unfold stored
      rw [if_neg]
      intro hc
      obtain ⟨q, hq, he⟩ := List.any_eq_true.mp hc
      exact hn (by rw [← of_decide_eq_true he]; exact List.mem_map_of_mem hq)
    rw [List.foldl_cons, e, stored_fold ps (acc ++ [p]) (by simpa using h)]
    simp
local macro_rules | `(tactic| walk_at "eval ListComp") => `(tactic| (k_here; (with_reducible show wpAny _ _ (eval (Expr.ListComp _ [Comprehension.mk (Expr.Name _ _) _ [] _] _ _) _) _ _ _); k_dflt (refine ListComp_DK (F₀ := by k_asm) (by with_unfolding_all rfl) (by decide) (by rfl) (by decide) (by rfl) ?_)))
local macro_rules | `(tactic| walk_at $k) => stopAt ["SrcDK"] k
/-- rows made so far -/
inductive HeR (base : List (Addr × Obj)) (rws : List (Str × Tr)) (i : Nat) (ys : List Value) (news₁ : List (Addr × Obj)) : Prop
  | mk (D : List (Addr × Obj)) (e : news₁ = D ++ base) (lD : Later D base) (h : RIn (D ++ base) ys (rws.take i)) : HeR base rws i ys news₁
/-- results told so far -/
inductive HeO (base : List (Addr × Obj)) (fdv : List (Str × Val)) (i : Nat) (ys : List Value) (news₁ : List (Addr × Obj)) : Prop
  | mk (D : List (Addr × Obj)) (e : news₁ = D ++ base) (lD : Later D base) (h : Outs (D ++ base) ys (fdv.take i)) : HeO base fdv i ys news₁
theorem heard_call {w : World} {mean : ExcName → Option Value} {mg mb : Str → Option Value} {dp un : Nat} {gd : Option (List Code)} {cn : Str} {cs : Scope} {a : Addr} {ccd : Value} {cl : List (Str × Addr)} {A₀ : Around} {h₀ : Heap} {L : Addr} {m : Str → Option Value} {s : Shared} {E : Value → Shared → Prop}
    {rl : Addr} {rvs : List Value} {rn : Nat} {rws : List (Str × Tr)} {M : Int} {news : List (Addr × Obj)} {Q : Value → Shared → Prop}
    (B : Below A₀ h₀ [] h₀) (F : Fr h₀ L s.heap m) (X : (hd.heap_1 w.params).In h₀) (T : Top vw (looseW vw lse) mean mg mb h₀) (hk : cs.kind = .function)
    (N : News h₀ L s.heap news) (hl : (rl, listOf rvs.toArray rn) ∈ news) (hr : GIn news rvs rws) (hz : rws.length ≤ 8) (hR : (rws.map (·.1)).Nodup → RwOk M rws) (hlx : ∀ p ∈ rws, p.1.length ≤ 1000) (hdt : ∀ p ∈ rws, p.2.dep ≤ 2)
    (hd : dp + 200 < 1000) (hu : un + 4000 < 9900)
    (ret0 : ∀ h' tk', (¬ (rws.map (·.1)).Nodup ∨ ∃ p ∈ rws, ¬ Has rws (.nam p.1)) → Fr h₀ L h' m → News h₀ L h' news → Q .none { s with heap := h', toks := tk' })
    (ret1 : ∀ fd fo kvs fdv D h' tk', (rws.map (·.1)).Nodup → FdOk rws fdv → (∀ x ∈ rws.map (·.1), x ∈ fdv.map (·.1)) → fo.IsDictOf (PySem.strKind (RowW.prog (OpenRow.toRowW (OpenLaw.row PySem.Challenge.rw_pb0420_01))) w) kvs → Rel2 (TOut (D ++ news)) kvs fdv → (fd == sysModules) = false → (fd, fo) ∈ D → Later D news → Fr h₀ L h' m → News h₀ L h' (D ++ news) → Q (.ref fd) { s with heap := h', toks := tk' }) :
    wpAny (model (RowW.prog (OpenRow.toRowW (OpenLaw.row PySem.Challenge.rw_pb0420_01))) w) (ktrTop dp un gd cn cs L a ccd cl []) (call (.ref 408) [.ref rl]) Q E s := by
  have hbase := X
  revert X; k_fill; intro X
  have hrl := hr.length
  refine wpAny_call ?_
  (k_dflt (refine' code_defSC (binds := [(Str.ofString "rows", .ref rl)]) ?k1 ?k2 ?k3 ?k4 ?k5 ?kA ?kF ?kK ?k6 ?k7 ?k8 ?k9 ?kB ?kD ?_ ?c2 ?c3 ?c4; (case kA => exact rfl); (case kF => exact rfl); (case kK => first | exact rfl | assumption); (case k1 => k_asm); (case k2 => k_asm); (case k3 => k_asm); (case k4 => k_asm); (case k5 => k_asm); (case k6 => k_is); (case k7 => k_is); (case k8 => ktr_room); (case k9 => first | exact BindsTo.of_eq rfl | exact binds_K (by k_in) rfl (by k_is) rfl rfl rfl); (case kB => exact rfl); (case kD => decide +kernel); (case c2 => exact rfl); (case c3 => exact rfl); (case c4 => exact rfl); k_whole; intro g' L' h' tk' cells' FG' F' N' Y' B' X' T' l1 KD; (try k_lt l1); k_cells Y'; (try simp only [List.cons_append, List.nil_append] at N'); (try dsimp only); (try k_lift B'); (try k_fold)))
  have hL0 : ∀ p ∈ news, p.1 ≠ L' := ne_lt l1
  have hL1 : ∀ p ∈ news, p.1 ≠ L' + 1 := ne_lt fun p hp => Nat.lt_succ_of_lt (l1 p hp)
  k_steps
  refine PySem.wpAny_Try_except ?_
  k_steps
  rename_i d1 _ o1 lo1 hs1 fs1 hi1 fi1 l2 T1 _ l3 _ _ _ oF F1 N1 dF _ _ _
  have hd1 : ∀ p ∈ news, p.1 ≠ d1 := allLt_ne l2.2
  have N2 := news_sub N1 (l' := (d1, o1) :: (L' + 1, oF) :: news) (by walk_at "MEM")
  refine stop_in (LCp.SrcLP.ledger rfl F1 N2 (by k_mem) (by simp [sizeLine_eq]; omega) fun g9 => ?_)
  refine compP (HeR ((d1, o1) :: (L' + 1, oF) :: news) rws) ?_ ?_ ?_ _ 0 [] _ (Nat.zero_add _) ⟨[], rfl, .nil, .nil⟩
  · rintro i v ys news₁ hi hv ⟨D, rfl, _, _⟩
    obtain ⟨a, x, tx, nv, t, rfl, hp, e1, e2⟩ := gIn_get hr (show rvs[i]? = some v by simpa using hv)
    exact ⟨a, _, _, rfl, by k_mem⟩
  · rintro i t1 v₁ v₂ ys news₁ I oI C oC D2 m₂ h tk E' hi hv ⟨D, rfl, lD, hys⟩ ht hn hx hx2 F3 N3 o3 hne
    obtain ⟨a5, x, tx, nv, t, e0, hp, e1, e2⟩ := gIn_get hr (show rvs[i]? = some (.ref t1) by simpa using hv)
    cases e0
    have e4 := tup2_inj N3 (a := t1) (v₁ := v₁) (v₂ := v₂) (u₁ := .str x tx) (u₂ := nv) (by k_mem) (by k_mem)
    obtain ⟨rfl, rfl⟩ := e4
    have IH : NodeD t := node_callD t
    have hdt' := hdt _ (List.mem_of_getElem? hp)
    k_steps
    (refine stop_in ?_; k_dflt (refine' node_useD ?IH ?B ?F ?X ?T ?hk ?N ?ht ?hd ?hu ?_; (case B => k_asm); (case F => k_asm); (case X => k_asm); (case T => k_asm); (case hk => first | exact rfl | assumption); (case N => k_asm); (case ht => first | assumption | exact TIn.mono (by assumption) (by walk_at "MEM")); (case IH => assumption); (case hd => k_room); (case hu => k_units)))
    intro v5 D5 h5 tk5 hn5 l5 F5 N5
    k_steps
    rename_i T7 h7 F7 N7 l7
    have N8 : News g' L' h7 (((T7, tupO [.str x tx, v5, .none]) :: D5) ++ ((I, oI) :: (C, oC) :: (D2, LCg.lst ys) :: (D ++ ((d1, o1) :: (L' + 1, oF) :: news)))) := N7
    have lT : Later ((T7, tupO [.str x tx, v5, .none]) :: D5) ((I, oI) :: (C, oC) :: (D2, LCg.lst ys) :: (D ++ ((d1, o1) :: (L' + 1, oF) :: news))) := Later.consN (fun p hp => Nat.ne_of_lt (l7 p (List.mem_append_right _ hp))) l5
    refine stop_in (compEnd_later _ F7 N8 lT o3 (.inr ⟨_, by k_mem, rfl, _, rfl⟩) ⟨((T7, tupO [.str x tx, v5, .none]) :: D5) ++ D, by rw [List.append_assoc], (lT.weak (by walk_at "MEM")).app lD, ?_⟩)
    rw [List.append_assoc, List.take_add_one, hp]
    exact (hys.mono (sub_right (sub_refl _))).append (.cons (.head _) (hn5.mono (by walk_at "MEM")) .nil)
  · rintro ys news₁ ⟨D, rfl, lD, hys⟩ yl h2 tk2 F8 N8 o8
    try dsimp only
    k_steps
    have hys' : RIn ((yl, LCg.lst ys) :: (D ++ ((d1, o1) :: (L' + 1, oF) :: news))) ys rws := by
      have e : rws.take (rvs.toArray.size) = rws := by simp [hrl]
      rw [e] at hys
      exact hys.mono (sub_tail (sub_refl _))
    refine stop_in ?_
    k_dflt (refine' solve_call (M := M) (rl := yl) (rvs := ys) (rws := rws) ?B ?F ?X ?T ?hk ?N ?hl ?hr ?hz ?hR ?hlx ?hd ?hu ?ret ?fly; (case B => k_asm); (case F => k_asm); (case X => k_asm); (case T => k_asm); (case hk => first | exact rfl | assumption); (case N => k_asm); (case hl => exact .head _); (case hr => exact hys'); (case hz => exact hz); (case hR => exact hR); (case hlx => exact hlx); (case hd => k_room); (case hu => k_units))
    case fly =>
      intro hbad e9 g9 h9 tk9 F9 R9 U9
      with_unfolding_all refine' caught_X R9 ?F9 ?K9 ?U9 ?XB ?TB ?D9 ?T9 ?ex ?q ?k
      (case F9 => exact F9); (case K9 => exact B'); (case U9 => exact U9); (case XB => exact hbase); (case TB => exact T); (case D9 => exact KD); (case T9 => exact KtsTurn.refl); (case ex => k_is); (case q => with_unfolding_all rfl)
      clear F9 R9 U9 X' T' B' KD F8 N8 F1 N1 N2
      intro h6 g6 tt6 F6 N6 B6 X6 T6 D6
      k_steps
      exact ret0 _ _ hbad (by assumption) (news_sub (by assumption) (by walk_at "MEM"))
    case ret =>
      intro fd fo kvs fdv D4 h4 tk4 hnd hfd hall hdict hrel hsys hfm l4 F4 N4
      have hcell : ∀ p ∈ D4 ++ ((yl, LCg.lst ys) :: (D ++ ((d1, o1) :: news))), p.1 ≠ L' + 1 := by
        have a1 : ∀ p ∈ D4, p.1 ≠ L' + 1 := l4.ne (c := L' + 1) (o := oF) (by k_mem)
        have a2 : ∀ p ∈ D, p.1 ≠ L' + 1 := lD.ne (c := L' + 1) (o := oF) (by k_mem)
        have a3 : yl ≠ L' + 1 := Ne.symm (off1_ne o8 (L' + 1, oF) (by k_mem))
        have a4 : d1 ≠ L' + 1 := Nat.ne_of_gt l2.1
        kp_flats
      have N5 := news_sub N4 (l' := (L' + 1, oF) :: (D4 ++ ((yl, LCg.lst ys) :: (D ++ ((d1, o1) :: news))))) (by walk_at "MEM")
      clear N4 N8 N2 N1
      k_steps
      rename_i h7 o7 F7 N7 d7 _
      have hkl : kvs.length ≤ sizeLine := by
        have e := hrel.length
        have := hfd.len
        simp [sizeLine_eq]; omega
      have hndk := dict_nodup hdict
      have hyl : ∀ p ∈ news, p.1 ≠ yl := fun p hp => off1_ne o8 p (by k_mem)
      have hD0 : Later (D4 ++ ((yl, LCg.lst ys) :: (D ++ [(d1, o1)]))) news := by krn_off
      have hrel' := hrel.mono fun v b h => AIn.part (g := D4 ++ ((yl, LCg.lst ys) :: (D ++ ((d1, o1) :: news)))) h dF (fun p hp => by
        simp only [List.mem_append, List.mem_cons] at hp ⊢
        rcases hp with h | h | h | h | h | h
        · simp [h]
        · simp [h]
        · simp [h]
        · simp [h]
        · right; rw [h]
        · simp [h])
      clear hrel
      refine stop_in ⟨fd, fo, kvs, _, rfl, rfl, F7, N7, by k_mem, hdict, hsys, hkl, fun g10 => ?_⟩
      refine compU (HeO ((L' + 1, o7) :: (D4 ++ ((yl, LCg.lst ys) :: (D ++ ((d1, o1) :: news))))) fdv) ?_ ?_ _ 0 [] _ (Nat.zero_add _) ⟨[], rfl, .nil, .nil⟩
      · rintro i v ys₂ news₁ I oI C oC D2 m₂ h tk E' hi hv ⟨D6, rfl, l6, hys2⟩ hn hx F3 N3 o3 hne
        obtain ⟨k, x, e1, e2⟩ := hv
        obtain ⟨tk1, rfl⟩ := Value.isStrOf_shape e2
        obtain ⟨z, e3, hz1⟩ := rel2_at hrel' e1
        have e4 : valueAt kvs k = some x := lk_of_mem hndk (List.mem_of_getElem? e1)
        have hz3 : AIn ((I, oI) :: (C, oC) :: (D2, LCg.lst ys₂) :: (D6 ++ ((L' + 1, o7) :: (D4 ++ ((yl, LCg.lst ys) :: (D ++ ((d1, o1) :: news))))))) x z := hz1.mono (by walk_at "MEM")
        cases hz1
        rename_i h1x h2x
        k_steps
        refine stop_in ?_
        k_dflt (refine' afftold_call ?B ?F ?X ?T ?hk ?N hz3 ?hd ?hu ?_; (case B => k_asm); (case F => k_asm); (case X => k_asm); (case T => k_asm); (case hk => first | exact rfl | assumption); (case N => k_asm); (case hd => k_room); (case hu => k_units))
        intro d5 t5a t5b t5c h5 tk5 l5 F5 N5
        k_steps
        rename_i T7 h8 F8 N8 l8
        try dsimp only at N8
        have lT : Later ((T7, tupO [.str k tk1, .ref d5]) :: [(d5, _)]) ((I, oI) :: (C, oC) :: (D2, LCg.lst ys₂) :: (D6 ++ ((L' + 1, o7) :: (D4 ++ ((yl, LCg.lst ys) :: (D ++ ((d1, o1) :: news))))))) := Later.cons (allLt_all l8.2) l5
        refine stop_in (compEnd_later ((T7, tupO [.str k tk1, .ref d5]) :: [(d5, _)]) F8 N8 lT o3 (by k_mem) ⟨((T7, tupO [.str k tk1, .ref d5]) :: [(d5, _)]) ++ D6, by rw [List.append_assoc], (lT.weak (by walk_at "MEM")).app l6, ?_⟩)
        rw [List.append_assoc, List.take_add_one, e3]
        exact (hys2.mono (sub_right (sub_refl _))).append (.cons (.head _) ⟨_, _, _, _, rfl, by k_mem⟩ .nil)
      · rintro ys₂ news₁ ⟨D6, rfl, l6, hys2⟩ yl2 h12 tk12 F12 N12 o12
        try dsimp only
        k_steps
        obtain ⟨ps, hps, hpl, hpt⟩ := hys2.pairs
        have hnp : (ps.map (·.1)).Nodup := by
          rw [hps.keys, List.map_take]
          exact (List.take_sublist _ _).nodup hfd.nodup
        refine dict_pairsN (knd := PySem.strKind (RowW.prog (OpenRow.toRowW (OpenLaw.row PySem.Challenge.rw_pb0420_01))) w) (items := ys₂) (c := _) (ps := ps) rfl F12 N12 ?_ (.head _) hpl.symm ?_ (fun i p hp => ?_) ?_
        · exact Nat.lt_trans (by decide) (Heap.lt_size (X' 408 _ (by with_unfolding_all rfl)))
        · have e1 := hps.length
          have := hfd.len
          rw [List.length_take] at e1
          simp [sizeLine_eq]; omega
        · obtain ⟨a9, t9, e1, e2⟩ := hpt i p hp
          exact ⟨a9, _, e1, .tail _ e2, by simp [PySem.strKind, Value.isStrOf]⟩
        · intro h13 tk13 D13 o13 F13 N13 hd13 ls13 l13
          rw [stored_fold ps [] (by simpa using hnp), List.nil_append] at hd13
          rw [hrel'.length, List.take_length] at hps
          have lD13 : Later ((D13, o13) :: (D6 ++ ((L' + 1, o7) :: (D4 ++ ((yl, LCg.lst ys) :: (D ++ [(d1, o1)])))))) news :=
            Later.consN (fun p hp => Nat.ne_of_lt (l13 p (by k_mem))) ((l6.weak (by walk_at "MEM")).app (Later.consN hL1 hD0))
          k_steps
          refine ret1 _ _ ps fdv ((D13, o13) :: (D6 ++ ((L' + 1, o7) :: (D4 ++ ((yl, LCg.lst ys) :: (D ++ [(d1, o1)])))))) _ _ hnd hfd hall hd13 (hps.mono fun v b h => h.mono ?_) ls13 (.head _) lD13 (by assumption) (news_sub (by assumption) ?_)
          · simp only [List.cons_append, List.append_assoc, List.nil_append]; walk_at "MEM"
          · simp only [List.cons_append, List.append_assoc, List.nil_append]; walk_at "MEM"

end HeardPart
section LawRPart
open PySem PySem.W PyProof.Rows PySem.Calls
section
variable {prog : Program} {w : World} {A : Around} {E : Value → Shared → Prop} {s : Shared} {h₀ : Heap} {env : Env}
/-- a for over range(b), keep: an object that stays -/
theorem forS_range {σ : Type} {r l : Addr} {lo : Obj} {b : Int} {n : Nat} {t u v : Tok} {x : Str} {body : List Stmt} {Q : Flow → Shared → Prop} {m₀ : Str → Option Value} {news : List (Addr × Obj)} (mk : (Str → Option Value) → σ → Str → Option Value) (J : Nat → σ → List (Addr × Obj) → Prop) {a₀ : σ} (hh : A.handled = none)
    (F : Fr h₀ env.locals s.heap m₀) (hs : mk m₀ a₀ = m₀) (N : News h₀ env.locals s.heap news) (hl : (l, lo) ∈ news) (hr : IsRange s.heap r 0 b 1 t u v) (hsm : Builtin.Range.small 0 b 1 = true) (hn : Builtin.Range.rangeSize 0 b 1 = ((n : Nat) : Int)) (hj : J 0 a₀ news)
    (turn : ∀ i t₁ a news₁ I io h tk, i < n → J i a news₁ → (l, lo) ∈ news₁ → (∀ p ∈ news₁, p.1 ≠ I) → Fr h₀ env.locals h (fun y => if y = x then some (.int (i : Int) t₁) else mk m₀ a y) → News h₀ env.locals h ((I, io) :: news₁) →
      wpAny (model prog w) A (execs body env) (TStep h₀ env.locals I io (l, lo) mk m₀ (J (i + 1)) { s with heap := h, toks := tk }) E { s with heap := h, toks := tk })
    (done : ∀ a news₁ h tk, J n a news₁ → (l, lo) ∈ news₁ → Fr h₀ env.locals h (mk m₀ a) → News h₀ env.locals h news₁ → Q .next { s with heap := h, toks := tk }) :
    wpAny (model prog w) A (pyIter (.ref r)) (fun it s₂ => LoopAtV prog w A h₀ env x body Q E it s₂) E s := by
  refine wpAny_pyIter_range hr hsm ?_
  have W := (LCg.range_walks (prog := prog) (w := w) (I := s.heap.objs.size) hh 0 n).mono_fp (fp' := [s.heap.objs.size, l]) (fun b hb => by rw [List.mem_singleton.mp hb]; exact .head _)
  have hg := (N _ hl).1
  refine loop_core (fun i m news => ∃ a, m = mk m₀ a ∧ J i a news) W (by show IsRangeIter _ _ _ _ _; rw [hn]; simpa using Heap.get?_push_size _ rfl) (fun i h st => ⟨_, st⟩) (F.push _) (fun p hp => ⟨Heap.get?_push_of_some _ (N p hp).1, (N p hp).2⟩) (fun p hp => Nat.ne_of_lt (Heap.lt_size (N p hp).1)) (Nat.ne_of_lt F.ns.lt) (next_is_new F) hl ⟨a₀, hs.symm, hj⟩ (fun i v m₁ news₁ io h tk hin hP hJ hl1 ho F1 N1 => ?_) (fun m₁ news₁ h tk hJ hl1 F1 N1 => ?_)
  · obtain ⟨a, rfl, hj⟩ := hJ
    obtain ⟨t₁, rfl⟩ := hP
    rw [Int.zero_add] at F1
    exact turn i t₁ a news₁ _ io h tk hin hj hl1 ho F1 N1
  · obtain ⟨a, rfl, hj⟩ := hJ
    exact done a news₁ h tk hj hl1 F1 N1
theorem list_item {value slice : PySem.Expr} {L l : Addr} {its : List Value} {n : Nat} {k : Int} {u : Tok} {v : Value} {news : List (Addr × Obj)} {Q : Value → Shared → Prop}
    (N : News h₀ L s.heap news) (hl : (l, listOf its.toArray n) ∈ news) (h0 : 0 ≤ k) (h1 : k < 2 ^ 63) (hx : its[k.toNat]? = some v) (h : Q v s)
    (hs : subscripted slice false (.ref l) (.int k u) = operate [.ref l, .int k u] (getItem (.ref l) (.int k u)) := by with_unfolding_all rfl) :
    wpAny (model prog w) A (subscriptTail value slice (.ref l) (.int k u)) Q E s := by
  have hi : s.heap.IsList l its.toArray := ⟨_, (N _ hl).1, rfl, _, rfl⟩
  exact tail_any hi.typeIs slot_list_getitem.lookup (wpAny_getItem_list hi h0 h1 (by simpa using hx) h) hs
theorem list_set {L l : Addr} {its : List Value} {n : Nat} {k : Int} {t : Tok} {v : Value} {m : Str → Option Value} {fro : List (Addr × Obj)} {Q : Unit → Shared → Prop}
    (F : Fr h₀ L s.heap m) (N : News h₀ L s.heap ((l, listOf its.toArray n) :: fro)) (ho : ∀ p ∈ fro, p.1 ≠ l) (h0 : 0 ≤ k) (h1 : k < 2 ^ 63) (hn : k.toNat < its.length)
    (h : ∀ h', Fr h₀ L h' m → News h₀ L h' ((l, listOf (its.set k.toNat v).toArray n) :: fro) → Q () { s with heap := h' }) :
    wpAny (model prog w) A (setItem (.ref l) (.int k t) v) Q E s := by
  have z := N _ (.head _)
  refine ki_setAt z.1 h0 h1 (by simp; omega) (h _ (F.change (Heap.SameBut.update ..) z.2.1 z.2.2) (ki_turn (pre := []) _ N (fun _ h => nomatch h) ho ?_ ?_))
  · apply Array.toList_inj.mp
    simp
  · simp
/-- behind a statement that stores no name -/
noncomputable def Mid0 (h₀ : Heap) (L : Addr) (m₀ : Str → Option Value) (P : List (Addr × Obj) → Prop) (s : Shared) (f : Flow) (s' : Shared) : Prop :=
  f = .next ∧ ∃ news' h' tk', s' = { s with heap := h', toks := tk' } ∧ Fr h₀ L h' m₀ ∧ News h₀ L h' news' ∧ P news'
theorem Mid0.intro {h' : Heap} {L : Addr} {m₀ : Str → Option Value} {P : List (Addr × Obj) → Prop} {tk' : Nat} {news' : List (Addr × Obj)} (F : Fr h₀ L h' m₀) (N : News h₀ L h' news') (hp : P news') :
    Mid0 h₀ L m₀ P s .next { s with heap := h', toks := tk' } := ⟨rfl, news', h', tk', rfl, F, N, hp⟩
theorem mid0_stmt {L : Addr} {m₀ : Str → Option Value} {st : Stmt} {rest : List Stmt} {Q : Flow → Shared → Prop} (P : List (Addr × Obj) → Prop) (F : Fr h₀ L s.heap m₀)
    (h1 : wpAny (model prog w) A (exec st env) (Mid0 h₀ L m₀ P s) E s)
    (h2 : ∀ news' h' tk', Fr h₀ L h' m₀ → News h₀ L h' news' → P news' → wpAny (model prog w) A (execs rest env) Q E { s with heap := h', toks := tk' }) : wpAny (model prog w) A (execs (st :: rest) env) Q E s := by
  refine wpAny_execs_cons (wpAny_mono h1 (fun f s' h => ?_) fun _ _ e => e)
  obtain ⟨rfl, news', h', tk', rfl, F', N', hp⟩ := h
  exact h2 news' h' tk' F' N' hp
theorem loop_coreI {x : Str} {body : List Stmt} {Q : Flow → Shared → Prop} (IO : Obj → Prop) {l I : Addr} {lo : Obj} {n : Nat} {P : Nat → Value → Prop} {St : Nat → Heap → Prop} {m₀ : Str → Option Value} {news : List (Addr × Obj)} {s₂ : Shared} (J : Nat → (Str → Option Value) → List (Addr × Obj) → Prop)
    (W : Walks prog w A I [I, l] [I] n P St) (hst : St 0 s₂.heap) (hio : ∀ i h, St i h → ∃ io, h.get? I = some io ∧ IO io)
    (F : Fr h₀ env.locals s₂.heap m₀) (N : News h₀ env.locals s₂.heap news) (hI : ∀ p ∈ news, p.1 ≠ I) (hLI : env.locals ≠ I) (h0I : h₀.get? I = none) (hl : (l, lo) ∈ news) (hj : J 0 m₀ news)
    (turn : ∀ i v m₁ news₁ io h tk, IO io → i < n → P i v → J i m₁ news₁ → (l, lo) ∈ news₁ → (∀ p ∈ news₁, p.1 ≠ I) → Fr h₀ env.locals h (fun y => if y = x then some v else m₁ y) → News h₀ env.locals h ((I, io) :: news₁) →
      wpAny (model prog w) A (execs body env) (TurnEnd h₀ env.locals I io (l, lo) (J (i + 1)) { s₂ with heap := h, toks := tk }) E { s₂ with heap := h, toks := tk })
    (done : ∀ m₁ news₁ h tk, J n m₁ news₁ → (l, lo) ∈ news₁ → Fr h₀ env.locals h m₁ → News h₀ env.locals h news₁ → Q .next { s₂ with heap := h, toks := tk }) :
    LoopAtV prog w A h₀ env x body Q E (.ref I) s₂ := by
  have hlL : env.locals ≠ l := fun e => (N _ hl).2.1 e.symm
  refine ⟨I, [I, l], [I], n, P, St, m₀, news, (fun i m₁ news₁ => J i m₁ news₁ ∧ (l, lo) ∈ news₁), rfl, W, ?_, ?_, ?_, hst, F, N, ⟨hj, hl⟩, ?_, ?_⟩
  · intro hm
    rcases List.mem_cons.mp hm with e | hm
    · exact hLI e
    · exact hlL (List.mem_singleton.mp hm)
  · intro b hb; rw [List.mem_singleton.mp hb]; exact h0I
  · intro p hp hm; exact hI p hp (List.mem_singleton.mp hm)
  · rintro i v m₁ news₁ s₁ own ⟨h, tk, rfl⟩ hin hP ⟨hJ, hl1⟩ hoff hown hget hall hst1 F1 N1
    obtain ⟨io, hio1, hio2⟩ := hio _ _ hst1
    have hIo : (I, io) ∈ own := hall I (.head _) h0I io hio1
    have hoff' : ∀ p ∈ news₁, p.1 ≠ I := fun p hp e => hoff p hp (List.mem_singleton.mpr e)
    have N2 : News h₀ env.locals h ((I, io) :: news₁) := fun p hp => by
      rcases List.mem_cons.mp hp with rfl | hp
      · exact N1 _ (List.mem_append_left _ hIo)
      · exact N1 _ (List.mem_append_right _ hp)
    refine wpAny_mono (turn i v m₁ news₁ io h tk hio2 hin hP hJ hl1 hoff' F1 N2) (fun f s₃ h3 => ?_) fun _ _ e => e
    obtain ⟨rfl, h', tk', m₂, news₂, rfl, F3, N3, ho3, hk3, hj3⟩ := h3
    refine .next ⟨rfl, h', tk', m₂, news₂, rfl, F3, fun p hp => ?_, fun p hp hm => ho3 p hp (List.mem_singleton.mp hm), hj3, hk3⟩
    rcases List.mem_append.mp hp with hp | hp
    · rcases List.mem_cons.mp (hown p hp) with e | e
      · obtain ⟨p1, p2⟩ := p
        simp only at e; subst e
        have := hget _ hp
        rw [hio1] at this
        simp only [Option.some.injEq] at this; subst this
        exact N3 _ (.head _)
      · have e := List.mem_singleton.mp e
        obtain ⟨p1, p2⟩ := p
        simp only at e; subst e
        have h1 := hget _ hp
        have h2 := (N2 _ (.tail _ hl1)).1
        rw [h2] at h1
        simp only [Option.some.injEq] at h1; subst h1
        exact N3 _ (.tail _ hk3)
    · exact N3 _ (.tail _ hp)
  · rintro h' tk m' news' F' N' _ ⟨hJ, hl1⟩
    exact done m' news' h' tk hJ hl1 F' N'
/-- a for over a dict's keys -/
theorem for_keysI {d : Addr} {o : Obj} {kvs : List (Str × Value)} {x : Str} {body : List Stmt} {Q : Flow → Shared → Prop} {m₀ : Str → Option Value} {news : List (Addr × Obj)} (J : Nat → (Str → Option Value) → List (Addr × Obj) → Prop) (hh : A.handled = none)
    (F : Fr h₀ env.locals s.heap m₀) (N : News h₀ env.locals s.heap news) (hl : (d, o) ∈ news) (hd : o.IsDictOf (PySem.strKind prog w) kvs) (lo : (d == sysModules) = false) (hj : J 0 m₀ news)
    (turn : ∀ i k z t m₁ news₁ I io h tk, (∀ its c, io.data ≠ .seq its c) → kvs[i]? = some (k, z) → J i m₁ news₁ → (d, o) ∈ news₁ → (∀ p ∈ news₁, p.1 ≠ I) → Fr h₀ env.locals h (fun y => if y = x then some (.str k t) else m₁ y) → News h₀ env.locals h ((I, io) :: news₁) →
      wpAny (model prog w) A (execs body env) (TurnEnd h₀ env.locals I io (d, o) (J (i + 1)) { s with heap := h, toks := tk }) E { s with heap := h, toks := tk })
    (done : ∀ m₁ news₁ h tk, J kvs.length m₁ news₁ → (d, o) ∈ news₁ → Fr h₀ env.locals h m₁ → News h₀ env.locals h news₁ → Q .next { s with heap := h, toks := tk }) :
    wpAny (model prog w) A (pyIter (.ref d)) (fun it s₂ => LoopAtV prog w A h₀ env x body Q E it s₂) E s := by
  obtain ⟨ep, hat⟩ := isAt hd
  have hg := (N _ hl).1
  have hls := hat _ _ hg
  have hne : d ≠ s.heap.objs.size := Nat.ne_of_lt (Heap.lt_size hg)
  refine wpAny_pyIter_dict lo hls ?_
  have W := Walks.dictKeys (prog := prog) (w := w) (knd := PySem.strKind prog w) hh s.heap.objs.size d hne kvs ep
  refine loop_coreI (fun io => ∀ its c, io.data ≠ .seq its c) J W ⟨⟨_, Heap.get?_push_size _ rfl, rfl, rfl⟩, hls.push _⟩ (fun i h st => ?_) (F.push _) (fun p hp => ⟨Heap.get?_push_of_some _ (N p hp).1, (N p hp).2⟩) (fun p hp => Nat.ne_of_lt (Heap.lt_size (N p hp).1)) (Nat.ne_of_lt F.ns.lt) (next_is_new F) hl hj (fun i v m₁ news₁ io h tk hio hin hP hJ hl1 ho F1 N1 => ?_) (fun m₁ news₁ h tk hJ hl1 F1 N1 => ?_)
  · obtain ⟨⟨o, ho, _, hdat⟩, _⟩ := st; exact ⟨o, ho, fun its c e => by rw [hdat] at e; cases e⟩
  · obtain ⟨k, z, hkz, hkv⟩ := hP
    obtain ⟨t, rfl⟩ := Value.isStrOf_shape hkv
    exact turn i k z t m₁ news₁ _ io h tk hio hkz hJ hl1 ho F1 N1
  · exact done m₁ news₁ h tk hJ hl1 F1 N1
theorem join_opt {L b : Addr} {v1 : List Value} {p : Option Str} {t : Tok} {news : List (Addr × Obj)} {Q : Value → Shared → Prop} (N : News h₀ L s.heap news) (hm : (b, tupO v1) ∈ news) (hv : StrsAre v1 p.toList) (hl : ∀ x, p = some x → x.length ≤ 100)
    (h : ∀ t' k, Q (.str (optS p) t') { s with toks := k }) : wpAny (model prog w) A (call (.builtin "str.join") [.str (Str.ofString "") t, .ref b]) Q E s := by
  refine join_tuple (ys := p.toList) ⟨_, (N _ hm).1, rfl, _, rfl⟩ hv ?_ fun t' k => ?_
  · cases p with
    | none => simp
    | some x =>
      have h1 := hl x rfl
      have h2 : (Str.ofString "").length = 0 := by decide
      rw [h2]; simp; omega
  · have e : PySem.Txt.join (Str.ofString "") p.toList = optS p := by
      cases p with
      | none => rfl
      | some x => rfl
    rw [e]; exact h t' k
end

end LawRPart
section PutPart
open PySem PySem.W PyProof.Rows PySem.Calls
section
variable {β : Type}
noncomputable def put (l : List (Str × β)) (k : Str) (b : β) : List (Str × β) := if l.any (fun q => q.1 = k) then l.map (fun q => if q.1 = k then (q.1, b) else q) else l ++ [(k, b)]
noncomputable def putAll (ws acc : List (Str × β)) : List (Str × β) := ws.foldl (fun a p => put a p.1 p.2) acc
theorem any_key {l : List (Str × β)} {k : Str} : l.any (fun q => decide (q.1 = k)) = true ↔ k ∈ l.map (·.1) := by
  rw [List.any_eq_true, List.mem_map]
  constructor
  · rintro ⟨q, h, e⟩; exact ⟨q, h, of_decide_eq_true e⟩
  · rintro ⟨q, h, e⟩; exact ⟨q, h, decide_eq_true e⟩
theorem put_new {l : List (Str × β)} {k : Str} {b : β} (h : k ∉ l.map (·.1)) : put l k b = l ++ [(k, b)] := by
  unfold put; rw [if_neg fun e => h (any_key.mp e)]
theorem put_old {l : List (Str × β)} {k : Str} {b : β} (h : k ∈ l.map (·.1)) : (put l k b).map (·.1) = l.map (·.1) := by
  unfold put; rw [if_pos (any_key.mpr h), List.map_map]
  apply List.map_congr_left
  intro q _
  simp only [Function.comp_apply]
  split <;> rfl
theorem put_nodup {l : List (Str × β)} {k : Str} {b : β} (h : (l.map (·.1)).Nodup) : ((put l k b).map (·.1)).Nodup := by
  by_cases c : k ∈ l.map (·.1)
  · rw [put_old c]; exact h
  · rw [put_new c, List.map_append, List.nodup_append]
    exact ⟨h, by simp, fun a ha b hb e => by simp at hb; exact c (by rw [← hb, ← e]; exact ha)⟩
theorem put_mem {l : List (Str × β)} {k : Str} {b : β} {p : Str × β} (h : p ∈ put l k b) : p ∈ l ∨ p = (k, b) := by
  by_cases c : k ∈ l.map (·.1)
  · unfold put at h
    rw [if_pos (any_key.mpr c)] at h
    obtain ⟨q, hq, e⟩ := List.mem_map.mp h
    by_cases d : q.1 = k
    · rw [if_pos d, d] at e; exact .inr e.symm
    · rw [if_neg d] at e; exact .inl (e ▸ hq)
  · rw [put_new c] at h
    rcases List.mem_append.mp h with h | h
    · exact .inl h
    · exact .inr (List.mem_singleton.mp h)
theorem put_keys {l : List (Str × β)} {k : Str} {b : β} {x : Str} (h : x ∈ l.map (·.1) ∨ x = k) : x ∈ (put l k b).map (·.1) := by
  by_cases c : k ∈ l.map (·.1)
  · rw [put_old c]
    rcases h with h | rfl
    · exact h
    · exact c
  · rw [put_new c, List.map_append]
    rcases h with h | rfl
    · exact List.mem_append_left _ h
    · exact List.mem_append_right _ (by simp)
theorem putAll_nodup : ∀ {ws acc : List (Str × β)}, (acc.map (·.1)).Nodup → ((putAll ws acc).map (·.1)).Nodup
  | [], _, h => h
  | (k, b) :: ws, acc, h => putAll_nodup (ws := ws) (acc := put acc k b) (put_nodup h)
theorem putAll_mem : ∀ {ws acc : List (Str × β)} {p : Str × β}, p ∈ putAll ws acc → p ∈ acc ∨ p ∈ ws
  | [], _, _, h => .inl h
  | (k, b) :: ws, acc, p, h => by
    rcases putAll_mem (ws := ws) (acc := put acc k b) h with h | h
    · rcases put_mem h with h | h
      · exact .inl h
      · exact .inr (h ▸ .head _)
    · exact .inr (.tail _ h)
theorem putAll_keys : ∀ {ws acc : List (Str × β)} {x : Str}, x ∈ acc.map (·.1) ∨ x ∈ ws.map (·.1) → x ∈ (putAll ws acc).map (·.1)
  | [], _, _, h => h.elim id fun h => nomatch h
  | (k, b) :: ws, acc, x, h => by
    refine putAll_keys (ws := ws) (acc := put acc k b) ?_
    rcases h with h | h
    · exact .inl (put_keys (.inl h))
    · rw [List.map_cons] at h
      rcases List.mem_cons.mp h with h | h
      · exact .inl (put_keys (.inr h))
      · exact .inr h
theorem putAll_same : ∀ {ws acc : List (Str × β)}, ((acc ++ ws).map (·.1)).Nodup → putAll ws acc = acc ++ ws
  | [], acc, _ => by simp [putAll]
  | (k, b) :: ws, acc, h => by
    have hn : k ∉ acc.map (·.1) := by
      intro hm
      rw [List.map_append, List.map_cons, List.nodup_append] at h
      exact h.2.2 _ hm _ (.head _) rfl
    show putAll ws (put acc k b) = _
    rw [put_new hn, putAll_same (by simpa using h)]
    simp
theorem rel2_map {R : Value → β → Prop} {kvs : List (Str × Value)} {kn : List (Str × β)} (h : Rel2 R kvs kn) {k : Str} {v : Value} {b : β} (r : R v b) : Rel2 R (kvs.map fun q => if q.1 = k then (q.1, v) else q) (kn.map fun q => if q.1 = k then (q.1, b) else q) := by
  induction h with
  | nil => exact .nil
  | @cons x v' b' kvs bs h1 _ ih =>
    rw [List.map_cons, List.map_cons]
    by_cases e : x = k
    · rw [if_pos e, if_pos e]; exact .cons r ih
    · rw [if_neg e, if_neg e]; exact .cons h1 ih
theorem rel2_put {R : Value → β → Prop} {kvs : List (Str × Value)} {kn : List (Str × β)} (h : Rel2 R kvs kn) {k : Str} {v : Value} {b : β} (r : R v b) : Rel2 R (stored kvs k v) (put kn k b) := by
  by_cases c : k ∈ kn.map (·.1)
  · have c' : k ∈ kvs.map (·.1) := by rw [h.keys]; exact c
    unfold put stored
    rw [if_pos (any_key.mpr c), if_pos (any_key.mpr c')]
    exact rel2_map h r
  · have c' : k ∉ kvs.map (·.1) := by rw [h.keys]; exact c
    unfold put stored
    rw [if_neg fun e => c (any_key.mp e), if_neg fun e => c' (any_key.mp e)]
    exact h.append r
theorem rel2_putAll {R : Value → β → Prop} : ∀ {ps : List (Str × Value)} {ws : List (Str × β)}, Rel2 R ps ws → ∀ {acc : List (Str × Value)} {bcc : List (Str × β)}, Rel2 R acc bcc → Rel2 R (ps.foldl (fun a p => stored a p.1 p.2) acc) (putAll ws bcc)
  | _, _, .nil, _, _, h => h
  | _, _, .cons r k, _, _, h => rel2_putAll k (rel2_put h r)
end

end PutPart
section LawPPart
open PySem PySem.W PyProof.Rows PySem.Calls
/-- the rows that the law draws -/
structure Rows (M : Int) (tw : Bool) (ws : List (Str × Tr)) : Prop where
  len : ws.length ≤ 8
  ok : ∀ p ∈ ws, p.2.ok M 2 ∧ ∃ k : Nat, p.1 = eqName (k : Int) ∧ (k : Int) < M
  full : ∀ k, 0 ≤ k → k < M → eqName k ∈ ws.map (·.1)
  two : tw = true → ¬ (ws.map (·.1)).Nodup
  one : tw = false → (ws.map (·.1)).Nodup ∧ ws.length ≤ 7
theorem eqNames_nodup {n : Nat} (h : n ≤ 7) : ((List.range n).map (fun k : Nat => eqName (k : Int))).Nodup :=
  ((List.range_sublist.mpr h).map _).nodup (by decide +kernel)
theorem Rows.of {M : Int} {tw : Bool} {rws ws : List (Str × Tr)} (hM7 : M ≤ 7) (hM1 : 1 ≤ M) (hk : rws.map (·.1) = (List.range M.toNat).map (fun k : Nat => eqName (k : Int))) (hok : ∀ p ∈ rws, p.2.ok M 2)
    (h : (tw = false ∧ ws.Perm rws) ∨ (tw = true ∧ ∃ r' x, ws = r' ++ [(x, .num 1)] ∧ r'.Perm rws ∧ x ∈ r'.map (·.1))) : Rows M tw ws := by
  have hlen : rws.length = M.toNat := by have := congrArg List.length hk; simpa using this
  have hnd : (rws.map (·.1)).Nodup := by
    rw [hk]
    exact eqNames_nodup (by omega)
  have hin : ∀ p ∈ rws, p.2.ok M 2 ∧ ∃ k : Nat, p.1 = eqName (k : Int) ∧ (k : Int) < M := fun p hp => by
    refine ⟨hok p hp, ?_⟩
    have : p.1 ∈ rws.map (·.1) := List.mem_map_of_mem (f := (·.1)) hp
    rw [hk] at this
    obtain ⟨k, hk1, hk2⟩ := List.mem_map.mp this
    exact ⟨k, hk2.symm, by have := List.mem_range.mp hk1; omega⟩
  have hfull : ∀ k, 0 ≤ k → k < M → eqName k ∈ rws.map (·.1) := fun k h0 h1 => by
    rw [hk]
    exact List.mem_map.mpr ⟨k.toNat, List.mem_range.mpr (by omega), congrArg eqName (Int.toNat_of_nonneg h0)⟩
  rcases h with ⟨rfl, hp⟩ | ⟨rfl, r', x, rfl, hp, hx⟩
  · have hl := hp.length_eq
    refine ⟨by omega, fun p h => hin p (hp.mem_iff.mp h), fun k h0 h1 => (hp.map (·.1)).mem_iff.mpr (hfull k h0 h1), fun h => Bool.noConfusion h, fun _ => ⟨(hp.map (·.1)).nodup_iff.mpr hnd, by omega⟩⟩
  · have hl := hp.length_eq
    refine ⟨by simp; omega, fun p h => ?_, fun k h0 h1 => ?_, fun _ hn => ?_, fun h => Bool.noConfusion h⟩
    · rcases List.mem_append.mp h with h | h
      · exact hin p (hp.mem_iff.mp h)
      · rw [List.mem_singleton.mp h]
        obtain ⟨q, hq, e⟩ := List.mem_map.mp hx
        obtain ⟨_, k, e1, e2⟩ := hin q (hp.mem_iff.mp hq)
        exact ⟨⟨by decide, by decide⟩, k, by rw [← e1, e], e2⟩
    · rw [List.map_append]; exact List.mem_append_left _ ((hp.map (·.1)).mem_iff.mpr (hfull k h0 h1))
    · rw [List.map_append, List.nodup_append] at hn
      exact hn.2.2 x hx x (by simp) rfl
theorem Rows.kn {M : Int} {tw : Bool} {ws : List (Str × Tr)} (R : Rows M tw ws) (hM7 : M ≤ 7) : KnOk M (putAll ws []) := by
  have hnd : ((putAll ws []).map (·.1)).Nodup := putAll_nodup (by simp)
  have hmem : ∀ p ∈ putAll ws [], p ∈ ws := fun p hp => (putAll_mem hp).resolve_left (fun h => nomatch h)
  refine ⟨?_, hnd, fun p hp => (R.ok p (hmem p hp)).1, fun k h0 h1 => putAll_keys (.inr (R.full k h0 h1))⟩
  have := nodup_length (l := (putAll ws []).map (·.1)) (m := (List.range M.toNat).map (fun k : Nat => eqName (k : Int))) hnd fun x hx => by
    obtain ⟨p, hp, rfl⟩ := List.mem_map.mp hx
    obtain ⟨_, k, e1, e2⟩ := R.ok p (hmem p hp)
    exact List.mem_map.mpr ⟨k, List.mem_range.mpr (by omega), e1.symm⟩
  simp at this; omega
theorem Rows.rw {M : Int} {ws : List (Str × Tr)} (R : Rows M false ws) : RwOk M ws :=
  ⟨⟨(R.one rfl).2, (R.one rfl).1, fun p hp => (R.ok p hp).1, R.full⟩, fun p hp => by obtain ⟨_, k, e, _⟩ := R.ok p hp; exact ⟨_, e⟩⟩

end LawPPart
section LawEPart
open PySem PySem.W PyProof.Rows PySem.Calls
theorem Ev.congr {kn kn' : List (Str × Tr)} (e : ∀ x, lk kn x = lk kn' x) {n : Nat} {t : Tr} {v : Val} (h : Ev kn n t v) : Ev kn' n t v := by
  induction h with
  | num => exact .num
  | lab h => exact .lab (by rw [← e]; exact h)
  | nam h _ ih => exact .nam (by rw [← e]; exact h) ih
  | neg _ ih => exact .neg ih
  | add _ _ h i j => exact .add i j h
  | sub _ _ h i j => exact .sub i j h
  | mul _ _ i j => exact .mul i j
theorem lk_perm {β : Type} {kn kn' : List (Str × β)} (p : kn.Perm kn') (h : (kn.map (·.1)).Nodup) (x : Str) : lk kn x = lk kn' x := by
  have h' : (kn'.map (·.1)).Nodup := (p.map (·.1)).nodup_iff.mp h
  cases e : lk kn x with
  | none =>
    have := lk_none.mp e
    exact (lk_none.mpr fun z => this ((p.map (·.1)).mem_iff.mpr z)).symm
  | some b => exact (lk_of_mem h' (p.mem_iff.mp (lk_mem e))).symm
theorem optS_ok {o : Option Str} (h : ∀ x, o = some x → isLabel x) : PyData.strOk (optS o) = true := by
  cases o with
  | none => decide +kernel
  | some x => rcases h x rfl with e | e | e <;> (rw [e]; decide +kernel)
theorem tout_eq {A : Around} {s : Shared} {h₀ : Heap} {L : Addr} {news : List (Addr × Obj)} {v u : Value} {z : Val} (N : News h₀ L s.heap news) (h1 : TOut news v z) (h2 : TOut news u z) (hz : z.ok) (hu : A.in1.units + 64 < cLine) : SeqAt.EqAt A.in1 s v u true := by
  obtain ⟨a, t1, t2, t3, rfl, ha⟩ := h1
  obtain ⟨b, t4, t5, t6, rfl, hb⟩ := h2
  have hl : PyData.canLay0 (.tuple [.int z.w, .str (optS z.p), .str (optS z.m)]) = true := by
    simp [PyData.canLay0, PyData.canLayAll0, optS_ok hz.1, optS_ok hz.2]
  have hs : SeqAt.shaped (.tuple [.int z.w, .str (optS z.p), .str (optS z.m)]) = true := by
    unfold SeqAt.shaped
    rw [hl]; rfl
  have h := keq_at (A := A) (s := s) (da := .tuple [.int z.w, .str (optS z.p), .str (optS z.m)]) (db := .tuple [.int z.w, .str (optS z.p), .str (optS z.m)])
    (.tuple (N _ ha).1 rfl rfl (.cons (.int _ _) (.cons (.str _ _) (.cons (.str _ _) .nil)))) (.tuple (N _ hb).1 rfl rfl (.cons (.int _ _) (.cons (.str _ _) (.cons (.str _ _) .nil)))) hs hs hu
  rwa [SeqAt.eqv_refl _ hl] at h
theorem touts_hits {A : Around} {s : Shared} {h₀ : Heap} {L : Addr} {news : List (Addr × Obj)} {kb : List (Str × Value)} {zb : List (Str × Val)} (N : News h₀ L s.heap news) (hb : Rel2 (TOut news) kb zb) (hu : A.in1.units + 64 < cLine) {ka : List (Str × Value)} {za : List (Str × Val)} (ha : Rel2 (TOut news) ka za) :
    (∀ p ∈ za, lk zb p.1 = some p.2 ∧ p.2.ok) → KeqHits A.in1 s kb ka true := by
  induction ha with
  | nil => intro _; exact .nil
  | @cons x v b kvs bs h1 _ ih =>
    intro hz
    obtain ⟨e, hok⟩ := hz _ (.head _)
    rcases hb.at x with ⟨e2, _⟩ | ⟨u, b', e2, e1, e3⟩
    · rw [show lk zb x = some b from e] at e2; cases e2
    · rw [show lk zb x = some b from e] at e2; cases e2
      exact KeqHits.hit e1 (tout_eq N h1 e3 hok hu) (ih fun p hp => hz p (.tail _ hp))
/-- what _law_heard gives of the rows ws -/
noncomputable def HOut (w : World) (ws : List (Str × Tr)) (r : Value) (news : List (Addr × Obj)) : Prop :=
  (r = .none ∧ (¬ (ws.map (·.1)).Nodup ∨ ∃ p ∈ ws, ¬ Has ws (.nam p.1))) ∨
  (∃ fd fo kvs fdv, r = .ref fd ∧ (ws.map (·.1)).Nodup ∧ FdOk ws fdv ∧ (∀ x ∈ ws.map (·.1), x ∈ fdv.map (·.1)) ∧ fo.IsDictOf (PySem.strKind (RowW.prog (OpenRow.toRowW (OpenLaw.row PySem.Challenge.rw_pb0420_01))) w) kvs ∧ Rel2 (TOut news) kvs fdv ∧ (fd == sysModules) = false ∧ (fd, fo) ∈ news)
/-- what is due of the rows ws -/
noncomputable def DueOk (w : World) (dd : Addr) (ws : List (Str × Tr)) (d : Value) (news : List (Addr × Obj)) : Prop :=
  (d = .none ∧ (¬ (ws.map (·.1)).Nodup ∨ ∃ x ∈ ws.map (·.1), ¬ Has ws (.nam x))) ∨
  (d = .ref dd ∧ ∃ du dkvs dv, (ws.map (·.1)).Nodup ∧ du.IsDictOf (PySem.strKind (RowW.prog (OpenRow.toRowW (OpenLaw.row PySem.Challenge.rw_pb0420_01))) w) dkvs ∧ Rel2 (TOut news) dkvs dv ∧ (dv.map (·.1)).Nodup ∧ (∀ x, x ∈ dv.map (·.1) ↔ x ∈ ws.map (·.1)) ∧ (∀ p ∈ dv, Worth ws (.nam p.1) (some p.2)) ∧ (dd == sysModules) = false ∧ (dd, du) ∈ news)
theorem DueOk.mono {w : World} {dd : Addr} {ws : List (Str × Tr)} {d : Value} {f g : List (Addr × Obj)} (h : DueOk w dd ws d f) (s : ∀ p ∈ f, p ∈ g) : DueOk w dd ws d g := by
  rcases h with h | ⟨e, du, dkvs, dv, h1, h2, h3, h4, h5, h6, h7, h8⟩
  · exact .inl h
  · exact .inr ⟨e, du, dkvs, dv, h1, h2, h3.mono fun v b z => z.mono s, h4, h5, h6, h7, s _ h8⟩
theorem Has.congr {kn kn' : List (Str × Tr)} (e : ∀ x, lk kn x = lk kn' x) {t : Tr} : Has kn t → Has kn' t := fun ⟨n, v, h⟩ => ⟨n, v, h.congr e⟩
theorem DueOk.perm {w : World} {dd : Addr} {ws ws' : List (Str × Tr)} {d : Value} {f : List (Addr × Obj)} (p : ws.Perm ws') (h : DueOk w dd ws d f) : DueOk w dd ws' d f := by
  have pm := p.map (·.1)
  by_cases hn : (ws.map (·.1)).Nodup
  · have e := lk_perm p hn
    rcases h with ⟨h1, h⟩ | ⟨e1, du, dkvs, dv, h1, h2, h3, h4, h5, h6, h7, h8⟩
    · rcases h with h | ⟨x, hx, h⟩
      · exact absurd hn h
      · exact .inl ⟨h1, .inr ⟨x, pm.mem_iff.mp hx, fun z => h (z.congr fun y => (e y).symm)⟩⟩
    · exact .inr ⟨e1, du, dkvs, dv, pm.nodup_iff.mp h1, h2, h3, h4, fun x => (h5 x).trans pm.mem_iff, fun q hq => by obtain ⟨n, z⟩ := h6 q hq; exact ⟨n, z.congr e⟩, h7, h8⟩
  · rcases h with ⟨h1, h⟩ | ⟨_, _, _, _, h1, _⟩
    · exact .inl ⟨h1, .inl fun z => hn (pm.nodup_iff.mpr z)⟩
    · exact absurd h1 hn
theorem due_eq {w : World} {A : Around} {s : Shared} {E Q : Value → Shared → Prop} {h₀ : Heap} {L dd : Addr} {news : List (Addr × Obj)} {ws : List (Str × Tr)} {r d : Value} (N : News h₀ L s.heap news) (hr : HOut w ws r news) (hd : DueOk w dd ws d news) (hu : A.units < cLine) (hu2 : A.in1.units + 64 < cLine)
    (h : Q (.bool true) s) : wpAny (model (RowW.prog (OpenRow.toRowW (OpenLaw.row PySem.Challenge.rw_pb0420_01))) w) A (compareOp .Eq r d) Q E s := by
  rcases hr with ⟨rfl, hbad⟩ | ⟨fd, fo, kvs, fdv, rfl, hnd, hfd, hall, hdict, hrel, hsys, hfm⟩
  · rcases hd with ⟨rfl, _⟩ | ⟨rfl, du, dkvs, dv, h1, h2, h3, h4, h5, h6, h7, h8⟩
    · exact EqNone.eq_none_none h
    · exfalso
      rcases hbad with hb | ⟨p, hp, hb⟩
      · exact hb h1
      · obtain ⟨q, hq, e⟩ := List.mem_map.mp ((h5 p.1).mpr (List.mem_map_of_mem (f := (·.1)) hp))
        obtain ⟨n, z⟩ := h6 q hq
        exact hb ⟨n, _, e ▸ z⟩
  · rcases hd with ⟨rfl, hbad⟩ | ⟨rfl, du, dkvs, dv, h1, h2, h3, h4, h5, h6, h7, h8⟩
    · exfalso
      rcases hbad with hb | ⟨x, hx, hb⟩
      · exact hb hnd
      · obtain ⟨q, hq, e⟩ := List.mem_map.mp (hall x hx)
        obtain ⟨n, z⟩ := hfd.ev q hq
        exact hb ⟨n, _, e ▸ z⟩
    · refine keq_pairs N hfm h8 hdict h2 hsys h7 ?_ hu (touts_hits N h3 hu2 hrel fun p hp => ?_) h
      · have a1 := nodup_length hfd.nodup fun x hx => (h5 x).mpr (hfd.keys x hx)
        have a2 := nodup_length h4 fun x hx => hall x ((h5 x).mp hx)
        have a3 := hrel.length
        have a4 := h3.length
        simp only [List.length_map] at a1 a2
        omega
      · obtain ⟨z', e⟩ := lk_some ((h5 p.1).mpr (hfd.keys p.1 (List.mem_map_of_mem (f := (·.1)) hp)))
        obtain ⟨n, z1⟩ := h6 _ (lk_mem e)
        obtain ⟨m, z2⟩ := hfd.ev p hp
        exact ⟨by rw [e, z1.det z2], (hfd.fit p hp).1⟩
theorem GIn.snocR {fro : List (Addr × Obj)} {vs us : List Value} {ws zs : List (Str × Tr)} (h : GIn fro vs ws) (k : GIn fro us zs) : GIn fro (vs ++ us) (ws ++ zs) := by
  induction h with
  | nil => exact k
  | cons a b _ ih => exact .cons a b ih
theorem GIn.reverse {fro : List (Addr × Obj)} {vs : List Value} {ws : List (Str × Tr)} (h : GIn fro vs ws) : GIn fro vs.reverse ws.reverse := by
  induction h with
  | nil => exact .nil
  | cons a b _ ih => rw [List.reverse_cons, List.reverse_cons]; exact ih.snocR (.cons a b .nil)
theorem Rows.perm {M : Int} {tw : Bool} {ws ws' : List (Str × Tr)} (R : Rows M tw ws) (p : ws'.Perm ws) : Rows M tw ws' :=
  ⟨by rw [p.length_eq]; exact R.len, fun q hq => R.ok q (p.mem_iff.mp hq), fun k h0 h1 => (p.map (·.1)).mem_iff.mpr (R.full k h0 h1), fun h z => R.two h ((p.map (·.1)).nodup_iff.mp z), fun h => ⟨(p.map (·.1)).nodup_iff.mpr (R.one h).1, by rw [p.length_eq]; exact (R.one h).2⟩⟩
theorem Rows.rwOk {M : Int} {tw : Bool} {ws : List (Str × Tr)} (R : Rows M tw ws) (h : (ws.map (·.1)).Nodup) : RwOk M ws := by
  cases tw with
  | false => exact R.rw
  | true => exact absurd h (R.two rfl)
theorem ov_same {x : Str} {v : Option Value} {m : Str → Option Value} (h : m x = v) : (fun y => if y = x then v else m y) = m := by
  funext y
  by_cases e : y = x
  · rw [if_pos e, e, h]
  · rw [if_neg e]
theorem rows_rev {prog : Program} {w : World} {A : Around} {E Q : Value → Shared → Prop} {s : Shared} {h₀ : Heap} {L l : Addr} {m : Str → Option Value} {news : List (Addr × Obj)} {value slice : PySem.Expr} {its : List Value} {n : Nat} {vk : Value} {ops : List Value}
    (F : Fr h₀ L s.heap m) (N : News h₀ L s.heap news) (hl : (l, listOf its.toArray n) ∈ news) (pk : IsPart vk (some (-1))) (hz : its.length ≤ 8)
    (h : ∀ D h', Fr h₀ L h' m → News h₀ L h' ((D, listOf its.reverse.toArray 0) :: news) → (∀ p ∈ news, p.1 < D) → Q (.ref D) { s with heap := h' })
    (hs : subscripted slice false (.ref l) (.ref s.heap.objs.size) = operate ops (getItem (.ref l) (.ref s.heap.objs.size))) (ht : ∀ r, letTemporaryGo value (.ref l) r = pure ()) :
    wpAny (model prog w) A (subscriptTail value slice (.ref l) (.ref s.heap.objs.size)) Q E { s with heap := s.heap.push { cls := .type "slice", data := .fields #[.none, .none, vk] } } :=
  krv_lit (its := its.toArray) (zs := its.reverse) F N ⟨_, (N _ hl).1, rfl, _, rfl⟩ pk (by simp) h hs ht (by simp [sizeLine_eq]; omega)
theorem eqName_len : ∀ k : Nat, k < 7 → (eqName (k : Int)).length ≤ 1000 := by decide +kernel
theorem heard_out {w : World} {mean : ExcName → Option Value} {mg mb : Str → Option Value} {dp un : Nat} {gd : Option (List Code)} {cn : Str} {cs : Scope} {a : Addr} {ccd : Value} {cl : List (Str × Addr)} {A₀ : Around} {h₀ : Heap} {L : Addr} {m : Str → Option Value} {s : Shared} {E : Value → Shared → Prop}
    {rl : Addr} {rvs : List Value} {rn : Nat} {rws : List (Str × Tr)} {M : Int} {tw : Bool} {news : List (Addr × Obj)} {Q : Value → Shared → Prop}
    (B : Below A₀ h₀ [] h₀) (F : Fr h₀ L s.heap m) (X : (hd.heap_1 w.params).In h₀) (T : Top vw (looseW vw lse) mean mg mb h₀) (hk : cs.kind = .function)
    (N : News h₀ L s.heap news) (hl : (rl, listOf rvs.toArray rn) ∈ news) (hr : GIn news rvs rws) (R : Rows M tw rws) (hM7 : M ≤ 7)
    (hd : dp + 200 < 1000) (hu : un + 4000 < 9900)
    (ret : ∀ r D h' tk', HOut w rws r (D ++ news) → Later D news → Fr h₀ L h' m → News h₀ L h' (D ++ news) → Q r { s with heap := h', toks := tk' }) :
    wpAny (model (RowW.prog (OpenRow.toRowW (OpenLaw.row PySem.Challenge.rw_pb0420_01))) w) (ktrTop dp un gd cn cs L a ccd cl []) (call (.ref 408) [.ref rl]) Q E s := by
  refine heard_call B F X T hk N hl hr R.len (fun h => R.rwOk h) (fun p hp => ?_) (fun p hp => ok_dep (R.ok p hp).1) hd hu (fun h' tk' hb F' N' => ret _ [] _ _ (.inl ⟨rfl, hb⟩) .nil F' N') (fun fd fo kvs fdv D h' tk' h1 h2 h3 h4 h5 h6 h7 l F' N' => ret _ D _ _ (.inr ⟨fd, fo, kvs, fdv, rfl, h1, h2, h3, h4, h5, h6, List.mem_append_left _ h7⟩) l F' N')
  obtain ⟨_, k, e, hkM⟩ := R.ok p hp
  rw [e]
  exact eqName_len k (by omega)

end LawEPart
section NxPart
open PySem PySem.W PyProof.Rows PySem.Calls
theorem next_call {w : World} {mean : ExcName → Option Value} {mg mb : Str → Option Value} {dp un : Nat} {gd : Option (List Code)} {cn : Str} {cs : Scope} {a : Addr} {ccd : Value} {cl : List (Str × Addr)} {outer : List Env} {A₀ : Around} {base h₀ : Heap} {L : Addr} {m : Str → Option Value} {s : Shared} {E : Value → Shared → Prop} {c : Addr} {items : List Value} {n : Nat} {ns : List Int} {M : Int} {tM : Tok} {fro : List (Addr × Obj)} {Q : Value → Shared → Prop} (B : Below A₀ base outer h₀) (F : Fr h₀ L s.heap m) (X : (hd.heap_1 w.params).In h₀) (T : Top vw (looseW vw lse) mean mg mb h₀) (hk : cs.kind = .function)
    (N : News h₀ L s.heap ((c, listOf items.toArray n) :: fro)) (hoff : ∀ p ∈ fro, p.1 ≠ c) (hi : IntsAre items ns) (hM : 0 < M) (hlen : ns.length ≤ 63)
    (hd : dp + 1 < 1000) (hu : un + 80 < 9900)
    (ret : ∀ r h' tk' items' ns' n' t', 0 ≤ r → r < M → IntsAre items' ns' → ns'.length ≤ 63 → Fr h₀ L h' m → News h₀ L h' ((c, listOf items'.toArray n') :: fro) → Q (.int r t') { s with heap := h', toks := tk' }) :
    wpAny (model (RowW.prog (OpenRow.toRowW (OpenLaw.row PySem.Challenge.rw_pb0420_01))) w) (ktrTop dp un gd cn cs L a ccd cl outer) (call (.ref 375) [.ref c, .int M tM]) Q E s := by
  revert X; k_fill; intro X
  have hil := hi.length
  cases hi with
  | nil =>
    refine wpAny_call ?_
    (show codeAny _ _ (Code.call _ ⟨[?x28_0, ?x28_1], []⟩) _ _; k_dflt (refine' code_def (binds := [(Str.ofString "cells", ?x28_0), (Str.ofString "many", ?x28_1)]) ?k1 ?k2 ?k3 ?k4 ?k5 ?kA ?kF ?kK ?k6 ?k7 ?k8 ?k9 ?kB ?_ ?c2 ?c3 ?c4 ?c5; (case kA => exact rfl); (case kF => exact rfl); (case kK => first | exact rfl | assumption); (case k1 => k_asm); (case k2 => k_asm); (case k3 => k_asm); (case k4 => k_asm); (case k5 => k_asm); (case k6 => k_is); (case k7 => k_is); (case k8 => ktr_room); (case k9 => first | exact BindsTo.of_eq rfl | exact binds_K (by k_in) rfl (by k_is) rfl rfl rfl); (case c5 => decide); (case kB => exact locs rfl); (case c2 => exact rfl); (case c3 => exact rfl); (case c4 => exact rfl); k_whole; intro g' L' h' FG' F' N' B' X' T'; (try dsimp only); (try k_fold)))
    k_steps
    exact ret _ _ _ [] [] _ _ (Int.le_refl _) hM .nil (by decide) (by assumption) (news_sub (by assumption) (fun p hp => .tail _ hp))
  | cons k t hr => 
    refine wpAny_call ?_
    (show codeAny _ _ (Code.call _ ⟨[?x29_0, ?x29_1], []⟩) _ _; k_dflt (refine' code_def (binds := [(Str.ofString "cells", ?x29_0), (Str.ofString "many", ?x29_1)]) ?k1 ?k2 ?k3 ?k4 ?k5 ?kA ?kF ?kK ?k6 ?k7 ?k8 ?k9 ?kB ?_ ?c2 ?c3 ?c4 ?c5; (case kA => exact rfl); (case kF => exact rfl); (case kK => first | exact rfl | assumption); (case k1 => k_asm); (case k2 => k_asm); (case k3 => k_asm); (case k4 => k_asm); (case k5 => k_asm); (case k6 => k_is); (case k7 => k_is); (case k8 => ktr_room); (case k9 => first | exact BindsTo.of_eq rfl | exact binds_K (by k_in) rfl (by k_is) rfl rfl rfl); (case c5 => decide); (case kB => exact locs rfl); (case c2 => exact rfl); (case c3 => exact rfl); (case c4 => exact rfl); k_whole; intro g' L' h' FG' F' N' B' X' T'; (try dsimp only); (try k_fold)))
    k_steps
    · rename decide _ = true => hx; cases hx
    · refine' kl_popAt (k := 0) ?F ?N ?f ?k ?e ?U ?z ?_
      (case F => k_asm)
      (case N => k_asm)
      (case U => k_upd)
      (case f => rfl)
      (case k => simp [seqIndex?])
      (case e => rfl)
      (case z => kl_room)
      kl_rest
      k_steps
      exact ret _ _ _ _ _ _ _ (fmod_pos_nonneg hM) (fmod_pos_lt hM) hr (by simp at hlen; omega) (by assumption) (news_sub (by assumption) (fun p hp => .tail _ hp))

end NxPart
section ToldDPart
open PySem PySem.W PyProof.Rows PySem.Calls
local macro_rules | `(tactic| walk_at "call ref") => do let rr := Lean.mkIdent `rr; `(tactic| (k_here; (with_reducible show wpAny _ _ (call (Value.ref 375) _) _ _ _); k_dflt (refine' next_call (by k_asm) (by k_asm) (by k_asm) (by k_asm) (by first | exact rfl | assumption) (Rem.news ?R (by k_asm)) (Rem.off ?R) (by assumption) (by omega) (by assumption) (by k_room) (by k_units) ?_; (case R => walk_at "REM")); intro $rr:ident h' tk' items' ns' n' t' hr0 hr1 hi' hlen' F' N'; (try k_sweep)))
noncomputable def ToldD (d : Nat) : Prop := ∀ {w : World} {mean : ExcName → Option Value} {mg mb : Str → Option Value} {dp un : Nat} {gd : Option (List Code)} {cn : Str} {cs : Scope} {a : Addr} {ccd : Value} {cl : List (Str × Addr)} {outer : List Env} {A₀ : Around} {base h₀ : Heap} {L : Addr} {m : Str → Option Value} {s : Shared} {E : Value → Shared → Prop} {c : Addr} {items : List Value} {n : Nat} {ns : List Int} {M dv : Int} {tM tD : Tok} {fro : List (Addr × Obj)} {Q : Value → Shared → Prop} (B : Below A₀ base outer h₀) (F : Fr h₀ L s.heap m) (X : (hd.heap_1 w.params).In h₀) (T : Top vw (looseW vw lse) mean mg mb h₀) (hk : cs.kind = .function)
    (N : News h₀ L s.heap ((c, listOf items.toArray n) :: fro)) (hoff : ∀ p ∈ fro, p.1 ≠ c) (hi : IntsAre items ns) (hM : 0 < M) (hM7 : M ≤ 7) (hdv : dv = d) (hlen : ns.length ≤ 63)
    (hd : dp + d + 2 < 1000) (hu : un + 8 * d + 100 < 9900)
    (ret : ∀ v t D h' tk' items' ns' n', t.ok M d → TIn D v t → Later D ((c, listOf items.toArray n) :: fro) → IntsAre items' ns' → ns'.length ≤ 63 → Fr h₀ L h' m → News h₀ L h' ((c, listOf items'.toArray n') :: (D ++ fro)) → Q v { s with heap := h', toks := tk' }),
    wpAny (model (RowW.prog (OpenRow.toRowW (OpenLaw.row PySem.Challenge.rw_pb0420_01))) w) (ktrTop dp un gd cn cs L a ccd cl outer) (call (.ref 382) [.ref c, .int M tM, Value.int dv tD]) Q E s

theorem toldD0 : ToldD 0 := by
  unfold ToldD
  intro w mean mg mb dp un gd cn cs a ccd cl outer A₀ base h₀ L m s E c items n ns M dv tM tD fro Q B F X T hk N hoff hi hM hM7 hdv hlen hd hu ret
  have hdv : dv = 0 := hdv
  subst hdv
  have hd9 : dp + 2 < 1000 := by omega
  have hu9 : un + 100 < 9900 := by omega
  revert X; k_fill; intro X
  refine wpAny_call ?_
  (show codeAny _ _ (Code.call _ ⟨[?x30_0, ?x30_1, ?x30_2], []⟩) _ _; k_dflt (refine' code_def (binds := [(Str.ofString "cells", ?x30_0), (Str.ofString "many", ?x30_1), (Str.ofString "deep", ?x30_2)]) ?k1 ?k2 ?k3 ?k4 ?k5 ?kA ?kF ?kK ?k6 ?k7 ?k8 ?k9 ?kB ?_ ?c2 ?c3 ?c4 ?c5; (case kA => exact rfl); (case kF => exact rfl); (case kK => first | exact rfl | assumption); (case k1 => k_asm); (case k2 => k_asm); (case k3 => k_asm); (case k4 => k_asm); (case k5 => k_asm); (case k6 => k_is); (case k7 => k_is); (case k8 => ktr_room); (case k9 => first | exact BindsTo.of_eq rfl | exact binds_K (by k_in) rfl (by k_is) rfl rfl rfl); (case c5 => decide); (case kB => exact locs rfl); (case c2 => exact rfl); (case c3 => exact rfl); (case c4 => exact rfl); k_whole; intro g' L' h' FG' F' N' B' X' T'; (try dsimp only); (try k_fold)))
  k_steps
  all_goals try (exfalso; omega)
  all_goals (
    rename_i l1 kF kN Tc kX
    have hl1 : ∀ b ∈ (((c, listOf items.toArray n) :: fro).map (·.1)), @LT.lt Nat _ b _ := allLt_all (l := (c, _) :: fro) l1
    refine ret _ _ _ _ _ _ _ _ ?_ (by first | exact TIn.num (.head _) | exact TIn.nam (.head _)) (Later.cons hl1 Later.nil) (by assumption) (by assumption) kF (news_swap kN)
    (first | exact ⟨by assumption, by assumption⟩ | exact Or.inl (Or.inl rfl) | exact Or.inl (Or.inr (Or.inl rfl)) | exact Or.inl (Or.inr (Or.inr rfl)) | exact Or.inr ⟨_, by assumption, by assumption, rfl⟩))
theorem told_useD {d : Nat} (IH : ToldD d) {w : World} {mean : ExcName → Option Value} {mg mb : Str → Option Value} {dp un : Nat} {gd : Option (List Code)} {cn : Str} {cs : Scope} {a : Addr} {ccd : Value} {cl : List (Str × Addr)} {outer : List Env} {A₀ : Around} {base h₀ : Heap} {L : Addr} {m : Str → Option Value} {s : Shared} {E : Value → Shared → Prop} {c : Addr} {items : List Value} {n : Nat} {ns : List Int} {M dv : Int} {tM tD : Tok} {fro : List (Addr × Obj)} {Q : Value → Shared → Prop} (B : Below A₀ base outer h₀) (F : Fr h₀ L s.heap m) (X : (hd.heap_1 w.params).In h₀) (T : Top vw (looseW vw lse) mean mg mb h₀) (hk : cs.kind = .function)
    (N : News h₀ L s.heap ((c, listOf items.toArray n) :: fro)) (hoff : ∀ p ∈ fro, p.1 ≠ c) (hi : IntsAre items ns) (hM : 0 < M) (hM7 : M ≤ 7) (hdv : dv = d) (hlen : ns.length ≤ 63)
    (hd : dp + d + 2 < 1000) (hu : un + 8 * d + 100 < 9900)
    (ret : ∀ v t D h' tk' items' ns' n', t.ok M d → TIn D v t → Later D ((c, listOf items.toArray n) :: fro) → IntsAre items' ns' → ns'.length ≤ 63 → Fr h₀ L h' m → News h₀ L h' ((c, listOf items'.toArray n') :: (D ++ fro)) → Q v { s with heap := h', toks := tk' }) :
    wpAny (model (RowW.prog (OpenRow.toRowW (OpenLaw.row PySem.Challenge.rw_pb0420_01))) w) (ktrTop dp un gd cn cs L a ccd cl outer) (call (.ref 382) [.ref c, .int M tM, Value.int dv tD]) Q E s := IH B F X T hk N hoff hi hM hM7 hdv hlen hd hu ret
theorem told_succD {d : Nat} (IH : ToldD d) : ToldD (d + 1) := by
  unfold ToldD
  intro w mean mg mb dp un gd cn cs a ccd cl outer A₀ base h₀ L m s E c items n ns M dv tM tD fro Q B F X T hk N hoff hi hM hM7 hdv hlen hd hu ret
  have hd9 : dp + 3 < 1000 := by omega
  have hu9 : un + 108 < 9900 := by omega
  have hd8 : dp + 1 + d + 2 < 1000 := by omega
  have hu8 : un + 3 + 8 * d + 100 < 9900 := by omega
  have hdv8 : dv - 1 = (d : Int) := by omega
  revert X; k_fill; intro X
  refine wpAny_call ?_
  (show codeAny _ _ (Code.call _ ⟨[?x31_0, ?x31_1, ?x31_2], []⟩) _ _; k_dflt (refine' code_def (binds := [(Str.ofString "cells", ?x31_0), (Str.ofString "many", ?x31_1), (Str.ofString "deep", ?x31_2)]) ?k1 ?k2 ?k3 ?k4 ?k5 ?kA ?kF ?kK ?k6 ?k7 ?k8 ?k9 ?kB ?_ ?c2 ?c3 ?c4 ?c5; (case kA => exact rfl); (case kF => exact rfl); (case kK => first | exact rfl | assumption); (case k1 => k_asm); (case k2 => k_asm); (case k3 => k_asm); (case k4 => k_asm); (case k5 => k_asm); (case k6 => k_is); (case k7 => k_is); (case k8 => ktr_room); (case k9 => first | exact BindsTo.of_eq rfl | exact binds_K (by k_in) rfl (by k_is) rfl rfl rfl); (case c5 => decide); (case kB => exact locs rfl); (case c2 => exact rfl); (case c3 => exact rfl); (case c4 => exact rfl); k_whole; intro g' L' h' FG' F' N' B' X' T'; (try dsimp only); (try k_fold)))
  k_steps
  all_goals try (exfalso; omega)
  iterate 5 (
    rotate_left 1)
  · (refine stop_in ?_; k_dflt (refine' told_useD ?IH ?B ?F ?X ?T ?hk (Rem.news ?R ?N) (Rem.off ?R) ?hi ?hM ?hM7 ?hdv ?hlen ?hd ?hu ?_; (case IH => assumption); (case B => k_asm); (case F => k_asm); (case X => k_asm); (case T => k_asm); (case hk => first | exact rfl | assumption); (case N => k_asm); (case R => walk_at "REM"); (case hi => assumption); (case hM => assumption); (case hM7 => assumption); (case hdv => omega); (case hlen => assumption); (case hd => k_room); (case hu => k_units)))
    intro v1 t1 D1 h1 tk1 its1 ns1 n1 hok1 ht1 hl1 hi1 hlen1 F1 N1
    try k_sweep
    k_steps
    rename_i x hx Fx Nx lx kF kN Tc kX
    refine ret (.ref x) (.neg t1) ((x, _) :: D1) _ _ _ _ n1 hok1 (TIn.neg (.head _) (ht1.mono (by walk_at "MEM"))) (by krn_off) hi1 hlen1 kF (pull1 kN)
  · (refine stop_in ?_; k_dflt (refine' told_useD ?IH ?B ?F ?X ?T ?hk (Rem.news ?R ?N) (Rem.off ?R) ?hi ?hM ?hM7 ?hdv ?hlen ?hd ?hu ?_; (case IH => assumption); (case B => k_asm); (case F => k_asm); (case X => k_asm); (case T => k_asm); (case hk => first | exact rfl | assumption); (case N => k_asm); (case R => walk_at "REM"); (case hi => assumption); (case hM => assumption); (case hM7 => assumption); (case hdv => omega); (case hlen => assumption); (case hd => k_room); (case hu => k_units)))
    intro v1 t1 D1 h1 tk1 its1 ns1 n1 hok1 ht1 hl1 hi1 hlen1 F1 N1
    try k_sweep
    k_steps
    have h3 : rr = 3 ∨ rr = 4 ∨ rr = 5 := by omega
    rcases h3 with rfl | rfl | rfl
    · simp only [show Int.fmod (3 - 3 + 1) 3 = 1 from by decide]
      k_steps
      (refine stop_in ?_; k_dflt (refine' told_useD ?IH ?B ?F ?X ?T ?hk (Rem.news ?R ?N) (Rem.off ?R) ?hi ?hM ?hM7 ?hdv ?hlen ?hd ?hu ?_; (case IH => assumption); (case B => k_asm); (case F => k_asm); (case X => k_asm); (case T => k_asm); (case hk => first | exact rfl | assumption); (case N => k_asm); (case R => walk_at "REM"); (case hi => assumption); (case hM => assumption); (case hM7 => assumption); (case hdv => omega); (case hlen => assumption); (case hd => k_room); (case hu => k_units)))
      intro v2 t2 D2 h2 tk2 its2 ns2 n2 hok2 ht2 hl2 hi2 hlen2 F2 N2
      try k_sweep
      k_steps
      rename_i x hx Fx Nx lx kF kN Tc kX
      refine ret (.ref x) (.bin .sub t1 t2) ((x, _) :: (D2 ++ (_, _) :: D1)) _ _ _ _ n2 ⟨hok1, hok2⟩ (TIn.bin .sub (.head _) (ht1.mono (by walk_at "MEM")) (ht2.mono (by walk_at "MEM"))) (by krn_off) hi2 hlen2 kF (pullApp kN)
    · simp only [show Int.fmod (4 - 3 + 1) 3 = 2 from by decide]
      k_steps
      (refine stop_in ?_; k_dflt (refine' told_useD ?IH ?B ?F ?X ?T ?hk (Rem.news ?R ?N) (Rem.off ?R) ?hi ?hM ?hM7 ?hdv ?hlen ?hd ?hu ?_; (case IH => assumption); (case B => k_asm); (case F => k_asm); (case X => k_asm); (case T => k_asm); (case hk => first | exact rfl | assumption); (case N => k_asm); (case R => walk_at "REM"); (case hi => assumption); (case hM => assumption); (case hM7 => assumption); (case hdv => omega); (case hlen => assumption); (case hd => k_room); (case hu => k_units)))
      intro v2 t2 D2 h2 tk2 its2 ns2 n2 hok2 ht2 hl2 hi2 hlen2 F2 N2
      try k_sweep
      k_steps
      rename_i x hx Fx Nx lx kF kN Tc kX
      refine ret (.ref x) (.bin .mul t1 t2) ((x, _) :: (D2 ++ (_, _) :: D1)) _ _ _ _ n2 ⟨hok1, hok2⟩ (TIn.bin .mul (.head _) (ht1.mono (by walk_at "MEM")) (ht2.mono (by walk_at "MEM"))) (by krn_off) hi2 hlen2 kF (pullApp kN)
    · simp only [show Int.fmod (5 - 3 + 1) 3 = 0 from by decide]
      k_steps
      (refine stop_in ?_; k_dflt (refine' told_useD ?IH ?B ?F ?X ?T ?hk (Rem.news ?R ?N) (Rem.off ?R) ?hi ?hM ?hM7 ?hdv ?hlen ?hd ?hu ?_; (case IH => assumption); (case B => k_asm); (case F => k_asm); (case X => k_asm); (case T => k_asm); (case hk => first | exact rfl | assumption); (case N => k_asm); (case R => walk_at "REM"); (case hi => assumption); (case hM => assumption); (case hM7 => assumption); (case hdv => omega); (case hlen => assumption); (case hd => k_room); (case hu => k_units)))
      intro v2 t2 D2 h2 tk2 its2 ns2 n2 hok2 ht2 hl2 hi2 hlen2 F2 N2
      try k_sweep
      k_steps
      rename_i x hx Fx Nx lx kF kN Tc kX
      refine ret (.ref x) (.bin .add t1 t2) ((x, _) :: (D2 ++ (_, _) :: D1)) _ _ _ _ n2 ⟨hok1, hok2⟩ (TIn.bin .add (.head _) (ht1.mono (by walk_at "MEM")) (ht2.mono (by walk_at "MEM"))) (by krn_off) hi2 hlen2 kF (pullApp kN)
  all_goals (
    rename_i l1 kF kN Tc kX
    have hl1 : ∀ b ∈ (((c, listOf items.toArray n) :: fro).map (·.1)), @LT.lt Nat _ b _ := allLt_all (l := (c, _) :: fro) l1
    refine ret _ _ _ _ _ _ _ _ ?_ (by first | exact TIn.num (.head _) | exact TIn.nam (.head _)) (Later.cons hl1 Later.nil) (by assumption) (by assumption) kF (news_swap kN)
    (first | exact ⟨by assumption, by assumption⟩ | exact Or.inl (Or.inl rfl) | exact Or.inl (Or.inr (Or.inl rfl)) | exact Or.inl (Or.inr (Or.inr rfl)) | exact Or.inr ⟨_, by assumption, by assumption, rfl⟩))
theorem toldD2 : ToldD 2 := told_succD (told_succD toldD0)

end ToldDPart
section WorthBPart
open PySem PySem.W PyProof.Rows PySem.Calls
--LMACROS
--LMEND

local macro_rules | `(tactic| walk_at "binaryOp Add ref ref") => `(tactic| (k_here; k_dflt (refine' add_list (by k_asm) (by k_asm) (by k_mem) (by k_mem) (by (simp only [List.length_cons, List.length_nil]; omega)) ?_); intro d' h' F' N' l1; (try k_lt l1)))
local macro_rules | `(tactic| walk_at "subscriptTail") => `(tactic| (k_here; (with_reducible show wpAny _ _ (subscriptTail _ (Expr.Slice _ _ _ _) _ _) _ _ _); (with_unfolding_all refine' slice1_tup ?F ?N ?ht ?hz ?_ ?h1 ?h2; (case F => k_asm); (case N => k_asm); (case ht => k_mem); (case hz => (simp only [List.length_cons, List.length_nil]; omega)); (case h1 => with_unfolding_all rfl); (case h2 => intro _; with_unfolding_all rfl)); intro D' h' F' N' l1; (try k_lt l1); (try k_sweep)))
local macro_rules | `(tactic| walk_at "compareOp Eq ref ref") => `(tactic| (k_here; (with_reducible show wpAny _ _ (compareOp CmpOp.Eq (Value.ref _) (Value.ref _)) _ _ _); k_dflt (first
  | (refine' eq_unitsT (by k_asm) (by k_mem) (OptIn.mono (by assumption) (by walk_at "MEM")) (OptIn.mono (by assumption) (by walk_at "MEM")) (by k_mem) (by k_mem) (by k_mem) (by assumption) (by assumption) (by k_units) (by assumption) ?_)
  | (refine' eq_unitsF (by k_asm) (by k_mem) (OptIn.mono (by assumption) (by walk_at "MEM")) (OptIn.mono (by assumption) (by walk_at "MEM")) (by k_mem) (by k_mem) (by k_mem) (by assumption) (by assumption) (by k_units) (by assumption) ?_))))
theorem worth_bin (μ : Nat) (IH : ∀ ν, ν < μ → WorthC ν) : WorthP (fun t => ∃ o l r, t = .bin o l r) μ := by
  intro w mean mg mb dp un gd cn cs a ccd cl outer A₀ base h₀ L m s E kd ar sd ko so kvs skvs kn sl avs an d M ax v t fro Q B F X T hk N hoff hkm hkd hkr lok hsd hsr los ham has ht hK hS han hax hle hok hd2 hP hμ hd hu ret
  obtain ⟨o, tl, tr, rfl⟩ := hP
  have hd9 : dp + 6 < 1000 := rmx hd
  have hu9 : un + 300 < 9900 := rmx hu
  revert X; k_fill; intro X
  have hav : avs.length ≤ 7 := by
    have h1 := strsAre_length has
    have h2 := nodup_length han hax
    have h3 := hK.len
    simp only [List.length_map] at h2
    omega
  cases ht with
  | bin _ hm ht1 ht2 =>
    rename_i a1 k1 v1 v2
    cases d with
    | zero => exact hok.elim
    | succ d =>
    have hlt : (7 - ax.length) * 4 + d < μ := by omega
    have hd8 : dp + 1 + ((7 - ax.length) * 4 + d) + 6 < 1000 := by omega
    have hu8 : un + 3 + 20 * ((7 - ax.length) * 4 + d) + 300 < 9900 := by omega
    refine wpAny_call ?_
    (show codeAny _ _ (Code.call _ ⟨[?x32_0, ?x32_1, ?x32_2, ?x32_3], []⟩) _ _; k_dflt (refine' code_def (binds := [(Str.ofString "told", ?x32_0), (Str.ofString "known", ?x32_1), (Str.ofString "around", ?x32_2), (Str.ofString "solved", ?x32_3)]) ?k1 ?k2 ?k3 ?k4 ?k5 ?kA ?kF ?kK ?k6 ?k7 ?k8 ?k9 ?kB ?_ ?c2 ?c3 ?c4 ?c5; (case kA => exact rfl); (case kF => exact rfl); (case kK => first | exact rfl | assumption); (case k1 => k_asm); (case k2 => k_asm); (case k3 => k_asm); (case k4 => k_asm); (case k5 => k_asm); (case k6 => k_is); (case k7 => k_is); (case k8 => ktr_room); (case k9 => first | exact BindsTo.of_eq rfl | exact binds_K (by k_in) rfl (by k_is) rfl rfl rfl); (case c5 => decide); (case kB => exact locs rfl); (case c2 => exact rfl); (case c3 => exact rfl); (case c4 => exact rfl); k_whole; intro g' L' h' FG' F' N' B' X' T'; (try dsimp only); (try k_fold)))
    k_steps
    refine stop_in ?_
    k_dflt (refine' worth_use (IH _ hlt) ?B ?F ?X ?T ?hk ?N ?hoff ?hkm hkd ?hkr lok hsd ?hsr los ?ham has ?ht hK hS han hax hle.left hok.1 (by omega) (Nat.le_refl _) ?hd ?hu ?_)
    (case B => k_asm)
    (case F => k_asm)
    (case X => k_asm)
    (case T => k_asm)
    (case hk => first | exact rfl | assumption)
    (case N => k_asm)
    (case hoff => k_all)
    (case hkm => k_mem)
    (case hkr => first | exact hkr | exact hkr.mono fun v b h => h.mono (by walk_at "MEM"))
    (case hsr => assumption)
    (case ham => k_mem)
    (case ht => first | assumption | exact ht2.mono (by walk_at "MEM"))
    (case hd => k_room)
    (case hu => k_units)
    intro r1 x1 D1 h1 tk1 so1 sk1 sl1 how hw hb hsd1 hsr1 hS1 hnew hlen hl1 F1 N1
    try k_sweep
    cases x1 with
    | none =>
      cases how
      k_steps
      rename_i kF kN Tc kX
      exact ret .none none D1 _ _ so1 sk1 sl1 rfl (worth_left hw) (fun _ h => (nomatch h)) hsd1 hsr1 hS1 hnew hlen hl1 kF kN
    | some z1 =>
    obtain ⟨i1, pp1, mm1⟩ := z1
    have how1 := how
    cases how with
    | mk hm1 hp1 hq1 =>
    rename_i p1 b1 c1 q1
    k_steps
    refine stop_in ?_
    k_dflt (refine' worth_use (IH _ hlt) ?B ?F ?X ?T ?hk ?N ?hoff ?hkm hkd ?hkr lok hsd1 ?hsr los ?ham has ?ht hK hS1 han hax hle.right hok.2 (by omega) (Nat.le_refl _) ?hd ?hu ?_)
    (case B => k_asm)
    (case F => k_asm)
    (case X => k_asm)
    (case T => k_asm)
    (case hk => first | exact rfl | assumption)
    (case N => k_asm)
    (case hoff => k_all)
    (case hkm => k_mem)
    (case hkr => first | exact hkr | exact hkr.mono fun v b h => h.mono (by walk_at "MEM"))
    (case hsr => assumption)
    (case ham => k_mem)
    (case ht => first | assumption | exact ht2.mono (by walk_at "MEM"))
    (case hd => k_room)
    (case hu => k_units)
    intro r2 x2 D2 h2 tk2 so2 sk2 sl2 how hw2 hb2 hsd2 hsr2 hS2 hnew2 hlen2 hl2 F2 N2
    try k_sweep
    cases x2 with
    | none =>
      cases how
      k_steps
      rename_i kF kN Tc kX
      rw [← List.append_assoc] at kN hsr2
      exact ret .none none (D2 ++ D1) _ _ so2 sk2 sl2 rfl (worth_right hw2) (fun _ h => (nomatch h)) hsd2 hsr2 hS2 (fun y hy => (hnew2 y hy).elim (hnew y) .inr) (Nat.le_trans hlen hlen2) (by krn_off) kF kN
    | some z2 =>
    obtain ⟨i2, pp2, mm2⟩ := z2
    have how2 := how
    cases how with
    | mk hm2 hp2 hq2 =>
    rename_i p2 b2 c2 q2
    have hb1 := hb _ rfl
    have hb2' := hb2 _ rfl
    cases o with
    | add =>
      k_steps
      refine stop_in ?_
      k_dflt (refine' joined_call (x := ⟨i1, pp1, mm1⟩) (y := ⟨i2, pp2, mm2⟩) ?B ?F ?X ?T ?hk ?N ?hx ?hy ?hd ?hu ?_)
      (case B => k_asm)
      (case F => k_asm)
      (case X => k_asm)
      (case T => k_asm)
      (case hk => first | exact rfl | assumption)
      (case N => k_asm)
      (case hx => exact WIn.mono how1 (by walk_at "MEM"))
      (case hy => exact WIn.mono how2 (by walk_at "MEM"))
      (case hd => k_room)
      (case hu => k_units)
      intro r3 D3 h3 tk3 hj hl3 F3 N3
      try k_sweep
      k_steps
      rename_i kF kN Tc kX
      refine ret r3 _ (D3 ++ (D2 ++ D1)) _ _ so2 sk2 sl2 (hj.mono (by walk_at "MEM")) (worth_add hw hw2) (fun z hz => ?_) hsd2 (hsr2.mono fun v b h => h.mono (by walk_at "MEM")) hS2 (fun y hy => (hnew2 y hy).elim (hnew y) .inr) (Nat.le_trans hlen hlen2) (by krn_off) kF (news_sub kN (by walk_at "MEM"))
      have := joinV_w hz
      exact bits_sum hb1 hb2' (by rw [this]; simp only; omega) hlen2 (Tr.lv_pos _) (Tr.lv_pos _)
    | sub =>
      k_steps
      rename_i n1 g1 G1 M1 l1
      refine stop_in ?_
      k_dflt (refine' joined_call (x := ⟨i1, pp1, mm1⟩) (y := ⟨0 - i2, mm2, pp2⟩) ?B ?F ?X ?T ?hk ?N ?hx ?hy ?hd ?hu ?_)
      (case B => k_asm)
      (case F => k_asm)
      (case X => k_asm)
      (case T => k_asm)
      (case hk => first | exact rfl | assumption)
      (case N => k_asm)
      (case hx => exact WIn.mono how1 (by walk_at "MEM"))
      (case hy => exact WIn.mk (.head _) (hq2.mono (by walk_at "MEM")) (hp2.mono (by walk_at "MEM")))
      (case hd => k_room)
      (case hu => k_units)
      intro r3 D3 h3 tk3 hj hl3 F3 N3
      try k_sweep
      k_steps
      rename_i kF kN Tc kX
      refine ret r3 _ (D3 ++ ((n1, _) :: (D2 ++ D1))) _ _ so2 sk2 sl2 (hj.mono ?_) (worth_sub hw hw2) (fun z hz => ?_) hsd2 (hsr2.mono fun v b h => h.mono (by walk_at "MEM")) hS2 (fun y hy => (hnew2 y hy).elim (hnew y) .inr) (Nat.le_trans hlen hlen2) ?_ kF (pullD kN)
      · walk_at "MEM"
      · have := joinV_w hz
        exact bits_sum hb1 hb2' (by rw [this]; simp only; omega) hlen2 (Tr.lv_pos _) (Tr.lv_pos _)
      · krn_off
    | mul =>
      have ok1 := hw.okv ⟨hK.full, hK.ok⟩ hok.1
      have ok2 := hw2.okv ⟨hK.full, hK.ok⟩ hok.2
      have op1 := ok1.1; have om1 := ok1.2; have op2 := ok2.1; have om2 := ok2.2
      have lv1 := Tr.ok_lv hok.1
      have lv2 := Tr.ok_lv hok.2
      have e2d : 2 ^ d ≤ 2 := Nat.le_trans (Nat.pow_le_pow_right (j := 1) (by decide) (by omega)) (by decide)
      have hmul : IntMulOk i1 i2 := mul_ok hb1 hb2' (by omega) (by omega) (hS1.len hK) (hS2.len hK)
      by_cases c1 : pp1 = none ∧ mm1 = none
      · by_cases c2 : pp2 = none ∧ mm2 = none
        · k_steps
          rename_i kF kN Tc kX
          refine ret _ (mulV ⟨i1, pp1, mm1⟩ ⟨i2, pp2, mm2⟩) ([_, _, _, _, _, _, _, _, _, _, _] ++ (D2 ++ D1)) _ _ so2 sk2 sl2 ?_ (worth_mul hw hw2) (fun z hz => ?_) hsd2 (hsr2.mono fun v b h => h.mono ?_) hS2 (fun y hy => (hnew2 y hy).elim (hnew y) .inr) (Nat.le_trans hlen hlen2) ?_ kF (pullN (P := [_, _, _, _, _, _, _, _, _, _, _]) kN)
          · obtain ⟨rfl, rfl⟩ := c1
            obtain ⟨rfl, rfl⟩ := c2
            rw [mulV_some]
            exact WIn.mk (.head _) ⟨_, .tail _ (.tail _ (.head _)), .nil⟩ ⟨_, .tail _ (.head _), .nil⟩
          · obtain ⟨rfl, rfl⟩ := c1
            obtain ⟨rfl, rfl⟩ := c2
            rw [mulV_some] at hz
            cases hz
            exact Nat.lt_of_le_of_lt (Nat.le_of_eq (Int.natAbs_mul _ _)) (bits_prod hb1 hb2' hlen2)
          · walk_at "MEM"
          · krn_off
        · k_steps
          rename_i kF kN Tc kX
          refine ret _ (mulV ⟨i1, pp1, mm1⟩ ⟨i2, pp2, mm2⟩) ([_, _, _, _, _, _, _, _] ++ (D2 ++ D1)) _ _ so2 sk2 sl2 ?_ (worth_mul hw hw2) (fun z hz => ?_) hsd2 (hsr2.mono fun v b h => h.mono ?_) hS2 (fun y hy => (hnew2 y hy).elim (hnew y) .inr) (Nat.le_trans hlen hlen2) ?_ kF (pullN (P := [_, _, _, _, _, _, _, _]) kN)
          · rw [mulV_none (fun h => c2 h.2)]; rfl
          · rw [mulV_none (fun h => c2 h.2)] at hz; cases hz
          · walk_at "MEM"
          · krn_off
      · k_steps
        rename_i kF kN Tc kX
        refine ret _ (mulV ⟨i1, pp1, mm1⟩ ⟨i2, pp2, mm2⟩) ([_, _, _, _] ++ (D2 ++ D1)) _ _ so2 sk2 sl2 ?_ (worth_mul hw hw2) (fun z hz => ?_) hsd2 (hsr2.mono fun v b h => h.mono ?_) hS2 (fun y hy => (hnew2 y hy).elim (hnew y) .inr) (Nat.le_trans hlen hlen2) ?_ kF (pullN (P := [_, _, _, _]) kN)
        · rw [mulV_none (fun h => c1 h.1)]; rfl
        · rw [mulV_none (fun h => c1 h.1)] at hz; cases hz
        · walk_at "MEM"
        · krn_off
theorem worth_all (μ : Nat) : WorthC μ := by
  induction μ using Nat.strongRecOn with
  | ind μ IH =>
    intro w mean mg mb dp un gd cn cs a ccd cl outer A₀ base h₀ L m s E kd ar sd ko so kvs skvs kn sl avs an d M ax v t fro Q B F X T hk N hoff hkm hkd hkr lok hsd hsr los ham has ht hK hS han hax hle hok hd2 hP hμ hd hu ret
    cases t with
    | num i => exact worth_num μ IH B F X T hk N hoff hkm hkd hkr lok hsd hsr los ham has ht hK hS han hax hle hok hd2 ⟨i, rfl⟩ hμ hd hu ret
    | nam x => exact worth_nam' μ IH B F X T hk N hoff hkm hkd hkr lok hsd hsr los ham has ht hK hS han hax hle hok hd2 ⟨x, rfl⟩ hμ hd hu ret
    | neg u => exact worth_neg' μ IH B F X T hk N hoff hkm hkd hkr lok hsd hsr los ham has ht hK hS han hax hle hok hd2 ⟨u, rfl⟩ hμ hd hu ret
    | bin o l r => exact worth_bin μ IH B F X T hk N hoff hkm hkd hkr lok hsd hsr los ham has ht hK hS han hax hle hok hd2 ⟨o, l, r, rfl⟩ hμ hd hu ret

end WorthBPart
section LawPart
open PySem PySem.W PyProof.Rows PySem.Calls
theorem GIn.append {fro : List (Addr × Obj)} {vs us : List Value} {ws zs : List (Str × Tr)} (h : GIn fro vs ws) (k : GIn fro us zs) : GIn fro (vs ++ us) (ws ++ zs) := by
  induction h with
  | nil => exact k
  | cons a b _ ih => exact .cons a b ih
theorem GIn.pairs {fro : List (Addr × Obj)} {vs : List Value} {ws : List (Str × Tr)} (h : GIn fro vs ws) : ∃ ps : List (Str × Value), Rel2 (TIn fro) ps ws ∧ ps.length = vs.length ∧
    ∀ (i : Nat) (p : Str × Value), ps[i]? = some p → ∃ (a : Addr) (t : Tok), vs[i]? = some (.ref a) ∧ (a, tupO [.str p.1 t, p.2]) ∈ fro := by
  induction h with
  | nil => exact ⟨[], .nil, rfl, fun i p h => by simp at h⟩
  | @cons a x tx nv t vs ws h1 h2 _ ih =>
    obtain ⟨ps, r, l, k⟩ := ih
    refine ⟨(x, nv) :: ps, .cons h2 r, by simp [l], fun i p hp => ?_⟩
    cases i with
    | zero => simp at hp; subst hp; exact ⟨_, _, rfl, h1⟩
    | succ i => exact k i p (by simpa using hp)
theorem WIn.part {f g : List (Addr × Obj)} {v : Value} {x : Val} (h : WIn f v x) (s : ∀ p ∈ f, p ∈ g ∨ ∀ its c, p.2.data ≠ .seq its c) : WIn g v x := by
  cases h with
  | mk h k l =>
    obtain ⟨v1, k1, k2⟩ := k
    obtain ⟨v2, l1, l2⟩ := l
    exact .mk ((s _ h).resolve_right fun z => z _ _ rfl) ⟨v1, (s _ k1).resolve_right fun z => z _ _ rfl, k2⟩ ⟨v2, (s _ l1).resolve_right fun z => z _ _ rfl, l2⟩
theorem OWIn.part {f g : List (Addr × Obj)} {v : Value} {x : Option Val} (h : OWIn f v x) (s : ∀ p ∈ f, p ∈ g ∨ ∀ its c, p.2.data ≠ .seq its c) : OWIn g v x := by
  cases x with
  | none => exact h
  | some x => exact WIn.part h s
theorem dict_noseq {prog : Program} {w : World} {o : Obj} {kvs : List (Str × Value)} (h : o.IsDictOf (PySem.strKind prog w) kvs) : ∀ its c, o.data ≠ .seq its c := by
  obtain ⟨es, ep, _, hd, _⟩ := h
  intro its c e; rw [hd] at e; cases e
theorem label_len {x : Str} (h : isLabel x) : x.length ≤ 100 := by
  rcases h with rfl | rfl | rfl <;> decide
theorem worth_ok {M : Int} {kn : List (Str × Tr)} {t : Tr} {v : Val} {d : Nat} (K : KnOk M kn) (h : Worth kn t (some v)) (ht : t.ok M d) : v.ok := by
  obtain ⟨n, ev⟩ := h
  exact Ev.okv (M := M) ⟨K.full, K.ok⟩ ev ht
theorem not_mem_take {β : Type} : ∀ {l : List (Str × β)} {i : Nat} {k : Str} {b : β}, (l.map (·.1)).Nodup → l[i]? = some (k, b) → k ∉ (l.take i).map (·.1)
  | [], i, k, b, _, h => by simp at h
  | p :: l, 0, k, b, _, _ => by simp
  | p :: l, i + 1, k, b, hn, h => by
    rw [List.map_cons, List.nodup_cons] at hn
    have h2 : l[i]? = some (k, b) := by simpa using h
    rw [List.take_succ_cons, List.map_cons, List.mem_cons]
    rintro (e | e)
    · exact hn.1 (e ▸ List.mem_map_of_mem (f := (·.1)) (List.mem_of_getElem? h2))
    · exact not_mem_take hn.2 h2 e
theorem ovDue (a b c d e : Option Value) (m : Str → Option Value) : (fun y => if y = Str.ofString "worth" then a else if y = Str.ofString "name" then b else if y = Str.ofString "due" then c else if y = Str.ofString "worth" then d else if y = Str.ofString "name" then e else m y) = fun y => if y = Str.ofString "due" then c else if y = Str.ofString "worth" then a else if y = Str.ofString "name" then b else m y := by
  funext y
  by_cases e1 : y = Str.ofString "worth"
  · rw [e1]; rfl
  by_cases e2 : y = Str.ofString "name"
  · rw [e2]; rfl
  simp only [if_neg e1, if_neg e2]
theorem turn_news {h₀ h : Heap} {L : Addr} {d t s i : Addr × Obj} {r : List (Addr × Obj)} (N : News h₀ L h (d :: t :: s :: i :: r)) : News h₀ L h (i :: s :: d :: t :: r) :=
  news_sub N fun p hp => by simp only [List.mem_cons] at hp ⊢; rcases hp with h | h | h | h | h <;> simp [h]
/-- what holds before turn i of the loop over known -/
inductive KJ (w : World) (kn : List (Str × Tr)) (base : List (Addr × Obj)) (sd dd : Addr) (i : Nat) (dval : Value) (news₁ : List (Addr × Obj)) : Prop
  | mk (so : Obj) (skvs : List (Str × Value)) (sl : List (Str × Option Val)) (du : Obj) (dkvs : List (Str × Value)) (D3 : List (Addr × Obj)) (e : news₁ = (sd, so) :: (dd, du) :: (D3 ++ base)) (hso : so.IsDictOf (PySem.strKind (RowW.prog (OpenRow.toRowW (OpenLaw.row PySem.Challenge.rw_pb0420_01))) w) skvs) (hsr : Rel2 (OWIn (D3 ++ base)) skvs sl) (hS : SolOk kn sl) (hD3 : ∀ p ∈ D3, p.1 ≠ sd ∧ p.1 ≠ dd) (hdu : du.IsDictOf (PySem.strKind (RowW.prog (OpenRow.toRowW (OpenLaw.row PySem.Challenge.rw_pb0420_01))) w) dkvs)
      (hdv : (dval = .none ∧ ∃ x ∈ (kn.take i).map (·.1), ¬ Has kn (.nam x)) ∨ (dval = .ref dd ∧ ∃ dv, Rel2 (TOut (D3 ++ base)) dkvs dv ∧ dv.map (·.1) = (kn.take i).map (·.1) ∧ ∀ p ∈ dv, Worth kn (.nam p.1) (some p.2))) : KJ w kn base sd dd i dval news₁
/-- the same with the frame -/
inductive KJm (w : World) (kn : List (Str × Tr)) (base : List (Addr × Obj)) (sd dd : Addr) (m : Str → Option Value) (i : Nat) (m₁ : Str → Option Value) (news₁ : List (Addr × Obj)) : Prop
  | mk (uw un : Option Value) (dval : Value) (e : m₁ = fun y => if y = Str.ofString "due" then some dval else if y = Str.ofString "worth" then uw else if y = Str.ofString "name" then un else m y) (h : KJ w kn base sd dd i dval news₁) : KJm w kn base sd dd m i m₁ news₁
/-- the rows drawn so far -/
inductive LawDr (M : Int) (cl0 L₁ L₂ : Addr) (o5 o8 : Obj) (i : Nat) (ys : List Value) (news₁ : List (Addr × Obj)) : Prop
  | mk (D : List (Addr × Obj)) (items : List Value) (n : Nat) (ns : List Int) (rws : List (Str × Tr)) (e : news₁ = (cl0, listOf items.toArray n) :: (D ++ [(L₁, o5), (L₂, o8)])) (hi : IntsAre items ns) (hl : ns.length ≤ 63) (hD : ∀ p ∈ D, p.1 ≠ cl0) (hg : GIn D ys rws) (hk : rws.map (·.1) = (List.range i).map (fun k : Nat => eqName (k : Int))) (hok : ∀ p ∈ rws, p.2.ok M 2) : LawDr M cl0 L₁ L₂ o5 o8 i ys news₁
/-- what holds in the swap loop -/
inductive LawSw (D : List (Addr × Obj)) (rws : List (Str × Tr)) (rl0 cl0 L₁ L₂ : Addr) (o5 o8 : Obj) (news₁ : List (Addr × Obj)) : Prop
  | mk (rvs : List Value) (rn : Nat) (its : List Value) (n : Nat) (ns : List Int) (rws' : List (Str × Tr)) (e : news₁ = (rl0, listOf rvs.toArray rn) :: (cl0, listOf its.toArray n) :: (D ++ [(L₁, o5), (L₂, o8)])) (hi : IntsAre its ns) (hl : ns.length ≤ 63) (hg : GIn D rvs rws') (hp : rws'.Perm rws) : LawSw D rws rl0 cl0 L₁ L₂ o5 o8 news₁
/-- behind the row told twice -/
inductive LawMd (rws : List (Str × Tr)) (rl0 : Addr) (tw : Bool) (news' : List (Addr × Obj)) : Prop
  | mk (D2 : List (Addr × Obj)) (rvs2 : List Value) (rn2 : Nat) (rws2 : List (Str × Tr)) (e : news' = (rl0, listOf rvs2.toArray rn2) :: D2) (hD : ∀ p ∈ D2, p.1 ≠ rl0) (hg : GIn D2 rvs2 rws2) (hp : (tw = false ∧ rws2.Perm rws) ∨ (tw = true ∧ ∃ r' x, rws2 = r' ++ [(x, .num 1)] ∧ r'.Perm rws ∧ x ∈ r'.map (·.1))) : LawMd rws rl0 tw news'
theorem pullC {h₀ h : Heap} {L : Addr} {a b y : Addr × Obj} {r : List (Addr × Obj)} (N : News h₀ L h (a :: b :: y :: r)) : News h₀ L h (y :: a :: b :: r) :=
  news_sub N fun p hp => by simp only [List.mem_cons] at hp ⊢; rcases hp with h | h | h | h <;> simp [h]
theorem GIn.set {fro : List (Addr × Obj)} {vs : List Value} {ws : List (Str × Tr)} (h : GIn fro vs ws) : ∀ {i : Nat} {a : Addr} {x : Str} {tx : Tok} {nv : Value} {t : Tr}, (a, tupO [.str x tx, nv]) ∈ fro → TIn fro nv t → GIn fro (vs.set i (.ref a)) (ws.set i (x, t)) := by
  induction h with
  | nil => intro i a x tx nv t _ _; exact .nil
  | cons a b c ih =>
    intro i a' x tx nv t h1 h2
    cases i with
    | zero => exact .cons h1 h2 c
    | succ i => exact .cons a b (ih h1 h2)
theorem set_swap_perm {α : Type} (l : List α) (i j : Nat) (hi : i < l.length) (hj : j < l.length) : ((l.set i l[j]).set j l[i]).Perm l := by
  have h := Array.swap_perm (xs := l.toArray) (i := i) (j := j) (by simpa using hi) (by simpa using hj)
  have h2 := Array.perm_iff_toList_perm.mp h
  simpa [Array.swap] using h2
theorem GIn.swap {fro : List (Addr × Obj)} {vs : List Value} {ws : List (Str × Tr)} (h : GIn fro vs ws) {i j : Nat} {va vb : Value} (hi : vs[i]? = some va) (hj : vs[j]? = some vb) : ∃ ws', GIn fro ((vs.set i vb).set j va) ws' ∧ ws'.Perm ws := by
  obtain ⟨a1, x1, t1, n1, r1, rfl, e1, f1, g1⟩ := gIn_get h hi
  obtain ⟨a2, x2, t2, n2, r2, rfl, e2, f2, g2⟩ := gIn_get h hj
  refine ⟨_, (h.set (i := i) f2 g2).set (i := j) f1 g1, ?_⟩
  obtain ⟨l1, q1⟩ := List.getElem?_eq_some_iff.mp e1
  obtain ⟨l2, q2⟩ := List.getElem?_eq_some_iff.mp e2
  have := set_swap_perm ws i j l1 l2
  rwa [q1, q2] at this
local macro_rules | `(tactic| walk_at $k) => stopAt ["setItem ref int", "setItem ref str", "Mid0", "call type:dict", "compareOp Eq"] k
local macro_rules | `(tactic| walk_at "subscriptTail Name Name ref int") => `(tactic| (k_here; (with_reducible show wpAny _ _ (subscriptTail _ _ (Value.ref _) (Value.int _ _)) _ _ _); (with_unfolding_all refine' list_item ?N ?hl ?h0 ?h1 ?hx ?_ ?hs; (case N => k_asm); (case hl => kbo_bools); (case h0 => omega); (case h1 => omega); (case hx => assumption); (case hs => with_unfolding_all rfl))))
local macro_rules | `(tactic| walk_at "execs cons") => `(tactic| ((with_reducible show wpAny _ _ (execs (Stmt.If (Expr.Name _ _) _ _ _ :: _) _) _ _ _); refine stop_out ?_))
local macro_rules | `(tactic| walk_at "subscriptTail Name Constant ref int") => `(tactic| (k_here; (with_reducible show wpAny _ _ (subscriptTail _ _ (Value.ref _) (Value.int _ _)) _ _ _); (with_unfolding_all refine' list_item ?N ?hl ?h0 ?h1 ?hx ?_ ?hs; (case N => k_asm); (case hl => kbo_bools); (case h0 => omega); (case h1 => omega); (case hx => assumption); (case hs => with_unfolding_all rfl))))
local macro_rules | `(tactic| walk_at "call builtin:str.join") => `(tactic| (k_here; k_dflt (refine' join_opt (by k_asm) (by kbo_bools) (by assumption) (by assumption) ?_); intro tj kj))
local macro_rules | `(tactic| walk_at "subscriptTail Name Slice ref ref") => `(tactic| (k_here; k_dflt (refine' rows_rev (by k_asm) (by k_asm) (by kbo_bools) (IsPart.int _ _) (by assumption) ?_ (by with_unfolding_all rfl) (by kmk_pure)); intro D' h' F' N' l1))
local macro_rules | `(tactic| k_qdec) => `(tactic| decide +kernel)
theorem law_walk : PySem.Challenge.rw_pb0420_01.Holds := hd (by
  k_go0
  all_goals try k_fold
  rename_i w s₀ s₁ mg mb G Y fa o pm doc ho hg X XP V GL T B TE TW wa wo M cd w8 hcd script hs hlay0 hLL hrr hl2 w6 w5 sa vs w2 hls ra w1 r0 hI hr2 hc1 hc2 K0 hD h1 tk1 F o1 o2 oL oR N0 X0
  have hQ : ∀ h' tk' m', Fr s₁.heap s₁.heap.objs.size h' m' → GoodW (RowW.claim (OpenRow.toRowW (OpenLaw.row Challenge.rw_pb0420_01))) (classAt s₀.heap) (ExcName.means s₀.heap) [ofPy (PyData.list (List.map PyData.int script))] s₁ (Except.ok (Flow.ret (.bool true))) { s₁ with heap := h', toks := tk' } := by
    intro h' tk' m' F'
    k_steps
  refine wpAny_mono (Q := fun f s' => f = .ret (.bool true) ∧ ∃ h' tk' m', s' = { s₁ with heap := h', toks := tk' } ∧ Fr s₁.heap s₁.heap.objs.size h' m') (E := fun _ _ => False) ?_ ?_ (fun _ _ h => h.elim)
  rotate_left
  · rintro f s' ⟨rfl, h', tk', m', rfl, F'⟩
    exact hQ h' tk' m' F'
  have e63 : script.take 63 = script := List.take_of_length_le (by omega)
  clear hQ G TE TW V GL M hcd hD ho hg Y B XP ra w1 r0 hs hlay0 hLL hrr hl2 hr2 hc2
  try dsimp only at F N0 X0 oL oR ⊢
  have K0 : Below callerA s₁.heap [] s₁.heap := K0
  generalize hLg : s₁.heap.objs.size = L at *
  have F1 : Fr s₁.heap L h1 (fun y => if y = Str.ofString "script" then some (.ref sa) else none) := by with_unfolding_all exact F
  have oL1 : o1.data = .cell none := by with_unfolding_all exact oL
  have oR1 : o2.data = .cell none := by with_unfolding_all exact oR
  clear F X0 oL oR
  have hT1 : L + 1 ≠ L + 1 + 1 := by omega
  k_steps
  rename_i l0 vs0 h2 F2 N2 hI2 hC2 hL2 l2
  rw [e63] at hI2 hC2 hL2
  refine stop_in (LCg.CompSrc.ledger rfl F2 N2 (by k_mem) (by have := hI2.length; simp [sizeLine_eq]; omega) fun g9 => ?_)
  refine compU (fun i ys news₁ => news₁ = [(l0, listOf vs0.toArray 0), (L + 1 + 1, o1), (L + 1, o2)] ∧ IntsAre ys (script.take i)) ?_ ?_ _ 0 [] _ (Nat.zero_add _) ⟨rfl, .nil⟩
  · rintro i v ys news₁ I oI C oC D m₂ h tk E' hi hv ⟨rfl, hys⟩ hn hx F3 N3 o3 hne
    obtain ⟨z, t1, rfl, hz⟩ := hI2.at i v (by simpa using hv)
    k_steps
    refine stop_in (LCg.CompEnd.intro F3 N3 _ (sub_refl _) o3 (.inr ⟨_, by kbo_bools, rfl, _, rfl⟩) ⟨rfl, ?_⟩)
    rw [List.take_add_one, hz]
    exact hys.append (.cons _ _ .nil)
  · rintro ys news₁ ⟨rfl, hys⟩ cl0 h3 tk3 F4 N4 o4
    have hys2 : IntsAre ys script := by
      have e : vs0.toArray.size = script.length := by simp [hI2.length]
      rw [e, List.take_length] at hys
      exact hys
    try dsimp only
    k_steps
    rename_i h5 o5 F5 N5 d5 _
    have N6 := news_sub N5 (l' := (cl0, LCg.lst ys) :: [(L + 1, o5), (L + 1 + 1, o1)]) (by walk_at "MEM")
    clear N5 N2
    have hc1 : L + 1 ≠ cl0 := o4.2.2.1
    have hc2 : L + 1 + 1 ≠ cl0 := o4.2.1
    refine stop_in ?_
    k_dflt (refine' next_call (ns := script) (M := 7) ?B ?F ?X ?T ?hk ?N ?hoff hys2 ?hM ?hlen ?hd ?hu ?_; (case B => k_asm); (case F => k_asm); (case X => k_asm); (case T => k_asm); (case hk => first | exact rfl | assumption); (case N => exact N6); (case hoff => kp_flats); (case hM => decide); (case hlen => omega); (case hd => k_room); (case hu => k_units))
    intro r7 h7 tk7 items7 ns7 n7 t7 hr0 hr1 hi7 hlen7 F7 N7
    k_steps
    rename_i h8 o8 F8 N8 d8 _ h9 tk9 ta tb tc hR F9 N9 up9
    have hM1 : 1 ≤ 1 + r7 := by omega
    have hM7 : 1 + r7 ≤ 7 := by omega
    generalize 1 + r7 = M at *
    clear F8 N8 up9
    refine stop_in (LCg.CompSrc.range (n := M.toNat) rfl F9 N9 hR (small_one (by decide) (by decide) (by omega) (by omega)) (by rw [rangeSize_one]; split <;> omega) (by simp [sizeLine_eq]; omega) fun g10 => ?_)
    refine compU (LawDr M cl0 (L + 1) (L + 1 + 1) o5 o8) ?_ ?_ _ 0 [] _ (Nat.zero_add _) ⟨[], _, _, _, [], rfl, hi7, hlen7, fun _ h => (nomatch h), .nil, rfl, fun _ h => (nomatch h)⟩
    · rintro i v ys news₁ I oI C oC D2 m₂ h tk E' hi hv ⟨D, its, n, ns, rws, rfl, hi3, hl3, hD3, hg3, hk3, hok3⟩ hn hx F3 N3 o3 hne
      obtain ⟨t1, rfl⟩ := hv
      rw [Int.zero_add] at hx
      k_steps
      rename_i t9 k9 a9
      have x1 : I ≠ cl0 := Ne.symm o3.1.1
      have x2 : C ≠ cl0 := Ne.symm o3.1.2.1
      have x3 : D2 ≠ cl0 := Ne.symm o3.1.2.2
      have N4 := news_sub N3 (l' := (cl0, listOf its.toArray n) :: (I, oI) :: (C, oC) :: (D2, LCg.lst ys) :: (D ++ [(L + 1, o5), (L + 1 + 1, o8)])) (by walk_at "MEM")
      refine stop_in ?_
      k_dflt (refine' told_useD toldD2 (M := M) (ns := ns) ?B ?F ?X ?T ?hk ?N ?hoff hi3 ?hM hM7 ?hdv hl3 ?hd ?hu ?_; (case B => k_asm); (case F => k_asm); (case X => k_asm); (case T => k_asm); (case hk => first | exact rfl | assumption); (case N => exact N4); (case hoff => kp_flats); (case hM => omega); (case hdv => rfl); (case hd => k_room); (case hu => k_units))
      intro v5 tr5 D5 h5 tk5 its5 ns5 n5 hok5 ht5 l5 hi5 hl5 F5 N5
      k_steps
      rename_i T6 h6 F6 N6 l6
      have lT : Later ((T6, tupO [.str (eqName (i : Int)) t9, v5]) :: D5) ((cl0, listOf its.toArray n) :: (I, oI) :: (C, oC) :: (D2, LCg.lst ys) :: (D ++ [(L + 1, o5), (L + 1 + 1, o8)])) := by
        refine Later.consN (fun p hp => ?_) l5
        rcases List.mem_cons.mp hp with rfl | hp
        · exact Nat.ne_of_lt l6.1
        · exact allLt_ne l6.2 p (List.mem_append_right _ hp)
      have off6 : LCg.Off3 I C D2 ((cl0, listOf its5.toArray n5) :: ((((T6, tupO [.str (eqName (i : Int)) t9, v5]) :: D5) ++ D) ++ [(L + 1, o5), (L + 1 + 1, o8)])) := by
        refine LCg.Off3.of fun p hp => ?_
        rcases List.mem_cons.mp hp with rfl | hp
        · exact o3.1
        rw [List.append_assoc] at hp
        rcases List.mem_append.mp hp with hp | hp
        · exact ⟨lT.ne (c := I) (o := oI) (by k_mem) p hp, lT.ne (c := C) (o := oC) (by k_mem) p hp, lT.ne (c := D2) (o := LCg.lst ys) (by k_mem) p hp⟩
        · exact o3.2.mem p hp
      refine stop_in (LCg.CompEnd.intro F6 N6 _ ?_ off6 trivial ⟨((T6, tupO [.str (eqName (i : Int)) t9, v5]) :: D5) ++ D, its5, n5, ns5, rws ++ [(eqName (i : Int), tr5)], rfl, hi5, hl5, ?_, ?_, ?_, ?_⟩)
      · simp only [List.cons_append, List.append_assoc]; walk_at "MEM"
      · intro p hp
        rcases List.mem_append.mp hp with hp | hp
        · exact lT.ne (c := cl0) (o := listOf its.toArray n) (by k_mem) p hp
        · exact hD3 p hp
      · exact (hg3.mono (sub_right (sub_refl _))).append (.cons (.head _) (ht5.mono (by walk_at "MEM")) .nil)
      · rw [List.map_append, hk3, List.range_succ, List.map_append]; rfl
      · intro p hp
        rcases List.mem_append.mp hp with hp | hp
        · exact hok3 p hp
        · rw [List.mem_singleton.mp hp]; exact hok5
    · rintro ys news₁ ⟨D, its, n, ns, rws, rfl, hi3, hl3, hD3, hg3, hk3, hok3⟩ rl0 h3 tk3 F11 N11 o11
      try dsimp only
      k_steps
      walk_at "FOR"
      k_steps
      have hol : ∀ p ∈ (cl0, listOf its.toArray n) :: (D ++ [(L + 1, o5), (L + 1 + 1, o8)]), p.1 ≠ rl0 := fun p hp => off1_ne o11 p hp
      rename_i F10 N10 h12 tk12 ta2 tb2 tc2 hR2 F12 N12 up12
      try dsimp only at F12
      clear F10 N10 up12
      refine stop_in (forS_range (σ := Option Value × Option Value) (l := L + 1) (lo := o5) (n := M.toNat) (fun m u y => if y = Str.ofString "spot" then u.2 else if y = Str.ofString "number" then u.1 else m y)
        (fun i u news₁ => LawSw D rws rl0 cl0 (L + 1) (L + 1 + 1) o5 o8 news₁) (a₀ := (_, _)) rfl F12 (same00 _ _ _) N12 (by k_mem) hR2 (small_one (by decide) (by decide) (by omega) (by omega)) (by rw [rangeSize_one]; split <;> omega) ⟨_, _, _, _, _, rws, rfl, hi3, hl3, hg3, List.Perm.refl _⟩ ?_ ?_)
      · rintro i t₁ ⟨u1, u2⟩ news₁ I io h tk hi ⟨rvs, rn, its, n, ns, rws', rfl, hi4, hl4, hg4, hp4⟩ hlm hoI F13 N13
        try dsimp only at F13
        have hrl4 := hg4.length
        have hrw4 := hp4.length_eq
        have hrw0 : rws.length = M.toNat := by have := congrArg List.length hk3; simpa using this
        have x1 : ∀ p ∈ D, p.1 ≠ rl0 := fun p hp => hol p (by k_mem)
        have x2 : cl0 ≠ rl0 := hol _ (.head _)
        have x3 : L + 1 ≠ rl0 := hol (L + 1, o5) (by k_mem)
        have x4 : L + 1 + 1 ≠ rl0 := hol (L + 1 + 1, o8) (by k_mem)
        have x5 : rl0 ≠ I := hoI _ (.head _)
        have x6 : cl0 ≠ I := hoI _ (.tail _ (.head _))
        have x7 : rl0 ≠ cl0 := Ne.symm x2
        have x8 : I ≠ cl0 := Ne.symm x6
        have x9 : I ≠ rl0 := Ne.symm x5
        k_steps
        have N14 := news_sub N13 (l' := (cl0, listOf its.toArray n) :: (rl0, listOf rvs.toArray rn) :: (I, io) :: (D ++ [(L + 1, o5), (L + 1 + 1, o8)])) (by walk_at "MEM")
        refine stop_in ?_
        k_dflt (refine' next_call (ns := ns) (M := M) ?B ?F ?X ?T ?hk ?N ?hoff hi4 ?hM ?hlen ?hd ?hu ?_; (case B => k_asm); (case F => k_asm); (case X => k_asm); (case T => k_asm); (case hk => first | exact rfl | assumption); (case N => exact N14); (case hoff => kp_flats); (case hM => omega); (case hlen => exact hl4); (case hd => k_room); (case hu => k_units))
        intro r5 h5 tk5 its5 ns5 n5 tr5 hr50 hr51 hi5 hl5 F5 N5
        have N6 := news_sub N5 (l' := (rl0, listOf rvs.toArray rn) :: (cl0, listOf its5.toArray n5) :: (I, io) :: (D ++ [(L + 1, o5), (L + 1 + 1, o8)])) (by walk_at "MEM")
        clear N5
        obtain ⟨va, hva⟩ : ∃ v, rvs[i]? = some v := ⟨_, List.getElem?_eq_getElem (by omega)⟩
        obtain ⟨vb, hvb⟩ : ∃ v, rvs[r5.toNat]? = some v := ⟨_, List.getElem?_eq_getElem (by omega)⟩
        have hva' : rvs[(i : Int).toNat]? = some va := by simpa using hva
        k_steps
        rename_i h6 _ T6 h7 l6 h8 F8 N8
        have N9 := news_sub N8 (l' := (rl0, listOf rvs.toArray rn) :: (cl0, listOf its5.toArray n5) :: (I, io) :: (D ++ [(L + 1, o5), (L + 1 + 1, o8)])) (by walk_at "MEM")
        refine stop_in (list_set F8 N9 (by kp_flats) (by omega) (by omega) (by omega) fun h9 F9 N10 => ?_)
        k_steps
        refine stop_in (list_set F9 N10 (by kp_flats) (by omega) (by omega) (by rw [List.length_set]; omega) fun h11 F11 N12 => ?_)
        k_steps
        obtain ⟨rws2, hg5, hp5⟩ := hg4.swap hva' hvb
        have ho : ∀ p ∈ (rl0, listOf ((rvs.set (i : Int).toNat vb).set r5.toNat va).toArray rn) :: (cl0, listOf its5.toArray n5) :: (D ++ [(L + 1, o5), (L + 1 + 1, o8)]), p.1 ≠ I := by
          intro p hp
          rcases List.mem_cons.mp hp with rfl | hp
          · exact x5
          rcases List.mem_cons.mp hp with rfl | hp
          · exact x6
          · exact hoI p (.tail _ (.tail _ hp))
        have N13' := news_sub N12 (l' := (I, io) :: (rl0, listOf ((rvs.set (i : Int).toNat vb).set r5.toNat va).toArray rn) :: (cl0, listOf its5.toArray n5) :: (D ++ [(L + 1, o5), (L + 1 + 1, o8)])) (by walk_at "MEM")
        exact stop_in (TurnEnd.intro F11 N13' ho (by k_mem) ⟨(_, _), ov2 _ _ _ _ _ _ _, _, _, its5, n5, ns5, rws2, rfl, hi5, hl5, hg5, hp5.trans hp4⟩)
      · rintro ⟨u1, u2⟩ news₁ h tk ⟨rvs, rn, its, n, ns, rws', rfl, hi4, hl4, hg4, hp4⟩ hlm F13 N13
        try dsimp only at F13
        try dsimp only
        have x1 : ∀ p ∈ D, p.1 ≠ rl0 := fun p hp => hol p (by k_mem)
        have x2 : cl0 ≠ rl0 := hol _ (.head _)
        have x3 : L + 1 ≠ rl0 := hol (L + 1, o5) (by k_mem)
        have x4 : L + 1 + 1 ≠ rl0 := hol (L + 1 + 1, o8) (by k_mem)
        have x7 : rl0 ≠ cl0 := Ne.symm x2
        have N14 := news_sub N13 (l' := (cl0, listOf its.toArray n) :: (rl0, listOf rvs.toArray rn) :: (D ++ [(L + 1, o5), (L + 1 + 1, o8)])) (by walk_at "MEM")
        k_steps
        refine stop_in ?_
        k_dflt (refine' next_call (ns := ns) (M := 9) ?B ?F ?X ?T ?hk ?N ?hoff hi4 ?hM ?hlen ?hd ?hu ?_; (case B => k_asm); (case F => k_asm); (case X => k_asm); (case T => k_asm); (case hk => first | exact rfl | assumption); (case N => exact N14); (case hoff => kp_flats); (case hM => decide); (case hlen => exact hl4); (case hd => k_room); (case hu => k_units))
        intro r9 h5 tk5 its5 ns5 n5 tr5 hr50 hr51 hi5 hl5 F5 N5
        clear N14 N13 F13 hi4 hl4
        k_steps
        rename_i h6 F6 N6
        generalize (r9 == 8) = tw at *
        have hrl4 := hg4.length
        have hrw4 := hp4.length_eq
        have hrw0 : rws.length = M.toNat := by have := congrArg List.length hk3; simpa using this
        obtain ⟨v0, hv0⟩ : ∃ v, rvs[(0 : Int).toNat]? = some v := ⟨_, List.getElem?_eq_getElem (by simp; omega)⟩
        have N7 := news_sub N6 (l' := (rl0, listOf rvs.toArray rn) :: (D ++ [(L + 1, o5), (L + 1 + 1, o8)])) (by walk_at "MEM")
        refine stop_in (mid0_stmt (LawMd rws rl0 tw) F6 ?_ ?_)
        · cases tw with
          | false =>
            k_steps
            exact stop_in (Mid0.intro F6 N7 ⟨_, rvs, rn, rws', rfl, by kp_flats, hg4.mono (sub_left (sub_refl _)), .inl ⟨rfl, hp4⟩⟩)
          | true =>
            obtain ⟨a0, x0, t0, n0, r0, rfl, q1, q2, q3⟩ := gIn_get hg4 hv0
            clear N6
            k_steps
            rename_i T1 _ l1 T2 _ l2 h8 F8 N8
            have z1 : T1 ≠ rl0 := Nat.ne_of_gt l1.1
            have z2 : T2 ≠ rl0 := Nat.ne_of_gt l2.2.1
            have hD2 : ∀ (x y : Obj), ∀ p ∈ (T2, x) :: (T1, y) :: (D ++ [(L + 1, o5), (L + 1 + 1, o8)]), p.1 ≠ rl0 := by intro x y; kp_flats
            have N9 := pullC N8
            rw [List.push_toArray] at N9
            refine stop_in (Mid0.intro F8 N9 ⟨_, rvs ++ [Value.ref T2], _, rws' ++ [(x0, .num 1)], rfl, hD2 _ _, ?_, .inr ⟨by trivial, rws', x0, rfl, hp4, ?_⟩⟩)
            · exact (hg4.mono (by walk_at "MEM")).append (.cons (.head _) (.num (.tail _ (.head _))) .nil)
            · exact List.mem_map_of_mem (f := (·.1)) (List.mem_of_getElem? q1)
        · rintro news' h12 tk12 F12 N12 ⟨D2, rvs2, rn2, rws2, rfl, hD2, hg2, hp2⟩
          clear hg4 hp4
          k_steps
          have hRows := Rows.of hM7 hM1 hk3 hok3 hp2
          have hKn := hRows.kn hM7
          obtain ⟨ps, hps, hpl, hpt⟩ := hg2.pairs
          have hg2l := hg2.length
          have hr8 := hRows.len
          refine stop_in (dict_pairsN (knd := PySem.strKind (RowW.prog (OpenRow.toRowW (OpenLaw.row PySem.Challenge.rw_pb0420_01))) w) (items := rvs2) (c := rn2) (ps := ps) rfl F12 N12 (Nat.lt_trans (by decide) (Heap.lt_size (X 408 _ (by with_unfolding_all rfl)))) (.head _) hpl.symm (by simp [sizeLine_eq]; omega) (fun i p hp => ?_) ?_)
          · obtain ⟨a9, t9, e1, e2⟩ := hpt i p hp
            exact ⟨a9, _, e1, .tail _ e2, by simp [PySem.strKind, Value.isStrOf]⟩
          intro h13 tk13 kd ko F13 N13 hkd lok l13
          have hkr := rel2_putAll hps (acc := []) (bcc := []) .nil
          generalize ps.foldl (fun a p => stored a p.1 p.2) [] = kvs at *
          have y1 : rl0 ≠ kd := Nat.ne_of_lt (l13 _ (.head _))
          have y2 : ∀ p ∈ D2, p.1 ≠ kd := fun p hp => Nat.ne_of_lt (l13 p (.tail _ hp))
          clear l13 F12 N12 hpt hps hpl
          k_steps
          rename_i dd _ do0 ldd hdd _ _ _ ldl sd _ so0 lsd hsd _ _ _ lsl T14 _ lT _ _ _ h14 F14 N14
          walk_at "FOR"
          k_steps
          rename_i F15
          have N16 := news_sub N14 (l' := (sd, so0) :: (dd, do0) :: ([] ++ ((kd, ko) :: (rl0, listOf rvs2.toArray rn2) :: D2))) (by walk_at "MEM")
          clear N14
          have q1 : ∀ p ∈ D2, p.1 ≠ sd := allLt_ne lsl.2.2.2
          have q2 : ∀ p ∈ D2, p.1 ≠ dd := allLt_ne ldl.2.2
          have q3 : kd ≠ sd := Nat.ne_of_lt lsl.2.1
          have q4 : rl0 ≠ sd := Nat.ne_of_lt lsl.2.2.1
          have q5 : kd ≠ dd := Nat.ne_of_lt ldl.1
          have q6 : rl0 ≠ dd := Nat.ne_of_lt ldl.2.1
          have q7 : dd ≠ sd := Nat.ne_of_lt lsl.1
          have q8 : sd ≠ dd := Ne.symm q7
          clear lT lsl ldl
          refine stop_in (for_keysI (d := kd) (o := ko) (KJm w (putAll rws2 []) ((kd, ko) :: (rl0, listOf rvs2.toArray rn2) :: D2) sd dd (fun y => if y = Str.ofString "known" then some (.ref kd) else if y = Str.ofString "solved" then some (.ref sd) else if y = Str.ofString "is_twice" then some (.bool tw) else if y = Str.ofString "spot" then u2 else if y = Str.ofString "number" then u1 else if y = Str.ofString "rows" then some (.ref rl0) else if y = Str.ofString "script" then some (.ref sa) else none)) rfl F15 N16 (by k_mem) hkd lok ?_ ?_ ?_)
          · refine ⟨none, none, .ref dd, ?_, so0, [], [], do0, [], [], rfl, hsd, .nil, ⟨by simp, fun _ h => (nomatch h), fun _ h => (nomatch h), fun _ h => (nomatch h)⟩, fun _ h => (nomatch h), hdd, .inr ⟨rfl, [], .nil, rfl, fun _ h => (nomatch h)⟩⟩
            funext y
            by_cases e1 : y = Str.ofString "known"
            · rw [e1]; rfl
            by_cases e2 : y = Str.ofString "due"
            · rw [e2]; rfl
            by_cases e3 : y = Str.ofString "worth"
            · rw [e3]; rfl
            by_cases e4 : y = Str.ofString "name"
            · rw [e4]; rfl
            simp only [if_neg e1, if_neg e2, if_neg e3, if_neg e4]
          · rintro i k z t m₁ news₁ I io h tk hio hkz ⟨uw, un, dval, rfl, so, skvs, sl, du, dkvs, D3, rfl, hso, hsr, hS, hD3, hdu, hdv⟩ hlm hoI F17 N17
            try dsimp only at F17
            obtain ⟨tr, e3, hz1⟩ := rel2_at hkr hkz
            have hkin := List.mem_of_getElem? e3
            obtain ⟨_, j, ej, hj⟩ := hRows.ok _ ((putAll_mem hkin).resolve_left (fun h => nomatch h))
            have lT17 : ∀ p ∈ (I, io) :: (sd, so) :: (dd, du) :: (D3 ++ ((kd, ko) :: (rl0, listOf rvs2.toArray rn2) :: D2)), p.1 < h.objs.size := fun p hp => Heap.lt_size (N17 p hp).1
            k_steps
            rename_i tkq h18 hk18 x18 nm18 l18 h19 F18 N18 l19
            clear hk18 x18 nm18
            have w1 : ∀ p ∈ D3, p.1 ≠ sd := fun p hp => (hD3 p hp).1
            have w2 : ∀ p ∈ D3, p.1 ≠ dd := fun p hp => (hD3 p hp).2
            have w3 : I ≠ sd := Ne.symm (hoI _ (.head _))
            have w4 : h.objs.size ≠ sd := Nat.ne_of_gt (lT17 _ (.tail _ (.head _)))
            have w5 : l18 ≠ sd := Nat.ne_of_gt l19.2.2.1
            try dsimp only at N18 F18
            have w6 : h.objs.size < l18 := l19.1
            generalize h.objs.size = T17 at *
            have N19 := pull3 N18
            simp only [List.cons_append, List.nil_append] at N19
            refine stop_in ?_
            k_dflt (refine' worth_use (worth_all 28) (kd := kd) (ar := l18) (sd := sd) (kvs := kvs) (kn := putAll rws2 []) (M := M) (ax := []) (avs := []) (t := .nam k) (d := 0) ?B ?F ?X ?T ?hk N19 ?hoff ?hkm hkd ?hkr lok hso ?hsr lsd ?ham .nil ?ht hKn hS .nil ?hax Leans.nil ?hok ?hd2 ?hμ ?hd ?hu ?ret; (case B => k_asm); (case F => k_asm); (case X => k_asm); (case T => k_asm); (case hk => first | exact rfl | assumption); (case hoff => kp_flats); (case hkm => k_mem); (case hkr => exact hkr.mono fun v b z => TIn.mono z (by walk_at "MEM")); (case hsr => exact hsr.mono fun v b z => OWIn.mono z (by walk_at "MEM")); (case ham => exact .head _); (case ht => exact TIn.nam (.tail _ (.head _))); (case hax => exact fun _ z => nomatch z); (case hok => exact Or.inr ⟨_, Int.natCast_nonneg j, hj, ej⟩); (case hd2 => decide); (case hμ => decide); (case hd => k_room); (case hu => k_units))
            case ret =>
              intro r x D5 h20 tk20 so' skvs' sl' how hwt _ hso' hsr' hS' _ _ lD5 F20 N20
              clear N18 N19 F18
              have hpart : ∀ p ∈ D5 ++ ((l18, listOf #[] 0) :: (T17, tupO [.str (Str.ofString "name") tkq, .str k t]) :: (I, io) :: (dd, du) :: (D3 ++ ((kd, ko) :: (rl0, listOf rvs2.toArray rn2) :: D2))), p ∈ (D5 ++ ((l18, listOf #[] 0) :: (T17, tupO [.str (Str.ofString "name") tkq, .str k t]) :: D3)) ++ ((kd, ko) :: (rl0, listOf rvs2.toArray rn2) :: D2) ∨ ∀ its c, p.2.data ≠ .seq its c := by
                intro p hp
                simp only [List.mem_append, List.mem_cons] at hp ⊢
                rcases hp with h | h | h | h | h | h
                · simp [h]
                · simp [h]
                · simp [h]
                · right; rw [h]; exact hio
                · right; rw [h]; exact dict_noseq hdu
                · left; rcases h with h | h | h | h <;> simp [h]
              have how2 := how.part hpart
              have hsr2 := hsr'.mono fun v b z => OWIn.part z hpart
              have hoff2 : ∀ p ∈ D5 ++ ((l18, listOf #[] 0) :: (T17, tupO [.str (Str.ofString "name") tkq, .str k t]) :: D3), p.1 ≠ sd ∧ p.1 ≠ dd := by
                intro p hp
                simp only [List.mem_append, List.mem_cons] at hp
                rcases hp with h | h | h | h
                · exact ⟨lD5.ne (c := sd) (o := so) (.head _) p h, lD5.ne (c := dd) (o := du) (by k_mem) p h⟩
                · rw [h]; exact ⟨w5, Nat.ne_of_gt l19.2.2.2.1⟩
                · rw [h]; exact ⟨w4, Nat.ne_of_gt (lT17 (dd, du) (by k_mem))⟩
                · exact hD3 p h
              have w7 : I ≠ dd := Ne.symm (hoI _ (.tail _ (.head _)))
              have N21 : News s₁.heap L h20 ((dd, du) :: (sd, so') :: (I, io) :: ((D5 ++ ((l18, listOf #[] 0) :: (T17, tupO [.str (Str.ofString "name") tkq, .str k t]) :: D3)) ++ ((kd, ko) :: (rl0, listOf rvs2.toArray rn2) :: D2))) := news_sub N20 (by simp only [List.append_assoc, List.cons_append]; walk_at "MEM")
              have hIE : ∀ p ∈ (dd, du) :: (sd, so') :: ((D5 ++ ((l18, listOf #[] 0) :: (T17, tupO [.str (Str.ofString "name") tkq, .str k t]) :: D3)) ++ ((kd, ko) :: (rl0, listOf rvs2.toArray rn2) :: D2)), p.1 ≠ I := by
                intro p hp
                simp only [List.mem_append, List.mem_cons] at hp
                rcases hp with h | h | (h | h | h | h) | h | h | h
                · rw [h]; exact Ne.symm w7
                · rw [h]; exact Ne.symm w3
                · exact lD5.ne (c := I) (o := io) (by k_mem) p h
                · rw [h]; exact Nat.ne_of_gt l19.2.1
                · rw [h]; exact Nat.ne_of_gt (lT17 (I, io) (.head _))
                · exact hoI p (by k_mem)
                · rw [h]; exact hoI _ (by k_mem)
                · rw [h]; exact hoI _ (by k_mem)
                · exact hoI p (by k_mem)
              have hDE : ∀ p ∈ D3, p ∈ D5 ++ ((l18, listOf #[] 0) :: (T17, tupO [.str (Str.ofString "name") tkq, .str k t]) :: D3) := sub_right (sub_tail (sub_tail (sub_refl _)))
              clear how hsr' hpart lD5 N20 l19 lT17
              generalize hE : D5 ++ ((l18, listOf #[] 0) :: (T17, tupO [.str (Str.ofString "name") tkq, .str k t]) :: D3) = E3 at *
              clear hE
              have hkt : k ∈ ((putAll rws2 []).take (i + 1)).map (·.1) := by rw [List.take_add_one, e3]; simp
              have hkt9 : ∀ y ∈ ((putAll rws2 []).take i).map (·.1), y ∈ ((putAll rws2 []).take (i + 1)).map (·.1) := fun y hy => by rw [List.take_add_one, List.map_append]; exact List.mem_append_left _ hy
              cases x with
              | none =>
                have how3 : r = .none := how2
                subst how3
                k_steps
                rename_i F22 N22
                have N23 := news_sub N22 (l' := (I, io) :: (sd, so') :: (dd, du) :: (E3 ++ ((kd, ko) :: (rl0, listOf rvs2.toArray rn2) :: D2))) (by walk_at "MEM")
                exact TurnEnd.intro F22 N23 (fun p hp => hIE p (by simp only [List.mem_cons] at hp ⊢; rcases hp with h | h | h <;> simp [h])) (by k_mem) ⟨_, _, _, ov3 _ _ _ _ _ _ _ _ _ _, so', skvs', sl', du, dkvs, E3, rfl, hso', hsr2, hS', hoff2, hdu, .inl ⟨rfl, k, hkt, hwt⟩⟩
              | some z5 =>
                cases how2 with
                | mk u1 u2 u3 =>
                rename_i aW bW cW iW tW pW mW hbW
                obtain ⟨v1, u4, u5⟩ := u2
                obtain ⟨v2, u6, u7⟩ := u3
                rcases hdv with ⟨rfl, y9, hy9, hn9⟩ | ⟨rfl, dv, hdv1, hdv2, hdv3⟩
                · k_steps
                  rename_i F22 N22
                  have N23 := news_sub N22 (l' := (I, io) :: (sd, so') :: (dd, du) :: (E3 ++ ((kd, ko) :: (rl0, listOf rvs2.toArray rn2) :: D2))) (by walk_at "MEM")
                  exact TurnEnd.intro F22 N23 (fun p hp => hIE p (by simp only [List.mem_cons] at hp ⊢; rcases hp with h | h | h <;> simp [h])) (by k_mem) ⟨_, _, _, ov3 _ _ _ _ _ _ _ _ _ _, so', skvs', sl', du, dkvs, E3, rfl, hso', hsr2, hS', hoff2, hdu, .inl ⟨rfl, y9, hkt9 y9 hy9, hn9⟩⟩
                · have hvok := worth_ok (d := 0) hKn hwt (Or.inr ⟨_, Int.natCast_nonneg j, hj, ej⟩)
                  have hlp := fun x hx => label_len (hvok.1 x hx)
                  have hlm2 := fun x hx => label_len (hvok.2 x hx)
                  have hdlen : dkvs.length ≤ 8 := by
                    have e1 := hdv1.length
                    have e2 := congrArg List.length hdv2
                    have e3 := hKn.len
                    simp only [List.length_map, List.length_take] at e2
                    omega
                  have hval : valueAt dkvs k = none := by
                    refine lk_none.mpr fun hm => ?_
                    rw [hdv1.keys, hdv2] at hm
                    exact not_mem_take hKn.nodup e3 hm
                  have hE2 : ∀ p ∈ E3, p.1 ≠ dd := fun p hp => (hoff2 p hp).2
                  k_steps
                  refine stop_in ?_
                  rename_i h21 F21 N21b _ _ _ tj1 kj1 tj2 kj2 h22 F22 N22 hk22 nm22
                  have hT5 : ∀ p ∈ (dd, du) :: (sd, so') :: (I, io) :: (E3 ++ ((kd, ko) :: (rl0, listOf rvs2.toArray rn2) :: D2)), p.1 < h21.objs.size := fun p hp => Heap.lt_size (N21b p hp).1
                  try dsimp only at N22 ⊢
                  generalize h21.objs.size = T5 at *
                  have x1 : T5 ≠ dd := Nat.ne_of_gt (hT5 _ (.head _))
                  have x2 : T5 ≠ I := Nat.ne_of_gt (hT5 (I, io) (by k_mem))
                  have x3 : T5 ≠ sd := Nat.ne_of_gt (hT5 (sd, so') (by k_mem))
                  clear hk22 nm22 N21b hT5
                  refine dict_set1 F22 (pull1 N22) (by kp_flats) hdu hval (by omega) fun h23 du2 F23 N23 hdu2 => ?_
                  k_steps
                  have N24 := turn_news N23
                  refine TurnEnd.intro F23 N24 (fun p hp => ?_) (by k_mem) ⟨_, _, _, ovDue _ _ _ _ _ _, so', skvs', sl', du2, dkvs ++ [(k, .ref T5)], (T5, _) :: E3, rfl, hso', hsr2.mono fun v b z => OWIn.mono z (by walk_at "MEM"), hS', ?_, hdu2, .inr ⟨rfl, dv ++ [(k, ⟨iW, pW, mW⟩)], ?_, ?_, ?_⟩⟩
                  · rcases List.mem_cons.mp hp with rfl | hp
                    · exact Ne.symm w3
                    rcases List.mem_cons.mp hp with rfl | hp
                    · exact Ne.symm w7
                    rcases List.mem_cons.mp hp with rfl | hp
                    · exact x2
                    · exact hIE p (.tail _ (.tail _ hp))
                  · intro p hp
                    rcases List.mem_cons.mp hp with rfl | hp
                    · exact ⟨x3, x1⟩
                    · exact hoff2 p hp
                  · exact (hdv1.mono fun v b z => z.mono (by intro p hp; rcases List.mem_append.mp hp with hp | hp; exact .tail _ (List.mem_append_left _ (hDE p hp)); exact .tail _ (List.mem_append_right _ hp))).append ⟨T5, _, _, _, rfl, .head _⟩
                  · rw [List.map_append, hdv2, List.take_add_one, e3]; simp
                  · intro p hp
                    rcases List.mem_append.mp hp with hp | hp
                    · exact hdv3 p hp
                    · rw [List.mem_singleton.mp hp]; exact hwt
          · rintro m₁ news₁ h tk ⟨uw, un, dval, rfl, so, skvs, sl, du, dkvs, D3, rfl, hso, hsr, hS, hD3, hdu, hdv⟩ hlm F17 N17
            try dsimp only at F17 ⊢
            have hkl : kvs.length = (putAll rws2 []).length := hkr.length
            rw [hkl, List.take_length] at hdv
            have hdue : ∀ d2, (tw = true ∧ d2 = .none) ∨ (tw = false ∧ d2 = dval) → DueOk w dd rws2 d2 ((sd, so) :: (dd, du) :: (D3 ++ ((kd, ko) :: (rl0, listOf rvs2.toArray rn2) :: D2))) := by
              rintro d2 (⟨h1, rfl⟩ | ⟨h1, rfl⟩)
              · exact .inl ⟨rfl, .inl (hRows.two h1)⟩
              · have hnd := (hRows.one h1).1
                have hpa : putAll rws2 [] = rws2 := putAll_same (by simpa using hnd)
                rw [hpa] at hdv
                rcases hdv with ⟨h2, x, hx, hn⟩ | ⟨h2, dv, h3, h4, h5⟩
                · exact .inl ⟨h2, .inr ⟨x, hx, hn⟩⟩
                · exact .inr ⟨h2, du, dkvs, dv, hnd, hdu, h3.mono fun v b z => z.mono (by walk_at "MEM"), by rw [h4]; exact hnd, fun x => by rw [h4], h5, ldd, by k_mem⟩
            clear hdv hso hsr hS hdu hD3 hKn hkr hkd
            refine stop_in (mid_stmt (x := Str.ofString "due") (fun d2 news' => news' = (sd, so) :: (dd, du) :: (D3 ++ ((kd, ko) :: (rl0, listOf rvs2.toArray rn2) :: D2)) ∧ DueOk w dd rws2 d2 ((sd, so) :: (dd, du) :: (D3 ++ ((kd, ko) :: (rl0, listOf rvs2.toArray rn2) :: D2)))) F17 ?_ ?_)
            · cases tw with
              | false =>
                k_steps
                exact Mid.intro (by rw [ov_same (by rfl)]; exact F17) N17 ⟨rfl, hdue _ (.inr ⟨rfl, rfl⟩)⟩
              | true =>
                k_steps
                rename_i kF kN
                exact Mid.intro kF kN ⟨rfl, hdue _ (.inl ⟨rfl, rfl⟩)⟩
            · rintro d2 news' h12 tk12 F12 N12 ⟨rfl, hd2⟩
              clear F17 N17
              have hlen2 : rvs2.length ≤ 8 := by omega
              k_steps
              refine stop_in ?_
              k_dflt (refine' heard_out (rl := rl0) (rvs := rvs2) (rn := rn2) (rws := rws2) (M := M) (tw := tw) ?B ?F ?X ?T ?hk ?N ?hl ?hr hRows hM7 ?hd ?hu ?_; (case B => k_asm); (case F => k_asm); (case X => k_asm); (case T => k_asm); (case hk => first | exact rfl | assumption); (case N => k_asm); (case hl => kbo_bools); (case hr => exact hg2.mono (by walk_at "MEM")); (case hd => k_room); (case hu => k_units))
              intro r1 D7 h7 tk7 hout1 lD7 F7 N7
              have hd7 := hd2.mono (g := D7 ++ ((sd, so) :: (dd, du) :: (D3 ++ ((kd, ko) :: (rl0, listOf rvs2.toArray rn2) :: D2)))) (by walk_at "MEM")
              clear N12 lD7 hd2
              k_steps
              refine stop_in (due_eq N7 hout1 hd7 (by k_units) (by k_units) ?_)
              k_steps
              rename_i D' h8 F8 N8 l8
              refine stop_in ?_
              k_dflt (refine' heard_out (rl := D') (rvs := rvs2.reverse) (rn := 0) (rws := rws2.reverse) (M := M) (tw := tw) ?B ?F ?X ?T ?hk ?N ?hl ?hr (hRows.perm (List.reverse_perm _)) hM7 ?hd ?hu ?_; (case B => k_asm); (case F => k_asm); (case X => k_asm); (case T => k_asm); (case hk => first | exact rfl | assumption); (case N => k_asm); (case hl => kbo_bools); (case hr => exact hg2.reverse.mono (by walk_at "MEM")); (case hd => k_room); (case hu => k_units))
              intro r2 D9 h9 tk9 hout2 lD9 F9 N9
              have hd9 := (hd7.mono (g := D9 ++ ((D', listOf rvs2.reverse.toArray 0) :: (D7 ++ ((sd, so) :: (dd, du) :: (D3 ++ ((kd, ko) :: (rl0, listOf rvs2.toArray rn2) :: D2)))))) (by walk_at "MEM")).perm (List.reverse_perm rws2).symm
              clear N8 lD9 hd7
              k_steps
              refine stop_in (due_eq N9 hout2 hd9 (by k_units) (by k_units) ?_)
              exact ⟨rfl, _, _, _, rfl, F9⟩)

end LawPart
end Mine
theorem PySem.Challenge.cw_pb0420_01_holds : PySem.Challenge.rw_pb0420_01.Holds :=
  Mine.law_walk
