import PyProof.Rows.All
import Wide.All
import OpenK.AllK
import Wide.FinOn
import PySem.Challenge.RW_qd0120_01
set_option Elab.async false
set_option maxRecDepth 100000
set_option maxHeartbeats 8000000
set_option linter.unusedVariables false
set_option linter.unusedSimpArgs false
section PartP0
open PySem PySem.W PyProof.Rows
namespace Mine
abbrev C (x : Str) : List Int := KStt.codes x
def isSp (c : Int) : Bool := decide (c = 32) || (decide (9 ≤ c) && decide (c ≤ 13))
def isDg (c : Int) : Bool := decide (48 ≤ c) && decide (c ≤ 57)
def isSg (c : Int) : Bool := decide (c = 43) || decide (c = 45)
def numF (n : Int) (l : List Int) : Int := l.foldl (fun n c => if isDg c then n * 10 + (c - 48) else n) n
def numV (l : List Int) : Int := if l.head? = some 45 then - numF 0 l else numF 0 l

def runE (p : Int → Bool) (l : List Int) (a : Nat) : Nat := a + ((l.drop a).takeWhile p).length
abbrev dgE : List Int → Nat → Nat := runE isDg
abbrev spE : List Int → Nat → Nat := runE isSp
theorem runE_stop {p : Int → Bool} {l : List Int} {a : Nat} (h : p (l.getD a 0) = false ∨ l.length ≤ a) : runE p l a = a := by
  unfold runE
  by_cases ha : a < l.length
  · rcases h with h | h
    · rw [List.drop_eq_getElem_cons ha, List.takeWhile_cons]
      have : l.getD a 0 = l[a] := by simp [List.getD_eq_getElem?_getD, ha]
      rw [this] at h
      simp [h]
    · omega
  · rw [List.drop_eq_nil_of_le (by omega)]; simp
theorem runE_step {p : Int → Bool} {l : List Int} {a : Nat} (ha : a < l.length) (h : p (l.getD a 0) = true) : runE p l (a + 1) = runE p l a := by
  unfold runE
  have : l.getD a 0 = l[a] := by simp [List.getD_eq_getElem?_getD, ha]
  rw [this] at h
  rw [List.drop_eq_getElem_cons ha, List.takeWhile_cons, if_pos h, List.length_cons]
  omega
theorem runE_le {p : Int → Bool} {l : List Int} {a : Nat} : a ≤ runE p l a := by unfold runE; omega
theorem runE_len {p : Int → Bool} {l : List Int} {a : Nat} (h : a ≤ l.length) : runE p l a ≤ l.length := by
  unfold runE
  have := (List.takeWhile_prefix (l := l.drop a) (p := p)).length_le
  rw [List.length_drop] at this
  omega
theorem mem_dg (n : Nat) : decide (n ∈ (Str.ofString "0123456789").cps.toList) = isDg (n : Int) := by
  rw [show (Str.ofString "0123456789").cps.toList = [48,49,50,51,52,53,54,55,56,57] from by decide +kernel]
  rw [Bool.eq_iff_iff]; simp only [isDg, decide_eq_true_eq, Bool.and_eq_true, List.mem_cons, List.not_mem_nil, or_false]
  omega
theorem mem_sp (n : Nat) : decide (n ∈ (Str.ofString " \t\n\x0b\x0c\r").cps.toList) = isSp (n : Int) := by
  rw [show (Str.ofString " \t\n\x0b\x0c\r").cps.toList = [32,9,10,11,12,13] from by decide +kernel]
  rw [Bool.eq_iff_iff]; simp only [isSp, decide_eq_true_eq, Bool.and_eq_true, Bool.or_eq_true, List.mem_cons, List.not_mem_nil, or_false]
  omega
theorem mem_sg (n : Nat) : decide (n ∈ (Str.ofString "+-").cps.toList) = isSg (n : Int) := by
  rw [show (Str.ofString "+-").cps.toList = [43,45] from by decide +kernel]
  rw [Bool.eq_iff_iff]; simp only [isSg, decide_eq_true_eq, Bool.or_eq_true, List.mem_cons, List.not_mem_nil, or_false]
  omega
theorem occ_dg (n : Nat) : (Builtin.Str.occurrences (Str.ofString "0123456789") ⟨#[n]⟩ 0 (Str.ofString "0123456789").length 1).isEmpty = !isDg (n : Int) := by
  rw [← mem_dg, ← StrLaws.found_one, Bool.not_not]
theorem occ_sp (n : Nat) : (Builtin.Str.occurrences (Str.ofString " \t\n\x0b\x0c\r") ⟨#[n]⟩ 0 (Str.ofString " \t\n\x0b\x0c\r").length 1).isEmpty = !isSp (n : Int) := by
  rw [← mem_sp, ← StrLaws.found_one, Bool.not_not]
theorem occ_sg (n : Nat) : (Builtin.Str.occurrences (Str.ofString "+-") ⟨#[n]⟩ 0 (Str.ofString "+-").length 1).isEmpty = !isSg (n : Int) := by
  rw [← mem_sg, ← StrLaws.found_one, Bool.not_not]
theorem find_dg (n : Nat) (h : isDg (n : Int) = true) : Txt.find (Str.ofString "0123456789") ⟨#[n]⟩ = (n : Int) - 48 := by
  simp only [isDg, Bool.and_eq_true, decide_eq_true_eq] at h
  obtain ⟨h1, h2⟩ := h
  have : n = 48 ∨ n = 49 ∨ n = 50 ∨ n = 51 ∨ n = 52 ∨ n = 53 ∨ n = 54 ∨ n = 55 ∨ n = 56 ∨ n = 57 := by omega
  rcases this with rfl | rfl | rfl | rfl | rfl | rfl | rfl | rfl | rfl | rfl <;> decide +kernel
theorem numF_snoc (n : Int) (l : List Int) (c : Int) : numF n (l ++ [c]) = if isDg c then numF n l * 10 + (c - 48) else numF n l := by
  simp [numF]
theorem sliceIdx_min (len : Nat) {i j : Int} (h0 : 0 ≤ i) (h1 : 0 ≤ j) : Builtin.Str.strSliceIndices (some i) (some j) 1 len = Builtin.Str.strSliceIndices (some (min i len)) (some (min j len)) 1 len := by
  have a1 : ¬ i < 0 := by omega
  have a2 : ¬ j < 0 := by omega
  have a3 : ¬ min i (len : Int) < 0 := by omega
  have a4 : ¬ min j (len : Int) < 0 := by omega
  have e1 : min (min i (len : Int)) (len : Int) = min i len := by omega
  have e2 : min (min j (len : Int)) (len : Int) = min j len := by omega
  simp [Builtin.Str.strSliceIndices, a1, a2, a3, a4, e1, e2]
theorem slice_min (x : Str) {i j : Int} (h0 : 0 ≤ i) (h1 : 0 ≤ j) : Txt.slice x (some i) (some j) = Txt.slice x (some (min i x.length)) (some (min j x.length)) := by
  unfold Txt.slice
  rw [sliceIdx_min x.length h0 h1]
theorem len_C (x : Str) : (C x).length = x.length := KStt.codes_length x
theorem slice_ij (x : Str) {i j : Int} (h0 : 0 ≤ i) (h1 : i ≤ j) : C (Txt.slice x (some i) (some j)) = ((C x).drop i.toNat).take (j - i).toNat := by
  have hl : x.length = x.cps.toList.length := by simp [Str.length]
  rw [slice_min x h0 (by omega), eq_of_beq (slice_closesL (by omega) (by omega) (by omega))]
  show (List.map _ _) = _
  simp only [C, KStt.codes, ← List.map_drop, ← List.map_take]
  congr 1
  by_cases hi : i ≤ x.length
  · have e1 : min i (x.length : Int) = i := by omega
    rw [e1]
    by_cases hj : j ≤ x.length
    · have e2 : min j (x.length : Int) = j := by omega
      rw [e2]
    · have e2 : min j (x.length : Int) = x.length := by omega
      rw [e2]
      show (List.take _ (List.drop _ _)) = _
      rw [List.take_of_length_le, List.take_of_length_le]
      · rw [List.length_drop]; omega
      · rw [List.length_drop]; omega
  · have e1 : min i (x.length : Int) = x.length := by omega
    have e2 : min j (x.length : Int) = x.length := by omega
    rw [e1, e2, List.drop_eq_nil_of_le (by omega)]
    rw [List.drop_eq_nil_of_le (by omega)]
    simp
theorem slice_from (x : Str) {i : Int} (h0 : 0 ≤ i) (h1 : i ≤ x.length) : C (Txt.slice x (some i) none) = (C x).drop i.toNat := by
  have hl : x.length = x.cps.toList.length := by simp [Str.length]
  rw [eq_of_beq (slice_closes_fromL (b := x.length) h0 h1 rfl)]
  show (List.map _ (List.take _ (List.drop _ _))) = _
  rw [List.take_of_length_le (by rw [List.length_drop]; omega)]
  simp only [C, KStt.codes, ← List.map_drop]
theorem slice_to1 (x : Str) : Txt.slice x none (some 1) = Txt.slice x (some 0) (some 1) := by
  unfold Txt.slice
  rw [StrLaws.sliceIdx_none_lo]
theorem C_inj {x y : Str} (h : C x = C y) : x = y := by
  rw [← KStt.txt_codes x, ← KStt.txt_codes y]
  exact congrArg KStt.txt h
theorem eq_C (x y : Str) : (x == y) = decide (C x = C y) := by
  rw [Bool.eq_iff_iff]
  simp only [beq_iff_eq, decide_eq_true_eq]
  exact ⟨fun h => by rw [h], C_inj⟩
theorem C_dash : C (Str.ofString "-") = [45] := by decide +kernel
theorem slice1 (x : Str) : (Txt.slice x none (some 1) == Str.ofString "-") = decide ((C x).head? = some 45) := by
  rw [slice_to1, eq_C, slice_ij x (by omega) (by omega), C_dash]
  rw [Bool.eq_iff_iff]
  simp only [decide_eq_true_eq]
  show List.take 1 (C x) = [45] ↔ _
  cases C x with
  | nil => simp
  | cons c l => simp
theorem item_C {x : Str} {i : Int} (h0 : 0 ≤ i) (h1 : i < x.length) : ∃ n : Nat, Txt.item x i = ⟨#[n]⟩ ∧ (n : Int) = (C x).getD i.toNat 0 := by
  obtain ⟨n, hn⟩ := StrLaws.some_at h0 h1
  refine ⟨n, ?_, ?_⟩
  · unfold Txt.item
    have e : Txt.charAt x i = some n := StrLaws.at_nonneg h0 hn
    rw [e]; rfl
  · have : (C x)[i.toNat]? = some (n : Int) := by
      simp only [C, KStt.codes, List.getElem?_map]
      rw [show x.cps.toList[i.toNat]? = some n from by simpa using hn]; rfl
    rw [List.getD_eq_getElem?_getD, this]; rfl
theorem occ_dg_item {x : Str} {i : Int} (h0 : 0 ≤ i) (h1 : i < x.length) : (Builtin.Str.occurrences (Str.ofString "0123456789") (Txt.item x i) 0 (Str.ofString "0123456789").length 1).isEmpty = !isDg ((C x).getD i.toNat 0) := by
  obtain ⟨n, e, h⟩ := item_C h0 h1
  rw [e, occ_dg, h]
theorem occ_sp_item {x : Str} {i : Int} (h0 : 0 ≤ i) (h1 : i < x.length) : (Builtin.Str.occurrences (Str.ofString " \t\n\x0b\x0c\r") (Txt.item x i) 0 (Str.ofString " \t\n\x0b\x0c\r").length 1).isEmpty = !isSp ((C x).getD i.toNat 0) := by
  obtain ⟨n, e, h⟩ := item_C h0 h1
  rw [e, occ_sp, h]
theorem occ_sg_item {x : Str} {i : Int} (h0 : 0 ≤ i) (h1 : i < x.length) : (Builtin.Str.occurrences (Str.ofString "+-") (Txt.item x i) 0 (Str.ofString "+-").length 1).isEmpty = !isSg ((C x).getD i.toNat 0) := by
  obtain ⟨n, e, h⟩ := item_C h0 h1
  rw [e, occ_sg, h]
def bE (l : List Int) : Nat := spE l 0
def aE (l : List Int) : Nat := if isSg (l.getD (bE l) 0) then bE l + 1 else bE l
def eE (l : List Int) : Nat := dgE l (aE l)
def inR (n : Int) : Bool := decide (-9223372036854775808 ≤ n) && decide (n ≤ 9223372036854775807)
def valL (l : List Int) : Int := numV ((l.drop (bE l)).take (eE l - bE l))
def wh (l : List Int) : Option Int := if eE l = aE l then none else if (l.drop (eE l)).all isSp then (if inR (valL l) then some (valL l) else none) else none
theorem q_of {Q : Value → Shared → Prop} {v v' : Value} {s : Shared} (h : Q v' s) (e : v' = v) : Q v s := e ▸ h
theorem q_int {Q : Value → Shared → Prop} {x y : Int} {t : Tok} {s : Shared} (h : Q (.int x t) s) (e : x = y) : Q (.int y t) s := e ▸ h
theorem q_bool {Q : Value → Shared → Prop} {x y : Bool} {s : Shared} (h : Q (.bool x) s) (e : x = y) : Q (.bool y) s := e ▸ h
theorem q_str {Q : Value → Shared → Prop} {x y : Str} {t : Tok} {s : Shared} (h : Q (.str x t) s) (e : x = y) : Q (.str y t) s := e ▸ h
end Mine
end PartP0
section PartW0
open PySem PySem.W PyProof.Rows
namespace Mine
/-- the codes that would hold a bytearray while they run -/
def holdIds : List String := ["bytearray.__contains__", "bytearray.__mod__", "bytearray.__rmod__", "_struct.pack_into.held", "bytearray.find.held"] ++ Builtin.Bytes.decodersThatHold
def cleanC : Code → Bool
  | .builtin id _ => !(holdIds.contains id)
  | _ => true
def CleanB (Γ : Ctx) : Prop := ∀ x ∈ Γ.below, cleanC x.1 = true
def Clean (Γ : Ctx) : Prop := cleanC Γ.code = true ∧ CleanB Γ

section
variable {α β : Type} {M : Model} {A : Around} {s : Shared}
/-- wpAny over the clean stacks alone, nothing raised -/
def wpC (M : Model) (A : Around) (t : Sem α) (Q : α → Shared → Prop) (s : Shared) : Prop :=
  ∀ Γ p, Γ.In A → Clean Γ → Sem.wp M Γ t (fun a _ s' => Q a s') (fun _ _ _ => False) p s
def codeC (M : Model) (A : Around) (c : Code) (R : Result → Shared → Prop) (s : Shared) : Prop :=
  ∀ Γ p, Γ.code = c → Γ.Below A → CleanB Γ → wpCode M Γ R p s
theorem wpC_any {t : Sem α} {Q : α → Shared → Prop} (h : wpAny M A t Q (fun _ _ => False) s) : wpC M A t Q s := fun Γ p hΓ _ => h Γ p hΓ
theorem wpC_mono {t : Sem α} {Q Q' : α → Shared → Prop} (h : wpC M A t Q s) (hQ : ∀ a s, Q a s → Q' a s) : wpC M A t Q' s :=
  fun Γ p hΓ hc => Sem.wp_mono M Γ t (fun a _ s => hQ a s) (fun _ _ _ x => x) p s (h Γ p hΓ hc)
theorem wpC_pure {a : α} {Q : α → Shared → Prop} (h : Q a s) : wpC M A (pure a) Q s := wpC_any (wpAny_pure h)
theorem wpC_bind {m : Sem α} {f : α → Sem β} {Q : β → Shared → Prop} (h : wpC M A m (fun a s' => wpC M A (f a) Q s') s) : wpC M A (m >>= f) Q s := fun Γ p hΓ hc => by
  rw [Sem.wp_bind']
  exact Sem.wp_mono M Γ m (fun a p' s' h' => h' Γ p' hΓ hc) (fun _ _ _ x => x) p s (h Γ p hΓ hc)
theorem wpC_onRaise {m : Sem α} {g : Value → Sem Unit} {Q : α → Shared → Prop} (h : wpC M A m Q s) : wpC M A (m.onRaise g) Q s := fun Γ p hΓ hc => by
  rw [Sem.wp_onRaise]
  exact Sem.wp_mono M Γ m (fun _ _ _ x => x) (fun _ _ _ x => x.elim) p s (h Γ p hΓ hc)
theorem wpC_holding {vs : List Value} {m : Sem α} {Q : α → Shared → Prop} (h : wpC M A m Q s) : wpC M A (holding vs m) Q s := fun Γ p hΓ hc => by
  rw [Sem.wp_holding]; exact h Γ p hΓ hc
theorem wpC_of_eq {t : Sem α} {a : α} {Q : α → Shared → Prop} (e : t = pure a) (h : Q a s) : wpC M A t Q s := e ▸ wpC_pure h

theorem codeC_mono {c : Code} {R R' : Result → Shared → Prop} (h : codeC M A c R s) (hR : ∀ r s, R r s → R' r s) : codeC M A c R' s := fun Γ p hc hb hk => wpCode_mono hR (h Γ p hc hb hk)
theorem codeC_of_tree {c : Code} {R : Result → Shared → Prop} (hcl : cleanC c = true)
    (h : wpC M (A.under c) (M.den c) (fun fin s' => match fin with | .done f => R (.ok f) s' | .again c' => c'.quiet = true ∧ codeC M A c' R s') s) : codeC M A c R s := fun Γ p hc hΓ hk => by
  rw [wpCode_iff_wp, hc]
  refine Sem.wp_mono M Γ _ (fun fin p' s' h' => ?_) (fun _ _ _ h' => h'.elim) p s (h Γ p (hc ▸ hΓ.in) ⟨hc ▸ hcl, hk⟩)
  cases fin with
  | done f => exact h'
  | again c' => exact ⟨h'.1, h'.2 (Γ.goto c') p' rfl (hΓ.goto c') hk⟩
theorem clean_enter {Γ : Ctx} {c : Code} {h : Option Value} {p : Pos} (hc : Clean Γ) : CleanB (Γ.enter c h p) := by
  intro x hx
  have : x = (Γ.code, p) ∨ x ∈ Γ.below := by simpa [Ctx.enter] using hx
  rcases this with rfl | hx
  · exact hc.1
  · exact hc.2 x hx
theorem wpC_run {c : Code} {Q : Flow → Shared → Prop} (hc : codeC M A c (fun r s' => match r with | .ok f => Q f s' | .error _ => False) s) : wpC M A (run c none) Q s :=
  fun Γ p hΓ hk => by
    rw [Sem.wp_run]
    refine wpCode_mono (fun r s' h => ?_) (hc _ p rfl (hΓ.enter c none p (by intro x; cases x)) (clean_enter hk))
    cases r <;> exact h
theorem wpC_runValue {c : Code} {Q : Value → Shared → Prop} (hc : codeC M A c (fun r s' => match r with | .ok (.ret v) => Q v s' | .ok _ => False | .error _ => False) s) : wpC M A (runValue c) Q s :=
  fun Γ p hΓ hk => by
    rw [Sem.wp_runValue]
    refine wpCode_mono (fun r s' h => ?_) (hc _ p rfl (hΓ.enter c none p (by intro x; cases x)) (clean_enter hk))
    cases r with
    | ok f => cases f <;> exact h
    | error e => exact h
theorem wpC_call {f : Value} {pos : List Value} {kw : List (Str × Value)} {Q : Value → Shared → Prop}
    (hc : codeC M A (.call f ⟨pos, kw⟩) (fun r s' => match r with | .ok (.ret v) => Q v s' | .ok _ => False | .error _ => False) s) : wpC M A (call f pos kw) Q s := wpC_runValue hc

theorem codeC_loop {c : Code} {R : Result → Shared → Prop} (hcl : cleanC c = true) (hq : c.quiet = true) (I : Nat → Shared → Prop)
    (turn : ∀ n s, I n s → wpC M (A.under c) (M.den c) (fun fin s' => match fin with | .done f => R (.ok f) s' | .again c' => (c' = c ∧ ∃ m, m < n ∧ I m s') ∨ (c'.quiet = true ∧ codeC M A c' R s')) s)
    (n : Nat) (h : I n s) : codeC M A c R s := by
  induction n using Nat.strongRecOn generalizing s with
  | ind n ih =>
    refine codeC_of_tree hcl (wpC_mono (turn n s h) fun fin s' hf => ?_)
    cases fin with
    | done f => exact hf
    | again c' =>
      rcases hf with ⟨rfl, m, hm, hI⟩ | hf
      · exact ⟨hq, ih m hm hI⟩
      · exact hf
end

section
variable {prog : Program} {w : World} {A : Around} {s : Shared} {R : Result → Shared → Prop}
theorem codeC_func {body : List Stmt} {env : Env} (h : wpC (model prog w) (A.deeper env) (execs body env) (fun f s' => R (.ok (.ret (match f with | .ret v => v | _ => .none))) s') s) : codeC (model prog w) A (.func body env) R s := by
  refine codeC_of_tree rfl ?_
  show wpC _ (A.deeper env) (do point; match ← (execs body env).onRaise (leaving env) with | .ret v => ret v | _ => ret .none) _ s
  refine wpC_bind (wpC_any (wpAny_point ?_))
  refine wpC_bind (wpC_onRaise (wpC_mono h fun f s' h' => ?_))
  cases f <;> exact wpC_pure h'
theorem codeC_call_function {a : Addr} {args : Args} {o : Obj} {fd : FuncData} {body : List Stmt} (hroom : A.depth < recursionLimit) (ho : s.heap.get? a = some o)
    (hd' : o.data = .func fd) (hco : fd.scope.isCoroutine = false) (hgen : fd.scope.isGenerator = false) (hbody : fd.body = .stmts body) (hcd : s.heap.CodeRec fd.code fd.qualname)
    (h : wpAny (model prog w) A.in1 (bindArgs fd args) (fun binds s₁ =>
      wpAny (model prog w) A.in1 (newFunctionEnv fd.scope fd.globals fd.closure binds (fd.qualname ++ ".<locals>.") (some a) fd.code none fd.builtins)
        (fun env s₂ => s₂.heap.NoLimit ∧ codeC (model prog w) A (.func body env) R s₂) (fun _ _ => False) s₁) (fun _ _ => False) s) :
    codeC (model prog w) A (.call (.ref a) args) R s := by
  refine codeC_of_tree rfl (wpC_any ?_)
  show wpAny _ A.in1 (callAny (.ref a) args) _ _ s
  simp only [callAny]
  refine wpAny_bind (wpAny_load ho ?_)
  obtain ⟨c, oc, vs, tq, hc, hoc, hdc, hq⟩ := hcd
  simp only [hd', callFunction, hco, hgen, hbody, hc]
  rw [hc] at h
  refine wpAny_bind (m := field (.ref c) 1) (wpAny_field hoc hdc hq (wpAny_bind (wpAny_pure ?_)))
  refine wpAny_bind (wpAny_mono h (fun binds s₁ h₁ => wpAny_bind (wpAny_mono h₁ (fun env s₂ h₂ => ?_) fun _ _ x => x)) fun _ _ x => x)
  exact wpAny_bind (wpAny_enterFrame h₂.1 hroom (wpAny_pure ⟨rfl, h₂.2⟩))
end
end Mine
end PartW0
section PartW1
open PySem PySem.W PySem.Spec PySem.Calls PyProof.Rows
namespace Mine
section
variable {prog : Program} {w : World} {A₀ A : Around} {s : Shared} {base h₀ : Heap} {outer : List Env} {L : Addr} {m : Str → Option Value} {env : Env} {news : List (Addr × Obj)} {K : Frag}
  {R : Result → Shared → Prop} {p : Program} {loose : List Str} {mean : ExcName → Option Value} {mg mb : Str → Option Value}
theorem codeC_def {name qual : Str} {params : Arguments} {body : List Stmt} {scope : Scope} {dV kV doc pm cdv ct oc : Value} {an od : Option Addr} {osl : Array (Option Value)} {f : Addr} {args : Args} {binds : List (Str × Value)}
    (B : Below A₀ base outer h₀) (F : Fr h₀ L s.heap m) (X₀ : K.In h₀) (N : News h₀ L s.heap news) (T : Top p loose mean mg mb h₀) (hA : A.frames = some (env :: outer)) (hf : env.frame = some L) (hke : env.scope.kind = .function)
    (ho : K.lookup f = some ⟨oc, od, .func (fnOf name qual params body scope dV kV doc pm an cdv ct), osl⟩) (hcd : codeIn K cdv qual = true) (hroom : A.depth < recursionLimit)
    (hbind : BindsTo s (fnOf name qual params body scope dV kV doc pm an cdv ct) args binds) (hloc : ∀ y ∈ binds, scope.names.lookup y.1 = some .local)
    (h : ∀ g L' h₁, Fr h₀ L g m → Fr g L' h₁ (fun y => binds.reverse.lookup y) → News g L' h₁ news → Below A base (env :: outer) g → K.In g → Top p loose mean mg mb g → h₀.StaysIn g →
      wpC (model prog w) (A.deeper (envOf qual scope L' f cdv)) (execs body (envOf qual scope L' f cdv))
        (fun fl s' => LeaveK h₀ L m g R (match fl with | .ret v => v | _ => .none) s')
        { s with heap := h₁, toks := s.toks + binds.length })
    (hco : scope.isCoroutine = false) (hgen : scope.isGenerator = false) (hk : scope.kind = .function)
    (hcell : ∀ x ∈ scope.names, x.2 ≠ .cell) : codeC (model prog w) A (.call (.ref f) args) R s := by
  obtain ⟨FG, BG, st, lv⟩ := groundX (R := R) B F N hA hf hke
  refine codeC_call_function (fd := fnOf name qual params body scope dV kV doc pm an cdv ct) (body := body) hroom (X₀.keeps F.keep _ _ ho) rfl hco hgen rfl (codeRec_of (X₀.keeps F.keep) hcd) (hbind _ _ _ _ ?_)
  refine wpAny_newFunctionEnv hcell hloc (fun h₁ hns hsb => ⟨(T.nolimit.keeps F.keep).fresh _ hsb, codeC_func ?_⟩) hk
  have hk₁ : ∀ b o, s.heap.get? b = some o → h₁.get? b = some o := fun b o e => hsb.extBut b o (Nat.ne_of_lt (Heap.lt_size e)) (Heap.get?_push_of_some _ e)
  exact wpC_mono (h _ s.heap.objs.size h₁ FG ⟨hns, fun b o e => hk₁ b o (of_hideAll _ e), Nat.le_of_eq (hideAll_size _ _)⟩
    (fun p hp => ⟨hk₁ _ _ (N p hp).1, Nat.ne_of_lt (Heap.lt_size (N p hp).1), hideAll_none _ (List.mem_map_of_mem hp)⟩) BG (X₀.keeps st) (T.keeps st) st) fun fl s' hl => lv _ _ hl
end

section
variable {M : Model} {A : Around} {s : Shared} {env : Env}
theorem wpC_execs_cons {st : Stmt} {rest : List Stmt} {Q : Flow → Shared → Prop} (h : wpC M A (exec st env) (fun f s' => match f with | .next => wpC M A (execs rest env) Q s' | f => Q f s') s) : wpC M A (execs (st :: rest) env) Q s := by
  rw [execs_cons]
  refine wpC_bind (wpC_mono h fun f s' h' => ?_)
  cases f <;> first | exact h' | exact wpC_pure h'
theorem wpC_execs_nil {Q : Flow → Shared → Prop} (h : Q .next s) : wpC M A (execs [] env) Q s := wpC_any (wpAny_execs_nil h)
theorem wpC_If {test : Expr} {body orelse : List Stmt} {pos : Pos} {Q : Flow → Shared → Prop}
    (h : wpC M A (isTrue test env (eval test env)) (fun b s₂ => if b then wpC M A (execs body env) Q s₂ else wpC M A (execs orelse env) Q s₂) s) : wpC M A (exec (.If test body orelse pos) env) Q s := by
  show wpC M A (do standAt pos; if ← isTrue test env (eval test env) then execs body env else execs orelse env) Q s
  refine wpC_bind (wpC_any (wpAny_standAt (wpC_bind (wpC_mono h fun b s₂ h₂ => ?_))))
  cases b <;> exact h₂
theorem wpC_Return {e : Expr} {pos : Pos} {Q : Flow → Shared → Prop} (h : wpC M A (eval e env) (fun v => Q (.ret v)) s) : wpC M A (exec (.Return (some e) pos) env) Q s := by
  show wpC M A (do standAt pos; return .ret (← eval e env)) Q s
  exact wpC_bind (wpC_any (wpAny_standAt (wpC_bind (wpC_mono h fun v s' h' => wpC_pure h'))))
theorem wpC_isTrue_not {e : Expr} {pos : Pos} {whole : Sem Value} {Q : Bool → Shared → Prop} (h : wpC M A (isTrue e env (eval e env)) (fun b => Q (!b)) s) : wpC M A (isTrue (.UnaryOp .Not e pos) env whole) Q s := by
  show wpC M A (do return !(← isTrue e env (eval e env))) Q s
  exact wpC_bind (wpC_mono h fun v s' h' => wpC_pure h')
theorem wpC_isTrue_or2 {a b : Expr} {pos : Pos} {whole : Sem Value} {Q : Bool → Shared → Prop} (h : wpC M A (isTrue a env (eval a env)) (fun x s' => if x then Q true s' else wpC M A (isTrue b env (eval b env)) (fun y s'' => Q y s'') s') s) :
    wpC M A (isTrue (.BoolOp .Or [a, b] pos) env whole) Q s := by
  show wpC M A (allTrue .Or [a, b] env) Q s
  unfold allTrue
  refine wpC_bind (wpC_mono h fun x s' h' => ?_)
  cases x with
  | true => exact wpC_pure h'
  | false =>
    show wpC M A (allTrue .Or [b] env) Q s'
    unfold allTrue
    refine wpC_bind (wpC_mono h' fun y s'' h'' => ?_)
    cases y with
    | true => exact wpC_pure h''
    | false =>
      show wpC M A (allTrue .Or [] env) Q s''
      unfold allTrue
      exact wpC_pure h''
theorem wpC_isTrue_Call {f : Expr} {args : List Expr} {kw : List Keyword} {pos : Pos} {whole : Sem Value} {Q : Bool → Shared → Prop} (h : wpC M A whole (fun v s' => wpAny M A (truthy v) Q (fun _ _ => False) s') s) :
    wpC M A (isTrue (.Call f args kw pos) env whole) Q s := by
  show wpC M A (do let v ← whole; standAt _; holding [v] (truthy v)) Q s
  exact wpC_bind (wpC_mono h fun v s' h' => wpC_bind (wpC_any (wpAny_standAt (wpC_any (wpAny_holding h')))))
theorem wpC_and2 {a b : Expr} {pos : Pos} {Q : Value → Shared → Prop} (h : wpC M A (eval a env) (fun v s' => wpAny M A (truthy v) (fun t s'' => if t then wpC M A (eval b env) Q s'' else Q v s'') (fun _ _ => False) s') s) :
    wpC M A (eval (.BoolOp .And [a, b] pos) env) Q s := by
  show wpC M A (boolOp pos .And [eval a env, eval b env]) Q s
  unfold boolOp
  refine wpC_bind (wpC_mono h fun v s' h' => wpC_bind (wpC_any (wpAny_standAt (wpC_bind (wpC_any (wpAny_holding (wpAny_mono h' (fun t s'' h'' => ?_) fun _ _ x => x)))))))
  cases t with
  | false => exact wpC_pure h''
  | true => show wpC M A (boolOp pos .And [eval b env]) Q s''; unfold boolOp; exact h''
theorem wpC_and3 {a b c : Expr} {pos : Pos} {Q : Value → Shared → Prop} (h : wpC M A (eval a env) (fun v s' => wpAny M A (truthy v) (fun t s'' => if t then wpC M A (eval (.BoolOp .And [b, c] pos) env) Q s'' else Q v s'') (fun _ _ => False) s') s) :
    wpC M A (eval (.BoolOp .And [a, b, c] pos) env) Q s := by
  show wpC M A (boolOp pos .And [eval a env, eval b env, eval c env]) Q s
  rw [boolOp]
  · refine wpC_bind (wpC_mono h fun v s' h' => wpC_bind (wpC_any (wpAny_standAt (wpC_bind (wpC_any (wpAny_holding (wpAny_mono h' (fun t s'' h'' => ?_) fun _ _ x => x)))))))
    cases t with
    | false => exact wpC_pure h''
    | true => exact h''
  · intro h; cases h
theorem wpC_Compare1 {l r : Expr} {op : CmpOp} {pos : Pos} {Q : Value → Shared → Prop} (hm : markedEach [op] [r] [eval r env] = [eval r env])
    (h : wpC M A (eval l env) (fun lv s' => wpC M A (eval r env) (fun rv s'' => wpAny M A (compareOp op lv rv) Q (fun _ _ => False) s'') s') s) : wpC M A (eval (.Compare l [op] [r] pos) env) Q s := by
  show wpC M A (do compareChain pos (← eval l env) [op] (markedEach [op] [r] [eval r env])) Q s
  rw [hm]
  refine wpC_bind (wpC_mono h fun lv s' h' => ?_)
  show wpC M A (do let rv ← holding [lv] (eval r env); standAt pos; operate [lv, rv] (compareOp op lv rv)) Q s'
  exact wpC_bind (wpC_holding (wpC_mono h' fun rv s'' h'' => wpC_bind (wpC_any (wpAny_standAt (wpC_any (wpAny_operate' h''))))))
theorem wpC_Call_Name {x : Str} {np pos : Pos} {args : List Expr} {Q : Value → Shared → Prop} (h : wpAny M A (eval (.Name x np) env) (fun fv s₁ => wpC M A (callWith pos fv [] (backTo pos (starEach args env)) []) Q s₁) (fun _ _ => False) s) :
    wpC M A (eval (.Call (.Name x np) args [] pos) env) Q s := by
  show wpC M A (do callWith pos (← eval (.Name x np) env) [] (backTo pos (starEach args env)) (backToKw pos (keywordEach [] env))) Q s
  exact wpC_bind (wpC_any h)
theorem wpC_keep {vs : List Value} {t : Sem Value} {Q : Value → Shared → Prop} (h : wpC M A t Q s) : wpC M A (t.keep vs) Q s := fun Γ p hΓ hc => by
  rw [Sem.wp_keep]; exact h Γ p hΓ hc
theorem wpC_spliced_nil {Q : List Value → Shared → Prop} (h : Q [] s) : wpC M A (spliced []) Q s := wpC_any (Calls.spliced_nil h)
theorem wpC_spliced_cons {x : Sem Value} {rest : List (Bool × Sem Value)} {Q : List Value → Shared → Prop} (h : wpC M A x (fun v s₁ => wpC M A (spliced rest) (fun vs s₂ => Q (v :: vs) s₂) s₁) s) : wpC M A (spliced ((false, x) :: rest)) Q s := by
  unfold spliced
  refine wpC_bind (wpC_mono h fun v s₁ h₁ => ?_)
  refine wpC_bind (wpC_pure ?_)
  exact wpC_bind (wpC_holding (wpC_mono h₁ fun vs s₂ h₂ => wpC_pure h₂))
theorem wpC_spliced_more {e : Expr} {rest : List Expr} {pos : Pos} {Q : List Value → Shared → Prop} (h : wpC M A (eval e env) (fun v s₁ => wpC M A (spliced (backTo pos (starEach rest env))) (fun vs s₂ => Q (v :: vs) s₂) s₁) s)
    (he : starEach (e :: rest) env = (false, eval e env) :: starEach rest env) : wpC M A (spliced (backTo pos (starEach (e :: rest) env))) Q s := by
  rw [he]
  refine wpC_spliced_cons ?_
  first
    | exact h
    | exact wpC_bind (wpC_mono h fun v s' h' => wpC_bind (wpC_any (wpAny_standAt (wpC_pure h'))))
theorem wpC_evalArgs {f : Value} {x : Sem Value} {rest : List (Bool × Sem Value)} {Q : Args → Shared → Prop} (h : wpC M A (spliced ((false, x) :: rest)) (fun vs s' => Q ⟨vs, []⟩ s') s) : wpC M A (evalArgs f true ((false, x) :: rest) []) Q s := by
  unfold evalArgs
  show wpC M A (spliced ((false, x) :: rest) >>= _) Q s
  refine wpC_bind (wpC_mono h fun vs s' h' => ?_)
  refine wpC_holding ?_
  exact wpC_bind (wpC_pure (wpC_bind (wpC_pure (wpC_pure h'))))
theorem wpC_callWith {P : Heap → Prop} {pos : Pos} {f : Value} {first : List Value} {args : List (Bool × Sem Value)} (hplain : (args.any (·.1) || ([] : List (Option Str × Sem Value)).any (·.1.isNone)) = false)
    (hk : ∀ h, P h → ∃ k, (k = Keeper.frame ∨ k = Keeper.machine ∨ k = Keeper.boundFrame) ∧ Looks M h (keeperOf f) k) {Q : Value → Shared → Prop}
    (h : wpC M A (evalArgs f true args []) (fun a s₁ => P s₁.heap ∧ wpC M A (call f (first ++ a.pos) a.kw) Q s₁) s) : wpC M A (callWith pos f first args []) Q s := by
  unfold callWith
  refine wpC_bind (wpC_holding (wpC_mono h fun a s₁ h₁ => wpC_bind (wpC_any (wpAny_standAt ?_))))
  obtain ⟨k, hk', Lk⟩ := hk _ h₁.1
  simp only [hplain]
  refine wpC_bind (wpC_any (Lk.here ?_))
  have tail : ∀ {t : Sem Value}, wpC M A t Q s₁ → wpC M A (t >>= fun r => holding [r] point >>= fun _ => pure r) Q s₁ :=
    fun ht => wpC_bind (wpC_mono ht fun r s₂ hr => wpC_bind (wpC_holding (wpC_any (wpAny_point (wpC_pure hr)))))
  have marked (mk : Value) : wpC M A (callMarked mk f (first ++ a.pos) a.kw) Q s₁ := by unfold callMarked; exact wpC_keep h₁.2
  rcases hk' with rfl | rfl | rfl <;> dsimp only <;> first | exact tail h₁.2 | (split <;> first | exact tail h₁.2 | exact tail (marked _))
theorem wpC_callWith_K {K : Frag} {h₀ : Heap} {pos : Pos} {f : Value} {first : List Value} {e : Expr} {rest : List Expr} {Q : Value → Shared → Prop} (hk : keepIn K f = true)
    (h : wpC M A (spliced (backTo pos (starEach (e :: rest) env))) (fun vs s₁ => K.In s₁.heap ∧ wpC M A (call f (first ++ vs)) Q s₁) s)
    (he : starEach (e :: rest) env = (false, eval e env) :: starEach rest env) (hplain : (backTo pos (starEach rest env)).any (·.1) = false) : wpC M A (callWith pos f first (backTo pos (starEach (e :: rest) env)) []) Q s := by
  rw [he] at h ⊢
  exact wpC_callWith (by show ((false || (backTo pos (starEach rest env)).any (·.1)) || false) = false; rw [hplain]; rfl) (keeps_K hk) (wpC_evalArgs h)
end
end Mine
end PartW1
section PartW2
open PySem PySem.W PySem.Spec PySem.Calls PyProof.Rows
namespace Mine
section
variable {prog : Program} {w : World} {A : Around} {s : Shared} {env : Env}
theorem codeC_block_nil {R : Result → Shared → Prop} (h : R (.ok .next) s) : codeC (model prog w) A (.block [] env) R s := by
  refine codeC_of_tree rfl ?_
  show wpC _ _ (do return Fin.done (← (execs [] env).onRaise (fun x => do noteFrame x env; theTreesLotGoes x))) _ s
  exact wpC_bind (wpC_onRaise (wpC_execs_nil (wpC_pure h)))
theorem codeC_forLoop {R : Result → Shared → Prop} {target : Expr} {it : Value} {body : List Stmt} (I : Nat → Shared → Prop)
    (turn : ∀ n s, I n s → wpAny (model prog w) A (pyNext it) (fun r s₁ => match r with
      | none => R (.ok .next) s₁
      | some v => wpAny (model prog w) A (assign target env v) (fun _ s₂ => wpC (model prog w) A (execs body env) (fun f s₃ => match f with
          | .next | .cont => ∃ m, m < n ∧ I m s₃
          | .brk => R (.ok .next) s₃
          | .ret v => R (.ok (.ret v)) s₃) s₂) (fun _ _ => False) s₁) (fun _ _ => False) s)
    (n : Nat) (h : I n s) (ht : ∀ v, letOwnedTupleGo target it v = pure () := by intro _; rfl) : codeC (model prog w) A (.forLoop target it body [] env) R s := by
  refine codeC_loop rfl rfl I (fun n s hI => ?_) n h
  show wpC _ A ((forTurn target it body [] env).onRaise (fun x => do noteFrame x env; theTreesLotGoes x)) _ s
  refine wpC_onRaise ?_
  simp only [forTurn]
  refine wpC_bind (wpC_any (wpAny_standAt (wpC_bind (wpC_onRaise (wpC_any (wpAny_mono (turn n s hI) (fun r s₁ h₁ => ?_) fun _ _ x => x))))))
  cases r with
  | none => exact wpC_pure (.inr ⟨rfl, codeC_block_nil h₁⟩)
  | some v =>
    refine wpC_bind (wpC_of_eq (ht v) ?_)
    refine wpC_bind (wpC_any (wpAny_mono h₁ (fun _ s₂ h₂ => wpC_bind (wpC_mono h₂ fun f s₃ h₃ => ?_)) fun _ _ x => x))
    cases f with
    | next => exact wpC_pure (.inl ⟨rfl, h₃⟩)
    | cont => exact wpC_pure (.inl ⟨rfl, h₃⟩)
    | brk => exact wpC_pure h₃
    | ret v => exact wpC_pure h₃
theorem wpC_For {target iter : Expr} {body : List Stmt} {pos : Pos} {Q : Flow → Shared → Prop}
    (h : wpAny (model prog w) A (eval iter env) (fun x s₁ => wpAny (model prog w) A (pyIter x) (fun it s₂ =>
      codeC (model prog w) A (.forLoop target it body [] env) (fun r s' => match r with | .ok f => Q f s' | .error _ => False) s₂) (fun _ _ => False) s₁) (fun _ _ => False) s)
    (hs : ∀ x, foldedSetIterable iter env x = pure x := by intro _; rfl) : wpC (model prog w) A (exec (.For target iter body [] pos) env) Q s := by
  rw [exec_For]
  refine wpC_bind (wpC_any (wpAny_standAt (wpC_bind (wpC_any (wpAny_mono h (fun x s₁ h₁ => ?_) fun _ _ x => x)))))
  refine wpC_bind (wpC_of_eq (hs x) (wpC_bind (wpC_any (wpAny_standAt (wpC_bind (wpC_holding (wpC_any (wpAny_mono h₁ (fun it s₂ h₂ => ?_) fun _ _ x => x))))))))
  show wpC _ A ((run (.forLoop target it body [] env) none).onRaise _) Q s₂
  exact wpC_onRaise (wpC_run h₂)

/-- a loop by an invariant over the turn's number, the frame's map and the ledger -/
theorem codeC_walk {R : Result → Shared → Prop} {h₀ : Heap} {x : Str} {px : Pos} {body : List Stmt} {I : Addr} {fp wr : List Addr} {n : Nat} {P : Nat → Value → Prop} {St : Nat → Heap → Prop} {m : Str → Option Value} {news : List (Addr × Obj)}
    (W : Walks prog w A I fp wr n P St) (hx : env.kindOf x = some .local) (hp : (env.scope.kind == .class || (env.scope.kind == .module && env.locals != env.globals)) = false)
    (hLf : env.locals ∉ fp) (hwr : ∀ b ∈ wr, h₀.get? b = none) (hfp : ∀ q ∈ news, q.1 ∉ fp)
    (hst : St 0 s.heap) (F : Fr h₀ env.locals s.heap m) (N : News h₀ env.locals s.heap news) (J : Nat → (Str → Option Value) → List (Addr × Obj) → Prop) (h0 : J 0 m news)
    (step : ∀ i v m₁ news₁ h tk own, i < n → P i v → news₁.map (·.1) = news.map (·.1) → OwnOff own (news.map (·.1)) → J i m₁ news₁ → Fr h₀ env.locals h (fun y => if y = x then some v else m₁ y) → News h₀ env.locals h (news₁ ++ own) →
      wpC (model prog w) A (execs body env) (fun f s₂ => match f with | .ret v => R (.ok (.ret v)) s₂ | .brk => R (.ok .next) s₂ | _ => InvEndN h₀ env.locals (J (i + 1)) own (news.map (·.1)) { s with heap := h, toks := tk } s₂) { s with heap := h, toks := tk })
    (hR : ∀ h' tk m' news', Fr h₀ env.locals h' m' → News h₀ env.locals h' news' → J n m' news' → R (.ok .next) { s with heap := h', toks := tk }) :
    codeC (model prog w) A (.forLoop (.Name x px) (.ref I) body [] env) R s := by
  have hLw : env.locals ∉ wr := fun h => hLf (W.sub _ h)
  have old : ∀ b o, h₀.get? b = some o → b ∉ wr := fun b o e hb => by rw [hwr b hb] at e; cases e
  have off : ∀ news' : List (Addr × Obj), news'.map (·.1) = news.map (·.1) → ∀ p ∈ news', p.1 ∉ fp := fun news' e p hp hf => by
    have : p.1 ∈ news.map (·.1) := e ▸ List.mem_map.mpr ⟨p, hp, rfl⟩
    obtain ⟨q, hq, e2⟩ := List.mem_map.mp this
    exact hfp q hq (e2 ▸ hf)
  refine codeC_forLoop
    (fun k s' => ∃ h' tk m' news' i, s' = { s with heap := h', toks := tk } ∧ St i h' ∧ Fr h₀ env.locals h' m' ∧ News h₀ env.locals h' news' ∧ news'.map (·.1) = news.map (·.1) ∧ J i m' news' ∧ i ≤ n ∧ k = n + 1 - i) ?_ (n + 1)
    ⟨s.heap, s.toks, m, news, 0, rfl, hst, F, N, rfl, h0, Nat.zero_le _, rfl⟩
  rintro k s' ⟨h', tk, m', news', i, rfl, hst', F', N', hadr, hJ, hi, rfl⟩
  have next : ∀ h₁ : Heap, (∀ b o, b ∉ wr → h'.get? b = some o → h₁.get? b = some o) → Fr h₀ env.locals h₁ m' ∧ News h₀ env.locals h₁ news' := fun h₁ hk₁ =>
    ⟨⟨F'.ns.at' fun o e => hk₁ _ o hLw e, fun b o e => hk₁ b o (old b o e) (F'.keep b o e), F'.above⟩, fun p hp => ⟨hk₁ _ _ (fun hw => off _ hadr p hp (W.sub _ hw)) (N' p hp).1, (N' p hp).2⟩⟩
  by_cases hlt : i < n
  · refine W.item i _ _ _ hlt hst' fun v h₁ tk₁ hP hst₁ hk₁ => ?_
    obtain ⟨F₁, N₁⟩ := next h₁ hk₁
    refine wpAny_assign_Name (wpAny_storeName_local hx F₁.ns (fun h₂ hn₂ hs₂ => ?_) hp)
    have F₂ := F₁.set hn₂ hs₂
    have Nown : News h₀ env.locals h₂ (ownOf h₀ fp h₂) := news_ownOf hLf
    have N₂ := N₁.set hs₂
    have hoff : OwnOff (ownOf h₀ fp h₂) (news.map (·.1)) := fun p hp b hb e => by
      obtain ⟨q, hq, e2⟩ := List.mem_map.mp hb
      exact hfp q hq (by rw [e2, ← e]; exact ownOf_sub p hp)
    have N₃ : News h₀ env.locals h₂ (news' ++ ownOf h₀ fp h₂) := fun p hp => (List.mem_append.mp hp).elim (N₂ p) (Nown p)
    refine wpC_mono (step i v m' news' h₂ _ (ownOf h₀ fp h₂) hlt hP hadr hoff hJ F₂ N₃) fun f s₃ h₃ => ?_
    have fin : InvEndN h₀ env.locals (J (i + 1)) (ownOf h₀ fp h₂) (news.map (·.1)) { s with heap := h₂, toks := tk₁ + 1 } s₃ →
        ∃ k, k < n + 1 - i ∧ ∃ h' tk m' news' i, s₃ = { s with heap := h', toks := tk } ∧ St i h' ∧ Fr h₀ env.locals h' m' ∧ News h₀ env.locals h' news' ∧ news'.map (·.1) = news.map (·.1) ∧ J i m' news' ∧ i ≤ n ∧ k = n + 1 - i := by
      rintro ⟨h₃', tk₃, m₂, news₂, nx, rfl, F₃, N₃', hn, ho, ha, hJ'⟩
      refine ⟨n + 1 - (i + 1), by omega, h₃', tk₃, m₂, nx, i + 1, rfl, ?_, F₃, fun p hp => N₃' p (hn p hp), ha, hJ', hlt, rfl⟩
      refine W.frame _ _ _ hst₁ fun b hb o e => ?_
      have e₂ : h₂.get? b = some o := (hs₂.2 b fun q => hLf (q ▸ hb)).trans e
      cases hnn : h₀.get? b with
      | some o₀ =>
        have : o₀ = o := by have := F₂.keep b o₀ hnn; rw [e₂] at this; exact (Option.some.inj this).symm
        exact this ▸ F₃.keep b o₀ hnn
      | none => exact (N₃' _ (ho _ (mem_ownOf hb hnn e₂))).1
    cases f with
    | ret v => exact h₃
    | brk => exact h₃
    | next => exact fin h₃
    | cont => exact fin h₃
  · have hin : i = n := by omega
    subst hin
    refine W.done _ _ _ hst' fun h₁ tk₁ hk₁ => ?_
    obtain ⟨F₁, N₁⟩ := next h₁ hk₁
    exact hR h₁ tk₁ m' news' F₁ N₁ hJ
end
end Mine
end PartW2
section PartH0
open PySem PySem.W PySem.Spec PySem.Calls PyProof.Rows
namespace Mine
def okSt (st : List (Code × Pos)) : Bool := st.all fun x => cleanC x.1
def guarded {α : Type} (t : Sem α) (d : α) : Sem α := do let st ← stack; if okSt st then t else pure d
theorem guarded_clean {α : Type} {M : Model} {A : Around} {s : Shared} {t : Sem α} {d : α} {Q : α → Shared → Prop} {E : Value → Shared → Prop} (hd : Q d s) (h : wpC M A t Q s) : wpAny M A (guarded t d) Q E s := fun Γ p hΓ => by
  unfold guarded
  show Sem.wp M Γ (if okSt ((Γ.code, p) :: Γ.below) = true then t else pure d) _ _ p s
  split
  · rename_i hok
    have hc : Clean Γ := by
      have := List.all_eq_true.mp hok
      exact ⟨this _ (.head _), fun x hx => this x (.tail _ hx)⟩
    exact Sem.wp_mono M Γ t (fun _ _ _ x => x) (fun _ _ _ x => x.elim) p s (h Γ p hΓ hc)
  · rw [Sem.wp_pure']; exact hd
theorem guarded_tree {M : Model} {A : Around} {s : Shared} {a : Addr} {name : Str} {mg : Str → Option Value} {f : Value} {t : Sem Value} {none' : Sem Fin} {d : Value} {Q : Fin → Shared → Prop} {E : Value → Shared → Prop} (hg : s.heap.Ns a mg) (hf : mg name = some f)
    (k : Value → Sem Value) (hk : k f = t)
    (h : wpAny M A (guarded t d) (fun v s' => Q (.done (.ret v)) s') E s) :
    wpAny M A (guarded (do match ← nsGet a name with | some f => do ret (← k f) | none => none') (Fin.done (.ret d))) Q E s := fun Γ p hΓ => by
  unfold guarded at h ⊢
  have h' : ∀ p, Sem.wp M Γ (if okSt ((Γ.code, p) :: Γ.below) = true then t else pure d) (fun v _ s' => Q (.done (.ret v)) s') (fun e _ s' => E e s') p s := fun p => h Γ p hΓ
  show Sem.wp M Γ (if okSt ((Γ.code, p) :: Γ.below) = true then _ else pure (Fin.done (.ret d))) _ _ p s
  split
  · rename_i hok
    have hns : wpAny M A (nsGet a name) (fun r s' => r = some f ∧ s' = s) (fun _ _ => False) s := wpAny_nsGet hg ⟨hf, rfl⟩
    rw [Sem.wp_bind']
    refine Sem.wp_mono M Γ _ (fun r p' s' hr => ?_) (fun _ _ _ x => x.elim) p s (hns Γ p hΓ)
    obtain ⟨rfl, rfl⟩ := hr
    dsimp only
    have h2 := h' p'
    rw [if_pos (show okSt ((Γ.code, p') :: Γ.below) = true from hok)] at h2
    rw [hk, Sem.wp_bind']
    exact Sem.wp_mono M Γ _ (fun v p'' s'' hv => hv) (fun _ _ _ x => x) _ _ h2
  · rename_i hok
    have h2 := h' p
    rw [if_neg hok, Sem.wp_pure'] at h2
    rw [Sem.wp_pure']; exact h2
/-- one step of the machine, from the guarded tree to the tree -/
theorem sched_guard {den : Code → Sem Fin} {prog : Program} {w : World} {n : Nat} {s s' : Shared} {o : Outcome} {t : Sem Fin} {c : Code} {p : Pos} {x : Fin} (hr : s.asleep) (hok : okSt [(c, p)] = true) (hcalm : (⟨guarded t x, c, p, []⟩ : Thread).calm = true)
    (h : schedN den prog w n (.single s ⟨guarded t x, c, p, []⟩) = .halted o s') : ∃ n', schedN den prog w n' (.single s ⟨t, c, p, []⟩) = .halted o s' := by
  cases n with
  | zero => cases h
  | succ n =>
    refine ⟨n, ?_⟩
    have e0 : step den prog w s ⟨guarded t x, c, p, []⟩ = .go s ⟨t, c, p, []⟩ := by
      obtain ⟨hp, g, dr, tk, os⟩ := s
      show Step.go _ ⟨(if okSt [(c, p)] = true then t else pure x), c, p, []⟩ = _
      rw [if_pos hok]
    have e1 := (sstep_single den prog w s ⟨guarded t x, c, p, []⟩ hcalm hr).resolve_right (by rw [e0]; intro q; cases q)
    rw [schedN, e1, e0] at h
    exact h
end Mine
end PartH0
section PartH1
open PySem PySem.W PySem.Spec PySem.Calls PyProof.Rows
namespace Mine
def treeOf (name : Str) (vs : List Value) : Sem Fin := do match ← nsGet mainNs name with
  | some f => do ret (← call f vs)
  | none => unsupported "claim.caller:no-such-global"
theorem conv {c : ClaimW} {name : Str} {defs keeps : List Str} {writes : Bool}
    (h : c.HoldsOpenBy (fun vs => ⟨guarded (treeOf name vs) (Fin.done (.ret (.bool true))), .builtin "claim.caller" {}, default, []⟩) defs keeps writes) : c.HoldsOpenBy (callStub name) defs keeps writes := by
  refine ⟨h.1, h.2.1, fun w => ⟨(h.2.2 w).1, fun s hs => ?_⟩⟩
  obtain ⟨s₀, hf, hg, s₁, hT, hp, r1, r2, hc⟩ := (h.2.2 w).2 s hs
  refine ⟨s₀, hf, hg, s₁, hT, hp, r1, r2, fun args h1 h2 ord h3 => ?_⟩
  obtain ⟨vs, s₂, hl, n, o, s', hrun, rest⟩ := hc args h1 h2 ord h3
  have z0 : s.asleep := AfterImport.life hs
  have z1 : s₀.asleep := Shared.asleep_of_life (fence_lifeW hf) z0
  have z2 : s₁.asleep := Shared.asleep_of_life hT.2.1 z1
  have z3 : s₂.asleep := Shared.asleep_of_life (layAllW_rest _ _ _ hl).2.2.2 z2
  obtain ⟨n', hrun'⟩ := sched_guard z3 (by decide) (by rfl) hrun
  exact ⟨vs, s₂, hl, n', o, s', hrun', rest⟩

end Mine
namespace Mine.PySem.W
theorem holds_open {r : OpenRow} {q : Program} {loose : List Str} {Xt : Shared → Bool} {XP : (Str → Option Value) → Heap → Prop} {α : Type} {Yf : Shared → α} {Ya : World → α} {YP : World → Heap → Prop} {d : DefRec} {kwd : List (Str × Expr)} {N : Nat}
    (left : ∀ w : World, (openEnds treeTable r.prog w N).map (fun s => (openSeen q loose (importedModules r.prog.main.body) Xt true s, Yf s)) = some (openGood q loose, Ya w)) (hY : ∀ w s, Yf s = Ya w → YP w s.heap) (hYk : ∀ w h h', YP w h → (∀ b o, h.get? b = some o → h'.get? b = some o) → YP w h')
    (hX : ∀ s, Xt s = true → XP (s.heap.nsMap mainGlobals) s.heap) (hXk : ∀ mg h h', XP mg h → (∀ b o, h.get? b = some o → h'.get? b = some o) → XP mg h')
    (hdef : defOf q r.name = some (d, kwd)) (hp : r.prog.theDef r.name = some (d.params, d.body, d.scope)) (hk : kwWritten? d.params.kwonlyargs d.params.kw_defaults = some kwd) (hRf : ∀ s, Xt s = true → RecFacts r.records s.heap) (hwr : (!r.writes || r.records.isEmpty) = true)
    (k1 : r.wellSaid = true) (ok : (chainsOk q && opensWell r.prog && (frees r.toRowW && r.within.isEmpty)) = true) (hb : r.prog.bare) (hw : r.toRowW.promised)
    (call : WalkO q loose XP YP r.toRowW d kwd fun f vs => guarded (PySem.call f vs) (.bool true)) : r.Holds := by
  refine ⟨k1, hw, conv (open_anyG (r := r.toRowW) (run := fun f vs => guarded (PySem.call f vs) (.bool true)) (tree := fun vs => guarded (treeOf r.name vs) (Fin.done (.ret (.bool true)))) left hY hYk hX hXk hRf hwr ok hb hw
    (fun vs w s mg f Q E hg hf h => guarded_tree hg hf (fun f => PySem.call f vs) rfl h)
    (fun w s hg G n hn => ?_) fun w s₀ s₁ mg mb G Y args vs as hpre hlay Ld low => ?_)⟩
  · obtain rfl : n = r.name := by split at hn <;> simp_all
    exact pinned_of_view hg G hdef hp hk
  · obtain ⟨a, o, pm, cd, doc, dV, kV, h1, h2, h3, h4, h5⟩ := G.fn hdef
    exact ⟨.ref a, h1, call w s₀ s₁ mg mb G Y a o pm cd doc dV kV h2 h3 h4 h5 (defOf_name hdef ▸ h1) Ld.gens args vs as hpre hlay Ld.reads Ld.well (Ld.low low)⟩
end Mine.PySem.W
namespace Mine
open_top hdG for PySem.Challenge.rw_qd0120_01
end Mine
end PartH1
open PyProof.Rows PySem.W
local macro_rules | `(tactic| walk_at $s:str) => `(tactic| k_extra $s)
section PartQ1
open PySem PySem.W PyProof.Rows
namespace Mine
theorem numof_a {p : List Int} {n : Nat} {z : Int} (hz : z = numF 0 p) (h : (Builtin.Str.occurrences (Str.ofString "0123456789") ⟨#[n]⟩ 0 (Str.ofString "0123456789").length 1).isEmpty = true) : z = numF 0 (p ++ [(n : Int)]) := by
  rw [occ_dg] at h
  rw [numF_snoc, if_neg (by simpa using h)]; exact hz
theorem numof_b {p : List Int} {n : Nat} {z : Int} (hz : z = numF 0 p) (h : (Builtin.Str.occurrences (Str.ofString "0123456789") ⟨#[n]⟩ 0 (Str.ofString "0123456789").length 1).isEmpty = false) : z * 10 + Txt.find (Str.ofString "0123456789") ⟨#[n]⟩ = numF 0 (p ++ [(n : Int)]) := by
  rw [occ_dg] at h
  have h : isDg (n : Int) = true := by simpa using h
  rw [numF_snoc, if_pos h, find_dg n h, hz]
theorem numof_c {x : Str} {z : Int} (h : (Txt.slice x none (some 1) == Str.ofString "-") = true) (hz : z = numF 0 (KStt.codes x)) : numV (C x) = -z := by
  rw [slice1, decide_eq_true_eq] at h
  rw [numV, if_pos h, hz]
theorem numof_d {x : Str} {z : Int} (h : (Txt.slice x none (some 1) == Str.ofString "-") = false) (hz : z = numF 0 (KStt.codes x)) : numV (C x) = z := by
  rw [slice1, decide_eq_false_iff_not] at h
  rw [numV, if_neg h, hz]
theorem spec_numof {prog : Program} {w : World} {p : Program} {loose : List Str} {mean : ExcName → Option Value} {mg mb : Str → Option Value}
    {dp un : Nat} {gd : Option (List Code)} {cn : Str} {cs : Scope} {a : Addr} {ccd : Value} {cl : List (Str × Addr)} {outer : List Env} {A₀ : Around} {base h₀ : Heap} {L : Addr} {m : Str → Option Value} {news : List (Addr × Obj)} {s : Shared} {Q E : Value → Shared → Prop} (x : Str) (t : Tok) (hx : x.length ≤ 1000)
    (B : Below A₀ base outer h₀) (F : Fr h₀ L s.heap m) (X : Frag.In (hdG.heap_39 w.params) h₀) (N : News h₀ L s.heap news) (T : Top p loose mean mg mb h₀) (hk : cs.kind = .function) (hdp : dp + 1 < recursionLimit) (hun : un + 8 < cLine)
    (ret : ∀ t' h' tk', Fr h₀ L h' m → News h₀ L h' news → Q (.int (numV (C x)) t') { s with heap := h', toks := tk' }) :
    wpAny (model prog w) (ktrTop dp un gd cn cs L a ccd cl outer) (call (.ref 72) [.str x t]) Q E s := by
  w_top off
  k_with_none
  k_with "state" => first | rfl | exact numof_a (by assumption) (by assumption) | exact numof_b (by assumption) (by assumption)
  k_with "pyIter str" => k_state (fun pre n => n = numF 0 pre) "number"
  refine wpAny_call ?_
  k_dflt cell_enter
  k_steps
  · exact absurd (Eq.trans (Eq.symm ‹_ = true›) ‹_ = false›) (by decide)
  · exact q_int (ret _ _ _ (by assumption) (by assumption)) (numof_c (by assumption) (by assumption))
  · exact q_int (ret _ _ _ (by assumption) (by assumption)) (numof_d (by assumption) (by assumption))
end Mine
end PartQ1
section PartQ2
open PySem PySem.W PyProof.Rows
namespace Mine
theorem dend_st {x : Str} {i z : Int} (h0 : 0 ≤ z) (h1 : z ≤ x.length) (h : dgE (C x) z.toNat = dgE (C x) i.toNat) (hl : z < x.length)
    (ho : (Builtin.Str.occurrences (Str.ofString "0123456789") (Txt.item x z) 0 (Str.ofString "0123456789").length 1).isEmpty = false) : 0 ≤ z + 1 ∧ z + 1 ≤ x.length ∧ dgE (C x) (z + 1).toNat = dgE (C x) i.toNat := by
  rw [occ_dg_item h0 hl] at ho
  refine ⟨by omega, by omega, ?_⟩
  rw [← h, show (z + 1).toNat = z.toNat + 1 from by omega]
  exact runE_step (by rw [len_C]; omega) (by simpa using ho)
theorem dend_a {x : Str} {i z : Int} (h0 : 0 ≤ z) (h : dgE (C x) z.toNat = dgE (C x) i.toNat) (hl : z < x.length)
    (ho : (Builtin.Str.occurrences (Str.ofString "0123456789") (Txt.item x z) 0 (Str.ofString "0123456789").length 1).isEmpty = true) : ((dgE (C x) i.toNat : Nat) : Int) = z := by
  rw [occ_dg_item h0 hl] at ho
  rw [← h, show dgE (C x) z.toNat = z.toNat from runE_stop (.inl (by simpa using ho))]; omega
theorem dend_b {x : Str} {i z : Int} (h0 : 0 ≤ z) (h : dgE (C x) z.toNat = dgE (C x) i.toNat) (hl : ¬ z < x.length) : ((dgE (C x) i.toNat : Nat) : Int) = z := by
  rw [← h, show dgE (C x) z.toNat = z.toNat from runE_stop (.inr (by rw [len_C]; omega))]; omega
theorem spec_dend {prog : Program} {w : World} {p : Program} {loose : List Str} {mean : ExcName → Option Value} {mg mb : Str → Option Value}
    {dp un : Nat} {gd : Option (List Code)} {cn : Str} {cs : Scope} {a : Addr} {ccd : Value} {cl : List (Str × Addr)} {outer : List Env} {A₀ : Around} {base h₀ : Heap} {L : Addr} {m : Str → Option Value} {news : List (Addr × Obj)} {s : Shared} {Q E : Value → Shared → Prop} (x : Str) (t : Tok) (i : Int) (u : Tok) (hx : x.length ≤ 1000) (hi0 : 0 ≤ i) (hi1 : i ≤ x.length)
    (B : Below A₀ base outer h₀) (F : Fr h₀ L s.heap m) (X : Frag.In (hdG.heap_39 w.params) h₀) (N : News h₀ L s.heap news) (T : Top p loose mean mg mb h₀) (hk : cs.kind = .function) (hdp : dp + 1 < recursionLimit) (hun : un + 8 < cLine)
    (ret : ∀ t' h' tk', Fr h₀ L h' m → News h₀ L h' news → Q (.int (dgE (C x) i.toNat : Nat) t') { s with heap := h', toks := tk' }) :
    wpAny (model prog w) (ktrTop dp un gd cn cs L a ccd cl outer) (call (.ref 58) [.str x t, .int i u]) Q E s := by
  w_top off
  k_with_none
  k_with "measure" => omega
  k_with "state" => first | exact ⟨by assumption, by assumption, rfl⟩ | exact dend_st (by assumption) (by assumption) (by assumption) (by assumption) (by assumption)
  k_with "exec While BoolOp cons nil" => k_while (fun _ z => 0 ≤ z ∧ z ≤ x.length ∧ dgE (C x) z.toNat = dgE (C x) i.toNat) (fun _ z => (x.length - z).toNat) "at"
  refine wpAny_call ?_
  k_dflt cell_enter
  k_steps
  · exact q_int (ret _ _ _ (by assumption) (by assumption)) (dend_a (by assumption) (by assumption) (by assumption) (by assumption))
  · exact q_int (ret _ _ _ (by assumption) (by assumption)) (dend_b (by assumption) (by assumption) (by assumption))
end Mine
end PartQ2
section PartQ3
open PySem PySem.W PyProof.Rows
namespace Mine
theorem span_st {x : Str} {z : Int} (h0 : 0 ≤ z) (h : spE (C x) z.toNat = spE (C x) 0) (hl : z < x.length) (ho : (Builtin.Str.occurrences (Str.ofString " \t\n\x0b\x0c\r") (Txt.item x z) 0 (Str.ofString " \t\n\x0b\x0c\r").length 1).isEmpty = false) : 0 ≤ z + 1 ∧ z + 1 ≤ x.length ∧ spE (C x) (z + 1).toNat = spE (C x) 0 := by
  rw [occ_sp_item h0 hl] at ho
  refine ⟨by omega, by omega, ?_⟩
  rw [← h, show (z + 1).toNat = z.toNat + 1 from by omega]
  exact runE_step (by rw [len_C]; omega) (by simpa using ho)
theorem span_b {x : Str} {z : Int} (h0 : 0 ≤ z) (h : spE (C x) z.toNat = spE (C x) 0) (hl : z < x.length) (ho : (Builtin.Str.occurrences (Str.ofString " \t\n\x0b\x0c\r") (Txt.item x z) 0 (Str.ofString " \t\n\x0b\x0c\r").length 1).isEmpty = true) : bE (C x) = z.toNat := by
  rw [occ_sp_item h0 hl] at ho
  rw [bE, ← h]
  exact runE_stop (.inl (by simpa using ho))
theorem span_1 {x : Str} {z : Int} (h0 : 0 ≤ z) (h : spE (C x) z.toNat = spE (C x) 0) (hl : z < x.length) (ho : (Builtin.Str.occurrences (Str.ofString " \t\n\x0b\x0c\r") (Txt.item x z) 0 (Str.ofString " \t\n\x0b\x0c\r").length 1).isEmpty = true) (hg : (Builtin.Str.occurrences (Str.ofString "+-") (Txt.item x z) 0 (Str.ofString "+-").length 1).isEmpty = true) : z = bE (C x) ∧ aE (C x) = z.toNat := by
  have b := span_b h0 h hl ho
  rw [occ_sg_item h0 hl] at hg
  refine ⟨by omega, ?_⟩
  rw [aE, b, if_neg (by simpa using hg)]
theorem span_2 {x : Str} {z : Int} (h0 : 0 ≤ z) (h : spE (C x) z.toNat = spE (C x) 0) (hl : z < x.length) (ho : (Builtin.Str.occurrences (Str.ofString " \t\n\x0b\x0c\r") (Txt.item x z) 0 (Str.ofString " \t\n\x0b\x0c\r").length 1).isEmpty = true) (hg : (Builtin.Str.occurrences (Str.ofString "+-") (Txt.item x z) 0 (Str.ofString "+-").length 1).isEmpty = false) : z = bE (C x) ∧ aE (C x) = (z + 1).toNat := by
  have b := span_b h0 h hl ho
  rw [occ_sg_item h0 hl] at hg
  refine ⟨by omega, ?_⟩
  rw [aE, b, if_pos (by simpa using hg)]
  omega
theorem span_3 {x : Str} {z : Int} (h0 : 0 ≤ z) (h : spE (C x) z.toNat = spE (C x) 0) (hl : ¬ z < x.length) : z = bE (C x) ∧ aE (C x) = z.toNat := by
  have b : bE (C x) = z.toNat := by
    rw [bE, ← h]
    exact runE_stop (.inr (by rw [len_C]; omega))
  refine ⟨by omega, ?_⟩
  have : (C x).getD z.toNat 0 = 0 := by
    rw [List.getD_eq_getElem?_getD, List.getElem?_eq_none (by rw [len_C]; omega)]; rfl
  rw [aE, b, this]; rfl
theorem span_no {x : Str} {z y : Int} (h : z = bE (C x) ∧ aE (C x) = y.toNat) (h0 : 0 ≤ y) (e : ((dgE (C x) y.toNat : Nat) : Int) = y) : eE (C x) = aE (C x) := by
  rw [eE, h.2]; omega
theorem span_yes {x : Str} {z y : Int} (h : z = bE (C x) ∧ aE (C x) = y.toNat) (h0 : 0 ≤ y) (e : ((dgE (C x) y.toNat : Nat) : Int) ≠ y) : eE (C x) ≠ aE (C x) := by
  rw [eE, h.2]; omega
theorem span_e {x : Str} {z y : Int} (h : z = bE (C x) ∧ aE (C x) = y.toNat) : ((dgE (C x) y.toNat : Nat) : Int) = (eE (C x) : Int) := by
  rw [eE, h.2]
theorem spec_span {prog : Program} {w : World} {p : Program} {loose : List Str} {mean : ExcName → Option Value} {mg mb : Str → Option Value}
    {dp un : Nat} {gd : Option (List Code)} {cn : Str} {cs : Scope} {a : Addr} {ccd : Value} {cl : List (Str × Addr)} {outer : List Env} {A₀ : Around} {base h₀ : Heap} {L : Addr} {m : Str → Option Value} {news : List (Addr × Obj)} {s : Shared} {Q E : Value → Shared → Prop} (x : Str) (t : Tok) (hx : x.length ≤ 1000)
    (B : Below A₀ base outer h₀) (F : Fr h₀ L s.heap m) (X : Frag.In (hdG.heap_39 w.params) h₀) (N : News h₀ L s.heap news) (T : Top p loose mean mg mb h₀) (hk : cs.kind = .function) (hdp : dp + 2 < recursionLimit) (hun : un + 16 < cLine)
    (ret : eE (C x) = aE (C x) → ∀ h' tk', Fr h₀ L h' m → News h₀ L h' news → Q .none { s with heap := h', toks := tk' })
    (ret1 : ∀ (b e : Int) (t1 t2 : Tok) (D : Addr) h' tk', eE (C x) ≠ aE (C x) → b = bE (C x) → e = eE (C x) → Fr h₀ L h' m → News h₀ L h' ((D, { cls := .type "tuple", data := .seq #[.int b t1, .int e t2] }) :: news) → (∀ p ∈ news, p.1 < D) → Q (.ref D) { s with heap := h', toks := tk' }) :
    wpAny (model prog w) (ktrTop dp un gd cn cs L a ccd cl outer) (call (.ref 65) [.str x t]) Q E s := by
  w_top off
  k_with_none
  k_with "call ref" => (k_here; k_dflt ((show wpAny _ _ (call (Value.ref 58) [Value.str _ _, Value.int _ _]) _ _ _); refine' spec_dend _ _ _ _ (by assumption) (by omega) (by omega) (by k_asm) (by k_asm) (by k_asm) (by k_asm) (by k_asm) (by first | exact rfl | assumption) (by ktr_room) (by ktr_units) ?_); intro t9 h9 tk9 F9 N9; (try k_sweep); (try dsimp only))
  k_with "measure" => omega
  k_with "state" => first | exact ⟨by omega, by omega, rfl⟩ | exact span_st (by assumption) (by assumption) (by assumption) (by assumption)
  k_with "exec While BoolOp cons nil" => k_while (fun _ z => 0 ≤ z ∧ z ≤ x.length ∧ spE (C x) z.toNat = spE (C x) 0) (fun _ z => (x.length - z).toNat) "begin"
  refine wpAny_call ?_
  k_dflt cell_enter
  k_steps
  all_goals first
    | (have hq := span_1 (by assumption) (by assumption) (by assumption) (by assumption) (by assumption); first | exact ret (span_no hq (by omega) (by assumption)) _ _ (by assumption) (by assumption) | exact ret1 _ _ _ _ _ _ _ (span_yes hq (by omega) (by assumption)) hq.1 (span_e hq) (by assumption) (by assumption) (by assumption))
    | (have hq := span_2 (by assumption) (by assumption) (by assumption) (by assumption) (by assumption); first | exact ret (span_no hq (by omega) (by assumption)) _ _ (by assumption) (by assumption) | exact ret1 _ _ _ _ _ _ _ (span_yes hq (by omega) (by assumption)) hq.1 (span_e hq) (by assumption) (by assumption) (by assumption))
    | (have hq := span_3 (by assumption) (by assumption) (by assumption); first | exact ret (span_no hq (by omega) (by assumption)) _ _ (by assumption) (by assumption) | exact ret1 _ _ _ _ _ _ _ (span_yes hq (by omega) (by assumption)) hq.1 (span_e hq) (by assumption) (by assumption) (by assumption))
end Mine
end PartQ3
section PartQ4
open PySem PySem.W PyProof.Rows
namespace Mine
theorem range_a {n : Int} (h : -9223372036854775808 ≤ n) : inR n = decide (n ≤ 9223372036854775807) := by simp [inR, h]
theorem range_b {n : Int} (h : ¬ -9223372036854775808 ≤ n) : inR n = decide (-9223372036854775808 ≤ n) := by simp [inR, h]
theorem spec_range {prog : Program} {w : World} {p : Program} {loose : List Str} {mean : ExcName → Option Value} {mg mb : Str → Option Value}
    {dp un : Nat} {gd : Option (List Code)} {cn : Str} {cs : Scope} {a : Addr} {ccd : Value} {cl : List (Str × Addr)} {outer : List Env} {A₀ : Around} {base h₀ : Heap} {L : Addr} {m : Str → Option Value} {news : List (Addr × Obj)} {s : Shared} {Q E : Value → Shared → Prop} (n : Int) (t : Tok)
    (B : Below A₀ base outer h₀) (F : Fr h₀ L s.heap m) (X : Frag.In (hdG.heap_39 w.params) h₀) (N : News h₀ L s.heap news) (T : Top p loose mean mg mb h₀) (hk : cs.kind = .function) (hdp : dp + 1 < recursionLimit) (hun : un + 8 < cLine)
    (ret : ∀ h' tk', Fr h₀ L h' m → News h₀ L h' news → Q (.bool (inR n)) { s with heap := h', toks := tk' }) :
    wpAny (model prog w) (ktrTop dp un gd cn cs L a ccd cl outer) (call (.ref 51) [.int n t]) Q E s := by
  w_top off
  k_with_none
  refine wpAny_call ?_
  k_dflt cell_enter
  k_steps
  · exact q_bool (ret _ _ (by assumption) (by assumption)) (range_a (by assumption))
  · exact q_bool (ret _ _ (by assumption) (by assumption)) (range_b (by assumption))
end Mine
end PartQ4
section PartQ5
open PySem PySem.W PyProof.Rows
namespace Mine
theorem whole_st {l : List Int} {n : Nat} (h : l.all isSp = true) (ho : (Builtin.Str.occurrences (Str.ofString " \t\n\x0b\x0c\r") ⟨#[n]⟩ 0 (Str.ofString " \t\n\x0b\x0c\r").length 1).isEmpty = false) : (l ++ [(n : Int)]).all isSp = true := by
  rw [occ_sp] at ho
  rw [List.all_append, h]; simpa using ho
theorem bE_le (l : List Int) : bE l ≤ l.length := runE_len (Nat.zero_le _)
theorem aE_ge (l : List Int) : bE l ≤ aE l := by unfold aE; split <;> omega
theorem aE_le (l : List Int) : aE l ≤ l.length := by
  unfold aE
  split
  · rename_i h
    by_cases hb : bE l < l.length
    · omega
    · rw [List.getD_eq_getElem?_getD, List.getElem?_eq_none (by omega)] at h
      exact absurd h (by decide)
  · exact bE_le l
theorem eE_ge (l : List Int) : aE l ≤ eE l := runE_le
theorem eE_le (l : List Int) : eE l ≤ l.length := runE_len (aE_le l)
theorem beE (l : List Int) : bE l ≤ eE l := Nat.le_trans (aE_ge l) (eE_ge l)
theorem sl_all (x : Str) {e : Int} (he : e = eE (C x)) : C (Txt.slice x (some e) none) = (C x).drop (eE (C x)) := by
  have h := eE_le (C x)
  rw [len_C] at h
  subst he
  rw [slice_from x (by omega) (by omega)]; simp
theorem sl_val (x : Str) {b e : Int} (hb : b = bE (C x)) (he : e = eE (C x)) : numV (C (Txt.slice x (some b) (some e))) = valL (C x) := by
  have h1 := eE_le (C x)
  have h2 := beE (C x)
  rw [len_C] at h1
  subst hb he
  rw [slice_ij x (by omega) (by omega), valL]
  have e1 : ((bE (C x) : Nat) : Int).toNat = bE (C x) := by omega
  have e2 : (((eE (C x) : Nat) : Int) - ((bE (C x) : Nat) : Int)).toNat = eE (C x) - bE (C x) := by omega
  rw [e1, e2]
theorem whole_a {x : Str} {e : Int} {pre post : List Int} {n : Nat} (hs : eE (C x) ≠ aE (C x)) (he : e = eE (C x)) (hq : KStt.codes (Txt.slice x (some e) none) = pre ++ (n : Int) :: post)
    (ho : (Builtin.Str.occurrences (Str.ofString " \t\n\x0b\x0c\r") ⟨#[n]⟩ 0 (Str.ofString " \t\n\x0b\x0c\r").length 1).isEmpty = true) : wh (C x) = none := by
  rw [occ_sp] at ho
  have hq : C (Txt.slice x (some e) none) = pre ++ (n : Int) :: post := hq
  rw [sl_all x he] at hq
  have : ¬ ((C x).drop (eE (C x))).all isSp = true := by
    rw [hq, List.all_append, List.all_cons]; simp at ho; simp [ho]
  rw [wh, if_neg hs, if_neg this]
theorem whole_b {x : Str} {b e : Int} (hs : eE (C x) ≠ aE (C x)) (hb : b = bE (C x)) (he : e = eE (C x)) (hq : (KStt.codes (Txt.slice x (some e) none)).all isSp = true)
    (hr : inR (numV (C (Txt.slice x (some b) (some e)))) = true) : wh (C x) = some (numV (C (Txt.slice x (some b) (some e)))) := by
  have hq : (C (Txt.slice x (some e) none)).all isSp = true := hq
  rw [sl_all x he] at hq
  rw [sl_val x hb he] at hr ⊢
  rw [wh, if_neg hs, if_pos hq, if_pos hr]
theorem whole_c {x : Str} {b e : Int} (hs : eE (C x) ≠ aE (C x)) (hb : b = bE (C x)) (he : e = eE (C x)) (hq : (KStt.codes (Txt.slice x (some e) none)).all isSp = true)
    (hr : inR (numV (C (Txt.slice x (some b) (some e)))) = false) : wh (C x) = none := by
  have hq : (C (Txt.slice x (some e) none)).all isSp = true := hq
  rw [sl_all x he] at hq
  rw [sl_val x hb he] at hr
  rw [wh, if_neg hs, if_pos hq, if_neg (by simp [hr])]
theorem whole_d {l : List Int} (hs : eE l = aE l) : wh l = none := by rw [wh, if_pos hs]
theorem spec_whole {prog : Program} {w : World} {p : Program} {loose : List Str} {mean : ExcName → Option Value} {mg mb : Str → Option Value}
    {dp un : Nat} {gd : Option (List Code)} {cn : Str} {cs : Scope} {a : Addr} {ccd : Value} {cl : List (Str × Addr)} {outer : List Env} {A₀ : Around} {base h₀ : Heap} {L : Addr} {m : Str → Option Value} {news : List (Addr × Obj)} {s : Shared} {Q E : Value → Shared → Prop} (x : Str) (t : Tok) (hx : x.length ≤ 1000)
    (B : Below A₀ base outer h₀) (F : Fr h₀ L s.heap m) (X : Frag.In (hdG.heap_39 w.params) h₀) (N : News h₀ L s.heap news) (T : Top p loose mean mg mb h₀) (hk : cs.kind = .function) (hdp : dp + 3 < recursionLimit) (hun : un + 24 < cLine)
    (ret : wh (C x) = none → ∀ h' tk', Fr h₀ L h' m → News h₀ L h' news → Q .none { s with heap := h', toks := tk' })
    (ret1 : ∀ (n : Int) (t1 : Tok) h' tk', wh (C x) = some n → Fr h₀ L h' m → News h₀ L h' news → Q (.int n t1) { s with heap := h', toks := tk' }) :
    wpAny (model prog w) (ktrTop dp un gd cn cs L a ccd cl outer) (call (.ref 79) [.str x t]) Q E s := by
  w_top off
  k_with_none
  k_with "call ref" => (k_here; k_dflt ((show wpAny _ _ (call (Value.ref 65) [Value.str _ _]) _ _ _); refine' spec_span _ _ (by assumption) (by k_asm) (by k_asm) (by k_asm) (by k_asm) (by k_asm) (by first | exact rfl | assumption) (by ktr_room) (by ktr_units) ?_ ?_); rotate_left; (focus (intro b9 e9 t9 t8 d9 h9 tk9 hs9 hb9 he9 F9 N9 l9; (try k_lt l9); (try k_sweep); (try dsimp only))); rotate_right; (focus (intro hs9 h9 tk9 F9 N9; (try k_sweep); (try dsimp only))))
  k_with "call ref" => (k_here; k_dflt ((show wpAny _ _ (call (Value.ref 72) [Value.str _ _]) _ _ _); refine' spec_numof _ _ (by omega) (by k_asm) (by k_asm) (by k_asm) (by k_asm) (by k_asm) (by first | exact rfl | assumption) (by ktr_room) (by ktr_units) ?_); intro t9 h9 tk9 F9 N9; (try k_sweep); (try dsimp only))
  k_with "call ref" => (k_here; k_dflt ((show wpAny _ _ (call (Value.ref 51) [Value.int _ _]) _ _ _); refine' spec_range _ _  (by k_asm) (by k_asm) (by k_asm) (by k_asm) (by k_asm) (by first | exact rfl | assumption) (by ktr_room) (by ktr_units) ?_); intro  h9 tk9 F9 N9; (try k_sweep); (try dsimp only))
  k_with "InvEndN" => ((rename News _ _ _ _ => nE'); (refine kst_end () (by assumption) nE' (fun p hp => List.mem_append_left _ hp) (fun p hp => List.mem_append_right _ hp) rfl trivial (fun p hp => nomatch hp) (fun z hz _ _ => by simp [hz, kstB]) ?_); k_extra "state")
  k_with "exec For Name Subscript cons nil" => (k_here; (rename Fr _ _ _ _ => lF'); (with_unfolding_all refine' For_invVF lF' (by exact rfl) (by exact rfl) ?_; k_whole))
  k_with "state" => exact whole_st (by assumption) (by assumption)
  k_with "pyIter str" => ((rename Fr _ _ _ _ => lF'); (rename News _ _ _ _ => lN'); (with_unfolding_all refine' KStt.kst_text (σ := Unit) (fun _ => _) (fun _ => []) (fun _ => True) [] (fun pre _ => pre.all isSp = true) () (by rfl) lF' lN' trivial (by intro p hp; cases hp) ?r0 ?r1 ?r2); (case r0 => rfl); (case' r1 => (clear lF' lN'; intro kC kPre kPost kN kT kU kH kTk kOwn kEq kOff kFacts kInv kFr kNews; (try k_fold))); (case' r2 => (clear lF' lN'; intro kC kU kH kTk kFacts kInv kFr kNews; (try k_fold))))
  refine wpAny_call ?_
  k_dflt cell_enter
  k_steps
  all_goals first
    | exact ret1 _ _ _ _ (whole_b (by assumption) (by assumption) (by assumption) (by assumption) (by assumption)) (by assumption) (by first | assumption | exact cb_drop (by assumption) (by intro p hp; simp [hp]))
    | exact ret (whole_c (by assumption) (by assumption) (by assumption) (by assumption) (by assumption)) _ _ (by assumption) (by first | assumption | exact cb_drop (by assumption) (by intro p hp; simp [hp]))
    | exact ret (whole_a (by assumption) (by assumption) (by assumption) (by assumption)) _ _ (by assumption) (by first | assumption | exact cb_drop (by assumption) (by intro p hp; simp [hp]))
    | exact ret (whole_d (by assumption)) _ _ (by assumption) (by first | assumption | exact cb_drop (by assumption) (by intro p hp; simp [hp]))
end Mine
end PartQ5
section PartW3
open PySem PySem.W PySem.Spec PySem.Calls PyProof.Rows
namespace Mine
theorem ba_mro : mroOf (.type "bytearray") = pure [.type "bytearray", .type "object"] := by rw [mroOf_type]; kernel_rfl
theorem ba_lookup_new : typeLookup (.type "bytearray") "__new__" = pure (some (.builtin "bytearray.__new__")) := by rw [typeLookup_type, builtinLookup_eq_fast]; kernel_rfl
theorem ba_slot_init : Slot "bytearray" "__init__" "bytearray.__init__" :=
  .of (owner := "bytearray") (n := "__init__") (by rw [typeLookup_type, builtinLookup_eq_fast]; kernel_rfl) (by decide +kernel) (by decide +kernel) (by decide +kernel)
    (by first | exact .inl (by decide +kernel) | exact .inr (by decide +kernel)) (by rw [isSubtype_type]; kernel_rfl)
theorem ba_called : TypeCalled "bytearray" "bytearray.__new__" "bytearray.__init__" :=
  ⟨by decide +kernel, by decide +kernel, ⟨_, _, ba_mro⟩, madeBy_type ba_mro ba_lookup_new (by decide +kernel), by decide +kernel, by rw [isSubtype_type]; kernel_rfl, ba_slot_init⟩
theorem ba_typeCall : checkTypeCall "bytearray" ⟨[], []⟩ = pure () := by kernel_rfl
theorem ba_newCall : checkBuiltinCall "bytearray.__new__" ⟨[.type "bytearray"], []⟩ = pure () := by kernel_rfl
theorem ba_plain_new : plainId "bytearray.__new__" = true := by decide +kernel
theorem ba_plain_init : plainId "bytearray.__init__" = true := by decide +kernel
theorem ba_plain_append : plainId "bytearray.append" = true := by decide +kernel
theorem ba_entry_new : entryFor table "bytearray.__new__" = some Builtin.«list.__new__» := entryFor_alias (id' := "list.__new__") (by kernel_rfl) (by decide +kernel) (by decide +kernel) (by kernel_rfl)
theorem ba_entry_init : entryFor table "bytearray.__init__" = some Builtin.«bytearray.__init__» := by first | exact entryFor_of_fast (by kernel_rfl) | exact entryFor_of_tree (by kernel_rfl)
theorem ba_entry_append : entryFor table "bytearray.append" = some Builtin.«bytearray.append» := by first | exact entryFor_of_fast (by kernel_rfl) | exact entryFor_of_tree (by kernel_rfl)
theorem ba_slot_append : Slot "bytearray" "append" "bytearray.append" :=
  .of (owner := "bytearray") (n := "append") (by rw [typeLookup_type, builtinLookup_eq_fast]; kernel_rfl) (by decide +kernel) (by decide +kernel) (by decide +kernel)
    (by first | exact .inl (by decide +kernel) | exact .inr (by decide +kernel)) (by rw [isSubtype_type]; kernel_rfl)
theorem ba_attrs : PlainAttrs "bytearray" := ⟨⟨"bytearray.__getattribute__", by rw [typeLookup_type, builtinLookup_eq_fast]; kernel_rfl, by decide +kernel⟩, by rw [typeLookup_type, builtinLookup_eq_fast]; kernel_rfl⟩
theorem ba_appendCall (a : Addr) (v : Value) : checkBuiltinCall "bytearray.append" ⟨[.ref a, v], []⟩ = checkBuiltinCall "bytearray.append" ⟨[.ref a, v], []⟩ := rfl
theorem ba_type_append : typeOf (.builtin "bytearray.append") = pure (.type "method_descriptor") := by kernel_rfl
theorem ba_no_release : typeLookup (.type "bytearray") "__release_buffer__" = pure (some (.builtin "bytearray.__release_buffer__")) := by rw [typeLookup_type, builtinLookup_eq_fast]; kernel_rfl
theorem ba_sub : isSubtype (.type "bytearray") (.type "bytearray") = pure true := by rw [isSubtype_type]; kernel_rfl
theorem ba_bind : Builtin.Bytes.bindOptional "bytearray.__init__" "bytearray" ["source", "encoding", "errors"] [] [] = pure [none, none, none] := by kernel_rfl
set_option maxRecDepth 1000000 in
set_option maxHeartbeats 4000000 in
theorem ba_owner : ("bytearray.__new__".splitOn ".__new__").headD "" = "bytearray" := by simp +decide [String.splitOn, String.splitOnAux]
end Mine
end PartW3
section PartW4
open PySem PySem.W PySem.Spec PySem.Calls PyProof.Rows
namespace Mine
section
variable {prog : Program} {w : World} {A : Around} {s : Shared}
theorem ifC_false {α : Type} {M : Model} {c : Bool} {a b : Sem α} {Q : α → Shared → Prop} (hc : c = false) (h : wpC M A b Q s) : wpC M A (if c = true then a else b) Q s := by subst hc; exact h
theorem ifC_true {α : Type} {M : Model} {c : Bool} {a b : Sem α} {Q : α → Shared → Prop} (hc : c = true) (h : wpC M A a Q s) : wpC M A (if c = true then a else b) Q s := by subst hc; exact h
theorem contains_right {l₁ l₂ : List String} {a : String} (h : (l₁ ++ l₂).contains a = false) : l₂.contains a = false := by
  rw [Bool.eq_false_iff] at h ⊢
  intro h2
  exact h (List.contains_iff_mem.mpr (List.mem_append_right _ (List.contains_iff_mem.mp h2)))
theorem any_clean {self : Value} (l : List (Code × Pos)) (h : ∀ x ∈ l, cleanC x.1 = true) (f : Code × Pos → Bool) (hf : ∀ id args p, holdIds.contains id = false → f (.builtin id args, p) = false) (hn : ∀ c p, (∀ id args, c ≠ .builtin id args) → f (c, p) = false) : l.any f = false := by
  rw [List.any_eq_false]
  rintro ⟨c, p⟩ hx hfx
  have hc := h _ hx
  cases c with
  | builtin id args => rw [hf id args p (by simpa [cleanC] using hc)] at hfx; cases hfx
  | _ => rw [hn _ p (by intro id args e; cases e)] at hfx; cases hfx
theorem exportedC {M : Model} {self : Value} {Q : Bool → Shared → Prop} (h : Q false s) : wpC M A (Builtin.Bytes.exported self) Q s := fun Γ p hΓ hc => by
  unfold Builtin.Bytes.exported
  show Q (((Γ.code, p) :: Γ.below).any _) s
  rw [any_clean (self := self) ((Γ.code, p) :: Γ.below)]
  · exact h
  · intro x hx
    rcases List.mem_cons.mp hx with rfl | hx
    · exact hc.1
    · exact hc.2 x hx
  · intro id args p hid
    split
    all_goals first
      | rfl
      | (rename_i e; injection e with e1 e2; injection e1 with e3 e4; subst e3; exact absurd hid (by decide))
      | skip
    rename_i e
    injection e with e1 e2; injection e1 with e3 e4; subst e3
    have hd := contains_right hid
    rw [hd, Bool.and_false]
  · intro c p hcc
    split
    all_goals first
      | rfl
      | (rename_i e; injection e with e1 e2; exact absurd e1 (hcc _ _))
abbrev baObj (b : Array UInt8) : Obj := { cls := .type "bytearray", data := .bytearray b }
theorem codeC_builtin {id : String} {args : Args} {b : Builtin} {R : Result → Shared → Prop} (hb : entryFor table id = some b) (hcl : cleanC (.builtin id args) = true)
    (h : wpC (model prog w) (A.under (.builtin id args)) (b args) (fun fin s' => match fin with | .done f => R (.ok f) s' | .again c' => c'.quiet = true ∧ codeC (model prog w) A c' R s') s) : codeC (model prog w) A (.builtin id args) R s := by
  refine codeC_of_tree hcl ?_
  have hden : (model prog w).den (.builtin id args) = b args := by
    show (match entryFor table id with | some b => b args | none => unsupported ((withoutEnding? id "#data").getD id)) = _
    rw [hb]
  rw [hden]; exact h
theorem byteValueC {M : Model} {n : Int} {t : Tok} {Q : UInt8 → Shared → Prop} (h0 : 0 ≤ n) (h1 : n < 256) (h : Q n.toNat.toUInt8 s) : wpC M A (Builtin.Bytes.byteValue (.int n t)) Q s := by
  unfold Builtin.Bytes.byteValue
  refine wpC_bind (wpC_of_eq (rfl : asIndex (.int n t) = pure n) ?_)
  refine ifC_false (by simp only [Bool.or_eq_false_iff, decide_eq_false_iff_not]; omega) ?_
  exact wpC_pure h
theorem checkResizeC {M : Model} {a : Addr} {b : Array UInt8} {Q : Unit → Shared → Prop} (hS : s.heap.get? a = some (baObj b)) (h : Q () s) : wpC M A (Builtin.Bytes.checkResize (.ref a)) Q s := by
  unfold Builtin.Bytes.checkResize
  refine wpC_bind ?_
  unfold orM
  refine wpC_bind (exportedC ?_)
  show wpC M A (Builtin.Bytes.exportsOf (.ref a) >>= fun n => pure (decide (n > 0))) _ s
  refine wpC_bind ?_
  unfold Builtin.Bytes.exportsOf
  refine wpC_bind (wpC_any (wpAny_load hS ?_))
  exact wpC_pure (wpC_pure (ifC_false (by decide) (wpC_pure h)))
theorem writeC {M : Model} {a : Addr} {b : Array UInt8} {f : Array UInt8 → Array UInt8} {Q : Unit → Shared → Prop} (hS : s.heap.get? a = some (baObj b)) (hz : (f b).size ≤ sizeLine)
    (h : Q () { s with heap := s.heap.update a (Obj.mapBytearray f) }) : wpC M A (Builtin.Bytes.write (.ref a) f) Q s := by
  show wpC M A (updateBytearray a f) Q s
  unfold updateBytearray
  refine wpC_bind (wpC_any (wpAny_load hS ?_))
  show wpC M A (update a (Obj.mapBytearray f) >>= fun _ => lookBehind a) Q s
  refine wpC_bind (wpC_any (wpAny_update hS ?_))
  refine wpC_any (wpAny_lookBehind (o := baObj (f b)) (Heap.get?_update_self (Obj.mapBytearray f) hS rfl) ?_ h)
  show (if (f b).size > sizeLine then some "bytearray:memory" else none) = none
  rw [if_neg (by omega)]
theorem appendC {a : Addr} {b : Array UInt8} {n : Int} {t : Tok} {Q : Value → Shared → Prop} (hS : s.heap.get? a = some (baObj b)) (h0 : 0 ≤ n) (h1 : n < 256) (hz : b.size < sizeLine)
    (h : Q .none { s with heap := s.heap.update a (Obj.mapBytearray (·.push n.toNat.toUInt8)) }) : wpC (model prog w) A (call (.builtin "bytearray.append") [.ref a, .int n t]) Q s := by
  refine wpC_call (codeC_of_tree rfl ?_)
  show wpC _ A.in1 (do checkBuiltinCall "bytearray.append" ⟨[.ref a, .int n t], []⟩; again (.builtin "bytearray.append" ⟨[.ref a, .int n t], []⟩)) _ s
  refine wpC_bind (wpC_any (ba_slot_append.check _ _ _ _ (.ref a) [.int n t] [] _ ⟨_, hS, rfl⟩ ?_ ?_))
  · unfold argsOk; kernel_rfl
  refine wpC_pure ⟨plainId_quiet ba_plain_append _, codeC_builtin ba_entry_append rfl ?_⟩
  rw [Around.under_plainId ba_plain_append _]
  unfold Builtin.«bytearray.append»
  refine wpC_bind (wpC_of_eq (a := (.ref a, .int n t)) rfl ?_)
  refine wpC_bind (byteValueC h0 h1 ?_)
  refine wpC_bind (checkResizeC hS ?_)
  refine wpC_bind (writeC hS (by rw [Array.size_push]; omega) ?_)
  exact wpC_pure h

theorem code_ba_new {Q₁ : Value → Shared → Prop} (h : Q₁ (.ref s.heap.objs.size) { s with heap := s.heap.push (baObj #[]) }) :
    codeC (model prog w) A (.call (.builtin "bytearray.__new__") ⟨[.type "bytearray"], []⟩) (fun r s' => match r with | .ok (.ret v) => Q₁ v s' | .ok _ => False | .error _ => False) s := by
  have hAny : codeAny (model prog w) A (.call (.builtin "bytearray.__new__") ⟨[.type "bytearray"], []⟩) (wants Q₁ fun _ _ => False) s := by
    refine codeAny_of_tree ?_
    show wpAny _ A.in1 (do checkBuiltinCall "bytearray.__new__" ⟨[.type "bytearray"], []⟩; again (.builtin "bytearray.__new__" ⟨[.type "bytearray"], []⟩)) _ _ s
    refine wpAny_bind (wpAny_of_eq ba_newCall (wpAny_pure ⟨plainId_quiet ba_plain_new _, codeAny_builtin_stack ba_entry_new rfl fun p st => ?_⟩))
    rw [Around.under_plainId ba_plain_new _]
    have hsub := ba_sub
    have hown := ba_owner
    obtain ⟨hp, g, d, tk, os⟩ := s
    simp only [hown]
    wp_walk
    exact h
  intro Γ p hc hb hk
  refine wpCode_mono (fun r s' hr => ?_) (hAny Γ p hc hb)
  cases r with
  | ok f => cases f <;> exact hr
  | error e => exact hr
theorem ownReleaseC {M : Model} {a : Addr} {b : Array UInt8} {Q : Bool → Shared → Prop} (hS : s.heap.get? a = some (baObj b)) (h : Q false s) : wpC M A (Builtin.Bytes.ownRelease (.ref a)) Q s := by
  have hT : s.TypeIs (.ref a) "bytearray" := ⟨_, hS, rfl⟩
  unfold Builtin.Bytes.ownRelease
  refine wpC_bind ?_
  unfold Builtin.Bytes.slotIsOwn
  refine wpC_bind (wpC_any (wpAny_specialOf hT ba_no_release ?_))
  dsimp only
  refine ifC_false (by decide +kernel) ?_
  have e : "bytearray.__release_buffer__".dropRight ("__release_buffer__".length + 1) = "bytearray" := by decide +kernel
  rw [e]
  refine wpC_any (wpAny_isInstance hT ba_sub ?_)
  exact wpC_pure h
theorem ba_sub' : ∀ a : Value, checkBuiltinCall "bytearray.__init__" ⟨[a], []⟩ = checkBuiltinCall "bytearray.__init__" ⟨[a], []⟩ := fun _ => rfl
theorem initC {a : Addr} {Q : Flow → Shared → Prop} (hS : s.heap.get? a = some (baObj #[])) (h : Q (.ret .none) { s with heap := s.heap.update a (Obj.mapBytearray fun _ => #[]) }) :
    wpC (model prog w) A (Builtin.«bytearray.__init__» ⟨[.ref a], []⟩) (fun fin s' => match fin with | .done f => Q f s' | .again _ => False) s := by
  unfold Builtin.«bytearray.__init__»
  dsimp only
  refine wpC_bind (ownReleaseC hS ?_)
  refine ifC_false rfl ?_
  refine wpC_bind (wpC_of_eq ba_bind ?_)
  dsimp only
  refine wpC_bind (wpC_of_eq (a := ()) rfl ?_)
  refine wpC_bind (wpC_of_eq (a := ()) rfl ?_)
  refine wpC_bind ?_
  unfold orM
  refine wpC_bind (exportedC ?_)
  show wpC _ A (Builtin.Bytes.exportsOf (.ref a) >>= fun n => pure (decide (n > 0))) _ s
  refine wpC_bind ?_
  unfold Builtin.Bytes.exportsOf
  refine wpC_bind (wpC_any (wpAny_load hS ?_))
  refine wpC_pure (wpC_pure (ifC_false (by decide) ?_))
  refine wpC_bind (writeC hS (by show 0 ≤ _; exact Nat.zero_le _) ?_)
  refine wpC_bind (ifC_false rfl (ifC_false rfl (wpC_pure ?_)))
  exact wpC_pure h
theorem ba_specialInit {M : Model} {a : Addr} {b : Array UInt8} {Q : Option Value → Shared → Prop} (hS : s.heap.get? a = some (baObj b))
    (h : wpC M A (call (.builtin "bytearray.__init__") [.ref a]) (fun r s' => Q (some r) s') s) : wpC M A (callSpecial? (.ref a) "__init__" [] []) Q s := by
  have hT : s.TypeIs (.ref a) "bytearray" := ⟨_, hS, rfl⟩
  unfold callSpecial?
  refine wpC_bind (wpC_any (wpAny_specialOf hT ba_slot_init.lookup ?_))
  dsimp only
  refine wpC_holding ?_
  refine wpC_bind (wpC_of_eq (ba_slot_init.bind (.ref a)) ?_)
  dsimp only
  refine wpC_bind ?_
  exact wpC_mono h fun r s' h' => wpC_pure h'
theorem newC {Q : Value → Shared → Prop} (h : Q (.ref s.heap.objs.size) { s with heap := (s.heap.push (baObj #[])).update s.heap.objs.size (Obj.mapBytearray fun _ => #[]) }) :
    wpC (model prog w) A (call (.type "bytearray") []) Q s := by
  refine wpC_call (codeC_of_tree rfl ?_)
  show wpC _ A.in1 (callAny (.type "bytearray") ⟨[], []⟩) _ _
  refine wpC_pure ⟨Code.quiet_builtin _ (by decide +kernel), codeC_builtin F.entry_type_call rfl ?_⟩
  rw [Around.under_plain (weight_type_call_type "bytearray" [] []) rfl]
  unfold Builtin.«type.__call__»
  dsimp only
  refine ifC_false (by decide) ?_
  refine ifC_false ba_called.canCreate ?_
  refine wpC_bind (wpC_of_eq ba_typeCall ?_)
  refine wpC_bind (wpC_of_eq ba_mro ?_)
  refine ifC_false rfl ?_
  refine wpC_bind (wpC_of_eq ba_called.made ?_)
  dsimp only
  refine wpC_bind (wpC_pure ?_)
  refine wpC_bind (wpC_holding (wpC_call (code_ba_new ?_)))
  have hS : (s.heap.push (baObj #[])).get? s.heap.objs.size = some (baObj #[]) := Heap.get?_push_size _ rfl
  refine wpC_bind (wpC_any (wpAny_isInstance (T := "bytearray") ⟨_, hS, rfl⟩ ba_sub ?_))
  refine ifC_false rfl ?_
  refine wpC_bind (wpC_holding (ba_specialInit hS ?_))
  refine wpC_call (codeC_of_tree rfl ?_)
  show wpC _ A.in1.in1 (do checkBuiltinCall "bytearray.__init__" ⟨[.ref _], []⟩; again (.builtin "bytearray.__init__" ⟨[.ref _], []⟩)) _ _
  refine wpC_bind (wpC_any (ba_slot_init.check _ _ _ _ (.ref _) [] [] _ ⟨_, hS, rfl⟩ ?_ ?_))
  · unfold argsOk; kernel_rfl
  refine wpC_pure ⟨plainId_quiet ba_plain_init _, codeC_builtin ba_entry_init rfl ?_⟩
  rw [Around.under_plainId ba_plain_init _]
  refine wpC_mono (initC (Q := fun f s' => match f with | .ret v => v = .none ∧ Q (.ref s.heap.objs.size) s' | _ => False) hS ⟨rfl, h⟩) fun fin s' h' => ?_
  cases fin with
  | again c => exact h'.elim
  | done f =>
    cases f with
    | ret v =>
      obtain ⟨rfl, hq⟩ := h'
      exact ifC_false rfl (wpC_pure hq)
    | _ => exact h'.elim
end
end Mine
end PartW4
section PartW5
open PySem PySem.W PySem.Spec PySem.Calls PyProof.Rows
namespace Mine
theorem ba_no_bytes : typeLookup (.type "bytearray") "__bytes__" = pure none := by rw [typeLookup_type, builtinLookup_eq_fast]; kernel_rfl
theorem ba_no_index : typeLookup (.type "bytearray") "__index__" = pure none := by rw [typeLookup_type, builtinLookup_eq_fast]; kernel_rfl
theorem ba_buffer : typeLookup (.type "bytearray") "__buffer__" = pure (some (.builtin "bytearray.__buffer__")) := by rw [typeLookup_type, builtinLookup_eq_fast]; kernel_rfl
section
variable {prog : Program} {w : World} {A : Around} {E : Value → Shared → Prop} {s : Shared}
theorem slotOwnA {M : Model} {a : Addr} {b : Array UInt8} {name : String} {Q : Bool → Shared → Prop} (hl : typeLookup (.type "bytearray") (name : Str) = pure (some (.builtin ("bytearray." ++ name)))) (hS : s.heap.get? a = some (baObj b))
    (h1 : (!("bytearray." ++ name).endsWith ("." ++ name)) = false) (h2 : ("bytearray." ++ name).dropRight (name.length + 1) = "bytearray") (h : Q true s) : wpAny M A (Builtin.Bytes.slotIsOwn (.ref a) name) Q E s := by
  have hT : s.TypeIs (.ref a) "bytearray" := ⟨_, hS, rfl⟩
  unfold Builtin.Bytes.slotIsOwn
  refine wpAny_bind (wpAny_specialOf hT hl ?_)
  dsimp only
  refine bm_if_false h1 ?_
  rw [h2]
  exact wpAny_isInstance hT ba_sub h
theorem ba_bytes_new {a : Addr} {b : Array UInt8} {Q : Value → Shared → Prop} (hS : s.heap.get? a = some (baObj b)) (hz : b.size ≤ sizeLine) (hQ : Q (.bytes b s.toks) { s with toks := s.toks + 1 }) :
    codeAny (model prog w) A (.call (.builtin "bytes.__new__") ⟨[.type "bytes", .ref a], []⟩) (wants Q E) s := by
  refine codeAny_of_tree ?_
  show wpAny _ A.in1 (do checkBuiltinCall "bytes.__new__" ⟨[.type "bytes", .ref a], []⟩; again (.builtin "bytes.__new__" ⟨[.type "bytes", .ref a], []⟩)) _ _ s
  refine wpAny_bind (wpAny_of_eq (F.bm_newCall _) (wpAny_pure ⟨plainId_quiet F.bm_plain _, codeAny_builtin F.bm_entry ?_⟩))
  rw [Around.under_plainId F.bm_plain _]
  have hT : s.TypeIs (.ref a) "bytearray" := ⟨_, hS, rfl⟩
  unfold Builtin.«bytes.__new__»
  refine wpAny_bind (wpAny_of_eq (a := true) rfl ?_)
  refine bm_if_false rfl ?_
  refine wpAny_bind (wpAny_of_eq F.bm_sub ?_)
  refine bm_if_false rfl ?_
  refine wpAny_bind (wpAny_of_eq (F.bm_bind _) ?_)
  refine wpAny_bind (wpAny_of_eq (a := ()) rfl ?_)
  refine wpAny_bind (wpAny_of_eq (a := ()) rfl ?_)
  refine bm_if_false rfl ?_
  refine wpAny_bind (wpAny_specialOf hT ba_no_bytes ?_)
  refine wpAny_bind (wpAny_bind ?_)
  show wpAny _ _ (load a >>= _) _ _ _
  refine wpAny_bind (wpAny_load hS ?_)
  refine wpAny_pure (wpAny_pure ?_)
  refine bm_if_false rfl ?_
  refine wpAny_bind (wpAny_specialOf hT ba_no_index ?_)
  refine bm_if_true rfl ?_
  first
    | show wpAny _ _ (Builtin.Bytes.buffer? "bytes.__new__" (.ref a) true >>= _) _ _ _
    | (refine wpAny_bind ?_; show wpAny _ _ (Builtin.Bytes.buffer? "bytes.__new__" (.ref a) true >>= _) _ _ _)
  refine wpAny_bind ?_
  unfold Builtin.Bytes.buffer?
  refine wpAny_bind (wpAny_specialOf hT ba_buffer ?_)
  dsimp only
  refine wpAny_bind (slotOwnA (name := "__buffer__") ba_buffer hS (by decide +kernel) (by decide +kernel) ?_)
  refine bm_if_false rfl ?_
  refine wpAny_bind (wpAny_specialOf hT ba_buffer ?_)
  (try dsimp only)
  refine wpAny_bind ?_
  unfold Builtin.Bytes.ownRelease
  refine wpAny_bind (slotOwnA (name := "__release_buffer__") ba_no_release hS (by decide +kernel) (by decide +kernel) ?_)
  refine wpAny_pure ?_
  refine bm_if_false rfl ?_
  refine wpAny_bind ?_
  unfold Builtin.Bytes.payload Builtin.Bytes.payload?
  refine wpAny_bind (wpAny_bind (wpAny_load hS ?_))
  refine wpAny_pure (wpAny_pure ?_)
  refine wpAny_pure ?_
  dsimp only
  refine wpAny_bind (wpAny_rule ?_)
  refine wpAny_bind (wpAny_mkBytes ?_ hz)
  show wpAny _ _ (if (Value.type "bytes" == Value.type "bytes") = true then _ else _) _ _ _
  refine bm_if_true (by decide) ?_
  first
    | exact wpAny_pure hQ
    | exact wpAny_bind (wpAny_pure (wpAny_pure hQ))
theorem call_bytes_ba {a : Addr} {b : Array UInt8} {Q : Value → Shared → Prop} (hS : s.heap.get? a = some (baObj b)) (hz : b.size ≤ sizeLine) (hQ : Q (.bytes b s.toks) { s with toks := s.toks + 1 }) :
    wpAny (model prog w) A (call (.type "bytes") [.ref a]) Q E s := by
  refine callType_codes (Q₁ := fun obj s₁ => s₁.TypeIs obj "bytes" ∧ Q obj s₁) F.bm_called (F.bm_typeCall _) F.entry_object_init
    (ba_bytes_new hS hz ⟨PySem.W.typeIs_bytes _ _ _, hQ⟩) fun obj s₁ h₁ => ?_
  exact ⟨h₁.1, F.args_object_init_2 obj _, object_init_meets F.bm_called.init.lookup F.bm_called.made (by decide) prog w A.in1 _ s₁ ⟨h₁.1, rfl, h₁.2⟩⟩
end
end Mine
end PartW5
section PartW6
open PySem PySem.W PySem.Spec PySem.Calls PyProof.Rows
namespace Mine
section
variable {prog : Program} {w : World} {A : Around} {s : Shared} {env : Env} {h₀ : Heap}
theorem wpC_Assign_Name {M : Model} {x : Str} {pos' pos : Pos} {e : Expr} {Q : Flow → Shared → Prop} (hs : swapsWith e (some (.Name x pos')) pos.line env = pure false)
    (h : wpC M A (eval e env) (fun v s' => wpAny M A (storeName env x v) (fun _ s'' => Q .next s'') (fun _ _ => False) s') s) : wpC M A (exec (.Assign [.Name x pos'] e pos) env) Q s := by
  rw [exec_Assign_Name _ x pos' e pos hs]
  refine wpC_bind (wpC_any (wpAny_standAt (wpC_bind (wpC_mono h fun v s' h' => wpC_any ?_))))
  exact wpAny_bind (wpAny_standAt (wpAny_bind (wpAny_bindName (wpAny_mono h' (fun _ s'' h'' => wpAny_pure h'') fun _ _ x => x))))
theorem codeC_text {R : Result → Shared → Prop} {x : Str} {px : Pos} {body : List Stmt} {xt : Str} {tx : Tok} {m : Str → Option Value} {news : List (Addr × Obj)} (hh : A.handled = none)
    (hx : env.kindOf x = some .local) (hp : (env.scope.kind == .class || (env.scope.kind == .module && env.locals != env.globals)) = false)
    (F : Fr h₀ env.locals s.heap m) (N : News h₀ env.locals s.heap news) (J : List Int → (Str → Option Value) → List (Addr × Obj) → Prop) (h0 : J [] m news)
    (step : ∀ pre post (n : Nat) t m₁ news₁ h tk own, KStt.codes xt = pre ++ (n : Int) :: post → news₁.map (·.1) = news.map (·.1) → OwnOff own (news.map (·.1)) → J pre m₁ news₁ → Fr h₀ env.locals h (fun y => if y = x then some (.str ⟨#[n]⟩ t) else m₁ y) → News h₀ env.locals h (news₁ ++ own) →
      wpC (model prog w) A (execs body env) (fun f s₂ => match f with | .ret v => R (.ok (.ret v)) s₂ | .brk => R (.ok .next) s₂ | _ => InvEndN h₀ env.locals (J (pre ++ [(n : Int)])) own (news.map (·.1)) { s with heap := h, toks := tk } s₂) { s with heap := h, toks := tk })
    (done : ∀ h' tk m' news', Fr h₀ env.locals h' m' → News h₀ env.locals h' news' → J (KStt.codes xt) m' news' → R (.ok .next) { s with heap := h', toks := tk }) :
    wpAny (model prog w) A (pyIter (.str xt tx)) (fun it s₂ => codeC (model prog w) A (.forLoop (.Name x px) it body [] env) R s₂) (fun _ _ => False) s := by
  refine wpAny_pyIter_str fun o St hW hst => ?_
  have W := hW A hh
  have hI : ∀ p ∈ news, p.1 ∉ [s.heap.objs.size] := fun p hp hI => absurd (Heap.lt_size (N p hp).1) ((List.mem_singleton.mp hI) ▸ Nat.lt_irrefl _)
  refine codeC_walk (h₀ := h₀) (m := m) (news := news) W hx hp ?_ ?_ hI hst (F.push _) (fun p hp => ⟨Heap.get?_push_of_some _ (N p hp).1, (N p hp).2⟩) (fun i m nx => J ((KStt.codes xt).take i) m nx) (by simpa using h0) ?_ ?_
  · intro hm
    exact absurd F.ns.lt ((List.mem_singleton.mp hm) ▸ Nat.lt_irrefl _)
  · intro b' hb
    rw [List.mem_singleton.mp hb]
    exact next_is_new F
  · rintro i v m₁ nx h tk own hi ⟨n, u, hn, rfl⟩ hadr hoff hJ F₁ N₁
    have hn' := KStt.code_at hn
    have hs : (KStt.codes xt).take (i + 1) = (KStt.codes xt).take i ++ [(n : Int)] := by simp [List.take_add_one, hn']
    have e : KStt.codes xt = (KStt.codes xt).take i ++ (n : Int) :: (KStt.codes xt).drop (i + 1) := by
      have ht := List.take_append_drop (i + 1) (KStt.codes xt)
      rw [hs, List.append_assoc] at ht
      exact ht.symm
    rw [hs]
    exact step _ _ n u m₁ nx h tk own e hadr hoff hJ F₁ N₁
  · rintro h' tk m₁ nx F₁ N₁ hJ
    have hl : xt.cps.size = (KStt.codes xt).length := (KStt.codes_length xt).symm
    rw [hl, List.take_length] at hJ
    exact done h' tk m₁ nx F₁ N₁ hJ
theorem wpC_append {o e : Expr} {apos pos pos' : Pos} {Q : Flow → Shared → Prop} (hi : interactive env = false) (hs : swapsWith (.Call (.Attribute o "append" apos) [e] [] pos) none pos'.line env = pure false)
    (hbase : attributeBase o "append" env (eval o env) = eval o env) (hst : starEach [e] env = (false, eval e env) :: starEach [] env) (hline : (apos.endLine == pos.line) = true)
    (h : wpAny (model prog w) A (eval o env) (fun ov s₁ => ∃ a b, ov = .ref a ∧ s₁.heap.get? a = some (baObj b) ∧
      wpAny (model prog w) A (eval e env) (fun v s₂ => ∃ n t, v = .int n t ∧ 0 ≤ n ∧ n < 256 ∧ s₂.heap.get? a = some (baObj b) ∧ b.size < sizeLine ∧
        Q .next { s₂ with heap := s₂.heap.update a (Obj.mapBytearray (·.push n.toNat.toUInt8)) }) (fun _ _ => False) s₁) (fun _ _ => False) s) :
    wpC (model prog w) A (exec (.Expr (.Call (.Attribute o "append" apos) [e] [] pos) pos') env) Q s := by
  rw [exec_Expr _ _ _ hi hs]
  refine wpC_bind (wpC_any (wpAny_standAt (wpC_bind ?_)))
  rw [arm_eval_Call, hbase]
  refine wpC_bind (wpC_any (wpAny_mono h (fun ov s₁ h₁ => ?_) fun _ _ x => x))
  obtain ⟨a, b, rfl, hS, hc⟩ := h₁
  refine wpC_bind (wpC_any (wpAny_standAt ?_))
  have hform : methodCallForm ([e].length + ([] : List Keyword).length) (backTo pos (starEach [e] env)) (backToKw pos (keywordEach [] env)) = true := by rw [hst]; rfl
  have hpos : methodCallPos true o env apos pos = pure pos := by unfold methodCallPos; simp [hline]
  unfold methodCall
  rw [hform]
  refine wpC_bind (wpC_holding (wpC_any (getMethod_builtin (T := "bytearray") (id := "bytearray.append") ⟨_, hS, rfl⟩ ba_attrs ba_slot_append ba_type_append (fun x hx => by cases hx; exact ⟨_, hS, rfl⟩) ?_)))
  refine wpC_bind (wpC_of_eq hpos ?_)
  rw [hst]
  show wpC _ A (callWith pos (.builtin "bytearray.append") [.ref a] (backTo pos ((false, eval e env) :: starEach [] env)) []) _ s₁
  refine wpC_callWith (P := fun _ => True) rfl (fun h _ => ⟨.machine, .inr (.inl rfl), Looks.of_pure rfl⟩) (wpC_evalArgs (wpC_spliced_cons ?_))
  have fin : wpC (model prog w) A (eval e env) (fun v s₂ => wpC (model prog w) A (spliced []) (fun vs s₃ => True ∧ wpC (model prog w) A (call (.builtin "bytearray.append") ([.ref a] ++ (v :: vs))) (fun v s' => wpC (model prog w) A (dropValue (.Call (.Attribute o "append" apos) [e] [] pos) pos' v) Q s') s₃) s₂) s₁ := by
    refine wpC_any (wpAny_mono hc (fun v s₂ h₂ => ?_) fun _ _ x => x)
    obtain ⟨n, t, rfl, h0, h1, hS₂, hz, hQ⟩ := h₂
    refine wpC_spliced_nil ⟨trivial, ?_⟩
    exact appendC hS₂ h0 h1 hz (wpC_pure hQ)
  first
    | exact fin
    | exact wpC_bind (wpC_mono fin fun v s' h' => wpC_bind (wpC_any (wpAny_standAt (wpC_pure h'))))
end
end Mine
end PartW6
section PartU1
open PySem PySem.W PySem.Spec PySem.Calls PyProof.Rows
namespace Mine
def enc1 (b : Array UInt8) (c : Int) : Array UInt8 := if c < 128 then b.push c.toNat.toUInt8 else (b.push (192 + c / 64).toNat.toUInt8).push (128 + c % 64).toNat.toUInt8
def encL (l : List Int) : Array UInt8 := l.foldl enc1 #[]
theorem ba_made {h₀ h : Heap} {L : Addr} {m : Str → Option Value} {news : List (Addr × Obj)} (F : Fr h₀ L h m) (N : News h₀ L h news) :
    Fr h₀ L ((h.push (baObj #[])).update h.objs.size (Obj.mapBytearray fun _ => #[])) m ∧ News h₀ L ((h.push (baObj #[])).update h.objs.size (Obj.mapBytearray fun _ => #[])) ((h.objs.size, baObj #[]) :: news) ∧ (∀ p ∈ news, p.1 < h.objs.size) := by
  have l : ∀ p ∈ news, p.1 < h.objs.size := fun p hp => Heap.lt_size (N p hp).1
  have N1 : News h₀ L (h.push (baObj #[])) ((h.objs.size, baObj #[]) :: news) := N.push F _
  obtain ⟨a, b⟩ := news_upd (pre := []) (post := news) (o' := baObj #[]) (f := Obj.mapBytearray fun _ => #[]) (F.push _) N1 (fun p hp => nomatch hp) (fun p hp => Nat.ne_of_lt (l p hp)) rfl rfl
  exact ⟨a, b, l⟩
theorem encL_snoc (l : List Int) (c : Int) : encL (l ++ [c]) = enc1 (encL l) c := by simp [encL]
theorem encL_one {l : List Int} {c : Int} (h : c < 128) : encL (l ++ [c]) = (encL l).push c.toNat.toUInt8 := by rw [encL_snoc, enc1, if_pos h]
theorem encL_two {l : List Int} {c : Int} (h : ¬ c < 128) : encL (l ++ [c]) = ((encL l).push (192 + c / 64).toNat.toUInt8).push (128 + c % 64).toNat.toUInt8 := by rw [encL_snoc, enc1, if_neg h]
theorem bor192 : ∀ q : Fin 32, Builtin.bitOr 192 ((q.val : Nat) : Int) = 192 + ((q.val : Nat) : Int) := by decide +kernel
theorem bor128 : ∀ q : Fin 64, Builtin.bitOr 128 ((q.val : Nat) : Int) = 128 + ((q.val : Nat) : Int) := by decide +kernel
theorem bor_hi {c : Int} (h0 : 0 ≤ c) (h1 : c < 2048) : Builtin.bitOr 192 (c.fdiv (2 ^ Int.toNat 6)) = 192 + c / 64 := by
  have e : c.fdiv (2 ^ Int.toNat 6) = c / 64 := Int.fdiv_eq_ediv_of_nonneg c (by decide)
  rw [e]
  obtain ⟨k, hk⟩ := Int.eq_ofNat_of_zero_le (show 0 ≤ c / 64 by omega)
  rw [hk]
  exact bor192 ⟨k, by omega⟩
theorem and63 {c : Int} (h0 : 0 ≤ c) : Builtin.bitAnd c 63 = c % 64 := by
  unfold Builtin.bitAnd
  rw [decide_eq_true h0]
  show ((c.toNat &&& 63 : Nat) : Int) = c % 64
  have e : c.toNat &&& 63 = c.toNat % 64 := Nat.and_two_pow_sub_one_eq_mod c.toNat 6
  omega
theorem bor_lo {c : Int} (h0 : 0 ≤ c) (h1 : c < 2048) : Builtin.bitOr 128 (Builtin.bitAnd c 63) = 128 + c % 64 := by
  rw [and63 h0]
  obtain ⟨k, hk⟩ := Int.eq_ofNat_of_zero_le (show 0 ≤ c % 64 by omega)
  rw [hk]
  exact bor128 ⟨k, by omega⟩
theorem encL_foldsize (l : List Int) : ∀ b, (l.foldl enc1 b).size ≤ b.size + 2 * l.length := by
  induction l with
  | nil => intro b; simp
  | cons c l ih =>
    intro b
    rw [List.foldl_cons, List.length_cons]
    refine Nat.le_trans (ih _) ?_
    have : (enc1 b c).size ≤ b.size + 2 := by
      unfold enc1
      split <;> simp
    omega
theorem encL_size (l : List Int) : (encL l).size ≤ 2 * l.length := by
  have := encL_foldsize l #[]
  simpa [encL] using this
theorem encL_fit {x : Str} {pre post : List Int} {n : Int} (hx : x.length ≤ 1000) (he : KStt.codes x = pre ++ n :: post) : (encL pre).size < sizeLine ∧ (encL pre).size + 2 < sizeLine := by
  have h1 := encL_size pre
  have h2 : (KStt.codes x).length = pre.length + (post.length + 1) := by rw [he]; simp
  rw [KStt.codes_length] at h2
  rw [sizeLine_eq]
  omega
theorem ba_push {h₀ h : Heap} {L d : Addr} {m : Str → Option Value} {post : List (Addr × Obj)} {b : Array UInt8} {n : UInt8} (F : Fr h₀ L h m) (N : News h₀ L h ((d, baObj b) :: post)) (hne : ∀ p ∈ post, p.1 ≠ d) :
    Fr h₀ L (h.update d (Obj.mapBytearray (·.push n))) m ∧ News h₀ L (h.update d (Obj.mapBytearray (·.push n))) ((d, baObj (b.push n)) :: post) :=
  news_upd (pre := []) (post := post) (o' := baObj (b.push n)) (f := Obj.mapBytearray (·.push n)) F N (fun p hp => nomatch hp) hne rfl rfl
theorem fr_know {h₀ h : Heap} {L : Addr} {m : Str → Option Value} {x1 x2 : Str} {v1 : Option Value} {v2 : Value} (hf : m x2 = some v2) (F : Fr h₀ L h (fun y => if y = x1 then v1 else m y)) : Fr h₀ L h (fun y => if y = x1 then v1 else if y = x2 then some v2 else m y) := by
  have e : (fun y => if y = x1 then v1 else if y = x2 then some v2 else m y) = fun y => if y = x1 then v1 else m y := by
    funext y
    by_cases h1 : y = x1
    · rw [if_pos h1, if_pos h1]
    · rw [if_neg h1, if_neg h1]
      by_cases h2 : y = x2
      · rw [if_pos h2, h2, hf]
      · rw [if_neg h2]
  rw [e]; exact F
theorem fr_know0 {h₀ h : Heap} {L : Addr} {m : Str → Option Value} {x2 : Str} {v2 : Value} (hf : m x2 = some v2) (F : Fr h₀ L h m) : Fr h₀ L h (fun y => if y = x2 then some v2 else m y) := by
  have e : (fun y => if y = x2 then some v2 else m y) = m := by
    funext y
    by_cases h2 : y = x2
    · rw [if_pos h2, h2, hf]
    · rw [if_neg h2]
  rw [e]; exact F
theorem spec_utf8 {prog : Program} {w : World} {p : Program} {loose : List Str} {mean : ExcName → Option Value} {mg mb : Str → Option Value}
    {dp un : Nat} {cn : Str} {cs : Scope} {a : Addr} {ccd : Value} {cl : List (Str × Addr)} {outer : List Env} {A₀ : Around} {base h₀ : Heap} {L : Addr} {m : Str → Option Value} {news : List (Addr × Obj)} {s : Shared} {Q : Value → Shared → Prop} (x : Str) (t : Tok) (hx : x.length ≤ 1000) (hc : ∀ c ∈ C x, c < 2048)
    (B : Below A₀ base outer h₀) (F : Fr h₀ L s.heap m) (X : Frag.In (hdG.heap_39 w.params) h₀) (N : News h₀ L s.heap news) (T : Top p loose mean mg mb h₀) (hk : cs.kind = .function) (hdp : dp + 1 < recursionLimit) (hun : un + 8 < cLine)
    (ret : ∀ t' h' tk', Fr h₀ L h' m → News h₀ L h' news → Q (.bytes (encL (C x)) t') { s with heap := h', toks := tk' }) :
    wpC (model prog w) (ktrTop dp un (some []) cn cs L a ccd cl outer) (call (.ref 23) [.str x t]) Q s := by
  w_top off
  k_with_none
  refine wpC_call ?_
  k_dflt (refine' codeC_def B F X N T ?kA ?kF ?kK ?k6 ?k7 ?k8 ?k9 ?kB ?_ ?c2 ?c3 ?c4 ?c5; (case kA => exact rfl); (case kF => exact rfl); (case kK => assumption); (case k6 => k_is); (case k7 => k_is); (case k8 => ktr_room); (case k9 => exact BindsTo.of_eq rfl); (case c5 => decide); (case kB => exact locs rfl); (case c2 => exact rfl); (case c3 => exact rfl); (case c4 => exact rfl))
  intro g' L' h₁ FG' F' N' B' X' T' st'
  generalize s.toks + _ = tk0
  dsimp only at F' ⊢
  refine wpC_execs_cons (wpC_Assign_Name rfl (wpC_Call_Name ?_))
  walk1
  refine wpC_callWith (P := fun _ => True) rfl (fun h _ => ⟨.machine, .inr (.inl rfl), Looks.of_pure rfl⟩) (wpC_any (evalArgs_nil3 ⟨trivial, ?_⟩))
  refine newC ?_
  dsimp only
  rename Fr _ L' _ _ => Fx
  rename News _ L' _ _ => Nx
  obtain ⟨F1, N1, l1⟩ := ba_made Fx Nx
  clear Fx Nx
  walk1
  dsimp only
  refine wpC_execs_cons (wpC_For ?_ (by intro _; rfl))
  walk1
  rename Fr _ L' _ _ => F2
  rename News _ L' _ _ => N2
  refine codeC_text (by rfl) rfl rfl F2 N2 (fun pre m₁ nx => nx = (h₁.objs.size, baObj (encL pre)) :: news ∧ m₁ (Str.ofString "found") = some (.ref h₁.objs.size)) ⟨rfl, rfl⟩ ?_ ?_
  · rintro pre post n u m₁ news₁ h tk own he hadr hoff ⟨rfl, hf⟩ F₁ N₁
    dsimp only
    have F₃ := fr_know hf F₁
    clear F₁ F2 N2
    refine wpC_execs_cons (wpC_any ?_)
    k_steps
    refine wpC_execs_cons (wpC_If (wpC_any ?_))
    k_steps
    · refine wpC_execs_cons (wpC_append rfl rfl rfl rfl rfl ?_)
      walk1
      rename News _ L' _ _ => Nz
      refine ⟨_, _, rfl, (Nz _ (List.Mem.head _)).1, ?_⟩
      walk1
      rename Fr _ L' _ _ => Fz
      have hz := encL_fit hx he
      have hne : ∀ p ∈ news ++ own, p.1 ≠ h₁.objs.size := fun p hp => (List.mem_append.mp hp).elim (fun h => Nat.ne_of_lt (l1 p h)) (fun h => hoff p h _ (List.Mem.head _))
      refine ⟨_, _, rfl, by omega, by omega, (Nz _ (List.Mem.head _)).1, hz.1, ?_⟩
      obtain ⟨Fy, Ny⟩ := ba_push (n := (n : Int).toNat.toUInt8) Fz Nz hne
      refine wpC_execs_nil (wpC_execs_nil ?_)
      exact ⟨_, _, _, _, (h₁.objs.size, baObj ((encL pre).push (n : Int).toNat.toUInt8)) :: news, rfl, Fy, Ny, fun p hp => List.mem_append_left own hp, fun p hp => List.mem_append_right ((h₁.objs.size, baObj ((encL pre).push (n : Int).toNat.toUInt8)) :: news) hp, rfl, by rw [encL_one (by omega)], rfl⟩
    · refine wpC_execs_cons (wpC_If (wpC_any ?_))
      k_steps
      · refine wpC_execs_cons (wpC_append rfl rfl rfl rfl rfl ?_)
        walk1
        rename News _ L' _ _ => Nz
        refine ⟨_, _, rfl, (Nz _ (List.Mem.head _)).1, ?_⟩
        rename Fr _ L' _ _ => Fz
        have hz := encL_fit hx he
        have hne : ∀ p ∈ news ++ own, p.1 ≠ h₁.objs.size := fun p hp => (List.mem_append.mp hp).elim (fun h => Nat.ne_of_lt (l1 p h)) (fun h => hoff p h _ (List.Mem.head _))
        have e1 := bor_hi (c := (n : Int)) (by omega) (by omega)
        have e2 := bor_lo (c := (n : Int)) (by omega) (by omega)
        k_steps
        all_goals (try dsimp only)
        all_goals first
          | (with_reducible show (_ : Nat) < _; exact hz.1)
          | (with_reducible show (_ : Int) < _; rw [e1]; omega)
          | (with_reducible show (_ : Int) ≤ _; rw [e1]; omega)
          | exact (Nz _ (List.Mem.head _)).1
          | (rw [e1]
             obtain ⟨Fy, Ny⟩ := ba_push (n := (192 + (n : Int) / 64).toNat.toUInt8) Fz Nz hne
             clear Fz Nz
             (try dsimp only)
             refine wpC_execs_cons (wpC_append rfl rfl rfl rfl rfl ?_)
             walk1
             rename News _ L' _ _ => Nz
             refine ⟨_, _, rfl, (Nz _ (List.Mem.head _)).1, ?_⟩
             rename Fr _ L' _ _ => Fz
             k_steps
             all_goals (try dsimp only)
             all_goals first
               | (with_reducible show (_ : Nat) < _; rw [Array.size_push]; omega)
               | (with_reducible show (_ : Int) < _; rw [e2]; omega)
               | (with_reducible show (_ : Int) ≤ _; rw [e2]; omega)
               | exact (Nz _ (List.Mem.head _)).1
               | (rw [e2]
                  obtain ⟨Fy, Ny⟩ := ba_push (n := (128 + (n : Int) % 64).toNat.toUInt8) Fz Nz hne
                  (try dsimp only)
                  refine wpC_execs_nil (wpC_execs_nil ?_)
                  refine wpC_execs_nil ?_
                  (try dsimp only)
                  exact ⟨_, _, _, _, (h₁.objs.size, baObj (((encL pre).push (192 + (n : Int) / 64).toNat.toUInt8).push (128 + (n : Int) % 64).toNat.toUInt8)) :: news, rfl, Fy, Ny, fun p hp => List.mem_append_left own hp, fun p hp => List.mem_append_right ((h₁.objs.size, baObj (((encL pre).push (192 + (n : Int) / 64).toNat.toUInt8).push (128 + (n : Int) % 64).toNat.toUInt8)) :: news) hp, rfl, by rw [encL_two (by omega)], rfl⟩))
      · have := hc n (by show (n : Int) ∈ KStt.codes x; rw [he]; simp)
        omega
  · rintro h' tk m₁ nx F₁ N₁ ⟨rfl, hf⟩
    have F₃ := fr_know0 hf F₁
    clear F₁ F2 N2
    show wpC _ _ (execs [_] _) _ _
    refine wpC_any ?_
    k_steps
    rename News _ L' _ _ => Nz
    refine call_bytes_ba (Nz _ (List.Mem.head _)).1 ?_ ?_
    · have h1 := encL_size (KStt.codes x)
      rw [KStt.codes_length] at h1
      rw [sizeLine_eq]; omega
    · k_steps
      exact ret _ _ _ (by assumption) (cb_drop (by assumption) (fun p hp => List.mem_cons_of_mem _ hp))
end Mine
end PartU1
section PartQ6
open PySem PySem.W PyProof.Rows
namespace Mine
theorem band31_all : ∀ k : Fin 256, Builtin.bitAnd ((k.val : Nat) : Int) 31 = ((k.val : Nat) : Int) % 32 := by decide +kernel
theorem band31 {c : Int} (h0 : 0 ≤ c) (h1 : c < 256) : Builtin.bitAnd c 31 = c % 32 := by
  obtain ⟨k, rfl⟩ := Int.eq_ofNat_of_zero_le h0
  exact band31_all ⟨k, by omega⟩
theorem spec_lead {prog : Program} {w : World} {p : Program} {loose : List Str} {mean : ExcName → Option Value} {mg mb : Str → Option Value}
    {dp un : Nat} {gd : Option (List Code)} {cn : Str} {cs : Scope} {a : Addr} {ccd : Value} {cl : List (Str × Addr)} {outer : List Env} {A₀ : Around} {base h₀ : Heap} {L : Addr} {m : Str → Option Value} {news : List (Addr × Obj)} {s : Shared} {Q E : Value → Shared → Prop} (n : Int) (t : Tok) (h0 : 0 ≤ n) (h1 : n < 224) (h2 : n < 128 ∨ 194 ≤ n)
    (B : Below A₀ base outer h₀) (F : Fr h₀ L s.heap m) (X : Frag.In (hdG.heap_39 w.params) h₀) (N : News h₀ L s.heap news) (T : Top p loose mean mg mb h₀) (hk : cs.kind = .function) (hdp : dp + 1 < recursionLimit) (hun : un + 8 < cLine)
    (ret : n < 128 → ∀ (t1 t2 t3 : Tok) (D : Addr) h' tk', Fr h₀ L h' m → News h₀ L h' ((D, { cls := .type "tuple", data := .seq #[.int 0 t1, .int n t2, .int 0 t3] }) :: news) → (∀ p ∈ news, p.1 < D) → Q (.ref D) { s with heap := h', toks := tk' })
    (ret1 : ¬ n < 128 → ∀ (t1 t2 t3 : Tok) (D : Addr) h' tk', Fr h₀ L h' m → News h₀ L h' ((D, { cls := .type "tuple", data := .seq #[.int 1 t1, .int (n % 32) t2, .int 128 t3] }) :: news) → (∀ p ∈ news, p.1 < D) → Q (.ref D) { s with heap := h', toks := tk' }) :
    wpAny (model prog w) (ktrTop dp un gd cn cs L a ccd cl outer) (call (.ref 30) [.int n t]) Q E s := by
  w_top off
  k_with_none
  have e1 := band31 (c := n) (by omega) (by omega)
  refine wpAny_call ?_
  k_dflt cell_enter
  k_steps
  all_goals first
    | exact ret (by assumption) _ _ _ _ _ _ (by assumption) (by assumption) (by assumption)
    | (rename News _ _ _ _ => Nz; rw [e1] at Nz; exact ret1 (by assumption) _ _ _ _ _ _ (by assumption) Nz (by assumption))
    | omega
end Mine
end PartQ6
section PartQ7
open PySem PySem.W PyProof.Rows
namespace Mine
theorem band63_all : ∀ k : Fin 256, Builtin.bitAnd ((k.val : Nat) : Int) 63 = ((k.val : Nat) : Int) % 64 := by decide +kernel
theorem band63 {c : Int} (h0 : 0 ≤ c) (h1 : c < 256) : Builtin.bitAnd c 63 = c % 64 := by
  obtain ⟨k, rfl⟩ := Int.eq_ofNat_of_zero_le h0
  exact band63_all ⟨k, by omega⟩
theorem band192_all : ∀ k : Fin 256, Builtin.bitAnd ((k.val : Nat) : Int) 192 = ((k.val : Nat) : Int) / 64 * 64 := by decide +kernel
theorem band192 {c : Int} (h0 : 0 ≤ c) (h1 : c < 256) : Builtin.bitAnd c 192 = c / 64 * 64 := by
  obtain ⟨k, rfl⟩ := Int.eq_ofNat_of_zero_le h0
  exact band192_all ⟨k, by omega⟩
theorem bor6_all : ∀ (k : Fin 32) (j : Fin 64), Builtin.bitOr (((k.val : Nat) : Int) * 2 ^ Int.toNat 6) ((j.val : Nat) : Int) = ((k.val : Nat) : Int) * 64 + ((j.val : Nat) : Int) := by decide +kernel
theorem bor6 {c d : Int} (h0 : 0 ≤ c) (h1 : c < 32) (h2 : 0 ≤ d) (h3 : d < 64) : Builtin.bitOr (c * 2 ^ Int.toNat 6) d = c * 64 + d := by
  obtain ⟨k, rfl⟩ := Int.eq_ofNat_of_zero_le h0
  obtain ⟨j, rfl⟩ := Int.eq_ofNat_of_zero_le h2
  exact bor6_all ⟨k, by omega⟩ ⟨j, by omega⟩
theorem my_item {prog : Program} {w : World} {A : Around} {E : Value → Shared → Prop} {s : Shared} {value slice : PySem.Expr} {arr : Array UInt8} {tb u : Tok} {i : Int} {Q : Value → Shared → Prop} (hz : arr.size ≤ 4000) (h0 : 0 ≤ i) (h1 : i < arr.size)
    (h : Q (.int ((arr.toList.getD i.toNat 0).toNat : Nat) s.toks) { s with toks := s.toks + 1 })
    (hs : subscripted slice false (.bytes arr tb) (.int i u) = operate [.bytes arr tb, .int i u] (getItem (.bytes arr tb) (.int i u)) := by with_unfolding_all rfl) (ht : ∀ r, letTemporaryGo value (.bytes arr tb) r = pure () := by intro _; with_unfolding_all rfl) : wpAny (model prog w) A (subscriptTail value slice (.bytes arr tb) (.int i u)) Q E s := by
  obtain ⟨l⟩ := arr
  have h1' : i < l.length := h1
  have hz' : l.length ≤ 4000 := hz
  exact subscriptTail_builtin (typeIs_bytes _ _ _) FB.slot_bytes_getitem.lookup (getItem_bytes (by omega) h0 h1' h) hs ht
theorem code2_b {arr : Array UInt8} {i k b : Int} {pre : List Int} (hE : k = i + pre.length) (hL : pre.length < (i + 1 - i).toNat) (hb : ((arr.toList.getD i.toNat 0).toNat : Int) = b) : pre.length = 0 ∧ ((arr.toList.getD k.toNat 0).toNat : Int) = b := by
  have : pre.length = 0 := by omega
  refine ⟨this, ?_⟩
  rw [show k = i from by omega]; exact hb
theorem code2_st {arr : Array UInt8} {i k b c z : Int} {pre : List Int} (hE : k = i + pre.length) (hL : pre.length < (i + 1 - i).toNat) (hb : ((arr.toList.getD i.toNat 0).toNat : Int) = b) (hc : 2 ≤ c) (hc1 : c < 32) (hb0 : 128 ≤ b) (hb1 : b < 192)
    (hI : (pre.length = 0 ∧ z = c) ∨ (pre.length = 1 ∧ z = c * 64 + b % 64)) :
    ((pre ++ [k]).length = 0 ∧ Builtin.bitOr (z * 2 ^ Int.toNat 6) (Builtin.bitAnd ((arr.toList.getD k.toNat 0).toNat : Int) 63) = c) ∨ ((pre ++ [k]).length = 1 ∧ Builtin.bitOr (z * 2 ^ Int.toNat 6) (Builtin.bitAnd ((arr.toList.getD k.toNat 0).toNat : Int) 63) = c * 64 + b % 64) := by
  obtain ⟨h0, h1⟩ := code2_b hE hL hb
  have hz : z = c := by omega
  refine .inr ⟨by simp [h0], ?_⟩
  rw [h1, band63 (by omega) (by omega), hz, bor6 (by omega) (by omega) (by omega) (by omega)]
theorem code2_ne {arr : Array UInt8} {i k b : Int} {pre : List Int} (hE : k = i + pre.length) (hL : pre.length < (i + 1 - i).toNat) (hb : ((arr.toList.getD i.toNat 0).toNat : Int) = b) (hb0 : 128 ≤ b) (hb1 : b < 192)
    (hn : Builtin.bitAnd ((arr.toList.getD k.toNat 0).toNat : Int) 192 ≠ 128) : False := by
  obtain ⟨h0, h1⟩ := code2_b hE hL hb
  rw [h1, band192 (by omega) (by omega)] at hn
  omega
theorem code2_end {i b c z : Int} (hI : ((rangeKs i (i + 1 - i).toNat).length = 0 ∧ z = c) ∨ ((rangeKs i (i + 1 - i).toNat).length = 1 ∧ z = c * 64 + b % 64)) : c * 64 + b % 64 = z := by
  rw [rangeKs_length] at hI
  omega
theorem spec_code1 {prog : Program} {w : World} {p : Program} {loose : List Str} {mean : ExcName → Option Value} {mg mb : Str → Option Value}
    {dp un : Nat} {gd : Option (List Code)} {cn : Str} {cs : Scope} {a : Addr} {ccd : Value} {cl : List (Str × Addr)} {outer : List Env} {A₀ : Around} {base h₀ : Heap} {L : Addr} {m : Str → Option Value} {news : List (Addr × Obj)} {s : Shared} {Q E : Value → Shared → Prop} (arr : Array UInt8) (tb : Tok) (i : Int) (u : Tok) (d : Addr) (c : Int) (t1 t2 t3 : Tok) (hz : arr.size ≤ 4000) (h0 : 0 ≤ i) (hi : i ≤ arr.size) (hc : 0 ≤ c) (hc1 : c < 128) (hm1 : (d, ({ cls := .type "tuple", data := .seq #[.int 0 t1, .int c t2, .int 0 t3] } : Obj)) ∈ news)
    (B : Below A₀ base outer h₀) (F : Fr h₀ L s.heap m) (X : Frag.In (hdG.heap_39 w.params) h₀) (N : News h₀ L s.heap news) (T : Top p loose mean mg mb h₀) (hk : cs.kind = .function) (hdp : dp + 1 < recursionLimit) (hun : un + 8 < cLine)
    (ret : ∀ t' h' tk', Fr h₀ L h' m → News h₀ L h' news → Q (.int c t') { s with heap := h', toks := tk' }) :
    wpAny (model prog w) (ktrTop dp un gd cn cs L a ccd cl outer) (call (.ref 44) [.bytes arr tb, .int i u, .ref d]) Q E s := by
  w_top off
  k_with_none
  k_with "subscriptTail" => (k_here; (with_reducible show wpAny _ _ (subscriptTail _ _ (Value.bytes _ _) (Value.int _ _)) _ _ _); (refine my_item (by omega) (by omega) (by omega) ?_))
  k_with "state" => first | rfl | (exfalso; omega)
  k_with "pyIter ref" => k_state (fun _ z => z = c) "code"
  refine wpAny_call ?_
  k_dflt cell_enter
  k_steps
  all_goals first
    | exact q_int (ret _ _ _ (by assumption) (by assumption)) (Eq.symm (by assumption))
    | (exfalso; omega)
theorem spec_code2 {prog : Program} {w : World} {p : Program} {loose : List Str} {mean : ExcName → Option Value} {mg mb : Str → Option Value}
    {dp un : Nat} {gd : Option (List Code)} {cn : Str} {cs : Scope} {a : Addr} {ccd : Value} {cl : List (Str × Addr)} {outer : List Env} {A₀ : Around} {base h₀ : Heap} {L : Addr} {m : Str → Option Value} {news : List (Addr × Obj)} {s : Shared} {Q E : Value → Shared → Prop} (arr : Array UInt8) (tb : Tok) (i : Int) (u : Tok) (d : Addr) (c b : Int) (t1 t2 t3 : Tok) (hz : arr.size ≤ 4000) (h0 : 0 ≤ i) (hi : i < arr.size) (hb : ((arr.toList.getD i.toNat 0).toNat : Int) = b) (hc : 2 ≤ c) (hc1 : c < 32) (hb0 : 128 ≤ b) (hb1 : b < 192) (hm1 : (d, ({ cls := .type "tuple", data := .seq #[.int 1 t1, .int c t2, .int 128 t3] } : Obj)) ∈ news)
    (B : Below A₀ base outer h₀) (F : Fr h₀ L s.heap m) (X : Frag.In (hdG.heap_39 w.params) h₀) (N : News h₀ L s.heap news) (T : Top p loose mean mg mb h₀) (hk : cs.kind = .function) (hdp : dp + 1 < recursionLimit) (hun : un + 8 < cLine)
    (ret : ∀ t' h' tk', Fr h₀ L h' m → News h₀ L h' news → Q (.int (c * 64 + b % 64) t') { s with heap := h', toks := tk' }) :
    wpAny (model prog w) (ktrTop dp un gd cn cs L a ccd cl outer) (call (.ref 44) [.bytes arr tb, .int i u, .ref d]) Q E s := by
  w_top off
  k_with_none
  k_with "subscriptTail" => (k_here; (with_reducible show wpAny _ _ (subscriptTail _ _ (Value.bytes _ _) (Value.int _ _)) _ _ _); (refine my_item (by omega) (by omega) (by omega) ?_))
  k_with "state" => first | exact .inl ⟨rfl, rfl⟩ | exact code2_st (by assumption) (by assumption) (by assumption) (by assumption) (by assumption) (by assumption) (by assumption) (by assumption)
  k_with "pyIter ref" => k_state (fun pre z => (pre.length = 0 ∧ z = c) ∨ (pre.length = 1 ∧ z = c * 64 + b % 64)) "code"
  refine wpAny_call ?_
  k_dflt cell_enter
  k_steps
  all_goals first
    | exact (code2_ne (by assumption) (by assumption) (by assumption) (by assumption) (by assumption) (by assumption)).elim
    | exact q_int (ret _ _ _ (by assumption) (by assumption)) (code2_end (by assumption))
    | (have := code2_end (by assumption); exfalso; omega)
end Mine
end PartQ7
section PartQ8
open PySem PySem.W PyProof.Rows
namespace Mine
def sg (c : Int) : Str := ⟨#[c.toNat]⟩
theorem fr_say {h₀ h : Heap} {L : Addr} {m : Str → Option Value} (ps : List (Str × Value)) (hp : ∀ p ∈ ps, m p.1 = some p.2) (F : Fr h₀ L h m) : Fr h₀ L h (kstB m ps) := by
  have e : kstB m ps = m := funext fun y => kstB_eq hp fun _ => rfl
  rw [e]; exact F
theorem fr_say3 {h₀ h : Heap} {L : Addr} {m : Str → Option Value} {x1 x2 x3 : Str} {v1 v2 v3 : Value} (e1 : m x1 = some v1) (e2 : m x2 = some v2) (e3 : m x3 = some v3) (F : Fr h₀ L h m) :
    Fr h₀ L h (fun y => if y = x1 then some v1 else if y = x2 then some v2 else if y = x3 then some v3 else m y) :=
  fr_say [(x1, v1), (x2, v2), (x3, v3)] (by intro p hp; simp at hp; rcases hp with rfl | rfl | rfl <;> assumption) F
def encB (c : Int) : List UInt8 := if c < 128 then [c.toNat.toUInt8] else [(192 + c / 64).toNat.toUInt8, (128 + c % 64).toNat.toUInt8]
theorem enc1_list (b : Array UInt8) (c : Int) : (enc1 b c).toList = b.toList ++ encB c := by
  unfold enc1 encB
  split <;> simp
theorem encL_fold (l : List Int) : ∀ b : Array UInt8, (l.foldl enc1 b).toList = b.toList ++ l.flatMap encB := by
  induction l with
  | nil => intro b; simp
  | cons c l ih => intro b; rw [List.foldl_cons, ih, enc1_list, List.flatMap_cons, List.append_assoc]
theorem encL_list (l : List Int) : (encL l).toList = l.flatMap encB := by
  have := encL_fold l #[]
  simpa [encL] using this
theorem encL_len (l : List Int) : (encL l).size = (l.flatMap encB).length := by
  rw [← encL_list]; simp
theorem u8 {n : Int} (h0 : 0 ≤ n) (h1 : n < 256) : ((n.toNat.toUInt8).toNat : Int) = n := by
  have : (n.toNat.toUInt8).toNat = n.toNat % 256 := by simp
  rw [this]; omega
theorem getD_mid (p q : List UInt8) (i : Nat) : (p ++ q).getD (p.length + i) 0 = q.getD i 0 := by
  simp [List.getD_eq_getElem?_getD, List.getElem?_append_right]
theorem C_append (x y : Str) : C (x ++ y) = C x ++ C y := by simp [C, KStt.codes, Str.cps_append]
theorem C_sg {c : Int} (h : 0 ≤ c) : C (sg c) = [c] := by
  simp only [C, KStt.codes, sg, List.map_cons, List.map_nil]
  congr 1
  omega
theorem C_join : ∀ (l : List Int), (∀ c ∈ l, 0 ≤ c) → C (Str.join (Str.ofString "") (l.map sg)) = l
  | [], _ => rfl
  | [c], h => C_sg (h c (.head _))
  | c :: d :: r, h => by
    show C (sg c ++ Str.ofString "" ++ Str.join (Str.ofString "") ((d :: r).map sg)) = _
    rw [C_append, C_append, C_sg (h c (.head _)), C_join (d :: r) (fun e he => h e (.tail _ he))]
    rfl
theorem C_nonneg {x : Str} : ∀ c ∈ C x, 0 ≤ c := by
  intro c hc
  simp only [C, KStt.codes, List.mem_map] at hc
  obtain ⟨n, _, rfl⟩ := hc
  omega
theorem join_sg {x : Str} {l : List Int} (h : C x = l) : Txt.join (Str.ofString "") (l.map sg) = x := by
  apply C_inj
  rw [h]
  unfold Txt.join
  rw [StrLaws.glued_eq_join, C_join l (fun c hc => C_nonneg (x := x) c (h ▸ hc))]
theorem sum_sg : ∀ (l : List Int), ((l.map sg).map (·.length)).sum = l.length
  | [] => rfl
  | c :: l => by
    have := sum_sg l
    simp only [List.map_cons, List.sum_cons, List.length_cons, this]
    show 1 + l.length = _
    omega
theorem dec_one {l pre post : List Int} {c z : Int} (hC : l = pre ++ c :: post) (hz : z = (encL pre).size) (h0 : 0 ≤ c) (h1 : c < 128) :
    (((encL l).toList.getD z.toNat 0).toNat : Int) = c ∧ ((encL (pre ++ [c])).size : Int) = z + (0 + 1) ∧ z < (encL l).size := by
  have hl : l.flatMap encB = pre.flatMap encB ++ ([c.toNat.toUInt8] ++ post.flatMap encB) := by
    rw [hC, List.flatMap_append, List.flatMap_cons]
    congr 1
    rw [encB, if_pos h1]
  have hzn : z.toNat = (pre.flatMap encB).length + 0 := by rw [hz, encL_len]; omega
  refine ⟨?_, ?_, ?_⟩
  · rw [encL_list, hl, hzn, getD_mid]
    show ((c.toNat.toUInt8).toNat : Int) = c
    exact u8 h0 (by omega)
  · rw [encL_len, hz, encL_len, List.flatMap_append]
    simp [encB, h1]
  · rw [encL_len, hl, hz, encL_len]
    simp; omega
theorem dec_two {l pre post : List Int} {c z : Int} (hC : l = pre ++ c :: post) (hz : z = (encL pre).size) (h1 : ¬ c < 128) (h2 : c < 2048) :
    (((encL l).toList.getD z.toNat 0).toNat : Int) = 192 + c / 64 ∧ (((encL l).toList.getD (z + 1).toNat 0).toNat : Int) = 128 + c % 64 ∧ ((encL (pre ++ [c])).size : Int) = z + (1 + 1) ∧ z + 1 < (encL l).size := by
  have hl : l.flatMap encB = pre.flatMap encB ++ ([(192 + c / 64).toNat.toUInt8, (128 + c % 64).toNat.toUInt8] ++ post.flatMap encB) := by
    rw [hC, List.flatMap_append, List.flatMap_cons]
    congr 1
    rw [encB, if_neg h1]
  have hzn : z.toNat = (pre.flatMap encB).length + 0 := by rw [hz, encL_len]; omega
  have hzn1 : (z + 1).toNat = (pre.flatMap encB).length + 1 := by rw [hz, encL_len]; omega
  refine ⟨?_, ?_, ?_, ?_⟩
  · rw [encL_list, hl, hzn, getD_mid]
    show (((192 + c / 64).toNat.toUInt8).toNat : Int) = 192 + c / 64
    exact u8 (by omega) (by omega)
  · rw [encL_list, hl, hzn1, getD_mid]
    show (((128 + c % 64).toNat.toUInt8).toNat : Int) = 128 + c % 64
    exact u8 (by omega) (by omega)
  · rw [encL_len, hz, encL_len, List.flatMap_append]
    simp [encB, h1]
  · rw [encL_len, hl, hz, encL_len]
    simp; omega
def Halt (P : Prop) : Prop := P
theorem halt {P : Prop} (h : Halt P) : P := h
def DecJ (x : Str) (arr : Array UInt8) (tb : Tok) (l : Addr) (news : List (Addr × Obj)) (n : Nat) (m : Str → Option Value) (nx : List (Addr × Obj)) : Prop :=
  ∃ (z : Int) (t : Tok) (pre post : List Int) (vs : List Value) (k : Nat), n = post.length ∧ C x = pre ++ post ∧ z = (encL pre).size ∧ StrsAre vs (pre.map sg) ∧ nx = (l, listOf vs.toArray k) :: news ∧
    m (Str.ofString "octets") = some (.bytes arr tb) ∧ m (Str.ofString "at") = some (.int z t) ∧ m (Str.ofString "signs") = some (.ref l)
local macro_rules | `(tactic| walk_at "call ref") => `(tactic| (k_here; k_dflt (refine' spec_lead _ _ ?e0 ?e1 ?e2 ?k1 ?k2 ?k3 ?k4 ?k5 ?kK ?kd ?ku ?r0 ?r1; (case k1 => k_asm); (case k2 => k_asm); (case k3 => k_asm); (case k4 => k_asm); (case k5 => k_asm); (case kK => first | exact rfl | assumption); (case kd => ktr_room); (case ku => ktr_units); (case e0 => omega); (case e1 => omega); (case e2 => omega)); (case' r0 => (intro hs9 t1 t2 t3 d9 h9 tk9 F9 N9 l9; (try k_lt l9); (try k_sweep); (try dsimp only); (try (exfalso; omega)))); (case' r1 => (intro hs9 t1 t2 t3 d9 h9 tk9 F9 N9 l9; (try k_lt l9); (try k_sweep); (try dsimp only); (try (exfalso; omega))))))
local macro_rules | `(tactic| walk_at "call ref") => `(tactic| (k_here; k_dflt (refine' spec_code1 _ _ _ _ _ _ _ _ _ ?e0 ?e1 ?e2 ?e3 ?e4 ?e5 ?k1 ?k2 ?k3 ?k4 ?k5 ?kK ?kd ?ku ?_; (case k1 => k_asm); (case k2 => k_asm); (case k3 => k_asm); (case k4 => k_asm); (case k5 => k_asm); (case kK => first | exact rfl | assumption); (case kd => ktr_room); (case ku => ktr_units); (case e5 => k_mem); (case e0 => omega); (case e1 => omega); (case e2 => omega); (case e3 => omega); (case e4 => omega)); intro t9 h9 tk9 F9 N9; (try k_sweep); (try dsimp only)))
local macro_rules | `(tactic| walk_at "call ref") => `(tactic| (k_here; k_dflt (refine' spec_code2 _ _ _ _ _ _ _ _ _ _ ?e0 ?e1 ?e2 ?e3 ?e4 ?e5 ?e6 ?e7 ?e8 ?k1 ?k2 ?k3 ?k4 ?k5 ?kK ?kd ?ku ?_; (case k1 => k_asm); (case k2 => k_asm); (case k3 => k_asm); (case k4 => k_asm); (case k5 => k_asm); (case kK => first | exact rfl | assumption); (case kd => ktr_room); (case ku => ktr_units); (case e8 => k_mem); (case e3 => rfl); (case e0 => omega); (case e1 => omega); (case e2 => omega); (case e4 => omega); (case e5 => omega); (case e6 => omega); (case e7 => omega)); intro t9 h9 tk9 F9 N9; (try k_sweep); (try dsimp only)))
theorem dec_close {x : Str} {arr : Array UInt8} {tb : Tok} {l : Addr} {news : List (Addr × Obj)} {g h : Heap} {L : Addr} {m2 : Str → Option Value} {vs : List Value} {y : Str} {ty : Tok} {k tk : Nat} {pre post : List Int} {c z' : Int} {t' : Tok} {ob : Addr × Obj} {s : Shared} {K : Flow → Shared → Prop}
    (F : Fr g L h m2) (N : News g L h (ob :: (l, listOf (vs ++ [Value.str y ty]).toArray k) :: news)) (hs' : { s with heap := h, toks := tk } = { s with heap := h, toks := tk })
    (hC : C x = pre ++ c :: post) (hs : ((encL (pre ++ [c])).size : Int) = z') (hvs : StrsAre vs (pre.map sg)) (hy : y = sg c)
    (e1 : m2 (Str.ofString "octets") = some (.bytes arr tb)) (e2 : m2 (Str.ofString "at") = some (.int z' t')) (e3 : m2 (Str.ofString "signs") = some (.ref l)) :
    WhileStep2 g L s (fun n m nx => DecJ x arr tb l news n m nx) K (c :: post).length .next { s with heap := h, toks := tk } := by
  refine ⟨h, tk, m2, _, post.length, rfl, F, cb_drop N (fun p hp => List.mem_cons_of_mem _ hp), Nat.lt_succ_self _, ⟨z', t', pre ++ [c], post, vs ++ [.str y ty], k, rfl, by rw [hC]; simp, hs.symm, ?_, rfl, e1, e2, e3⟩⟩
  rw [List.map_append]
  refine hvs.append' ?_
  rw [hy]
  exact .cons _ _ .nil
local macro_rules | `(tactic| walk_at "exec While Compare cons nil") => `(tactic| (refine halt ?_))
local macro_rules | `(tactic| walk_at "subscriptTail") => `(tactic| (k_here; (with_reducible show wpAny _ _ (subscriptTail _ _ (Value.bytes _ _) (Value.int _ _)) _ _ _); (refine my_item (by omega) (by omega) (by omega) ?_)))
theorem spec_textof {prog : Program} {w : World} {p : Program} {loose : List Str} {mean : ExcName → Option Value} {mg mb : Str → Option Value}
    {dp un : Nat} {gd : Option (List Code)} {cn : Str} {cs : Scope} {a : Addr} {ccd : Value} {cl : List (Str × Addr)} {outer : List Env} {A₀ : Around} {base h₀ : Heap} {L : Addr} {m : Str → Option Value} {news : List (Addr × Obj)} {s : Shared} {Q E : Value → Shared → Prop} (x : Str) (arr : Array UInt8) (tb : Tok) (hx : x.length ≤ 1000) (hc : ∀ c ∈ C x, c < 2048) (ha : arr = encL (C x))
    (B : Below A₀ base outer h₀) (F : Fr h₀ L s.heap m) (X : Frag.In (hdG.heap_39 w.params) h₀) (N : News h₀ L s.heap news) (T : Top p loose mean mg mb h₀) (hk : cs.kind = .function) (hdp : dp + 2 < recursionLimit) (hun : un + 16 < cLine)
    (ret : ∀ t' h' tk', Fr h₀ L h' m → News h₀ L h' news → Q (.str x t') { s with heap := h', toks := tk' }) :
    wpAny (model prog w) (ktrTop dp un gd cn cs L a ccd cl outer) (call (.ref 37) [.bytes arr tb]) Q E s := by
  w_top off
  k_with_none
  have hz : arr.size ≤ 4000 := by
    have := encL_size (C x)
    rw [len_C, ← ha] at this
    omega
  refine wpAny_call ?_
  k_dflt cell_enter
  k_steps
  unfold Halt
  rename Fr _ _ _ _ => F1
  rename News _ _ _ _ => N1
  refine While_inv2 (fun n m nx => DecJ x arr tb _ news n m nx) F1 N1 ⟨0, _, [], C x, [], _, rfl, rfl, rfl, .nil, rfl, rfl, rfl, rfl⟩ ?_
  clear F1 N1
  rintro n m₁ news₁ h₁ tk₁ F₁ N₁ ⟨z, t, pre, post, vs, k, rfl, hC, hzz, hvs, rfl, e1, e2, e3⟩
  have F₂ := fr_say3 e1 e2 e3 F₁
  clear F₁
  have hz0 : 0 ≤ z := by omega
  have hvl : vs.length ≤ 1000 := by
    have h1 := StrsAre.length hvs
    have h2 := len_C x
    rw [hC, List.length_append] at h2
    rw [List.length_map] at h1
    omega
  cases post with
  | nil =>
    have hzz' : z = arr.size := by rw [ha, hC, List.append_nil]; exact hzz
    k_steps
    rename News _ _ _ _ => Nz
    rw [List.append_nil] at hC
    refine join_listC (News.isList Nz (List.Mem.head _)) hvs (by decide) ?_ ?_
    · have h2 := len_C x
      rw [sum_sg, List.length_map, ← hC]
      omega
    · intro t' k'
      rw [join_sg hC]
      k_steps
      exact ret _ _ _ (by assumption) (cb_drop (by assumption) (fun p hp => List.mem_cons_of_mem _ hp))
  | cons c post =>
    have hc2 : c < 2048 := hc c (by rw [hC]; simp)
    have hc0 : 0 ≤ c := by
      have : c ∈ KStt.codes x := by show c ∈ C x; rw [hC]; simp
      simp only [KStt.codes, List.mem_map] at this
      obtain ⟨n, _, rfl⟩ := this
      omega
    by_cases h128 : c < 128
    · obtain ⟨hb, hs, hlt⟩ := dec_one hC hzz hc0 h128
      rw [← ha] at hb hlt
      k_steps
      refine dec_close (by assumption) (by assumption) rfl hC hs hvs ?_ rfl rfl rfl
      rw [hb]; rfl
    · obtain ⟨hb, hb2, hs, hlt⟩ := dec_two hC hzz h128 hc2
      rw [← ha] at hb hb2 hlt
      have q1 : ((arr.toList.getD z.toNat 0).toNat : Int) < 224 := by omega
      have q2 : 194 ≤ ((arr.toList.getD z.toNat 0).toNat : Int) := by omega
      k_steps
      walk_at "call ref"
      k_steps
      refine dec_close (by assumption) (by assumption) rfl hC hs hvs ?_ rfl rfl rfl
      rw [hb, hb2]
      have e : (192 + c / 64) % 32 * 64 + (128 + c % 64) % 64 = c := by omega
      rw [e]; rfl
end Mine
end PartQ8
section PartQ9
open PySem PySem.W PyProof.Rows
namespace Mine
def asI (l : List Int) : Int := if eE l = aE l then 0 else max (-9223372036854775808) (min 9223372036854775807 (valL l))
theorem asI_no {l : List Int} (h : eE l = aE l) : 0 = asI l := by rw [asI, if_pos h]
theorem asI_yes {x : Str} {b e : Int} (h : eE (C x) ≠ aE (C x)) (hb : b = bE (C x)) (he : e = eE (C x)) : max (-9223372036854775808) (min 9223372036854775807 (numV (C (Txt.slice x (some b) (some e))))) = asI (C x) := by
  rw [asI, if_neg h, sl_val x hb he]
theorem asI_if {x : Str} {b e : Int} (h : eE (C x) ≠ aE (C x)) (hb : b = bE (C x)) (he : e = eE (C x)) :
    (if (if numV (C (Txt.slice x (some b) (some e))) < 9223372036854775807 then numV (C (Txt.slice x (some b) (some e))) else 9223372036854775807) > -9223372036854775808 then
      if numV (C (Txt.slice x (some b) (some e))) < 9223372036854775807 then numV (C (Txt.slice x (some b) (some e))) else 9223372036854775807
    else -9223372036854775808) = asI (C x) := by
  rw [← asI_yes h hb he]
  split <;> split <;> omega
theorem spec_asint_str {prog : Program} {w : World} {p : Program} {loose : List Str} {mean : ExcName → Option Value} {mg mb : Str → Option Value}
    {dp un : Nat} {gd : Option (List Code)} {cn : Str} {cs : Scope} {a : Addr} {ccd : Value} {cl : List (Str × Addr)} {outer : List Env} {A₀ : Around} {base h₀ : Heap} {L : Addr} {m : Str → Option Value} {news : List (Addr × Obj)} {s : Shared} {Q E : Value → Shared → Prop} (x : Str) (t : Tok) (hx : x.length ≤ 1000)
    (B : Below A₀ base outer h₀) (F : Fr h₀ L s.heap m) (X : Frag.In (hdG.heap_39 w.params) h₀) (N : News h₀ L s.heap news) (T : Top p loose mean mg mb h₀) (hk : cs.kind = .function) (hdp : dp + 3 < recursionLimit) (hun : un + 24 < cLine)
    (ret : ∀ t' h' tk', Fr h₀ L h' m → News h₀ L h' news → Q (.int (asI (C x)) t') { s with heap := h', toks := tk' }) :
    wpAny (model prog w) (ktrTop dp un gd cn cs L a ccd cl outer) (call (.ref 93) [.str x t]) Q E s := by
  w_top off
  k_with_none
  k_with "call ref" => (k_here; k_dflt ((show wpAny _ _ (call (Value.ref 65) [Value.str _ _]) _ _ _); refine' spec_span _ _ (by assumption) (by k_asm) (by k_asm) (by k_asm) (by k_asm) (by k_asm) (by first | exact rfl | assumption) (by ktr_room) (by ktr_units) ?_ ?_); rotate_left; (focus (intro b9 e9 t9 t8 d9 h9 tk9 hs9 hb9 he9 F9 N9 l9; (try k_lt l9); (try k_sweep); (try dsimp only))); rotate_right; (focus (intro hs9 h9 tk9 F9 N9; (try k_sweep); (try dsimp only))))
  k_with "call ref" => (k_here; k_dflt ((show wpAny _ _ (call (Value.ref 72) [Value.str _ _]) _ _ _); refine' spec_numof _ _ (by omega) (by k_asm) (by k_asm) (by k_asm) (by k_asm) (by k_asm) (by first | exact rfl | assumption) (by ktr_room) (by ktr_units) ?_); intro t9 h9 tk9 F9 N9; (try k_sweep); (try dsimp only))
  refine wpAny_call ?_
  k_dflt cell_enter
  k_steps
  all_goals first
    | exact q_int (ret _ _ _ (by assumption) (by first | assumption | exact cb_drop (by assumption) (by intro p hp; simp [hp]))) (asI_no (by assumption)).symm
    | exact q_int (ret _ _ _ (by assumption) (by first | assumption | exact cb_drop (by assumption) (by intro p hp; simp [hp]))) (asI_if (by assumption) (by assumption) (by assumption)).symm
theorem spec_asint_none {prog : Program} {w : World} {p : Program} {loose : List Str} {mean : ExcName → Option Value} {mg mb : Str → Option Value}
    {dp un : Nat} {gd : Option (List Code)} {cn : Str} {cs : Scope} {a : Addr} {ccd : Value} {cl : List (Str × Addr)} {outer : List Env} {A₀ : Around} {base h₀ : Heap} {L : Addr} {m : Str → Option Value} {news : List (Addr × Obj)} {s : Shared} {Q E : Value → Shared → Prop} 
    (B : Below A₀ base outer h₀) (F : Fr h₀ L s.heap m) (X : Frag.In (hdG.heap_39 w.params) h₀) (N : News h₀ L s.heap news) (T : Top p loose mean mg mb h₀) (hk : cs.kind = .function) (hdp : dp + 1 < recursionLimit) (hun : un + 8 < cLine)
    (ret : ∀ h' tk', Fr h₀ L h' m → News h₀ L h' news → Q (.none) { s with heap := h', toks := tk' }) :
    wpAny (model prog w) (ktrTop dp un gd cn cs L a ccd cl outer) (call (.ref 93) [.none]) Q E s := by
  w_top off
  k_with_none
  k_with "call ref" => (k_here; k_dflt ((show wpAny _ _ (call (Value.ref 65) [Value.str _ _]) _ _ _); refine' spec_span _ _ (by assumption) (by k_asm) (by k_asm) (by k_asm) (by k_asm) (by k_asm) (by first | exact rfl | assumption) (by ktr_room) (by ktr_units) ?_ ?_); rotate_left; (focus (intro b9 e9 t9 t8 d9 h9 tk9 hs9 hb9 he9 F9 N9 l9; (try k_lt l9); (try k_sweep); (try dsimp only))); rotate_right; (focus (intro hs9 h9 tk9 F9 N9; (try k_sweep); (try dsimp only))))
  k_with "call ref" => (k_here; k_dflt ((show wpAny _ _ (call (Value.ref 72) [Value.str _ _]) _ _ _); refine' spec_numof _ _ (by omega) (by k_asm) (by k_asm) (by k_asm) (by k_asm) (by k_asm) (by first | exact rfl | assumption) (by ktr_room) (by ktr_units) ?_); intro t9 h9 tk9 F9 N9; (try k_sweep); (try dsimp only))
  refine wpAny_call ?_
  k_dflt cell_enter
  k_steps
  all_goals exact ret _ _ (by assumption) (by assumption)
theorem spec_asint_int {prog : Program} {w : World} {p : Program} {loose : List Str} {mean : ExcName → Option Value} {mg mb : Str → Option Value}
    {dp un : Nat} {gd : Option (List Code)} {cn : Str} {cs : Scope} {a : Addr} {ccd : Value} {cl : List (Str × Addr)} {outer : List Env} {A₀ : Around} {base h₀ : Heap} {L : Addr} {m : Str → Option Value} {news : List (Addr × Obj)} {s : Shared} {Q E : Value → Shared → Prop} (n : Int) (t : Tok)
    (B : Below A₀ base outer h₀) (F : Fr h₀ L s.heap m) (X : Frag.In (hdG.heap_39 w.params) h₀) (N : News h₀ L s.heap news) (T : Top p loose mean mg mb h₀) (hk : cs.kind = .function) (hdp : dp + 1 < recursionLimit) (hun : un + 8 < cLine)
    (ret : ∀ h' tk', Fr h₀ L h' m → News h₀ L h' news → Q (.int n t) { s with heap := h', toks := tk' }) :
    wpAny (model prog w) (ktrTop dp un gd cn cs L a ccd cl outer) (call (.ref 93) [.int n t]) Q E s := by
  w_top off
  k_with_none
  k_with "call ref" => (k_here; k_dflt ((show wpAny _ _ (call (Value.ref 65) [Value.str _ _]) _ _ _); refine' spec_span _ _ (by assumption) (by k_asm) (by k_asm) (by k_asm) (by k_asm) (by k_asm) (by first | exact rfl | assumption) (by ktr_room) (by ktr_units) ?_ ?_); rotate_left; (focus (intro b9 e9 t9 t8 d9 h9 tk9 hs9 hb9 he9 F9 N9 l9; (try k_lt l9); (try k_sweep); (try dsimp only))); rotate_right; (focus (intro hs9 h9 tk9 F9 N9; (try k_sweep); (try dsimp only))))
  k_with "call ref" => (k_here; k_dflt ((show wpAny _ _ (call (Value.ref 72) [Value.str _ _]) _ _ _); refine' spec_numof _ _ (by omega) (by k_asm) (by k_asm) (by k_asm) (by k_asm) (by k_asm) (by first | exact rfl | assumption) (by ktr_room) (by ktr_units) ?_); intro t9 h9 tk9 F9 N9; (try k_sweep); (try dsimp only))
  refine wpAny_call ?_
  k_dflt cell_enter
  k_steps
  all_goals exact ret _ _ (by assumption) (by assumption)
theorem spec_asint_bytes {prog : Program} {w : World} {p : Program} {loose : List Str} {mean : ExcName → Option Value} {mg mb : Str → Option Value}
    {dp un : Nat} {gd : Option (List Code)} {cn : Str} {cs : Scope} {a : Addr} {ccd : Value} {cl : List (Str × Addr)} {outer : List Env} {A₀ : Around} {base h₀ : Heap} {L : Addr} {m : Str → Option Value} {news : List (Addr × Obj)} {s : Shared} {Q E : Value → Shared → Prop} (x : Str) (arr : Array UInt8) (tb : Tok) (hx : x.length ≤ 1000) (hc : ∀ c ∈ C x, c < 2048) (ha : arr = encL (C x))
    (B : Below A₀ base outer h₀) (F : Fr h₀ L s.heap m) (X : Frag.In (hdG.heap_39 w.params) h₀) (N : News h₀ L s.heap news) (T : Top p loose mean mg mb h₀) (hk : cs.kind = .function) (hdp : dp + 3 < recursionLimit) (hun : un + 24 < cLine)
    (ret : ∀ t' h' tk', Fr h₀ L h' m → News h₀ L h' news → Q (.int (asI (C x)) t') { s with heap := h', toks := tk' }) :
    wpAny (model prog w) (ktrTop dp un gd cn cs L a ccd cl outer) (call (.ref 93) [.bytes arr tb]) Q E s := by
  w_top off
  k_with_none
  k_with "call ref" => (k_here; k_dflt ((show wpAny _ _ (call (Value.ref 65) [Value.str _ _]) _ _ _); refine' spec_span _ _ (by assumption) (by k_asm) (by k_asm) (by k_asm) (by k_asm) (by k_asm) (by first | exact rfl | assumption) (by ktr_room) (by ktr_units) ?_ ?_); rotate_left; (focus (intro b9 e9 t9 t8 d9 h9 tk9 hs9 hb9 he9 F9 N9 l9; (try k_lt l9); (try k_sweep); (try dsimp only))); rotate_right; (focus (intro hs9 h9 tk9 F9 N9; (try k_sweep); (try dsimp only))))
  k_with "call ref" => (k_here; k_dflt ((show wpAny _ _ (call (Value.ref 72) [Value.str _ _]) _ _ _); refine' spec_numof _ _ (by omega) (by k_asm) (by k_asm) (by k_asm) (by k_asm) (by k_asm) (by first | exact rfl | assumption) (by ktr_room) (by ktr_units) ?_); intro t9 h9 tk9 F9 N9; (try k_sweep); (try dsimp only))
  k_with "call ref" => (k_here; k_dflt ((show wpAny _ _ (call (Value.ref 37) [Value.bytes _ _]) _ _ _); refine' spec_textof _ _ _ (by assumption) (by assumption) (by assumption) (by k_asm) (by k_asm) (by k_asm) (by k_asm) (by k_asm) (by first | exact rfl | assumption) (by ktr_room) (by ktr_units) ?_); intro t9 h9 tk9 F9 N9; (try k_sweep); (try dsimp only))
  refine wpAny_call ?_
  k_dflt cell_enter
  k_steps
  all_goals first
    | exact q_int (ret _ _ _ (by assumption) (by first | assumption | exact cb_drop (by assumption) (by intro p hp; simp [hp]))) (asI_no (by assumption)).symm
    | exact q_int (ret _ _ _ (by assumption) (by first | assumption | exact cb_drop (by assumption) (by intro p hp; simp [hp]))) (asI_if (by assumption) (by assumption) (by assumption)).symm
end Mine
end PartQ9
section PartQ10
open PySem PySem.W PyProof.Rows
namespace Mine
theorem bne_dec (a : Int) : decide (a ≠ 0) = (a != 0) := by by_cases h : a = 0 <;> simp [h]
theorem tup16 {h₀ h : Heap} {L : Addr} {m : Str → Option Value} {w : World} (F : Fr h₀ L h m) (X : Frag.In (hdG.heap_39 w.params) h₀) :
    ∃ t1 t2, IsTup h 16 #[.str (Str.ofString "integer") t1, .str (Str.ofString "numeric") t2] := ⟨_, _, Fr.tup F ⟨_, X 16 _ rfl, rfl, _, rfl⟩⟩
theorem in16 {prog : Program} {w : World} {A : Around} {Q E : Value → Shared → Prop} {s : Shared} {h₀ : Heap} {L : Addr} {m : Str → Option Value} (F : Fr h₀ L s.heap m) (X : Frag.In (hdG.heap_39 w.params) h₀) (af : Str) (b : Bool) (u : Tok)
    (hb : [Str.ofString "integer", Str.ofString "numeric"].any (· == af) = b) (h : Q (.bool b) s) : wpAny (model prog w) A (compareOp .In (.str af u) (.ref 16)) Q E s := by
  obtain ⟨t1, t2, ht⟩ := tup16 F X
  exact in_tuple_strs ht (.cons _ _ (.cons _ _ .nil)) (hb ▸ h)
theorem spec_truth_none {prog : Program} {w : World} {p : Program} {loose : List Str} {mean : ExcName → Option Value} {mg mb : Str → Option Value}
    {dp un : Nat} {gd : Option (List Code)} {cn : Str} {cs : Scope} {a : Addr} {ccd : Value} {cl : List (Str × Addr)} {outer : List Env} {A₀ : Around} {base h₀ : Heap} {L : Addr} {m : Str → Option Value} {news : List (Addr × Obj)} {s : Shared} {Q E : Value → Shared → Prop} 
    (B : Below A₀ base outer h₀) (F : Fr h₀ L s.heap m) (X : Frag.In (hdG.heap_39 w.params) h₀) (N : News h₀ L s.heap news) (T : Top p loose mean mg mb h₀) (hk : cs.kind = .function) (hdp : dp + 2 < recursionLimit) (hun : un + 16 < cLine)
    (ret : ∀ h' tk', Fr h₀ L h' m → News h₀ L h' news → Q (.none) { s with heap := h', toks := tk' }) :
    wpAny (model prog w) (ktrTop dp un gd cn cs L a ccd cl outer) (call (.ref 121) [.none]) Q E s := by
  w_top off
  k_with_none
  k_with "compareOp In str ref" => (k_here; first | (refine in16 (by assumption) (by assumption) _ true _ (by decide +kernel) ?_) | (refine in16 (by assumption) (by assumption) _ false _ (by decide +kernel) ?_))
  k_with "call ref" => (k_here; k_dflt ((show wpAny _ _ (call (Value.ref 93) [Value.none]) _ _ _); refine' spec_asint_none   (by k_asm) (by k_asm) (by k_asm) (by k_asm) (by k_asm) (by first | exact rfl | assumption) (by ktr_room) (by ktr_units) ?_); intro  h9 tk9 F9 N9; (try k_sweep); (try dsimp only))
  refine wpAny_call ?_
  k_dflt cell_enter
  k_steps
  all_goals exact ret _ _ (by assumption) (by assumption)
theorem spec_truth_str {prog : Program} {w : World} {p : Program} {loose : List Str} {mean : ExcName → Option Value} {mg mb : Str → Option Value}
    {dp un : Nat} {gd : Option (List Code)} {cn : Str} {cs : Scope} {a : Addr} {ccd : Value} {cl : List (Str × Addr)} {outer : List Env} {A₀ : Around} {base h₀ : Heap} {L : Addr} {m : Str → Option Value} {news : List (Addr × Obj)} {s : Shared} {Q E : Value → Shared → Prop} (x : Str) (t : Tok) (hx : x.length ≤ 1000)
    (B : Below A₀ base outer h₀) (F : Fr h₀ L s.heap m) (X : Frag.In (hdG.heap_39 w.params) h₀) (N : News h₀ L s.heap news) (T : Top p loose mean mg mb h₀) (hk : cs.kind = .function) (hdp : dp + 4 < recursionLimit) (hun : un + 32 < cLine)
    (ret : ∀ h' tk', Fr h₀ L h' m → News h₀ L h' news → Q (.bool (decide (asI (C x) ≠ 0))) { s with heap := h', toks := tk' }) :
    wpAny (model prog w) (ktrTop dp un gd cn cs L a ccd cl outer) (call (.ref 121) [.str x t]) Q E s := by
  w_top off
  k_with_none
  k_with "compareOp In str ref" => (k_here; first | (refine in16 (by assumption) (by assumption) _ true _ (by decide +kernel) ?_) | (refine in16 (by assumption) (by assumption) _ false _ (by decide +kernel) ?_))
  k_with "call ref" => (k_here; k_dflt ((show wpAny _ _ (call (Value.ref 93) [Value.none]) _ _ _); refine' spec_asint_none   (by k_asm) (by k_asm) (by k_asm) (by k_asm) (by k_asm) (by first | exact rfl | assumption) (by ktr_room) (by ktr_units) ?_); intro  h9 tk9 F9 N9; (try k_sweep); (try dsimp only))
  k_with "call ref" => (k_here; k_dflt ((show wpAny _ _ (call (Value.ref 93) [Value.str _ _]) _ _ _); refine' spec_asint_str _ _ (by assumption) (by k_asm) (by k_asm) (by k_asm) (by k_asm) (by k_asm) (by first | exact rfl | assumption) (by ktr_room) (by ktr_units) ?_); intro t9 h9 tk9 F9 N9; (try k_sweep); (try dsimp only))
  refine wpAny_call ?_
  k_dflt cell_enter
  k_steps
  all_goals first | exact q_of (ret t _ _ (by assumption) (by assumption)) (by rw [(by assumption : wh (C x) = none)]) | exact q_of (ret _ _ _ (by assumption) (by assumption)) (by rw [(by assumption : wh (C x) = _)]) | exact q_bool (ret _ _ (by assumption) (by assumption)) (by rw [bne_dec]) | exact ret _ _ (by assumption) (by assumption) | exact ret _ _ _ (by assumption) (by assumption) | exact ret _ (by assumption) (by assumption)
theorem spec_truth_bytes {prog : Program} {w : World} {p : Program} {loose : List Str} {mean : ExcName → Option Value} {mg mb : Str → Option Value}
    {dp un : Nat} {gd : Option (List Code)} {cn : Str} {cs : Scope} {a : Addr} {ccd : Value} {cl : List (Str × Addr)} {outer : List Env} {A₀ : Around} {base h₀ : Heap} {L : Addr} {m : Str → Option Value} {news : List (Addr × Obj)} {s : Shared} {Q E : Value → Shared → Prop} (x : Str) (arr : Array UInt8) (tb : Tok) (hx : x.length ≤ 1000) (hc : ∀ c ∈ C x, c < 2048) (ha : arr = encL (C x))
    (B : Below A₀ base outer h₀) (F : Fr h₀ L s.heap m) (X : Frag.In (hdG.heap_39 w.params) h₀) (N : News h₀ L s.heap news) (T : Top p loose mean mg mb h₀) (hk : cs.kind = .function) (hdp : dp + 4 < recursionLimit) (hun : un + 32 < cLine)
    (ret : ∀ h' tk', Fr h₀ L h' m → News h₀ L h' news → Q (.bool (decide (asI (C x) ≠ 0))) { s with heap := h', toks := tk' }) :
    wpAny (model prog w) (ktrTop dp un gd cn cs L a ccd cl outer) (call (.ref 121) [.bytes arr tb]) Q E s := by
  w_top off
  k_with_none
  k_with "compareOp In str ref" => (k_here; first | (refine in16 (by assumption) (by assumption) _ true _ (by decide +kernel) ?_) | (refine in16 (by assumption) (by assumption) _ false _ (by decide +kernel) ?_))
  k_with "call ref" => (k_here; k_dflt ((show wpAny _ _ (call (Value.ref 93) [Value.none]) _ _ _); refine' spec_asint_none   (by k_asm) (by k_asm) (by k_asm) (by k_asm) (by k_asm) (by first | exact rfl | assumption) (by ktr_room) (by ktr_units) ?_); intro  h9 tk9 F9 N9; (try k_sweep); (try dsimp only))
  k_with "call ref" => (k_here; k_dflt ((show wpAny _ _ (call (Value.ref 93) [Value.str _ _]) _ _ _); refine' spec_asint_str _ _ (by assumption) (by k_asm) (by k_asm) (by k_asm) (by k_asm) (by k_asm) (by first | exact rfl | assumption) (by ktr_room) (by ktr_units) ?_); intro t9 h9 tk9 F9 N9; (try k_sweep); (try dsimp only))
  k_with "call ref" => (k_here; k_dflt ((show wpAny _ _ (call (Value.ref 93) [Value.bytes _ _]) _ _ _); refine' spec_asint_bytes _ _ _ (by assumption) (by assumption) (by assumption) (by k_asm) (by k_asm) (by k_asm) (by k_asm) (by k_asm) (by first | exact rfl | assumption) (by ktr_room) (by ktr_units) ?_); intro t9 h9 tk9 F9 N9; (try k_sweep); (try dsimp only))
  refine wpAny_call ?_
  k_dflt cell_enter
  k_steps
  all_goals first | exact q_of (ret t _ _ (by assumption) (by assumption)) (by rw [(by assumption : wh (C x) = none)]) | exact q_of (ret _ _ _ (by assumption) (by assumption)) (by rw [(by assumption : wh (C x) = _)]) | exact q_bool (ret _ _ (by assumption) (by assumption)) (by rw [bne_dec]) | exact ret _ _ (by assumption) (by assumption) | exact ret _ _ _ (by assumption) (by assumption) | exact ret _ (by assumption) (by assumption)
theorem spec_astext_int {prog : Program} {w : World} {p : Program} {loose : List Str} {mean : ExcName → Option Value} {mg mb : Str → Option Value}
    {dp un : Nat} {gd : Option (List Code)} {cn : Str} {cs : Scope} {a : Addr} {ccd : Value} {cl : List (Str × Addr)} {outer : List Env} {A₀ : Around} {base h₀ : Heap} {L : Addr} {m : Str → Option Value} {news : List (Addr × Obj)} {s : Shared} {Q E : Value → Shared → Prop} (n : Int) (t : Tok) (hn0 : -9223372036854775808 ≤ n) (hn1 : n ≤ 9223372036854775807)
    (B : Below A₀ base outer h₀) (F : Fr h₀ L s.heap m) (X : Frag.In (hdG.heap_39 w.params) h₀) (N : News h₀ L s.heap news) (T : Top p loose mean mg mb h₀) (hk : cs.kind = .function) (hdp : dp + 1 < recursionLimit) (hun : un + 8 < cLine)
    (ret : ∀ t' h' tk', Fr h₀ L h' m → News h₀ L h' news → Q (.str (Str.ofString (toString n)) t') { s with heap := h', toks := tk' }) :
    wpAny (model prog w) (ktrTop dp un gd cn cs L a ccd cl outer) (call (.ref 100) [.int n t]) Q E s := by
  w_top off
  k_with_none
  k_with "compareOp In str ref" => (k_here; first | (refine in16 (by assumption) (by assumption) _ true _ (by decide +kernel) ?_) | (refine in16 (by assumption) (by assumption) _ false _ (by decide +kernel) ?_))
  k_with "call ref" => (k_here; k_dflt ((show wpAny _ _ (call (Value.ref 93) [Value.none]) _ _ _); refine' spec_asint_none   (by k_asm) (by k_asm) (by k_asm) (by k_asm) (by k_asm) (by first | exact rfl | assumption) (by ktr_room) (by ktr_units) ?_); intro  h9 tk9 F9 N9; (try k_sweep); (try dsimp only))
  k_with "call ref" => (k_here; k_dflt ((show wpAny _ _ (call (Value.ref 93) [Value.str _ _]) _ _ _); refine' spec_asint_str _ _ (by assumption) (by k_asm) (by k_asm) (by k_asm) (by k_asm) (by k_asm) (by first | exact rfl | assumption) (by ktr_room) (by ktr_units) ?_); intro t9 h9 tk9 F9 N9; (try k_sweep); (try dsimp only))
  k_with "call ref" => (k_here; k_dflt ((show wpAny _ _ (call (Value.ref 93) [Value.bytes _ _]) _ _ _); refine' spec_asint_bytes _ _ _ (by assumption) (by assumption) (by assumption) (by k_asm) (by k_asm) (by k_asm) (by k_asm) (by k_asm) (by first | exact rfl | assumption) (by ktr_room) (by ktr_units) ?_); intro t9 h9 tk9 F9 N9; (try k_sweep); (try dsimp only))
  refine wpAny_call ?_
  k_dflt cell_enter
  k_steps
  all_goals first | exact q_of (ret t _ _ (by assumption) (by assumption)) (by rw [(by assumption : wh (C x) = none)]) | exact q_of (ret _ _ _ (by assumption) (by assumption)) (by rw [(by assumption : wh (C x) = _)]) | exact q_bool (ret _ _ (by assumption) (by assumption)) (by rw [bne_dec]) | exact ret _ _ (by assumption) (by assumption) | exact ret _ _ _ (by assumption) (by assumption) | exact ret _ (by assumption) (by assumption)
theorem spec_aff_str {prog : Program} {w : World} {p : Program} {loose : List Str} {mean : ExcName → Option Value} {mg mb : Str → Option Value}
    {dp un : Nat} {gd : Option (List Code)} {cn : Str} {cs : Scope} {a : Addr} {ccd : Value} {cl : List (Str × Addr)} {outer : List Env} {A₀ : Around} {base h₀ : Heap} {L : Addr} {m : Str → Option Value} {news : List (Addr × Obj)} {s : Shared} {Q E : Value → Shared → Prop} (x : Str) (t : Tok) (hx : x.length ≤ 1000) (af : Str) (ta : Tok) (haf : af = Str.ofString "integer" ∨ af = Str.ofString "numeric")
    (B : Below A₀ base outer h₀) (F : Fr h₀ L s.heap m) (X : Frag.In (hdG.heap_39 w.params) h₀) (N : News h₀ L s.heap news) (T : Top p loose mean mg mb h₀) (hk : cs.kind = .function) (hdp : dp + 4 < recursionLimit) (hun : un + 32 < cLine)
    (ret : ∀ t' h' tk', Fr h₀ L h' m → News h₀ L h' news → Q (match wh (C x) with | none => .str x t | some n => .int n t') { s with heap := h', toks := tk' }) :
    wpAny (model prog w) (ktrTop dp un gd cn cs L a ccd cl outer) (call (.ref 86) [.str x t, .str af ta]) Q E s := by
  w_top off
  k_with_none
  k_with "compareOp In str ref" => (k_here; first | (refine in16 (by assumption) (by assumption) _ true _ (by decide +kernel) ?_) | (refine in16 (by assumption) (by assumption) _ false _ (by decide +kernel) ?_))
  k_with "call ref" => (k_here; k_dflt ((show wpAny _ _ (call (Value.ref 93) [Value.none]) _ _ _); refine' spec_asint_none   (by k_asm) (by k_asm) (by k_asm) (by k_asm) (by k_asm) (by first | exact rfl | assumption) (by ktr_room) (by ktr_units) ?_); intro  h9 tk9 F9 N9; (try k_sweep); (try dsimp only))
  k_with "call ref" => (k_here; k_dflt ((show wpAny _ _ (call (Value.ref 93) [Value.str _ _]) _ _ _); refine' spec_asint_str _ _ (by assumption) (by k_asm) (by k_asm) (by k_asm) (by k_asm) (by k_asm) (by first | exact rfl | assumption) (by ktr_room) (by ktr_units) ?_); intro t9 h9 tk9 F9 N9; (try k_sweep); (try dsimp only))
  k_with "call ref" => (k_here; k_dflt ((show wpAny _ _ (call (Value.ref 93) [Value.bytes _ _]) _ _ _); refine' spec_asint_bytes _ _ _ (by assumption) (by assumption) (by assumption) (by k_asm) (by k_asm) (by k_asm) (by k_asm) (by k_asm) (by first | exact rfl | assumption) (by ktr_room) (by ktr_units) ?_); intro t9 h9 tk9 F9 N9; (try k_sweep); (try dsimp only))
  k_with "call ref" => (k_here; k_dflt ((show wpAny _ _ (call (Value.ref 79) [Value.str _ _]) _ _ _); refine' spec_whole _ _ (by assumption) (by k_asm) (by k_asm) (by k_asm) (by k_asm) (by k_asm) (by first | exact rfl | assumption) (by ktr_room) (by ktr_units) ?_ ?_); rotate_left; (focus (intro n9 t9 h9 tk9 hs9 F9 N9; (try k_sweep); (try dsimp only))); rotate_right; (focus (intro hs9 h9 tk9 F9 N9; (try k_sweep); (try dsimp only))))
  rcases haf with rfl | rfl
  all_goals refine wpAny_call ?_
  all_goals k_dflt cell_enter
  k_steps
  all_goals first | exact q_of (ret t _ _ (by assumption) (by assumption)) (by rw [(by assumption : wh (C x) = none)]) | exact q_of (ret _ _ _ (by assumption) (by assumption)) (by rw [(by assumption : wh (C x) = _)]) | exact q_bool (ret _ _ (by assumption) (by assumption)) (by rw [bne_dec]) | exact ret _ _ (by assumption) (by assumption) | exact ret _ _ _ (by assumption) (by assumption) | exact ret _ (by assumption) (by assumption)
theorem spec_aff_bytes {prog : Program} {w : World} {p : Program} {loose : List Str} {mean : ExcName → Option Value} {mg mb : Str → Option Value}
    {dp un : Nat} {gd : Option (List Code)} {cn : Str} {cs : Scope} {a : Addr} {ccd : Value} {cl : List (Str × Addr)} {outer : List Env} {A₀ : Around} {base h₀ : Heap} {L : Addr} {m : Str → Option Value} {news : List (Addr × Obj)} {s : Shared} {Q E : Value → Shared → Prop} (arr : Array UInt8) (tb : Tok) (af : Str) (ta : Tok) (haf : af = Str.ofString "integer" ∨ af = Str.ofString "numeric")
    (B : Below A₀ base outer h₀) (F : Fr h₀ L s.heap m) (X : Frag.In (hdG.heap_39 w.params) h₀) (N : News h₀ L s.heap news) (T : Top p loose mean mg mb h₀) (hk : cs.kind = .function) (hdp : dp + 1 < recursionLimit) (hun : un + 8 < cLine)
    (ret : ∀ h' tk', Fr h₀ L h' m → News h₀ L h' news → Q (.bytes arr tb) { s with heap := h', toks := tk' }) :
    wpAny (model prog w) (ktrTop dp un gd cn cs L a ccd cl outer) (call (.ref 86) [.bytes arr tb, .str af ta]) Q E s := by
  w_top off
  k_with_none
  k_with "compareOp In str ref" => (k_here; first | (refine in16 (by assumption) (by assumption) _ true _ (by decide +kernel) ?_) | (refine in16 (by assumption) (by assumption) _ false _ (by decide +kernel) ?_))
  k_with "call ref" => (k_here; k_dflt ((show wpAny _ _ (call (Value.ref 93) [Value.none]) _ _ _); refine' spec_asint_none   (by k_asm) (by k_asm) (by k_asm) (by k_asm) (by k_asm) (by first | exact rfl | assumption) (by ktr_room) (by ktr_units) ?_); intro  h9 tk9 F9 N9; (try k_sweep); (try dsimp only))
  k_with "call ref" => (k_here; k_dflt ((show wpAny _ _ (call (Value.ref 93) [Value.str _ _]) _ _ _); refine' spec_asint_str _ _ (by assumption) (by k_asm) (by k_asm) (by k_asm) (by k_asm) (by k_asm) (by first | exact rfl | assumption) (by ktr_room) (by ktr_units) ?_); intro t9 h9 tk9 F9 N9; (try k_sweep); (try dsimp only))
  k_with "call ref" => (k_here; k_dflt ((show wpAny _ _ (call (Value.ref 93) [Value.bytes _ _]) _ _ _); refine' spec_asint_bytes _ _ _ (by assumption) (by assumption) (by assumption) (by k_asm) (by k_asm) (by k_asm) (by k_asm) (by k_asm) (by first | exact rfl | assumption) (by ktr_room) (by ktr_units) ?_); intro t9 h9 tk9 F9 N9; (try k_sweep); (try dsimp only))
  k_with "call ref" => (k_here; k_dflt ((show wpAny _ _ (call (Value.ref 79) [Value.str _ _]) _ _ _); refine' spec_whole _ _ (by assumption) (by k_asm) (by k_asm) (by k_asm) (by k_asm) (by k_asm) (by first | exact rfl | assumption) (by ktr_room) (by ktr_units) ?_ ?_); rotate_left; (focus (intro n9 t9 h9 tk9 hs9 F9 N9; (try k_sweep); (try dsimp only))); rotate_right; (focus (intro hs9 h9 tk9 F9 N9; (try k_sweep); (try dsimp only))))
  rcases haf with rfl | rfl
  all_goals refine wpAny_call ?_
  all_goals k_dflt cell_enter
  k_steps
  all_goals first | exact q_of (ret t _ _ (by assumption) (by assumption)) (by rw [(by assumption : wh (C x) = none)]) | exact q_of (ret _ _ _ (by assumption) (by assumption)) (by rw [(by assumption : wh (C x) = _)]) | exact q_bool (ret _ _ (by assumption) (by assumption)) (by rw [bne_dec]) | exact ret _ _ (by assumption) (by assumption) | exact ret _ _ _ (by assumption) (by assumption) | exact ret _ (by assumption) (by assumption)
theorem spec_aff_none {prog : Program} {w : World} {p : Program} {loose : List Str} {mean : ExcName → Option Value} {mg mb : Str → Option Value}
    {dp un : Nat} {gd : Option (List Code)} {cn : Str} {cs : Scope} {a : Addr} {ccd : Value} {cl : List (Str × Addr)} {outer : List Env} {A₀ : Around} {base h₀ : Heap} {L : Addr} {m : Str → Option Value} {news : List (Addr × Obj)} {s : Shared} {Q E : Value → Shared → Prop} (af : Str) (ta : Tok) (haf : af = Str.ofString "integer" ∨ af = Str.ofString "numeric" ∨ af = Str.ofString "text" ∨ af = Str.ofString "blob")
    (B : Below A₀ base outer h₀) (F : Fr h₀ L s.heap m) (X : Frag.In (hdG.heap_39 w.params) h₀) (N : News h₀ L s.heap news) (T : Top p loose mean mg mb h₀) (hk : cs.kind = .function) (hdp : dp + 1 < recursionLimit) (hun : un + 8 < cLine)
    (ret : ∀ h' tk', Fr h₀ L h' m → News h₀ L h' news → Q (.none) { s with heap := h', toks := tk' }) :
    wpAny (model prog w) (ktrTop dp un gd cn cs L a ccd cl outer) (call (.ref 86) [.none, .str af ta]) Q E s := by
  w_top off
  k_with_none
  k_with "compareOp In str ref" => (k_here; first | (refine in16 (by assumption) (by assumption) _ true _ (by decide +kernel) ?_) | (refine in16 (by assumption) (by assumption) _ false _ (by decide +kernel) ?_))
  k_with "call ref" => (k_here; k_dflt ((show wpAny _ _ (call (Value.ref 93) [Value.none]) _ _ _); refine' spec_asint_none   (by k_asm) (by k_asm) (by k_asm) (by k_asm) (by k_asm) (by first | exact rfl | assumption) (by ktr_room) (by ktr_units) ?_); intro  h9 tk9 F9 N9; (try k_sweep); (try dsimp only))
  k_with "call ref" => (k_here; k_dflt ((show wpAny _ _ (call (Value.ref 93) [Value.str _ _]) _ _ _); refine' spec_asint_str _ _ (by assumption) (by k_asm) (by k_asm) (by k_asm) (by k_asm) (by k_asm) (by first | exact rfl | assumption) (by ktr_room) (by ktr_units) ?_); intro t9 h9 tk9 F9 N9; (try k_sweep); (try dsimp only))
  k_with "call ref" => (k_here; k_dflt ((show wpAny _ _ (call (Value.ref 93) [Value.bytes _ _]) _ _ _); refine' spec_asint_bytes _ _ _ (by assumption) (by assumption) (by assumption) (by k_asm) (by k_asm) (by k_asm) (by k_asm) (by k_asm) (by first | exact rfl | assumption) (by ktr_room) (by ktr_units) ?_); intro t9 h9 tk9 F9 N9; (try k_sweep); (try dsimp only))
  k_with "call ref" => (k_here; k_dflt ((show wpAny _ _ (call (Value.ref 79) [Value.str _ _]) _ _ _); refine' spec_whole _ _ (by assumption) (by k_asm) (by k_asm) (by k_asm) (by k_asm) (by k_asm) (by first | exact rfl | assumption) (by ktr_room) (by ktr_units) ?_ ?_); rotate_left; (focus (intro n9 t9 h9 tk9 hs9 F9 N9; (try k_sweep); (try dsimp only))); rotate_right; (focus (intro hs9 h9 tk9 F9 N9; (try k_sweep); (try dsimp only))))
  rcases haf with rfl | rfl | rfl | rfl
  all_goals refine wpAny_call ?_
  all_goals k_dflt cell_enter
  k_steps
  all_goals first | exact q_of (ret t _ _ (by assumption) (by assumption)) (by rw [(by assumption : wh (C x) = none)]) | exact q_of (ret _ _ _ (by assumption) (by assumption)) (by rw [(by assumption : wh (C x) = _)]) | exact q_bool (ret _ _ (by assumption) (by assumption)) (by rw [bne_dec]) | exact ret _ _ (by assumption) (by assumption) | exact ret _ _ _ (by assumption) (by assumption) | exact ret _ (by assumption) (by assumption)
theorem spec_aff_text_str {prog : Program} {w : World} {p : Program} {loose : List Str} {mean : ExcName → Option Value} {mg mb : Str → Option Value}
    {dp un : Nat} {gd : Option (List Code)} {cn : Str} {cs : Scope} {a : Addr} {ccd : Value} {cl : List (Str × Addr)} {outer : List Env} {A₀ : Around} {base h₀ : Heap} {L : Addr} {m : Str → Option Value} {news : List (Addr × Obj)} {s : Shared} {Q E : Value → Shared → Prop} (x : Str) (t : Tok) (ta : Tok)
    (B : Below A₀ base outer h₀) (F : Fr h₀ L s.heap m) (X : Frag.In (hdG.heap_39 w.params) h₀) (N : News h₀ L s.heap news) (T : Top p loose mean mg mb h₀) (hk : cs.kind = .function) (hdp : dp + 1 < recursionLimit) (hun : un + 8 < cLine)
    (ret : ∀ h' tk', Fr h₀ L h' m → News h₀ L h' news → Q (.str x t) { s with heap := h', toks := tk' }) :
    wpAny (model prog w) (ktrTop dp un gd cn cs L a ccd cl outer) (call (.ref 86) [.str x t, .str (Str.ofString "text") ta]) Q E s := by
  w_top off
  k_with_none
  k_with "compareOp In str ref" => (k_here; first | (refine in16 (by assumption) (by assumption) _ true _ (by decide +kernel) ?_) | (refine in16 (by assumption) (by assumption) _ false _ (by decide +kernel) ?_))
  k_with "call ref" => (k_here; k_dflt ((show wpAny _ _ (call (Value.ref 93) [Value.none]) _ _ _); refine' spec_asint_none   (by k_asm) (by k_asm) (by k_asm) (by k_asm) (by k_asm) (by first | exact rfl | assumption) (by ktr_room) (by ktr_units) ?_); intro  h9 tk9 F9 N9; (try k_sweep); (try dsimp only))
  k_with "call ref" => (k_here; k_dflt ((show wpAny _ _ (call (Value.ref 93) [Value.str _ _]) _ _ _); refine' spec_asint_str _ _ (by assumption) (by k_asm) (by k_asm) (by k_asm) (by k_asm) (by k_asm) (by first | exact rfl | assumption) (by ktr_room) (by ktr_units) ?_); intro t9 h9 tk9 F9 N9; (try k_sweep); (try dsimp only))
  k_with "call ref" => (k_here; k_dflt ((show wpAny _ _ (call (Value.ref 93) [Value.bytes _ _]) _ _ _); refine' spec_asint_bytes _ _ _ (by assumption) (by assumption) (by assumption) (by k_asm) (by k_asm) (by k_asm) (by k_asm) (by k_asm) (by first | exact rfl | assumption) (by ktr_room) (by ktr_units) ?_); intro t9 h9 tk9 F9 N9; (try k_sweep); (try dsimp only))
  k_with "call ref" => (k_here; k_dflt ((show wpAny _ _ (call (Value.ref 79) [Value.str _ _]) _ _ _); refine' spec_whole _ _ (by assumption) (by k_asm) (by k_asm) (by k_asm) (by k_asm) (by k_asm) (by first | exact rfl | assumption) (by ktr_room) (by ktr_units) ?_ ?_); rotate_left; (focus (intro n9 t9 h9 tk9 hs9 F9 N9; (try k_sweep); (try dsimp only))); rotate_right; (focus (intro hs9 h9 tk9 F9 N9; (try k_sweep); (try dsimp only))))
  refine wpAny_call ?_
  k_dflt cell_enter
  k_steps
  all_goals first | exact q_of (ret t _ _ (by assumption) (by assumption)) (by rw [(by assumption : wh (C x) = none)]) | exact q_of (ret _ _ _ (by assumption) (by assumption)) (by rw [(by assumption : wh (C x) = _)]) | exact q_bool (ret _ _ (by assumption) (by assumption)) (by rw [bne_dec]) | exact ret _ _ (by assumption) (by assumption) | exact ret _ _ _ (by assumption) (by assumption) | exact ret _ (by assumption) (by assumption)
theorem spec_aff_text_int {prog : Program} {w : World} {p : Program} {loose : List Str} {mean : ExcName → Option Value} {mg mb : Str → Option Value}
    {dp un : Nat} {gd : Option (List Code)} {cn : Str} {cs : Scope} {a : Addr} {ccd : Value} {cl : List (Str × Addr)} {outer : List Env} {A₀ : Around} {base h₀ : Heap} {L : Addr} {m : Str → Option Value} {news : List (Addr × Obj)} {s : Shared} {Q E : Value → Shared → Prop} (n : Int) (t : Tok) (hn0 : -9223372036854775808 ≤ n) (hn1 : n ≤ 9223372036854775807)(ta : Tok)
    (B : Below A₀ base outer h₀) (F : Fr h₀ L s.heap m) (X : Frag.In (hdG.heap_39 w.params) h₀) (N : News h₀ L s.heap news) (T : Top p loose mean mg mb h₀) (hk : cs.kind = .function) (hdp : dp + 1 < recursionLimit) (hun : un + 8 < cLine)
    (ret : ∀ t' h' tk', Fr h₀ L h' m → News h₀ L h' news → Q (.str (Str.ofString (toString n)) t') { s with heap := h', toks := tk' }) :
    wpAny (model prog w) (ktrTop dp un gd cn cs L a ccd cl outer) (call (.ref 86) [.int n t, .str (Str.ofString "text") ta]) Q E s := by
  w_top off
  k_with_none
  k_with "compareOp In str ref" => (k_here; first | (refine in16 (by assumption) (by assumption) _ true _ (by decide +kernel) ?_) | (refine in16 (by assumption) (by assumption) _ false _ (by decide +kernel) ?_))
  k_with "call ref" => (k_here; k_dflt ((show wpAny _ _ (call (Value.ref 93) [Value.none]) _ _ _); refine' spec_asint_none   (by k_asm) (by k_asm) (by k_asm) (by k_asm) (by k_asm) (by first | exact rfl | assumption) (by ktr_room) (by ktr_units) ?_); intro  h9 tk9 F9 N9; (try k_sweep); (try dsimp only))
  k_with "call ref" => (k_here; k_dflt ((show wpAny _ _ (call (Value.ref 93) [Value.str _ _]) _ _ _); refine' spec_asint_str _ _ (by assumption) (by k_asm) (by k_asm) (by k_asm) (by k_asm) (by k_asm) (by first | exact rfl | assumption) (by ktr_room) (by ktr_units) ?_); intro t9 h9 tk9 F9 N9; (try k_sweep); (try dsimp only))
  k_with "call ref" => (k_here; k_dflt ((show wpAny _ _ (call (Value.ref 93) [Value.bytes _ _]) _ _ _); refine' spec_asint_bytes _ _ _ (by assumption) (by assumption) (by assumption) (by k_asm) (by k_asm) (by k_asm) (by k_asm) (by k_asm) (by first | exact rfl | assumption) (by ktr_room) (by ktr_units) ?_); intro t9 h9 tk9 F9 N9; (try k_sweep); (try dsimp only))
  k_with "call ref" => (k_here; k_dflt ((show wpAny _ _ (call (Value.ref 79) [Value.str _ _]) _ _ _); refine' spec_whole _ _ (by assumption) (by k_asm) (by k_asm) (by k_asm) (by k_asm) (by k_asm) (by first | exact rfl | assumption) (by ktr_room) (by ktr_units) ?_ ?_); rotate_left; (focus (intro n9 t9 h9 tk9 hs9 F9 N9; (try k_sweep); (try dsimp only))); rotate_right; (focus (intro hs9 h9 tk9 F9 N9; (try k_sweep); (try dsimp only))))
  refine wpAny_call ?_
  k_dflt cell_enter
  k_steps
  all_goals first | exact q_of (ret t _ _ (by assumption) (by assumption)) (by rw [(by assumption : wh (C x) = none)]) | exact q_of (ret _ _ _ (by assumption) (by assumption)) (by rw [(by assumption : wh (C x) = _)]) | exact q_bool (ret _ _ (by assumption) (by assumption)) (by rw [bne_dec]) | exact ret _ _ (by assumption) (by assumption) | exact ret _ _ _ (by assumption) (by assumption) | exact ret _ (by assumption) (by assumption)
theorem spec_aff_blob_str {prog : Program} {w : World} {p : Program} {loose : List Str} {mean : ExcName → Option Value} {mg mb : Str → Option Value}
    {dp un : Nat} {gd : Option (List Code)} {cn : Str} {cs : Scope} {a : Addr} {ccd : Value} {cl : List (Str × Addr)} {outer : List Env} {A₀ : Around} {base h₀ : Heap} {L : Addr} {m : Str → Option Value} {news : List (Addr × Obj)} {s : Shared} {Q E : Value → Shared → Prop} (x : Str) (t : Tok) (ta : Tok)
    (B : Below A₀ base outer h₀) (F : Fr h₀ L s.heap m) (X : Frag.In (hdG.heap_39 w.params) h₀) (N : News h₀ L s.heap news) (T : Top p loose mean mg mb h₀) (hk : cs.kind = .function) (hdp : dp + 1 < recursionLimit) (hun : un + 8 < cLine)
    (ret : ∀ h' tk', Fr h₀ L h' m → News h₀ L h' news → Q (.str x t) { s with heap := h', toks := tk' }) :
    wpAny (model prog w) (ktrTop dp un gd cn cs L a ccd cl outer) (call (.ref 86) [.str x t, .str (Str.ofString "blob") ta]) Q E s := by
  w_top off
  k_with_none
  k_with "compareOp In str ref" => (k_here; first | (refine in16 (by assumption) (by assumption) _ true _ (by decide +kernel) ?_) | (refine in16 (by assumption) (by assumption) _ false _ (by decide +kernel) ?_))
  k_with "call ref" => (k_here; k_dflt ((show wpAny _ _ (call (Value.ref 93) [Value.none]) _ _ _); refine' spec_asint_none   (by k_asm) (by k_asm) (by k_asm) (by k_asm) (by k_asm) (by first | exact rfl | assumption) (by ktr_room) (by ktr_units) ?_); intro  h9 tk9 F9 N9; (try k_sweep); (try dsimp only))
  k_with "call ref" => (k_here; k_dflt ((show wpAny _ _ (call (Value.ref 93) [Value.str _ _]) _ _ _); refine' spec_asint_str _ _ (by assumption) (by k_asm) (by k_asm) (by k_asm) (by k_asm) (by k_asm) (by first | exact rfl | assumption) (by ktr_room) (by ktr_units) ?_); intro t9 h9 tk9 F9 N9; (try k_sweep); (try dsimp only))
  k_with "call ref" => (k_here; k_dflt ((show wpAny _ _ (call (Value.ref 93) [Value.bytes _ _]) _ _ _); refine' spec_asint_bytes _ _ _ (by assumption) (by assumption) (by assumption) (by k_asm) (by k_asm) (by k_asm) (by k_asm) (by k_asm) (by first | exact rfl | assumption) (by ktr_room) (by ktr_units) ?_); intro t9 h9 tk9 F9 N9; (try k_sweep); (try dsimp only))
  k_with "call ref" => (k_here; k_dflt ((show wpAny _ _ (call (Value.ref 79) [Value.str _ _]) _ _ _); refine' spec_whole _ _ (by assumption) (by k_asm) (by k_asm) (by k_asm) (by k_asm) (by k_asm) (by first | exact rfl | assumption) (by ktr_room) (by ktr_units) ?_ ?_); rotate_left; (focus (intro n9 t9 h9 tk9 hs9 F9 N9; (try k_sweep); (try dsimp only))); rotate_right; (focus (intro hs9 h9 tk9 F9 N9; (try k_sweep); (try dsimp only))))
  refine wpAny_call ?_
  k_dflt cell_enter
  k_steps
  all_goals first | exact q_of (ret t _ _ (by assumption) (by assumption)) (by rw [(by assumption : wh (C x) = none)]) | exact q_of (ret _ _ _ (by assumption) (by assumption)) (by rw [(by assumption : wh (C x) = _)]) | exact q_bool (ret _ _ (by assumption) (by assumption)) (by rw [bne_dec]) | exact ret _ _ (by assumption) (by assumption) | exact ret _ _ _ (by assumption) (by assumption) | exact ret _ (by assumption) (by assumption)
theorem spec_aff_blob_int {prog : Program} {w : World} {p : Program} {loose : List Str} {mean : ExcName → Option Value} {mg mb : Str → Option Value}
    {dp un : Nat} {gd : Option (List Code)} {cn : Str} {cs : Scope} {a : Addr} {ccd : Value} {cl : List (Str × Addr)} {outer : List Env} {A₀ : Around} {base h₀ : Heap} {L : Addr} {m : Str → Option Value} {news : List (Addr × Obj)} {s : Shared} {Q E : Value → Shared → Prop} (n : Int) (t : Tok) (hn0 : -9223372036854775808 ≤ n) (hn1 : n ≤ 9223372036854775807)(ta : Tok)
    (B : Below A₀ base outer h₀) (F : Fr h₀ L s.heap m) (X : Frag.In (hdG.heap_39 w.params) h₀) (N : News h₀ L s.heap news) (T : Top p loose mean mg mb h₀) (hk : cs.kind = .function) (hdp : dp + 1 < recursionLimit) (hun : un + 8 < cLine)
    (ret : ∀ h' tk', Fr h₀ L h' m → News h₀ L h' news → Q (.int n t) { s with heap := h', toks := tk' }) :
    wpAny (model prog w) (ktrTop dp un gd cn cs L a ccd cl outer) (call (.ref 86) [.int n t, .str (Str.ofString "blob") ta]) Q E s := by
  w_top off
  k_with_none
  k_with "compareOp In str ref" => (k_here; first | (refine in16 (by assumption) (by assumption) _ true _ (by decide +kernel) ?_) | (refine in16 (by assumption) (by assumption) _ false _ (by decide +kernel) ?_))
  k_with "call ref" => (k_here; k_dflt ((show wpAny _ _ (call (Value.ref 93) [Value.none]) _ _ _); refine' spec_asint_none   (by k_asm) (by k_asm) (by k_asm) (by k_asm) (by k_asm) (by first | exact rfl | assumption) (by ktr_room) (by ktr_units) ?_); intro  h9 tk9 F9 N9; (try k_sweep); (try dsimp only))
  k_with "call ref" => (k_here; k_dflt ((show wpAny _ _ (call (Value.ref 93) [Value.str _ _]) _ _ _); refine' spec_asint_str _ _ (by assumption) (by k_asm) (by k_asm) (by k_asm) (by k_asm) (by k_asm) (by first | exact rfl | assumption) (by ktr_room) (by ktr_units) ?_); intro t9 h9 tk9 F9 N9; (try k_sweep); (try dsimp only))
  k_with "call ref" => (k_here; k_dflt ((show wpAny _ _ (call (Value.ref 93) [Value.bytes _ _]) _ _ _); refine' spec_asint_bytes _ _ _ (by assumption) (by assumption) (by assumption) (by k_asm) (by k_asm) (by k_asm) (by k_asm) (by k_asm) (by first | exact rfl | assumption) (by ktr_room) (by ktr_units) ?_); intro t9 h9 tk9 F9 N9; (try k_sweep); (try dsimp only))
  k_with "call ref" => (k_here; k_dflt ((show wpAny _ _ (call (Value.ref 79) [Value.str _ _]) _ _ _); refine' spec_whole _ _ (by assumption) (by k_asm) (by k_asm) (by k_asm) (by k_asm) (by k_asm) (by first | exact rfl | assumption) (by ktr_room) (by ktr_units) ?_ ?_); rotate_left; (focus (intro n9 t9 h9 tk9 hs9 F9 N9; (try k_sweep); (try dsimp only))); rotate_right; (focus (intro hs9 h9 tk9 F9 N9; (try k_sweep); (try dsimp only))))
  refine wpAny_call ?_
  k_dflt cell_enter
  k_steps
  all_goals first | exact q_of (ret t _ _ (by assumption) (by assumption)) (by rw [(by assumption : wh (C x) = none)]) | exact q_of (ret _ _ _ (by assumption) (by assumption)) (by rw [(by assumption : wh (C x) = _)]) | exact q_bool (ret _ _ (by assumption) (by assumption)) (by rw [bne_dec]) | exact ret _ _ (by assumption) (by assumption) | exact ret _ _ _ (by assumption) (by assumption) | exact ret _ (by assumption) (by assumption)
end Mine
end PartQ10
section PartQ11
open PySem PySem.W PyProof.Rows
namespace Mine
theorem spec_astext_str {prog : Program} {w : World} {p : Program} {loose : List Str} {mean : ExcName → Option Value} {mg mb : Str → Option Value}
    {dp un : Nat} {gd : Option (List Code)} {cn : Str} {cs : Scope} {a : Addr} {ccd : Value} {cl : List (Str × Addr)} {outer : List Env} {A₀ : Around} {base h₀ : Heap} {L : Addr} {m : Str → Option Value} {news : List (Addr × Obj)} {s : Shared} {Q E : Value → Shared → Prop} (x : Str) (t : Tok)
    (B : Below A₀ base outer h₀) (F : Fr h₀ L s.heap m) (X : Frag.In (hdG.heap_39 w.params) h₀) (N : News h₀ L s.heap news) (T : Top p loose mean mg mb h₀) (hk : cs.kind = .function) (hdp : dp + 1 < recursionLimit) (hun : un + 8 < cLine)
    (ret : ∀ h' tk', Fr h₀ L h' m → News h₀ L h' news → Q (.str x t) { s with heap := h', toks := tk' }) :
    wpAny (model prog w) (ktrTop dp un gd cn cs L a ccd cl outer) (call (.ref 100) [.str x t]) Q E s := by
  w_top off
  k_with_none
  k_with "call ref" => (k_here; k_dflt ((show wpAny _ _ (call (Value.ref 37) [Value.bytes _ _]) _ _ _); refine' spec_textof _ _ _ (by assumption) (by assumption) (by assumption) (by k_asm) (by k_asm) (by k_asm) (by k_asm) (by k_asm) (by first | exact rfl | assumption) (by ktr_room) (by ktr_units) ?_); intro t9 h9 tk9 F9 N9; (try k_sweep); (try dsimp only))
  k_with "call ref" => (k_here; k_dflt ((show wpAny _ _ (call (Value.ref 93) [Value.str _ _]) _ _ _); refine' spec_asint_str _ _ (by assumption) (by k_asm) (by k_asm) (by k_asm) (by k_asm) (by k_asm) (by first | exact rfl | assumption) (by ktr_room) (by ktr_units) ?_); intro t9 h9 tk9 F9 N9; (try k_sweep); (try dsimp only))
  k_with "call ref" => (k_here; k_dflt ((show wpAny _ _ (call (Value.ref 93) [Value.bytes _ _]) _ _ _); refine' spec_asint_bytes _ _ _ (by assumption) (by assumption) (by assumption) (by k_asm) (by k_asm) (by k_asm) (by k_asm) (by k_asm) (by first | exact rfl | assumption) (by ktr_room) (by ktr_units) ?_); intro t9 h9 tk9 F9 N9; (try k_sweep); (try dsimp only))
  refine wpAny_call ?_
  k_dflt cell_enter
  k_steps
  all_goals first | exact ret _ _ (by assumption) (by assumption) | exact ret _ _ _ (by assumption) (by assumption)
theorem spec_astext_bytes {prog : Program} {w : World} {p : Program} {loose : List Str} {mean : ExcName → Option Value} {mg mb : Str → Option Value}
    {dp un : Nat} {gd : Option (List Code)} {cn : Str} {cs : Scope} {a : Addr} {ccd : Value} {cl : List (Str × Addr)} {outer : List Env} {A₀ : Around} {base h₀ : Heap} {L : Addr} {m : Str → Option Value} {news : List (Addr × Obj)} {s : Shared} {Q E : Value → Shared → Prop} (x : Str) (arr : Array UInt8) (tb : Tok) (hx : x.length ≤ 1000) (hc : ∀ c ∈ C x, c < 2048) (ha : arr = encL (C x))
    (B : Below A₀ base outer h₀) (F : Fr h₀ L s.heap m) (X : Frag.In (hdG.heap_39 w.params) h₀) (N : News h₀ L s.heap news) (T : Top p loose mean mg mb h₀) (hk : cs.kind = .function) (hdp : dp + 3 < recursionLimit) (hun : un + 24 < cLine)
    (ret : ∀ t' h' tk', Fr h₀ L h' m → News h₀ L h' news → Q (.str x t') { s with heap := h', toks := tk' }) :
    wpAny (model prog w) (ktrTop dp un gd cn cs L a ccd cl outer) (call (.ref 100) [.bytes arr tb]) Q E s := by
  w_top off
  k_with_none
  k_with "call ref" => (k_here; k_dflt ((show wpAny _ _ (call (Value.ref 37) [Value.bytes _ _]) _ _ _); refine' spec_textof _ _ _ (by assumption) (by assumption) (by assumption) (by k_asm) (by k_asm) (by k_asm) (by k_asm) (by k_asm) (by first | exact rfl | assumption) (by ktr_room) (by ktr_units) ?_); intro t9 h9 tk9 F9 N9; (try k_sweep); (try dsimp only))
  k_with "call ref" => (k_here; k_dflt ((show wpAny _ _ (call (Value.ref 93) [Value.str _ _]) _ _ _); refine' spec_asint_str _ _ (by assumption) (by k_asm) (by k_asm) (by k_asm) (by k_asm) (by k_asm) (by first | exact rfl | assumption) (by ktr_room) (by ktr_units) ?_); intro t9 h9 tk9 F9 N9; (try k_sweep); (try dsimp only))
  k_with "call ref" => (k_here; k_dflt ((show wpAny _ _ (call (Value.ref 93) [Value.bytes _ _]) _ _ _); refine' spec_asint_bytes _ _ _ (by assumption) (by assumption) (by assumption) (by k_asm) (by k_asm) (by k_asm) (by k_asm) (by k_asm) (by first | exact rfl | assumption) (by ktr_room) (by ktr_units) ?_); intro t9 h9 tk9 F9 N9; (try k_sweep); (try dsimp only))
  refine wpAny_call ?_
  k_dflt cell_enter
  k_steps
  all_goals first | exact ret _ _ (by assumption) (by assumption) | exact ret _ _ _ (by assumption) (by assumption)
theorem spec_cast_none {prog : Program} {w : World} {p : Program} {loose : List Str} {mean : ExcName → Option Value} {mg mb : Str → Option Value}
    {dp un : Nat} {gd : Option (List Code)} {cn : Str} {cs : Scope} {a : Addr} {ccd : Value} {cl : List (Str × Addr)} {outer : List Env} {A₀ : Around} {base h₀ : Heap} {L : Addr} {m : Str → Option Value} {news : List (Addr × Obj)} {s : Shared} {Q E : Value → Shared → Prop} (af : Str) (ta : Tok)
    (B : Below A₀ base outer h₀) (F : Fr h₀ L s.heap m) (X : Frag.In (hdG.heap_39 w.params) h₀) (N : News h₀ L s.heap news) (T : Top p loose mean mg mb h₀) (hk : cs.kind = .function) (hdp : dp + 1 < recursionLimit) (hun : un + 8 < cLine)
    (ret : ∀ h' tk', Fr h₀ L h' m → News h₀ L h' news → Q (.none) { s with heap := h', toks := tk' }) :
    wpAny (model prog w) (ktrTop dp un gd cn cs L a ccd cl outer) (call (.ref 114) [.none, .str af ta]) Q E s := by
  w_top off
  k_with_none
  k_with "call ref" => (k_here; k_dflt ((show wpAny _ _ (call (Value.ref 37) [Value.bytes _ _]) _ _ _); refine' spec_textof _ _ _ (by assumption) (by assumption) (by assumption) (by k_asm) (by k_asm) (by k_asm) (by k_asm) (by k_asm) (by first | exact rfl | assumption) (by ktr_room) (by ktr_units) ?_); intro t9 h9 tk9 F9 N9; (try k_sweep); (try dsimp only))
  k_with "call ref" => (k_here; k_dflt ((show wpAny _ _ (call (Value.ref 93) [Value.str _ _]) _ _ _); refine' spec_asint_str _ _ (by assumption) (by k_asm) (by k_asm) (by k_asm) (by k_asm) (by k_asm) (by first | exact rfl | assumption) (by ktr_room) (by ktr_units) ?_); intro t9 h9 tk9 F9 N9; (try k_sweep); (try dsimp only))
  k_with "call ref" => (k_here; k_dflt ((show wpAny _ _ (call (Value.ref 93) [Value.bytes _ _]) _ _ _); refine' spec_asint_bytes _ _ _ (by assumption) (by assumption) (by assumption) (by k_asm) (by k_asm) (by k_asm) (by k_asm) (by k_asm) (by first | exact rfl | assumption) (by ktr_room) (by ktr_units) ?_); intro t9 h9 tk9 F9 N9; (try k_sweep); (try dsimp only))
  k_with "call ref" => (k_here; k_dflt ((show wpAny _ _ (call (Value.ref 100) [Value.str _ _]) _ _ _); refine' spec_astext_str _ _  (by k_asm) (by k_asm) (by k_asm) (by k_asm) (by k_asm) (by first | exact rfl | assumption) (by ktr_room) (by ktr_units) ?_); intro  h9 tk9 F9 N9; (try k_sweep); (try dsimp only))
  k_with "call ref" => (k_here; k_dflt ((show wpAny _ _ (call (Value.ref 100) [Value.bytes _ _]) _ _ _); refine' spec_astext_bytes _ _ _ (by assumption) (by assumption) (by assumption) (by k_asm) (by k_asm) (by k_asm) (by k_asm) (by k_asm) (by first | exact rfl | assumption) (by ktr_room) (by ktr_units) ?_); intro t9 h9 tk9 F9 N9; (try k_sweep); (try dsimp only))
  k_with "call ref" => (k_here; k_dflt ((show wpAny _ _ (call (Value.ref 100) [Value.int _ _]) _ _ _); refine' spec_astext_int _ _ (by assumption) (by assumption) (by k_asm) (by k_asm) (by k_asm) (by k_asm) (by k_asm) (by first | exact rfl | assumption) (by ktr_room) (by ktr_units) ?_); intro t9 h9 tk9 F9 N9; (try k_sweep); (try dsimp only))
  refine wpAny_call ?_
  k_dflt cell_enter
  k_steps
  all_goals first | exact ret _ _ (by assumption) (by assumption) | exact ret _ _ _ (by assumption) (by assumption)
theorem spec_cast_num_str {prog : Program} {w : World} {p : Program} {loose : List Str} {mean : ExcName → Option Value} {mg mb : Str → Option Value}
    {dp un : Nat} {gd : Option (List Code)} {cn : Str} {cs : Scope} {a : Addr} {ccd : Value} {cl : List (Str × Addr)} {outer : List Env} {A₀ : Around} {base h₀ : Heap} {L : Addr} {m : Str → Option Value} {news : List (Addr × Obj)} {s : Shared} {Q E : Value → Shared → Prop} (x : Str) (t : Tok) (hx : x.length ≤ 1000) (af : Str) (ta : Tok) (haf : af = Str.ofString "integer" ∨ af = Str.ofString "numeric")
    (B : Below A₀ base outer h₀) (F : Fr h₀ L s.heap m) (X : Frag.In (hdG.heap_39 w.params) h₀) (N : News h₀ L s.heap news) (T : Top p loose mean mg mb h₀) (hk : cs.kind = .function) (hdp : dp + 4 < recursionLimit) (hun : un + 32 < cLine)
    (ret : ∀ t' h' tk', Fr h₀ L h' m → News h₀ L h' news → Q (.int (asI (C x)) t') { s with heap := h', toks := tk' }) :
    wpAny (model prog w) (ktrTop dp un gd cn cs L a ccd cl outer) (call (.ref 114) [.str x t, .str af ta]) Q E s := by
  w_top off
  k_with_none
  k_with "call ref" => (k_here; k_dflt ((show wpAny _ _ (call (Value.ref 37) [Value.bytes _ _]) _ _ _); refine' spec_textof _ _ _ (by assumption) (by assumption) (by assumption) (by k_asm) (by k_asm) (by k_asm) (by k_asm) (by k_asm) (by first | exact rfl | assumption) (by ktr_room) (by ktr_units) ?_); intro t9 h9 tk9 F9 N9; (try k_sweep); (try dsimp only))
  k_with "call ref" => (k_here; k_dflt ((show wpAny _ _ (call (Value.ref 93) [Value.str _ _]) _ _ _); refine' spec_asint_str _ _ (by assumption) (by k_asm) (by k_asm) (by k_asm) (by k_asm) (by k_asm) (by first | exact rfl | assumption) (by ktr_room) (by ktr_units) ?_); intro t9 h9 tk9 F9 N9; (try k_sweep); (try dsimp only))
  k_with "call ref" => (k_here; k_dflt ((show wpAny _ _ (call (Value.ref 93) [Value.bytes _ _]) _ _ _); refine' spec_asint_bytes _ _ _ (by assumption) (by assumption) (by assumption) (by k_asm) (by k_asm) (by k_asm) (by k_asm) (by k_asm) (by first | exact rfl | assumption) (by ktr_room) (by ktr_units) ?_); intro t9 h9 tk9 F9 N9; (try k_sweep); (try dsimp only))
  k_with "call ref" => (k_here; k_dflt ((show wpAny _ _ (call (Value.ref 100) [Value.str _ _]) _ _ _); refine' spec_astext_str _ _  (by k_asm) (by k_asm) (by k_asm) (by k_asm) (by k_asm) (by first | exact rfl | assumption) (by ktr_room) (by ktr_units) ?_); intro  h9 tk9 F9 N9; (try k_sweep); (try dsimp only))
  k_with "call ref" => (k_here; k_dflt ((show wpAny _ _ (call (Value.ref 100) [Value.bytes _ _]) _ _ _); refine' spec_astext_bytes _ _ _ (by assumption) (by assumption) (by assumption) (by k_asm) (by k_asm) (by k_asm) (by k_asm) (by k_asm) (by first | exact rfl | assumption) (by ktr_room) (by ktr_units) ?_); intro t9 h9 tk9 F9 N9; (try k_sweep); (try dsimp only))
  k_with "call ref" => (k_here; k_dflt ((show wpAny _ _ (call (Value.ref 100) [Value.int _ _]) _ _ _); refine' spec_astext_int _ _ (by assumption) (by assumption) (by k_asm) (by k_asm) (by k_asm) (by k_asm) (by k_asm) (by first | exact rfl | assumption) (by ktr_room) (by ktr_units) ?_); intro t9 h9 tk9 F9 N9; (try k_sweep); (try dsimp only))
  rcases haf with rfl | rfl
  all_goals refine wpAny_call ?_
  all_goals k_dflt cell_enter
  k_steps
  all_goals first | exact ret _ _ (by assumption) (by assumption) | exact ret _ _ _ (by assumption) (by assumption)
theorem spec_cast_num_bytes {prog : Program} {w : World} {p : Program} {loose : List Str} {mean : ExcName → Option Value} {mg mb : Str → Option Value}
    {dp un : Nat} {gd : Option (List Code)} {cn : Str} {cs : Scope} {a : Addr} {ccd : Value} {cl : List (Str × Addr)} {outer : List Env} {A₀ : Around} {base h₀ : Heap} {L : Addr} {m : Str → Option Value} {news : List (Addr × Obj)} {s : Shared} {Q E : Value → Shared → Prop} (x : Str) (arr : Array UInt8) (tb : Tok) (hx : x.length ≤ 1000) (hc : ∀ c ∈ C x, c < 2048) (ha : arr = encL (C x)) (af : Str) (ta : Tok) (haf : af = Str.ofString "integer" ∨ af = Str.ofString "numeric")
    (B : Below A₀ base outer h₀) (F : Fr h₀ L s.heap m) (X : Frag.In (hdG.heap_39 w.params) h₀) (N : News h₀ L s.heap news) (T : Top p loose mean mg mb h₀) (hk : cs.kind = .function) (hdp : dp + 4 < recursionLimit) (hun : un + 32 < cLine)
    (ret : ∀ t' h' tk', Fr h₀ L h' m → News h₀ L h' news → Q (.int (asI (C x)) t') { s with heap := h', toks := tk' }) :
    wpAny (model prog w) (ktrTop dp un gd cn cs L a ccd cl outer) (call (.ref 114) [.bytes arr tb, .str af ta]) Q E s := by
  w_top off
  k_with_none
  k_with "call ref" => (k_here; k_dflt ((show wpAny _ _ (call (Value.ref 37) [Value.bytes _ _]) _ _ _); refine' spec_textof _ _ _ (by assumption) (by assumption) (by assumption) (by k_asm) (by k_asm) (by k_asm) (by k_asm) (by k_asm) (by first | exact rfl | assumption) (by ktr_room) (by ktr_units) ?_); intro t9 h9 tk9 F9 N9; (try k_sweep); (try dsimp only))
  k_with "call ref" => (k_here; k_dflt ((show wpAny _ _ (call (Value.ref 93) [Value.str _ _]) _ _ _); refine' spec_asint_str _ _ (by assumption) (by k_asm) (by k_asm) (by k_asm) (by k_asm) (by k_asm) (by first | exact rfl | assumption) (by ktr_room) (by ktr_units) ?_); intro t9 h9 tk9 F9 N9; (try k_sweep); (try dsimp only))
  k_with "call ref" => (k_here; k_dflt ((show wpAny _ _ (call (Value.ref 93) [Value.bytes _ _]) _ _ _); refine' spec_asint_bytes _ _ _ (by assumption) (by assumption) (by assumption) (by k_asm) (by k_asm) (by k_asm) (by k_asm) (by k_asm) (by first | exact rfl | assumption) (by ktr_room) (by ktr_units) ?_); intro t9 h9 tk9 F9 N9; (try k_sweep); (try dsimp only))
  k_with "call ref" => (k_here; k_dflt ((show wpAny _ _ (call (Value.ref 100) [Value.str _ _]) _ _ _); refine' spec_astext_str _ _  (by k_asm) (by k_asm) (by k_asm) (by k_asm) (by k_asm) (by first | exact rfl | assumption) (by ktr_room) (by ktr_units) ?_); intro  h9 tk9 F9 N9; (try k_sweep); (try dsimp only))
  k_with "call ref" => (k_here; k_dflt ((show wpAny _ _ (call (Value.ref 100) [Value.bytes _ _]) _ _ _); refine' spec_astext_bytes _ _ _ (by assumption) (by assumption) (by assumption) (by k_asm) (by k_asm) (by k_asm) (by k_asm) (by k_asm) (by first | exact rfl | assumption) (by ktr_room) (by ktr_units) ?_); intro t9 h9 tk9 F9 N9; (try k_sweep); (try dsimp only))
  k_with "call ref" => (k_here; k_dflt ((show wpAny _ _ (call (Value.ref 100) [Value.int _ _]) _ _ _); refine' spec_astext_int _ _ (by assumption) (by assumption) (by k_asm) (by k_asm) (by k_asm) (by k_asm) (by k_asm) (by first | exact rfl | assumption) (by ktr_room) (by ktr_units) ?_); intro t9 h9 tk9 F9 N9; (try k_sweep); (try dsimp only))
  rcases haf with rfl | rfl
  all_goals refine wpAny_call ?_
  all_goals k_dflt cell_enter
  k_steps
  all_goals first | exact ret _ _ (by assumption) (by assumption) | exact ret _ _ _ (by assumption) (by assumption)
theorem spec_cast_text_str {prog : Program} {w : World} {p : Program} {loose : List Str} {mean : ExcName → Option Value} {mg mb : Str → Option Value}
    {dp un : Nat} {gd : Option (List Code)} {cn : Str} {cs : Scope} {a : Addr} {ccd : Value} {cl : List (Str × Addr)} {outer : List Env} {A₀ : Around} {base h₀ : Heap} {L : Addr} {m : Str → Option Value} {news : List (Addr × Obj)} {s : Shared} {Q E : Value → Shared → Prop} (x : Str) (t : Tok) (ta : Tok)
    (B : Below A₀ base outer h₀) (F : Fr h₀ L s.heap m) (X : Frag.In (hdG.heap_39 w.params) h₀) (N : News h₀ L s.heap news) (T : Top p loose mean mg mb h₀) (hk : cs.kind = .function) (hdp : dp + 2 < recursionLimit) (hun : un + 16 < cLine)
    (ret : ∀ h' tk', Fr h₀ L h' m → News h₀ L h' news → Q (.str x t) { s with heap := h', toks := tk' }) :
    wpAny (model prog w) (ktrTop dp un gd cn cs L a ccd cl outer) (call (.ref 114) [.str x t, .str (Str.ofString "text") ta]) Q E s := by
  w_top off
  k_with_none
  k_with "call ref" => (k_here; k_dflt ((show wpAny _ _ (call (Value.ref 37) [Value.bytes _ _]) _ _ _); refine' spec_textof _ _ _ (by assumption) (by assumption) (by assumption) (by k_asm) (by k_asm) (by k_asm) (by k_asm) (by k_asm) (by first | exact rfl | assumption) (by ktr_room) (by ktr_units) ?_); intro t9 h9 tk9 F9 N9; (try k_sweep); (try dsimp only))
  k_with "call ref" => (k_here; k_dflt ((show wpAny _ _ (call (Value.ref 93) [Value.str _ _]) _ _ _); refine' spec_asint_str _ _ (by assumption) (by k_asm) (by k_asm) (by k_asm) (by k_asm) (by k_asm) (by first | exact rfl | assumption) (by ktr_room) (by ktr_units) ?_); intro t9 h9 tk9 F9 N9; (try k_sweep); (try dsimp only))
  k_with "call ref" => (k_here; k_dflt ((show wpAny _ _ (call (Value.ref 93) [Value.bytes _ _]) _ _ _); refine' spec_asint_bytes _ _ _ (by assumption) (by assumption) (by assumption) (by k_asm) (by k_asm) (by k_asm) (by k_asm) (by k_asm) (by first | exact rfl | assumption) (by ktr_room) (by ktr_units) ?_); intro t9 h9 tk9 F9 N9; (try k_sweep); (try dsimp only))
  k_with "call ref" => (k_here; k_dflt ((show wpAny _ _ (call (Value.ref 100) [Value.str _ _]) _ _ _); refine' spec_astext_str _ _  (by k_asm) (by k_asm) (by k_asm) (by k_asm) (by k_asm) (by first | exact rfl | assumption) (by ktr_room) (by ktr_units) ?_); intro  h9 tk9 F9 N9; (try k_sweep); (try dsimp only))
  k_with "call ref" => (k_here; k_dflt ((show wpAny _ _ (call (Value.ref 100) [Value.bytes _ _]) _ _ _); refine' spec_astext_bytes _ _ _ (by assumption) (by assumption) (by assumption) (by k_asm) (by k_asm) (by k_asm) (by k_asm) (by k_asm) (by first | exact rfl | assumption) (by ktr_room) (by ktr_units) ?_); intro t9 h9 tk9 F9 N9; (try k_sweep); (try dsimp only))
  k_with "call ref" => (k_here; k_dflt ((show wpAny _ _ (call (Value.ref 100) [Value.int _ _]) _ _ _); refine' spec_astext_int _ _ (by assumption) (by assumption) (by k_asm) (by k_asm) (by k_asm) (by k_asm) (by k_asm) (by first | exact rfl | assumption) (by ktr_room) (by ktr_units) ?_); intro t9 h9 tk9 F9 N9; (try k_sweep); (try dsimp only))
  refine wpAny_call ?_
  k_dflt cell_enter
  k_steps
  all_goals first | exact ret _ _ (by assumption) (by assumption) | exact ret _ _ _ (by assumption) (by assumption)
theorem spec_cast_text_bytes {prog : Program} {w : World} {p : Program} {loose : List Str} {mean : ExcName → Option Value} {mg mb : Str → Option Value}
    {dp un : Nat} {gd : Option (List Code)} {cn : Str} {cs : Scope} {a : Addr} {ccd : Value} {cl : List (Str × Addr)} {outer : List Env} {A₀ : Around} {base h₀ : Heap} {L : Addr} {m : Str → Option Value} {news : List (Addr × Obj)} {s : Shared} {Q E : Value → Shared → Prop} (x : Str) (arr : Array UInt8) (tb : Tok) (hx : x.length ≤ 1000) (hc : ∀ c ∈ C x, c < 2048) (ha : arr = encL (C x)) (ta : Tok)
    (B : Below A₀ base outer h₀) (F : Fr h₀ L s.heap m) (X : Frag.In (hdG.heap_39 w.params) h₀) (N : News h₀ L s.heap news) (T : Top p loose mean mg mb h₀) (hk : cs.kind = .function) (hdp : dp + 4 < recursionLimit) (hun : un + 32 < cLine)
    (ret : ∀ t' h' tk', Fr h₀ L h' m → News h₀ L h' news → Q (.str x t') { s with heap := h', toks := tk' }) :
    wpAny (model prog w) (ktrTop dp un gd cn cs L a ccd cl outer) (call (.ref 114) [.bytes arr tb, .str (Str.ofString "text") ta]) Q E s := by
  w_top off
  k_with_none
  k_with "call ref" => (k_here; k_dflt ((show wpAny _ _ (call (Value.ref 37) [Value.bytes _ _]) _ _ _); refine' spec_textof _ _ _ (by assumption) (by assumption) (by assumption) (by k_asm) (by k_asm) (by k_asm) (by k_asm) (by k_asm) (by first | exact rfl | assumption) (by ktr_room) (by ktr_units) ?_); intro t9 h9 tk9 F9 N9; (try k_sweep); (try dsimp only))
  k_with "call ref" => (k_here; k_dflt ((show wpAny _ _ (call (Value.ref 93) [Value.str _ _]) _ _ _); refine' spec_asint_str _ _ (by assumption) (by k_asm) (by k_asm) (by k_asm) (by k_asm) (by k_asm) (by first | exact rfl | assumption) (by ktr_room) (by ktr_units) ?_); intro t9 h9 tk9 F9 N9; (try k_sweep); (try dsimp only))
  k_with "call ref" => (k_here; k_dflt ((show wpAny _ _ (call (Value.ref 93) [Value.bytes _ _]) _ _ _); refine' spec_asint_bytes _ _ _ (by assumption) (by assumption) (by assumption) (by k_asm) (by k_asm) (by k_asm) (by k_asm) (by k_asm) (by first | exact rfl | assumption) (by ktr_room) (by ktr_units) ?_); intro t9 h9 tk9 F9 N9; (try k_sweep); (try dsimp only))
  k_with "call ref" => (k_here; k_dflt ((show wpAny _ _ (call (Value.ref 100) [Value.str _ _]) _ _ _); refine' spec_astext_str _ _  (by k_asm) (by k_asm) (by k_asm) (by k_asm) (by k_asm) (by first | exact rfl | assumption) (by ktr_room) (by ktr_units) ?_); intro  h9 tk9 F9 N9; (try k_sweep); (try dsimp only))
  k_with "call ref" => (k_here; k_dflt ((show wpAny _ _ (call (Value.ref 100) [Value.bytes _ _]) _ _ _); refine' spec_astext_bytes _ _ _ (by assumption) (by assumption) (by assumption) (by k_asm) (by k_asm) (by k_asm) (by k_asm) (by k_asm) (by first | exact rfl | assumption) (by ktr_room) (by ktr_units) ?_); intro t9 h9 tk9 F9 N9; (try k_sweep); (try dsimp only))
  k_with "call ref" => (k_here; k_dflt ((show wpAny _ _ (call (Value.ref 100) [Value.int _ _]) _ _ _); refine' spec_astext_int _ _ (by assumption) (by assumption) (by k_asm) (by k_asm) (by k_asm) (by k_asm) (by k_asm) (by first | exact rfl | assumption) (by ktr_room) (by ktr_units) ?_); intro t9 h9 tk9 F9 N9; (try k_sweep); (try dsimp only))
  refine wpAny_call ?_
  k_dflt cell_enter
  k_steps
  all_goals first | exact ret _ _ (by assumption) (by assumption) | exact ret _ _ _ (by assumption) (by assumption)
theorem spec_cast_text_int {prog : Program} {w : World} {p : Program} {loose : List Str} {mean : ExcName → Option Value} {mg mb : Str → Option Value}
    {dp un : Nat} {gd : Option (List Code)} {cn : Str} {cs : Scope} {a : Addr} {ccd : Value} {cl : List (Str × Addr)} {outer : List Env} {A₀ : Around} {base h₀ : Heap} {L : Addr} {m : Str → Option Value} {news : List (Addr × Obj)} {s : Shared} {Q E : Value → Shared → Prop} (n : Int) (t : Tok) (hn0 : -9223372036854775808 ≤ n) (hn1 : n ≤ 9223372036854775807) (ta : Tok)
    (B : Below A₀ base outer h₀) (F : Fr h₀ L s.heap m) (X : Frag.In (hdG.heap_39 w.params) h₀) (N : News h₀ L s.heap news) (T : Top p loose mean mg mb h₀) (hk : cs.kind = .function) (hdp : dp + 2 < recursionLimit) (hun : un + 16 < cLine)
    (ret : ∀ t' h' tk', Fr h₀ L h' m → News h₀ L h' news → Q (.str (Str.ofString (toString n)) t') { s with heap := h', toks := tk' }) :
    wpAny (model prog w) (ktrTop dp un gd cn cs L a ccd cl outer) (call (.ref 114) [.int n t, .str (Str.ofString "text") ta]) Q E s := by
  w_top off
  k_with_none
  k_with "call ref" => (k_here; k_dflt ((show wpAny _ _ (call (Value.ref 37) [Value.bytes _ _]) _ _ _); refine' spec_textof _ _ _ (by assumption) (by assumption) (by assumption) (by k_asm) (by k_asm) (by k_asm) (by k_asm) (by k_asm) (by first | exact rfl | assumption) (by ktr_room) (by ktr_units) ?_); intro t9 h9 tk9 F9 N9; (try k_sweep); (try dsimp only))
  k_with "call ref" => (k_here; k_dflt ((show wpAny _ _ (call (Value.ref 93) [Value.str _ _]) _ _ _); refine' spec_asint_str _ _ (by assumption) (by k_asm) (by k_asm) (by k_asm) (by k_asm) (by k_asm) (by first | exact rfl | assumption) (by ktr_room) (by ktr_units) ?_); intro t9 h9 tk9 F9 N9; (try k_sweep); (try dsimp only))
  k_with "call ref" => (k_here; k_dflt ((show wpAny _ _ (call (Value.ref 93) [Value.bytes _ _]) _ _ _); refine' spec_asint_bytes _ _ _ (by assumption) (by assumption) (by assumption) (by k_asm) (by k_asm) (by k_asm) (by k_asm) (by k_asm) (by first | exact rfl | assumption) (by ktr_room) (by ktr_units) ?_); intro t9 h9 tk9 F9 N9; (try k_sweep); (try dsimp only))
  k_with "call ref" => (k_here; k_dflt ((show wpAny _ _ (call (Value.ref 100) [Value.str _ _]) _ _ _); refine' spec_astext_str _ _  (by k_asm) (by k_asm) (by k_asm) (by k_asm) (by k_asm) (by first | exact rfl | assumption) (by ktr_room) (by ktr_units) ?_); intro  h9 tk9 F9 N9; (try k_sweep); (try dsimp only))
  k_with "call ref" => (k_here; k_dflt ((show wpAny _ _ (call (Value.ref 100) [Value.bytes _ _]) _ _ _); refine' spec_astext_bytes _ _ _ (by assumption) (by assumption) (by assumption) (by k_asm) (by k_asm) (by k_asm) (by k_asm) (by k_asm) (by first | exact rfl | assumption) (by ktr_room) (by ktr_units) ?_); intro t9 h9 tk9 F9 N9; (try k_sweep); (try dsimp only))
  k_with "call ref" => (k_here; k_dflt ((show wpAny _ _ (call (Value.ref 100) [Value.int _ _]) _ _ _); refine' spec_astext_int _ _ (by assumption) (by assumption) (by k_asm) (by k_asm) (by k_asm) (by k_asm) (by k_asm) (by first | exact rfl | assumption) (by ktr_room) (by ktr_units) ?_); intro t9 h9 tk9 F9 N9; (try k_sweep); (try dsimp only))
  refine wpAny_call ?_
  k_dflt cell_enter
  k_steps
  all_goals first | exact ret _ _ (by assumption) (by assumption) | exact ret _ _ _ (by assumption) (by assumption)
theorem spec_asblob_bytes {prog : Program} {w : World} {p : Program} {loose : List Str} {mean : ExcName → Option Value} {mg mb : Str → Option Value}
    {dp un : Nat} {gd : Option (List Code)} {cn : Str} {cs : Scope} {a : Addr} {ccd : Value} {cl : List (Str × Addr)} {outer : List Env} {A₀ : Around} {base h₀ : Heap} {L : Addr} {m : Str → Option Value} {news : List (Addr × Obj)} {s : Shared} {Q E : Value → Shared → Prop} (arr : Array UInt8) (tb : Tok)
    (B : Below A₀ base outer h₀) (F : Fr h₀ L s.heap m) (X : Frag.In (hdG.heap_39 w.params) h₀) (N : News h₀ L s.heap news) (T : Top p loose mean mg mb h₀) (hk : cs.kind = .function) (hdp : dp + 1 < recursionLimit) (hun : un + 8 < cLine)
    (ret : ∀ h' tk', Fr h₀ L h' m → News h₀ L h' news → Q (.bytes arr tb) { s with heap := h', toks := tk' }) :
    wpAny (model prog w) (ktrTop dp un gd cn cs L a ccd cl outer) (call (.ref 107) [.bytes arr tb]) Q E s := by
  w_top off
  k_with_none
  k_with "call ref" => (k_here; k_dflt ((show wpAny _ _ (call (Value.ref 37) [Value.bytes _ _]) _ _ _); refine' spec_textof _ _ _ (by assumption) (by assumption) (by assumption) (by k_asm) (by k_asm) (by k_asm) (by k_asm) (by k_asm) (by first | exact rfl | assumption) (by ktr_room) (by ktr_units) ?_); intro t9 h9 tk9 F9 N9; (try k_sweep); (try dsimp only))
  k_with "call ref" => (k_here; k_dflt ((show wpAny _ _ (call (Value.ref 93) [Value.str _ _]) _ _ _); refine' spec_asint_str _ _ (by assumption) (by k_asm) (by k_asm) (by k_asm) (by k_asm) (by k_asm) (by first | exact rfl | assumption) (by ktr_room) (by ktr_units) ?_); intro t9 h9 tk9 F9 N9; (try k_sweep); (try dsimp only))
  k_with "call ref" => (k_here; k_dflt ((show wpAny _ _ (call (Value.ref 93) [Value.bytes _ _]) _ _ _); refine' spec_asint_bytes _ _ _ (by assumption) (by assumption) (by assumption) (by k_asm) (by k_asm) (by k_asm) (by k_asm) (by k_asm) (by first | exact rfl | assumption) (by ktr_room) (by ktr_units) ?_); intro t9 h9 tk9 F9 N9; (try k_sweep); (try dsimp only))
  k_with "call ref" => (k_here; k_dflt ((show wpAny _ _ (call (Value.ref 100) [Value.str _ _]) _ _ _); refine' spec_astext_str _ _  (by k_asm) (by k_asm) (by k_asm) (by k_asm) (by k_asm) (by first | exact rfl | assumption) (by ktr_room) (by ktr_units) ?_); intro  h9 tk9 F9 N9; (try k_sweep); (try dsimp only))
  k_with "call ref" => (k_here; k_dflt ((show wpAny _ _ (call (Value.ref 100) [Value.bytes _ _]) _ _ _); refine' spec_astext_bytes _ _ _ (by assumption) (by assumption) (by assumption) (by k_asm) (by k_asm) (by k_asm) (by k_asm) (by k_asm) (by first | exact rfl | assumption) (by ktr_room) (by ktr_units) ?_); intro t9 h9 tk9 F9 N9; (try k_sweep); (try dsimp only))
  k_with "call ref" => (k_here; k_dflt ((show wpAny _ _ (call (Value.ref 100) [Value.int _ _]) _ _ _); refine' spec_astext_int _ _ (by assumption) (by assumption) (by k_asm) (by k_asm) (by k_asm) (by k_asm) (by k_asm) (by first | exact rfl | assumption) (by ktr_room) (by ktr_units) ?_); intro t9 h9 tk9 F9 N9; (try k_sweep); (try dsimp only))
  refine wpAny_call ?_
  k_dflt cell_enter
  k_steps
  all_goals first | exact ret _ _ (by assumption) (by assumption) | exact ret _ _ _ (by assumption) (by assumption)
theorem spec_cast_blob_bytes {prog : Program} {w : World} {p : Program} {loose : List Str} {mean : ExcName → Option Value} {mg mb : Str → Option Value}
    {dp un : Nat} {gd : Option (List Code)} {cn : Str} {cs : Scope} {a : Addr} {ccd : Value} {cl : List (Str × Addr)} {outer : List Env} {A₀ : Around} {base h₀ : Heap} {L : Addr} {m : Str → Option Value} {news : List (Addr × Obj)} {s : Shared} {Q E : Value → Shared → Prop} (arr : Array UInt8) (tb : Tok) (ta : Tok)
    (B : Below A₀ base outer h₀) (F : Fr h₀ L s.heap m) (X : Frag.In (hdG.heap_39 w.params) h₀) (N : News h₀ L s.heap news) (T : Top p loose mean mg mb h₀) (hk : cs.kind = .function) (hdp : dp + 2 < recursionLimit) (hun : un + 16 < cLine)
    (ret : ∀ h' tk', Fr h₀ L h' m → News h₀ L h' news → Q (.bytes arr tb) { s with heap := h', toks := tk' }) :
    wpAny (model prog w) (ktrTop dp un gd cn cs L a ccd cl outer) (call (.ref 114) [.bytes arr tb, .str (Str.ofString "blob") ta]) Q E s := by
  w_top off
  k_with_none
  k_with "call ref" => (k_here; k_dflt ((show wpAny _ _ (call (Value.ref 37) [Value.bytes _ _]) _ _ _); refine' spec_textof _ _ _ (by assumption) (by assumption) (by assumption) (by k_asm) (by k_asm) (by k_asm) (by k_asm) (by k_asm) (by first | exact rfl | assumption) (by ktr_room) (by ktr_units) ?_); intro t9 h9 tk9 F9 N9; (try k_sweep); (try dsimp only))
  k_with "call ref" => (k_here; k_dflt ((show wpAny _ _ (call (Value.ref 93) [Value.str _ _]) _ _ _); refine' spec_asint_str _ _ (by assumption) (by k_asm) (by k_asm) (by k_asm) (by k_asm) (by k_asm) (by first | exact rfl | assumption) (by ktr_room) (by ktr_units) ?_); intro t9 h9 tk9 F9 N9; (try k_sweep); (try dsimp only))
  k_with "call ref" => (k_here; k_dflt ((show wpAny _ _ (call (Value.ref 93) [Value.bytes _ _]) _ _ _); refine' spec_asint_bytes _ _ _ (by assumption) (by assumption) (by assumption) (by k_asm) (by k_asm) (by k_asm) (by k_asm) (by k_asm) (by first | exact rfl | assumption) (by ktr_room) (by ktr_units) ?_); intro t9 h9 tk9 F9 N9; (try k_sweep); (try dsimp only))
  k_with "call ref" => (k_here; k_dflt ((show wpAny _ _ (call (Value.ref 100) [Value.str _ _]) _ _ _); refine' spec_astext_str _ _  (by k_asm) (by k_asm) (by k_asm) (by k_asm) (by k_asm) (by first | exact rfl | assumption) (by ktr_room) (by ktr_units) ?_); intro  h9 tk9 F9 N9; (try k_sweep); (try dsimp only))
  k_with "call ref" => (k_here; k_dflt ((show wpAny _ _ (call (Value.ref 100) [Value.bytes _ _]) _ _ _); refine' spec_astext_bytes _ _ _ (by assumption) (by assumption) (by assumption) (by k_asm) (by k_asm) (by k_asm) (by k_asm) (by k_asm) (by first | exact rfl | assumption) (by ktr_room) (by ktr_units) ?_); intro t9 h9 tk9 F9 N9; (try k_sweep); (try dsimp only))
  k_with "call ref" => (k_here; k_dflt ((show wpAny _ _ (call (Value.ref 100) [Value.int _ _]) _ _ _); refine' spec_astext_int _ _ (by assumption) (by assumption) (by k_asm) (by k_asm) (by k_asm) (by k_asm) (by k_asm) (by first | exact rfl | assumption) (by ktr_room) (by ktr_units) ?_); intro t9 h9 tk9 F9 N9; (try k_sweep); (try dsimp only))
  k_with "call ref" => (k_here; k_dflt ((show wpAny _ _ (call (Value.ref 107) [Value.bytes _ _]) _ _ _); refine' spec_asblob_bytes _ _  (by k_asm) (by k_asm) (by k_asm) (by k_asm) (by k_asm) (by first | exact rfl | assumption) (by ktr_room) (by ktr_units) ?_); intro  h9 tk9 F9 N9; (try k_sweep); (try dsimp only))
  refine wpAny_call ?_
  k_dflt cell_enter
  k_steps
  all_goals first | exact ret _ _ (by assumption) (by assumption) | exact ret _ _ _ (by assumption) (by assumption)
end Mine
end PartQ11
section PartQ12
open PySem PySem.W PyProof.Rows
namespace Mine
theorem item_code {x : Str} {z : Int} (h0 : 0 ≤ z) (h1 : z < x.length) : (((Txt.item x z).cps.getD 0 0 : Nat) : Int) = (C x).getD z.toNat 0 := by
  obtain ⟨n, e, h⟩ := item_C h0 h1
  rw [e, ← h]; rfl
theorem any_sp (c : Int) : (([9, 10, 11, 12, 13, 32] : List Int).any fun y => y == c) = isSp c := by
  rw [Bool.eq_iff_iff]
  simp only [isSp, List.any_cons, List.any_nil, Bool.or_eq_true, Bool.and_eq_true, beq_iff_eq, decide_eq_true_eq, Bool.or_false]
  omega
theorem take1 {l : List Int} {k : Nat} {c : Int} (hc : c ≠ 0) : (l.drop k).take 1 = [c] ↔ l.getD k 0 = c := by
  by_cases hk : k < l.length
  · rw [List.drop_eq_getElem_cons hk, List.take_succ_cons, List.take_zero, List.getD_eq_getElem?_getD, List.getElem?_eq_getElem hk]
    simp
  · rw [List.drop_eq_nil_of_le (by omega), List.getD_eq_getElem?_getD, List.getElem?_eq_none (by omega)]
    simp; omega
theorem sl_eq {x : Str} {z : Int} (h0 : 0 ≤ z) {y : Str} {c : Int} (hy : C y = [c]) (hc : c ≠ 0) : (Txt.slice x (some z) (some (z + 1)) == y) = decide ((C x).getD z.toNat 0 = c) := by
  rw [eq_C, slice_ij x h0 (by omega), hy, show (z + 1 - z).toNat = 1 from by omega]
  rw [Bool.eq_iff_iff, decide_eq_true_eq, decide_eq_true_eq]
  exact take1 hc
theorem C_plus : C (Str.ofString "+") = [43] := by decide +kernel
theorem any_sg {x : Str} {z : Int} (h0 : 0 ≤ z) : ([Str.ofString "-", Str.ofString "+"].any fun y => y == Txt.slice x (some z) (some (z + 1))) = isSg ((C x).getD z.toNat 0) := by
  simp only [List.any_cons, List.any_nil, Bool.or_false]
  rw [BEq.comm (a := Str.ofString "-"), BEq.comm (a := Str.ofString "+"), sl_eq h0 C_dash (by decide), sl_eq h0 C_plus (by decide)]
  rw [isSg, Bool.or_comm]
theorem rd_st {x : Str} {z : Int} (h : spE (C x) z.toNat = spE (C x) 0) (h0 : 0 ≤ z) (hl : z < x.length) (ho : isSp ((C x).getD z.toNat 0) = true) : 0 ≤ z + 1 ∧ z + 1 ≤ x.length ∧ spE (C x) (z + 1).toNat = spE (C x) 0 := by
  refine ⟨by omega, by omega, ?_⟩
  rw [← h, show (z + 1).toNat = z.toNat + 1 from by omega]
  exact runE_step (by rw [len_C]; omega) ho
theorem rd_b {x : Str} {z : Int} (hj : false = (decide (z < x.length) && isSp ((C x).getD z.toNat 0))) (h0 : 0 ≤ z) (h : spE (C x) z.toNat = spE (C x) 0) : bE (C x) = z.toNat := by
  rw [bE, ← h]
  by_cases hl : z < x.length
  · rw [decide_eq_true hl, Bool.true_and] at hj
    exact runE_stop (.inl hj.symm)
  · exact runE_stop (.inr (by rw [len_C]; omega))
inductive Mark : Prop
  | mk
def Post (P : Prop) : Prop := P
theorem post {s : Shared} {h' : Heap} {tk' : Nat} {h₀ : Heap} {L : Addr} {m : Str → Option Value} {news : List (Addr × Obj)} {P : Prop} (F : Fr h₀ L h' m) (N : News h₀ L h' news) (p : P) : Post ((∃ h1 tk1, ({ s with heap := h', toks := tk' } : Shared) = { s with heap := h1, toks := tk1 } ∧ Fr h₀ L h1 m ∧ News h₀ L h1 news) ∧ P) := ⟨⟨_, _, rfl, F, N⟩, p⟩
theorem join_t {α : Type} {M : Model} {A : Around} {t : Sem α} {Q : α → Shared → Prop} {E : Value → Shared → Prop} {s : Shared} {h₀ : Heap} {L : Addr} {m : Str → Option Value} {news : List (Addr × Obj)} (P : α → Prop) (F : Fr h₀ L s.heap m) (N : News h₀ L s.heap news)
    (h : Mark → wpAny M A t (fun b s' => Post ((∃ h' tk', s' = { s with heap := h', toks := tk' } ∧ Fr h₀ L h' m ∧ News h₀ L h' news) ∧ P b)) E s)
    (k : ∀ b h' tk', P b → Fr h₀ L h' m → News h₀ L h' news → Q b { s with heap := h', toks := tk' }) : wpAny M A t Q E s :=
  wpAny_mono (h .mk) (fun b s' q => by obtain ⟨⟨h', tk', rfl, F', N'⟩, hp⟩ : _ ∧ _ := q; exact k _ _ _ hp F' N') (fun _ _ h => h)
theorem test1 {x : Str} {z : Int} (h0 : 0 ≤ z) (hl : z < x.length) {b : Bool} (ho : (([9, 10, 11, 12, 13, 32] : List Int).any fun y => y == (((Txt.item x z).cps.getD 0 0 : Nat) : Int)) = b) : b = (decide (z < x.length) && isSp ((C x).getD z.toNat 0)) := by
  rw [item_code h0 hl, any_sp] at ho
  rw [decide_eq_true hl, ho]; rfl
theorem test0 {x : Str} {z : Int} {c : Bool} (hl : ¬ z < x.length) : false = (decide (z < x.length) && c) := by
  rw [decide_eq_false hl]; rfl
theorem test2 {x : Str} {z : Int} (h0 : 0 ≤ z) (hl : z < x.length) (h1 : 48 ≤ (((Txt.item x z).cps.getD 0 0 : Nat) : Int)) (h2 : (((Txt.item x z).cps.getD 0 0 : Nat) : Int) ≤ 57) : true = (decide (z < x.length) && isDg ((C x).getD z.toNat 0)) := by
  rw [item_code h0 hl] at h1 h2
  rw [decide_eq_true hl, isDg, decide_eq_true h1, decide_eq_true h2]; rfl
theorem test3 {x : Str} {z : Int} (h0 : 0 ≤ z) (hl : z < x.length) (h1 : ¬ 48 ≤ (((Txt.item x z).cps.getD 0 0 : Nat) : Int)) : false = (decide (z < x.length) && isDg ((C x).getD z.toNat 0)) := by
  rw [item_code h0 hl] at h1
  rw [decide_eq_true hl, isDg, decide_eq_false h1]; rfl
theorem test4 {x : Str} {z : Int} (h0 : 0 ≤ z) (hl : z < x.length) (h1 : ¬ (((Txt.item x z).cps.getD 0 0 : Nat) : Int) ≤ 57) : false = (decide (z < x.length) && isDg ((C x).getD z.toNat 0)) := by
  rw [item_code h0 hl] at h1
  rw [decide_eq_true hl, isDg, decide_eq_false h1, Bool.and_false]; rfl
theorem testT {x : Str} {z : Int} {c : Bool} (h : true = (decide (z < x.length) && c)) : z < x.length ∧ c = true := by
  rw [eq_comm, Bool.and_eq_true, decide_eq_true_eq] at h; exact h
theorem rd_s1 {x : Str} {z : Int} (h0 : 0 ≤ z) (hb : bE (C x) = z.toNat) (ha : ([Str.ofString "-", Str.ofString "+"].any fun y => y == Txt.slice x (some z) (some (z + 1))) = true) : 0 ≤ z + 1 ∧ z + 1 ≤ x.length ∧ aE (C x) ≤ z + 1 ∧ dgE (C x) (z + 1).toNat = eE (C x) ∧ (0 : Int) = numF 0 (((C x).drop (aE (C x))).take ((z + 1).toNat - aE (C x))) := by
  rw [any_sg h0] at ha
  have e : aE (C x) = z.toNat + 1 := by rw [aE, hb, if_pos ha]
  have hl := aE_le (C x)
  rw [len_C] at hl
  refine ⟨by omega, by omega, by omega, ?_, ?_⟩
  · rw [eE, e, show (z + 1).toNat = z.toNat + 1 from by omega]
  · rw [e, show (z + 1).toNat - (z.toNat + 1) = 0 from by omega]; rfl
theorem rd_s2 {x : Str} {z : Int} (h0 : 0 ≤ z) (h1 : z ≤ x.length) (hb : bE (C x) = z.toNat) (ha : ([Str.ofString "-", Str.ofString "+"].any fun y => y == Txt.slice x (some z) (some (z + 1))) = false) : 0 ≤ z ∧ z ≤ x.length ∧ aE (C x) ≤ z ∧ dgE (C x) z.toNat = eE (C x) ∧ (0 : Int) = numF 0 (((C x).drop (aE (C x))).take (z.toNat - aE (C x))) := by
  rw [any_sg h0] at ha
  have e : aE (C x) = z.toNat := by rw [aE, hb, ha]; rfl
  refine ⟨by omega, by omega, by omega, ?_, ?_⟩
  · rw [eE, e]
  · rw [e, Nat.sub_self]; rfl
theorem rd_st2 {x : Str} {z w : Int} (h0 : 0 ≤ z) (ha : aE (C x) ≤ z) (hd : dgE (C x) z.toNat = eE (C x)) (hw : w = numF 0 (((C x).drop (aE (C x))).take (z.toNat - aE (C x)))) (hl : z < x.length) (hdg : isDg ((C x).getD z.toNat 0) = true) :
    0 ≤ z + 1 ∧ z + 1 ≤ x.length ∧ aE (C x) ≤ z + 1 ∧ dgE (C x) (z + 1).toNat = eE (C x) ∧ 10 * w + (((Txt.item x z).cps.getD 0 0 : Nat) : Int) - 48 = numF 0 (((C x).drop (aE (C x))).take ((z + 1).toNat - aE (C x))) := by
  have hk : z.toNat < (C x).length := by rw [len_C]; omega
  rw [item_code h0 hl]
  refine ⟨by omega, by omega, by omega, ?_, ?_⟩
  · rw [← hd, show (z + 1).toNat = z.toNat + 1 from by omega]
    exact runE_step hk hdg
  · rw [show (z + 1).toNat - aE (C x) = (z.toNat - aE (C x)) + 1 from by omega, List.take_add_one, List.getElem?_drop, show aE (C x) + (z.toNat - aE (C x)) = z.toNat from by omega, List.getElem?_eq_getElem hk]
    have e : (C x).getD z.toNat 0 = (C x)[z.toNat] := by rw [List.getD_eq_getElem?_getD, List.getElem?_eq_getElem hk]; rfl
    show _ = numF 0 (_ ++ [(C x)[z.toNat]])
    rw [numF_snoc, ← e, if_pos hdg, ← hw]
    omega
theorem rd_e {x : Str} {z : Int} (hj : false = (decide (z < x.length) && isDg ((C x).getD z.toNat 0))) (h0 : 0 ≤ z) (hd : dgE (C x) z.toNat = eE (C x)) : z = eE (C x) := by
  rw [← hd]
  have : dgE (C x) z.toNat = z.toNat := by
    by_cases hl : z < x.length
    · rw [decide_eq_true hl, Bool.true_and] at hj
      exact runE_stop (.inl hj.symm)
    · exact runE_stop (.inr (by rw [len_C]; omega))
  omega
theorem valL_eq (l : List Int) (h : eE l ≠ aE l) : valL l = if l.getD (bE l) 0 = 45 then - numF 0 ((l.drop (aE l)).take (eE l - aE l)) else numF 0 ((l.drop (aE l)).take (eE l - aE l)) := by
  have h1 := aE_ge l
  have h2 := eE_ge l
  have h3 := eE_le l
  have hb : bE l < l.length := by omega
  have e : l.getD (bE l) 0 = l[bE l] := by rw [List.getD_eq_getElem?_getD, List.getElem?_eq_getElem hb]; rfl
  rw [valL, numV]
  have hh : ((l.drop (bE l)).take (eE l - bE l)) = l[bE l] :: (l.drop (bE l + 1)).take (eE l - bE l - 1) := by
    rw [List.drop_eq_getElem_cons hb]
    have : eE l - bE l = (eE l - bE l - 1) + 1 := by omega
    rw [this, List.take_succ_cons, Nat.add_sub_cancel]
  by_cases hs : isSg (l.getD (bE l) 0) = true
  · have ea : aE l = bE l + 1 := by rw [aE, if_pos hs]
    have hnd : isDg l[bE l] = false := by
      rw [e] at hs
      simp only [isSg, Bool.or_eq_true, decide_eq_true_eq] at hs
      rcases hs with h | h <;> (rw [h]; decide)
    have hn : numF 0 ((l.drop (bE l)).take (eE l - bE l)) = numF 0 ((l.drop (aE l)).take (eE l - aE l)) := by
      rw [hh, ea, show eE l - bE l - 1 = eE l - (bE l + 1) from by omega]
      simp only [numF, List.foldl_cons, hnd]
      rfl
    rw [hn, hh, List.head?_cons, e]
    simp only [Option.some.injEq]
  · have ea : aE l = bE l := by rw [aE, if_neg hs]
    have hn : l.getD (bE l) 0 ≠ 45 := by
      intro h; rw [h] at hs; exact hs (by decide)
    rw [if_neg hn, ea, if_neg]
    rw [hh, List.head?_cons, ← e]
    simpa using hn
theorem rd_v1 {x : Str} {z y w : Int} (h0 : 0 ≤ z) (hb : bE (C x) = z.toNat) (hs : (Txt.slice x (some z) (some (z + 1)) == Str.ofString "-") = true) (hy : y = eE (C x)) (hn : eE (C x) ≠ aE (C x))
    (hw : w = numF 0 (((C x).drop (aE (C x))).take (y.toNat - aE (C x)))) : -w = valL (C x) := by
  rw [sl_eq h0 C_dash (by decide), decide_eq_true_eq] at hs
  rw [valL_eq _ hn, hb, if_pos hs, hw, hy]; rfl
theorem rd_v2 {x : Str} {z y w : Int} (h0 : 0 ≤ z) (hb : bE (C x) = z.toNat) (hs : (Txt.slice x (some z) (some (z + 1)) == Str.ofString "-") = false) (hy : y = eE (C x)) (hn : eE (C x) ≠ aE (C x))
    (hw : w = numF 0 (((C x).drop (aE (C x))).take (y.toNat - aE (C x)))) : w = valL (C x) := by
  rw [sl_eq h0 C_dash (by decide), decide_eq_false_iff_not] at hs
  rw [valL_eq _ hn, hb, if_neg hs, hw, hy]; rfl
theorem rd_f1 {x : Str} {z : Int} (h0 : 0 ≤ z) (hb : bE (C x) = z.toNat) (ha : ([Str.ofString "-", Str.ofString "+"].any fun y => y == Txt.slice x (some z) (some (z + 1))) = true) : aE (C x) = (z + 1).toNat := by
  rw [any_sg h0] at ha
  rw [aE, hb, if_pos ha]; omega
theorem rd_f2 {x : Str} {z : Int} (h0 : 0 ≤ z) (hb : bE (C x) = z.toNat) (ha : ([Str.ofString "-", Str.ofString "+"].any fun y => y == Txt.slice x (some z) (some (z + 1))) = false) : aE (C x) = z.toNat := by
  rw [any_sg h0] at ha
  rw [aE, hb, ha]; rfl
theorem join1 {M : Model} {A : Around} {t : Sem Bool} {Q : Bool → Shared → Prop} {E : Value → Shared → Prop} {s : Shared} {h₀ : Heap} {L : Addr} {m : Str → Option Value} {news : List (Addr × Obj)} {x : Str} {z : Int} (hz : spE (C x) z.toNat = spE (C x) 0) (F : Fr h₀ L s.heap m) (N : News h₀ L s.heap news)
    (h : Mark → wpAny M A t (fun b s' => Post ((∃ h' tk', s' = { s with heap := h', toks := tk' } ∧ Fr h₀ L h' m ∧ News h₀ L h' news) ∧ b = (decide (z < x.length) && isSp ((C x).getD z.toNat 0)))) E s)
    (k1 : ∀ h' tk', z < x.length → isSp ((C x).getD z.toNat 0) = true → Fr h₀ L h' m → News h₀ L h' news → Q true { s with heap := h', toks := tk' })
    (k2 : ∀ h' tk', false = (decide (z < x.length) && isSp ((C x).getD z.toNat 0)) → Fr h₀ L h' m → News h₀ L h' news → Q false { s with heap := h', toks := tk' }) : wpAny M A t Q E s :=
  join_t _ F N h (fun b h' tk' hp F N => by
    cases b
    · exact k2 _ _ hp F N
    · exact k1 _ _ (testT hp).1 (testT hp).2 F N)
theorem join2 {M : Model} {A : Around} {t : Sem Bool} {Q : Bool → Shared → Prop} {E : Value → Shared → Prop} {s : Shared} {h₀ : Heap} {L : Addr} {m : Str → Option Value} {news : List (Addr × Obj)} {x : Str} {z : Int} (hz : dgE (C x) z.toNat = eE (C x)) (F : Fr h₀ L s.heap m) (N : News h₀ L s.heap news)
    (h : Mark → wpAny M A t (fun b s' => Post ((∃ h' tk', s' = { s with heap := h', toks := tk' } ∧ Fr h₀ L h' m ∧ News h₀ L h' news) ∧ b = (decide (z < x.length) && isDg ((C x).getD z.toNat 0)))) E s)
    (k1 : ∀ h' tk', z < x.length → isDg ((C x).getD z.toNat 0) = true → Fr h₀ L h' m → News h₀ L h' news → Q true { s with heap := h', toks := tk' })
    (k2 : ∀ h' tk', false = (decide (z < x.length) && isDg ((C x).getD z.toNat 0)) → Fr h₀ L h' m → News h₀ L h' news → Q false { s with heap := h', toks := tk' }) : wpAny M A t Q E s :=
  join_t _ F N h (fun b h' tk' hp F N => by
    cases b
    · exact k2 _ _ hp F N
    · exact k1 _ _ (testT hp).1 (testT hp).2 F N)
local macro_rules | `(tactic| walk_at "isTrue BoolOp") => `(tactic| (k_here; (fail_if_success (rename Mark => mk')); k_dflt (rename Fr _ _ _ _ => F'; rename News _ _ _ _ => N'; (first | (rename dgE _ _ = eE _ => hz'; refine' join2 hz' F' N' ?jh ?_ ?_) | (rename spE _ _ = spE _ _ => hz'; refine' join1 hz' F' N' ?jh ?_ ?_)); (case jh => (intro mk'; k_steps; all_goals exact post (by assumption) (by assumption) (by (first | exact test1 (by assumption) (by assumption) (by assumption) | exact test0 (by assumption) | exact test2 (by assumption) (by assumption) (by assumption) (by assumption) | exact test3 (by assumption) (by assumption) (by assumption) | exact test4 (by assumption) (by assumption) (by assumption))))); rotate_left; (focus (intro h9 tk9 p9; clear F' N'; intro F9 N9; (try k_sweep); (try dsimp only))); rotate_right; (focus (intro h9 tk9 p9 q9; clear F' N'; intro F9 N9; (try k_sweep); (try dsimp only))))))
theorem cb_hd {g h : Heap} {L : Addr} {p : Addr × Obj} {rest news : List (Addr × Obj)} (N : News g L h (p :: rest)) (hs : ∀ q ∈ news, q ∈ rest) : News g L h (p :: news) :=
  cb_drop N (fun q hq => by
    cases hq with
    | head => exact .head _
    | tail _ hq => exact .tail _ (hs q hq))
theorem spec_read {prog : Program} {w : World} {p : Program} {loose : List Str} {mean : ExcName → Option Value} {mg mb : Str → Option Value}
    {dp un : Nat} {gd : Option (List Code)} {cn : Str} {cs : Scope} {a : Addr} {ccd : Value} {cl : List (Str × Addr)} {outer : List Env} {A₀ : Around} {base h₀ : Heap} {L : Addr} {m : Str → Option Value} {news : List (Addr × Obj)} {s : Shared} {Q E : Value → Shared → Prop} (x : Str) (t : Tok) (hx : x.length ≤ 1000)
    (B : Below A₀ base outer h₀) (F : Fr h₀ L s.heap m) (X : Frag.In (hdG.heap_39 w.params) h₀) (N : News h₀ L s.heap news) (T : Top p loose mean mg mb h₀) (hk : cs.kind = .function) (hdp : dp + 1 < recursionLimit) (hun : un + 8 < cLine)
    (ret : eE (C x) = aE (C x) → ∀ (t2 : Tok) (D : Addr) h' tk', Fr h₀ L h' m → News h₀ L h' ((D, { cls := .type "tuple", data := .seq #[.none, .int 0 t2] }) :: news) → (∀ p ∈ news, p.1 < D) → Q (.ref D) { s with heap := h', toks := tk' })
    (ret1 : ∀ (n e : Int) (t1 t2 : Tok) (D : Addr) h' tk', eE (C x) ≠ aE (C x) → n = valL (C x) → e = eE (C x) → Fr h₀ L h' m → News h₀ L h' ((D, { cls := .type "tuple", data := .seq #[.int n t1, .int e t2] }) :: news) → (∀ p ∈ news, p.1 < D) → Q (.ref D) { s with heap := h', toks := tk' }) :
    wpAny (model prog w) (ktrTop dp un gd cn cs L a ccd cl outer) (call (.ref 163) [.str x t]) Q E s := by
  w_top off
  k_with_none
  k_with "measure" => omega
  k_with "state" => first | exact ⟨by omega, by omega, rfl⟩ | exact rd_st (by assumption) (by assumption) (by assumption) (by assumption) | exact rd_st2 (by assumption) (by assumption) (by assumption) (by assumption) (by assumption) (by assumption) | exact rd_s1 (by assumption) (rd_b (by assumption) (by assumption) (by assumption)) (by assumption) | exact rd_s2 (by assumption) (by assumption) (rd_b (by assumption) (by assumption) (by assumption)) (by assumption)
  k_with "exec While BoolOp cons nil" => first | k_while (fun _ w z => 0 ≤ z ∧ z ≤ x.length ∧ aE (C x) ≤ z ∧ dgE (C x) z.toNat = eE (C x) ∧ w = numF 0 (((C x).drop (aE (C x))).take (z.toNat - aE (C x)))) (fun _ _ z => (x.length - z).toNat) "worth" "at" | k_while (fun _ z => 0 ≤ z ∧ z ≤ x.length ∧ spE (C x) z.toNat = spE (C x) 0) (fun _ z => (x.length - z).toNat) "at"
  refine wpAny_call ?_
  k_dflt cell_enter
  k_steps
  all_goals (have hb := rd_b (by assumption) (by assumption) (by assumption); have he := rd_e (by assumption) (by assumption) (by assumption))
  all_goals first
    | (have ha := rd_f1 (by assumption) hb (by assumption); first
        | exact ret (by omega) _ _ _ _ (by assumption) (cb_hd (by assumption) (by (intro p hp; (repeat (first | exact hp | apply List.Mem.tail))))) (by (first | assumption | exact kst_ltOf (by assumption) | exact kst_ltOf (And.right (by assumption)) | exact kst_ltOf (And.right (And.right (by assumption))) | exact kst_ltOf (And.right (And.right (And.right (by assumption)))) | exact kst_ltOf (And.right (And.right (And.right (And.right (by assumption))))) | exact kst_ltOf (And.right (And.right (And.right (And.right (And.right (by assumption)))))) | exact kst_ltOf (And.right (And.right (And.right (And.right (And.right (And.right (by assumption)))))))))
        | (have hn : eE (C x) ≠ aE (C x) := by omega
           first
            | exact ret1 _ _ _ _ _ _ _ hn (rd_v1 (by assumption) hb (by assumption) he hn (by assumption)) he (by assumption) (cb_hd (by assumption) (by (intro p hp; (repeat (first | exact hp | apply List.Mem.tail))))) (by (first | assumption | exact kst_ltOf (by assumption) | exact kst_ltOf (And.right (by assumption)) | exact kst_ltOf (And.right (And.right (by assumption))) | exact kst_ltOf (And.right (And.right (And.right (by assumption)))) | exact kst_ltOf (And.right (And.right (And.right (And.right (by assumption))))) | exact kst_ltOf (And.right (And.right (And.right (And.right (And.right (by assumption)))))) | exact kst_ltOf (And.right (And.right (And.right (And.right (And.right (And.right (by assumption)))))))))
            | exact ret1 _ _ _ _ _ _ _ hn (rd_v2 (by assumption) hb (by assumption) he hn (by assumption)) he (by assumption) (cb_hd (by assumption) (by (intro p hp; (repeat (first | exact hp | apply List.Mem.tail))))) (by (first | assumption | exact kst_ltOf (by assumption) | exact kst_ltOf (And.right (by assumption)) | exact kst_ltOf (And.right (And.right (by assumption))) | exact kst_ltOf (And.right (And.right (And.right (by assumption)))) | exact kst_ltOf (And.right (And.right (And.right (And.right (by assumption))))) | exact kst_ltOf (And.right (And.right (And.right (And.right (And.right (by assumption)))))) | exact kst_ltOf (And.right (And.right (And.right (And.right (And.right (And.right (by assumption)))))))))))
    | (have ha := rd_f2 (by assumption) hb (by assumption); first
        | exact ret (by omega) _ _ _ _ (by assumption) (cb_hd (by assumption) (by (intro p hp; (repeat (first | exact hp | apply List.Mem.tail))))) (by (first | assumption | exact kst_ltOf (by assumption) | exact kst_ltOf (And.right (by assumption)) | exact kst_ltOf (And.right (And.right (by assumption))) | exact kst_ltOf (And.right (And.right (And.right (by assumption)))) | exact kst_ltOf (And.right (And.right (And.right (And.right (by assumption))))) | exact kst_ltOf (And.right (And.right (And.right (And.right (And.right (by assumption)))))) | exact kst_ltOf (And.right (And.right (And.right (And.right (And.right (And.right (by assumption)))))))))
        | (have hn : eE (C x) ≠ aE (C x) := by omega
           first
            | exact ret1 _ _ _ _ _ _ _ hn (rd_v1 (by assumption) hb (by assumption) he hn (by assumption)) he (by assumption) (cb_hd (by assumption) (by (intro p hp; (repeat (first | exact hp | apply List.Mem.tail))))) (by (first | assumption | exact kst_ltOf (by assumption) | exact kst_ltOf (And.right (by assumption)) | exact kst_ltOf (And.right (And.right (by assumption))) | exact kst_ltOf (And.right (And.right (And.right (by assumption)))) | exact kst_ltOf (And.right (And.right (And.right (And.right (by assumption))))) | exact kst_ltOf (And.right (And.right (And.right (And.right (And.right (by assumption)))))) | exact kst_ltOf (And.right (And.right (And.right (And.right (And.right (And.right (by assumption)))))))))
            | exact ret1 _ _ _ _ _ _ _ hn (rd_v2 (by assumption) hb (by assumption) he hn (by assumption)) he (by assumption) (cb_hd (by assumption) (by (intro p hp; (repeat (first | exact hp | apply List.Mem.tail))))) (by (first | assumption | exact kst_ltOf (by assumption) | exact kst_ltOf (And.right (by assumption)) | exact kst_ltOf (And.right (And.right (by assumption))) | exact kst_ltOf (And.right (And.right (And.right (by assumption)))) | exact kst_ltOf (And.right (And.right (And.right (And.right (by assumption))))) | exact kst_ltOf (And.right (And.right (And.right (And.right (And.right (by assumption)))))) | exact kst_ltOf (And.right (And.right (And.right (And.right (And.right (And.right (by assumption)))))))))))
   
end Mine
end PartQ12
section PartQ13
open PySem PySem.W PyProof.Rows
namespace Mine
theorem same_t {α : Type} [DecidableEq α] {n k : α} {c : Bool} (h : n = k) : decide (n = k) = (c == c) := by simp [h]
theorem same_f {α : Type} [DecidableEq α] [BEq α] [LawfulBEq α] {n k : α} (h : n ≠ k) : decide (n = k) = (n == k) := by simp [h]
theorem same_b1 {x y : Str} {c : Bool} (h : (x == y) = true) : decide (x = y) = (c == c) := by simp [eq_of_beq h]
theorem same_b2 {x y : Str} : decide (x = y) = (x == y) := by rw [Bool.eq_iff_iff, decide_eq_true_eq, beq_iff_eq]
theorem same_c1 {x y : Array UInt8} {c : Bool} (h : (x.toList == y.toList) = true) : decide (x = y) = (c == c) := by
  have e : x = y := Array.ext' (eq_of_beq h)
  simp [e]
theorem same_c2 {x y : Array UInt8} : decide (x = y) = (x.toList == y.toList) := by
  rw [Bool.eq_iff_iff, decide_eq_true_eq, beq_iff_eq]
  exact ⟨fun e => by rw [e], fun e => Array.ext' e⟩
def clamp (n : Int) : Int := max (-9223372036854775808) (min 9223372036854775807 n)
theorem spec_near_none {prog : Program} {w : World} {p : Program} {loose : List Str} {mean : ExcName → Option Value} {mg mb : Str → Option Value}
    {dp un : Nat} {gd : Option (List Code)} {cn : Str} {cs : Scope} {a : Addr} {ccd : Value} {cl : List (Str × Addr)} {outer : List Env} {A₀ : Around} {base h₀ : Heap} {L : Addr} {m : Str → Option Value} {news : List (Addr × Obj)} {s : Shared} {Q E : Value → Shared → Prop} 
    (B : Below A₀ base outer h₀) (F : Fr h₀ L s.heap m) (X : Frag.In (hdG.heap_39 w.params) h₀) (N : News h₀ L s.heap news) (T : Top p loose mean mg mb h₀) (hk : cs.kind = .function) (hdp : dp + 1 < recursionLimit) (hun : un + 8 < cLine)
    (ret : ∀ t' h' tk', Fr h₀ L h' m → News h₀ L h' news → Q (.int 0 t') { s with heap := h', toks := tk' }) :
    wpAny (model prog w) (ktrTop dp un gd cn cs L a ccd cl outer) (call (.ref 170) [.none]) Q E s := by
  w_top off
  k_with_none
  refine wpAny_call ?_
  k_dflt cell_enter
  k_steps
  all_goals first | exact ret _ _ (by assumption) (by assumption) | exact ret _ _ _ (by assumption) (by assumption)
theorem spec_near_int {prog : Program} {w : World} {p : Program} {loose : List Str} {mean : ExcName → Option Value} {mg mb : Str → Option Value}
    {dp un : Nat} {gd : Option (List Code)} {cn : Str} {cs : Scope} {a : Addr} {ccd : Value} {cl : List (Str × Addr)} {outer : List Env} {A₀ : Around} {base h₀ : Heap} {L : Addr} {m : Str → Option Value} {news : List (Addr × Obj)} {s : Shared} {Q E : Value → Shared → Prop} (n : Int) (t : Tok)
    (B : Below A₀ base outer h₀) (F : Fr h₀ L s.heap m) (X : Frag.In (hdG.heap_39 w.params) h₀) (N : News h₀ L s.heap news) (T : Top p loose mean mg mb h₀) (hk : cs.kind = .function) (hdp : dp + 1 < recursionLimit) (hun : un + 8 < cLine)
    (ret : ∀ t' h' tk', Fr h₀ L h' m → News h₀ L h' news → Q (.int (clamp n) t') { s with heap := h', toks := tk' }) :
    wpAny (model prog w) (ktrTop dp un gd cn cs L a ccd cl outer) (call (.ref 170) [.int n t]) Q E s := by
  w_top off
  k_with_none
  refine wpAny_call ?_
  k_dflt cell_enter
  k_steps
  all_goals exact q_int (ret _ _ _ (by assumption) (by assumption)) (by have e : (2:Int) ^ Int.toNat 63 = 9223372036854775808 := rfl; simp only [clamp]; omega)
theorem spec_same_ii {prog : Program} {w : World} {p : Program} {loose : List Str} {mean : ExcName → Option Value} {mg mb : Str → Option Value}
    {dp un : Nat} {gd : Option (List Code)} {cn : Str} {cs : Scope} {a : Addr} {ccd : Value} {cl : List (Str × Addr)} {outer : List Env} {A₀ : Around} {base h₀ : Heap} {L : Addr} {m : Str → Option Value} {news : List (Addr × Obj)} {s : Shared} {Q E : Value → Shared → Prop} (n k : Int) (t u : Tok)
    (B : Below A₀ base outer h₀) (F : Fr h₀ L s.heap m) (X : Frag.In (hdG.heap_39 w.params) h₀) (N : News h₀ L s.heap news) (T : Top p loose mean mg mb h₀) (hk : cs.kind = .function) (hdp : dp + 1 < recursionLimit) (hun : un + 8 < cLine)
    (ret : ∀ h' tk', Fr h₀ L h' m → News h₀ L h' news → Q (.bool (decide (n = k))) { s with heap := h', toks := tk' }) :
    wpAny (model prog w) (ktrTop dp un gd cn cs L a ccd cl outer) (call (.ref 182) [.int n t, .int k u]) Q E s := by
  w_top off
  k_with_none
  refine wpAny_call ?_
  k_dflt cell_enter
  k_steps
  all_goals first | exact q_bool (ret _ _ (by assumption) (by assumption)) (same_t (by assumption)) | exact q_bool (ret _ _ (by assumption) (by assumption)) (same_f (by assumption)) | exact q_bool (ret _ _ (by assumption) (by assumption)) (same_b1 (by assumption)) | exact q_bool (ret _ _ (by assumption) (by assumption)) (same_c1 (by assumption)) | exact q_bool (ret _ _ (by assumption) (by assumption)) same_b2 | exact q_bool (ret _ _ (by assumption) (by assumption)) same_c2
theorem spec_same_ss {prog : Program} {w : World} {p : Program} {loose : List Str} {mean : ExcName → Option Value} {mg mb : Str → Option Value}
    {dp un : Nat} {gd : Option (List Code)} {cn : Str} {cs : Scope} {a : Addr} {ccd : Value} {cl : List (Str × Addr)} {outer : List Env} {A₀ : Around} {base h₀ : Heap} {L : Addr} {m : Str → Option Value} {news : List (Addr × Obj)} {s : Shared} {Q E : Value → Shared → Prop} (x y : Str) (t u : Tok)
    (B : Below A₀ base outer h₀) (F : Fr h₀ L s.heap m) (X : Frag.In (hdG.heap_39 w.params) h₀) (N : News h₀ L s.heap news) (T : Top p loose mean mg mb h₀) (hk : cs.kind = .function) (hdp : dp + 1 < recursionLimit) (hun : un + 8 < cLine)
    (ret : ∀ h' tk', Fr h₀ L h' m → News h₀ L h' news → Q (.bool (decide (x = y))) { s with heap := h', toks := tk' }) :
    wpAny (model prog w) (ktrTop dp un gd cn cs L a ccd cl outer) (call (.ref 182) [.str x t, .str y u]) Q E s := by
  w_top off
  k_with_none
  refine wpAny_call ?_
  k_dflt cell_enter
  k_steps
  all_goals first | exact q_bool (ret _ _ (by assumption) (by assumption)) (same_t (by assumption)) | exact q_bool (ret _ _ (by assumption) (by assumption)) (same_f (by assumption)) | exact q_bool (ret _ _ (by assumption) (by assumption)) (same_b1 (by assumption)) | exact q_bool (ret _ _ (by assumption) (by assumption)) (same_c1 (by assumption)) | exact q_bool (ret _ _ (by assumption) (by assumption)) same_b2 | exact q_bool (ret _ _ (by assumption) (by assumption)) same_c2
theorem spec_same_bb {prog : Program} {w : World} {p : Program} {loose : List Str} {mean : ExcName → Option Value} {mg mb : Str → Option Value}
    {dp un : Nat} {gd : Option (List Code)} {cn : Str} {cs : Scope} {a : Addr} {ccd : Value} {cl : List (Str × Addr)} {outer : List Env} {A₀ : Around} {base h₀ : Heap} {L : Addr} {m : Str → Option Value} {news : List (Addr × Obj)} {s : Shared} {Q E : Value → Shared → Prop} (x y : Array UInt8) (t u : Tok) (hx : x.size ≤ 4000) (hy : y.size ≤ 4000)
    (B : Below A₀ base outer h₀) (F : Fr h₀ L s.heap m) (X : Frag.In (hdG.heap_39 w.params) h₀) (N : News h₀ L s.heap news) (T : Top p loose mean mg mb h₀) (hk : cs.kind = .function) (hdp : dp + 1 < recursionLimit) (hun : un + 8 < cLine)
    (ret : ∀ h' tk', Fr h₀ L h' m → News h₀ L h' news → Q (.bool (decide (x = y))) { s with heap := h', toks := tk' }) :
    wpAny (model prog w) (ktrTop dp un gd cn cs L a ccd cl outer) (call (.ref 182) [.bytes x t, .bytes y u]) Q E s := by
  w_top off
  k_with_none
  refine wpAny_call ?_
  k_dflt cell_enter
  k_steps
  all_goals first | exact q_bool (ret _ _ (by assumption) (by assumption)) (same_t (by assumption)) | exact q_bool (ret _ _ (by assumption) (by assumption)) (same_f (by assumption)) | exact q_bool (ret _ _ (by assumption) (by assumption)) (same_b1 (by assumption)) | exact q_bool (ret _ _ (by assumption) (by assumption)) (same_c1 (by assumption)) | exact q_bool (ret _ _ (by assumption) (by assumption)) same_b2 | exact q_bool (ret _ _ (by assumption) (by assumption)) same_c2
end Mine
end PartQ13
section PartV1
open PySem PySem.Spec PySem.W PyProof.Rows PyProof.Rows.LCt PyProof.Rows.LCg PySem.Calls
namespace Mine
section
variable {prog : Program} {w : World} {A : Around} {E : Value → Shared → Prop} {s : Shared} {h₀ : Heap} {L : Addr} {m : Str → Option Value} {env : Env}
theorem str_st {I : Addr} {ty : String} {x : Str} {t : Tok} : ∀ i (h h' : Heap) (o : Obj) (nw : List (Addr × Obj)), h.IsStrIter I ty x t i → h.get? I = some o → h'.get? I = some o → (∀ b o, h₀.get? b = some o → h'.get? b = some o) → News h₀ L h' nw → True → h'.IsStrIter I ty x t i :=
  fun i h h' o nw st e e' _ _ _ => by obtain ⟨o', q, r⟩ := st; rw [e] at q; cases q; exact ⟨o, e', r⟩
theorem ListComp_TS {ct elt iter : Expr} {x : Str} {px : Pos} {scope : Scope} {cl : List (Str × Addr)} {pos : Pos} {Q : Value → Shared → Prop}
    (hclos : closureFor scope env = pure cl) (hcell : ∀ y ∈ scope.names, y.2 ≠ .cell) (hkind : scope.kind = .function)
    (hnames : ∀ y ∈ scope.names, y.2 = .local → scope.names.lookup y.1 = some .local) (hx : scope.names.lookup x = some .local)
    (h : wpAny (model prog w) A (eval iter env) (fun xv s₁ => ∃ y t news, xv = .str y t ∧ A.handled = none ∧ y.cps.size ≤ sizeLine ∧ Fr h₀ L s₁.heap m ∧ News h₀ L s₁.heap news ∧
      ∀ s₂ : Shared, (∃ h, s₂ = { s₁ with heap := h }) → CompRestT prog w A h₀ L m env ct elt x scope cl s₂ (fun _ => True) (SignAt y) (FinE h₀ L m s₂ Q) y.cps.size 0 [] news) E s)
    (hs : ∀ x, foldedSetIterable iter env x = pure x := by intro _; rfl) :
    wpAny (model prog w) A (eval (.ListComp elt [⟨.Name x px, iter, [ct], 0⟩] scope pos) env) Q E s := by
  rw [eval_ListComp]
  refine wpAny_comprehension_free (use := none) rfl hs hclos hkind hnames (wpAny_mono h (fun xv s₁ h₁ => ?_) fun _ _ e => e)
  obtain ⟨y, t, news, rfl, hh, hsz, F, N, R⟩ := h₁
  cases ha : y.cps.all (· < 128)
  · refine wpAny_pyIter_wide ha ?_
    refine block_T (Walks.strWide hh _ y t) hsz (fun i h st => by obtain ⟨o, e, _⟩ := st; exact ⟨o, e⟩) str_st hcell hkind hx ⟨_, Heap.get?_push_size _ rfl, rfl, rfl⟩ (fun b hb => ?_)
      (F.keeps fun _ _ e => Heap.get?_push_of_some _ e) (N.grown fun _ _ e => Heap.get?_push_of_some _ e) (Nat.ne_of_lt F.ns.lt) (next_is_new F) (fun p hp => Nat.ne_of_lt (Heap.lt_size (N p hp).1)) trivial (R _ ⟨_, rfl⟩) ?_
    · rw [List.mem_singleton.mp hb]
      show s₁.heap.objs.size < (s₁.heap.push _).objs.size
      rw [Heap.size_push]; exact Nat.lt_succ_self _
    · intro D C h tk m' ys news' F' N' o1 hn hC₀ hD₀ hCL hDL hCD offC fin
      refine ⟨m', hn, fun h'' hs'' => fin D h'' tk (F'.change hs'' hCL hC₀) (fun p hp => ?_) o1⟩
      refine ⟨hs''.extBut _ _ ?_ (N' p hp).1, (N' p hp).2⟩
      rcases List.mem_cons.mp hp with rfl | hp
      · exact Ne.symm hCD
      · exact offC p hp
  · refine wpAny_pyIter_ascii ha ?_
    refine block_T (Walks.strAscii hh _ y t) hsz (fun i h st => by obtain ⟨o, e, _⟩ := st; exact ⟨o, e⟩) str_st hcell hkind hx ⟨_, Heap.get?_push_size _ rfl, rfl, rfl⟩ (fun b hb => ?_)
      (F.keeps fun _ _ e => Heap.get?_push_of_some _ e) (N.grown fun _ _ e => Heap.get?_push_of_some _ e) (Nat.ne_of_lt F.ns.lt) (next_is_new F) (fun p hp => Nat.ne_of_lt (Heap.lt_size (N p hp).1)) trivial (R _ ⟨_, rfl⟩) ?_
    · rw [List.mem_singleton.mp hb]
      show s₁.heap.objs.size < (s₁.heap.push _).objs.size
      rw [Heap.size_push]; exact Nat.lt_succ_self _
    · intro D C h tk m' ys news' F' N' o1 hn hC₀ hD₀ hCL hDL hCD offC fin
      refine ⟨m', hn, fun h'' hs'' => fin D h'' tk (F'.change hs'' hCL hC₀) (fun p hp => ?_) o1⟩
      refine ⟨hs''.extBut _ _ ?_ (N' p hp).1, (N' p hp).2⟩
      rcases List.mem_cons.mp hp with rfl | hp
      · exact Ne.symm hCD
      · exact offC p hp
end
end Mine
end PartV1
section PartV2
open PySem PyProof PySem.Spec PySem.W PyProof.Rows PyProof.Rows.LCt PyProof.Rows.LCg PySem.Calls
namespace Mine
section
variable {prog : Program} {w : World} {A : Around} {E : Value → Shared → Prop} {s : Shared} {h₀ : Heap} {L : Addr} {m : Str → Option Value} {env : Env}
theorem comp_end {I C₁ D : Addr} {oI oC : Obj} {ys : List Value} {news : List (Addr × Obj)} {h : Heap} {tk : Nat} {rest : Value → List (Addr × Obj) → Prop} {r : Value} {s' : Shared}
    (off : Off3 I C₁ D news) (q : ∃ h' tk', s' = { ({ s with heap := h, toks := tk } : Shared) with heap := h', toks := tk' } ∧ Fr h₀ L h' m ∧ News h₀ L h' ((I, oI) :: (C₁, oC) :: (D, lst ys) :: news)) (hr : rest r news) :
    CompEnd h₀ L m { s with heap := h, toks := tk } I oI C₁ oC D (lst ys) (fun _ => True) rest r s' := by
  obtain ⟨h', tk', e, F, N⟩ := q
  exact ⟨h', tk', news, e, F, N, off, trivial, hr⟩
theorem kept_rest {ct elt : Expr} {x : Str} {scope : Scope} {cl : List (Str × Addr)} {y : Str} {news : List (Addr × Obj)} {Q : Value → Shared → Prop}
    (turn : ∀ (c : Nat) (u : Tok) (I : Addr) (oI : Obj) (C₁ : Addr) (oC : Obj) (D : Addr) (m₂ : Str → Option Value) (ys : List Value) (h : Heap) (tk : Nat) (E' : Value → Shared → Prop), NsObj oC m₂ → m₂ x = some (.str ⟨#[c]⟩ u) → Fr h₀ L h m → News h₀ L h ((I, oI) :: (C₁, oC) :: (D, lst ys) :: news) → Off3 I C₁ D news → ((@Ne Nat I C₁) ∧ (@Ne Nat I D) ∧ (@Ne Nat C₁ D)) →
      wpAny (model prog w) A (isTrue ct (compEnvC scope cl C₁ env) (eval ct (compEnvC scope cl C₁ env))) (fun ok s' => Post ((∃ h' tk', s' = { ({ s with heap := h, toks := tk } : Shared) with heap := h', toks := tk' } ∧ Fr h₀ L h' m ∧ News h₀ L h' ((I, oI) :: (C₁, oC) :: (D, lst ys) :: news)) ∧ ok = !isSp c)) E' { s with heap := h, toks := tk })
    (telt : ∀ (c : Nat) (u : Tok) (I : Addr) (oI : Obj) (C₁ : Addr) (oC : Obj) (D : Addr) (m₂ : Str → Option Value) (ys : List Value) (h : Heap) (tk : Nat) (h1 : Heap) (tk1 : Nat) (E' : Value → Shared → Prop), NsObj oC m₂ → m₂ x = some (.str ⟨#[c]⟩ u) → Fr h₀ L h1 m → News h₀ L h1 ((I, oI) :: (C₁, oC) :: (D, lst ys) :: news) → Off3 I C₁ D news → ((@Ne Nat I C₁) ∧ (@Ne Nat I D) ∧ (@Ne Nat C₁ D)) →
      wpAny (model prog w) A (eval elt (compEnvC scope cl C₁ env)) (fun r' s' => Post ((∃ h' tk', s' = { ({ s with heap := h, toks := tk } : Shared) with heap := h', toks := tk' } ∧ Fr h₀ L h' m ∧ News h₀ L h' ((I, oI) :: (C₁, oC) :: (D, lst ys) :: news)) ∧ (∃ u', r' = .str ⟨#[c]⟩ u'))) E' { s with heap := h1, toks := tk1 })
    (hQ : ∀ (ys : List Value) (xs : List Str) (D : Addr) (h : Heap) (tk : Nat), StrsAre ys xs → (ys = [] ↔ (C y).all isSp = true) → ys.length ≤ y.length → Fr h₀ L h m → News h₀ L h ((D, lst ys) :: news) → Off1 D news → Q (.ref D) { s with heap := h, toks := tk }) :
    ∀ (k i : Nat) (ys : List Value) (xs : List Str), StrsAre ys xs → i + k = y.cps.size → (ys = [] ↔ ((C y).take i).all isSp = true) → ys.length ≤ i → CompRestT prog w A h₀ L m env ct elt x scope cl s (fun _ => True) (SignAt y) (FinE h₀ L m s Q) k i ys news := by
  intro k
  have hyl : y.cps.size = (C y).length := by simp [C, KStt.codes]
  induction k with
  | zero =>
    intro i ys xs hxs hi hy hl
    refine CompRestT.zero ?_
    intro D h tk F N off
    have hi' : i = (C y).length := by omega
    rw [hi', List.take_length] at hy
    exact hQ ys xs D h tk hxs hy (by rw [← len_C]; omega) F N off
  | succ k ih =>
    intro i ys xs hxs hi hy hl
    refine CompRestT.succ ?_
    intro v I oI C₁ oC D m₂ h tk E' hv hC hx F N off ne
    obtain ⟨c, u, hc, rfl⟩ := hv
    have hci : (C y)[i]? = some (c : Int) := by
      simp only [C, KStt.codes, List.getElem?_map]
      rw [show y.cps.toList[i]? = some c from by simpa using hc]; rfl
    have htk : (C y).take (i + 1) = (C y).take i ++ [(c : Int)] := by rw [List.take_add_one, hci]; rfl
    refine wpAny_mono (turn c u I oI C₁ oC D m₂ ys h tk E' hC hx F N off ne) (fun ok s₁ q => ?_) (fun _ _ e => e)
    obtain ⟨q1, rfl⟩ : _ ∧ _ := q
    cases hsp : isSp (c : Int) with
    | true =>
      rw [if_neg (by simp)]
      refine comp_end off q1 (ih (i + 1) ys xs hxs (by omega) ?_ (by omega))
      rw [htk, List.all_append, hy]
      simp [hsp]
    | false =>
      rw [if_pos (by simp)]
      obtain ⟨h', tk', rfl, F', N'⟩ := q1
      refine wpAny_mono (telt c u I oI C₁ oC D m₂ ys h tk h' tk' E' hC hx F' N' off ne) (fun r s₂ q => ?_) (fun _ _ e => e)
      obtain ⟨q2, u', rfl⟩ : _ ∧ _ := q
      refine comp_end off q2 (ih (i + 1) _ (xs ++ [⟨#[c]⟩]) (hxs.append' (.cons _ _ .nil)) (by omega) ?_ (by simp; omega))
      rw [htk, List.all_append]
      simp [hsp]
end
theorem ne_nil {prog : Program} {w : World} {A : Around} {E : Value → Shared → Prop} {s : Shared} {a b : Addr} {ys : List Value} {Q : Value → Shared → Prop} (ha : s.heap.IsList a ys.toArray) (hb : s.heap.IsList b #[]) (hu : A.units < cLine)
    (h : Q (.bool (!decide (ys = []))) s) : wpAny (model prog w) A (compareOp .NotEq (.ref a) (.ref b)) Q E s := by
  cases ys with
  | nil => exact SeqAt.RcNeAt.lists (e := fun _ => true) ha hb rfl hu (by intro j h1; simp at h1) prog w E Q (by simpa using h)
  | cons v r => exact SeqAt.RcNeAt.lists_lengths ha hb (by simp) hu prog w E Q (by simpa using h)
end Mine
end PartV2
section PartQ14
open PySem PySem.Spec PySem.W PyProof.Rows PyProof.Rows.LCt PyProof.Rows.LCg PySem.Calls
namespace Mine
def TSrc (h₀ : Heap) (L : Addr) (m : Str → Option Value) (A : Around) (K : Str → List (Addr × Obj) → Shared → Prop) (xv : Value) (s₁ : Shared) : Prop :=
  ∃ y t news, xv = .str y t ∧ A.handled = none ∧ y.cps.size ≤ sizeLine ∧ Fr h₀ L s₁.heap m ∧ News h₀ L s₁.heap news ∧ K y news s₁
theorem TSrc.intro {h₀ : Heap} {L : Addr} {m : Str → Option Value} {A : Around} {K : Str → List (Addr × Obj) → Shared → Prop} {y : Str} {t : Tok} {news : List (Addr × Obj)} {s₁ : Shared} (hh : A.handled = none) (hsz : y.length ≤ 1000) (F : Fr h₀ L s₁.heap m) (N : News h₀ L s₁.heap news) (h : K y news s₁) :
    TSrc h₀ L m A K (.str y t) s₁ := ⟨y, t, news, rfl, hh, Nat.le_trans hsz (by decide), F, N, h⟩
theorem ListComp_TK {prog : Program} {w : World} {A : Around} {E : Value → Shared → Prop} {s : Shared} {h₀ : Heap} {L : Addr} {m : Str → Option Value} {env : Env} {ct elt iter : Expr} {x : Str} {px : Pos} {scope : Scope} {cl : List (Str × Addr)} {pos : Pos} {Q : Value → Shared → Prop} (F₀ : Fr h₀ L s.heap m)
    (hclos : closureFor scope env = pure cl) (hcell : ∀ y ∈ scope.names, y.2 ≠ .cell) (hkind : scope.kind = .function)
    (hnames : ∀ y ∈ scope.names, y.2 = .local → scope.names.lookup y.1 = some .local) (hx : scope.names.lookup x = some .local)
    (h : wpAny (model prog w) A (eval iter env) (TSrc h₀ L m A (fun y news s₁ => ∀ s₂ : Shared, (∃ h, s₂ = { s₁ with heap := h }) → CompRestT prog w A h₀ L m env ct elt x scope cl s₂ (fun _ => True) (SignAt y) (FinE h₀ L m s₂ Q) y.cps.size 0 [] news)) E s)
    (hs : ∀ x, foldedSetIterable iter env x = pure x := by intro _; rfl) :
    wpAny (model prog w) A (eval (.ListComp elt [⟨.Name x px, iter, [ct], 0⟩] scope pos) env) Q E s := ListComp_TS hclos hcell hkind hnames hx h hs
theorem clamp_in {n : Int} (h : n = clamp n) : inR n = true := by
  simp only [clamp] at h
  simp only [inR, Bool.and_eq_true, decide_eq_true_eq]
  omega
theorem clamp_out {n : Int} (h : n ≠ clamp n) : inR n = false := by
  simp only [clamp] at h
  simp only [inR, Bool.and_eq_false_iff, decide_eq_false_iff_not]
  omega
theorem kept_1 {x : Str} (h : eE (C x) = aE (C x)) : wh (C x) = none := by rw [wh, if_pos h]
theorem kept_2 {x : Str} {n : Int} (h : eE (C x) ≠ aE (C x)) (hn : n = valL (C x)) (hc : n ≠ clamp n) : wh (C x) = none := by
  rw [wh, if_neg h, ← hn, clamp_out hc]; simp
theorem kept_3 {x : Str} {n e : Int} {ys : List Value} (h : eE (C x) ≠ aE (C x)) (hn : n = valL (C x)) (he : e = eE (C x)) (hc : n = clamp n) (hy : ys = [] ↔ (C (Txt.slice x (some e) none)).all isSp = true) : wh (C x) = if ys = [] then some n else none := by
  rw [sl_all x he] at hy
  rw [wh, if_neg h, ← hn, clamp_in hc]
  by_cases hz : ys = []
  · rw [if_pos hz, if_pos (hy.1 hz)]; rfl
  · rw [if_neg hz, if_neg (fun q => hz (hy.2 q))]
theorem kept_t {c : Nat} : (!([9, 10, 11, 12, 13, 32] : List Int).any fun x => x == (c : Int)) = !isSp (c : Int) := by rw [any_sp]
theorem q_val {Q : Value → Shared → Prop} {v v' : Value} {s : Shared} (h : Q v' s) (e : v' = v) : Q v s := e ▸ h
theorem spec_kept {prog : Program} {w : World} {p : Program} {loose : List Str} {mean : ExcName → Option Value} {mg mb : Str → Option Value}
    {dp un : Nat} {gd : Option (List Code)} {cn : Str} {cs : Scope} {a : Addr} {ccd : Value} {cl : List (Str × Addr)} {outer : List Env} {A₀ : Around} {base h₀ : Heap} {L : Addr} {m : Str → Option Value} {news : List (Addr × Obj)} {s : Shared} {Q E : Value → Shared → Prop} (x : Str) (t : Tok) (hx : x.length ≤ 1000)
    (B : Below A₀ base outer h₀) (F : Fr h₀ L s.heap m) (X : Frag.In (hdG.heap_39 w.params) h₀) (N : News h₀ L s.heap news) (T : Top p loose mean mg mb h₀) (hk : cs.kind = .function) (hdp : dp + 2 < recursionLimit) (hun : un + 16 < cLine)
    (ret : ∀ t' h' tk', Fr h₀ L h' m → News h₀ L h' news → Q (match wh (C x) with | none => .str x t | some n => .int n t') { s with heap := h', toks := tk' }) :
    wpAny (model prog w) (ktrTop dp un gd cn cs L a ccd cl outer) (call (.ref 175) [.str x t]) Q E s := by
  w_top off
  k_with_none
  k_with "call ref" => (k_here; k_dflt ((show wpAny _ _ (call (Value.ref 170) [Value.none]) _ _ _); refine' spec_near_none   (by k_asm) (by k_asm) (by k_asm) (by k_asm) (by k_asm) (by first | exact rfl | assumption) (by ktr_room) (by ktr_units) ?_); intro t9 h9 tk9 F9 N9; (try k_sweep); (try dsimp only))
  k_with "call ref" => (k_here; k_dflt ((show wpAny _ _ (call (Value.ref 170) [Value.int _ _]) _ _ _); refine' spec_near_int _ _  (by k_asm) (by k_asm) (by k_asm) (by k_asm) (by k_asm) (by first | exact rfl | assumption) (by ktr_room) (by ktr_units) ?_); intro t9 h9 tk9 F9 N9; (try k_sweep); (try dsimp only))
  k_with "call ref" => (k_here; k_dflt ((show wpAny _ _ (call (Value.ref 163) [Value.str _ _]) _ _ _); refine' spec_read _ _ (by assumption) (by k_asm) (by k_asm) (by k_asm) (by k_asm) (by k_asm) (by first | exact rfl | assumption) (by ktr_room) (by ktr_units) ?_ ?_); rotate_left; (focus (intro n9 e9 t9 t8 d9 h9 tk9 hs9 hn9 he9 F9 N9 l9; (try k_lt l9); (try k_sweep); (try dsimp only))); rotate_right; (focus (intro hs9 t8 d9 h9 tk9 F9 N9 l9; (try k_lt l9); (try k_sweep); (try dsimp only))))
  k_with "eval ListComp" => (k_here; k_dflt (refine ListComp_TK (by k_asm) (by with_unfolding_all rfl) (by decide) (by rfl) (by decide) (by rfl) ?_))
  refine wpAny_call ?_
  k_dflt cell_enter
  k_steps
  · exact q_of (ret t _ _ (by assumption) (cb_drop (by assumption) (by intro p hp; simp [hp]))) (by rw [kept_1 (by assumption)])
  · exact q_of (ret t _ _ (by assumption) (cb_drop (by assumption) (by intro p hp; simp [hp]))) (by rw [kept_2 (by assumption) (by assumption) (by assumption)])
  · refine TSrc.intro rfl (by omega) (by assumption) (by assumption) ?_
    rintro s₂ ⟨g, rfl⟩
    refine kept_rest ?_ ?_ ?_ _ 0 [] [] .nil (by simp) (by simp) (by simp)
    · intro c u I oI C₁ oC D m₂ ys h tk E' hC hxx F N off ne
      k_steps
      exact post (by assumption) (cb_drop (by assumption) (fun p hp => List.mem_cons_of_mem _ hp)) kept_t
    · intro c u I oI C₁ oC D m₂ ys h tk h1 tk1 E' hC hxx F N off ne
      k_steps
      exact post (by assumption) (by assumption) ⟨_, rfl⟩
    · intro ys xs D h tk hxs hys hle F N off
      have hw := kept_3 (by assumption) (by assumption) (by assumption) (by assumption) hys
      k_steps
      rename News _ _ _ _ => N1
      refine ne_nil (News.isList N1 (List.mem_cons_of_mem _ (List.Mem.head _))) (News.isList N1 (List.Mem.head _)) (by ktr_units) ?_
      by_cases hz : ys = []
      · rw [decide_eq_true hz]
        rw [if_pos hz] at hw
        k_steps
        exact q_of (ret _ _ _ (by assumption) (cb_drop (by assumption) (by intro p hp; simp [hp]))) (by rw [hw])
      · rw [decide_eq_false hz]
        rw [if_neg hz] at hw
        k_steps
        exact q_of (ret t _ _ (by assumption) (cb_drop (by assumption) (by intro p hp; simp [hp]))) (by rw [hw])
end Mine
end PartQ14
section PartQ15
open PySem PySem.W PyProof.Rows
namespace Mine
local macro_rules | `(tactic| walk_at "setItem ref int") => `(tactic| (k_here; k_dflt (refine' ki_set ?F ?N ?a ?b ?e ?U ?_; (case F => k_asm); (case N => k_asm); (case U => exact Upd.head (by assumption)); (case a => decide); (case b => decide); (case e => rfl)); ki_rest))
theorem fm_lo (a : Int) {b : Int} (h : 0 < b) : 0 ≤ Int.fmod a b := Int.fmod_nonneg_of_pos _ h
theorem fm_hi (a : Int) {b : Int} (h : 0 < b) : Int.fmod a b < b := Int.fmod_lt_of_pos _ h
theorem sq_ok {x y : Int} : IntMulOk (Int.fmod x 2147483647) y := by
  have h1 := fm_lo x (b := 2147483647) (by decide)
  have h2 := fm_hi x (b := 2147483647) (by decide)
  exact IntMulOk.of_left (intBits_le_64 (by omega) (by omega))
theorem take_a {b1 top : Int} (h : 0 ≤ b1) (ht : 0 < top) : 0 ≤ Int.fdiv b1 top := Int.fdiv_nonneg h (Int.le_of_lt ht)
theorem spec_take {prog : Program} {w : World} {p : Program} {loose : List Str} {mean : ExcName → Option Value} {mg mb : Str → Option Value}
    {dp un : Nat} {gd : Option (List Code)} {cn : Str} {cs : Scope} {a : Addr} {ccd : Value} {cl : List (Str × Addr)} {outer : List Env} {A₀ : Around} {base h₀ : Heap} {L : Addr} {m : Str → Option Value} {news : List (Addr × Obj)} {s : Shared} {Q E : Value → Shared → Prop} (l : Addr) (b1 b2 top : Int) (t1 t2 tt : Tok) (k0 : Nat) (hp : 0 ≤ b1) (hq0 : 0 ≤ b2) (hq : b2 < 2147483647) (ht : 0 < top) (ht1 : top ≤ 1000) (hl : ∀ z ∈ news, z.1 ≠ l)
    (B : Below A₀ base outer h₀) (F : Fr h₀ L s.heap m) (X : Frag.In (hdG.heap_39 w.params) h₀) (N : News h₀ L s.heap ((l, listOf #[.int b1 t1, .int b2 t2] k0) :: news)) (T : Top p loose mean mg mb h₀) (hk : cs.kind = .function) (hdp : dp + 1 < recursionLimit) (hun : un + 8 < cLine)
    (ret : ∀ (p' q' r : Int) (t1' t2' t3 : Tok) (k' : Nat) h' tk', 0 ≤ p' → 0 ≤ q' → q' < 2147483647 → 0 ≤ r → r < top → Fr h₀ L h' m → News h₀ L h' ((l, listOf #[.int p' t1', .int q' t2'] k') :: news) → Q (.int r t3) { s with heap := h', toks := tk' }) :
    wpAny (model prog w) (ktrTop dp un gd cn cs L a ccd cl outer) (call (.ref 135) [.ref l, .int top tt]) Q E s := by
  w_top off
  k_with_none
  k_with "binaryOp Mult int int" => (k_here; plain_pass; (refine mul_int ?_ sq_ok))
  refine wpAny_call ?_
  k_dflt cell_enter
  k_steps
  · exact ret _ _ _ _ _ _ _ _ _ (take_a hp ht) hq0 hq (fm_lo _ ht) (fm_hi _ ht) (by assumption) (by assumption)
  · exact ret _ _ _ _ _ _ _ _ _ hp (fm_lo _ (by decide)) (fm_hi _ (by decide)) (fm_lo _ ht) (fm_hi _ ht) (by assumption) (by assumption)
end Mine
end PartQ15
section PartQ16
open PySem PySem.W PyProof.Rows
namespace Mine
theorem getD_P {xs : List Str} {P : Str → Prop} {i : Nat} (h : ∀ x ∈ xs, P x) (hi : i < xs.length) : P (xs.getD i Str.empty) := by
  rw [List.getD_eq_getElem?_getD, List.getElem?_eq_getElem hi]
  exact h _ (List.getElem_mem _)
theorem len_n {vs : List Value} {xs : List Str} (h : StrsAre vs xs) : ((vs.toArray.size : Nat) : Int) = xs.length := by rw [List.size_toArray, h.length]
theorem spec_one {prog : Program} {w : World} {p : Program} {loose : List Str} {mean : ExcName → Option Value} {mg mb : Str → Option Value}
    {dp un : Nat} {gd : Option (List Code)} {cn : Str} {cs : Scope} {a : Addr} {ccd : Value} {cl : List (Str × Addr)} {outer : List Env} {A₀ : Around} {base h₀ : Heap} {L : Addr} {m : Str → Option Value} {news : List (Addr × Obj)} {s : Shared} {Q E : Value → Shared → Prop} (l : Addr) (b1 b2 : Int) (t1 t2 : Tok) (k0 : Nat) (hp : 0 ≤ b1) (hq0 : 0 ≤ b2) (hq : b2 < 2147483647) (hl : ∀ z ∈ news, z.1 ≠ l)(d : Addr) (vs : List Value) (xs : List Str) (kd : Nat) (P : Str → Prop) (hd1 : (d, listOf vs.toArray kd) ∈ news) (hvs : StrsAre vs xs) (hn0 : 0 < xs.length) (hn : xs.length ≤ 100) (hP : ∀ x ∈ xs, P x)
    (B : Below A₀ base outer h₀) (F : Fr h₀ L s.heap m) (X : Frag.In (hdG.heap_39 w.params) h₀) (N : News h₀ L s.heap ((l, listOf #[.int b1 t1, .int b2 t2] k0) :: news)) (T : Top p loose mean mg mb h₀) (hk : cs.kind = .function) (hdp : dp + 2 < recursionLimit) (hun : un + 16 < cLine)
    (ret : ∀ (x : Str) (t : Tok) (b1' b2' : Int) (t1' t2' : Tok) (k' : Nat) h' tk', P x → 0 ≤ b1' → 0 ≤ b2' → b2' < 2147483647 → Fr h₀ L h' m → News h₀ L h' ((l, listOf #[.int b1' t1', .int b2' t2'] k') :: news) → Q (.str x t) { s with heap := h', toks := tk' }) :
    wpAny (model prog w) (ktrTop dp un gd cn cs L a ccd cl outer) (call (.ref 142) [.ref l, .ref d]) Q E s := by
  w_top off
  k_with_none
  k_with "call ref" => (k_here; k_dflt ((show wpAny _ _ (call (Value.ref 135) [Value.ref _, Value.int _ _]) _ _ _); rename News _ _ _ _ => nT; refine' spec_take _ _ _ _ _ _ _ _ (by assumption) (by assumption) (by assumption) (by omega) (by omega) (by assumption) (by k_asm) (by k_asm) (by k_asm) nT (by k_asm) (by first | exact rfl | assumption) (by ktr_room) (by ktr_units) ?_); intro b8 b9 r9 t7 t8 t9 k9 h9 tk9 o1 o2 o3 o4 o5 F9 N9; (try k_sweep); (try dsimp only))
  k_with "call builtin:len" => (k_here; k_dflt ((rename News _ _ _ _ => nE'); (refine PyProof.Rows.len_list (News.isList nE' (List.mem_cons_of_mem _ (by assumption))) (by rw [len_n (by assumption)]; omega) ?_); (rw [len_n (by assumption)])))
  k_with "subscriptTail" => (k_here; k_dflt ((rename News _ _ _ _ => nE'); (refine KTb.item_list (News.isList nE' (List.mem_cons_of_mem _ (by assumption))) (by assumption) (by assumption) (by assumption) (by omega) ?_); intro t6 o6))
  refine wpAny_call ?_
  k_dflt cell_enter
  k_steps
  rename News _ _ _ _ => nz
  exact ret _ _ _ _ _ _ _ _ _ (getD_P hP (by assumption)) (by assumption) (by assumption) (by assumption) (by assumption) nz
end Mine
end PartQ16
section PartR1
open PySem PySem.W PyProof.Rows
namespace Mine
def OK (n : Nat) (x : Str) : Prop := x.length ≤ n ∧ ∀ c ∈ C x, c < 2048
theorem C_app (x y : Str) : C (x ++ y) = C x ++ C y := by simp [C, KStt.codes, Str.cps_append]
theorem ok_le {a b : Nat} {x : Str} (h : OK a x) (hab : a ≤ b) : OK b x := ⟨Nat.le_trans h.1 hab, h.2⟩
theorem ok_app {a b : Nat} {x y : Str} (hx : OK a x) (hy : OK b y) : OK (a + b) (x ++ y) := by
  refine ⟨?_, ?_⟩
  · rw [Str.length_append]; have := hx.1; have := hy.1; omega
  · intro c hc
    rw [C_app] at hc
    rcases List.mem_append.1 hc with h | h
    · exact hx.2 c h
    · exact hy.2 c h
theorem ok_num {n : Int} (h0 : 0 ≤ n) (h1 : n < 10 ^ 20) : OK 20 (Str.ofString (toString n)) := by
  refine ⟨toString_length_le h0 (by decide) h1, ?_⟩
  intro c hc
  simp only [C, KStt.codes, List.mem_map] at hc
  obtain ⟨k, hk, rfl⟩ := hc
  by_cases h : k < 2048
  · exact_mod_cast h
  · exact absurd hk (int_text_free' k ⟨by omega, by omega⟩ n)
theorem reps_codes (c : Array Nat) (p : Nat → Prop) (hc : ∀ k ∈ c.toList, p k) : ∀ (j : Nat) (acc : Array Nat), (∀ k ∈ acc.toList, p k) → ∀ k ∈ ((List.replicate j c).foldl (· ++ ·) acc).toList, p k
  | 0, acc, h => h
  | j + 1, acc, h => by
    rw [List.replicate_succ, List.foldl_cons]
    refine reps_codes c p hc j _ ?_
    intro k hk
    rw [Array.toList_append] at hk
    rcases List.mem_append.1 hk with h' | h'
    · exact h k h'
    · exact hc k h'
theorem ok_mul {a m : Nat} {x : Str} {n : Int} (hx : OK a x) (h0 : 0 ≤ n) (hn : n ≤ m) : OK (a * m) (Txt.mul x n) := by
  refine ⟨?_, ?_⟩
  · have e := len_mul x n
    rw [if_neg (by simp; omega)] at e
    have h1 := hx.1
    have h2 : x.length * n.toNat ≤ a * m := Nat.mul_le_mul h1 (by omega)
    have h3 : ((x.length * n.toNat : Nat) : Int) = (x.length : Int) * n := by rw [Int.natCast_mul]; congr 1; omega
    omega
  · intro c hc
    simp only [C, KStt.codes, List.mem_map] at hc
    obtain ⟨k, hk, rfl⟩ := hc
    have hxk : ∀ k ∈ x.cps.toList, k < 2048 := fun k hk => by
      have := hx.2 (k : Int) (by simp only [C, KStt.codes, List.mem_map]; exact ⟨k, hk, rfl⟩)
      omega
    have : k < 2048 := by
      unfold Txt.mul at hk
      split at hk
      · simp [Str.empty] at hk
      · split at hk
        · exact hxk k hk
        · exact reps_codes x.cps (· < 2048) hxk _ #[] (by simp) k hk
    omega
end Mine
end PartR1
section PartQ17
open PySem PySem.W PyProof.Rows
namespace Mine
theorem News_swap {g h : Heap} {L : Addr} {a b : Addr × Obj} {r : List (Addr × Obj)} (N : News g L h (a :: b :: r)) : News g L h (b :: a :: r) :=
  cb_drop N (fun p hp => by
    cases hp with
    | head => exact .tail _ (.head _)
    | tail _ hp =>
      cases hp with
      | head => exact .head _
      | tail _ hp => exact .tail _ (.tail _ hp))
theorem News_del {g h : Heap} {L : Addr} {a b : Addr × Obj} {r : List (Addr × Obj)} (N : News g L h (a :: b :: r)) : News g L h (a :: r) :=
  cb_drop N (fun p hp => by
    cases hp with
    | head => exact .head _
    | tail _ hp => exact .tail _ (.tail _ hp))
theorem ne_cons {l d : Addr} {o : Obj} {r : List (Addr × Obj)} {g hh : Heap} {L : Addr} {b : Addr × Obj} (_ : News g L hh ((d, o) :: b :: r)) (h : ∀ z ∈ r, z.1 ≠ l) (hd : d ≠ l) : ∀ z ∈ (d, o) :: r, z.1 ≠ l := by
  intro z hz
  cases hz with
  | head => exact hd
  | tail _ hz => exact h z hz
theorem mul_ok {prog : Program} {w : World} {A : Around} {E : Value → Shared → Prop} {s : Shared} {x : Str} {t u : Tok} {i : Int} {Q : Value → Shared → Prop} (hx : OK 4 x) (h0 : 0 ≤ i) (h1 : i ≤ 100) (h : ∀ t' k, OK 400 (Txt.mul x i) → Q (.str (Txt.mul x i) t') { s with toks := k }) :
    wpAny (model prog w) A (binaryOp .Mult (.str x t) (.int i u)) Q E s :=
  KXi.mul (n := x.length) rfl (Nat.le_trans hx.1 (by decide)) (by omega) (by omega) (fun t' k _ _ => h t' k (ok_mul (m := 100) hx h0 (by omega)))
theorem spec_fig {prog : Program} {w : World} {p : Program} {loose : List Str} {mean : ExcName → Option Value} {mg mb : Str → Option Value}
    {dp un : Nat} {gd : Option (List Code)} {cn : Str} {cs : Scope} {a : Addr} {ccd : Value} {cl : List (Str × Addr)} {outer : List Env} {A₀ : Around} {base h₀ : Heap} {L : Addr} {m : Str → Option Value} {news : List (Addr × Obj)} {s : Shared} {Q E : Value → Shared → Prop} (l : Addr) (b1 b2 : Int) (t1 t2 : Tok) (k0 : Nat) (hp : 0 ≤ b1) (hq0 : 0 ≤ b2) (hq : b2 < 2147483647) (hl : ∀ z ∈ news, z.1 ≠ l)
    (B : Below A₀ base outer h₀) (F : Fr h₀ L s.heap m) (X : Frag.In (hdG.heap_39 w.params) h₀) (N : News h₀ L s.heap ((l, listOf #[.int b1 t1, .int b2 t2] k0) :: news)) (T : Top p loose mean mg mb h₀) (hk : cs.kind = .function) (hdp : dp + 3 < recursionLimit) (hun : un + 24 < cLine)
    (ret : ∀ (x : Str) (t : Tok) (b1' b2' : Int) (t1' t2' : Tok) (k' : Nat) h' tk', OK 400 x → 0 ≤ b1' → 0 ≤ b2' → b2' < 2147483647 → Fr h₀ L h' m → News h₀ L h' ((l, listOf #[.int b1' t1', .int b2' t2'] k') :: news) → Q (.str x t) { s with heap := h', toks := tk' }) :
    wpAny (model prog w) (ktrTop dp un gd cn cs L a ccd cl outer) (call (.ref 149) [.ref l]) Q E s := by
  w_top off
  k_with_none
  k_with "call ref" => (k_here; k_dflt ((show wpAny _ _ (call (Value.ref 135) [Value.ref _, Value.int _ _]) _ _ _); rename News _ _ _ _ => nT; refine' spec_take _ _ _ _ _ _ _ _ (by assumption) (by assumption) (by assumption) (by omega) (by omega) (by assumption) (by k_asm) (by k_asm) (by k_asm) nT (by k_asm) (by first | exact rfl | assumption) (by ktr_room) (by ktr_units) ?_); intro b8 b9 r9 t7 t8 t9 k9 h9 tk9 o1 o2 o3 o4 o5 F9 N9; (try k_sweep); (try dsimp only))
  k_with "call ref" => (k_here; k_dflt ((show wpAny _ _ (call (Value.ref 142) [Value.ref _, Value.ref _]) _ _ _); rename News _ _ _ _ => nT; have nS := News_swap nT; have hlS := ne_cons nT (by assumption) (Nat.ne_of_gt (And.left (by assumption))); clear nT; refine' spec_one _ _ _ _ _ _ (by assumption) (by assumption) (by assumption) hlS _ _ _ _ (OK 4) (by exact List.Mem.head _) (by first | exact (StrsAre.cons _ _ (StrsAre.cons _ _ (StrsAre.cons _ _ StrsAre.nil))) | exact (StrsAre.cons _ _ (StrsAre.cons _ _ (StrsAre.cons _ _ (StrsAre.cons _ _ (StrsAre.cons _ _ (StrsAre.cons _ _ (StrsAre.cons _ _ (StrsAre.cons _ _ StrsAre.nil)))))))) | exact (StrsAre.cons _ _ (StrsAre.cons _ _ (StrsAre.cons _ _ (StrsAre.cons _ _ (StrsAre.cons _ _ (StrsAre.cons _ _ (StrsAre.cons _ _ (StrsAre.cons _ _ (StrsAre.cons _ _ (StrsAre.cons _ _ StrsAre.nil)))))))))) | exact (StrsAre.cons _ _ (StrsAre.cons _ _ (StrsAre.cons _ _ (StrsAre.cons _ _ (StrsAre.cons _ _ (StrsAre.cons _ _ (StrsAre.cons _ _ (StrsAre.cons _ _ (StrsAre.cons _ _ (StrsAre.cons _ _ (StrsAre.cons _ _ (StrsAre.cons _ _ (StrsAre.cons _ _ (StrsAre.cons _ _ (StrsAre.cons _ _ StrsAre.nil)))))))))))))))) (by decide) (by decide) (by unfold OK; decide +kernel) (by k_asm) (by k_asm) (by k_asm) nS (by k_asm) (by first | exact rfl | assumption) (by ktr_room) (by ktr_units) ?_); intro x9 t6 b8 b9 t7 t8 k9 h9 tk9 o0 o1 o2 o3 F9 N9; clear nS; (try k_sweep); (try dsimp only))
  k_with "binaryOp Mult str int" => (k_here; k_dflt (refine mul_ok (by assumption) (by omega) (by omega) ?_); intro _ _ _)
  k_with "call type:str" => (k_here; (have e63 : (2:Int) ^ Int.toNat 63 = 9223372036854775808 := by decide); (with_reducible show wpAny _ _ (call (Value.type "str") [Value.int _ _]) _ _ _); kt_str)
  refine wpAny_call ?_
  k_dflt cell_enter
  k_steps
  all_goals rename News _ _ _ _ => nz
  · exact ret _ _ _ _ _ _ _ _ _ (ok_le (ok_num (by assumption) (by omega)) (by decide)) (by assumption) (by assumption) (by assumption) (by assumption) nz
  · exact ret _ _ _ _ _ _ _ _ _ (ok_le (ok_app (ok_mul (a := 1) (m := 24) (by unfold OK; decide +kernel) (by assumption) (by omega)) (ok_num (by assumption) (by omega))) (by decide)) (by assumption) (by assumption) (by assumption) (by assumption) nz
  · exact ret _ _ _ _ _ _ _ _ _ (by assumption) (by assumption) (by assumption) (by assumption) (by assumption) (News_del nz)
  · exact ret _ _ _ _ _ _ _ _ _ (ok_le (ok_num (by omega) (by omega)) (by decide)) (by assumption) (by assumption) (by assumption) (by assumption) nz
end Mine
end PartQ17
section PartQ18
open PySem PySem.W PyProof.Rows
namespace Mine
theorem add_ok {prog : Program} {w : World} {A : Around} {E : Value → Shared → Prop} {s : Shared} {x y : Str} {t u : Tok} {a b : Nat} {Q : Value → Shared → Prop} (hx : OK a x) (hy : OK b y) (hab : a + b ≤ 1000) (h : ∀ t' k, OK (a + b) (x ++ y) → Q (.str (x ++ y) t') { s with toks := k }) :
    wpAny (model prog w) A (binaryOp .Add (.str x t) (.str y u)) Q E s :=
  add_str (fun t' k => h t' k (ok_app hx hy)) (Nat.le_trans (Nat.add_le_add hx.1 hy.1) (Nat.le_trans hab (by decide)))
theorem spec_text {prog : Program} {w : World} {p : Program} {loose : List Str} {mean : ExcName → Option Value} {mg mb : Str → Option Value}
    {dp un : Nat} {gd : Option (List Code)} {cn : Str} {cs : Scope} {a : Addr} {ccd : Value} {cl : List (Str × Addr)} {outer : List Env} {A₀ : Around} {base h₀ : Heap} {L : Addr} {m : Str → Option Value} {news : List (Addr × Obj)} {s : Shared} {Q E : Value → Shared → Prop} (l : Addr) (b1 b2 : Int) (t1 t2 : Tok) (k0 : Nat) (hp : 0 ≤ b1) (hq0 : 0 ≤ b2) (hq : b2 < 2147483647) (hl : ∀ z ∈ news, z.1 ≠ l)
    (B : Below A₀ base outer h₀) (F : Fr h₀ L s.heap m) (X : Frag.In (hdG.heap_39 w.params) h₀) (N : News h₀ L s.heap ((l, listOf #[.int b1 t1, .int b2 t2] k0) :: news)) (T : Top p loose mean mg mb h₀) (hk : cs.kind = .function) (hdp : dp + 4 < recursionLimit) (hun : un + 32 < cLine)
    (ret : ∀ (x : Str) (t : Tok) (b1' b2' : Int) (t1' t2' : Tok) (k' : Nat) h' tk', OK 450 x → 0 ≤ b1' → 0 ≤ b2' → b2' < 2147483647 → Fr h₀ L h' m → News h₀ L h' ((l, listOf #[.int b1' t1', .int b2' t2'] k') :: news) → Q (.str x t) { s with heap := h', toks := tk' }) :
    wpAny (model prog w) (ktrTop dp un gd cn cs L a ccd cl outer) (call (.ref 156) [.ref l]) Q E s := by
  w_top off
  k_with_none
  k_with "call ref" => (k_here; k_dflt ((show wpAny _ _ (call (Value.ref 135) [Value.ref _, Value.int _ _]) _ _ _); rename News _ _ _ _ => nT; refine' spec_take _ _ _ _ _ _ _ _ (by assumption) (by assumption) (by assumption) (by omega) (by omega) (by assumption) (by k_asm) (by k_asm) (by k_asm) nT (by k_asm) (by first | exact rfl | assumption) (by ktr_room) (by ktr_units) ?_); intro b8 b9 r9 t7 t8 t9 k9 h9 tk9 o1 o2 o3 o4 o5 F9 N9; (try k_sweep); (try dsimp only))
  k_with "call ref" => (k_here; k_dflt ((show wpAny _ _ (call (Value.ref 142) [Value.ref _, Value.ref _]) _ _ _); rename News _ _ _ _ => nT; have nS := News_swap nT; have hlS := ne_cons nT (by assumption) (Nat.ne_of_gt (And.left (by assumption))); clear nT; refine' spec_one _ _ _ _ _ _ (by assumption) (by assumption) (by assumption) hlS _ _ _ _ (OK 4) (by exact List.Mem.head _) (by first | exact (StrsAre.cons _ _ (StrsAre.cons _ _ (StrsAre.cons _ _ StrsAre.nil))) | exact (StrsAre.cons _ _ (StrsAre.cons _ _ (StrsAre.cons _ _ (StrsAre.cons _ _ (StrsAre.cons _ _ (StrsAre.cons _ _ (StrsAre.cons _ _ (StrsAre.cons _ _ StrsAre.nil)))))))) | exact (StrsAre.cons _ _ (StrsAre.cons _ _ (StrsAre.cons _ _ (StrsAre.cons _ _ (StrsAre.cons _ _ (StrsAre.cons _ _ (StrsAre.cons _ _ (StrsAre.cons _ _ (StrsAre.cons _ _ (StrsAre.cons _ _ StrsAre.nil)))))))))) | exact (StrsAre.cons _ _ (StrsAre.cons _ _ (StrsAre.cons _ _ (StrsAre.cons _ _ (StrsAre.cons _ _ (StrsAre.cons _ _ (StrsAre.cons _ _ (StrsAre.cons _ _ (StrsAre.cons _ _ (StrsAre.cons _ _ (StrsAre.cons _ _ (StrsAre.cons _ _ (StrsAre.cons _ _ (StrsAre.cons _ _ (StrsAre.cons _ _ StrsAre.nil)))))))))))))))) (by decide) (by decide) (by unfold OK; decide +kernel) (by k_asm) (by k_asm) (by k_asm) nS (by k_asm) (by first | exact rfl | assumption) (by ktr_room) (by ktr_units) ?_); intro x9 t6 b8 b9 t7 t8 k9 h9 tk9 o0 o1 o2 o3 F9 N9; clear nS; (try k_sweep); (try dsimp only))
  k_with "call ref" => (k_here; k_dflt ((show wpAny _ _ (call (Value.ref 149) [Value.ref _]) _ _ _); rename News _ _ _ _ => nT; refine' spec_fig _ _ _ _ _ _ (by assumption) (by assumption) (by assumption) (by assumption) (by k_asm) (by k_asm) (by k_asm) nT (by k_asm) (by first | exact rfl | assumption) (by ktr_room) (by ktr_units) ?_); intro x9 t6 b8 b9 t7 t8 k9 h9 tk9 o0 o1 o2 o3 F9 N9; (try k_sweep); (try dsimp only))
  k_with "binaryOp Add str str" => (k_here; k_dflt (first | refine add_ok (by assumption) (by assumption) (by decide) ?_ | refine add_ok (b := 0) (by assumption) (by unfold OK; decide +kernel) (by decide) ?_); intro _ _ _)
  refine wpAny_call ?_
  k_dflt cell_enter
  k_steps
  all_goals rename News _ _ _ _ => nz
  all_goals exact ret _ _ _ _ _ _ _ _ _ (ok_le (by assumption) (by decide)) (by assumption) (by assumption) (by assumption) (by assumption) (News_del (News_del (News_del nz)))
end Mine
end PartQ18
section PartQ19
open PySem PySem.W PyProof.Rows
namespace Mine
theorem len_ni {vs : List Value} {ns : List Int} (h : IntsAre vs ns) : ((vs.toArray.size : Nat) : Int) = ns.length := by rw [List.size_toArray, h.length]
theorem pool_nn (c : Int) (d : Bool) : 0 ≤ (if -1 - c > c then -1 - c else c) * (if d then 1 else 0) := by
  refine Int.mul_nonneg ?_ ?_
  · split <;> omega
  · split <;> omega
theorem spec_pool {prog : Program} {w : World} {p : Program} {loose : List Str} {mean : ExcName → Option Value} {mg mb : Str → Option Value}
    {dp un : Nat} {gd : Option (List Code)} {cn : Str} {cs : Scope} {a : Addr} {ccd : Value} {cl : List (Str × Addr)} {outer : List Env} {A₀ : Around} {base h₀ : Heap} {L : Addr} {m : Str → Option Value} {news : List (Addr × Obj)} {s : Shared} {Q E : Value → Shared → Prop} (sc : Addr) (vs : List Value) (ns : List Int) (k : Int) (tk0 : Tok) (hS : h₀.IsList sc vs.toArray) (hi : IntsAre vs ns) (hlen : ns.length ≤ 63) (hk0 : 0 ≤ k) (hk1 : k < 4)
    (B : Below A₀ base outer h₀) (F : Fr h₀ L s.heap m) (X : Frag.In (hdG.heap_39 w.params) h₀) (N : News h₀ L s.heap news) (T : Top p loose mean mg mb h₀) (hk : cs.kind = .function) (hdp : dp + 1 < recursionLimit) (hun : un + 8 < cLine)
    (ret : ∀ (b1 b2 : Int) (t1 t2 : Tok) (k' : Nat) (D : Addr) h' tk', 0 ≤ b1 → 0 ≤ b2 → b2 < 2147483647 → Fr h₀ L h' m → News h₀ L h' ((D, listOf #[.int b1 t1, .int b2 t2] k') :: news) → (∀ p ∈ news, p.1 < D) → Q (.ref D) { s with heap := h', toks := tk' }) :
    wpAny (model prog w) (ktrTop dp un gd cn cs L a ccd cl outer) (call (.ref 128) [.ref sc, .int k tk0]) Q E s := by
  w_top off
  k_with_none
  k_with "call builtin:len" => (k_here; k_dflt ((rename Fr _ _ _ _ => fE'); (refine PyProof.Rows.len_list (Fr.lst fE' (by assumption)) (by rw [len_ni (by assumption)]; omega) ?_); (rw [len_ni (by assumption)])))
  k_with "subscriptTail" => (k_here; k_dflt ((rename Fr _ _ _ _ => fE'); (refine item_list_ints (Fr.lst fE' (by assumption)) (by assumption) (by assumption) (by assumption) (by omega) ?_); intro t6))
  refine wpAny_call ?_
  k_dflt cell_enter
  rename Fr h₀ _ _ _ => FG1
  have hS1 := Fr.lst FG1 hS
  k_steps
  all_goals first | exact ret _ _ _ _ _ _ _ _ (pool_nn _ _) (fm_lo _ (by decide)) (fm_hi _ (by decide)) (by assumption) (by assumption) (by assumption) | exact ret _ _ _ _ _ _ _ _ (Int.mul_nonneg (by decide) (by split <;> omega)) (fm_lo _ (by decide)) (fm_hi _ (by decide)) (by assumption) (by assumption) (by assumption)
end Mine
end PartQ19
section PartR2
open PySem PySem.W PyProof.Rows
namespace Mine
def chs (l : List Char) : List Int := l.map fun c => (c.toNat : Int)
theorem C_of (t : String) : C (Str.ofString t) = chs t.toList := by
  simp only [C, KStt.codes, chs]
  rw [signs_ofString]
  simp [List.map_map]
theorem dg_ch {c : Char} (h : c.isDigit = true) : isDg (c.toNat : Int) = true := by
  obtain ⟨h1, h2⟩ := digit_range h
  simp only [isDg, Bool.and_eq_true, decide_eq_true_eq]
  omega
theorem numF_chs : ∀ (l : List Char) (n : Nat), (∀ c ∈ l, c.isDigit = true) → numF (n : Int) (chs l) = (Nat.ofDigitChars 10 l n : Nat)
  | [], n, _ => by simp [numF, chs]
  | c :: l, n, h => by
    have hc := h c (.head _)
    obtain ⟨h1, h2⟩ := digit_range hc
    have ih := numF_chs l (10 * n + (c.toNat - 48)) (fun d hd => h d (.tail _ hd))
    rw [Nat.ofDigitChars_cons]
    simp only [chs, List.map_cons, numF, List.foldl_cons, dg_ch hc, if_true] at ih ⊢
    have e : (n : Int) * 10 + ((c.toNat : Int) - 48) = ((10 * n + (c.toNat - 48) : Nat) : Int) := by omega
    rw [e]
    exact ih
theorem dg_no {c : Int} (h : isDg c = true) : isSp c = false ∧ isSg c = false ∧ c ≠ 45 := by
  simp only [isDg, isSp, isSg, Bool.and_eq_true, decide_eq_true_eq, Bool.or_eq_false_iff, Bool.and_eq_false_iff, decide_eq_false_iff_not] at h ⊢
  omega
theorem takeW_all {p : Int → Bool} : ∀ {l : List Int}, l.all p = true → (l.takeWhile p).length = l.length
  | [], _ => rfl
  | c :: l, h => by
    rw [List.all_cons, Bool.and_eq_true] at h
    rw [List.takeWhile_cons, if_pos h.1, List.length_cons, List.length_cons, takeW_all h.2]
theorem asI_dg {l : List Int} (h : l.all isDg = true) (hn : l ≠ []) : asI l = max (-9223372036854775808) (min 9223372036854775807 (numF 0 l)) := by
  cases l with
  | nil => exact absurd rfl hn
  | cons c r =>
    have hc := (Bool.and_eq_true _ _ ▸ (List.all_cons ▸ h) : isDg c = true ∧ r.all isDg = true)
    obtain ⟨s1, s2, s3⟩ := dg_no hc.1
    have eb : bE (c :: r) = 0 := runE_stop (.inl s1)
    have ea : aE (c :: r) = 0 := by
      rw [aE, eb, if_neg (by show ¬ isSg c = true; rw [s2]; simp)]
    have ee : eE (c :: r) = r.length + 1 := by
      rw [eE, ea]
      show 0 + (((c :: r).drop 0).takeWhile isDg).length = _
      rw [List.drop_zero, takeW_all h, List.length_cons]; omega
    rw [asI, if_neg (by rw [ee, ea]; omega), valL, eb, ee, List.drop_zero, Nat.sub_zero, List.take_of_length_le (by simp), numV, if_neg (by simpa using s3)]
theorem asI_neg {r : List Int} (h : r.all isDg = true) (hn : r ≠ []) : asI (45 :: r) = max (-9223372036854775808) (min 9223372036854775807 (- numF 0 r)) := by
  have hl : 0 < r.length := List.length_pos_iff.2 hn
  have eb : bE (45 :: r) = 0 := runE_stop (.inl rfl)
  have ea : aE (45 :: r) = 1 := by rw [aE, eb]; rfl
  have ee : eE (45 :: r) = r.length + 1 := by
    rw [eE, ea]
    show 1 + (((45 :: r).drop 1).takeWhile isDg).length = _
    rw [List.drop_succ_cons, List.drop_zero, takeW_all h]; omega
  rw [asI, if_neg (by rw [ee, ea]; omega), valL, eb, ee, List.drop_zero, Nat.sub_zero, List.take_of_length_le (by simp), numV, List.head?_cons, if_pos rfl]
  have : numF 0 (45 :: r) = numF 0 r := rfl
  rw [this]
theorem all_chs {l : List Char} (h : ∀ c ∈ l, c.isDigit = true) : (chs l).all isDg = true := by
  rw [List.all_eq_true]
  intro x hx
  obtain ⟨c, hc, rfl⟩ := List.mem_map.1 hx
  exact dg_ch (h c hc)
theorem dig_dg (k : Nat) : ∀ c ∈ Nat.toDigits 10 k, c.isDigit = true := fun c hc => Nat.isDigit_of_mem_toDigits (by decide) (by decide) hc
theorem num_dig (k : Nat) : numF 0 (chs (Nat.toDigits 10 k)) = k := by
  have := numF_chs (Nat.toDigits 10 k) 0 (dig_dg k)
  rw [Nat.ofDigitChars_ten_toDigits] at this
  exact this
theorem dig_ne (k : Nat) : chs (Nat.toDigits 10 k) ≠ [] := by
  intro h
  exact Nat.toDigits_ne_nil (List.map_eq_nil_iff.1 h)
/-- the number that the text of an int begins with is the int -/
theorem asI_text {n : Int} (h0 : -9223372036854775808 ≤ n) (h1 : n ≤ 9223372036854775807) : asI (C (Str.ofString (toString n))) = n := by
  rw [C_of, Int.toString_eq_repr, Int.repr_eq_if]
  split
  · rw [Nat.toList_repr, asI_dg (all_chs (dig_dg _)) (dig_ne _), num_dig]
    omega
  · rw [String.toList_append, Nat.toList_repr]
    have e : chs ("-".toList ++ Nat.toDigits 10 n.natAbs) = 45 :: chs (Nat.toDigits 10 n.natAbs) := rfl
    first
      | rw [e, asI_neg (all_chs (dig_dg _)) (dig_ne _), num_dig]; omega
      | (show asI (45 :: chs (Nat.toDigits 10 _)) = _; rw [asI_neg (all_chs (dig_dg _)) (dig_ne _), num_dig]; omega)
theorem dig_len {k m : Nat} (hm : 0 < m) (h : k < 10 ^ m) : (Nat.toDigits 10 k).length ≤ m := (Nat.length_toDigits_le_iff (by decide) hm).2 h
theorem len_of (t : String) : (Str.ofString t).length = t.toList.length := by
  rw [← len_C, C_of, chs, List.length_map]
theorem ok_text {n : Int} (h0 : -9223372036854775808 ≤ n) (h1 : n ≤ 9223372036854775807) : OK 20 (Str.ofString (toString n)) := by
  refine ⟨?_, ?_⟩
  · rw [len_of, Int.toString_eq_repr, Int.repr_eq_if]
    split
    · rw [Nat.toList_repr]
      exact dig_len (by decide) (by omega)
    · rw [String.toList_append, Nat.toList_repr, List.length_append]
      have := dig_len (k := (-n).toNat) (m := 19) (by decide) (by omega)
      have e : "-".toList.length = 1 := rfl
      first | omega | (rw [e]; omega) | (simp; omega)
  · intro c hc
    simp only [C, KStt.codes, List.mem_map] at hc
    obtain ⟨k, hk, rfl⟩ := hc
    by_cases h : k < 2048
    · exact_mod_cast h
    · exact absurd hk (int_text_free' k ⟨by omega, by omega⟩ n)
end Mine
end PartR2
section PartS1
open PySem PySem.W PyProof.Rows
namespace Mine
theorem utf8_encB {c : Nat} (h : c < 2048) : Str.utf8Of c = encB (c : Int) := by
  unfold Str.utf8Of encB
  by_cases h1 : c < 128
  · rw [if_pos h1, if_pos (by omega)]
    rfl
  · rw [if_neg h1, if_pos (by omega), if_neg (by omega)]
    have e1 : (192 + (c : Int) / 64).toNat = 0xC0 + c / 64 := by omega
    have e2 : (128 + (c : Int) % 64).toNat = 0x80 + c % 64 := by omega
    rw [e1, e2]
theorem utf8_fold : ∀ (l : List Nat) (acc : Array UInt8), (∀ c ∈ l, c < 2048) → (l.foldl (fun acc y => acc ++ (Str.utf8Of y).toArray) acc).toList = acc.toList ++ (l.map fun (n : Nat) => (n : Int)).flatMap encB
  | [], acc, _ => by simp
  | c :: l, acc, h => by
    rw [List.foldl_cons, utf8_fold l _ (fun d hd => h d (.tail _ hd)), utf8_encB (h c (.head _))]
    simp
theorem codes_lt {x : Str} (hc : ∀ c ∈ C x, c < 2048) : ∀ c ∈ x.cps.toList, c < 2048 := fun c h => by
  have := hc (c : Int) (by simp only [C, KStt.codes, List.mem_map]; exact ⟨c, h, rfl⟩)
  omega
theorem utf8_enc {x : Str} (hc : ∀ c ∈ C x, c < 2048) : x.cps.foldl (fun acc y => acc ++ (Str.utf8Of y).toArray) #[] = encL (C x) := by
  apply Array.ext'
  rw [encL_list, ← Array.foldl_toList, utf8_fold _ _ (codes_lt hc)]
  simp [C, KStt.codes]
open Builtin Builtin._codecs in
theorem enc_narrow (x : Str) (v : Value) (hx : x.length ≤ 1000) (hC : ∀ c ∈ C x, c < 2048) :
    encodeNarrow "str.encode" utf8Codec none v x = pure (encL (C x)) := by
  have hc := codes_lt hC
  have hE := utf8_enc hC
  unfold encodeNarrow
  simp only [Std.Legacy.Range.forIn_eq_forIn_range', Std.Legacy.Range.size]
  have e : (x.length - 0 + 1 - 1) / 1 = x.length := by omega
  have hs : x.length = x.cps.size := rfl
  have hbad : ∀ c ∈ x.cps.toList, utf8Codec.bad c = false := by
    intro c h
    have := hc c h
    show Str.isSurrogate c = false
    simp only [Str.isSurrogate, Bool.and_eq_false_iff, decide_eq_false_iff_not]
    omega
  rw [e]
  cases hn : x.length with
  | zero =>
    have hz : x.cps = #[] := Array.eq_empty_of_size_eq_zero (by omega)
    rw [← hE, hz]
    rfl
  | succ n =>
    rw [List.range'_succ, List.forIn_cons]
    have h0 : x.cps[0]? = some x.cps[0] := Array.getElem?_eq_getElem (by omega)
    have hb := hbad x.cps[0] (by simp)
    have hex : x.cps.extract 0 x.cps.size = x.cps := Array.extract_size
    have hf : Array.findIdx? utf8Codec.bad x.cps = none := by
      rw [Array.findIdx?_eq_none_iff]
      intro c h
      exact hbad c (by simpa using h)
    have hz : ¬ ((#[] : Array UInt8).size > sizeLine) := by rw [sizeLine_eq]; simp
    have hE' : Array.foldl (fun acc y => acc ++ (utf8Codec.bytesOf y).toArray) #[] x.cps = encL (C x) := hE
    have h1 : x.cps[x.cps.size]? = none := Array.getElem?_eq_none (Nat.le_refl _)
    have hz1 : ¬ ((encL (C x)).size > sizeLine) := by
      have := encL_size (C x)
      rw [len_C] at this
      rw [sizeLine_eq]; omega
    simp only [h0, hb, hex, hf, hz, if_false, Bool.not_false, if_true, Option.getD_none, pure_bind, Nat.zero_add, hE']
    cases n with
    | zero => rfl
    | succ k =>
      rw [List.range'_succ, List.forIn_cons]
      simp only [h1, hz1, if_false, pure_bind]
open Builtin Builtin.Str Builtin._codecs in
theorem enc_tree (x : Str) (t u : Tok) : «str.encode» ⟨[.str x t, .str (Str.ofString "utf-8") u], []⟩ = (do ret (← encodeRoad "str.encode" (.str x t) x (Str.ofString "utf-8") none)) := by
  first | rfl | kernel_rfl
open Builtin Builtin.Str Builtin._codecs in
theorem call_encode {prog : Program} {w : World} {A : Around} {E : Value → Shared → Prop} {s : Shared} {x : Str} {t u : Tok} {Q : Value → Shared → Prop} (hx : x.length ≤ 1000) (hC : ∀ c ∈ C x, c < 2048)
    (h : ∀ t' k, Q (.bytes (encL (C x)) t') { s with toks := k }) : wpAny (model prog w) A (call (.builtin "str.encode") [.str x t, .str (Str.ofString "utf-8") u]) Q E s := by
  refine call_meets F.slot_str_encode (typeIs_str _ _ _) F.entry_str_encode (F.args_str_encode_2 _ _) (S := fun _ R s => R (.ok (.ret (.bytes (encL (C x)) s.toks))) { s with toks := s.toks + 1 }) ?_ (h _ _)
  intro prog w A R s hS
  rw [enc_tree, encodeRoad_utf8, enc_narrow x _ hx hC]
  have hz1 : (encL (C x)).size ≤ sizeLine := by
    have := encL_size (C x)
    rw [len_C] at this
    rw [sizeLine_eq]; omega
  refine wpAny_bind (wpAny_bind (wpAny_pure (wpAny_mkBytes ?_ hz1)))
  exact wpAny_pure hS
end Mine
end PartS1
section PartX1
open PySem PySem.W PyProof.Rows
namespace Mine
theorem spec_asblob_str {prog : Program} {w : World} {p : Program} {loose : List Str} {mean : ExcName → Option Value} {mg mb : Str → Option Value}
    {dp un : Nat} {cn : Str} {cs : Scope} {a : Addr} {ccd : Value} {cl : List (Str × Addr)} {outer : List Env} {A₀ : Around} {base h₀ : Heap} {L : Addr} {m : Str → Option Value} {news : List (Addr × Obj)} {s : Shared} {Q : Value → Shared → Prop} (x : Str) (t : Tok) (hx : x.length ≤ 1000) (hc : ∀ c ∈ C x, c < 2048)
    (B : Below A₀ base outer h₀) (F : Fr h₀ L s.heap m) (X : Frag.In (hdG.heap_39 w.params) h₀) (N : News h₀ L s.heap news) (T : Top p loose mean mg mb h₀) (hk : cs.kind = .function) (hdp : dp + 2 < recursionLimit) (hun : un + 16 < cLine)
    (ret : ∀ t' h' tk', Fr h₀ L h' m → News h₀ L h' news → Q (.bytes (encL (C x)) t') { s with heap := h', toks := tk' }) :
    wpC (model prog w) (ktrTop dp un (some []) cn cs L a ccd cl outer) (call (.ref 107) [.str x t]) Q s := by
  w_top off
  k_with_none
  k_with "call ref" => (k_here; k_dflt ((show wpAny _ _ (call (Value.ref 100) [Value.str _ _]) _ _ _); refine' spec_astext_str _ _  (by k_asm) (by k_asm) (by k_asm) (by k_asm) (by k_asm) (by first | exact rfl | assumption) (by ktr_room) (by ktr_units) ?_); intro  h9 tk9 F9 N9; (try k_sweep); (try dsimp only))
  k_with "call ref" => (k_here; k_dflt ((show wpAny _ _ (call (Value.ref 100) [Value.int _ _]) _ _ _); refine' spec_astext_int _ _ (by assumption) (by assumption) (by k_asm) (by k_asm) (by k_asm) (by k_asm) (by k_asm) (by first | exact rfl | assumption) (by ktr_room) (by ktr_units) ?_); intro t9 h9 tk9 F9 N9; (try k_sweep); (try dsimp only))
  refine wpC_call ?_
  k_dflt (refine' codeC_def B F X N T ?kA ?kF ?kK ?k6 ?k7 ?k8 ?k9 ?kB ?_ ?c2 ?c3 ?c4 ?c5; (case kA => exact rfl); (case kF => exact rfl); (case kK => assumption); (case k6 => k_is); (case k7 => k_is); (case k8 => ktr_room); (case k9 => exact BindsTo.of_eq rfl); (case c5 => decide); (case kB => exact locs rfl); (case c2 => exact rfl); (case c3 => exact rfl); (case c4 => exact rfl))
  intro g' L' h₁ FG' F' N' B' X' T' st'
  generalize s.toks + _ = tk0
  dsimp only at F' ⊢
  refine wpC_execs_cons (wpC_If (wpC_any ?_))
  k_steps
  refine wpC_execs_nil ?_
  refine wpC_execs_cons (wpC_Return (wpC_Call_Name ?_))
  k_steps
  refine wpC_callWith_K (K := hdG.heap_39 w.params) (h₀ := h₀) (by k_is) ?_ rfl rfl
  refine wpC_spliced_more (wpC_any ?_) rfl
  k_steps
  refine wpC_spliced_nil ⟨Frag.In.keeps (by assumption) (Fr.keep (by assumption)), ?_⟩
  k_dflt (refine' spec_utf8 x _ hx hc B' (by assumption) (by assumption) (by assumption) T' rfl ?kd ?ku ?_; (case kd => ktr_room); (case ku => ktr_units))
  intro t' h' tk' F2 N2
  exact leaveK_ F2 N2 fun F3 N3 => ret _ _ _ F3 N3
theorem spec_asblob_int {prog : Program} {w : World} {p : Program} {loose : List Str} {mean : ExcName → Option Value} {mg mb : Str → Option Value}
    {dp un : Nat} {cn : Str} {cs : Scope} {a : Addr} {ccd : Value} {cl : List (Str × Addr)} {outer : List Env} {A₀ : Around} {base h₀ : Heap} {L : Addr} {m : Str → Option Value} {news : List (Addr × Obj)} {s : Shared} {Q : Value → Shared → Prop} (n : Int) (t : Tok) (hn0 : -9223372036854775808 ≤ n) (hn1 : n ≤ 9223372036854775807)
    (B : Below A₀ base outer h₀) (F : Fr h₀ L s.heap m) (X : Frag.In (hdG.heap_39 w.params) h₀) (N : News h₀ L s.heap news) (T : Top p loose mean mg mb h₀) (hk : cs.kind = .function) (hdp : dp + 2 < recursionLimit) (hun : un + 16 < cLine)
    (ret : ∀ t' h' tk', Fr h₀ L h' m → News h₀ L h' news → Q (.bytes (encL (C (Str.ofString (toString n)))) t') { s with heap := h', toks := tk' }) :
    wpC (model prog w) (ktrTop dp un (some []) cn cs L a ccd cl outer) (call (.ref 107) [.int n t]) Q s := by
  w_top off
  k_with_none
  k_with "call ref" => (k_here; k_dflt ((show wpAny _ _ (call (Value.ref 100) [Value.str _ _]) _ _ _); refine' spec_astext_str _ _  (by k_asm) (by k_asm) (by k_asm) (by k_asm) (by k_asm) (by first | exact rfl | assumption) (by ktr_room) (by ktr_units) ?_); intro  h9 tk9 F9 N9; (try k_sweep); (try dsimp only))
  k_with "call ref" => (k_here; k_dflt ((show wpAny _ _ (call (Value.ref 100) [Value.int _ _]) _ _ _); refine' spec_astext_int _ _ (by assumption) (by assumption) (by k_asm) (by k_asm) (by k_asm) (by k_asm) (by k_asm) (by first | exact rfl | assumption) (by ktr_room) (by ktr_units) ?_); intro t9 h9 tk9 F9 N9; (try k_sweep); (try dsimp only))
  have ok := ok_text hn0 hn1
  refine wpC_call ?_
  k_dflt (refine' codeC_def B F X N T ?kA ?kF ?kK ?k6 ?k7 ?k8 ?k9 ?kB ?_ ?c2 ?c3 ?c4 ?c5; (case kA => exact rfl); (case kF => exact rfl); (case kK => assumption); (case k6 => k_is); (case k7 => k_is); (case k8 => ktr_room); (case k9 => exact BindsTo.of_eq rfl); (case c5 => decide); (case kB => exact locs rfl); (case c2 => exact rfl); (case c3 => exact rfl); (case c4 => exact rfl))
  intro g' L' h₁ FG' F' N' B' X' T' st'
  generalize s.toks + _ = tk0
  dsimp only at F' ⊢
  refine wpC_execs_cons (wpC_If (wpC_any ?_))
  k_steps
  refine wpC_execs_nil ?_
  refine wpC_execs_cons (wpC_Return (wpC_Call_Name ?_))
  k_steps
  refine wpC_callWith_K (K := hdG.heap_39 w.params) (h₀ := h₀) (by k_is) ?_ rfl rfl
  refine wpC_spliced_more (wpC_any ?_) rfl
  k_steps
  refine wpC_spliced_nil ⟨Frag.In.keeps (by assumption) (Fr.keep (by assumption)), ?_⟩
  k_dflt (refine' spec_utf8 (Str.ofString (toString n)) _ (Nat.le_trans ok.1 (by decide)) ok.2 B' (by assumption) (by assumption) (by assumption) T' rfl ?kd ?ku ?_; (case kd => ktr_room); (case ku => ktr_units))
  intro t' h' tk' F2 N2
  exact leaveK_ F2 N2 fun F3 N3 => ret _ _ _ F3 N3
theorem spec_cast_blob_str {prog : Program} {w : World} {p : Program} {loose : List Str} {mean : ExcName → Option Value} {mg mb : Str → Option Value}
    {dp un : Nat} {cn : Str} {cs : Scope} {a : Addr} {ccd : Value} {cl : List (Str × Addr)} {outer : List Env} {A₀ : Around} {base h₀ : Heap} {L : Addr} {m : Str → Option Value} {news : List (Addr × Obj)} {s : Shared} {Q : Value → Shared → Prop} (x : Str) (t : Tok) (hx : x.length ≤ 1000) (hc : ∀ c ∈ C x, c < 2048) (ta : Tok)
    (B : Below A₀ base outer h₀) (F : Fr h₀ L s.heap m) (X : Frag.In (hdG.heap_39 w.params) h₀) (N : News h₀ L s.heap news) (T : Top p loose mean mg mb h₀) (hk : cs.kind = .function) (hdp : dp + 3 < recursionLimit) (hun : un + 24 < cLine)
    (ret : ∀ t' h' tk', Fr h₀ L h' m → News h₀ L h' news → Q (.bytes (encL (C x)) t') { s with heap := h', toks := tk' }) :
    wpC (model prog w) (ktrTop dp un (some []) cn cs L a ccd cl outer) (call (.ref 114) [.str x t, .str (Str.ofString "blob") ta]) Q s := by
  w_top off
  k_with_none
  k_with "call ref" => (k_here; k_dflt ((show wpAny _ _ (call (Value.ref 100) [Value.str _ _]) _ _ _); refine' spec_astext_str _ _  (by k_asm) (by k_asm) (by k_asm) (by k_asm) (by k_asm) (by first | exact rfl | assumption) (by ktr_room) (by ktr_units) ?_); intro  h9 tk9 F9 N9; (try k_sweep); (try dsimp only))
  k_with "call ref" => (k_here; k_dflt ((show wpAny _ _ (call (Value.ref 100) [Value.int _ _]) _ _ _); refine' spec_astext_int _ _ (by assumption) (by assumption) (by k_asm) (by k_asm) (by k_asm) (by k_asm) (by k_asm) (by first | exact rfl | assumption) (by ktr_room) (by ktr_units) ?_); intro t9 h9 tk9 F9 N9; (try k_sweep); (try dsimp only))
  refine wpC_call ?_
  k_dflt (refine' codeC_def B F X N T ?kA ?kF ?kK ?k6 ?k7 ?k8 ?k9 ?kB ?_ ?c2 ?c3 ?c4 ?c5; (case kA => exact rfl); (case kF => exact rfl); (case kK => assumption); (case k6 => k_is); (case k7 => k_is); (case k8 => ktr_room); (case k9 => exact BindsTo.of_eq rfl); (case c5 => decide); (case kB => exact locs rfl); (case c2 => exact rfl); (case c3 => exact rfl); (case c4 => exact rfl))
  intro g' L' h₁ FG' F' N' B' X' T' st'
  generalize s.toks + _ = tk0
  dsimp only at F' ⊢
  refine wpC_execs_cons (wpC_If (wpC_any ?_))
  k_steps
  refine wpC_execs_nil ?_
  refine wpC_execs_cons (wpC_If (wpC_any ?_))
  k_steps
  refine wpC_execs_nil ?_
  refine wpC_execs_cons (wpC_If (wpC_any ?_))
  k_steps
  refine wpC_execs_cons (wpC_Return (wpC_Call_Name ?_))
  k_steps
  refine wpC_callWith_K (K := hdG.heap_39 w.params) (h₀ := h₀) (by k_is) ?_ rfl rfl
  refine wpC_spliced_more (wpC_any ?_) rfl
  k_steps
  refine wpC_spliced_nil ⟨Frag.In.keeps (by assumption) (Fr.keep (by assumption)), ?_⟩
  k_dflt (refine' spec_asblob_str x _ hx hc B' (by assumption) (by assumption) (by assumption) T' rfl ?kd ?ku ?_; (case kd => ktr_room); (case ku => ktr_units))
  intro t' h' tk' F2 N2
  exact leaveK_ F2 N2 fun F3 N3 => ret _ _ _ F3 N3
theorem spec_cast_blob_int {prog : Program} {w : World} {p : Program} {loose : List Str} {mean : ExcName → Option Value} {mg mb : Str → Option Value}
    {dp un : Nat} {cn : Str} {cs : Scope} {a : Addr} {ccd : Value} {cl : List (Str × Addr)} {outer : List Env} {A₀ : Around} {base h₀ : Heap} {L : Addr} {m : Str → Option Value} {news : List (Addr × Obj)} {s : Shared} {Q : Value → Shared → Prop} (n : Int) (t : Tok) (hn0 : -9223372036854775808 ≤ n) (hn1 : n ≤ 9223372036854775807) (ta : Tok)
    (B : Below A₀ base outer h₀) (F : Fr h₀ L s.heap m) (X : Frag.In (hdG.heap_39 w.params) h₀) (N : News h₀ L s.heap news) (T : Top p loose mean mg mb h₀) (hk : cs.kind = .function) (hdp : dp + 3 < recursionLimit) (hun : un + 24 < cLine)
    (ret : ∀ t' h' tk', Fr h₀ L h' m → News h₀ L h' news → Q (.bytes (encL (C (Str.ofString (toString n)))) t') { s with heap := h', toks := tk' }) :
    wpC (model prog w) (ktrTop dp un (some []) cn cs L a ccd cl outer) (call (.ref 114) [.int n t, .str (Str.ofString "blob") ta]) Q s := by
  w_top off
  k_with_none
  k_with "call ref" => (k_here; k_dflt ((show wpAny _ _ (call (Value.ref 100) [Value.str _ _]) _ _ _); refine' spec_astext_str _ _  (by k_asm) (by k_asm) (by k_asm) (by k_asm) (by k_asm) (by first | exact rfl | assumption) (by ktr_room) (by ktr_units) ?_); intro  h9 tk9 F9 N9; (try k_sweep); (try dsimp only))
  k_with "call ref" => (k_here; k_dflt ((show wpAny _ _ (call (Value.ref 100) [Value.int _ _]) _ _ _); refine' spec_astext_int _ _ (by assumption) (by assumption) (by k_asm) (by k_asm) (by k_asm) (by k_asm) (by k_asm) (by first | exact rfl | assumption) (by ktr_room) (by ktr_units) ?_); intro t9 h9 tk9 F9 N9; (try k_sweep); (try dsimp only))
  refine wpC_call ?_
  k_dflt (refine' codeC_def B F X N T ?kA ?kF ?kK ?k6 ?k7 ?k8 ?k9 ?kB ?_ ?c2 ?c3 ?c4 ?c5; (case kA => exact rfl); (case kF => exact rfl); (case kK => assumption); (case k6 => k_is); (case k7 => k_is); (case k8 => ktr_room); (case k9 => exact BindsTo.of_eq rfl); (case c5 => decide); (case kB => exact locs rfl); (case c2 => exact rfl); (case c3 => exact rfl); (case c4 => exact rfl))
  intro g' L' h₁ FG' F' N' B' X' T' st'
  generalize s.toks + _ = tk0
  dsimp only at F' ⊢
  refine wpC_execs_cons (wpC_If (wpC_any ?_))
  k_steps
  refine wpC_execs_nil ?_
  refine wpC_execs_cons (wpC_If (wpC_any ?_))
  k_steps
  refine wpC_execs_nil ?_
  refine wpC_execs_cons (wpC_If (wpC_any ?_))
  k_steps
  refine wpC_execs_cons (wpC_Return (wpC_Call_Name ?_))
  k_steps
  refine wpC_callWith_K (K := hdG.heap_39 w.params) (h₀ := h₀) (by k_is) ?_ rfl rfl
  refine wpC_spliced_more (wpC_any ?_) rfl
  k_steps
  refine wpC_spliced_nil ⟨Frag.In.keeps (by assumption) (Fr.keep (by assumption)), ?_⟩
  k_dflt (refine' spec_asblob_int n _ hn0 hn1 B' (by assumption) (by assumption) (by assumption) T' rfl ?kd ?ku ?_; (case kd => ktr_room); (case ku => ktr_units))
  intro t' h' tk' F2 N2
  exact leaveK_ F2 N2 fun F3 N3 => ret _ _ _ F3 N3
end Mine
end PartX1
section PartX0
open PySem PySem.W PyProof.Rows
namespace Mine
theorem spec_same1_ii {prog : Program} {w : World} {p : Program} {loose : List Str} {mean : ExcName → Option Value} {mg mb : Str → Option Value}
    {dp un : Nat} {gd : Option (List Code)} {cn : Str} {cs : Scope} {a : Addr} {ccd : Value} {cl : List (Str × Addr)} {outer : List Env} {A₀ : Around} {base h₀ : Heap} {L : Addr} {m : Str → Option Value} {news : List (Addr × Obj)} {s : Shared} {Q E : Value → Shared → Prop} (n : Int) (t u : Tok)
    (B : Below A₀ base outer h₀) (F : Fr h₀ L s.heap m) (X : Frag.In (hdG.heap_39 w.params) h₀) (N : News h₀ L s.heap news) (T : Top p loose mean mg mb h₀) (hk : cs.kind = .function) (hdp : dp + 1 < recursionLimit) (hun : un + 8 < cLine)
    (ret : ∀ h' tk', Fr h₀ L h' m → News h₀ L h' news → Q (.bool true) { s with heap := h', toks := tk' }) :
    wpAny (model prog w) (ktrTop dp un gd cn cs L a ccd cl outer) (call (.ref 182) [.int n t, .int n u]) Q E s := by
  exact spec_same_ii n n t u B F X N T hk hdp hun (fun h' tk' F' N' => q_bool (ret h' tk' F' N') (decide_eq_true rfl).symm)
theorem spec_same1_ss {prog : Program} {w : World} {p : Program} {loose : List Str} {mean : ExcName → Option Value} {mg mb : Str → Option Value}
    {dp un : Nat} {gd : Option (List Code)} {cn : Str} {cs : Scope} {a : Addr} {ccd : Value} {cl : List (Str × Addr)} {outer : List Env} {A₀ : Around} {base h₀ : Heap} {L : Addr} {m : Str → Option Value} {news : List (Addr × Obj)} {s : Shared} {Q E : Value → Shared → Prop} (x : Str) (t u : Tok)
    (B : Below A₀ base outer h₀) (F : Fr h₀ L s.heap m) (X : Frag.In (hdG.heap_39 w.params) h₀) (N : News h₀ L s.heap news) (T : Top p loose mean mg mb h₀) (hk : cs.kind = .function) (hdp : dp + 1 < recursionLimit) (hun : un + 8 < cLine)
    (ret : ∀ h' tk', Fr h₀ L h' m → News h₀ L h' news → Q (.bool true) { s with heap := h', toks := tk' }) :
    wpAny (model prog w) (ktrTop dp un gd cn cs L a ccd cl outer) (call (.ref 182) [.str x t, .str x u]) Q E s := by
  exact spec_same_ss x x t u B F X N T hk hdp hun (fun h' tk' F' N' => q_bool (ret h' tk' F' N') (decide_eq_true rfl).symm)
theorem spec_same1_bb {prog : Program} {w : World} {p : Program} {loose : List Str} {mean : ExcName → Option Value} {mg mb : Str → Option Value}
    {dp un : Nat} {gd : Option (List Code)} {cn : Str} {cs : Scope} {a : Addr} {ccd : Value} {cl : List (Str × Addr)} {outer : List Env} {A₀ : Around} {base h₀ : Heap} {L : Addr} {m : Str → Option Value} {news : List (Addr × Obj)} {s : Shared} {Q E : Value → Shared → Prop} (x : Array UInt8) (t u : Tok) (hx : x.size ≤ 4000)
    (B : Below A₀ base outer h₀) (F : Fr h₀ L s.heap m) (X : Frag.In (hdG.heap_39 w.params) h₀) (N : News h₀ L s.heap news) (T : Top p loose mean mg mb h₀) (hk : cs.kind = .function) (hdp : dp + 1 < recursionLimit) (hun : un + 8 < cLine)
    (ret : ∀ h' tk', Fr h₀ L h' m → News h₀ L h' news → Q (.bool true) { s with heap := h', toks := tk' }) :
    wpAny (model prog w) (ktrTop dp un gd cn cs L a ccd cl outer) (call (.ref 182) [.bytes x t, .bytes x u]) Q E s := by
  exact spec_same_bb x x t u hx hx B F X N T hk hdp hun (fun h' tk' F' N' => q_bool (ret h' tk' F' N') (decide_eq_true rfl).symm)
end Mine
end PartX0
section PartX2
open PySem PySem.W PySem.Spec PySem.Calls PyProof.Rows
namespace Mine
section
variable {prog : Program} {w : World} {A : Around} {s : Shared} {env : Env} {h₀ : Heap}
theorem codeC_tuple {R : Result → Shared → Prop} {x : Str} {px : Pos} {body : List Stmt} {t : Addr} {items : Array Value} {m : Str → Option Value} {news : List (Addr × Obj)} (hh : A.handled = none)
    (hx : env.kindOf x = some .local) (hp : (env.scope.kind == .class || (env.scope.kind == .module && env.locals != env.globals)) = false)
    (F : Fr h₀ env.locals s.heap m) (N : News h₀ env.locals s.heap news) (ht : h₀.IsTuple t items) (J : Nat → (Str → Option Value) → List (Addr × Obj) → Prop) (h0 : J 0 m news)
    (step : ∀ i v m₁ news₁ h tk own, i < items.size → items[i]? = some v → news₁.map (·.1) = news.map (·.1) → OwnOff own (news.map (·.1)) → J i m₁ news₁ → Fr h₀ env.locals h (fun y => if y = x then some v else m₁ y) → News h₀ env.locals h (news₁ ++ own) →
      wpC (model prog w) A (execs body env) (fun f s₂ => match f with | .ret v => R (.ok (.ret v)) s₂ | .brk => R (.ok .next) s₂ | _ => InvEndN h₀ env.locals (J (i + 1)) own (news.map (·.1)) { s with heap := h, toks := tk } s₂) { s with heap := h, toks := tk })
    (done : ∀ h' tk m' news', Fr h₀ env.locals h' m' → News h₀ env.locals h' news' → J items.size m' news' → R (.ok .next) { s with heap := h', toks := tk }) :
    wpAny (model prog w) A (pyIter (.ref t)) (fun it s₂ => codeC (model prog w) A (.forLoop (.Name x px) it body [] env) R s₂) (fun _ _ => False) s := by
  obtain ⟨o, ho, hc, hn⟩ := id ht
  have ht1 : s.heap.IsTuple t items := ⟨o, F.keep _ _ ho, hc, hn⟩
  refine wpAny_pyIter_tuple ht1 ?_
  have hlt : t < s.heap.objs.size := Heap.lt_size (F.keep _ _ ho)
  have hne : t ≠ s.heap.objs.size := Nat.ne_of_lt hlt
  have W := Walks.tuple (prog := prog) (w := w) hh s.heap.objs.size t hne items
  have hL : env.locals ∉ [s.heap.objs.size, t] := by
    intro hm
    rcases List.mem_cons.1 hm with e | hm
    · exact absurd F.ns.lt (e ▸ Nat.lt_irrefl _)
    · have e := List.mem_singleton.1 hm
      exact absurd (Nat.lt_of_lt_of_le (Heap.lt_size ho) F.above) (e ▸ Nat.lt_irrefl _)
  have hI : ∀ q ∈ news, q.1 ∉ [s.heap.objs.size, t] := by
    intro q hq hm
    rcases List.mem_cons.1 hm with e | hm
    · exact absurd (Heap.lt_size (N q hq).1) (e ▸ Nat.lt_irrefl _)
    · have e := List.mem_singleton.1 hm
      have := (N q hq).2.2
      rw [e, ho] at this
      cases this
  refine codeC_walk (h₀ := h₀) (m := m) (news := news) W hx hp hL ?_ hI ⟨⟨_, Heap.get?_push_size _ rfl, rfl, rfl⟩, ht1.push _⟩ (F.push _) (fun p hp => ⟨Heap.get?_push_of_some _ (N p hp).1, (N p hp).2⟩) J h0 step done
  intro b' hb
  rw [List.mem_singleton.mp hb]
  exact next_is_new F
end
theorem tup15 {h₀ : Heap} {w : World} (X : Frag.In (hdG.heap_39 w.params) h₀) :
    ∃ t1 t2 t3 t4, h₀.IsTuple 15 #[.str (Str.ofString "integer") t1, .str (Str.ofString "numeric") t2, .str (Str.ofString "text") t3, .str (Str.ofString "blob") t4] := ⟨_, _, _, _, ⟨_, X 15 _ rfl, rfl, _, rfl⟩⟩
theorem encL_small {x : Str} (hx : x.length ≤ 1000) : (encL (C x)).size ≤ 4000 := by
  have := encL_size (C x)
  rw [len_C] at this
  omega
theorem fr_say5 {h₀ h : Heap} {L : Addr} {m : Str → Option Value} {x1 x2 x3 x4 x5 : Str} {v1 v2 v3 v4 v5 : Value} (F : Fr h₀ L h (fun y => if y = x1 then some v1 else m y)) (e2 : m x2 = some v2) (e3 : m x3 = some v3) (e4 : m x4 = some v4) (e5 : m x5 = some v5) :
    Fr h₀ L h (fun y => if y = x1 then some v1 else if y = x2 then some v2 else if y = x3 then some v3 else if y = x4 then some v4 else if y = x5 then some v5 else m y) := by
  have e : (fun y => if y = x1 then some v1 else if y = x2 then some v2 else if y = x3 then some v3 else if y = x4 then some v4 else if y = x5 then some v5 else m y) = fun y => if y = x1 then some v1 else m y := by
    funext y
    by_cases h1 : y = x1
    · rw [if_pos h1, if_pos h1]
    · rw [if_neg h1, if_neg h1]
      by_cases h2 : y = x2
      · rw [if_pos h2, h2, e2]
      · rw [if_neg h2]
        by_cases h3 : y = x3
        · rw [if_pos h3, h3, e3]
        · rw [if_neg h3]
          by_cases h4 : y = x4
          · rw [if_pos h4, h4, e4]
          · rw [if_neg h4]
            by_cases h5 : y = x5
            · rw [if_pos h5, h5, e5]
            · rw [if_neg h5]
  rw [e]; exact F
theorem fr_say4 {h₀ h : Heap} {L : Addr} {m : Str → Option Value} {x2 x3 x4 x5 : Str} {v2 v3 v4 v5 : Value} (F : Fr h₀ L h m) (e2 : m x2 = some v2) (e3 : m x3 = some v3) (e4 : m x4 = some v4) (e5 : m x5 = some v5) :
    Fr h₀ L h (fun y => if y = x2 then some v2 else if y = x3 then some v3 else if y = x4 then some v4 else if y = x5 then some v5 else m y) := by
  have e : (fun y => if y = x2 then some v2 else if y = x3 then some v3 else if y = x4 then some v4 else if y = x5 then some v5 else m y) = m := by
    funext y
    by_cases h2 : y = x2
    · rw [if_pos h2, h2, e2]
    · rw [if_neg h2]
      by_cases h3 : y = x3
      · rw [if_pos h3, h3, e3]
      · rw [if_neg h3]
        by_cases h4 : y = x4
        · rw [if_pos h4, h4, e4]
        · rw [if_neg h4]
          by_cases h5 : y = x5
          · rw [if_pos h5, h5, e5]
          · rw [if_neg h5]
  rw [e]; exact F
theorem asI_lo (l : List Int) : -9223372036854775808 ≤ asI l := by
  unfold asI; split <;> omega
theorem asI_hi (l : List Int) : asI l ≤ 9223372036854775807 := by
  unfold asI; split <;> omega
theorem spec_cast_again {prog : Program} {w : World} {p : Program} {loose : List Str} {mean : ExcName → Option Value} {mg mb : Str → Option Value}
    {dp un : Nat} {gd : Option (List Code)} {cn : Str} {cs : Scope} {a : Addr} {ccd : Value} {cl : List (Str × Addr)} {outer : List Env} {A₀ : Around} {base h₀ : Heap} {L : Addr} {m : Str → Option Value} {news : List (Addr × Obj)} {s : Shared} {Q E : Value → Shared → Prop} (n : Int) (t : Tok) (hn0 : -9223372036854775808 ≤ n) (hn1 : n ≤ 9223372036854775807) (ta : Tok)
    (B : Below A₀ base outer h₀) (F : Fr h₀ L s.heap m) (X : Frag.In (hdG.heap_39 w.params) h₀) (N : News h₀ L s.heap news) (T : Top p loose mean mg mb h₀) (hk : cs.kind = .function) (hdp : dp + 4 < recursionLimit) (hun : un + 32 < cLine)
    (ret : ∀ t' h' tk', Fr h₀ L h' m → News h₀ L h' news → Q (.int n t') { s with heap := h', toks := tk' }) :
    wpAny (model prog w) (ktrTop dp un gd cn cs L a ccd cl outer) (call (.ref 114) [.str (Str.ofString (toString n)) t, .str (Str.ofString "integer") ta]) Q E s := by
  exact spec_cast_num_str _ t (Nat.le_trans (ok_text hn0 hn1).1 (by decide)) _ ta (.inl rfl) B F X N T hk hdp hun (fun t' h' tk' F' N' => q_int (ret t' h' tk' F' N') (asI_text hn0 hn1).symm)
theorem spec_castsright {prog : Program} {w : World} {p : Program} {loose : List Str} {mean : ExcName → Option Value} {mg mb : Str → Option Value}
    {dp un : Nat} {cn : Str} {cs : Scope} {a : Addr} {ccd : Value} {cl : List (Str × Addr)} {outer : List Env} {A₀ : Around} {base h₀ : Heap} {L : Addr} {m : Str → Option Value} {news : List (Addr × Obj)} {s : Shared} {Q : Value → Shared → Prop} (x : Str) (t : Tok) (tb : Tok) (tn : Tok) (hx : x.length ≤ 1000) (hc : ∀ c ∈ C x, c < 2048)
    (B : Below A₀ base outer h₀) (F : Fr h₀ L s.heap m) (X : Frag.In (hdG.heap_39 w.params) h₀) (N : News h₀ L s.heap news) (T : Top p loose mean mg mb h₀) (hk : cs.kind = .function) (hdp : dp + 5 < recursionLimit) (hun : un + 40 < cLine)
    (ret : ∀ h' tk', Fr h₀ L h' m → News h₀ L h' news → Q (.bool true) { s with heap := h', toks := tk' }) :
    wpC (model prog w) (ktrTop dp un (some []) cn cs L a ccd cl outer) (call (.ref 189) [.str x t, .bytes (encL (C x)) tb, .int (asI (C x)) tn]) Q s := by
  w_top off
  k_with_none
  k_with "call ref" => (k_here; k_dflt ((show wpAny _ _ (call (Value.ref 182) [Value.int _ _, Value.int _ _]) _ _ _); refine' spec_same1_ii _ _ _ (by k_asm) (by k_asm) (by k_asm) (by k_asm) (by k_asm) (by first | exact rfl | assumption) (by ktr_room) (by ktr_units) ?_); intro h9 tk9 F9 N9; (try k_sweep); (try dsimp only))
  k_with "call ref" => (k_here; k_dflt ((show wpAny _ _ (call (Value.ref 182) [Value.str _ _, Value.str _ _]) _ _ _); refine' spec_same1_ss _ _ _ (by k_asm) (by k_asm) (by k_asm) (by k_asm) (by k_asm) (by first | exact rfl | assumption) (by ktr_room) (by ktr_units) ?_); intro h9 tk9 F9 N9; (try k_sweep); (try dsimp only))
  k_with "call ref" => (k_here; k_dflt ((show wpAny _ _ (call (Value.ref 182) [Value.bytes _ _, Value.bytes _ _]) _ _ _); refine' spec_same1_bb _ _ _ (by exact encL_small (by assumption)) (by k_asm) (by k_asm) (by k_asm) (by k_asm) (by k_asm) (by first | exact rfl | assumption) (by ktr_room) (by ktr_units) ?_); intro h9 tk9 F9 N9; (try k_sweep); (try dsimp only))
  k_with "call ref" => (k_here; k_dflt ((show wpAny _ _ (call (Value.ref 114) [Value.none, Value.str _ _]) _ _ _); refine' spec_cast_none _ _ (by k_asm) (by k_asm) (by k_asm) (by k_asm) (by k_asm) (by first | exact rfl | assumption) (by ktr_room) (by ktr_units) ?_); intro h9 tk9 F9 N9; (try k_sweep); (try dsimp only))
  k_with "call ref" => (k_here; k_dflt ((show wpAny _ _ (call (Value.ref 86) [Value.none, Value.str _ _]) _ _ _); refine' spec_aff_none _ _ (by first | exact .inl rfl | exact .inr (.inl rfl) | exact .inr (.inr (.inl rfl)) | exact .inr (.inr (.inr rfl))) (by k_asm) (by k_asm) (by k_asm) (by k_asm) (by k_asm) (by first | exact rfl | assumption) (by ktr_room) (by ktr_units) ?_); intro h9 tk9 F9 N9; (try k_sweep); (try dsimp only))
  k_with "call ref" => (k_here; k_dflt ((show wpAny _ _ (call (Value.ref 114) [Value.str _ _, Value.str _ _]) _ _ _); refine' spec_cast_num_str _ _ (by assumption) _ _ (by first | exact .inl rfl | exact .inr rfl) (by k_asm) (by k_asm) (by k_asm) (by k_asm) (by k_asm) (by first | exact rfl | assumption) (by ktr_room) (by ktr_units) ?_); intro t9 h9 tk9 F9 N9; (try k_sweep); (try dsimp only))
  k_with "call ref" => (k_here; k_dflt ((show wpAny _ _ (call (Value.ref 114) [Value.bytes _ _, Value.str _ _]) _ _ _); refine' spec_cast_num_bytes _ _ _ (by assumption) (by assumption) (by exact rfl) _ _ (by first | exact .inl rfl | exact .inr rfl) (by k_asm) (by k_asm) (by k_asm) (by k_asm) (by k_asm) (by first | exact rfl | assumption) (by ktr_room) (by ktr_units) ?_); intro t9 h9 tk9 F9 N9; (try k_sweep); (try dsimp only))
  k_with "call ref" => (k_here; k_dflt ((show wpAny _ _ (call (Value.ref 114) [Value.str _ _, Value.str (Str.ofString "integer") _]) _ _ _); refine' spec_cast_again _ _ (by omega) (by omega) _ (by k_asm) (by k_asm) (by k_asm) (by k_asm) (by k_asm) (by first | exact rfl | assumption) (by ktr_room) (by ktr_units) ?_); intro t9 h9 tk9 F9 N9; (try k_sweep); (try dsimp only))
  k_with "call ref" => (k_here; k_dflt ((show wpAny _ _ (call (Value.ref 114) [Value.str _ _, Value.str (Str.ofString "text") _]) _ _ _); refine' spec_cast_text_str _ _ _ (by k_asm) (by k_asm) (by k_asm) (by k_asm) (by k_asm) (by first | exact rfl | assumption) (by ktr_room) (by ktr_units) ?_); intro h9 tk9 F9 N9; (try k_sweep); (try dsimp only))
  k_with "call ref" => (k_here; k_dflt ((show wpAny _ _ (call (Value.ref 114) [Value.bytes _ _, Value.str (Str.ofString "text") _]) _ _ _); refine' spec_cast_text_bytes _ _ _ (by assumption) (by assumption) (by exact rfl) _ (by k_asm) (by k_asm) (by k_asm) (by k_asm) (by k_asm) (by first | exact rfl | assumption) (by ktr_room) (by ktr_units) ?_); intro t9 h9 tk9 F9 N9; (try k_sweep); (try dsimp only))
  k_with "call ref" => (k_here; k_dflt ((show wpAny _ _ (call (Value.ref 114) [Value.int _ _, Value.str (Str.ofString "text") _]) _ _ _); refine' spec_cast_text_int _ _ (by omega) (by omega) _ (by k_asm) (by k_asm) (by k_asm) (by k_asm) (by k_asm) (by first | exact rfl | assumption) (by ktr_room) (by ktr_units) ?_); intro t9 h9 tk9 F9 N9; (try k_sweep); (try dsimp only))
  k_with "call ref" => (k_here; k_dflt ((show wpAny _ _ (call (Value.ref 114) [Value.bytes _ _, Value.str (Str.ofString "blob") _]) _ _ _); refine' spec_cast_blob_bytes _ _ _ (by k_asm) (by k_asm) (by k_asm) (by k_asm) (by k_asm) (by first | exact rfl | assumption) (by ktr_room) (by ktr_units) ?_); intro h9 tk9 F9 N9; (try k_sweep); (try dsimp only))
  k_with "call type:str" => (k_here; (have e63 : (2:Int) ^ Int.toNat 63 = 9223372036854775808 := by decide); (with_reducible show wpAny _ _ (call (Value.type "str") [Value.int _ _]) _ _ _); kt_str)
  refine wpC_call ?_
  k_dflt (refine' codeC_def B F X N T ?kA ?kF ?kK ?k6 ?k7 ?k8 ?k9 ?kB ?_ ?c2 ?c3 ?c4 ?c5; (case kA => exact rfl); (case kF => exact rfl); (case kK => assumption); (case k6 => k_is); (case k7 => k_is); (case k8 => ktr_room); (case k9 => exact BindsTo.of_eq rfl); (case c5 => decide); (case kB => exact locs rfl); (case c2 => exact rfl); (case c3 => exact rfl); (case c4 => exact rfl))
  intro g' L' h₁ FG' F' N' B' X' T' st'
  generalize s.toks + _ = tk0
  dsimp only at F' ⊢
  obtain ⟨a1, a2, a3, a4, ht15⟩ := tup15 X'
  refine wpC_execs_cons (wpC_Assign_Name rfl (wpC_any ?_))
  k_steps
  rename Obj.IsDictOf _ _ _ => hd
  obtain ⟨u1, u2, u3, u4, hd2⟩ : ∃ u1 u2 u3 u4 : Tok, Obj.IsDictOf (PySem.strKind prog w) _ [(Str.ofString "integer", .int (asI (C x)) tn), (Str.ofString "numeric", .int (asI (C x)) tn), (Str.ofString "text", .str x t), (Str.ofString "blob", .bytes (encL (C x)) tb)] := ⟨0, 0, 0, 0, hd⟩
  clear hd
  refine wpC_execs_cons (wpC_For ?_ (by intro _; rfl))
  walk1
  rename Fr _ L' _ _ => F2
  rename News _ L' _ _ => N2
  refine codeC_tuple (by rfl) rfl rfl F2 N2 ht15 (fun i m₁ nx => nx = (h₁.objs.size, _) :: news ∧ m₁ (Str.ofString "text") = some (.str x t) ∧ m₁ (Str.ofString "octets") = some (.bytes (encL (C x)) tb) ∧ m₁ (Str.ofString "number") = some (.int (asI (C x)) tn) ∧ m₁ (Str.ofString "dues") = some (.ref h₁.objs.size)) ⟨rfl, rfl, rfl, rfl, rfl⟩ ?_ ?_
  · rintro i v m₁ news₁ h tk own hi hv hadr hoff ⟨rfl, e1, e2, e3, e4⟩ F₁ N₁
    have F₃ := fr_say5 F₁ e1 e2 e3 e4
    clear F₁ F2 N2
    have hi4 : i = 0 ∨ i = 1 ∨ i = 2 ∨ i = 3 := by
      have : i < 4 := hi
      omega
    rcases hi4 with rfl | rfl | rfl | rfl
    · have hv' : some (Value.str (Str.ofString "integer") a1) = some v := hv
      cases hv'
      clear hv
      refine wpC_execs_cons (wpC_If (wpC_any ?_))
      k_steps
      refine wpC_execs_nil ?_
      refine wpC_execs_cons (wpC_If (wpC_any ?_))
      k_steps
      refine wpC_execs_nil (wpC_execs_nil ?_)
      exact ⟨_, _, _, _, (h₁.objs.size, _) :: news, rfl, (by assumption), (by assumption), fun p hp => List.mem_append_left own hp, fun p hp => List.mem_append_right ((h₁.objs.size, _) :: news) hp, rfl, rfl, rfl, rfl, rfl, rfl⟩
    · have hv' : some (Value.str (Str.ofString "numeric") a2) = some v := hv
      cases hv'
      clear hv
      refine wpC_execs_cons (wpC_If (wpC_any ?_))
      k_steps
      refine wpC_execs_nil ?_
      refine wpC_execs_cons (wpC_If (wpC_any ?_))
      k_steps
      refine wpC_execs_nil (wpC_execs_nil ?_)
      exact ⟨_, _, _, _, (h₁.objs.size, _) :: news, rfl, (by assumption), (by assumption), fun p hp => List.mem_append_left own hp, fun p hp => List.mem_append_right ((h₁.objs.size, _) :: news) hp, rfl, rfl, rfl, rfl, rfl, rfl⟩
    · have hv' : some (Value.str (Str.ofString "text") a3) = some v := hv
      cases hv'
      clear hv
      refine wpC_execs_cons (wpC_If (wpC_any ?_))
      k_steps
      refine wpC_execs_nil ?_
      refine wpC_execs_cons (wpC_If (wpC_any ?_))
      k_steps
      refine wpC_execs_nil (wpC_execs_nil ?_)
      exact ⟨_, _, _, _, (h₁.objs.size, _) :: news, rfl, (by assumption), (by assumption), fun p hp => List.mem_append_left own hp, fun p hp => List.mem_append_right ((h₁.objs.size, _) :: news) hp, rfl, rfl, rfl, rfl, rfl, rfl⟩
    · have hv' : some (Value.str (Str.ofString "blob") a4) = some v := hv
      cases hv'
      clear hv
      refine wpC_execs_cons (wpC_If (wpC_isTrue_or2 (wpC_isTrue_not (wpC_isTrue_Call (wpC_Call_Name ?_)))))
      k_steps
      refine wpC_callWith_K (K := hdG.heap_39 w.params) (h₀ := h₀) (by k_is) ?_ rfl rfl
      refine wpC_spliced_more (wpC_Call_Name ?_) rfl
      k_steps
      refine wpC_callWith_K (K := hdG.heap_39 w.params) (h₀ := h₀) (by k_is) ?_ rfl rfl
      refine wpC_spliced_more (wpC_any ?_) rfl
      k_steps
      refine wpC_spliced_more (wpC_any ?_) rfl
      k_steps
      refine wpC_spliced_nil ⟨Frag.In.keeps (by assumption) (Fr.keep (by assumption)), ?_⟩
      k_dflt (refine' spec_cast_blob_str x _ hx hc _ B' (by assumption) (by assumption) (by assumption) T' rfl ?kd ?ku ?_; (case kd => ktr_room); (case ku => ktr_units))
      intro t5 h5 tk5 F5 N5
      refine wpC_spliced_more (wpC_any ?_) rfl
      k_steps
      refine wpC_spliced_nil ⟨Frag.In.keeps (by assumption) (Fr.keep (by assumption)), wpC_any ?_⟩
      k_steps
      refine wpC_any ?_
      k_steps
      refine wpC_execs_nil ?_
      refine wpC_execs_cons (wpC_If (wpC_any ?_))
      k_steps
      refine wpC_execs_nil (wpC_execs_nil ?_)
      exact ⟨_, _, _, _, (h₁.objs.size, _) :: news, rfl, (by assumption), (by assumption), fun p hp => List.mem_append_left own hp, fun p hp => List.mem_append_right ((h₁.objs.size, _) :: news) hp, rfl, rfl, rfl, rfl, rfl, rfl⟩
  · rintro h' tk m' news' F₁ N₁ ⟨rfl, e1, e2, e3, e4⟩
    have F₃ := fr_say4 F₁ e1 e2 e3 e4
    clear F₁ F2 N2
    have n0 := asI_lo (C x)
    have n1 := asI_hi (C x)
    have ok := ok_text n0 n1
    refine wpC_execs_cons (wpC_Assign_Name rfl (wpC_any ?_))
    k_steps
    refine wpC_execs_cons (wpC_Return (wpC_and3 (wpC_any ?_)))
    k_steps
    refine wpC_and2 (wpC_any ?_)
    k_steps
    · refine wpC_Compare1 rfl (wpC_Call_Name ?_)
      k_steps
      refine wpC_callWith_K (K := hdG.heap_39 w.params) (h₀ := h₀) (by k_is) ?_ rfl rfl
      refine wpC_spliced_more (wpC_any ?_) rfl
      k_steps
      refine wpC_spliced_more (wpC_any ?_) rfl
      k_steps
      refine wpC_spliced_nil ⟨Frag.In.keeps (by assumption) (Fr.keep (by assumption)), ?_⟩
      k_dflt (refine' spec_cast_blob_int _ _ n0 n1 _ B' (by assumption) (by assumption) (by assumption) T' rfl ?kd ?ku ?_; (case kd => ktr_room); (case ku => ktr_units))
      intro t5 h5 tk5 F5 N5
      refine wpC_Call_Name ?_
      k_steps
      refine wpC_callWith_K (K := hdG.heap_39 w.params) (h₀ := h₀) (by k_is) ?_ rfl rfl
      refine wpC_spliced_more (wpC_any ?_) rfl
      k_steps
      refine wpC_spliced_nil ⟨Frag.In.keeps (by assumption) (Fr.keep (by assumption)), ?_⟩
      k_dflt (refine' spec_utf8 _ _ (Nat.le_trans ok.1 (by decide)) ok.2 B' (by assumption) (by assumption) (by assumption) T' rfl ?kd ?ku ?_; (case kd => ktr_room); (case ku => ktr_units))
      intro t6 h6 tk6 F6 N6
      k_steps
      exact q_bool (ret _ _ (by assumption) (cb_drop (by assumption) (fun p hp => List.mem_cons_of_mem _ hp))) (beq_self_eq_true _).symm
    · exact absurd rfl (by assumption)
end Mine
end PartX2
section PartY3
open PySem PySem.W PyProof.Rows
namespace Mine
def whV (x : Str) (t t' : Tok) : Value := match wh (C x) with | none => .str x t | some n => .int n t'
def NV (x : Str) (v : Value) : Prop := (v = .none ∧ eE (C x) = aE (C x)) ∨ ∃ n t, v = .int n t ∧ eE (C x) ≠ aE (C x) ∧ n = valL (C x)
theorem asI_clamp {l : List Int} (h : eE l ≠ aE l) : clamp (valL l) = asI l := by rw [asI, if_neg h]; rfl
theorem spec_read1 {prog : Program} {w : World} {p : Program} {loose : List Str} {mean : ExcName → Option Value} {mg mb : Str → Option Value}
    {dp un : Nat} {gd : Option (List Code)} {cn : Str} {cs : Scope} {a : Addr} {ccd : Value} {cl : List (Str × Addr)} {outer : List Env} {A₀ : Around} {base h₀ : Heap} {L : Addr} {m : Str → Option Value} {news : List (Addr × Obj)} {s : Shared} {Q E : Value → Shared → Prop} (x : Str) (t : Tok) (hx : x.length ≤ 1000)
    (B : Below A₀ base outer h₀) (F : Fr h₀ L s.heap m) (X : Frag.In (hdG.heap_39 w.params) h₀) (N : News h₀ L s.heap news) (T : Top p loose mean mg mb h₀) (hk : cs.kind = .function) (hdp : dp + 1 < recursionLimit) (hun : un + 8 < cLine)
    (ret : ∀ (v u : Value) (D : Addr) h' tk', NV x v → Fr h₀ L h' m → News h₀ L h' ((D, { cls := .type "tuple", data := .seq #[v, u] }) :: news) → (∀ p ∈ news, p.1 < D) → Q (.ref D) { s with heap := h', toks := tk' }) :
    wpAny (model prog w) (ktrTop dp un gd cn cs L a ccd cl outer) (call (.ref 163) [.str x t]) Q E s := by
  exact spec_read x t hx B F X N T hk hdp hun (fun he t2 D h' tk' F' N' l' => ret _ _ D h' tk' (.inl ⟨rfl, he⟩) F' N' l') (fun n e t1 t2 D h' tk' he hn hee F' N' l' => ret _ _ D h' tk' (.inr ⟨n, t1, rfl, he, hn⟩) F' N' l')
theorem spec_near1 {prog : Program} {w : World} {p : Program} {loose : List Str} {mean : ExcName → Option Value} {mg mb : Str → Option Value}
    {dp un : Nat} {gd : Option (List Code)} {cn : Str} {cs : Scope} {a : Addr} {ccd : Value} {cl : List (Str × Addr)} {outer : List Env} {A₀ : Around} {base h₀ : Heap} {L : Addr} {m : Str → Option Value} {news : List (Addr × Obj)} {s : Shared} {Q E : Value → Shared → Prop} (x : Str) (v : Value) (hv : NV x v)
    (B : Below A₀ base outer h₀) (F : Fr h₀ L s.heap m) (X : Frag.In (hdG.heap_39 w.params) h₀) (N : News h₀ L s.heap news) (T : Top p loose mean mg mb h₀) (hk : cs.kind = .function) (hdp : dp + 1 < recursionLimit) (hun : un + 8 < cLine)
    (ret : ∀ t' h' tk', Fr h₀ L h' m → News h₀ L h' news → Q (.int (asI (C x)) t') { s with heap := h', toks := tk' }) :
    wpAny (model prog w) (ktrTop dp un gd cn cs L a ccd cl outer) (call (.ref 170) [v]) Q E s := by
  rcases hv with ⟨rfl, he⟩ | ⟨n, t, rfl, he, rfl⟩
  · exact spec_near_none B F X N T hk hdp hun (fun t' h' tk' F' N' => q_int (ret t' h' tk' F' N') (asI_no he).symm)
  · exact spec_near_int _ t B F X N T hk hdp hun (fun t' h' tk' F' N' => q_int (ret t' h' tk' F' N') (asI_clamp he).symm)
theorem spec_aff1 {prog : Program} {w : World} {p : Program} {loose : List Str} {mean : ExcName → Option Value} {mg mb : Str → Option Value}
    {dp un : Nat} {gd : Option (List Code)} {cn : Str} {cs : Scope} {a : Addr} {ccd : Value} {cl : List (Str × Addr)} {outer : List Env} {A₀ : Around} {base h₀ : Heap} {L : Addr} {m : Str → Option Value} {news : List (Addr × Obj)} {s : Shared} {Q E : Value → Shared → Prop} (x : Str) (t : Tok) (hx : x.length ≤ 1000) (af : Str) (ta : Tok) (haf : af = Str.ofString "integer" ∨ af = Str.ofString "numeric")
    (B : Below A₀ base outer h₀) (F : Fr h₀ L s.heap m) (X : Frag.In (hdG.heap_39 w.params) h₀) (N : News h₀ L s.heap news) (T : Top p loose mean mg mb h₀) (hk : cs.kind = .function) (hdp : dp + 4 < recursionLimit) (hun : un + 32 < cLine)
    (ret : ∀ t' h' tk', Fr h₀ L h' m → News h₀ L h' news → Q (whV x t t') { s with heap := h', toks := tk' }) :
    wpAny (model prog w) (ktrTop dp un gd cn cs L a ccd cl outer) (call (.ref 86) [.str x t, .str af ta]) Q E s := by
  exact spec_aff_str x t hx af ta haf B F X N T hk hdp hun ret
theorem spec_kept1 {prog : Program} {w : World} {p : Program} {loose : List Str} {mean : ExcName → Option Value} {mg mb : Str → Option Value}
    {dp un : Nat} {gd : Option (List Code)} {cn : Str} {cs : Scope} {a : Addr} {ccd : Value} {cl : List (Str × Addr)} {outer : List Env} {A₀ : Around} {base h₀ : Heap} {L : Addr} {m : Str → Option Value} {news : List (Addr × Obj)} {s : Shared} {Q E : Value → Shared → Prop} (x : Str) (t : Tok) (hx : x.length ≤ 1000)
    (B : Below A₀ base outer h₀) (F : Fr h₀ L s.heap m) (X : Frag.In (hdG.heap_39 w.params) h₀) (N : News h₀ L s.heap news) (T : Top p loose mean mg mb h₀) (hk : cs.kind = .function) (hdp : dp + 2 < recursionLimit) (hun : un + 16 < cLine)
    (ret : ∀ t' h' tk', Fr h₀ L h' m → News h₀ L h' news → Q (whV x t t') { s with heap := h', toks := tk' }) :
    wpAny (model prog w) (ktrTop dp un gd cn cs L a ccd cl outer) (call (.ref 175) [.str x t]) Q E s := by
  exact spec_kept x t hx B F X N T hk hdp hun ret
theorem spec_same1_wh {prog : Program} {w : World} {p : Program} {loose : List Str} {mean : ExcName → Option Value} {mg mb : Str → Option Value}
    {dp un : Nat} {gd : Option (List Code)} {cn : Str} {cs : Scope} {a : Addr} {ccd : Value} {cl : List (Str × Addr)} {outer : List Env} {A₀ : Around} {base h₀ : Heap} {L : Addr} {m : Str → Option Value} {news : List (Addr × Obj)} {s : Shared} {Q E : Value → Shared → Prop} (x : Str) (t t1 t2 : Tok)
    (B : Below A₀ base outer h₀) (F : Fr h₀ L s.heap m) (X : Frag.In (hdG.heap_39 w.params) h₀) (N : News h₀ L s.heap news) (T : Top p loose mean mg mb h₀) (hk : cs.kind = .function) (hdp : dp + 1 < recursionLimit) (hun : un + 8 < cLine)
    (ret : ∀ h' tk', Fr h₀ L h' m → News h₀ L h' news → Q (.bool true) { s with heap := h', toks := tk' }) :
    wpAny (model prog w) (ktrTop dp un gd cn cs L a ccd cl outer) (call (.ref 182) [whV x t t1, whV x t t2]) Q E s := by
  unfold whV
  cases wh (C x) with
  | none => exact spec_same1_ss x t t B F X N T hk hdp hun ret
  | some n => exact spec_same1_ii n t1 t2 B F X N T hk hdp hun ret
end Mine
end PartY3
section PartX3
open PySem PySem.W PySem.Spec PySem.Calls PyProof.Rows
namespace Mine
theorem bne_no (a : Int) : ¬ (decide (a ≠ 0) != (a != 0)) = true := by by_cases h : a = 0 <;> simp [h]
theorem get_encode {M : Model} {A : Around} {E : Value → Shared → Prop} {s : Shared} {x : Str} {t : Tok} {pl : Sem Bool} {Q : Value × List Value → Shared → Prop} (h : Q (.builtin "str.encode", [.str x t]) s) :
    wpAny M A (getMethod (.str x t) (PySem.Str.ofString "encode") pl) Q E s :=
  getMethod_builtin (typeIs_str _ _ _) F.plainAttrs_str F.slot_str_encode F.type_str_encode (by intro a x; cases x) h
theorem allLt_all {d : Nat} : ∀ {l : List (Addr × Obj)}, AllLt d l → ∀ p ∈ l, p.1 < d
  | [], _, p, hp => nomatch hp
  | q :: r, h, p, hp => by
    cases hp with
    | head => exact h.1
    | tail _ hp => exact allLt_all h.2 p hp
section
variable {prog : Program} {w : World} {A : Around} {s : Shared} {env : Env} {h₀ : Heap}
theorem codeC_tupleN {R : Result → Shared → Prop} {x : Str} {px : Pos} {body : List Stmt} {t : Addr} {items : Array Value} {m : Str → Option Value} {news : List (Addr × Obj)} (hh : A.handled = none)
    (hx : env.kindOf x = some .local) (hp : (env.scope.kind == .class || (env.scope.kind == .module && env.locals != env.globals)) = false)
    (F : Fr h₀ env.locals s.heap m) (N : News h₀ env.locals s.heap news) (ht1 : s.heap.IsTuple t items) (htL : t ≠ env.locals) (hI : ∀ q ∈ news, q.1 ≠ t) (J : Nat → (Str → Option Value) → List (Addr × Obj) → Prop) (h0 : J 0 m news)
    (step : ∀ i v m₁ news₁ h tk own, i < items.size → items[i]? = some v → news₁.map (·.1) = news.map (·.1) → OwnOff own (news.map (·.1)) → J i m₁ news₁ → Fr h₀ env.locals h (fun y => if y = x then some v else m₁ y) → News h₀ env.locals h (news₁ ++ own) →
      wpC (model prog w) A (execs body env) (fun f s₂ => match f with | .ret v => R (.ok (.ret v)) s₂ | .brk => R (.ok .next) s₂ | _ => InvEndN h₀ env.locals (J (i + 1)) own (news.map (·.1)) { s with heap := h, toks := tk } s₂) { s with heap := h, toks := tk })
    (done : ∀ h' tk m' news', Fr h₀ env.locals h' m' → News h₀ env.locals h' news' → J items.size m' news' → R (.ok .next) { s with heap := h', toks := tk }) :
    wpAny (model prog w) A (pyIter (.ref t)) (fun it s₂ => codeC (model prog w) A (.forLoop (.Name x px) it body [] env) R s₂) (fun _ _ => False) s := by
  refine wpAny_pyIter_tuple ht1 ?_
  have hlt : t < s.heap.objs.size := by
    obtain ⟨o, ho, _⟩ := ht1
    exact Heap.lt_size ho
  have hne : t ≠ s.heap.objs.size := Nat.ne_of_lt hlt
  have W := Walks.tuple (prog := prog) (w := w) hh s.heap.objs.size t hne items
  have hL : env.locals ∉ [s.heap.objs.size, t] := by
    intro hm
    rcases List.mem_cons.1 hm with e | hm
    · exact absurd F.ns.lt (e ▸ Nat.lt_irrefl _)
    · exact htL (List.mem_singleton.1 hm).symm
  have hI' : ∀ q ∈ news, q.1 ∉ [s.heap.objs.size, t] := by
    intro q hq hm
    rcases List.mem_cons.1 hm with e | hm
    · exact absurd (Heap.lt_size (N q hq).1) (e ▸ Nat.lt_irrefl _)
    · exact hI q hq (List.mem_singleton.1 hm)
  refine codeC_walk (h₀ := h₀) (m := m) (news := news) W hx hp hL ?_ hI' ⟨⟨_, Heap.get?_push_size _ rfl, rfl, rfl⟩, ht1.push _⟩ (F.push _) (fun p hp => ⟨Heap.get?_push_of_some _ (N p hp).1, (N p hp).2⟩) J h0 step done
  intro b' hb
  rw [List.mem_singleton.mp hb]
  exact next_is_new F
end
theorem fr_say3a {h₀ h : Heap} {L : Addr} {m : Str → Option Value} {x1 x2 x3 x4 : Str} {v1 v2 v3 v4 : Value} (F : Fr h₀ L h (fun y => if y = x1 then some v1 else m y)) (e2 : m x2 = some v2) (e3 : m x3 = some v3) (e4 : m x4 = some v4) :
    Fr h₀ L h (fun y => if y = x1 then some v1 else if y = x2 then some v2 else if y = x3 then some v3 else if y = x4 then some v4 else m y) := by
  have := fr_say5 F e2 e3 e4 e4
  have e : (fun y => if y = x1 then some v1 else if y = x2 then some v2 else if y = x3 then some v3 else if y = x4 then some v4 else if y = x4 then some v4 else m y) = fun y => if y = x1 then some v1 else if y = x2 then some v2 else if y = x3 then some v3 else if y = x4 then some v4 else m y := by
    funext y
    by_cases h4 : y = x4
    · simp [h4]
    · simp [h4]
  rw [← e]; exact this
theorem spec_right {prog : Program} {w : World} {p : Program} {loose : List Str} {mean : ExcName → Option Value} {mg mb : Str → Option Value}
    {dp un : Nat} {cn : Str} {cs : Scope} {a : Addr} {ccd : Value} {cl : List (Str × Addr)} {outer : List Env} {A₀ : Around} {base h₀ : Heap} {L : Addr} {m : Str → Option Value} {news : List (Addr × Obj)} {s : Shared} {Q : Value → Shared → Prop} (x : Str) (t : Tok) (hx : x.length ≤ 1000) (hc : ∀ c ∈ C x, c < 2048)
    (B : Below A₀ base outer h₀) (F : Fr h₀ L s.heap m) (X : Frag.In (hdG.heap_39 w.params) h₀) (N : News h₀ L s.heap news) (T : Top p loose mean mg mb h₀) (hk : cs.kind = .function) (hdp : dp + 6 < recursionLimit) (hun : un + 48 < cLine)
    (ret : ∀ h' tk', Fr h₀ L h' m → News h₀ L h' news → Q (.bool true) { s with heap := h', toks := tk' }) :
    wpC (model prog w) (ktrTop dp un (some []) cn cs L a ccd cl outer) (call (.ref 196) [.str x t]) Q s := by
  w_top off
  k_with_none
  k_with "call ref" => (k_here; k_dflt ((show wpAny _ _ (call (Value.ref 182) [Value.int _ _, Value.int _ _]) _ _ _); refine' spec_same1_ii _ _ _ (by k_asm) (by k_asm) (by k_asm) (by k_asm) (by k_asm) (by first | exact rfl | assumption) (by ktr_room) (by ktr_units) ?_); intro h9 tk9 F9 N9; (try k_sweep); (try dsimp only))
  k_with "call ref" => (k_here; k_dflt ((show wpAny _ _ (call (Value.ref 182) [Value.str _ _, Value.str _ _]) _ _ _); refine' spec_same1_ss _ _ _ (by k_asm) (by k_asm) (by k_asm) (by k_asm) (by k_asm) (by first | exact rfl | assumption) (by ktr_room) (by ktr_units) ?_); intro h9 tk9 F9 N9; (try k_sweep); (try dsimp only))
  k_with "call ref" => (k_here; k_dflt ((show wpAny _ _ (call (Value.ref 182) [Value.bytes _ _, Value.bytes _ _]) _ _ _); refine' spec_same1_bb _ _ _ (by exact encL_small (by assumption)) (by k_asm) (by k_asm) (by k_asm) (by k_asm) (by k_asm) (by first | exact rfl | assumption) (by ktr_room) (by ktr_units) ?_); intro h9 tk9 F9 N9; (try k_sweep); (try dsimp only))
  k_with "call ref" => (k_here; k_dflt ((show wpAny _ _ (call (Value.ref 182) [whV _ _ _, whV _ _ _]) _ _ _); refine' spec_same1_wh _ _ _ _ (by k_asm) (by k_asm) (by k_asm) (by k_asm) (by k_asm) (by first | exact rfl | assumption) (by ktr_room) (by ktr_units) ?_); intro h9 tk9 F9 N9; (try k_sweep); (try dsimp only))
  k_with "call ref" => (k_here; k_dflt ((show wpAny _ _ (call (Value.ref 93) [Value.str _ _]) _ _ _); refine' spec_asint_str _ _ (by assumption) (by k_asm) (by k_asm) (by k_asm) (by k_asm) (by k_asm) (by first | exact rfl | assumption) (by ktr_room) (by ktr_units) ?_); intro t9 h9 tk9 F9 N9; (try k_sweep); (try dsimp only))
  k_with "call ref" => (k_here; k_dflt ((show wpAny _ _ (call (Value.ref 93) [Value.bytes _ _]) _ _ _); refine' spec_asint_bytes _ _ _ (by assumption) (by assumption) (by exact rfl) (by k_asm) (by k_asm) (by k_asm) (by k_asm) (by k_asm) (by first | exact rfl | assumption) (by ktr_room) (by ktr_units) ?_); intro t9 h9 tk9 F9 N9; (try k_sweep); (try dsimp only))
  k_with "call ref" => (k_here; k_dflt ((show wpAny _ _ (call (Value.ref 93) [Value.int _ _]) _ _ _); refine' spec_asint_int _ _ (by k_asm) (by k_asm) (by k_asm) (by k_asm) (by k_asm) (by first | exact rfl | assumption) (by ktr_room) (by ktr_units) ?_); intro h9 tk9 F9 N9; (try k_sweep); (try dsimp only))
  k_with "call ref" => (k_here; k_dflt ((show wpAny _ _ (call (Value.ref 121) [Value.str _ _]) _ _ _); refine' spec_truth_str _ _ (by assumption) (by k_asm) (by k_asm) (by k_asm) (by k_asm) (by k_asm) (by first | exact rfl | assumption) (by ktr_room) (by ktr_units) ?_); intro h9 tk9 F9 N9; (try k_sweep); (try dsimp only))
  k_with "call ref" => (k_here; k_dflt ((show wpAny _ _ (call (Value.ref 121) [Value.bytes _ _]) _ _ _); refine' spec_truth_bytes _ _ _ (by assumption) (by assumption) (by exact rfl) (by k_asm) (by k_asm) (by k_asm) (by k_asm) (by k_asm) (by first | exact rfl | assumption) (by ktr_room) (by ktr_units) ?_); intro h9 tk9 F9 N9; (try k_sweep); (try dsimp only))
  k_with "call ref" => (k_here; k_dflt ((show wpAny _ _ (call (Value.ref 86) [Value.str _ _, Value.str _ _]) _ _ _); refine' spec_aff1 _ _ (by assumption) _ _ (by first | exact .inl rfl | exact .inr rfl) (by k_asm) (by k_asm) (by k_asm) (by k_asm) (by k_asm) (by first | exact rfl | assumption) (by ktr_room) (by ktr_units) ?_); intro t9 h9 tk9 F9 N9; (try k_sweep); (try dsimp only))
  k_with "call ref" => (k_here; k_dflt ((show wpAny _ _ (call (Value.ref 86) [Value.bytes _ _, Value.str _ _]) _ _ _); refine' spec_aff_bytes _ _ _ _ (by first | exact .inl rfl | exact .inr rfl) (by k_asm) (by k_asm) (by k_asm) (by k_asm) (by k_asm) (by first | exact rfl | assumption) (by ktr_room) (by ktr_units) ?_); intro h9 tk9 F9 N9; (try k_sweep); (try dsimp only))
  k_with "call ref" => (k_here; k_dflt ((show wpAny _ _ (call (Value.ref 86) [Value.str _ _, Value.str (Str.ofString "text") _]) _ _ _); refine' spec_aff_text_str _ _ _ (by k_asm) (by k_asm) (by k_asm) (by k_asm) (by k_asm) (by first | exact rfl | assumption) (by ktr_room) (by ktr_units) ?_); intro h9 tk9 F9 N9; (try k_sweep); (try dsimp only))
  k_with "call ref" => (k_here; k_dflt ((show wpAny _ _ (call (Value.ref 86) [Value.int _ _, Value.str (Str.ofString "text") _]) _ _ _); refine' spec_aff_text_int _ _ (by exact asI_lo _) (by exact asI_hi _) _ (by k_asm) (by k_asm) (by k_asm) (by k_asm) (by k_asm) (by first | exact rfl | assumption) (by ktr_room) (by ktr_units) ?_); intro t9 h9 tk9 F9 N9; (try k_sweep); (try dsimp only))
  k_with "call ref" => (k_here; k_dflt ((show wpAny _ _ (call (Value.ref 86) [Value.str _ _, Value.str (Str.ofString "blob") _]) _ _ _); refine' spec_aff_blob_str _ _ _ (by k_asm) (by k_asm) (by k_asm) (by k_asm) (by k_asm) (by first | exact rfl | assumption) (by ktr_room) (by ktr_units) ?_); intro h9 tk9 F9 N9; (try k_sweep); (try dsimp only))
  k_with "call ref" => (k_here; k_dflt ((show wpAny _ _ (call (Value.ref 86) [Value.int _ _, Value.str (Str.ofString "blob") _]) _ _ _); refine' spec_aff_blob_int _ _ (by exact asI_lo _) (by exact asI_hi _) _ (by k_asm) (by k_asm) (by k_asm) (by k_asm) (by k_asm) (by first | exact rfl | assumption) (by ktr_room) (by ktr_units) ?_); intro h9 tk9 F9 N9; (try k_sweep); (try dsimp only))
  k_with "call ref" => (k_here; k_dflt ((show wpAny _ _ (call (Value.ref 175) [Value.str _ _]) _ _ _); refine' spec_kept1 _ _ (by assumption) (by k_asm) (by k_asm) (by k_asm) (by k_asm) (by k_asm) (by first | exact rfl | assumption) (by ktr_room) (by ktr_units) ?_); intro t9 h9 tk9 F9 N9; (try k_sweep); (try dsimp only))
  k_with "call ref" => (k_here; k_dflt ((show wpAny _ _ (call (Value.ref 170) [_]) _ _ _); refine' spec_near1 _ _ (by assumption) (by k_asm) (by k_asm) (by k_asm) (by k_asm) (by k_asm) (by first | exact rfl | assumption) (by ktr_room) (by ktr_units) ?_); intro t9 h9 tk9 F9 N9; (try k_sweep); (try dsimp only))
  k_with "call ref" => (k_here; k_dflt ((show wpAny _ _ (call (Value.ref 163) [Value.str _ _]) _ _ _); refine' spec_read1 _ _ (by assumption) (by k_asm) (by k_asm) (by k_asm) (by k_asm) (by k_asm) (by first | exact rfl | assumption) (by ktr_room) (by ktr_units) ?_); intro v9 u9 d9 h9 tk9 nv9 F9 N9 l9; (try k_lt l9); (try k_sweep); (try dsimp only))
  k_with "getMethod str" => (k_here; (with_reducible refine get_encode ?_))
  k_with "call type:str" => (k_here; (have e63 : (2:Int) ^ Int.toNat 63 = 9223372036854775808 := by decide); (with_reducible show wpAny _ _ (call (Value.type "str") [Value.int _ _]) _ _ _); kt_str)
  k_with "call builtin:str.encode" => (k_here; k_dflt (refine call_encode (by assumption) (by assumption) ?_); intro t9 k9)
  refine wpC_call ?_
  k_dflt (refine' codeC_def B F X N T ?kA ?kF ?kK ?k6 ?k7 ?k8 ?k9 ?kB ?_ ?c2 ?c3 ?c4 ?c5; (case kA => exact rfl); (case kF => exact rfl); (case kK => assumption); (case k6 => k_is); (case k7 => k_is); (case k8 => ktr_room); (case k9 => exact BindsTo.of_eq rfl); (case c5 => decide); (case kB => exact locs rfl); (case c2 => exact rfl); (case c3 => exact rfl); (case c4 => exact rfl))
  intro g' L' h₁ FG' F' N' B' X' T' st'
  generalize s.toks + _ = tk0
  dsimp only at F' ⊢
  have n0 := asI_lo (C x)
  have n1 := asI_hi (C x)
  have ok := ok_text n0 n1
  refine wpC_execs_cons (wpC_any ?_)
  k_steps
  refine wpC_execs_cons (wpC_If (wpC_any ?_))
  k_steps
  all_goals first | exact absurd rfl (by assumption) | exact absurd (by assumption) (bne_no _) | skip
  refine wpC_execs_nil ?_
  refine wpC_execs_cons (wpC_For ?_ (by intro _; rfl))
  k_steps
  rename Fr _ L' _ _ => F2
  rename News _ L' _ _ => N2
  rename _ ∧ _ ∧ _ => l2
  have N3 := cb_drop N2 (fun p hp => List.Mem.tail _ (List.Mem.tail _ (List.Mem.tail _ hp)))
  refine codeC_tupleN (by rfl) rfl rfl F2 N3 ⟨_, (N2 _ (.head _)).1, rfl, _, rfl⟩ (N2 _ (.head _)).2.1 (fun q hq => Nat.ne_of_lt (allLt_all l2.2.2 q hq)) (fun i m₁ nx => nx = news ∧ m₁ (Str.ofString "text") = some (.str x t) ∧ m₁ (Str.ofString "octets") = some (.bytes (encL (C x)) _) ∧ m₁ (Str.ofString "number") = some (.int (asI (C x)) _)) ⟨rfl, rfl, rfl, rfl⟩ ?_ ?_
  · clear N2 N3 F2
    rintro i v m₁ news₁ h tk own hi hv hadr hoff ⟨hnx, e1, e2, e3⟩ F₁ N₁
    obtain rfl : news = news₁ := hnx.symm
    have F₃ := fr_say3a F₁ e1 e2 e3
    clear F₁
    have hi2 : i = 0 ∨ i = 1 := by
      have : i < 2 := hi
      omega
    rcases hi2 with rfl | rfl
    · have hv' : some (Value.str (Str.ofString "integer") _) = some v := hv
      cases hv'
      clear hv
      refine wpC_execs_cons (wpC_If (wpC_any ?_))
      k_steps
      refine wpC_execs_nil (wpC_execs_nil ?_)
      exact ⟨_, _, _, _, news, rfl, (by assumption), (by assumption), fun p hp => List.mem_append_left own hp, fun p hp => List.mem_append_right news hp, rfl, rfl, rfl, rfl, rfl⟩
    · have hv' : some (Value.str (Str.ofString "numeric") _) = some v := hv
      cases hv'
      clear hv
      refine wpC_execs_cons (wpC_If (wpC_any ?_))
      k_steps
      refine wpC_execs_nil (wpC_execs_nil ?_)
      exact ⟨_, _, _, _, news, rfl, (by assumption), (by assumption), fun p hp => List.mem_append_left own hp, fun p hp => List.mem_append_right news hp, rfl, rfl, rfl, rfl, rfl⟩
  · clear N2 N3 F2
    rintro h' tk m' news' F₁ N₁ ⟨hnx, e1, e2, e3⟩
    obtain rfl : news = news' := hnx.symm
    have F₃ := fr_say3 e1 e2 e3 F₁
    clear F₁
    refine wpC_execs_cons (wpC_If (wpC_any ?_))
    k_steps
    refine wpC_execs_nil ?_
    refine wpC_execs_cons (wpC_If (wpC_any ?_))
    k_steps
    refine wpC_execs_nil ?_
    refine wpC_execs_cons (wpC_Return (wpC_and2 (wpC_any ?_)))
    k_steps
    · refine wpC_Call_Name ?_
      k_steps
      refine wpC_callWith_K (K := hdG.heap_39 w.params) (h₀ := h₀) (by k_is) ?_ rfl rfl
      refine wpC_spliced_more (wpC_any ?_) rfl
      k_steps
      refine wpC_spliced_more (wpC_any ?_) rfl
      k_steps
      refine wpC_spliced_more (wpC_any ?_) rfl
      k_steps
      refine wpC_spliced_nil ⟨Frag.In.keeps (by assumption) (Fr.keep (by assumption)), ?_⟩
      k_dflt (refine' spec_castsright x _ _ _ hx hc B' (by assumption) (by assumption) (by assumption) T' rfl ?kd ?ku ?_; (case kd => ktr_room); (case ku => ktr_units))
      intro h5 tk5 F5 N5
      exact leaveK_ F5 N5 fun F6 N6 => ret _ _ F6 N6
    · exact absurd rfl (by assumption)
end Mine
end PartX3
section PartX4
open PySem PySem.W PySem.Spec PySem.Calls PyProof.Rows
namespace Mine
section
variable {prog : Program} {w : World} {A : Around} {s : Shared} {env : Env} {h₀ : Heap}
theorem codeC_fullW {R : Result → Shared → Prop} {name : Str} {params : Arguments} {body : List Stmt} {scope : Scope} {dV kV pm cd doc : Value} {a : Addr} {o : Obj} {args : Args} {binds : List (Str × Value)}
    (hroom : A.depth < recursionLimit) (ho : s.heap.get? a = some o) (hdata : o.data = .func { docDef name params body scope pm cd doc with defaults := dV, kwdefaults := kV }) (hlim : s.heap.NoLimit) (hcd : s.heap.CodeRec cd name)
    (hbind : BindsTo s { docDef name params body scope pm cd doc with defaults := dV, kwdefaults := kV } args binds)
    (hloc : ∀ x ∈ binds, scope.names.lookup x.1 = some .local)
    (h : ∀ h₁, Fr s.heap s.heap.objs.size h₁ (fun x => binds.reverse.lookup x) →
      wpC (model prog w) (A.deeper (envOf name scope s.heap.objs.size a cd)) (execs body (envOf name scope s.heap.objs.size a cd))
        (fun f s' => R (.ok (.ret (match f with | .ret v => v | _ => .none))) s') { s with heap := h₁, toks := s.toks + binds.length })
    (hco : scope.isCoroutine = false := by rfl) (hgen : scope.isGenerator = false := by rfl) (hk : scope.kind = .function := by rfl)
    (hcell : ∀ x ∈ scope.names, x.2 ≠ .cell := by decide) :
    codeC (model prog w) A (.call (.ref a) args) R s := by
  refine codeC_call_function hroom ho hdata hco hgen rfl hcd (hbind _ _ _ _ ?_)
  refine wpAny_newFunctionEnv hcell hloc (fun h₁ hns hsb => ⟨hlim.fresh _ hsb, codeC_func (h h₁ ⟨hns, fun b o e => ?_, Nat.le_refl _⟩)⟩) hk
  exact hsb.extBut b o (Nat.ne_of_lt (Heap.lt_size e)) (Heap.get?_push_of_some _ e)
theorem codeC_range {R : Result → Shared → Prop} {x : Str} {px : Pos} {body : List Stmt} {r : Addr} {a b c : Int} {t u v : Tok} {n : Nat} {m : Str → Option Value} {news : List (Addr × Obj)} (hh : A.handled = none)
    (hx : env.kindOf x = some .local) (hp : (env.scope.kind == .class || (env.scope.kind == .module && env.locals != env.globals)) = false)
    (F : Fr h₀ env.locals s.heap m) (N : News h₀ env.locals s.heap news) (hr : IsRange s.heap r a b c t u v) (hsmall : Builtin.Range.small a b c = true) (hn : Builtin.Range.rangeSize a b c = (n : Int))
    (J : Nat → (Str → Option Value) → List (Addr × Obj) → Prop) (h0 : J 0 m news)
    (step : ∀ i tt m₁ news₁ h tk own, i < n → news₁.map (·.1) = news.map (·.1) → OwnOff own (news.map (·.1)) → J i m₁ news₁ → Fr h₀ env.locals h (fun y => if y = x then some (.int (a + (i : Nat) * c) tt) else m₁ y) → News h₀ env.locals h (news₁ ++ own) →
      wpC (model prog w) A (execs body env) (fun f s₂ => match f with | .ret v => R (.ok (.ret v)) s₂ | .brk => R (.ok .next) s₂ | _ => InvEndN h₀ env.locals (J (i + 1)) own (news.map (·.1)) { s with heap := h, toks := tk } s₂) { s with heap := h, toks := tk })
    (done : ∀ h' tk m' news', Fr h₀ env.locals h' m' → News h₀ env.locals h' news' → J n m' news' → R (.ok .next) { s with heap := h', toks := tk }) :
    wpAny (model prog w) A (pyIter (.ref r)) (fun it s₂ => codeC (model prog w) A (.forLoop (.Name x px) it body [] env) R s₂) (fun _ _ => False) s := by
  refine wpAny_pyIter_range hr hsmall ?_
  rw [hn]
  have W := Walks.range (prog := prog) (w := w) hh s.heap.objs.size a c n
  have hI' : ∀ q ∈ news, q.1 ∉ [s.heap.objs.size] := by
    intro q hq hm
    exact absurd (Heap.lt_size (N q hq).1) ((List.mem_singleton.1 hm) ▸ Nat.lt_irrefl _)
  refine codeC_walk (h₀ := h₀) (m := m) (news := news) W hx hp ?_ ?_ hI' ?_ (F.push _) (fun p hp => ⟨Heap.get?_push_of_some _ (N p hp).1, (N p hp).2⟩) J h0 ?_ done
  · intro hm
    exact absurd F.ns.lt ((List.mem_singleton.mp hm) ▸ Nat.lt_irrefl _)
  · intro b' hb
    rw [List.mem_singleton.mp hb]
    exact next_is_new F
  · have e1 : a + ((0 : Nat) : Int) * c = a := by simp
    have e2 : (n : Int) - ((0 : Nat) : Int) = n := by simp
    rw [e1, e2]
    exact Heap.get?_push_size _ rfl
  · rintro i v m₁ nx h tk own hi ⟨tt, rfl⟩ hadr hoff hJ F₁ N₁
    exact step i tt m₁ nx h tk own hi hadr hoff hJ F₁ N₁
end
theorem small_4 {b : Int} (h1 : 1 ≤ b) (h4 : b ≤ 4) : Builtin.Range.small 0 b 1 = true ∧ Builtin.Range.rangeSize 0 b 1 = ((b.toNat : Nat) : Int) := by
  have : b = 1 ∨ b = 2 ∨ b = 3 ∨ b = 4 := by omega
  rcases this with rfl | rfl | rfl | rfl <;> exact ⟨by decide, by decide⟩
theorem turns_4 (l : Int) (h : 0 ≤ l) : 1 ≤ (if (if l < 4 then l else 4) > 1 then if l < 4 then l else 4 else 1) ∧ (if (if l < 4 then l else 4) > 1 then if l < 4 then l else 4 else 1) ≤ 4 := by
  constructor <;> (split <;> (try split)) <;> omega
theorem fr_say1a {h₀ h : Heap} {L : Addr} {m : Str → Option Value} {x1 x2 : Str} {v1 v2 : Value} (F : Fr h₀ L h (fun y => if y = x1 then some v1 else m y)) (e2 : m x2 = some v2) :
    Fr h₀ L h (fun y => if y = x1 then some v1 else if y = x2 then some v2 else m y) := fr_know e2 F
theorem good_true {c : ClaimW} {cl : Str → Option Addr} {mean : ExcName → Option Value} {args : List WData} {s₁ s' : Shared} (hg : s'.gens = #[]) (hn : ∀ cls, c.raises args cls = false) (hp : c.post args (.bool true) args = true) (hk : ∀ b o, s₁.heap.get? b = some o → s'.heap.get? b = some o) (hos : s'.os = s₁.os := by rfl) :
    GoodWG c cl mean args s₁ (.ok (.ret (.bool true))) s' := GoodW.toG ⟨.inl ⟨.bool true, .bool true, [], rfl, hn, .bool true, hp, fun _ => ⟨.nil, fun _ h => nomatch h⟩⟩, hk, hos, hg⟩
theorem ne_all {l : List (Addr × Obj)} {d : Addr} (h : ∀ p ∈ l, p.1 < d) : ∀ z ∈ l, z.1 ≠ d := fun z hz => Nat.ne_of_lt (h z hz)
theorem law_walk : PySem.Challenge.rw_qd0120_01.Holds := hdG (by
  intro w s₀ s₁ mg mb G Y fa o pm cd doc dV kV ho hdat hcd hD hmg hg args vals as hpre hlay hrd hwl hlo
  have KX0 := kIn_of Y
  have KX : (hdG.heap_39 w.params).In s₁.heap := KX0
  refine Ground.open G ?_
  intro T B D TE TW
  clear KX0 G Y B D TE TW hmg
  wrow_args hpre hlay hrd hwl hlo
  rename IntsAre _ _ => hI
  rename List Int => ns
  rename Heap.IsList _ _ _ => hL
  rename ¬ _ < _ => hlen
  refine guarded_clean (good_true hg (fun _ => rfl) (by wrow_post) (fun _ _ e => e)) ?_
  have he := Dflts.none hD rfl
  subst he
  have B0 := below_caller s₁.heap
  refine wpC_call (codeC_fullW (by decide) ho hdat (Top.nolimit T) hcd (BindsTo.of_eq rfl) (locs rfl) fun h₁ F => ?_)
  clear ho hdat hD
  have N0 := (News.nil : News _ _ _ []).at F
  dsimp only [List.map, List.zip, List.zipWith, List.reverse, List.reverseAux, List.length] at F ⊢
  w_top off
  k_with_none
  k_with "call ref" => (k_here; k_dflt ((show wpAny _ _ (call (Value.ref 93) [Value.none]) _ _ _); refine' spec_asint_none  (by k_asm) (by k_asm) (by k_asm) (by k_asm) (by k_asm) (by first | exact rfl | assumption) (by ktr_room) (by ktr_units) ?_); intro h9 tk9 F9 N9; (try k_sweep); (try dsimp only))
  k_with "call ref" => (k_here; k_dflt ((show wpAny _ _ (call (Value.ref 121) [Value.none]) _ _ _); refine' spec_truth_none  (by k_asm) (by k_asm) (by k_asm) (by k_asm) (by k_asm) (by first | exact rfl | assumption) (by ktr_room) (by ktr_units) ?_); intro h9 tk9 F9 N9; (try k_sweep); (try dsimp only))
  k_with "call ref" => (k_here; k_dflt ((show wpAny _ _ (call (Value.ref 128) [Value.ref _, Value.int _ _]) _ _ _); refine' spec_pool _ _ _ _ _ (by assumption) (by assumption) (by omega) (by omega) (by omega) (by k_asm) (by k_asm) (by k_asm) (by k_asm) (by k_asm) (by first | exact rfl | assumption) (by ktr_room) (by ktr_units) ?_); intro b1 b2 t1 t2 k9 d9 h9 tk9 o1 o2 o3 F9 N9 l9; (try k_lt l9); (try k_sweep); (try dsimp only))
  k_with "call ref" => (k_here; k_dflt ((show wpAny _ _ (call (Value.ref 156) [Value.ref _]) _ _ _); rename News _ _ _ _ => nT; refine' spec_text _ _ _ _ _ _ (by assumption) (by assumption) (by assumption) (by exact ne_all (by assumption)) (by k_asm) (by k_asm) (by k_asm) nT (by k_asm) (by first | exact rfl | assumption) (by ktr_room) (by ktr_units) ?_); intro x9 t6 b8 b9 t7 t8 k9 h9 tk9 o0 o1 o2 o3 F9 N9; (try k_sweep); (try dsimp only))
  refine wpC_execs_cons (wpC_If (wpC_any ?_))
  k_steps
  refine wpC_execs_nil ?_
  refine wpC_execs_cons (wpC_For ?_ (by intro _; rfl))
  k_steps
  rename IsRange _ _ _ _ _ _ _ _ => hR
  have hbb := turns_4 (ns.length : Int) (Int.natCast_nonneg _)
  rename Fr _ _ _ _ => F2
  rename News _ _ _ _ => N2
  refine codeC_range (by rfl) rfl rfl F2 N2 hR (small_4 hbb.1 hbb.2).1 (small_4 hbb.1 hbb.2).2 (fun i m₁ nx => nx = [] ∧ m₁ (Str.ofString "script") = some (.ref _)) ⟨rfl, rfl⟩ ?_ ?_
  · rintro i tt m₁ news₁ h tk own hi hadr hoff ⟨rfl, e1⟩ F₁ N₁
    have F₃ := fr_say1a F₁ e1
    have N₃ : News _ _ h own := N₁
    clear F₁ N₁ F2 N2
    have hi4 : (i : Int) < 4 := by
      have := hbb.2
      omega
    refine wpC_execs_cons (wpC_If (wpC_isTrue_not (wpC_isTrue_Call (wpC_Call_Name ?_))))
    k_steps
    refine wpC_callWith_K (K := hdG.heap_39 w.params) (h₀ := s₁.heap) (by k_is) ?_ rfl rfl
    refine wpC_spliced_more (wpC_any ?_) rfl
    k_steps
    rename OK 450 _ => ok9
    refine wpC_spliced_nil ⟨Frag.In.keeps KX (Fr.keep (by assumption)), ?_⟩
    k_dflt (refine' spec_right _ _ (Nat.le_trans ok9.1 (by decide)) ok9.2 B0 (by assumption) KX (by assumption) T rfl ?kd ?ku ?_; (case kd => ktr_room); (case ku => ktr_units))
    intro h5 tk5 F5 N5
    k_steps
    refine wpC_execs_nil (wpC_execs_nil ?_)
    exact ⟨_, _, _, _, [], rfl, F5, N5, (fun p hp => nomatch hp), (fun p hp => List.mem_cons_of_mem _ hp), rfl, rfl, rfl⟩
  · rintro h' tk m' news' F₁ N₁ ⟨rfl, e1⟩
    refine wpC_execs_cons (wpC_any ?_)
    k_steps
    exact good_true hg (fun _ => rfl) (by wrow_post) (Fr.keep (by assumption)))
end Mine
end PartX4
theorem PySem.Challenge.cw_qd0120_01_holds : PySem.Challenge.rw_qd0120_01.Holds := by
  exact Mine.law_walk
