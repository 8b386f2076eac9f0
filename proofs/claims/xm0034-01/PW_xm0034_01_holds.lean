import PyProof.Rows.All
import Wide.All
import OpenK.AllK
import Wide.FinOn
import Lean
import PySem.Challenge.RW_xm0034_01
open PySem PySem.W PySem.Calls PyProof.Rows PySem.Spec
set_option Elab.async false
set_option maxRecDepth 100000
set_option maxHeartbeats 4000000
section
namespace Mine
def ff (prog : Program) (ps : Params) {α : Type} : Nat → Sem α → Option α
  | 0, _ => none
  | n + 1, t => match t with
    | .pure a => some a
    | .rule _ k => ff prog ps n (k ())
    | .ask k => ff prog ps n (k ⟨prog, ps⟩)
    | .call c h _ _ k => match c, h with
      | .call (.builtin nm) ⟨[.int x _, .int y _], []⟩, none => if nm = "int.__lt__" then ff prog ps n (k (.ok (.ret (.bool (decide (x < y)))))) else none
      | _, _ => none
    | _ => none
theorem ff_sound {prog : Program} {w : World} {A : Around} {α : Type} {a : α} {Q : α → Shared → Prop} {E : Value → Shared → Prop} {s : Shared} (hq : Q a s) : ∀ (n : Nat) (t : Sem α), ff prog w.params n t = some a → wpAny (model prog w) A t Q E s := by
  intro n
  induction n with
  | zero => intro t h; cases h
  | succ n ih =>
    intro t h
    unfold ff at h
    split at h
    · cases h; exact wpAny_pure hq
    · rename_i tag k
      exact fun Γ p hΓ => ih _ h Γ p hΓ
    · rename_i k
      exact fun Γ p hΓ => ih _ h Γ p hΓ
    · rename_i c hh g l k
      split at h
      · rename_i nm x t1 y t2
        split at h
        · rename_i e
          subst e
          intro Γ p hΓ
          have q : wpAny (model prog w) A (call (.builtin "int.__lt__") [.int x t1, .int y t2]) (fun v s' => v = .bool (decide (x < y)) ∧ s' = s) (fun _ _ => False) s := call_int_lt ⟨rfl, rfl⟩
          have q' := q Γ p hΓ
          unfold call at q'
          rw [Sem.wp_runValue] at q'
          show wpCode _ _ _ p s
          refine wpCode_mono (fun r s' hr => ?_) q'
          cases r with
          | error e => exact hr.elim
          | ok f =>
            cases f with
            | ret v =>
              obtain ⟨rfl, rfl⟩ := hr
              exact ih _ h Γ p hΓ
            | next => exact hr.elim
            | brk => exact hr.elim
            | cont => exact hr.elim
        · cases h
      · cases h
    · cases h
def numV : Value → Option Int
  | .int n _ => some n
  | _ => none
def okB (R : List Int) (st : SortSt) : Bool := (failedOf st).isNone && decide ((arrOf st).toList.map (fun p => numV p.2) = R.map some)
def st0 (vs : List Value) : SortSt := SortSt.mk' oneType' (vs.toArray.zip vs.toArray) #[] 7 none
end Mine
end
section
namespace Mine
def upTo (n : Nat) : List Int := (List.range n).map fun (i : Nat) => (i : Int)
def valsOf : List Int → (Nat → Tok) → List Value
  | [], _ => []
  | n :: r, tk => .int n (tk 0) :: valsOf r fun i => tk (i + 1)
theorem vals_ex : ∀ {vs : List Value} {l : List Int}, IntsAre vs l → ∃ tk : Nat → Tok, vs = valsOf l tk
  | _, _, .nil => ⟨fun _ => 0, rfl⟩
  | _, _, .cons n t h => by
    obtain ⟨tk, e⟩ := vals_ex h
    refine ⟨fun i => match i with | 0 => t | i + 1 => tk i, ?_⟩
    rw [e]
    rfl
theorem ints_num : ∀ {vs : List Value} {R : List Int}, vs.map numV = R.map some → IntsAre vs R
  | [], [], _ => .nil
  | [], _ :: _, h => by cases h
  | _ :: _, [], h => by cases h
  | v :: vs, n :: R, h => by
    obtain ⟨h1, h2⟩ := List.cons.inj h
    cases v <;> cases h1
    exact .cons _ _ (ints_num h2)
def withB (ps : Params) (b : Bool) : Params := { ps with followText := fun r => if r = "special-get-raises" then b else ps.followText r }
theorem withB_eq (ps : Params) {b : Bool} (h : ps.followText "special-get-raises" = b) : withB ps b = ps := by
  have e : (fun r => if r = "special-get-raises" then b else ps.followText r) = ps.followText := by
    funext r
    by_cases q : r = "special-get-raises"
    · rw [if_pos q, q, h]
    · rw [if_neg q]
  unfold withB
  rw [e]
end Mine
end
section
namespace Mine
def kvs : List Int → (Nat → Tok) → (Nat → Tok) → List Keyed
  | [], _, _ => []
  | n :: r, f, g => (.int n (f 0), .int n (g 0)) :: kvs r (fun i => f (i + 1)) fun i => g (i + 1)
def chk : List Int → List Keyed → Bool
  | [], [] => true
  | n :: r, (.int a _, .int b _) :: l => decide (a = n) && (decide (b = n) && chk r l)
  | _, _ => false
theorem chk_kvs : ∀ {R : List Int} {l : List Keyed}, chk R l = true → ∃ f g, l = kvs R f g
  | [], [], _ => ⟨fun _ => 0, fun _ => 0, rfl⟩
  | n :: r, (.int a t, .int b u) :: l, h => by
    unfold chk at h
    obtain ⟨h1, h2⟩ := Bool.and_eq_true_iff.mp h
    obtain ⟨h3, h4⟩ := Bool.and_eq_true_iff.mp h2
    obtain ⟨f, g, e⟩ := chk_kvs h4
    refine ⟨fun i => match i with | 0 => t | i + 1 => f i, fun i => match i with | 0 => u | i + 1 => g i, ?_⟩
    rw [e, of_decide_eq_true h1, of_decide_eq_true h3]
    rfl
noncomputable def isOne (k : SortKind) : Bool := (sortPriv% PySem.Builtin.KeyKind.rec) (motive := fun _ => Bool) false true (fun _ => false) k
theorem isOne_spec {k : SortKind} (h : isOne k = true) : k = oneType' := by
  cases k <;> first | rfl | cases h
def atS (R : List Int) (pd : List (Nat × Nat × Nat)) (mg : Nat) (f g : Nat → Tok) : SortSt := SortSt.mk' oneType' (kvs R f g).toArray pd.toArray mg none
noncomputable def okS {α : Type} [DecidableEq α] (a : α) (R : List Int) (pd : List (Nat × Nat × Nat)) (mg : Nat) : Option (α × SortSt) → Bool
  | some (x, st) => decide (x = a) && (isOne (kindOf st) && (decide ((pendingOf st).toList = pd) && (decide (gallopOf st = mg) && ((failedOf st).isNone && chk R (arrOf st).toList))))
  | none => false
theorem okS_spec {α : Type} [DecidableEq α] {a : α} {R : List Int} {pd : List (Nat × Nat × Nat)} {mg : Nat} {x : α} {st : SortSt} (h : okS a R pd mg (some (x, st)) = true) :
    x = a ∧ ∃ f g, st = atS R pd mg f g := by
  unfold okS at h
  obtain ⟨h1, h⟩ := Bool.and_eq_true_iff.mp h
  obtain ⟨h2, h⟩ := Bool.and_eq_true_iff.mp h
  obtain ⟨h3, h⟩ := Bool.and_eq_true_iff.mp h
  obtain ⟨h4, h⟩ := Bool.and_eq_true_iff.mp h
  obtain ⟨h5, h6⟩ := Bool.and_eq_true_iff.mp h
  obtain ⟨f, g, e⟩ := chk_kvs h6
  refine ⟨of_decide_eq_true h1, f, g, ?_⟩
  have k1 := isOne_spec h2
  have k2 := of_decide_eq_true h3
  have k3 := of_decide_eq_true h4
  have k4 := Option.isNone_iff_eq_none.mp h5
  have k5 : arrOf st = (kvs R f g).toArray := by rw [← e]
  have k6 : pendingOf st = pd.toArray := by rw [← k2]
  show SortSt.mk' (kindOf st) (arrOf st) (pendingOf st) (gallopOf st) (failedOf st) = _
  rw [k1, k3, k4, k5, k6]
  rfl
/-- the model's step m, run from the written state, ends in the written state with a -/
def Stage {α : Type} [DecidableEq α] (m : StateT SortSt Sem α) (R : List Int) (pd : List (Nat × Nat × Nat)) (mg : Nat) (a : α) (R' : List Int) (pd' : List (Nat × Nat × Nat)) (mg' : Nat) : Prop :=
  ∀ (prog : Program) (ps : Params) (b : Bool) (f g : Nat → Tok), okS a R' pd' mg' (ff prog (withB ps b) 100000 (m.run (atS R pd mg f g))) = true
section
variable {prog : Program} {w : World} {A : Around} {E : Value → Shared → Prop} {s : Shared}
theorem stage_use {α : Type} [DecidableEq α] {m : StateT SortSt Sem α} {R : List Int} {pd : List (Nat × Nat × Nat)} {mg : Nat} {a : α} {R' : List Int} {pd' : List (Nat × Nat × Nat)} {mg' : Nat} {f g : Nat → Tok} {Q : α → SortSt → Prop}
    (H : Stage m R pd mg a R' pd' mg') (h : ∀ f g, Q a (atS R' pd' mg' f g)) : wpS (model prog w) A E s m Q (atS R pd mg f g) := by
  have e := H prog w.params (w.params.followText "special-get-raises") f g
  rw [withB_eq w.params rfl] at e
  unfold wpS
  cases hr : ff prog w.params 100000 (m.run (atS R pd mg f g)) with
  | none => rw [hr] at e; cases e
  | some r =>
    rw [hr] at e
    obtain ⟨x, st⟩ := r
    obtain ⟨rfl, f', g', rfl⟩ := okS_spec e
    exact ff_sound ⟨rfl, h f' g'⟩ _ _ hr
end
def nl0 : List Int := [0, 7, 25, 30, 42, 45, 51, 52, 75, 76, 82, 85, 97, 102, 120, 127, 1, 6, 24, 31, 43, 44, 50, 53, 74, 77, 83, 84, 96, 103, 121, 126] ++ ([2, 5, 27, 28, 40, 47, 49, 54, 73, 78, 80, 87, 99, 100, 122, 125, 4, 3, 29, 26, 46, 41, 55, 48, 79, 72, 86, 81, 101, 98, 124, 123] ++ ([8, 15, 17, 22, 34, 37, 59, 60, 67, 68, 90, 93, 105, 110, 112, 119, 16, 23, 9, 14, 58, 61, 35, 36, 91, 92, 66, 69, 113, 118, 104, 111] ++ ([32, 39, 57, 62, 10, 13, 19, 20, 107, 108, 114, 117, 65, 70, 88, 95, 64, 71, 89, 94, 106, 109, 115, 116, 11, 12, 18, 21, 33, 38, 56, 63])))
def nl1 : List Int := [0, 1, 6, 7, 24, 25, 30, 31, 42, 43, 44, 45, 50, 51, 52, 53, 74, 75, 76, 77, 82, 83, 84, 85, 96, 97, 102, 103, 120, 121, 126, 127] ++ ([2, 5, 27, 28, 40, 47, 49, 54, 73, 78, 80, 87, 99, 100, 122, 125, 4, 3, 29, 26, 46, 41, 55, 48, 79, 72, 86, 81, 101, 98, 124, 123] ++ ([8, 15, 17, 22, 34, 37, 59, 60, 67, 68, 90, 93, 105, 110, 112, 119, 16, 23, 9, 14, 58, 61, 35, 36, 91, 92, 66, 69, 113, 118, 104, 111] ++ ([32, 39, 57, 62, 10, 13, 19, 20, 107, 108, 114, 117, 65, 70, 88, 95, 64, 71, 89, 94, 106, 109, 115, 116, 11, 12, 18, 21, 33, 38, 56, 63])))
def nl2 : List Int := [0, 1, 6, 7, 24, 25, 30, 31, 42, 43, 44, 45, 50, 51, 52, 53, 74, 75, 76, 77, 82, 83, 84, 85, 96, 97, 102, 103, 120, 121, 126, 127] ++ ([2, 3, 4, 5, 26, 27, 28, 29, 40, 41, 46, 47, 48, 49, 54, 55, 72, 73, 78, 79, 80, 81, 86, 87, 98, 99, 100, 101, 122, 123, 124, 125] ++ ([8, 15, 17, 22, 34, 37, 59, 60, 67, 68, 90, 93, 105, 110, 112, 119, 16, 23, 9, 14, 58, 61, 35, 36, 91, 92, 66, 69, 113, 118, 104, 111] ++ ([32, 39, 57, 62, 10, 13, 19, 20, 107, 108, 114, 117, 65, 70, 88, 95, 64, 71, 89, 94, 106, 109, 115, 116, 11, 12, 18, 21, 33, 38, 56, 63])))
def nl3 : List Int := [0, 1, 6, 7, 24, 25, 30, 31, 42, 43, 44, 45, 50, 51, 52, 53, 74, 75, 76, 77, 82, 83, 84, 85, 96, 97, 102, 103, 120, 121, 126, 127] ++ ([2, 3, 4, 5, 26, 27, 28, 29, 40, 41, 46, 47, 48, 49, 54, 55, 72, 73, 78, 79, 80, 81, 86, 87, 98, 99, 100, 101, 122, 123, 124, 125] ++ ([8, 9, 14, 15, 16, 17, 22, 23, 34, 35, 36, 37, 58, 59, 60, 61, 66, 67, 68, 69, 90, 91, 92, 93, 104, 105, 110, 111, 112, 113, 118, 119] ++ ([32, 39, 57, 62, 10, 13, 19, 20, 107, 108, 114, 117, 65, 70, 88, 95, 64, 71, 89, 94, 106, 109, 115, 116, 11, 12, 18, 21, 33, 38, 56, 63])))
def nl4 : List Int := [0, 1, 2, 3, 4, 5, 6, 7, 24, 25, 26, 27, 28, 29, 30, 31, 40, 41, 42, 43, 44, 45, 46, 47, 48, 49, 50, 51, 52, 53, 54, 55] ++ ([72, 73, 74, 75, 76, 77, 78, 79, 80, 81, 82, 83, 84, 85, 86, 87, 96, 97, 98, 99, 100, 101, 102, 103, 120, 121, 122, 123, 124, 125, 126, 127] ++ ([8, 9, 14, 15, 16, 17, 22, 23, 34, 35, 36, 37, 58, 59, 60, 61, 66, 67, 68, 69, 90, 91, 92, 93, 104, 105, 110, 111, 112, 113, 118, 119] ++ ([32, 39, 57, 62, 10, 13, 19, 20, 107, 108, 114, 117, 65, 70, 88, 95, 64, 71, 89, 94, 106, 109, 115, 116, 11, 12, 18, 21, 33, 38, 56, 63])))
def nl5 : List Int := [0, 1, 2, 3, 4, 5, 6, 7, 24, 25, 26, 27, 28, 29, 30, 31, 40, 41, 42, 43, 44, 45, 46, 47, 48, 49, 50, 51, 52, 53, 54, 55] ++ ([72, 73, 74, 75, 76, 77, 78, 79, 80, 81, 82, 83, 84, 85, 86, 87, 96, 97, 98, 99, 100, 101, 102, 103, 120, 121, 122, 123, 124, 125, 126, 127] ++ ([8, 9, 14, 15, 16, 17, 22, 23, 34, 35, 36, 37, 58, 59, 60, 61, 66, 67, 68, 69, 90, 91, 92, 93, 104, 105, 110, 111, 112, 113, 118, 119] ++ ([10, 11, 12, 13, 18, 19, 20, 21, 32, 33, 38, 39, 56, 57, 62, 63, 64, 65, 70, 71, 88, 89, 94, 95, 106, 107, 108, 109, 114, 115, 116, 117])))
def nl6 : List Int := [0, 1, 2, 3, 4, 5, 6, 7, 24, 25, 26, 27, 28, 29, 30, 31, 40, 41, 42, 43, 44, 45, 46, 47, 48, 49, 50, 51, 52, 53, 54, 55] ++ ([72, 73, 74, 75, 76, 77, 78, 79, 80, 81, 82, 83, 84, 85, 86, 87, 96, 97, 98, 99, 100, 101, 102, 103, 120, 121, 122, 123, 124, 125, 126, 127] ++ ([8, 9, 10, 11, 12, 13, 14, 15, 16, 17, 18, 19, 20, 21, 22, 23, 32, 33, 34, 35, 36, 37, 38, 39, 56, 57, 58, 59, 60, 61, 62, 63] ++ ([64, 65, 66, 67, 68, 69, 70, 71, 88, 89, 90, 91, 92, 93, 94, 95, 104, 105, 106, 107, 108, 109, 110, 111, 112, 113, 114, 115, 116, 117, 118, 119])))
def nl7 : List Int := [0, 1, 2, 3, 4, 5, 6, 7, 8, 9, 10, 11, 12, 13, 14, 15, 16, 17, 18, 19, 20, 21, 22, 23, 24, 25, 26, 27, 28, 29, 30, 31] ++ ([32, 33, 34, 35, 36, 37, 38, 39, 40, 41, 42, 43, 44, 45, 46, 47, 48, 49, 50, 51, 52, 53, 54, 55, 56, 57, 58, 59, 60, 61, 62, 63] ++ ([64, 65, 66, 67, 68, 69, 70, 71, 72, 73, 74, 75, 76, 77, 78, 79, 80, 81, 82, 83, 84, 85, 86, 87, 88, 89, 90, 91, 92, 93, 94, 95] ++ ([96, 97, 98, 99, 100, 101, 102, 103, 104, 105, 106, 107, 108, 109, 110, 111, 112, 113, 114, 115, 116, 117, 118, 119, 120, 121, 122, 123, 124, 125, 126, 127])))
theorem stage0 : Stage (countRun' 0 128) nl0 [] 7 (some 16) nl0 [] 7 := by
  intro prog ps b f g
  cases b
  · kernel_rfl
  · kernel_rfl
theorem stage1 : Stage (binarySort' 0 32 16) nl0 [] 7 true nl1 [] 7 := by
  intro prog ps b f g
  cases b
  · kernel_rfl
  · kernel_rfl
theorem stage2 : Stage (countRun' 32 96) nl1 [(0, 32, 0)] 7 (some 16) nl1 [(0, 32, 0)] 7 := by
  intro prog ps b f g
  cases b
  · kernel_rfl
  · kernel_rfl
theorem stage3 : Stage (binarySort' 32 32 16) nl1 [(0, 32, 0)] 7 true nl2 [(0, 32, 0)] 7 := by
  intro prog ps b f g
  cases b
  · kernel_rfl
  · kernel_rfl
theorem stage4 : Stage (countRun' 64 64) nl2 [(0, 32, 2), (32, 32, 0)] 7 (some 16) nl2 [(0, 32, 2), (32, 32, 0)] 7 := by
  intro prog ps b f g
  cases b
  · kernel_rfl
  · kernel_rfl
theorem stage5 : Stage (binarySort' 64 32 16) nl2 [(0, 32, 2), (32, 32, 0)] 7 true nl3 [(0, 32, 2), (32, 32, 0)] 7 := by
  intro prog ps b f g
  cases b
  · kernel_rfl
  · kernel_rfl
theorem stage6 : Stage (mergeAt' 0) nl3 [(0, 32, 2), (32, 32, 0)] 7 true nl4 [(0, 64, 2)] 7 := by
  intro prog ps b f g
  cases b
  · kernel_rfl
  · kernel_rfl
theorem stage7 : Stage (countRun' 96 32) nl4 [(0, 64, 1), (64, 32, 0)] 7 (some 4) nl4 [(0, 64, 1), (64, 32, 0)] 7 := by
  intro prog ps b f g
  cases b
  · kernel_rfl
  · kernel_rfl
theorem stage8 : Stage (binarySort' 96 32 4) nl4 [(0, 64, 1), (64, 32, 0)] 7 true nl5 [(0, 64, 1), (64, 32, 0)] 7 := by
  intro prog ps b f g
  cases b
  · kernel_rfl
  · kernel_rfl
theorem stage9 : Stage (mergeAt' 1) nl5 [(0, 64, 1), (64, 32, 2), (96, 32, 0)] 7 true nl6 [(0, 64, 1), (64, 64, 2)] 7 := by
  intro prog ps b f g
  cases b
  · kernel_rfl
  · kernel_rfl
theorem stage10 : Stage (mergeAt' 0) nl6 [(0, 64, 1), (64, 64, 2)] 7 true nl7 [(0, 128, 1)] 3 := by
  intro prog ps b f g
  cases b
  · kernel_rfl
  · kernel_rfl
end Mine
end
section
namespace Mine
theorem kvs_length : ∀ (R : List Int) (f g : Nat → Tok), (kvs R f g).length = R.length
  | [], _, _ => rfl
  | _ :: r, f, g => congrArg (· + 1) (kvs_length r (fun i => f (i + 1)) fun i => g (i + 1))
theorem set_at {R : List Int} {pd pd' : List (Nat × Nat × Nat)} {mg : Nat} {f g : Nat → Tok} {ps : Array (Nat × Nat × Nat)} (h : ps = pd'.toArray) : setPending (atS R pd mg f g) ps = atS R pd' mg f g := by
  subst h; rfl
def J (x : Nat) (c : Option Unit × Nat) (st : SortSt) : Prop :=
  (x = 0 ∧ c = (none, 0) ∧ ∃ f g, st = atS nl0 [] 7 f g) ∨ (x = 1 ∧ c = (none, 32) ∧ ∃ f g, st = atS nl1 [(0, 32, 0)] 7 f g)
  ∨ (x = 2 ∧ c = (none, 64) ∧ ∃ f g, st = atS nl2 [(0, 32, 2), (32, 32, 0)] 7 f g)
  ∨ (x = 3 ∧ c = (none, 96) ∧ ∃ f g, st = atS nl4 [(0, 64, 1), (64, 32, 0)] 7 f g)
  ∨ (4 ≤ x ∧ c = (none, 128) ∧ ∃ f g, st = atS nl5 [(0, 64, 1), (64, 32, 2), (96, 32, 0)] 7 f g)
theorem back_at {R : List Int} {pd : List (Nat × Nat × Nat)} {mg : Nat} {f g : Nat → Tok} : (pendingOf (atS R pd mg f g)).back? = pd.getLast? := by
  show (pd.toArray).back? = _
  simp
theorem mk_at (R : List Int) (mg : Nat) (f g : Nat → Tok) {p : Array (Nat × Nat × Nat)} {pd' : List (Nat × Nat × Nat)} (h : p = pd'.toArray) : SortSt.mk' oneType' (kvs R f g).toArray p mg none = atS R pd' mg f g := by
  subst h; rfl
theorem pick_at {R : List Int} {pd : List (Nat × Nat × Nat)} {mg : Nat} {f g : Nat → Tok} {x : Option (Nat × Nat × Nat)} (h : (if pd.length > 1 then pd[pd.length - 2]? else none) = x) :
    (if (pendingOf (atS R pd mg f g)).size > 1 then (pendingOf (atS R pd mg f g))[(pendingOf (atS R pd mg f g)).size - 2]? else none) = x := by
  subst h
  show (if pd.toArray.size > 1 then pd.toArray[pd.toArray.size - 2]? else none) = _
  simp
theorem size_at {R : List Int} {pd : List (Nat × Nat × Nat)} {mg : Nat} {f g : Nat → Tok} : (pendingOf (atS R pd mg f g)).size = pd.length := by
  show pd.toArray.size = _
  simp
section
variable {prog : Program} {w : World} {A : Around} {E : Value → Shared → Prop} {s : Shared}
theorem near_run {Q : Unit → SortSt → Prop} {f g : Nat → Tok} (h : ∀ f g, Q () (atS nl7 [(0, 128, 1)] 3 f g)) : wpS (model prog w) A E s sortRuns' Q (atS nl0 [] 7 f g) := by
  rw [sortRuns'_eq]
  refine wpS_bind (wpS_get ?_)
  dsimp only
  have hsz : (arrOf (atS nl0 [] 7 f g)).size = 128 := by
    show ((kvs nl0 f g).toArray).size = 128
    rw [List.size_toArray, kvs_length]
    decide +kernel
  have hmr : minRun' 128 128 0 = 32 := by decide +kernel
  simp only [hsz, hmr]
  refine wpS_bind (wpS_mono (wpS_forRange (I := J) (Q := fun c st' => c = (none, 128) ∧ ∃ f g, st' = atS nl5 [(0, 64, 1), (64, 32, 2), (96, 32, 0)] 7 f g) ?step ?fin (.inl ⟨rfl, rfl, f, g, rfl⟩)) ?post)
  case step =>
    rintro x c st' _ hx (⟨rfl, rfl, f, g, rfl⟩ | ⟨rfl, rfl, f, g, rfl⟩ | ⟨rfl, rfl, f, g, rfl⟩ | ⟨rfl, rfl, f, g, rfl⟩ | ⟨h4, rfl, f, g, rfl⟩)
    · dsimp only
      rw [if_neg (by decide)]
      refine wpS_bind (stage_use stage0 fun f g => ?_)
      dsimp only
      rw [if_pos (by decide)]
      refine wpS_bind (wpS_lift (wpAny_rule ⟨rfl, ?_⟩))
      refine wpS_bind (stage_use stage1 fun f g => ?_)
      simp only [Bool.not_true, Bool.false_eq_true, if_false]
      refine wpS_bind (wpS_get ?_)
      rw [back_at]
      refine wpS_bind (wpS_modify (wpS_pure (.inr (.inl ⟨rfl, rfl, f, g, set_at rfl⟩))))
    · dsimp only
      rw [if_neg (by decide)]
      refine wpS_bind (stage_use stage2 fun f g => ?_)
      dsimp only
      rw [if_pos (by decide)]
      refine wpS_bind (wpS_lift (wpAny_rule ⟨rfl, ?_⟩))
      refine wpS_bind (stage_use stage3 fun f g => ?_)
      simp only [Bool.not_true, Bool.false_eq_true, if_false]
      refine wpS_bind (wpS_get ?_)
      rw [back_at]
      dsimp only [List.getLast?]
      refine wpS_bind (wpS_mono (wpS_forRange (I := fun _ c st'' => st'' = atS nl2 [(0, 32, 0)] 7 f g ∧ c = (none, ())) (Q := fun c st'' => st'' = atS nl2 [(0, 32, 0)] 7 f g ∧ c = (none, ())) ?s1 (fun _ _ hh => hh) ⟨rfl, rfl⟩) ?p1)
      case s1 =>
        rintro x c st'' _ _ ⟨rfl, rfl⟩
        refine wpS_bind (wpS_get ?_)
        try dsimp only
        rw [pick_at (x := none) rfl]
        exact wpS_pure ⟨rfl, rfl⟩
      case p1 =>
        rintro c st'' ⟨rfl, rfl⟩
        refine wpS_bind (wpS_modify ?_)
        refine wpS_bind (wpS_modify (wpS_pure (.inr (.inr (.inl ⟨rfl, rfl, f, g, ?_⟩)))))
        exact mk_at nl2 7 f g (by kernel_rfl)
    · dsimp only
      rw [if_neg (by decide)]
      refine wpS_bind (stage_use stage4 fun f g => ?_)
      dsimp only
      rw [if_pos (by decide)]
      refine wpS_bind (wpS_lift (wpAny_rule ⟨rfl, ?_⟩))
      refine wpS_bind (stage_use stage5 fun f g => ?_)
      simp only [Bool.not_true, Bool.false_eq_true, if_false]
      refine wpS_bind (wpS_get ?_)
      rw [back_at]
      dsimp only [List.getLast?]
      refine wpS_bind (wpS_mono (wpS_forRange (I := fun x c st'' => c = (none, ()) ∧ ((x = 0 ∧ ∃ f g, st'' = atS nl3 [(0, 32, 2), (32, 32, 0)] 7 f g) ∨ (1 ≤ x ∧ ∃ f g, st'' = atS nl4 [(0, 64, 2)] 7 f g)))
        (Q := fun c st'' => c = (none, ()) ∧ ∃ f g, st'' = atS nl4 [(0, 64, 2)] 7 f g) ?s2 ?e2 ⟨rfl, .inl ⟨rfl, f, g, rfl⟩⟩) ?p2)
      case s2 =>
        intro x c st'' _ _ hI
        obtain ⟨rfl, h1 | h1⟩ := hI
        · obtain ⟨rfl, f, g, rfl⟩ := h1
          refine wpS_bind ?_
          refine wpS_get ?_
          rw [pick_at (x := some (0, 32, 2)) rfl]
          dsimp only
          rw [if_neg (by decide +kernel)]
          refine wpS_bind ?_
          simp only [size_at, List.length_cons, List.length_nil, Nat.reduceAdd, Nat.reduceSub]
          have H := stage6
          revert H
          generalize mergeAt' 0 = m9
          intro H
          refine stage_use H fun f g => ?_
          simp only [Bool.not_true, Bool.false_eq_true, if_false]
          exact wpS_pure ⟨rfl, .inr ⟨Nat.le_refl _, f, g, rfl⟩⟩
        · obtain ⟨_, f, g, rfl⟩ := h1
          refine wpS_bind ?_
          refine wpS_get ?_
          rw [pick_at (x := none) rfl]
          exact wpS_pure ⟨rfl, f, g, rfl⟩
      case e2 =>
        rintro c st'' ⟨rfl, ⟨e, f, g, rfl⟩ | ⟨_, f, g, rfl⟩⟩
        · cases e
        · exact ⟨rfl, f, g, rfl⟩
      case p2 =>
        rintro c st'' ⟨rfl, f, g, rfl⟩
        refine wpS_bind (wpS_modify ?_)
        refine wpS_bind (wpS_modify (wpS_pure (.inr (.inr (.inr (.inl ⟨rfl, rfl, f, g, ?_⟩))))))
        exact mk_at nl4 7 f g (by kernel_rfl)
    · dsimp only
      rw [if_neg (by decide)]
      refine wpS_bind (stage_use stage7 fun f g => ?_)
      dsimp only
      rw [if_pos (by decide)]
      refine wpS_bind (wpS_lift (wpAny_rule ⟨rfl, ?_⟩))
      refine wpS_bind (stage_use stage8 fun f g => ?_)
      simp only [Bool.not_true, Bool.false_eq_true, if_false]
      refine wpS_bind (wpS_get ?_)
      rw [back_at]
      dsimp only [List.getLast?]
      refine wpS_bind (wpS_mono (wpS_forRange (I := fun _ c st'' => st'' = atS nl5 [(0, 64, 1), (64, 32, 0)] 7 f g ∧ c = (none, ())) (Q := fun c st'' => st'' = atS nl5 [(0, 64, 1), (64, 32, 0)] 7 f g ∧ c = (none, ())) ?s3 (fun _ _ hh => hh) ⟨rfl, rfl⟩) ?p3)
      case s3 =>
        rintro x c st'' _ _ ⟨rfl, rfl⟩
        refine wpS_bind (wpS_get ?_)
        try dsimp only
        rw [pick_at (x := some (0, 64, 1)) rfl]
        dsimp only
        rw [if_pos (by decide +kernel)]
        exact wpS_pure ⟨rfl, rfl⟩
      case p3 =>
        rintro c st'' ⟨rfl, rfl⟩
        refine wpS_bind (wpS_modify ?_)
        refine wpS_bind (wpS_modify (wpS_pure (.inr (.inr (.inr (.inr ⟨Nat.le_refl _, rfl, f, g, ?_⟩))))))
        exact mk_at nl5 7 f g (by kernel_rfl)
    · dsimp only
      rw [if_pos (by decide)]
      exact wpS_pure ⟨rfl, f, g, rfl⟩
  case fin =>
    rintro c st' (⟨e, _⟩ | ⟨e, _⟩ | ⟨e, _⟩ | ⟨e, _⟩ | ⟨_, rfl, f, g, rfl⟩)
    · cases e
    · cases e
    · cases e
    · cases e
    · exact ⟨rfl, f, g, rfl⟩
  case post =>
    rintro c st' ⟨rfl, f, g, rfl⟩
    dsimp only
    refine wpS_bind (wpS_mono (wpS_forRange (I := fun x c st'' => c = (none, ()) ∧ ((x = 0 ∧ ∃ f g, st'' = atS nl5 [(0, 64, 1), (64, 32, 2), (96, 32, 0)] 7 f g) ∨ (x = 1 ∧ ∃ f g, st'' = atS nl6 [(0, 64, 1), (64, 64, 2)] 7 f g) ∨ (2 ≤ x ∧ ∃ f g, st'' = atS nl7 [(0, 128, 1)] 3 f g)))
        (Q := fun c st'' => c = (none, ()) ∧ ∃ f g, st'' = atS nl7 [(0, 128, 1)] 3 f g) ?s4 ?e4 ⟨rfl, .inl ⟨rfl, f, g, rfl⟩⟩) ?p4)
    case s4 =>
      intro x c st'' _ _ hI
      obtain ⟨rfl, h1 | h1 | h1⟩ := hI
      · obtain ⟨rfl, f, g, rfl⟩ := h1
        refine wpS_bind ?_
        refine wpS_get ?_
        rw [if_neg (by rw [size_at]; decide)]
        refine wpS_bind ?_
        generalize hm : mergeAt' _ = m9
        have H := stage9
        have hm' : mergeAt' 1 = m9 := by
          rw [← hm]
          exact congrArg mergeAt' (by kernel_rfl)
        rw [hm'] at H
        refine stage_use H fun f g => ?_
        simp only [Bool.not_true, Bool.false_eq_true, if_false]
        exact wpS_pure ⟨rfl, .inr (.inl ⟨trivial, f, g, rfl⟩)⟩
      · obtain ⟨rfl, f, g, rfl⟩ := h1
        refine wpS_bind ?_
        refine wpS_get ?_
        rw [if_neg (by rw [size_at]; decide)]
        refine wpS_bind ?_
        generalize hm : mergeAt' _ = m9
        have H := stage10
        have hm' : mergeAt' 0 = m9 := by
          rw [← hm]
          exact congrArg mergeAt' (by kernel_rfl)
        rw [hm'] at H
        refine stage_use H fun f g => ?_
        simp only [Bool.not_true, Bool.false_eq_true, if_false]
        exact wpS_pure ⟨rfl, .inr (.inr ⟨Nat.le_refl _, f, g, rfl⟩)⟩
      · obtain ⟨_, f, g, rfl⟩ := h1
        refine wpS_bind ?_
        refine wpS_get ?_
        rw [if_pos (by rw [size_at]; decide)]
        exact wpS_pure ⟨rfl, f, g, rfl⟩
    case e4 =>
      rintro c st'' ⟨rfl, ⟨e, _⟩ | ⟨e, _⟩ | ⟨_, f, g, rfl⟩⟩
      · cases e
      · cases e
      · exact ⟨rfl, f, g, rfl⟩
    case p4 =>
      rintro c st'' ⟨rfl, f, g, rfl⟩
      exact wpS_pure (h f g)
end
end Mine
end
section
namespace Mine
/-- the model's sort, run on any values of the written ints, gives R -/
def RunSort (L R : List Int) : Prop := ∀ (prog : Program) (w : World) (A : Around) (E : Value → Shared → Prop) (s : Shared) (vs : List Value) (Q : Unit × SortSt → Shared → Prop), IntsAre vs L →
  (∀ st' : SortSt, failedOf st' = none → IntsAre ((arrOf st').map (·.2)).toList R → Q ((), st') s) → wpAny (model prog w) A (sortRuns'.run (st0 vs)) Q E s
theorem zip_kvs : ∀ (L : List Int) (tk : Nat → Tok), (valsOf L tk).zip (valsOf L tk) = kvs L tk tk
  | [], _ => rfl
  | n :: r, tk => by
    show (Value.int n (tk 0), Value.int n (tk 0)) :: (valsOf r fun i => tk (i + 1)).zip (valsOf r fun i => tk (i + 1)) = _
    rw [zip_kvs r]
    rfl
theorem kvs_ints : ∀ (L : List Int) (f g : Nat → Tok), IntsAre ((kvs L f g).map (·.2)) L
  | [], _, _ => .nil
  | n :: r, f, g => .cons _ _ (kvs_ints r _ _)
theorem nl7_is : nl7 = upTo 128 := by decide +kernel
theorem near_sorts : RunSort nl0 (upTo 128) := by
  intro prog w A E s vs Q hI h
  obtain ⟨tk, rfl⟩ := vals_ex hI
  have e : st0 (valsOf nl0 tk) = atS nl0 [] 7 tk tk := by
    unfold st0 atS
    rw [← zip_kvs, ← List.zip_toArray]
  rw [e]
  have q := near_run (prog := prog) (w := w) (A := A) (E := E) (s := s) (f := tk) (g := tk) (Q := fun _ st' => Q ((), st') s) (fun f g => h _ rfl (by
    show IntsAre ((kvs nl7 f g).toArray.map (·.2)).toList (upTo 128)
    rw [← nl7_is, Array.toList_map]
    exact kvs_ints nl7 f g))
  exact wpAny_mono q (fun r s' hr => by obtain ⟨rfl, hq⟩ := hr; exact hq) fun _ _ e => e
section
variable {prog : Program} {w : World} {A : Around} {E : Value → Shared → Prop} {s : Shared} {L R : List Int}
theorem sort_tree (H : RunSort L R) {a : Addr} {vs : List Value} {n : Nat} {P : PySem.Fin → Shared → Prop} (ho : s.heap.get? a = some (seqObj "list" vs.toArray n))
    (hI : IntsAre vs L) (h2 : 2 ≤ L.length) (hL : L.length ≤ 1000) (hR : R.length ≤ 1000)
    (h : ∀ out : Array Value, IntsAre out.toList R → P (.done (.ret .none)) { s with heap := sortedHeap s.heap a vs out }) :
    wpAny (model prog w) A (Builtin.«list.sort» ⟨[.ref a], []⟩) P E s := by
  have hlen := hI.length
  rw [list_sort_plain]
  have ha : a < s.heap.objs.size := Heap.lt_size ho
  refine wpAny_bind (listItems_at ho rfl ?_)
  refine wpAny_bind (listUpdate_at ho rfl ?_ (by rw [List.size_toArray, sizeLine_eq]; omega) (Nat.zero_le _))
  obtain ⟨e1, ho1⟩ : ∃ e1, (s.heap.update a (Obj.mapSeq fun _ => #[])).get? a = some (seqObj "list" #[] e1) := ⟨_, get?_update_seq ho (fun _ => #[])⟩
  refine wpAny_bind (seqEpoch_at ho1 rfl ?_)
  refine wpAny_bind (wpAny_newTuple ?_)
  refine wpAny_bind (wpAny_newList ?_)
  refine wpAny_holding ?_
  have ho6 : (((s.heap.update a (Obj.mapSeq fun _ => #[])).push (seqObj "tuple" vs.toArray 0)).push (seqObj "list" #[] 0)).get? a = some (seqObj "list" #[] e1) := by
    rw [Heap.get?_push_ne _ _ _ (by rw [size_push', Heap.size_update]; exact Nat.ne_of_lt (Nat.lt_succ_of_lt ha)), Heap.get?_push_ne _ _ _ (by rw [Heap.size_update]; exact Nat.ne_of_lt ha)]
    exact ho1
  show wpAny (model prog w) A _ P E { s with heap := ((s.heap.update a (Obj.mapSeq fun _ => #[])).push (seqObj "tuple" vs.toArray 0)).push (seqObj "list" #[] 0) }
  dsimp only
  rw [if_neg (by rw [List.size_toArray]; omega), if_neg (by rw [List.size_toArray]; omega)]
  obtain ⟨v₁, v₂, rest, rfl⟩ : ∃ v₁ v₂ rest, vs = v₁ :: v₂ :: rest := by
    match vs, hlen with
    | [], q => simp at q; omega
    | [_], q => simp at q; omega
    | v₁ :: v₂ :: rest, _ => exact ⟨v₁, v₂, rest, rfl⟩
  rw [keyKind_ints hI]
  refine wpAny_bind (wpAny_pure ?_)
  refine wpAny_bind (H prog w A E _ _ _ hI fun st' hf hs => ?_)
  dsimp only
  have hout := hs.length
  refine wpAny_bind (seqEpoch_at ho6 rfl ?_)
  refine wpAny_bind (listUpdate_at ho6 rfl ?_ (Nat.zero_le _) (by
    have q : ((arrOf st').map (·.2)).toList.length = ((arrOf st').map (·.2)).size := Array.length_toList
    rw [sizeLine_eq]; omega))
  rw [hf]
  simp only [bne_self_eq_false, Bool.false_eq_true, if_false]
  exact wpAny_pure (h _ hs)
theorem sorted_call (H : RunSort L R) {l : Addr} {vs : List Value} {Q : Value → Shared → Prop} (hl : s.heap.IsList l vs.toArray) (hI : IntsAre vs L) (h2 : 2 ≤ L.length) (hL : L.length ≤ 1000) (hR : R.length ≤ 1000)
    (h : ∀ out : Array Value, IntsAre out.toList R → Q (.ref (s.heap.objs.size + 1)) { s with heap := sortedAll s.heap vs out }) :
    wpAny (model prog w) A (call (.builtin "sorted") [.ref l]) Q E s := by
  have hlen := hI.length
  refine Calls.call_function_entry kind_sorted plain_sorted entry_sorted (args_sorted1 _) ?_
  unfold Builtin.«sorted»
  refine wpAny_bind (m := checkCount "sorted" 1 1 _) (wpAny_pure ?_)
  refine wpAny_bind (collect_list hl ?_ (by rw [sizeLine_eq]; omega))
  refine wpAny_bind (wpAny_newList ?_)
  have hsz : ((s.heap.push (seqObj "list" #[] 0)).update s.heap.objs.size (Obj.mapSeq (· ++ vs.toArray))).objs.size = s.heap.objs.size + 1 := by
    rw [Heap.size_update, size_push']
  have hoL : (((s.heap.push (seqObj "list" #[] 0)).update s.heap.objs.size (Obj.mapSeq (· ++ vs.toArray))).push (seqObj "list" vs.toArray 0)).get? (s.heap.objs.size + 1) = some (seqObj "list" vs.toArray 0) := by
    rw [← hsz]; exact Heap.get?_push_size _ rfl
  show wpAny _ _ _ _ _ { s with heap := ((s.heap.push (seqObj "list" #[] 0)).update s.heap.objs.size (Obj.mapSeq (· ++ vs.toArray))).push (seqObj "list" vs.toArray 0) }
  rw [hsz]
  refine wpAny_bind (wpAny_holding (wpAny_call_entry slot_list_sort ⟨_, hoL, rfl⟩ entry_list_sort (sort_tree H hoL hI h2 hL hR fun out a1 => ⟨_, rfl, ?_⟩) (args_list_sort _)))
  exact wpAny_pure ⟨_, rfl, h out a1⟩
theorem sorted_lit (H : RunSort L R) {h₀ : Heap} {La : Addr} {m : PySem.Str → Option Value} {news : List (Addr × Obj)} {l : Addr} {vs : List Value} {Q : Value → Shared → Prop}
    (F : Fr h₀ La s.heap m) (N : News h₀ La s.heap news) (hl : s.heap.IsList l vs.toArray) (hI : IntsAre vs L) (h2 : 2 ≤ L.length) (hL : L.length ≤ 1000) (hR : R.length ≤ 1000)
    (h : ∀ D vs' c h', Fr h₀ La h' m → News h₀ La h' ((D, PySem.W.listOf vs'.toArray c) :: news) → (∀ q ∈ news, q.1 < D) → IntsAre vs' R → Q (.ref D) { s with heap := h' }) :
    wpAny (model prog w) A (call (.builtin "sorted") [.ref l]) Q E s := by
  refine sorted_call H hl hI h2 hL hR fun out a1 => ?_
  obtain ⟨e, he⟩ := sortedAll_at s.heap vs out
  refine h _ out.toList e _ (F.kept fun _ _ => sortedAll_old) (N.kept_cons F (fun _ _ => sortedAll_old) (Nat.le_succ _) ?_) (fun p hp => Nat.lt_succ_of_lt (Heap.lt_size (N p hp).1)) a1
  rw [Array.toArray_toList]
  exact he
end
end Mine
end
section
set_option maxHeartbeats 0
namespace Mine
def topBody : List Stmt := PySem.Challenge.rw_xm0034_01.row.prog.main.body
def topView : Program := { PySem.Challenge.rw_xm0034_01.row.prog with main := { PySem.Challenge.rw_xm0034_01.row.prog.main with body := (topBody.drop 1).take 9 ++ ((topBody.drop 11).take 11 ++ ((topBody.drop 23).take 10 ++ topBody.drop 34)) } }
local macro_rules | `(tactic| o_head $H) => `(tactic| (refine holds_open (q := topView) (loose := [Str.ofString "BasicError"]) (Xt := fun s => xlAt topView [] s && recOk (RowW.records (OpenRow.toRowW PySem.Challenge.rw_xm0034_01.row)) s) (XP := XL topView []) (Yf := Hook.obs $H) (Ya := Hook.val $H) (YP := Hook.says $H) (N := 2706) ?hl (Hook.of $H) (Hook.keeps $H) (fun s e => xl_of s (Bool.and_eq_true_iff.mp e).1) XL.keeps (by rfl) (by rfl) (by rfl) (fun s e => recFacts_of (Bool.and_eq_true_iff.mp e).2) (by rfl) (by first | assumption | decide +kernel) (by decide +kernel) ⟨rfl, rfl, rfl, rfl, rfl, by decide +kernel⟩ ?hw ?hc; (case hl => (intro w; kernel_rfl))))
open_top Hd01 for PySem.Challenge.rw_xm0034_01
end Mine
end
open Mine
section
namespace Mine
theorem add_xor : ∀ (m n : Nat), m + n = (m ^^^ n) + 2 * (m &&& n) := by
  intro m
  induction m using Nat.strongRecOn with
  | _ m ih =>
    intro n
    by_cases hm : m = 0
    · subst hm; simp
    · have e := ih (m / 2) (by omega) (n / 2)
      have h1 : (m ^^^ n) / 2 = m / 2 ^^^ n / 2 := Nat.xor_div_two
      have h2 : (m &&& n) / 2 = m / 2 &&& n / 2 := Nat.and_div_two
      have h3 := Nat.testBit_xor m n 0
      have h4 := Nat.testBit_and m n 0
      simp only [Nat.testBit_zero] at h3 h4
      rw [← h1, ← h2] at e
      generalize m ^^^ n = p at *
      generalize m &&& n = q at *
      clear h1 h2 ih
      rcases Nat.mod_two_eq_zero_or_one m with a | a <;> rcases Nat.mod_two_eq_zero_or_one n with b | b <;> rw [a, b] at h3 h4 <;> simp at h3 h4 <;> omega
theorem natAbs_and (a b : Nat) : Builtin.bitAnd (a : Int) (b : Int) = ((a &&& b : Nat) : Int) := by rfl
theorem natAbs_xor (a b : Nat) : Builtin.bitXor (a : Int) (b : Int) = ((a ^^^ b : Nat) : Int) := by
  rw [PyProof.Rows.bitXor_and, natAbs_and]
  have := add_xor a b
  omega
theorem and_facts {a b : Int} (ha : 0 ≤ a) (hb : 0 ≤ b) : 0 ≤ Builtin.bitAnd a b ∧ Builtin.bitAnd a b ≤ a ∧ Builtin.bitAnd a b ≤ b := by
  obtain ⟨m, rfl⟩ := Int.eq_ofNat_of_zero_le ha
  obtain ⟨n, rfl⟩ := Int.eq_ofNat_of_zero_le hb
  rw [natAbs_and]
  have h1 := @Nat.and_le_left m n
  have h2 := @Nat.and_le_right m n
  omega
theorem xor_lt {a b : Int} (k : Nat) (ha : 0 ≤ a) (hb : 0 ≤ b) (h1 : a < (2 ^ k : Nat)) (h2 : b < (2 ^ k : Nat)) : 0 ≤ Builtin.bitXor a b ∧ Builtin.bitXor a b < (2 ^ k : Nat) := by
  obtain ⟨m, rfl⟩ := Int.eq_ofNat_of_zero_le ha
  obtain ⟨n, rfl⟩ := Int.eq_ofNat_of_zero_le hb
  rw [natAbs_xor]
  have := @Nat.xor_lt_two_pow m n k (by omega) (by omega)
  omega
theorem xor_facts {a b : Int} (ha : 0 ≤ a ∧ a < 32768) (hb : 0 ≤ b ∧ b < 32768) : 0 ≤ Builtin.bitXor a b ∧ Builtin.bitXor a b < 32768 ∧ (a < 8 → b < 8 → Builtin.bitXor a b < 8) ∧ (a < 128 → b < 128 → Builtin.bitXor a b < 128) := by
  have h := xor_lt 15 ha.1 hb.1 ha.2 hb.2
  exact ⟨h.1, h.2, fun x y => (xor_lt 3 ha.1 hb.1 x y).2, fun x y => (xor_lt 7 ha.1 hb.1 x y).2⟩
end Mine
local macro_rules | `(tactic| k_room) => `(tactic| ktr_room)
namespace Mine

def Says (w : World) (p : Program) (loose : List PySem.Str) (mean : ExcName → Option Value) (mg mb : PySem.Str → Option Value) (k : Nat) (f : Addr) (vs : List Value) (pre post : Prop) (R : Tok → Value) : Prop :=
  ∀ (dp un : Nat) (gd : Option (List Code)) (cn : PySem.Str) (cs : Scope) (a : Addr) (ccd : Value) (cl : List (PySem.Str × Addr)) (outer : List Env) (A₀ : Around) (base h₀ : Heap) (L : Addr) (m : PySem.Str → Option Value) (news : List (Addr × Obj)) (s : Shared) (Q E : Value → Shared → Prop),
    Below A₀ base outer h₀ → Fr h₀ L s.heap m → (Hd01.heap_39 w.params).In h₀ → News h₀ L s.heap news → Top p loose mean mg mb h₀ → cs.kind = .function → pre → dp + k < recursionLimit → un + 10 * k < cLine → (post → CbRet h₀ L m news s Q R) →
      wpAny (model PySem.Challenge.rw_xm0034_01.row.prog w) (ktrTop dp un gd cn cs L a ccd cl outer) (call (.ref f) vs) Q E s
theorem says_use {w : World} {p : Program} {loose : List PySem.Str} {mean : ExcName → Option Value} {mg mb : PySem.Str → Option Value} {k : Nat} {f : Addr} {vs : List Value} {pre post : Prop} {R : Tok → Value}
    {dp un : Nat} {gd : Option (List Code)} {cn : PySem.Str} {cs : Scope} {a : Addr} {ccd : Value} {cl : List (PySem.Str × Addr)} {outer : List Env} {A₀ : Around} {base h₀ : Heap} {L : Addr} {m : PySem.Str → Option Value} {news : List (Addr × Obj)} {s : Shared} {Q E : Value → Shared → Prop}
    (C : Says w p loose mean mg mb k f vs pre post R) (B : Below A₀ base outer h₀) (F : Fr h₀ L s.heap m) (X : (Hd01.heap_39 w.params).In h₀) (N : News h₀ L s.heap news) (T : Top p loose mean mg mb h₀) (hk : cs.kind = .function) (hp : pre) (hd : dp + k < recursionLimit) (hu : un + 10 * k < cLine)
    (ret : post → ∀ (t : Tok) (h' : Heap) (tk' : Nat), Fr h₀ L h' m → News h₀ L h' news → Q (R t) { s with heap := h', toks := tk' }) :
    wpAny (model PySem.Challenge.rw_xm0034_01.row.prog w) (ktrTop dp un gd cn cs L a ccd cl outer) (call (.ref f) vs) Q E s :=
  C _ _ _ _ _ _ _ _ _ _ _ _ _ _ _ _ _ _ B F X N T hk hp hd hu ret

theorem fits_says (w : World) (p : Program) (loose : List PySem.Str) (mean : ExcName → Option Value) (mg mb : PySem.Str → Option Value) (x : Int) (t1 t2 : Tok) :
    Says w p loose mean mg mb 2 72 [.int x t1, .int 16 t2] (-32768 ≤ x ∧ x < 32768) (True) (fun _ => .bool true) := by
  unfold Says
  k_fill
  intro dp un gd cn cs a ccd cl outer A₀ base h₀ L m news s Q E hB hF hX hN hT hk hp hd hu hret0
  have hret := hret0 (trivial)
  clear hret0
  dsimp only [CbRet] at hret
  
  refine wpAny_call ?_
  k_dflt cell_enter
  k_steps
  all_goals cb_end hret
local macro_rules | `(tactic| walk_at "call ref") => `(tactic| (k_here; (with_reducible show wpAny _ _ (call (Value.ref 72) [_, _]) _ _ _); k_dflt (refine' says_use (fits_says _ _ _ _ _ _ _ _ _) ?k1 ?k2 ?k3 ?k4 ?k5 ?kK ?kp ?kd ?ku ?_; (case k1 => k_asm); (case k2 => k_asm); (case k3 => k_asm); (case k4 => k_asm); (case k5 => k_asm); (case kK => first | exact rfl | assumption); (case kp => first | exact True.intro | k_extra "pre" | ((try dsimp only); first | assumption | omega | l_fact)); (case kd => ktr_room); (case ku => ktr_units); intro p9 t9 h9 tk9 F9 N9; (try dsimp only); (try k_fold))))

theorem whole_says (w : World) (p : Program) (loose : List PySem.Str) (mean : ExcName → Option Value) (mg mb : PySem.Str → Option Value) (x : Int) (t1 t2 : Tok) :
    Says w p loose mean mg mb 4 79 [.int x t1, .int 16 t2] (-32768 ≤ x ∧ x < 32768) (True) (fun t => .int x t) := by
  unfold Says
  k_fill
  intro dp un gd cn cs a ccd cl outer A₀ base h₀ L m news s Q E hB hF hX hN hT hk hp hd hu hret0
  have hret := hret0 (trivial)
  clear hret0
  dsimp only [CbRet] at hret
  
  refine wpAny_call ?_
  k_dflt cell_enter
  k_steps
  all_goals cb_end hret
local macro_rules | `(tactic| walk_at "call ref") => `(tactic| (k_here; (with_reducible show wpAny _ _ (call (Value.ref 79) [_, _]) _ _ _); k_dflt (refine' says_use (whole_says _ _ _ _ _ _ _ _ _) ?k1 ?k2 ?k3 ?k4 ?k5 ?kK ?kp ?kd ?ku ?_; (case k1 => k_asm); (case k2 => k_asm); (case k3 => k_asm); (case k4 => k_asm); (case k5 => k_asm); (case kK => first | exact rfl | assumption); (case kp => first | exact True.intro | k_extra "pre" | ((try dsimp only); first | assumption | omega | l_fact)); (case kd => ktr_room); (case ku => ktr_units); intro p9 t9 h9 tk9 F9 N9; (try dsimp only); (try k_fold))))

theorem and_says (w : World) (p : Program) (loose : List PySem.Str) (mean : ExcName → Option Value) (mg mb : PySem.Str → Option Value) (x y : Int) (t1 t2 t3 t4 : Tok) :
    Says w p loose mean mg mb 6 220 [.str (Str.ofString "AND") t1, .int x t2, .int y t3, .int 16 t4] ((0 ≤ x ∧ x < 32768) ∧ 0 ≤ y ∧ y < 32768) (0 ≤ Builtin.bitAnd x y ∧ Builtin.bitAnd x y ≤ x ∧ Builtin.bitAnd x y ≤ y) (fun t => .int (Builtin.bitAnd x y) t) := by
  unfold Says
  k_fill
  intro dp un gd cn cs a ccd cl outer A₀ base h₀ L m news s Q E hB hF hX hN hT hk hp hd hu hret0
  have hret := hret0 (and_facts hp.1.1 hp.2.1)
  clear hret0
  dsimp only [CbRet] at hret
  
  refine wpAny_call ?_
  k_dflt cell_enter
  k_steps
  all_goals cb_end hret
local macro_rules | `(tactic| walk_at "call ref") => `(tactic| (k_here; (with_reducible show wpAny _ _ (call (Value.ref 220) [.str (Str.ofString "AND") _, _, _, _]) _ _ _); k_dflt (refine' says_use (and_says _ _ _ _ _ _ _ _ _ _ _ _) ?k1 ?k2 ?k3 ?k4 ?k5 ?kK ?kp ?kd ?ku ?_; (case k1 => k_asm); (case k2 => k_asm); (case k3 => k_asm); (case k4 => k_asm); (case k5 => k_asm); (case kK => first | exact rfl | assumption); (case kp => first | exact True.intro | k_extra "pre" | ((try dsimp only); first | assumption | omega | l_fact)); (case kd => ktr_room); (case ku => ktr_units); intro p9 t9 h9 tk9 F9 N9; (try dsimp only); (try k_fold))))

theorem xor_says (w : World) (p : Program) (loose : List PySem.Str) (mean : ExcName → Option Value) (mg mb : PySem.Str → Option Value) (x y : Int) (t1 t2 t3 t4 : Tok) :
    Says w p loose mean mg mb 6 220 [.str (Str.ofString "XOR") t1, .int x t2, .int y t3, .int 16 t4] ((0 ≤ x ∧ x < 32768) ∧ 0 ≤ y ∧ y < 32768) (0 ≤ Builtin.bitXor x y ∧ Builtin.bitXor x y < 32768 ∧ (x < 8 → y < 8 → Builtin.bitXor x y < 8) ∧ (x < 128 → y < 128 → Builtin.bitXor x y < 128)) (fun t => .int (Builtin.bitXor x y) t) := by
  unfold Says
  k_fill
  intro dp un gd cn cs a ccd cl outer A₀ base h₀ L m news s Q E hB hF hX hN hT hk hp hd hu hret0
  have hret := hret0 (xor_facts hp.1 hp.2)
  clear hret0
  dsimp only [CbRet] at hret
  
  refine wpAny_call ?_
  k_dflt cell_enter
  k_steps
  all_goals cb_end hret
local macro_rules | `(tactic| walk_at "call ref") => `(tactic| (k_here; (with_reducible show wpAny _ _ (call (Value.ref 220) [.str (Str.ofString "XOR") _, _, _, _]) _ _ _); k_dflt (refine' says_use (xor_says _ _ _ _ _ _ _ _ _ _ _ _) ?k1 ?k2 ?k3 ?k4 ?k5 ?kK ?kp ?kd ?ku ?_; (case k1 => k_asm); (case k2 => k_asm); (case k3 => k_asm); (case k4 => k_asm); (case k5 => k_asm); (case kK => first | exact rfl | assumption); (case kp => first | exact True.intro | k_extra "pre" | ((try dsimp only); first | assumption | omega | l_fact)); (case kd => ktr_room); (case ku => ktr_units); intro p9 t9 h9 tk9 F9 N9; (try dsimp only); (try k_fold))))

theorem xor0_says (w : World) (p : Program) (loose : List PySem.Str) (mean : ExcName → Option Value) (mg mb : PySem.Str → Option Value) (x y : Int) (t1 t2 t3 t4 : Tok) :
    Says w p loose mean mg mb 6 220 [.str (Str.ofString "XOR") t1, .int x t2, .int y t3, .int 16 t4] ((0 ≤ x ∧ x < 32768) ∧ 0 ≤ y ∧ y < 32768) (True) (fun t => .int (Builtin.bitXor x y) t) := by
  unfold Says
  k_fill
  intro dp un gd cn cs a ccd cl outer A₀ base h₀ L m news s Q E hB hF hX hN hT hk hp hd hu hret0
  have hret := hret0 (trivial)
  clear hret0
  dsimp only [CbRet] at hret
  
  refine wpAny_call ?_
  k_dflt cell_enter
  k_steps
  all_goals cb_end hret
local macro_rules | `(tactic| walk_at "call ref") => `(tactic| (k_here; (with_reducible show wpAny _ _ (call (Value.ref 220) [.str (Str.ofString "XOR") _, _, _, _]) _ _ _); k_dflt (refine' says_use (xor0_says _ _ _ _ _ _ _ _ _ _ _ _) ?k1 ?k2 ?k3 ?k4 ?k5 ?kK ?kp ?kd ?ku ?_; (case k1 => k_asm); (case k2 => k_asm); (case k3 => k_asm); (case k4 => k_asm); (case k5 => k_asm); (case kK => first | exact rfl | assumption); (case kp => first | exact True.intro | k_extra "pre" | ((try dsimp only); first | assumption | omega | l_fact)); (case kd => ktr_room); (case ku => ktr_units); intro p9 t9 h9 tk9 F9 N9; (try dsimp only); (try k_fold))))

theorem is_whole_says (w : World) (p : Program) (loose : List PySem.Str) (mean : ExcName → Option Value) (mg mb : PySem.Str → Option Value) (x : Int) (t1 : Tok) :
    Says w p loose mean mg mb 2 157 [.int x t1] (True) (True) (fun _ => .bool true) := by
  unfold Says
  k_fill
  intro dp un gd cn cs a ccd cl outer A₀ base h₀ L m news s Q E hB hF hX hN hT hk hp hd hu hret0
  have hret := hret0 (trivial)
  clear hret0
  dsimp only [CbRet] at hret
  
  refine wpAny_call ?_
  k_dflt cell_enter
  k_steps
  all_goals cb_end hret
local macro_rules | `(tactic| walk_at "call ref") => `(tactic| (k_here; (with_reducible show wpAny _ _ (call (Value.ref 157) [_]) _ _ _); k_dflt (refine' says_use (is_whole_says _ _ _ _ _ _ _ _) ?k1 ?k2 ?k3 ?k4 ?k5 ?kK ?kp ?kd ?ku ?_; (case k1 => k_asm); (case k2 => k_asm); (case k3 => k_asm); (case k4 => k_asm); (case k5 => k_asm); (case kK => first | exact rfl | assumption); (case kp => first | exact True.intro | k_extra "pre" | ((try dsimp only); first | assumption | omega | l_fact)); (case kd => ktr_room); (case ku => ktr_units); intro p9 t9 h9 tk9 F9 N9; (try dsimp only); (try k_fold))))

theorem settled_says (w : World) (p : Program) (loose : List PySem.Str) (mean : ExcName → Option Value) (mg mb : PySem.Str → Option Value) (x : Int) (t1 t2 t3 : Tok) :
    Says w p loose mean mg mb 4 164 [.int x t1, .int 16 t2, .int 9 t3] (-32768 ≤ x ∧ x < 32768) (True) (fun t => .int x t) := by
  unfold Says
  k_fill
  intro dp un gd cn cs a ccd cl outer A₀ base h₀ L m news s Q E hB hF hX hN hT hk hp hd hu hret0
  have hret := hret0 (trivial)
  clear hret0
  dsimp only [CbRet] at hret
  
  refine wpAny_call ?_
  k_dflt cell_enter
  k_steps
  all_goals cb_end hret
local macro_rules | `(tactic| walk_at "call ref") => `(tactic| (k_here; (with_reducible show wpAny _ _ (call (Value.ref 164) [_, _, _]) _ _ _); k_dflt (refine' says_use (settled_says _ _ _ _ _ _ _ _ _ _) ?k1 ?k2 ?k3 ?k4 ?k5 ?kK ?kp ?kd ?ku ?_; (case k1 => k_asm); (case k2 => k_asm); (case k3 => k_asm); (case k4 => k_asm); (case k5 => k_asm); (case kK => first | exact rfl | assumption); (case kp => first | exact True.intro | k_extra "pre" | ((try dsimp only); first | assumption | omega | l_fact)); (case kd => ktr_room); (case ku => ktr_units); intro p9 t9 h9 tk9 F9 N9; (try dsimp only); (try k_fold))))

theorem add_says (w : World) (p : Program) (loose : List PySem.Str) (mean : ExcName → Option Value) (mg mb : PySem.Str → Option Value) (x y : Int) (t1 t2 t3 t4 t5 : Tok) :
    Says w p loose mean mg mb 8 213 [.str (Str.ofString "+") t1, .int x t2, .int y t3, .int 16 t4, .int 9 t5] (-32768 ≤ x + y ∧ x + y < 32768) (True) (fun t => .int (x + y) t) := by
  unfold Says
  k_fill
  intro dp un gd cn cs a ccd cl outer A₀ base h₀ L m news s Q E hB hF hX hN hT hk hp hd hu hret0
  have hret := hret0 (trivial)
  clear hret0
  dsimp only [CbRet] at hret
  
  refine wpAny_call ?_
  k_dflt cell_enter
  k_steps
  all_goals cb_end hret
local macro_rules | `(tactic| walk_at "call ref") => `(tactic| (k_here; (with_reducible show wpAny _ _ (call (Value.ref 213) [.str (Str.ofString "+") _, _, _, _, _]) _ _ _); k_dflt (refine' says_use (add_says _ _ _ _ _ _ _ _ _ _ _ _ _) ?k1 ?k2 ?k3 ?k4 ?k5 ?kK ?kp ?kd ?ku ?_; (case k1 => k_asm); (case k2 => k_asm); (case k3 => k_asm); (case k4 => k_asm); (case k5 => k_asm); (case kK => first | exact rfl | assumption); (case kp => first | exact True.intro | k_extra "pre" | ((try dsimp only); first | assumption | omega | l_fact)); (case kd => ktr_room); (case ku => ktr_units); intro p9 t9 h9 tk9 F9 N9; (try dsimp only); (try k_fold))))

theorem mul_says (w : World) (p : Program) (loose : List PySem.Str) (mean : ExcName → Option Value) (mg mb : PySem.Str → Option Value) (x y : Int) (t1 t2 t3 t4 t5 : Tok) :
    Says w p loose mean mg mb 8 213 [.str (Str.ofString "*") t1, .int x t2, .int y t3, .int 16 t4, .int 9 t5] ((0 ≤ x ∧ x ≤ 16) ∧ 0 ≤ y ∧ y < 2048 ∧ 0 ≤ x * y ∧ x * y < 32768) (True) (fun t => .int (x * y) t) := by
  unfold Says
  k_fill
  intro dp un gd cn cs a ccd cl outer A₀ base h₀ L m news s Q E hB hF hX hN hT hk hp hd hu hret0
  have hret := hret0 (trivial)
  clear hret0
  dsimp only [CbRet] at hret
  
  refine wpAny_call ?_
  k_dflt cell_enter
  k_steps
  all_goals cb_end hret
local macro_rules | `(tactic| walk_at "call ref") => `(tactic| (k_here; (with_reducible show wpAny _ _ (call (Value.ref 213) [.str (Str.ofString "*") _, _, _, _, _]) _ _ _); k_dflt (refine' says_use (mul_says _ _ _ _ _ _ _ _ _ _ _ _ _) ?k1 ?k2 ?k3 ?k4 ?k5 ?kK ?kp ?kd ?ku ?_; (case k1 => k_asm); (case k2 => k_asm); (case k3 => k_asm); (case k4 => k_asm); (case k5 => k_asm); (case kK => first | exact rfl | assumption); (case kp => first | exact True.intro | k_extra "pre" | ((try dsimp only); first | assumption | omega | l_fact)); (case kd => ktr_room); (case ku => ktr_units); intro p9 t9 h9 tk9 F9 N9; (try dsimp only); (try k_fold))))
end Mine
end
section
local macro_rules | `(tactic| k_room) => `(tactic| ktr_room)
namespace Mine
local macro_rules | `(tactic| walk_at "call ref") => `(tactic| (k_here; (with_reducible show wpAny _ _ (call (Value.ref 72) [_, _]) _ _ _); k_dflt (refine' says_use (fits_says _ _ _ _ _ _ _ _ _) ?k1 ?k2 ?k3 ?k4 ?k5 ?kK ?kp ?kd ?ku ?_; (case k1 => k_asm); (case k2 => k_asm); (case k3 => k_asm); (case k4 => k_asm); (case k5 => k_asm); (case kK => first | exact rfl | assumption); (case kp => first | exact True.intro | k_extra "pre" | ((try dsimp only); first | assumption | omega | l_fact)); (case kd => ktr_room); (case ku => ktr_units); intro p9 t9 h9 tk9 F9 N9; (try dsimp only); (try k_fold))))
local macro_rules | `(tactic| walk_at "call ref") => `(tactic| (k_here; (with_reducible show wpAny _ _ (call (Value.ref 79) [_, _]) _ _ _); k_dflt (refine' says_use (whole_says _ _ _ _ _ _ _ _ _) ?k1 ?k2 ?k3 ?k4 ?k5 ?kK ?kp ?kd ?ku ?_; (case k1 => k_asm); (case k2 => k_asm); (case k3 => k_asm); (case k4 => k_asm); (case k5 => k_asm); (case kK => first | exact rfl | assumption); (case kp => first | exact True.intro | k_extra "pre" | ((try dsimp only); first | assumption | omega | l_fact)); (case kd => ktr_room); (case ku => ktr_units); intro p9 t9 h9 tk9 F9 N9; (try dsimp only); (try k_fold))))
local macro_rules | `(tactic| walk_at "call ref") => `(tactic| (k_here; (with_reducible show wpAny _ _ (call (Value.ref 220) [.str (Str.ofString "AND") _, _, _, _]) _ _ _); k_dflt (refine' says_use (and_says _ _ _ _ _ _ _ _ _ _ _ _) ?k1 ?k2 ?k3 ?k4 ?k5 ?kK ?kp ?kd ?ku ?_; (case k1 => k_asm); (case k2 => k_asm); (case k3 => k_asm); (case k4 => k_asm); (case k5 => k_asm); (case kK => first | exact rfl | assumption); (case kp => first | exact True.intro | k_extra "pre" | ((try dsimp only); first | assumption | omega | l_fact)); (case kd => ktr_room); (case ku => ktr_units); intro p9 t9 h9 tk9 F9 N9; (try dsimp only); (try k_fold))))
local macro_rules | `(tactic| walk_at "call ref") => `(tactic| (k_here; (with_reducible show wpAny _ _ (call (Value.ref 220) [.str (Str.ofString "XOR") _, _, _, _]) _ _ _); k_dflt (refine' says_use (xor_says _ _ _ _ _ _ _ _ _ _ _ _) ?k1 ?k2 ?k3 ?k4 ?k5 ?kK ?kp ?kd ?ku ?_; (case k1 => k_asm); (case k2 => k_asm); (case k3 => k_asm); (case k4 => k_asm); (case k5 => k_asm); (case kK => first | exact rfl | assumption); (case kp => first | exact True.intro | k_extra "pre" | ((try dsimp only); first | assumption | omega | l_fact)); (case kd => ktr_room); (case ku => ktr_units); intro p9 t9 h9 tk9 F9 N9; (try dsimp only); (try k_fold))))
local macro_rules | `(tactic| walk_at "call ref") => `(tactic| (k_here; (with_reducible show wpAny _ _ (call (Value.ref 157) [_]) _ _ _); k_dflt (refine' says_use (is_whole_says _ _ _ _ _ _ _ _) ?k1 ?k2 ?k3 ?k4 ?k5 ?kK ?kp ?kd ?ku ?_; (case k1 => k_asm); (case k2 => k_asm); (case k3 => k_asm); (case k4 => k_asm); (case k5 => k_asm); (case kK => first | exact rfl | assumption); (case kp => first | exact True.intro | k_extra "pre" | ((try dsimp only); first | assumption | omega | l_fact)); (case kd => ktr_room); (case ku => ktr_units); intro p9 t9 h9 tk9 F9 N9; (try dsimp only); (try k_fold))))
local macro_rules | `(tactic| walk_at "call ref") => `(tactic| (k_here; (with_reducible show wpAny _ _ (call (Value.ref 164) [_, _, _]) _ _ _); k_dflt (refine' says_use (settled_says _ _ _ _ _ _ _ _ _ _) ?k1 ?k2 ?k3 ?k4 ?k5 ?kK ?kp ?kd ?ku ?_; (case k1 => k_asm); (case k2 => k_asm); (case k3 => k_asm); (case k4 => k_asm); (case k5 => k_asm); (case kK => first | exact rfl | assumption); (case kp => first | exact True.intro | k_extra "pre" | ((try dsimp only); first | assumption | omega | l_fact)); (case kd => ktr_room); (case ku => ktr_units); intro p9 t9 h9 tk9 F9 N9; (try dsimp only); (try k_fold))))
local macro_rules | `(tactic| walk_at "call ref") => `(tactic| (k_here; (with_reducible show wpAny _ _ (call (Value.ref 213) [.str (Str.ofString "+") _, _, _, _, _]) _ _ _); k_dflt (refine' says_use (add_says _ _ _ _ _ _ _ _ _ _ _ _ _) ?k1 ?k2 ?k3 ?k4 ?k5 ?kK ?kp ?kd ?ku ?_; (case k1 => k_asm); (case k2 => k_asm); (case k3 => k_asm); (case k4 => k_asm); (case k5 => k_asm); (case kK => first | exact rfl | assumption); (case kp => first | exact True.intro | k_extra "pre" | ((try dsimp only); first | assumption | omega | l_fact)); (case kd => ktr_room); (case ku => ktr_units); intro p9 t9 h9 tk9 F9 N9; (try dsimp only); (try k_fold))))
local macro_rules | `(tactic| walk_at "call ref") => `(tactic| (k_here; (with_reducible show wpAny _ _ (call (Value.ref 213) [.str (Str.ofString "*") _, _, _, _, _]) _ _ _); k_dflt (refine' says_use (mul_says _ _ _ _ _ _ _ _ _ _ _ _ _) ?k1 ?k2 ?k3 ?k4 ?k5 ?kK ?kp ?kd ?ku ?_; (case k1 => k_asm); (case k2 => k_asm); (case k3 => k_asm); (case k4 => k_asm); (case k5 => k_asm); (case kK => first | exact rfl | assumption); (case kp => first | exact True.intro | k_extra "pre" | ((try dsimp only); first | assumption | omega | l_fact)); (case kd => ktr_room); (case ku => ktr_units); intro p9 t9 h9 tk9 F9 N9; (try dsimp only); (try k_fold))))
local macro_rules | `(tactic| walk_at "call ref") => `(tactic| (k_here; (with_reducible show wpAny _ _ (call (Value.ref 234) [_]) _ _ _); k_dflt (refine' says_use (places_says _ _ _ _ _ _ _ _) ?k1 ?k2 ?k3 ?k4 ?k5 ?kK ?kp ?kd ?ku ?_; (case k1 => k_asm); (case k2 => k_asm); (case k3 => k_asm); (case k4 => k_asm); (case k5 => k_asm); (case kK => first | exact rfl | assumption); (case kp => first | exact True.intro | k_extra "pre" | ((try dsimp only); first | assumption | omega | l_fact)); (case kd => ktr_room); (case ku => ktr_units); intro p9 t9 h9 tk9 F9 N9; (try dsimp only); (try k_fold))))
local macro_rules | `(tactic| walk_at "call ref") => `(tactic| (k_here; (with_reducible show wpAny _ _ (call (Value.ref 241) [_]) _ _ _); k_dflt (refine' says_use (word_says _ _ _ _ _ _ _ _) ?k1 ?k2 ?k3 ?k4 ?k5 ?kK ?kp ?kd ?ku ?_; (case k1 => k_asm); (case k2 => k_asm); (case k3 => k_asm); (case k4 => k_asm); (case k5 => k_asm); (case kK => first | exact rfl | assumption); (case kp => first | exact True.intro | k_extra "pre" | ((try dsimp only); first | assumption | omega | l_fact)); (case kd => ktr_room); (case ku => ktr_units); intro p9 t9 h9 tk9 F9 N9; (try dsimp only); (try k_fold))))

def eight : Int := 8
theorem eight_is : eight = 8 := rfl
theorem hideR {h : Heap} {r : Addr} {t u v : Tok} (H : IsRange h r 1 8 1 t u v) : IsRange h r 1 eight 1 t u v := H
def placeStep (word found p : Int) : Int := if Builtin.bitAnd word (2 ^ (p - 1).toNat) ≠ 0 then Builtin.bitXor found p else found
theorem pow_ok {k : Int} (h1 : 1 ≤ k) (h2 : k ≤ 7) : (0 : Int) ≤ 2 ^ (k - 1).toNat ∧ (2 : Int) ^ (k - 1).toNat < 32768 := by
  have h : (k - 1).toNat < 7 := by omega
  generalize (k - 1).toNat = e at h
  match e, h with
  | 0, _ | 1, _ | 2, _ | 3, _ | 4, _ | 5, _ | 6, _ => decide
theorem place_yes {word f k : Int} {pre : List Int} (h : f = pre.foldl (placeStep word) 0) (a : Builtin.bitAnd word (2 ^ (k - 1).toNat) ≠ 0) (b : 0 ≤ Builtin.bitXor f k ∧ Builtin.bitXor f k < 8) :
    Builtin.bitXor f k = (pre ++ [k]).foldl (placeStep word) 0 ∧ 0 ≤ Builtin.bitXor f k ∧ Builtin.bitXor f k < 8 := by
  refine ⟨?_, b⟩
  rw [List.foldl_append, ← h]
  show _ = placeStep word f k
  unfold placeStep
  rw [if_pos a]
theorem place_no {word f k : Int} {pre : List Int} (h : f = pre.foldl (placeStep word) 0) (a : ¬ Builtin.bitAnd word (2 ^ (k - 1).toNat) ≠ 0) (b : 0 ≤ f ∧ f < 8) :
    f = (pre ++ [k]).foldl (placeStep word) 0 ∧ 0 ≤ f ∧ f < 8 := by
  refine ⟨?_, b⟩
  rw [List.foldl_append, ← h]
  show _ = placeStep word f k
  unfold placeStep
  rw [if_neg a]
def placesF (word : Int) : Int := [1, 2, 3, 4, 5, 6, 7].foldl (placeStep word) 0

theorem places_fin {word f : Int} (h : f = (rangeKs 1 (eight - 1).toNat).foldl (placeStep word) 0) : f = placesF word := by
  have e : rangeKs 1 (eight - 1).toNat = [1, 2, 3, 4, 5, 6, 7] := by decide
  rw [e] at h
  exact h
theorem all_of (k : Nat) {P : Int → Bool} (h : (List.range k).all (fun (n : Nat) => P (n : Int)) = true) {x : Int} (h0 : 0 ≤ x) (h1 : x < (k : Int)) : P x = true := by
  obtain ⟨n, rfl⟩ := Int.eq_ofNat_of_zero_le h0
  exact (List.all_eq_true.mp h) n (List.mem_range.mpr (by omega))
theorem places_facts {word : Int} (h0 : 0 ≤ word ∧ word < 128) : 0 ≤ placesF word ∧ placesF word < 8 := by
  have h := all_of 128 (P := fun x => decide (0 ≤ placesF x ∧ placesF x < 8)) (by decide +kernel) h0.1 h0.2
  simpa using h
def wordF (four : Int) : Int :=
  4 * Builtin.bitAnd four 1 + 8 * Builtin.bitAnd four 14 + (Builtin.bitAnd (placesF (4 * Builtin.bitAnd four 1 + 8 * Builtin.bitAnd four 14)) 3 + 2 * Builtin.bitAnd (placesF (4 * Builtin.bitAnd four 1 + 8 * Builtin.bitAnd four 14)) 4)
theorem word_facts {four : Int} (h0 : 0 ≤ four ∧ four < 16) : 0 ≤ wordF four ∧ wordF four < 128 := by
  have h := all_of 16 (P := fun x => decide (0 ≤ wordF x ∧ wordF x < 128)) (by decide +kernel) h0.1 h0.2
  simpa using h
def onesF (word : Int) : Int := ([0, 1, 2, 3, 4, 5, 6].map fun (k : Nat) => Int.fmod (Int.fdiv word (2 ^ k)) 2).sum

theorem places_says (w : World) (p : Program) (loose : List PySem.Str) (mean : ExcName → Option Value) (mg mb : PySem.Str → Option Value) (word : Int) (t1 : Tok) :
    Says w p loose mean mg mb 8 234 [.int word t1] (0 ≤ word ∧ word < 128) (0 ≤ placesF word ∧ placesF word < 8) (fun t => .int (placesF word) t) := by
  unfold Says
  k_fill
  intro dp un gd cn cs a ccd cl outer A₀ base h₀ L m news s Q E hB hF hX hN hT hk hp hd hu hret0
  have hret := hret0 (places_facts hp)
  clear hret0
  dsimp only [CbRet] at hret
  k_with "exec For Name Call cons nil" => kpr_for
  k_with "pyIter ref" => ((rename IsRange _ _ _ _ _ _ _ _ => rgY); (have rgZ := hideR rgY); clear rgY; (have h8 := eight_is); k_state_given ["word"] (fun word pre found => found = pre.foldl (placeStep word) 0 ∧ 0 ≤ found ∧ found < 8) "found")
  k_with "state" => first | exact ⟨rfl, by decide, by decide⟩ | exact place_yes (by assumption) (by assumption) (by omega) | exact place_no (by assumption) (by assumption) (by omega) | exact place_no (by assumption) (by omega) (by omega)
  k_with "tree" => exact places_fin (by assumption)
  k_with "pre" => (refine ⟨⟨by omega, by omega⟩, ?_⟩; exact pow_ok (by omega) (by omega))
  refine wpAny_call ?_
  k_dflt cell_enter
  k_steps
  all_goals cb_end hret
  k_with_none
local macro_rules | `(tactic| walk_at "call ref") => `(tactic| (k_here; (with_reducible show wpAny _ _ (call (Value.ref 234) [_]) _ _ _); k_dflt (refine' says_use (places_says _ _ _ _ _ _ _ _) ?k1 ?k2 ?k3 ?k4 ?k5 ?kK ?kp ?kd ?ku ?_; (case k1 => k_asm); (case k2 => k_asm); (case k3 => k_asm); (case k4 => k_asm); (case k5 => k_asm); (case kK => first | exact rfl | assumption); (case kp => first | exact True.intro | k_extra "pre" | ((try dsimp only); first | assumption | omega | l_fact)); (case kd => ktr_room); (case ku => ktr_units); intro p9 t9 h9 tk9 F9 N9; (try dsimp only); (try k_fold))))

theorem word_says (w : World) (p : Program) (loose : List PySem.Str) (mean : ExcName → Option Value) (mg mb : PySem.Str → Option Value) (four : Int) (t1 : Tok) :
    Says w p loose mean mg mb 12 241 [.int four t1] (0 ≤ four ∧ four < 16) (0 ≤ wordF four ∧ wordF four < 128) (fun t => .int (wordF four) t) := by
  unfold Says
  k_fill
  intro dp un gd cn cs a ccd cl outer A₀ base h₀ L m news s Q E hB hF hX hN hT hk hp hd hu hret0
  have hret := hret0 (word_facts hp)
  clear hret0
  dsimp only [CbRet] at hret
  
  refine wpAny_call ?_
  k_dflt cell_enter
  k_steps
  all_goals cb_end hret
local macro_rules | `(tactic| walk_at "call ref") => `(tactic| (k_here; (with_reducible show wpAny _ _ (call (Value.ref 241) [_]) _ _ _); k_dflt (refine' says_use (word_says _ _ _ _ _ _ _ _) ?k1 ?k2 ?k3 ?k4 ?k5 ?kK ?kp ?kd ?ku ?_; (case k1 => k_asm); (case k2 => k_asm); (case k3 => k_asm); (case k4 => k_asm); (case k5 => k_asm); (case kK => first | exact rfl | assumption); (case kp => first | exact True.intro | k_extra "pre" | ((try dsimp only); first | assumption | omega | l_fact)); (case kd => ktr_room); (case ku => ktr_units); intro p9 t9 h9 tk9 F9 N9; (try dsimp only); (try k_fold))))
end Mine
end
section
local macro_rules | `(tactic| k_room) => `(tactic| ktr_room)
namespace Mine
local macro_rules | `(tactic| walk_at "call ref") => `(tactic| (k_here; (with_reducible show wpAny _ _ (call (Value.ref 72) [_, _]) _ _ _); k_dflt (refine' says_use (fits_says _ _ _ _ _ _ _ _ _) ?k1 ?k2 ?k3 ?k4 ?k5 ?kK ?kp ?kd ?ku ?_; (case k1 => k_asm); (case k2 => k_asm); (case k3 => k_asm); (case k4 => k_asm); (case k5 => k_asm); (case kK => first | exact rfl | assumption); (case kp => first | exact True.intro | k_extra "pre" | ((try dsimp only); first | assumption | omega | l_fact)); (case kd => ktr_room); (case ku => ktr_units); intro p9 t9 h9 tk9 F9 N9; (try dsimp only); (try k_fold))))
local macro_rules | `(tactic| walk_at "call ref") => `(tactic| (k_here; (with_reducible show wpAny _ _ (call (Value.ref 79) [_, _]) _ _ _); k_dflt (refine' says_use (whole_says _ _ _ _ _ _ _ _ _) ?k1 ?k2 ?k3 ?k4 ?k5 ?kK ?kp ?kd ?ku ?_; (case k1 => k_asm); (case k2 => k_asm); (case k3 => k_asm); (case k4 => k_asm); (case k5 => k_asm); (case kK => first | exact rfl | assumption); (case kp => first | exact True.intro | k_extra "pre" | ((try dsimp only); first | assumption | omega | l_fact)); (case kd => ktr_room); (case ku => ktr_units); intro p9 t9 h9 tk9 F9 N9; (try dsimp only); (try k_fold))))
local macro_rules | `(tactic| walk_at "call ref") => `(tactic| (k_here; (with_reducible show wpAny _ _ (call (Value.ref 220) [.str (Str.ofString "AND") _, _, _, _]) _ _ _); k_dflt (refine' says_use (and_says _ _ _ _ _ _ _ _ _ _ _ _) ?k1 ?k2 ?k3 ?k4 ?k5 ?kK ?kp ?kd ?ku ?_; (case k1 => k_asm); (case k2 => k_asm); (case k3 => k_asm); (case k4 => k_asm); (case k5 => k_asm); (case kK => first | exact rfl | assumption); (case kp => first | exact True.intro | k_extra "pre" | ((try dsimp only); first | assumption | omega | l_fact)); (case kd => ktr_room); (case ku => ktr_units); intro p9 t9 h9 tk9 F9 N9; (try dsimp only); (try k_fold))))
local macro_rules | `(tactic| walk_at "call ref") => `(tactic| (k_here; (with_reducible show wpAny _ _ (call (Value.ref 220) [.str (Str.ofString "XOR") _, _, _, _]) _ _ _); k_dflt (refine' says_use (xor_says _ _ _ _ _ _ _ _ _ _ _ _) ?k1 ?k2 ?k3 ?k4 ?k5 ?kK ?kp ?kd ?ku ?_; (case k1 => k_asm); (case k2 => k_asm); (case k3 => k_asm); (case k4 => k_asm); (case k5 => k_asm); (case kK => first | exact rfl | assumption); (case kp => first | exact True.intro | k_extra "pre" | ((try dsimp only); first | assumption | omega | l_fact)); (case kd => ktr_room); (case ku => ktr_units); intro p9 t9 h9 tk9 F9 N9; (try dsimp only); (try k_fold))))
local macro_rules | `(tactic| walk_at "call ref") => `(tactic| (k_here; (with_reducible show wpAny _ _ (call (Value.ref 157) [_]) _ _ _); k_dflt (refine' says_use (is_whole_says _ _ _ _ _ _ _ _) ?k1 ?k2 ?k3 ?k4 ?k5 ?kK ?kp ?kd ?ku ?_; (case k1 => k_asm); (case k2 => k_asm); (case k3 => k_asm); (case k4 => k_asm); (case k5 => k_asm); (case kK => first | exact rfl | assumption); (case kp => first | exact True.intro | k_extra "pre" | ((try dsimp only); first | assumption | omega | l_fact)); (case kd => ktr_room); (case ku => ktr_units); intro p9 t9 h9 tk9 F9 N9; (try dsimp only); (try k_fold))))
local macro_rules | `(tactic| walk_at "call ref") => `(tactic| (k_here; (with_reducible show wpAny _ _ (call (Value.ref 164) [_, _, _]) _ _ _); k_dflt (refine' says_use (settled_says _ _ _ _ _ _ _ _ _ _) ?k1 ?k2 ?k3 ?k4 ?k5 ?kK ?kp ?kd ?ku ?_; (case k1 => k_asm); (case k2 => k_asm); (case k3 => k_asm); (case k4 => k_asm); (case k5 => k_asm); (case kK => first | exact rfl | assumption); (case kp => first | exact True.intro | k_extra "pre" | ((try dsimp only); first | assumption | omega | l_fact)); (case kd => ktr_room); (case ku => ktr_units); intro p9 t9 h9 tk9 F9 N9; (try dsimp only); (try k_fold))))
local macro_rules | `(tactic| walk_at "call ref") => `(tactic| (k_here; (with_reducible show wpAny _ _ (call (Value.ref 213) [.str (Str.ofString "+") _, _, _, _, _]) _ _ _); k_dflt (refine' says_use (add_says _ _ _ _ _ _ _ _ _ _ _ _ _) ?k1 ?k2 ?k3 ?k4 ?k5 ?kK ?kp ?kd ?ku ?_; (case k1 => k_asm); (case k2 => k_asm); (case k3 => k_asm); (case k4 => k_asm); (case k5 => k_asm); (case kK => first | exact rfl | assumption); (case kp => first | exact True.intro | k_extra "pre" | ((try dsimp only); first | assumption | omega | l_fact)); (case kd => ktr_room); (case ku => ktr_units); intro p9 t9 h9 tk9 F9 N9; (try dsimp only); (try k_fold))))
local macro_rules | `(tactic| walk_at "call ref") => `(tactic| (k_here; (with_reducible show wpAny _ _ (call (Value.ref 213) [.str (Str.ofString "*") _, _, _, _, _]) _ _ _); k_dflt (refine' says_use (mul_says _ _ _ _ _ _ _ _ _ _ _ _ _) ?k1 ?k2 ?k3 ?k4 ?k5 ?kK ?kp ?kd ?ku ?_; (case k1 => k_asm); (case k2 => k_asm); (case k3 => k_asm); (case k4 => k_asm); (case k5 => k_asm); (case kK => first | exact rfl | assumption); (case kp => first | exact True.intro | k_extra "pre" | ((try dsimp only); first | assumption | omega | l_fact)); (case kd => ktr_room); (case ku => ktr_units); intro p9 t9 h9 tk9 F9 N9; (try dsimp only); (try k_fold))))
local macro_rules | `(tactic| walk_at "call ref") => `(tactic| (k_here; (with_reducible show wpAny _ _ (call (Value.ref 234) [_]) _ _ _); k_dflt (refine' says_use (places_says _ _ _ _ _ _ _ _) ?k1 ?k2 ?k3 ?k4 ?k5 ?kK ?kp ?kd ?ku ?_; (case k1 => k_asm); (case k2 => k_asm); (case k3 => k_asm); (case k4 => k_asm); (case k5 => k_asm); (case kK => first | exact rfl | assumption); (case kp => first | exact True.intro | k_extra "pre" | ((try dsimp only); first | assumption | omega | l_fact)); (case kd => ktr_room); (case ku => ktr_units); intro p9 t9 h9 tk9 F9 N9; (try dsimp only); (try k_fold))))
local macro_rules | `(tactic| walk_at "call ref") => `(tactic| (k_here; (with_reducible show wpAny _ _ (call (Value.ref 241) [_]) _ _ _); k_dflt (refine' says_use (word_says _ _ _ _ _ _ _ _) ?k1 ?k2 ?k3 ?k4 ?k5 ?kK ?kp ?kd ?ku ?_; (case k1 => k_asm); (case k2 => k_asm); (case k3 => k_asm); (case k4 => k_asm); (case k5 => k_asm); (case kK => first | exact rfl | assumption); (case kp => first | exact True.intro | k_extra "pre" | ((try dsimp only); first | assumption | omega | l_fact)); (case kd => ktr_room); (case ku => ktr_units); intro p9 t9 h9 tk9 F9 N9; (try dsimp only); (try k_fold))))
local macro_rules | `(tactic| walk_at "call ref") => `(tactic| (k_here; (with_reducible show wpAny _ _ (call (Value.ref 246) [_]) _ _ _); k_dflt (refine' says_use (ones_says _ _ _ _ _ _ _ _) ?k1 ?k2 ?k3 ?k4 ?k5 ?kK ?kp ?kd ?ku ?_; (case k1 => k_asm); (case k2 => k_asm); (case k3 => k_asm); (case k4 => k_asm); (case k5 => k_asm); (case kK => first | exact rfl | assumption); (case kp => first | exact True.intro | k_extra "pre" | ((try dsimp only); first | assumption | omega | l_fact)); (case kd => ktr_room); (case ku => ktr_units); intro p9 t9 h9 tk9 F9 N9; (try dsimp only); (try k_fold))))

theorem ones_says (w : World) (p : Program) (loose : List PySem.Str) (mean : ExcName → Option Value) (mg mb : PySem.Str → Option Value) (word : Int) (t1 : Tok) :
    Says w p loose mean mg mb 4 246 [.int word t1] (0 ≤ word ∧ word < 128) (True) (fun t => .int (onesF word) t) := by
  unfold Says
  k_fill
  intro dp un gd cn cs a ccd cl outer A₀ base h₀ L m news s Q E hB hF hX hN hT hk hp hd hu hret0
  have hret := hret0 (trivial)
  clear hret0
  dsimp only [CbRet] at hret
  
  refine wpAny_call ?_
  k_dflt (refine' code_defC ?k1 ?k2 ?k3 ?k4 ?k5 ?kA ?kF ?kK ?k6 ?k7 ?k8 ?k9 ?kB ?kD ?_ ?c2 ?c3 ?c4; (case kA => exact rfl); (case kF => exact rfl); (case kK => assumption); (case k1 => k_asm); (case k2 => k_asm); (case k3 => k_asm); (case k4 => k_asm); (case k5 => k_asm); (case k6 => k_is); (case k7 => k_is); (case k8 => ktr_room); (case k9 => exact BindsTo.of_eq rfl); (case kB => exact rfl); (case kD => decide +kernel); (case c2 => exact rfl); (case c3 => exact rfl); (case c4 => exact rfl); k_whole; intro g' L' h' tk' cells' FG' F' N' Y' B' X' T' l1; (try k_lt l1); k_cells Y'; (try simp only [List.cons_append, List.nil_append] at N'); (try dsimp only); (try k_lift B'); (try k_fold))
  k_steps
  all_goals cb_end hret
local macro_rules | `(tactic| walk_at "call ref") => `(tactic| (k_here; (with_reducible show wpAny _ _ (call (Value.ref 246) [_]) _ _ _); k_dflt (refine' says_use (ones_says _ _ _ _ _ _ _ _) ?k1 ?k2 ?k3 ?k4 ?k5 ?kK ?kp ?kd ?ku ?_; (case k1 => k_asm); (case k2 => k_asm); (case k3 => k_asm); (case k4 => k_asm); (case k5 => k_asm); (case kK => first | exact rfl | assumption); (case kp => first | exact True.intro | k_extra "pre" | ((try dsimp only); first | assumption | omega | l_fact)); (case kd => ktr_room); (case ku => ktr_units); intro p9 t9 h9 tk9 F9 N9; (try dsimp only); (try k_fold))))
end Mine
end
section
local macro_rules | `(tactic| k_room) => `(tactic| ktr_room)
namespace Mine
local macro_rules | `(tactic| walk_at "call ref") => `(tactic| (k_here; (with_reducible show wpAny _ _ (call (Value.ref 72) [_, _]) _ _ _); k_dflt (refine' says_use (fits_says _ _ _ _ _ _ _ _ _) ?k1 ?k2 ?k3 ?k4 ?k5 ?kK ?kp ?kd ?ku ?_; (case k1 => k_asm); (case k2 => k_asm); (case k3 => k_asm); (case k4 => k_asm); (case k5 => k_asm); (case kK => first | exact rfl | assumption); (case kp => first | exact True.intro | k_extra "pre" | ((try dsimp only); first | assumption | omega | l_fact)); (case kd => ktr_room); (case ku => ktr_units); intro p9 t9 h9 tk9 F9 N9; (try dsimp only); (try k_fold))))
local macro_rules | `(tactic| walk_at "call ref") => `(tactic| (k_here; (with_reducible show wpAny _ _ (call (Value.ref 79) [_, _]) _ _ _); k_dflt (refine' says_use (whole_says _ _ _ _ _ _ _ _ _) ?k1 ?k2 ?k3 ?k4 ?k5 ?kK ?kp ?kd ?ku ?_; (case k1 => k_asm); (case k2 => k_asm); (case k3 => k_asm); (case k4 => k_asm); (case k5 => k_asm); (case kK => first | exact rfl | assumption); (case kp => first | exact True.intro | k_extra "pre" | ((try dsimp only); first | assumption | omega | l_fact)); (case kd => ktr_room); (case ku => ktr_units); intro p9 t9 h9 tk9 F9 N9; (try dsimp only); (try k_fold))))
local macro_rules | `(tactic| walk_at "call ref") => `(tactic| (k_here; (with_reducible show wpAny _ _ (call (Value.ref 220) [.str (Str.ofString "AND") _, _, _, _]) _ _ _); k_dflt (refine' says_use (and_says _ _ _ _ _ _ _ _ _ _ _ _) ?k1 ?k2 ?k3 ?k4 ?k5 ?kK ?kp ?kd ?ku ?_; (case k1 => k_asm); (case k2 => k_asm); (case k3 => k_asm); (case k4 => k_asm); (case k5 => k_asm); (case kK => first | exact rfl | assumption); (case kp => first | exact True.intro | k_extra "pre" | ((try dsimp only); first | assumption | omega | l_fact)); (case kd => ktr_room); (case ku => ktr_units); intro p9 t9 h9 tk9 F9 N9; (try dsimp only); (try k_fold))))
local macro_rules | `(tactic| walk_at "call ref") => `(tactic| (k_here; (with_reducible show wpAny _ _ (call (Value.ref 220) [.str (Str.ofString "XOR") _, _, _, _]) _ _ _); k_dflt (refine' says_use (xor_says _ _ _ _ _ _ _ _ _ _ _ _) ?k1 ?k2 ?k3 ?k4 ?k5 ?kK ?kp ?kd ?ku ?_; (case k1 => k_asm); (case k2 => k_asm); (case k3 => k_asm); (case k4 => k_asm); (case k5 => k_asm); (case kK => first | exact rfl | assumption); (case kp => first | exact True.intro | k_extra "pre" | ((try dsimp only); first | assumption | omega | l_fact)); (case kd => ktr_room); (case ku => ktr_units); intro p9 t9 h9 tk9 F9 N9; (try dsimp only); (try k_fold))))
local macro_rules | `(tactic| walk_at "call ref") => `(tactic| (k_here; (with_reducible show wpAny _ _ (call (Value.ref 157) [_]) _ _ _); k_dflt (refine' says_use (is_whole_says _ _ _ _ _ _ _ _) ?k1 ?k2 ?k3 ?k4 ?k5 ?kK ?kp ?kd ?ku ?_; (case k1 => k_asm); (case k2 => k_asm); (case k3 => k_asm); (case k4 => k_asm); (case k5 => k_asm); (case kK => first | exact rfl | assumption); (case kp => first | exact True.intro | k_extra "pre" | ((try dsimp only); first | assumption | omega | l_fact)); (case kd => ktr_room); (case ku => ktr_units); intro p9 t9 h9 tk9 F9 N9; (try dsimp only); (try k_fold))))
local macro_rules | `(tactic| walk_at "call ref") => `(tactic| (k_here; (with_reducible show wpAny _ _ (call (Value.ref 164) [_, _, _]) _ _ _); k_dflt (refine' says_use (settled_says _ _ _ _ _ _ _ _ _ _) ?k1 ?k2 ?k3 ?k4 ?k5 ?kK ?kp ?kd ?ku ?_; (case k1 => k_asm); (case k2 => k_asm); (case k3 => k_asm); (case k4 => k_asm); (case k5 => k_asm); (case kK => first | exact rfl | assumption); (case kp => first | exact True.intro | k_extra "pre" | ((try dsimp only); first | assumption | omega | l_fact)); (case kd => ktr_room); (case ku => ktr_units); intro p9 t9 h9 tk9 F9 N9; (try dsimp only); (try k_fold))))
local macro_rules | `(tactic| walk_at "call ref") => `(tactic| (k_here; (with_reducible show wpAny _ _ (call (Value.ref 213) [.str (Str.ofString "+") _, _, _, _, _]) _ _ _); k_dflt (refine' says_use (add_says _ _ _ _ _ _ _ _ _ _ _ _ _) ?k1 ?k2 ?k3 ?k4 ?k5 ?kK ?kp ?kd ?ku ?_; (case k1 => k_asm); (case k2 => k_asm); (case k3 => k_asm); (case k4 => k_asm); (case k5 => k_asm); (case kK => first | exact rfl | assumption); (case kp => first | exact True.intro | k_extra "pre" | ((try dsimp only); first | assumption | omega | l_fact)); (case kd => ktr_room); (case ku => ktr_units); intro p9 t9 h9 tk9 F9 N9; (try dsimp only); (try k_fold))))
local macro_rules | `(tactic| walk_at "call ref") => `(tactic| (k_here; (with_reducible show wpAny _ _ (call (Value.ref 213) [.str (Str.ofString "*") _, _, _, _, _]) _ _ _); k_dflt (refine' says_use (mul_says _ _ _ _ _ _ _ _ _ _ _ _ _) ?k1 ?k2 ?k3 ?k4 ?k5 ?kK ?kp ?kd ?ku ?_; (case k1 => k_asm); (case k2 => k_asm); (case k3 => k_asm); (case k4 => k_asm); (case k5 => k_asm); (case kK => first | exact rfl | assumption); (case kp => first | exact True.intro | k_extra "pre" | ((try dsimp only); first | assumption | omega | l_fact)); (case kd => ktr_room); (case ku => ktr_units); intro p9 t9 h9 tk9 F9 N9; (try dsimp only); (try k_fold))))
local macro_rules | `(tactic| walk_at "call ref") => `(tactic| (k_here; (with_reducible show wpAny _ _ (call (Value.ref 234) [_]) _ _ _); k_dflt (refine' says_use (places_says _ _ _ _ _ _ _ _) ?k1 ?k2 ?k3 ?k4 ?k5 ?kK ?kp ?kd ?ku ?_; (case k1 => k_asm); (case k2 => k_asm); (case k3 => k_asm); (case k4 => k_asm); (case k5 => k_asm); (case kK => first | exact rfl | assumption); (case kp => first | exact True.intro | k_extra "pre" | ((try dsimp only); first | assumption | omega | l_fact)); (case kd => ktr_room); (case ku => ktr_units); intro p9 t9 h9 tk9 F9 N9; (try dsimp only); (try k_fold))))
local macro_rules | `(tactic| walk_at "call ref") => `(tactic| (k_here; (with_reducible show wpAny _ _ (call (Value.ref 241) [_]) _ _ _); k_dflt (refine' says_use (word_says _ _ _ _ _ _ _ _) ?k1 ?k2 ?k3 ?k4 ?k5 ?kK ?kp ?kd ?ku ?_; (case k1 => k_asm); (case k2 => k_asm); (case k3 => k_asm); (case k4 => k_asm); (case k5 => k_asm); (case kK => first | exact rfl | assumption); (case kp => first | exact True.intro | k_extra "pre" | ((try dsimp only); first | assumption | omega | l_fact)); (case kd => ktr_room); (case ku => ktr_units); intro p9 t9 h9 tk9 F9 N9; (try dsimp only); (try k_fold))))
local macro_rules | `(tactic| walk_at "call ref") => `(tactic| (k_here; (with_reducible show wpAny _ _ (call (Value.ref 246) [_]) _ _ _); k_dflt (refine' says_use (ones_says _ _ _ _ _ _ _ _) ?k1 ?k2 ?k3 ?k4 ?k5 ?kK ?kp ?kd ?ku ?_; (case k1 => k_asm); (case k2 => k_asm); (case k3 => k_asm); (case k4 => k_asm); (case k5 => k_asm); (case kK => first | exact rfl | assumption); (case kp => first | exact True.intro | k_extra "pre" | ((try dsimp only); first | assumption | omega | l_fact)); (case kd => ktr_room); (case ku => ktr_units); intro p9 t9 h9 tk9 F9 N9; (try dsimp only); (try k_fold))))

theorem four_says : ∀ (w : World) (p : Program) (loose : List PySem.Str) (mean : ExcName → Option Value) (mg mb : PySem.Str → Option Value) (k below : Int) (t t1 : Tok) (a1 B l0 a4 a5 : Addr) (o1 o4 o5 : Obj) (vs : List Value) (ns : List Int)
    (dp un : Nat) (gd : Option (List Code)) (cn : PySem.Str) (cs : Scope) (a : Addr) (ccd : Value) (cl : List (PySem.Str × Addr)) (outer : List Env) (A₀ : Around) (base h₀ : Heap) (L : Addr) (m : PySem.Str → Option Value) (s : Shared) (Q E : Value → Shared → Prop),
    Below A₀ base outer h₀ → Fr h₀ L s.heap m → (Hd01.heap_39 w.params).In h₀ → News h₀ L s.heap [(a1, o1), (B, PySem.W.listOf #[.ref l0, .int k t] 0), (l0, PySem.W.listOf vs.toArray 0), (a4, o4), (a5, o5)] →
    Top p loose mean mg mb h₀ → cs.kind = .function → dp + 8 < recursionLimit → un + 80 < cLine →
    0 ≤ k → k ≤ 9 → 0 < below → below ≤ 1000 → IntsAre vs ns → ns.length ≤ 9 → (@LT.lt Nat _ B a1 ∧ @LT.lt Nat _ l0 B ∧ @LT.lt Nat _ a4 l0 ∧ @LT.lt Nat _ a5 a4) →
    (∀ (y : Int) (t' tB : Tok) (h' : Heap) (tk' : Nat), 0 ≤ y → y < below → Fr h₀ L h' m → News h₀ L h' [(a1, o1), (B, PySem.W.listOf #[.ref l0, .int (k + 1) tB] 0), (l0, PySem.W.listOf vs.toArray 0), (a4, o4), (a5, o5)] → Q (.int y t') { s with heap := h', toks := tk' }) →
    wpAny (model PySem.Challenge.rw_xm0034_01.row.prog w) (ktrTop dp un gd cn cs L a ccd cl outer) (call (.ref 227) [.ref B, .int below t1]) Q E s := by
  k_fill
  intro w p loose mean mg mb k below t t1 a1 B l0 a4 a5 o1 o4 o5 vs ns dp un gd cn cs a ccd cl outer A₀ base h₀ L m s Q E hB hF hX hN hT hk hd hu hk0 hk1 hb0 hb1 hI hlen hD hret
  refine wpAny_call ?_
  k_dflt cell_enter
  k_steps
  all_goals exact hret _ _ _ _ _ (Int.fmod_nonneg_of_pos _ hb0) (Int.fmod_lt_of_pos _ hb0) (by k_asm) (by k_asm)
end Mine
end
section
local macro_rules | `(tactic| k_room) => `(tactic| ktr_room)
namespace Mine
section
variable {prog : Program} {w : World} {A : Around} {E : Value → Shared → Prop} {s : Shared} {env : Env} {h₀ : Heap} {body : List Stmt} {Q : Flow → Shared → Prop}
theorem iter_rangeTurns {r : Addr} {a₀ b₀ : Int} {t₀ u₀ v₀ : Tok} {n : Nat} {m₀ : PySem.Str → Option Value} {news : List (Addr × Obj)} {x : PySem.Str} {px : Pos} {xs : List Itm}
    (hxs : xs = (List.range n).map fun (i : Nat) => Itm.tok (fun t => .int (a₀ + (i : Int)) t))
    (hh : A.handled = none) (hr : IsRange s.heap r a₀ b₀ 1 t₀ u₀ v₀) (hsmall : Builtin.Range.small a₀ b₀ 1 = true) (hn : Builtin.Range.rangeSize a₀ b₀ 1 = (n : Int)) (F : Fr h₀ env.locals s.heap m₀) (N : News h₀ env.locals s.heap news)
    (rest₀ : ∀ I : Addr, (∀ p ∈ news, p.1 < I) → ItemsRest prog w A E h₀ env (.Name x px) body Q s [(I, "range_iterator")] [] xs m₀ news) :
    wpAny (model prog w) A (pyIter (.ref r)) (fun it s₂ => TurnsAt prog w A h₀ env (.Name x px) body Q E it s₂) E s := by
  subst hxs
  refine wpAny_pyIter_range hr hsmall ?_
  have W : Walks prog w A s.heap.objs.size [s.heap.objs.size] [s.heap.objs.size] n (fun i v => i < n ∧ ∃ t, v = .int (a₀ + i * 1) t)
      (fun i h => IsRangeIter h s.heap.objs.size (a₀ + (i : Nat) * 1) ((n : Int) - (i : Nat)) 1) := (Walks.range hh _ a₀ 1 n).bound
  refine ktu_core (tk0 := s.toks) (keep := []) (KTurns.ofWalks W fun i v s Q E _ q => wpAny_pure q) (by simp) (fun i v h hp => ?_) (fun i h st => ?_) (fun b hb => ?_) (fun b hb => by simpa using hb) (fun b hb => ?_) ?_ (fun p hp hI => ?_) ?_ (F.push _) (fun p hp => ⟨Heap.get?_push_of_some _ (N p hp).1, (N p hp).2⟩) trivial (rest₀ _ fun p hp => Heap.lt_size (N p hp).1)
  · obtain ⟨hi, t, rfl⟩ := hp
    refine ⟨.tok (fun t => .int (a₀ + (i : Int)) t), by simp [hi], t, ?_⟩
    show Value.int (a₀ + (i : Int) * 1) t = Value.int (a₀ + (i : Int)) t
    rw [Int.mul_one]
  · exact ⟨[(s.heap.objs.size, itR (a₀ + (i : Nat) * 1) ((n : Int) - (i : Nat)))], ⟨⟨rfl, rfl⟩, trivial⟩, fun p hp => by rw [List.mem_singleton.mp hp]; exact st⟩
  · have hb' : b = s.heap.objs.size := by simpa using hb
    rw [hb']
    exact ⟨List.mem_cons_self .., next_is_new F⟩
  · have hb' : b = s.heap.objs.size := by simpa using hb
    exact .inl (by simp [hb'])
  · intro hI
    exact absurd F.ns.lt ((List.mem_singleton.mp hI) ▸ Nat.lt_irrefl _)
  · exact absurd (Heap.lt_size (N p hp).1) ((List.mem_singleton.mp hI) ▸ Nat.lt_irrefl _)
  · show IsRangeIter _ _ _ _ _
    rw [hn]
    simpa using Heap.get?_push_size _ rfl
end

theorem rng {ns : List Int} {k : Int} (h : k ∈ ns) (b : ns.all (fun x => decide (0 ≤ x ∧ x < 128)) = true) : 0 ≤ k ∧ k < 128 := by
  have := (List.all_eq_true.mp b) k h
  simpa using this
theorem rng32 {ns : List Int} {k : Int} (h : k ∈ ns) (b : ns.all (fun x => decide (0 ≤ x ∧ x < 128)) = true) : 0 ≤ k ∧ k < 32768 := by
  have := rng h b
  omega
theorem ints_lit {vs : List Value} {a b : List Int} {G : Prop} (c : List Int) (h : IntsAre vs (a ++ b)) (e : decide (a ++ b = c) = true) (k : IntsAre vs c → G) : G := by
  rw [of_decide_eq_true e] at h
  exact k h
def pick (is : List Nat) (l : List (Addr × Obj)) : List (Addr × Obj) := is.filterMap fun i => l[i]?
def Desc : List (Addr × Obj) → Prop
  | [] => True
  | p :: r => (match r with | [] => True | q :: _ => @LT.lt Nat _ q.1 p.1) ∧ Desc r
theorem news_pick {h₀ : Heap} {L : Addr} {h : Heap} {l : List (Addr × Obj)} {G : Prop} (is : List Nat) (N : News h₀ L h l) (D : Desc (pick is l)) (k : News h₀ L h (pick is l) → Desc (pick is l) → G) : G :=
  k (fun p hp => by
    obtain ⟨i, _, hi⟩ := List.mem_filterMap.mp hp
    exact N p (List.mem_of_getElem? hi)) D
def ins (x : Int) : List Int → List Int
  | [] => [x]
  | y :: r => if x ≤ y then x :: y :: r else y :: ins x r
theorem ins_perm (x : Int) : ∀ l : List Int, (ins x l).Perm (x :: l)
  | [] => .refl _
  | y :: r => by
    unfold ins
    split
    · exact .refl _
    · exact ((ins_perm x r).cons y).trans (.swap x y r)
def isort : List Int → List Int
  | [] => []
  | x :: r => ins x (isort r)
theorem isort_perm : ∀ l : List Int, (isort l).Perm l
  | [] => .refl _
  | x :: r => (ins_perm x (isort r)).trans ((isort_perm r).cons x)
theorem sorted_no {n l L : List Int} (p : n.Perm l) (o : n.Pairwise (· ≤ ·)) (e : (lks_asc L && decide (isort l = L)) = true) : ¬ ((!decide (n = L)) = true) := by
  obtain ⟨e1, e2⟩ := Bool.and_eq_true_iff.mp e
  have h : n = L := lks_uniq (p.trans (by rw [← of_decide_eq_true e2]; exact (isort_perm l).symm)) o (lks_asc_spec e1)
  rw [decide_eq_true h]
  decide
def wordsL : List Int := [0, 7, 25, 30, 42, 45, 51, 52, 75, 76, 82, 85, 97, 102, 120, 127]
theorem all2 (k l : Nat) {P : Int → Int → Bool} (h : (List.range k).all (fun (n : Nat) => (List.range l).all fun (m : Nat) => P (n : Int) (m : Int)) = true) {x y : Int} (h0 : 0 ≤ x) (h1 : x < (k : Int)) (h2 : 0 ≤ y) (h3 : y < (l : Int)) : P x y = true := by
  obtain ⟨n, rfl⟩ := Int.eq_ofNat_of_zero_le h0
  obtain ⟨m, rfl⟩ := Int.eq_ofNat_of_zero_le h2
  exact (List.all_eq_true.mp ((List.all_eq_true.mp h) n (List.mem_range.mpr (by omega)))) m (List.mem_range.mpr (by omega))
theorem c1 {y : Int} (h0 : 0 ≤ y) (h1 : y < 16) : ¬ ((wordF y != [0, 7, 25, 30, 42, 45, 51, 52, 75, 76, 82, 85, 97, 102, 120, 127].getD y.toNat 0) = true) := by
  have h := all_of 16 (P := fun y => ! (wordF y != [0, 7, 25, 30, 42, 45, 51, 52, 75, 76, 82, 85, 97, 102, 120, 127].getD y.toNat 0)) (by decide +kernel) h0 h1
  simpa using h
theorem c2 {y : Int} (h0 : 0 ≤ y) (h1 : y < 16) : ¬ ((placesF (wordF y) != 0) = true) := by
  have h := all_of 16 (P := fun y => ! (placesF (wordF y) != 0)) (by decide +kernel) h0 h1
  simpa using h
theorem c3 {y z : Int} (h0 : 0 ≤ y) (h1 : y < 16) (h2 : 0 ≤ z) (h3 : z < 16) : ¬ ((wordF (Builtin.bitXor y z) != Builtin.bitXor (wordF y) ([0, 7, 25, 30, 42, 45, 51, 52, 75, 76, 82, 85, 97, 102, 120, 127].getD z.toNat 0)) = true) := by
  have h := all2 16 16 (P := fun y z => ! (wordF (Builtin.bitXor y z) != Builtin.bitXor (wordF y) ([0, 7, 25, 30, 42, 45, 51, 52, 75, 76, 82, 85, 97, 102, 120, 127].getD z.toNat 0))) (by decide +kernel) h0 h1 h2 h3
  simpa using h
theorem xor16 {a b : Int} (h0 : 0 ≤ a) (h1 : a < 16) (h2 : 0 ≤ b) (h3 : b < 16) : 0 ≤ Builtin.bitXor a b ∧ Builtin.bitXor a b < 16 := xor_lt 4 h0 h2 h1 h3
theorem getW {y : Int} (h0 : 0 ≤ y) (h1 : y < 16) : 0 ≤ ([0, 7, 25, 30, 42, 45, 51, 52, 75, 76, 82, 85, 97, 102, 120, 127] : List Int).getD y.toNat 0 ∧ ([0, 7, 25, 30, 42, 45, 51, 52, 75, 76, 82, 85, 97, 102, 120, 127] : List Int).getD y.toNat 0 < (32768 : Int) := by
  have h := all_of 16 (P := fun y => decide (0 ≤ ([0, 7, 25, 30, 42, 45, 51, 52, 75, 76, 82, 85, 97, 102, 120, 127] : List Int).getD y.toNat 0 ∧ ([0, 7, 25, 30, 42, 45, 51, 52, 75, 76, 82, 85, 97, 102, 120, 127] : List Int).getD y.toNat 0 < (32768 : Int))) (by decide +kernel) h0 h1
  simpa using h
theorem c4 {y : Int} : ¬ ((y != y) = true) := by simp
theorem told_is {y i : Int} (h0 : 0 ≤ y) (h1 : y < 16) (h2 : 1 ≤ i) (h3 : i ≤ 7) : placesF (Builtin.bitXor (wordF y) (2 ^ (i - 1).toNat)) = i := by
  have h := all2 16 8 (P := fun y i => decide (i = 0) || decide (placesF (Builtin.bitXor (wordF y) (2 ^ (i - 1).toNat)) = i)) (by decide +kernel) h0 h1 (by omega) (show i < (8 : Nat) by omega)
  have q := Bool.or_eq_true_iff.mp h
  rcases q with q | q
  · have := of_decide_eq_true q
    omega
  · exact of_decide_eq_true q
theorem c5 {y i : Int} (h0 : 0 ≤ y) (h1 : y < 16) (h2 : 1 ≤ i) (h3 : i ≤ 7) : ¬ ((Builtin.bitXor (Builtin.bitXor (wordF y) (2 ^ (i - 1).toNat)) (2 ^ (i - 1).toNat) != wordF y) = true) := by
  have h := all2 16 8 (P := fun y i => decide (i = 0) || ! (Builtin.bitXor (Builtin.bitXor (wordF y) (2 ^ (i - 1).toNat)) (2 ^ (i - 1).toNat) != wordF y)) (by decide +kernel) h0 h1 (by omega) (show i < (8 : Nat) by omega)
  have q := Bool.or_eq_true_iff.mp h
  rcases q with q | q
  · have := of_decide_eq_true q
    omega
  · simpa using q
theorem pow_lt {i : Int} (h2 : 1 ≤ i) (h3 : i ≤ 7) : 0 ≤ (2 : Int) ^ (i - 1).toNat ∧ (2 : Int) ^ (i - 1).toNat < 128 := by
  have h := all_of 8 (P := fun i => decide (i = 0) || decide (0 ≤ (2 : Int) ^ (i - 1).toNat ∧ (2 : Int) ^ (i - 1).toNat < 128)) (by decide +kernel) (show 0 ≤ i by omega) (show i < (8 : Nat) by omega)
  have q := Bool.or_eq_true_iff.mp h
  rcases q with q | q
  · have := of_decide_eq_true q
    omega
  · exact of_decide_eq_true q
theorem turn_rng {y i : Int} (h0 : 0 ≤ y) (h1 : y < 16) (h2 : 1 ≤ i) (h3 : i ≤ 7) : 0 ≤ Builtin.bitXor (wordF y) (2 ^ (i - 1).toNat) ∧ Builtin.bitXor (wordF y) (2 ^ (i - 1).toNat) < 128 := by
  have a := word_facts ⟨h0, h1⟩
  have b := pow_lt h2 h3
  exact xor_lt 7 a.1 b.1 a.2 b.2
theorem told_says (w : World) (p : Program) (loose : List PySem.Str) (mean : ExcName → Option Value) (mg mb : PySem.Str → Option Value) (y i : Int) (t1 : Tok) :
    Says w p loose mean mg mb 8 234 [.int (Builtin.bitXor (wordF y) (2 ^ (i - 1).toNat)) t1] ((0 ≤ y ∧ y < 16) ∧ 1 ≤ i ∧ i ≤ 7) True (fun t => .int i t) := by
  intro dp un gd cn cs a ccd cl outer A₀ base h₀ L m news s Q E hB hF hX hN hT hk hp hd hu hret
  refine places_says w p loose mean mg mb _ t1 dp un gd cn cs a ccd cl outer A₀ base h₀ L m news s Q E hB hF hX hN hT hk (turn_rng hp.1.1 hp.1.2 hp.2.1 hp.2.2) hd hu (fun _ => ?_)
  rw [told_is hp.1.1 hp.1.2 hp.2.1 hp.2.2]
  exact hret trivial
theorem turn_rng32 {y i : Int} (h0 : 0 ≤ y) (h1 : y < 16) (h2 : 1 ≤ i) (h3 : i ≤ 7) : 0 ≤ Builtin.bitXor (wordF y) (2 ^ (i - 1).toNat) ∧ Builtin.bitXor (wordF y) (2 ^ (i - 1).toNat) < 32768 := by
  have a := turn_rng h0 h1 h2 h3
  omega
theorem pow32 {i : Int} (h2 : 1 ≤ i) (h3 : i ≤ 7) : 0 ≤ (2 : Int) ^ (i - 1).toNat ∧ (2 : Int) ^ (i - 1).toNat < 32768 := by
  have := pow_lt h2 h3
  omega
theorem turn2_rng {y i j : Int} (h0 : 0 ≤ y) (h1 : y < 16) (h2 : 1 ≤ i) (h3 : i ≤ 7) (h4 : 1 ≤ j) (h5 : j ≤ 7) : 0 ≤ Builtin.bitXor (Builtin.bitXor (wordF y) (2 ^ (i - 1).toNat)) (2 ^ (j - 1).toNat) ∧ Builtin.bitXor (Builtin.bitXor (wordF y) (2 ^ (i - 1).toNat)) (2 ^ (j - 1).toNat) < 128 := by
  have a := turn_rng h0 h1 h2 h3
  have b := pow_lt h4 h5
  exact xor_lt 7 a.1 b.1 a.2 b.2
theorem fmod7 (x : Int) : 0 ≤ x.fmod 7 ∧ x.fmod 7 < 7 := ⟨Int.fmod_nonneg_of_pos _ (by decide), Int.fmod_lt_of_pos _ (by decide)⟩
theorem all3 (k l j : Nat) {P : Int → Int → Int → Bool} (h : (List.range k).all (fun (n : Nat) => (List.range l).all fun (m : Nat) => (List.range j).all fun (i : Nat) => P (n : Int) (m : Int) (i : Int)) = true) {x y z : Int} (h0 : 0 ≤ x) (h1 : x < (k : Int)) (h2 : 0 ≤ y) (h3 : y < (l : Int)) (h4 : 0 ≤ z) (h5 : z < (j : Int)) : P x y z = true := by
  obtain ⟨n, rfl⟩ := Int.eq_ofNat_of_zero_le h0
  obtain ⟨m, rfl⟩ := Int.eq_ofNat_of_zero_le h2
  obtain ⟨i, rfl⟩ := Int.eq_ofNat_of_zero_le h4
  exact (List.all_eq_true.mp ((List.all_eq_true.mp ((List.all_eq_true.mp h) n (List.mem_range.mpr (by omega)))) m (List.mem_range.mpr (by omega)))) i (List.mem_range.mpr (by omega))
def mendP (y a b : Int) : Bool :=
  decide (placesF (Builtin.bitXor (Builtin.bitXor (wordF y) (2 ^ (1 + a - 1).toNat)) (2 ^ ((1 + a + b).fmod 7 + 1 - 1).toNat)) = Builtin.bitXor (1 + a) ((1 + a + b).fmod 7 + 1)) && (decide (1 ≤ placesF (Builtin.bitXor (Builtin.bitXor (wordF y) (2 ^ (1 + a - 1).toNat)) (2 ^ ((1 + a + b).fmod 7 + 1 - 1).toNat))) && (decide (placesF (Builtin.bitXor (Builtin.bitXor (wordF y) (2 ^ (1 + a - 1).toNat)) (2 ^ ((1 + a + b).fmod 7 + 1 - 1).toNat)) ≤ 7)
    && (decide (Builtin.bitXor (Builtin.bitXor (Builtin.bitXor (wordF y) (2 ^ (1 + a - 1).toNat)) (2 ^ ((1 + a + b).fmod 7 + 1 - 1).toNat)) (2 ^ (placesF (Builtin.bitXor (Builtin.bitXor (wordF y) (2 ^ (1 + a - 1).toNat)) (2 ^ ((1 + a + b).fmod 7 + 1 - 1).toNat)) - 1).toNat) ∈ ([0, 7, 25, 30, 42, 45, 51, 52, 75, 76, 82, 85, 97, 102, 120, 127] : List Int)) && decide (Builtin.bitXor (Builtin.bitXor (Builtin.bitXor (wordF y) (2 ^ (1 + a - 1).toNat)) (2 ^ ((1 + a + b).fmod 7 + 1 - 1).toNat)) (2 ^ (placesF (Builtin.bitXor (Builtin.bitXor (wordF y) (2 ^ (1 + a - 1).toNat)) (2 ^ ((1 + a + b).fmod 7 + 1 - 1).toNat)) - 1).toNat) ≠ wordF y))))
theorem mend_all {y a b : Int} (h0 : 0 ≤ y) (h1 : y < 16) (h2 : 0 ≤ a) (h3 : a < 7) (h4 : 0 ≤ b) (h5 : b < 6) : mendP y a b = true := all3 16 7 6 (by decide +kernel) h0 h1 h2 h3 h4 h5
theorem mend {y a b : Int} (h0 : 0 ≤ y) (h1 : y < 16) (h2 : 0 ≤ a) (h3 : a < 7) (h4 : 0 ≤ b) (h5 : b < 6) : placesF (Builtin.bitXor (Builtin.bitXor (wordF y) (2 ^ (1 + a - 1).toNat)) (2 ^ ((1 + a + b).fmod 7 + 1 - 1).toNat)) = Builtin.bitXor (1 + a) ((1 + a + b).fmod 7 + 1) ∧ 1 ≤ placesF (Builtin.bitXor (Builtin.bitXor (wordF y) (2 ^ (1 + a - 1).toNat)) (2 ^ ((1 + a + b).fmod 7 + 1 - 1).toNat)) ∧ placesF (Builtin.bitXor (Builtin.bitXor (wordF y) (2 ^ (1 + a - 1).toNat)) (2 ^ ((1 + a + b).fmod 7 + 1 - 1).toNat)) ≤ 7
    ∧ Builtin.bitXor (Builtin.bitXor (Builtin.bitXor (wordF y) (2 ^ (1 + a - 1).toNat)) (2 ^ ((1 + a + b).fmod 7 + 1 - 1).toNat)) (2 ^ (placesF (Builtin.bitXor (Builtin.bitXor (wordF y) (2 ^ (1 + a - 1).toNat)) (2 ^ ((1 + a + b).fmod 7 + 1 - 1).toNat)) - 1).toNat) ∈ ([0, 7, 25, 30, 42, 45, 51, 52, 75, 76, 82, 85, 97, 102, 120, 127] : List Int) ∧ Builtin.bitXor (Builtin.bitXor (Builtin.bitXor (wordF y) (2 ^ (1 + a - 1).toNat)) (2 ^ ((1 + a + b).fmod 7 + 1 - 1).toNat)) (2 ^ (placesF (Builtin.bitXor (Builtin.bitXor (wordF y) (2 ^ (1 + a - 1).toNat)) (2 ^ ((1 + a + b).fmod 7 + 1 - 1).toNat)) - 1).toNat) ≠ wordF y := by
  have h := mend_all h0 h1 h2 h3 h4 h5
  unfold mendP at h
  simpa only [Bool.and_eq_true, decide_eq_true_eq] using h
theorem c6use {y a b : Int} {p q : Prop} [Decidable ((placesF (Builtin.bitXor (Builtin.bitXor (wordF y) (2 ^ (1 + a - 1).toNat)) (2 ^ ((1 + a + b).fmod 7 + 1 - 1).toNat)) != Builtin.bitXor (1 + a) ((1 + a + b).fmod 7 + 1)) = true)] (h0 : 0 ≤ y) (h1 : y < 16) (h2 : 0 ≤ a) (h3 : a < 7) (h4 : 0 ≤ b) (h5 : b < 6) (k : (1 ≤ placesF (Builtin.bitXor (Builtin.bitXor (wordF y) (2 ^ (1 + a - 1).toNat)) (2 ^ ((1 + a + b).fmod 7 + 1 - 1).toNat)) ∧ placesF (Builtin.bitXor (Builtin.bitXor (wordF y) (2 ^ (1 + a - 1).toNat)) (2 ^ ((1 + a + b).fmod 7 + 1 - 1).toNat)) ≤ 7) → q) :
    if (placesF (Builtin.bitXor (Builtin.bitXor (wordF y) (2 ^ (1 + a - 1).toNat)) (2 ^ ((1 + a + b).fmod 7 + 1 - 1).toNat)) != Builtin.bitXor (1 + a) ((1 + a + b).fmod 7 + 1)) = true then p else q := by
  obtain ⟨e1, e2, e3, _⟩ := mend h0 h1 h2 h3 h4 h5
  exact ite_neg (by simpa using e1) (k ⟨e2, e3⟩)
theorem c7 {x : Int} (h : 1 ≤ x) : ¬ ((x == 0) = true) := by
  simp
  omega
theorem turn2_rng32 {y i j : Int} (h0 : 0 ≤ y) (h1 : y < 16) (h2 : 1 ≤ i) (h3 : i ≤ 7) (h4 : 1 ≤ j) (h5 : j ≤ 7) : 0 ≤ Builtin.bitXor (Builtin.bitXor (wordF y) (2 ^ (i - 1).toNat)) (2 ^ (j - 1).toNat) ∧ Builtin.bitXor (Builtin.bitXor (wordF y) (2 ^ (i - 1).toNat)) (2 ^ (j - 1).toNat) < 32768 := by
  have := turn2_rng h0 h1 h2 h3 h4 h5
  omega
theorem c8use {y a b : Int} {p q : Prop} [Decidable ((([0, 7, 25, 30, 42, 45, 51, 52, 75, 76, 82, 85, 97, 102, 120, 127] : List Int).any fun x => x == (Builtin.bitXor (Builtin.bitXor (Builtin.bitXor (wordF y) (2 ^ (1 + a - 1).toNat)) (2 ^ ((1 + a + b).fmod 7 + 1 - 1).toNat)) (2 ^ (placesF (Builtin.bitXor (Builtin.bitXor (wordF y) (2 ^ (1 + a - 1).toNat)) (2 ^ ((1 + a + b).fmod 7 + 1 - 1).toNat)) - 1).toNat))) = true)] (h0 : 0 ≤ y) (h1 : y < 16) (h2 : 0 ≤ a) (h3 : a < 7) (h4 : 0 ≤ b) (h5 : b < 6) (k : (Builtin.bitXor (Builtin.bitXor (Builtin.bitXor (wordF y) (2 ^ (1 + a - 1).toNat)) (2 ^ ((1 + a + b).fmod 7 + 1 - 1).toNat)) (2 ^ (placesF (Builtin.bitXor (Builtin.bitXor (wordF y) (2 ^ (1 + a - 1).toNat)) (2 ^ ((1 + a + b).fmod 7 + 1 - 1).toNat)) - 1).toNat)) ≠ wordF y → p) :
    if (([0, 7, 25, 30, 42, 45, 51, 52, 75, 76, 82, 85, 97, 102, 120, 127] : List Int).any fun x => x == (Builtin.bitXor (Builtin.bitXor (Builtin.bitXor (wordF y) (2 ^ (1 + a - 1).toNat)) (2 ^ ((1 + a + b).fmod 7 + 1 - 1).toNat)) (2 ^ (placesF (Builtin.bitXor (Builtin.bitXor (wordF y) (2 ^ (1 + a - 1).toNat)) (2 ^ ((1 + a + b).fmod 7 + 1 - 1).toNat)) - 1).toNat))) = true then p else q := by
  obtain ⟨_, _, _, e4, e5⟩ := mend h0 h1 h2 h3 h4 h5
  rw [if_pos (List.any_eq_true.mpr ⟨_, e4, by simp⟩)]
  exact k e5
end Mine
open Mine
local macro_rules | `(tactic| walk_at "call ref") => `(tactic| (k_here; (with_reducible show wpAny _ _ (call (Value.ref 234) [_]) _ _ _); k_dflt (refine' says_use (places_says _ _ _ _ _ _ _ _) ?k1 ?k2 ?k3 ?k4 ?k5 ?kK ?kp ?kd ?ku ?_; (case k1 => k_asm); (case k2 => k_asm); (case k3 => k_asm); (case k4 => k_asm); (case k5 => k_asm); (case kK => first | exact rfl | assumption); (case kp => first | exact True.intro | k_extra "pre" | ((try dsimp only); first | assumption | omega | l_fact)); (case kd => ktr_room); (case ku => ktr_units); intro p9 t9 h9 tk9 F9 N9; (try dsimp only); (try k_fold))))
local macro_rules | `(tactic| walk_at "call ref") => `(tactic| (k_here; (with_reducible show wpAny _ _ (call (Value.ref 241) [_]) _ _ _); k_dflt (refine' says_use (word_says _ _ _ _ _ _ _ _) ?k1 ?k2 ?k3 ?k4 ?k5 ?kK ?kp ?kd ?ku ?_; (case k1 => k_asm); (case k2 => k_asm); (case k3 => k_asm); (case k4 => k_asm); (case k5 => k_asm); (case kK => first | exact rfl | assumption); (case kp => first | exact True.intro | k_extra "pre" | ((try dsimp only); first | assumption | omega | l_fact)); (case kd => ktr_room); (case ku => ktr_units); intro p9 t9 h9 tk9 F9 N9; (try dsimp only); (try k_fold))))
local macro_rules | `(tactic| walk_at "call ref") => `(tactic| (k_here; (with_reducible show wpAny _ _ (call (Value.ref 246) [_]) _ _ _); k_dflt (refine' says_use (ones_says _ _ _ _ _ _ _ _) ?k1 ?k2 ?k3 ?k4 ?k5 ?kK ?kp ?kd ?ku ?_; (case k1 => k_asm); (case k2 => k_asm); (case k3 => k_asm); (case k4 => k_asm); (case k5 => k_asm); (case kK => first | exact rfl | assumption); (case kp => first | exact True.intro | k_extra "pre" | ((try dsimp only); first | assumption | omega | l_fact)); (case kd => ktr_room); (case ku => ktr_units); intro p9 t9 h9 tk9 F9 N9; (try dsimp only); (try k_fold))))
local macro_rules | `(tactic| walk_at "call ref") => `(tactic| (k_here; (with_reducible show wpAny _ _ (call (Value.ref 220) [.str (Str.ofString "XOR") _, _, _, _]) _ _ _); k_dflt (refine' says_use (xor0_says _ _ _ _ _ _ _ _ _ _ _ _) ?k1 ?k2 ?k3 ?k4 ?k5 ?kK ?kp ?kd ?ku ?_; (case k1 => k_asm); (case k2 => k_asm); (case k3 => k_asm); (case k4 => k_asm); (case k5 => k_asm); (case kK => first | exact rfl | assumption); (case kp => first | exact True.intro | k_extra "pre" | ((try dsimp only); first | assumption | omega | l_fact)); (case kd => ktr_room); (case ku => ktr_units); intro p9 t9 h9 tk9 F9 N9; (try dsimp only); (try k_fold))))
local macro_rules | `(tactic| walk_at "call ref") => `(tactic| (k_here; (with_reducible show wpAny _ _ (call (Value.ref 227) _) _ _ _); ((rename News _ _ _ _ => hN); (refine' news_pick [1, 2, 3, 4, 5] hN ?hD ?_); (case hD => (simp only [pick, Desc, List.filterMap_cons, List.filterMap_nil, List.getElem?_cons_succ, List.getElem?_cons_zero, List.getElem?_nil, and_true, true_and]; omega)); intro nX dX; (simp only [pick, Desc, List.filterMap_cons, List.filterMap_nil, List.getElem?_cons_succ, List.getElem?_cons_zero, List.getElem?_nil, and_true, true_and] at nX dX); revert nX dX; (repeat ((with_reducible rename News _ _ _ _ => x9); clear x9)); (repeat ((with_reducible rename (@LT.lt Nat _ _ _ ∧ _) => x9); clear x9)); (repeat ((with_reducible rename (@LT.lt Nat _ _ _) => x9); clear x9)); (repeat ((with_reducible rename (@Ne Nat _ _ ∧ _) => x9); clear x9)); intro nX dX); k_dflt (refine' four_says _ _ _ _ _ _ _ _ _ _ _ _ _ _ _ _ _ _ _ _ _ _ _ _ _ _ _ _ _ _ _ _ _ _ _ _ _ ?k1 ?k2 ?k3 ?k4 ?k5 ?kK ?kd ?ku ?p1 ?p2 ?p3 ?p4 ?p5 ?p6 ?p7 ?_; (case k1 => k_asm); (case k2 => k_asm); (case k3 => k_asm); (case k4 => k_asm); (case k5 => k_asm); (case kK => first | exact rfl | assumption); (case p5 => with_reducible assumption); (case p1 => decide); (case p2 => decide); (case p3 => decide); (case p4 => decide); (case p6 => (simp only [List.length_take]; omega)); (case p7 => ((try dsimp only); omega)); (case kd => ktr_room); (case ku => ktr_units); intro y9 t9 tB9 h9 tk9 yl9 yh9 F9 N9; (try dsimp only); (try k_fold))))
local macro_rules | `(tactic| walk_at "call ref") => `(tactic| (k_here; (with_reducible show wpAny _ _ (call (Value.ref 227) _) _ _ _); k_dflt (refine' four_says _ _ _ _ _ _ _ _ _ _ _ _ _ _ _ _ _ _ _ _ _ _ _ _ _ _ _ _ _ _ _ _ _ _ _ _ _ ?k1 ?k2 ?k3 ?k4 ?k5 ?kK ?kd ?ku ?p1 ?p2 ?p3 ?p4 ?p5 ?p6 ?p7 ?_; (case k1 => k_asm); (case k2 => k_asm); (case k3 => k_asm); (case k4 => k_asm); (case k5 => k_asm); (case kK => first | exact rfl | assumption); (case p5 => with_reducible assumption); (case p1 => decide); (case p2 => decide); (case p3 => decide); (case p4 => decide); (case p6 => (simp only [List.length_take]; omega)); (case p7 => ((try dsimp only); omega)); (case kd => ktr_room); (case ku => ktr_units); intro y9 t9 tB9 h9 tk9 yl9 yh9 F9 N9; (try dsimp only); (try k_fold))))

local macro_rules | `(tactic| walk_at "exec For Name Call cons nil") => `(tactic| (k_here; (rename Fr _ _ _ _ => lF'); (with_unfolding_all refine' For_turns lF' ?_; k_whole)))
local macro_rules | `(tactic| walk_at "pyIter ref") => `(tactic| (k_here; (with_reducible show wpAny _ _ (pyIter (Value.ref _)) (fun it s₂ => TurnsAt _ _ _ _ _ _ _ _ _ it s₂) _ _); (rename Fr _ _ _ _ => lF'); (rename News _ _ _ _ => lN'); (rename IsRange _ _ _ _ _ _ _ _ => rgX); (first
  | (with_unfolding_all refine iter_rangeTurns (n := 7) (xs := [.tok (fun t => .int 0 t), .tok (fun t => .int 1 t), .tok (fun t => .int 2 t), .tok (fun t => .int 3 t), .tok (fun t => .int 4 t), .tok (fun t => .int 5 t), .tok (fun t => .int 6 t)]) (by rfl) (by rfl) rgX (by decide) (by rfl) lF' lN' ?_)
  | (with_unfolding_all refine iter_rangeTurns (n := 7) (xs := [.tok (fun t => .int 1 t), .tok (fun t => .int 2 t), .tok (fun t => .int 3 t), .tok (fun t => .int 4 t), .tok (fun t => .int 5 t), .tok (fun t => .int 6 t), .tok (fun t => .int 7 t)]) (by rfl) (by rfl) rgX (by decide) (by rfl) lF' lN' ?_)); clear lF'; intro i' l1; (try k_lt l1)))
local macro_rules | `(tactic| walk_at "ite") => `(tactic| (k_here; (first
  | (with_reducible refine' ite_neg (sorted_no (L := [0, 3, 3, 3, 3, 3, 3, 3, 4, 4, 4, 4, 4, 4, 4, 7]) ?sp ?so ?se) ?_; (case sp => assumption); (case so => assumption); (case se => decide +kernel); ((rename News _ _ _ _ => hN); (refine' news_pick [11, 13, 14, 15, 16] hN ?hD ?_); (case hD => (simp only [pick, Desc, List.filterMap_cons, List.filterMap_nil, List.getElem?_cons_succ, List.getElem?_cons_zero, List.getElem?_nil, and_true, true_and]; omega)); intro nX dX; (simp only [pick, Desc, List.filterMap_cons, List.filterMap_nil, List.getElem?_cons_succ, List.getElem?_cons_zero, List.getElem?_nil, and_true, true_and] at nX dX); revert nX dX; (repeat ((with_reducible rename News _ _ _ _ => x9); clear x9)); (repeat ((with_reducible rename (@LT.lt Nat _ _ _ ∧ _) => x9); clear x9)); (repeat ((with_reducible rename (@LT.lt Nat _ _ _) => x9); clear x9)); (repeat ((with_reducible rename (@Ne Nat _ _ ∧ _) => x9); clear x9)); intro nX dX))
  | (k_closed; k_dflt (refine' ite_neg ?sq ?_; (case sq => decide +kernel)); ((rename News _ _ _ _ => hN); (refine' news_pick [3, 4, 5, 6, 7] hN ?hD ?_); (case hD => (simp only [pick, Desc, List.filterMap_cons, List.filterMap_nil, List.getElem?_cons_succ, List.getElem?_cons_zero, List.getElem?_nil, and_true, true_and]; omega)); intro nX dX; (simp only [pick, Desc, List.filterMap_cons, List.filterMap_nil, List.getElem?_cons_succ, List.getElem?_cons_zero, List.getElem?_nil, and_true, true_and] at nX dX); revert nX dX; (repeat ((with_reducible rename News _ _ _ _ => x9); clear x9)); (repeat ((with_reducible rename (@LT.lt Nat _ _ _ ∧ _) => x9); clear x9)); (repeat ((with_reducible rename (@LT.lt Nat _ _ _) => x9); clear x9)); (repeat ((with_reducible rename (@Ne Nat _ _ ∧ _) => x9); clear x9)); intro nX dX)))))
local macro_rules | `(tactic| walk_at "call type:list") => `(tactic| (k_here; (with_reducible show wpAny _ _ (call (Value.type _) [Value.ref _]) _ _ _); (rename IsRange _ _ _ _ _ _ _ _ => rgX); (with_unfolding_all refine' kll_range (n := 128) ?k0 ?k1 ?k2 ?k3 ?k4 ?k5 ?k6 ?_; (case k0 => rfl); (case k1 => k_asm); (case k2 => k_asm); (case k3 => exact rgX); (case k4 => decide); (case k5 => exact rfl); (case k6 => exact Nat.le_of_ble_eq_true rfl)); intro D' vs' c' h' tk' F' N' l1 hI'; (try k_lt l1)))
local macro_rules | `(tactic| walk_at "binaryOp Pow int int") => `(tactic| (k_here; (with_reducible refine pow_int_small ?kb1 ?kb2 ?kb3 ?_); (case kb1 => decide); (case kb2 => decide); (case kb3 => decide)))
local macro_rules | `(tactic| walk_at "compareOp NotEq ref ref") => `(tactic| (k_here; (with_reducible rename IntsAre _ (rangeKs _ _) => hRR); (with_reducible show wpAny _ _ (compareOp CmpOp.NotEq (Value.ref _) (Value.ref _)) _ _ _); k_dflt (refine' ne_intsK ?k1 ?k2 ?k3 hRR ?k5 ?_; (case k1 => exact News.isList (by k_asm) (by k_mem)); (case k2 => with_reducible assumption); (case k3 => exact News.isList (by k_asm) (by k_mem)); (case k5 => units_room))))
local macro_rules | `(tactic| walk_at "call builtin:sorted") => `(tactic| (k_here; (with_reducible show wpAny _ _ (call (Value.builtin _) [Value.ref _]) _ _ _); (with_unfolding_all refine' sorted_lit near_sorts ?k1 ?k2 ?k3 ?k4 (by decide) (by decide) (by decide) ?_; (case k1 => k_asm); (case k2 => k_asm); (case k3 => kso_list); (case k4 => with_reducible assumption)); intro D' v' c' h' F' N' l1 i'; (try k_lt l1); (try dsimp only)))
local macro_rules | `(tactic| walk_at "ite") => `(tactic| (k_here; (first
  | (with_reducible refine' ite_neg Bool.false_ne_true ?_)
  | (with_reducible refine' ite_neg (c1 ?a ?b) ?_; (case a => omega); (case b => omega))
  | (with_reducible refine' ite_neg (c2 ?a ?b) ?_; (case a => omega); (case b => omega))
  | (with_reducible refine' ite_neg (c3 ?a ?b ?c ?d) ?_; (case a => omega); (case b => omega); (case c => omega); (case d => omega))
  | (with_reducible refine' ite_neg c4 ?_)
  | (with_reducible refine' ite_neg (c5 ?a ?b ?c ?d) ?_; (case a => omega); (case b => omega); (case c => decide); (case d => decide))
  | (with_reducible refine' c6use ?a ?b ?c ?d ?e ?f ?_; (case a => omega); (case b => omega); (case c => omega); (case d => omega); (case e => omega); (case f => omega); intro hTold)
  | (with_reducible refine' ite_neg (c7 ?a) ?_; (case a => omega))
  | (with_reducible refine' c8use ?a ?b ?c ?d ?e ?f ?_; (case a => omega); (case b => omega); (case c => omega); (case d => omega); (case e => omega); (case f => omega); intro hMend)
  | fail "none")))
local macro_rules | `(tactic| walk_at "call ref") => `(tactic| (k_here; (with_reducible show wpAny _ _ (call (Value.ref 234) [Value.int (Builtin.bitXor (wordF _) (2 ^ Int.toNat (_ - 1))) _]) _ _ _); k_dflt (refine' says_use (told_says _ _ _ _ _ _ _ _ _) ?k1 ?k2 ?k3 ?k4 ?k5 ?kK ?kp ?kd ?ku ?_; (case k1 => k_asm); (case k2 => k_asm); (case k3 => k_asm); (case k4 => k_asm); (case k5 => k_asm); (case kK => first | exact rfl | assumption); (case kp => omega); (case kd => ktr_room); (case ku => ktr_units); intro p9 t9 h9 tk9 F9 N9; (try dsimp only); (try k_fold))))
local macro_rules | `(tactic| walk_at "binaryOp Pow int int") => `(tactic| (k_here; (with_reducible refine pow_int_small ?kb1 ?kb2 ?kb3 ?_); (case kb1 => omega); (case kb2 => omega); (case kb3 => decide)))
set_option maxHeartbeats 100000000 in
theorem Mine.walk01 : PySem.Challenge.rw_xm0034_01.Holds := Hd01 (by
  k_with "pre" => first
    | with_reducible exact xor16 (by omega) (by omega) (by omega) (by omega)
    | with_reducible exact turn2_rng (by omega) (by omega) (by omega) (by omega) (by omega) (by omega)
    | with_reducible exact ⟨turn2_rng32 (by omega) (by omega) (by omega) (by omega) (by omega) (by omega), pow32 (by omega) (by omega)⟩
    | with_reducible exact ⟨turn_rng32 (by omega) (by omega) (by omega) (by omega), pow32 (by omega) (by omega)⟩
    | with_reducible exact ⟨⟨by omega, by omega⟩, pow32 (by omega) (by omega)⟩
    | with_reducible exact ⟨⟨by omega, by omega⟩, getW (by omega) (by omega)⟩
    | decide +kernel
    | with_reducible exact rng (by assumption) (by decide +kernel)
    | with_reducible exact ⟨rng32 (by assumption) (by decide +kernel), by decide +kernel⟩
  k_with "storeName" => ((with_reducible rename IntsAre _ (_ ++ _) => hOld); first
    | (refine' ints_lit [0, 7] hOld ?hE ?_; (case hE => decide +kernel); intro hNew; clear hOld; ((rename News _ _ _ _ => hN); (refine' news_pick [0, 2, 3, 6, 7, 8, 9] hN ?hD ?_); (case hD => (simp only [pick, Desc, List.filterMap_cons, List.filterMap_nil, List.getElem?_cons_succ, List.getElem?_cons_zero, List.getElem?_nil, and_true, true_and]; omega)); intro nX dX; (simp only [pick, Desc, List.filterMap_cons, List.filterMap_nil, List.getElem?_cons_succ, List.getElem?_cons_zero, List.getElem?_nil, and_true, true_and] at nX dX); revert nX dX; (repeat ((with_reducible rename News _ _ _ _ => x9); clear x9)); (repeat ((with_reducible rename (@LT.lt Nat _ _ _ ∧ _) => x9); clear x9)); (repeat ((with_reducible rename (@LT.lt Nat _ _ _) => x9); clear x9)); (repeat ((with_reducible rename (@Ne Nat _ _ ∧ _) => x9); clear x9)); intro nX dX))
    | (refine' ints_lit [0, 7, 25, 30] hOld ?hE ?_; (case hE => decide +kernel); intro hNew; clear hOld; ((rename News _ _ _ _ => hN); (refine' news_pick [0, 2, 4, 5, 6, 7, 8] hN ?hD ?_); (case hD => (simp only [pick, Desc, List.filterMap_cons, List.filterMap_nil, List.getElem?_cons_succ, List.getElem?_cons_zero, List.getElem?_nil, and_true, true_and]; omega)); intro nX dX; (simp only [pick, Desc, List.filterMap_cons, List.filterMap_nil, List.getElem?_cons_succ, List.getElem?_cons_zero, List.getElem?_nil, and_true, true_and] at nX dX); revert nX dX; (repeat ((with_reducible rename News _ _ _ _ => x9); clear x9)); (repeat ((with_reducible rename (@LT.lt Nat _ _ _ ∧ _) => x9); clear x9)); (repeat ((with_reducible rename (@LT.lt Nat _ _ _) => x9); clear x9)); (repeat ((with_reducible rename (@Ne Nat _ _ ∧ _) => x9); clear x9)); intro nX dX))
    | (refine' ints_lit [0, 7, 25, 30, 42, 45, 51, 52] hOld ?hE ?_; (case hE => decide +kernel); intro hNew; clear hOld; ((rename News _ _ _ _ => hN); (refine' news_pick [0, 2, 4, 5, 6, 7, 8] hN ?hD ?_); (case hD => (simp only [pick, Desc, List.filterMap_cons, List.filterMap_nil, List.getElem?_cons_succ, List.getElem?_cons_zero, List.getElem?_nil, and_true, true_and]; omega)); intro nX dX; (simp only [pick, Desc, List.filterMap_cons, List.filterMap_nil, List.getElem?_cons_succ, List.getElem?_cons_zero, List.getElem?_nil, and_true, true_and] at nX dX); revert nX dX; (repeat ((with_reducible rename News _ _ _ _ => x9); clear x9)); (repeat ((with_reducible rename (@LT.lt Nat _ _ _ ∧ _) => x9); clear x9)); (repeat ((with_reducible rename (@LT.lt Nat _ _ _) => x9); clear x9)); (repeat ((with_reducible rename (@Ne Nat _ _ ∧ _) => x9); clear x9)); intro nX dX))
    | (refine' ints_lit [0, 7, 25, 30, 42, 45, 51, 52, 75, 76, 82, 85, 97, 102, 120, 127] hOld ?hE ?_; (case hE => decide +kernel); intro hNew; clear hOld; ((rename News _ _ _ _ => hN); (refine' news_pick [0, 2, 4, 5, 6, 7, 8] hN ?hD ?_); (case hD => (simp only [pick, Desc, List.filterMap_cons, List.filterMap_nil, List.getElem?_cons_succ, List.getElem?_cons_zero, List.getElem?_nil, and_true, true_and]; omega)); intro nX dX; (simp only [pick, Desc, List.filterMap_cons, List.filterMap_nil, List.getElem?_cons_succ, List.getElem?_cons_zero, List.getElem?_nil, and_true, true_and] at nX dX); revert nX dX; (repeat ((with_reducible rename News _ _ _ _ => x9); clear x9)); (repeat ((with_reducible rename (@LT.lt Nat _ _ _ ∧ _) => x9); clear x9)); (repeat ((with_reducible rename (@LT.lt Nat _ _ _) => x9); clear x9)); (repeat ((with_reducible rename (@Ne Nat _ _ ∧ _) => x9); clear x9)); intro nX dX))
    | (refine' ints_lit [0, 7, 25, 30, 42, 45, 51, 52, 75, 76, 82, 85, 97, 102, 120, 127, 1, 6, 24, 31, 43, 44, 50, 53, 74, 77, 83, 84, 96, 103, 121, 126] hOld ?hE ?_; (case hE => decide +kernel); intro hNew; clear hOld; ((rename News _ _ _ _ => hN); (refine' news_pick [0, 2, 4, 5, 6, 7, 8] hN ?hD ?_); (case hD => (simp only [pick, Desc, List.filterMap_cons, List.filterMap_nil, List.getElem?_cons_succ, List.getElem?_cons_zero, List.getElem?_nil, and_true, true_and]; omega)); intro nX dX; (simp only [pick, Desc, List.filterMap_cons, List.filterMap_nil, List.getElem?_cons_succ, List.getElem?_cons_zero, List.getElem?_nil, and_true, true_and] at nX dX); revert nX dX; (repeat ((with_reducible rename News _ _ _ _ => x9); clear x9)); (repeat ((with_reducible rename (@LT.lt Nat _ _ _ ∧ _) => x9); clear x9)); (repeat ((with_reducible rename (@LT.lt Nat _ _ _) => x9); clear x9)); (repeat ((with_reducible rename (@Ne Nat _ _ ∧ _) => x9); clear x9)); intro nX dX))
    | (refine' ints_lit [0, 7, 25, 30, 42, 45, 51, 52, 75, 76, 82, 85, 97, 102, 120, 127, 1, 6, 24, 31, 43, 44, 50, 53, 74, 77, 83, 84, 96, 103, 121, 126, 2, 5, 27, 28, 40, 47, 49, 54, 73, 78, 80, 87, 99, 100, 122, 125] hOld ?hE ?_; (case hE => decide +kernel); intro hNew; clear hOld; ((rename News _ _ _ _ => hN); (refine' news_pick [0, 2, 4, 5, 6, 7, 8] hN ?hD ?_); (case hD => (simp only [pick, Desc, List.filterMap_cons, List.filterMap_nil, List.getElem?_cons_succ, List.getElem?_cons_zero, List.getElem?_nil, and_true, true_and]; omega)); intro nX dX; (simp only [pick, Desc, List.filterMap_cons, List.filterMap_nil, List.getElem?_cons_succ, List.getElem?_cons_zero, List.getElem?_nil, and_true, true_and] at nX dX); revert nX dX; (repeat ((with_reducible rename News _ _ _ _ => x9); clear x9)); (repeat ((with_reducible rename (@LT.lt Nat _ _ _ ∧ _) => x9); clear x9)); (repeat ((with_reducible rename (@LT.lt Nat _ _ _) => x9); clear x9)); (repeat ((with_reducible rename (@Ne Nat _ _ ∧ _) => x9); clear x9)); intro nX dX))
    | (refine' ints_lit [0, 7, 25, 30, 42, 45, 51, 52, 75, 76, 82, 85, 97, 102, 120, 127, 1, 6, 24, 31, 43, 44, 50, 53, 74, 77, 83, 84, 96, 103, 121, 126, 2, 5, 27, 28, 40, 47, 49, 54, 73, 78, 80, 87, 99, 100, 122, 125, 4, 3, 29, 26, 46, 41, 55, 48, 79, 72, 86, 81, 101, 98, 124, 123] hOld ?hE ?_; (case hE => decide +kernel); intro hNew; clear hOld; ((rename News _ _ _ _ => hN); (refine' news_pick [0, 2, 4, 5, 6, 7, 8] hN ?hD ?_); (case hD => (simp only [pick, Desc, List.filterMap_cons, List.filterMap_nil, List.getElem?_cons_succ, List.getElem?_cons_zero, List.getElem?_nil, and_true, true_and]; omega)); intro nX dX; (simp only [pick, Desc, List.filterMap_cons, List.filterMap_nil, List.getElem?_cons_succ, List.getElem?_cons_zero, List.getElem?_nil, and_true, true_and] at nX dX); revert nX dX; (repeat ((with_reducible rename News _ _ _ _ => x9); clear x9)); (repeat ((with_reducible rename (@LT.lt Nat _ _ _ ∧ _) => x9); clear x9)); (repeat ((with_reducible rename (@LT.lt Nat _ _ _) => x9); clear x9)); (repeat ((with_reducible rename (@Ne Nat _ _ ∧ _) => x9); clear x9)); intro nX dX))
    | (refine' ints_lit [0, 7, 25, 30, 42, 45, 51, 52, 75, 76, 82, 85, 97, 102, 120, 127, 1, 6, 24, 31, 43, 44, 50, 53, 74, 77, 83, 84, 96, 103, 121, 126, 2, 5, 27, 28, 40, 47, 49, 54, 73, 78, 80, 87, 99, 100, 122, 125, 4, 3, 29, 26, 46, 41, 55, 48, 79, 72, 86, 81, 101, 98, 124, 123, 8, 15, 17, 22, 34, 37, 59, 60, 67, 68, 90, 93, 105, 110, 112, 119] hOld ?hE ?_; (case hE => decide +kernel); intro hNew; clear hOld; ((rename News _ _ _ _ => hN); (refine' news_pick [0, 2, 4, 5, 6, 7, 8] hN ?hD ?_); (case hD => (simp only [pick, Desc, List.filterMap_cons, List.filterMap_nil, List.getElem?_cons_succ, List.getElem?_cons_zero, List.getElem?_nil, and_true, true_and]; omega)); intro nX dX; (simp only [pick, Desc, List.filterMap_cons, List.filterMap_nil, List.getElem?_cons_succ, List.getElem?_cons_zero, List.getElem?_nil, and_true, true_and] at nX dX); revert nX dX; (repeat ((with_reducible rename News _ _ _ _ => x9); clear x9)); (repeat ((with_reducible rename (@LT.lt Nat _ _ _ ∧ _) => x9); clear x9)); (repeat ((with_reducible rename (@LT.lt Nat _ _ _) => x9); clear x9)); (repeat ((with_reducible rename (@Ne Nat _ _ ∧ _) => x9); clear x9)); intro nX dX))
    | (refine' ints_lit [0, 7, 25, 30, 42, 45, 51, 52, 75, 76, 82, 85, 97, 102, 120, 127, 1, 6, 24, 31, 43, 44, 50, 53, 74, 77, 83, 84, 96, 103, 121, 126, 2, 5, 27, 28, 40, 47, 49, 54, 73, 78, 80, 87, 99, 100, 122, 125, 4, 3, 29, 26, 46, 41, 55, 48, 79, 72, 86, 81, 101, 98, 124, 123, 8, 15, 17, 22, 34, 37, 59, 60, 67, 68, 90, 93, 105, 110, 112, 119, 16, 23, 9, 14, 58, 61, 35, 36, 91, 92, 66, 69, 113, 118, 104, 111] hOld ?hE ?_; (case hE => decide +kernel); intro hNew; clear hOld; ((rename News _ _ _ _ => hN); (refine' news_pick [0, 2, 4, 5, 6, 7, 8] hN ?hD ?_); (case hD => (simp only [pick, Desc, List.filterMap_cons, List.filterMap_nil, List.getElem?_cons_succ, List.getElem?_cons_zero, List.getElem?_nil, and_true, true_and]; omega)); intro nX dX; (simp only [pick, Desc, List.filterMap_cons, List.filterMap_nil, List.getElem?_cons_succ, List.getElem?_cons_zero, List.getElem?_nil, and_true, true_and] at nX dX); revert nX dX; (repeat ((with_reducible rename News _ _ _ _ => x9); clear x9)); (repeat ((with_reducible rename (@LT.lt Nat _ _ _ ∧ _) => x9); clear x9)); (repeat ((with_reducible rename (@LT.lt Nat _ _ _) => x9); clear x9)); (repeat ((with_reducible rename (@Ne Nat _ _ ∧ _) => x9); clear x9)); intro nX dX))
    | (refine' ints_lit [0, 7, 25, 30, 42, 45, 51, 52, 75, 76, 82, 85, 97, 102, 120, 127, 1, 6, 24, 31, 43, 44, 50, 53, 74, 77, 83, 84, 96, 103, 121, 126, 2, 5, 27, 28, 40, 47, 49, 54, 73, 78, 80, 87, 99, 100, 122, 125, 4, 3, 29, 26, 46, 41, 55, 48, 79, 72, 86, 81, 101, 98, 124, 123, 8, 15, 17, 22, 34, 37, 59, 60, 67, 68, 90, 93, 105, 110, 112, 119, 16, 23, 9, 14, 58, 61, 35, 36, 91, 92, 66, 69, 113, 118, 104, 111, 32, 39, 57, 62, 10, 13, 19, 20, 107, 108, 114, 117, 65, 70, 88, 95] hOld ?hE ?_; (case hE => decide +kernel); intro hNew; clear hOld; ((rename News _ _ _ _ => hN); (refine' news_pick [0, 2, 4, 5, 6, 7, 8] hN ?hD ?_); (case hD => (simp only [pick, Desc, List.filterMap_cons, List.filterMap_nil, List.getElem?_cons_succ, List.getElem?_cons_zero, List.getElem?_nil, and_true, true_and]; omega)); intro nX dX; (simp only [pick, Desc, List.filterMap_cons, List.filterMap_nil, List.getElem?_cons_succ, List.getElem?_cons_zero, List.getElem?_nil, and_true, true_and] at nX dX); revert nX dX; (repeat ((with_reducible rename News _ _ _ _ => x9); clear x9)); (repeat ((with_reducible rename (@LT.lt Nat _ _ _ ∧ _) => x9); clear x9)); (repeat ((with_reducible rename (@LT.lt Nat _ _ _) => x9); clear x9)); (repeat ((with_reducible rename (@Ne Nat _ _ ∧ _) => x9); clear x9)); intro nX dX))
    | (refine' ints_lit nl0 hOld ?hE ?_; (case hE => decide +kernel); intro hNew; clear hOld; ((rename News _ _ _ _ => hN); (refine' news_pick [0, 2, 4, 5, 6, 7, 8] hN ?hD ?_); (case hD => (simp only [pick, Desc, List.filterMap_cons, List.filterMap_nil, List.getElem?_cons_succ, List.getElem?_cons_zero, List.getElem?_nil, and_true, true_and]; omega)); intro nX dX; (simp only [pick, Desc, List.filterMap_cons, List.filterMap_nil, List.getElem?_cons_succ, List.getElem?_cons_zero, List.getElem?_nil, and_true, true_and] at nX dX); revert nX dX; (repeat ((with_reducible rename News _ _ _ _ => x9); clear x9)); (repeat ((with_reducible rename (@LT.lt Nat _ _ _ ∧ _) => x9); clear x9)); (repeat ((with_reducible rename (@LT.lt Nat _ _ _) => x9); clear x9)); (repeat ((with_reducible rename (@Ne Nat _ _ ∧ _) => x9); clear x9)); intro nX dX))
    | fail "none")
  w_strict (k_go0; (all_goals try k_fold); k_steps)
  all_goals w_report)
end
theorem PySem.Challenge.cw_xm0034_01_holds : PySem.Challenge.rw_xm0034_01.Holds :=
  Mine.walk01
