import PyProof.Rows.All
import Wide.All
import OpenK.AllK
import Wide.FinOn
import Lean
import PySem.Challenge.RW_xm0034_02
open PySem PySem.W PySem.Calls PyProof.Rows PySem.Spec
set_option Elab.async false
set_option maxRecDepth 100000
set_option maxHeartbeats 4000000
section
namespace Mine
open PySem.SeqAt in
def ltP (x y : Int × Int) : Bool := decide (x.1 < y.1) || (decide (x.1 = y.1) && decide (x.2 < y.2))
section
open PySem.SeqAt PySem.AutoSeq1 PySem.MeetsSeq PySem.MeetsSeq2 PySem.MeetsSeq3 PySem.SeqRoads2
theorem lt_loop (l b : Addr) (v1 c1 v2 c2 : Int) (t1 u1 t2 u2 : Tok) (n n2 : Nat) : ∀ k i : Nat, 2 - i = k → (i = 0 ∨ i = 1 ∧ v1 = v2 ∨ i = 2 ∧ v1 = v2 ∧ c1 = c2) → Meets (Builtin.«list.__eq__.loop» ⟨[.ref l, .ref b, rawInt i, rawInt 0], []⟩)
      (fun _ R s => s.heap.get? l = some { cls := .type "list", dict := none, data := .seq #[.int v1 t1, .int c1 u1] n, slots := #[] } ∧ s.heap.get? b = some { cls := .type "list", dict := none, data := .seq #[.int v2 t2, .int c2 u2] n2, slots := #[] } ∧
        R (.ok (.ret (.bool (ltP (v1, c1) (v2, c2))))) s) := by
  intro k
  induction k with
  | zero =>
    intro i hk hi prog w A R s h
    obtain ⟨hp, g, d, tk, os⟩ := s; obtain ⟨hl, hb, h⟩ := h
    obtain ⟨rfl, rfl, rfl⟩ : i = 2 ∧ v1 = v2 ∧ c1 = c2 := by omega
    wp_walk using wpAny_loadPart' hl, wpAny_loadPart' hb
    show R (.ok (.ret (.bool (decide (2 < 2))))) _
    simpa [ltP] using h
  | succ k ih =>
    intro i hk hi prog w A R s h
    obtain ⟨hp, g, d, tk, os⟩ := s; obtain ⟨hl, hb, h⟩ := h
    wp_walk using wpAny_loadPart' hl, wpAny_loadPart' hb
    rcases hi with rfl | ⟨rfl, rfl⟩ | ⟨rfl, _, _⟩
    · show wpAny _ _ (eqBool (.int v1 t1) (.int v2 t2) >>= _) _ _ _
      refine wpAny_bind (wpAny_eqBool_int ?_)
      cases e : (v1 == v2) with
      | true =>
        wp_walk
        exact ⟨plainId_quiet plain_eq_loop _, codeAny_builtin entry_eq_loop (by
          rw [Around.under_plainId plain_eq_loop _]
          exact ih 1 (by omega) (.inr (.inl ⟨rfl, by simpa using e⟩)) prog w A R _ ⟨hl, hb, h⟩)⟩
      | false =>
        simp only [Bool.false_eq_true, if_false]
        refine wpAny_bind (listItems_at hl rfl ?_)
        refine wpAny_bind (listItems_at hb rfl ?_)
        show wpAny _ _ (richCompare .Lt (.int v1 t1) (.int v2 t2) >>= _) _ _ _
        refine wpAny_bind (wpAny_lt_int ?_)
        refine wpAny_pure ?_
        have e' : ¬ v1 = v2 := by simpa using e
        have q : ltP (v1, c1) (v2, c2) = decide (v1 < v2) := by simp [ltP, e']
        rw [← q]
        exact h
    · show wpAny _ _ (eqBool (.int c1 u1) (.int c2 u2) >>= _) _ _ _
      refine wpAny_bind (wpAny_eqBool_int ?_)
      cases e : (c1 == c2) with
      | true =>
        wp_walk
        exact ⟨plainId_quiet plain_eq_loop _, codeAny_builtin entry_eq_loop (by
          rw [Around.under_plainId plain_eq_loop _]
          exact ih 2 (by omega) (.inr (.inr ⟨rfl, rfl, by simpa using e⟩)) prog w A R _ ⟨hl, hb, h⟩)⟩
      | false =>
        simp only [Bool.false_eq_true, if_false]
        refine wpAny_bind (listItems_at hl rfl ?_)
        refine wpAny_bind (listItems_at hb rfl ?_)
        show wpAny _ _ (richCompare .Lt (.int c1 u1) (.int c2 u2) >>= _) _ _ _
        refine wpAny_bind (wpAny_lt_int ?_)
        refine wpAny_pure ?_
        have q : ltP (v1, c1) (v1, c2) = decide (c1 < c2) := by simp [ltP]
        rw [← q]
        exact h
    · omega
theorem lt_meets (l b : Addr) (v1 c1 v2 c2 : Int) (t1 u1 t2 u2 : Tok) (n n2 : Nat) : Meets (Builtin.«list.__lt__» ⟨[.ref l, .ref b], []⟩)
      (fun _ R s => s.heap.get? l = some { cls := .type "list", dict := none, data := .seq #[.int v1 t1, .int c1 u1] n, slots := #[] } ∧ s.heap.get? b = some { cls := .type "list", dict := none, data := .seq #[.int v2 t2, .int c2 u2] n2, slots := #[] } ∧
        R (.ok (.ret (.bool (ltP (v1, c1) (v2, c2))))) s) := by
  intro prog w A R s h
  obtain ⟨hp, g, d, tk, os⟩ := s; obtain ⟨hl, hb, h⟩ := h
  have f3 := AutoSeq1.sub_list_list
  wp_walk using wpAny_loadPart' hl, wpAny_loadPart' hb
  exact ⟨plainId_quiet plain_eq_loop _, codeAny_builtin entry_eq_loop (by
    rw [Around.under_plainId plain_eq_loop _]
    exact lt_loop l b v1 c1 v2 c2 t1 u1 t2 u2 n n2 2 0 rfl (.inl rfl) prog w A R _ ⟨hl, hb, h⟩)⟩
end
section
variable {prog : Program} {w : World} {A : Around} {E : Value → Shared → Prop} {s : Shared}
theorem lt_pair {l b : Addr} {v1 c1 v2 c2 : Int} {t1 u1 t2 u2 : Tok} {n n2 : Nat} {Q : Bool → Shared → Prop} (hu : A.units < cLine) (hl : s.heap.get? l = some (listOf #[.int v1 t1, .int c1 u1] n)) (hb : s.heap.get? b = some (listOf #[.int v2 t2, .int c2 u2] n2))
    (h : Q (ltP (v1, c1) (v2, c2)) s) : wpAny (model prog w) A (keyLt' oneType' (.ref l) (.ref b)) Q E s := by
  rw [keyLt'_oneType, oneLt'_eq]
  simp only [if_true]
  refine wpAny_bind (wpAny_cRoomFor hu ?_)
  have ht : s.TypeIs (.ref l) "list" := ⟨_, hl, rfl⟩
  refine wpAny_bind (wpAny_callSpecialIfBound?_slot ht PySem.F.slot_list_lt (call_meets PySem.F.slot_list_lt ht PySem.F.entry_list_lt (PySem.F.args_list_lt_2 _ _) (lt_meets l b v1 c1 v2 c2 t1 u1 t2 u2 n n2) ⟨hl, hb, ?_⟩))
  show wpAny _ _ (truthOfDropped (.bool (ltP (v1, c1) (v2, c2)))) Q E s
  exact wpAny_truthy_bool h
end
end Mine
end
section
namespace Mine
structure Ent where
  a : Addr
  p : Int × Int
  t : Tok
  u : Tok
def Ent.obj (e : Ent) : Obj := PySem.W.listOf #[.int e.p.1 e.t, .int e.p.2 e.u] 0
def ledE (es : List Ent) : List (Addr × Obj) := es.map fun e => (e.a, e.obj)
def refsE (es : List Ent) : List Value := es.map fun e => .ref e.a
def bump : List (Int × Int) → List (Int × Int)
  | [] => []
  | (x, c) :: r => (x, c + 1) :: r
def runsN (v p : Nat → Int) : Nat → List (Int × Int)
  | 0 => []
  | n + 1 => bump (if (v n != p n) = true then (v n, 0) :: runsN v p n else runsN v p n)
theorem mem_ledE {es : List Ent} {q : Addr × Obj} (h : q ∈ ledE es) : ∃ e ∈ es, q = (e.a, e.obj) := by
  obtain ⟨e, he, rfl⟩ := List.mem_map.mp h
  exact ⟨e, he, rfl⟩
def runK {α : Type} (n : Nat) (lt : Nat → Nat → Bool) : KasT α → Option α
  | .ret a => some a
  | .ask i j k => if i < n ∧ j < n then runK n lt (k (lt i j)) else none
theorem runK_wp {α : Type} {n : Nat} {lt : Nat → Nat → Bool} {cmp : Nat → Nat → (Bool → Shared → Prop) → Shared → Prop} {Q : α → Shared → Prop} {s : Shared}
    (H : ∀ i j (C : Bool → Shared → Prop), i < n → j < n → C (lt i j) s → cmp i j C s) : ∀ (t : KasT α) {a : α}, runK n lt t = some a → Q a s → t.kasWp cmp Q s
  | .ret b, a, h, q => by
    cases h
    exact q
  | .ask i j k, a, h, q => by
    unfold runK at h
    by_cases hij : i < n ∧ j < n
    · rw [if_pos hij] at h
      exact H i j _ hij.1 hij.2 (runK_wp H (k (lt i j)) h q)
    · rw [if_neg hij] at h
      cases h
def runs8 : List (Int × Int) := [(0, 1), (0, 1), (0, 2), (0, 3), (1, 1), (1, 1), (1, 2), (1, 4)]
def ltAt (ps : List (Int × Int)) (i j : Nat) : Bool := ltP (ps.getD i (0, 0)) (ps.getD j (0, 0))
def sortsB (ps : List (Int × Int)) : Bool :=
  ps.length == 8 && match runK 8 (ltAt ps) (kas_sort 8) with
    | none => false
    | some p => p.toList.all (fun i => decide (i < 8)) && p.toList.map (fun i => ps.getD i (0, 0)) == runs8
section
variable {prog : Program} {w : World} {A : Around} {E : Value → Shared → Prop} {s : Shared} {h₀ : Heap} {L : Addr} {m : PySem.Str → Option Value}
theorem sorted_ents {D : Addr} {c : Nat} {es : List Ent} {news : List (Addr × Obj)} {Q : Value → Shared → Prop} (hu : A.in1.in1.units < cLine) (F : Fr h₀ L s.heap m) (N : News h₀ L s.heap news)
    (hD : (D, PySem.W.listOf (refsE es).toArray c) ∈ news) (hE : ∀ q ∈ ledE es, q ∈ news) (hs : sortsB (es.map Ent.p) = true)
    (h : ∀ (D' : Addr) (c' : Nat) (h' : Heap) (fs : List Ent), fs.map Ent.p = runs8 → Fr h₀ L h' m → News h₀ L h' ((D', PySem.W.listOf (refsE fs).toArray c') :: ledE fs) → Q (.ref D') { s with heap := h' }) :
    wpAny (model prog w) A (call (.builtin "sorted") [.ref D]) Q E s := by
  unfold sortsB at hs
  obtain ⟨h8, hs⟩ := Bool.and_eq_true_iff.mp hs
  have h8 : es.length = 8 := by simpa using h8
  have hv : (refsE es).length = 8 := by simp [refsE, h8]
  cases er : runK 8 (ltAt (es.map Ent.p)) (kas_sort 8) with
  | none => rw [er] at hs; cases hs
  | some p =>
    rw [er] at hs
    obtain ⟨hb, hm⟩ := Bool.and_eq_true_iff.mp hs
    have hb : ∀ i ∈ p.toList, i < 8 := fun i hi => of_decide_eq_true (List.all_eq_true.mp hb i hi)
    have hm : p.toList.map (fun i => (es.map Ent.p).getD i (0, 0)) = runs8 := eq_of_beq hm
    have at_ : ∀ i, i < 8 → ∃ e ∈ es, (refsE es).getD i Value.none = .ref e.a ∧ (es.map Ent.p).getD i (0, 0) = e.p := by
      intro i hi
      have hi' : i < es.length := by omega
      refine ⟨es[i], List.getElem_mem hi', ?_, ?_⟩
      · simp [refsE, hi']
      · simp [hi']
    have looks : ∀ h1, News h₀ L h1 news → ∀ v ∈ refsE es, Looks (model prog w) h1 (typeOf v) (.type "list") := by
      intro h1 N1 v hv
      obtain ⟨e, he, rfl⟩ := List.mem_map.mp hv
      have z := N1 _ (hE _ (List.mem_map.mpr ⟨e, he, rfl⟩))
      exact show Looks (model prog w) h1 (typeOf (.ref e.a)) e.obj.cls from (Looks.ld z.1).andThen .now
    refine kas_sorted (T := .type "list") (vs := refsE es) F N (News.isList N hD) (by omega) (by omega) (fun h1 _ N1 => looks h1 N1) rfl ?_
    intro D' e1 h' F' N' hlt
    rw [hv]
    refine runK_wp (n := 8) (lt := ltAt (es.map Ent.p)) ?_ (kas_sort 8) er ?_
    · intro i j C hi hj hc
      obtain ⟨e, he, r1, p1⟩ := at_ i hi
      obtain ⟨f, hf, r2, p2⟩ := at_ j hj
      unfold kas_ask
      rw [r1, r2]
      have z1 := N' _ (List.mem_cons_of_mem _ (hE _ (List.mem_map.mpr ⟨e, he, rfl⟩)))
      have z2 := N' _ (List.mem_cons_of_mem _ (hE _ (List.mem_map.mpr ⟨f, hf, rfl⟩)))
      refine lt_pair hu z1.1 z2.1 ?_
      unfold ltAt at hc
      rw [p1, p2] at hc
      exact hc
    · refine ⟨_, fun o => (D', o) :: news, F', N', UpdF.head fun q hq => Nat.ne_of_lt (hlt q hq), ?_⟩
      intro h2 c2 F2 N2
      have fs : ∀ l : List Nat, (∀ i ∈ l, i < 8) → ∃ fs : List Ent, fs.map Ent.p = l.map (fun i => (es.map Ent.p).getD i (0, 0)) ∧ refsE fs = l.map (fun i => (refsE es).getD i Value.none) ∧ ∀ f ∈ fs, f ∈ es := by
        intro l
        induction l with
        | nil => exact fun _ => ⟨[], rfl, rfl, fun _ h => nomatch h⟩
        | cons i l ih =>
          intro hl
          obtain ⟨fs, a1, a2, a3⟩ := ih fun j hj => hl j (.tail _ hj)
          obtain ⟨e, he, r1, p1⟩ := at_ i (hl i (.head _))
          refine ⟨e :: fs, ?_, ?_, ?_⟩
          · rw [List.map_cons, List.map_cons, a1, p1]
          · rw [List.map_cons, ← a2, r1]; rfl
          · intro f hf
            rcases List.mem_cons.mp hf with rfl | hf
            · exact he
            · exact a3 f hf
      obtain ⟨fs, a1, a2, a3⟩ := fs p.toList hb
      rw [← a2] at N2
      refine h D' c2 h2 fs (a1.trans hm) F2 fun q hq => ?_
      rcases List.mem_cons.mp hq with rfl | hq
      · exact N2 _ (.head _)
      · obtain ⟨e, he, rfl⟩ := mem_ledE hq
        exact N2 _ (.tail _ (hE _ (List.mem_map.mpr ⟨e, a3 e he, rfl⟩)))
end
end Mine
end
section
namespace Mine
def RunsEnd (h₀ : Heap) (L : Addr) (x : PySem.Str) (m₀ : PySem.Str → Option Value) (s : Shared) (G : Heap → Prop) (s₂ : Shared) : Prop :=
  ∃ h' tk m', s₂ = { s with heap := h', toks := tk } ∧ Fr h₀ L h' m' ∧ (∀ z, z ≠ x → m' z = m₀ z) ∧ G h'
def RunsStep (h₀ : Heap) (L : Addr) (x : PySem.Str) (m₀ : PySem.Str → Option Value) (s : Shared) (G : Heap → Prop) (f : Flow) (s₂ : Shared) : Prop :=
  match f with
  | .next => RunsEnd h₀ L x m₀ s G s₂
  | .cont => RunsEnd h₀ L x m₀ s G s₂
  | _ => False
theorem RunsEnd.intro {h₀ : Heap} {L : Addr} {x : PySem.Str} {m₀ m' : PySem.Str → Option Value} {s : Shared} {G : Heap → Prop} {h' : Heap} {tk : Nat} (F : Fr h₀ L h' m') (hm : ∀ z, z ≠ x → m' z = m₀ z) (g : G h') :
    RunsEnd h₀ L x m₀ s G { s with heap := h', toks := tk } := ⟨h', tk, m', rfl, F, hm, g⟩
def GNew (h₀ : Heap) (L D Ta : Addr) (oT : Obj) (arr : Array Value) (v : Int) (own : List (Addr × Obj)) (h' : Heap) : Prop :=
  ∃ (e : Addr) (te tf : Tok) (c : Nat), (@LT.lt Nat _ D e ∧ AllLt e own) ∧ News h₀ L h' ((e, PySem.W.listOf #[.int v te, .int 1 tf] 0) :: (D, PySem.W.listOf (arr.push (.ref e)) c) :: (Ta, oT) :: own)
def GMore (h₀ : Heap) (L D Ta : Addr) (oT : Obj) (arr : Array Value) (d : Addr) (a b : Int) (ta tb : Tok) (v p : Int) (c : Nat) (own : List (Addr × Obj)) (h' : Heap) : Prop :=
  ((v != p) = true ∧ ∃ (e : Addr) (te tf : Tok) (c : Nat), (@LT.lt Nat _ D e ∧ @LT.lt Nat _ d e ∧ AllLt e own) ∧ News h₀ L h' ((e, PySem.W.listOf #[.int v te, .int 1 tf] 0) :: (D, PySem.W.listOf ((arr.push (.ref d)).push (.ref e)) c) :: (d, PySem.W.listOf #[.int a ta, .int b tb] 0) :: (Ta, oT) :: own))
  ∨ ((v != p) = false ∧ ∃ (tf : Tok), News h₀ L h' ((D, PySem.W.listOf (arr.push (.ref d)) c) :: (d, PySem.W.listOf #[.int a ta, .int (b + 1) tf] 0) :: (Ta, oT) :: own))
theorem allLt_mem {d : Addr} {l : List (Addr × Obj)} (h : AllLt d l) : ∀ q ∈ l, @LT.lt Nat _ q.1 d := by
  induction l with
  | nil => exact fun _ hq => nomatch hq
  | cons a l ih =>
    intro q hq
    obtain ⟨h1, h2⟩ := h
    rcases List.mem_cons.mp hq with e | hq
    · rw [e]
      exact h1
    · exact ih h2 q hq
theorem refsE_rev (e : Ent) (es : List Ent) : (refsE (e :: es).reverse).toArray = (refsE es.reverse).toArray.push (.ref e.a) := by
  simp [refsE]
theorem bump_map (e : Ent) (es : List Ent) (tf : Tok) : (({ e with p := (e.p.1, e.p.2 + 1), u := tf } : Ent) :: es).map Ent.p = bump ((e :: es).map Ent.p) := rfl
structure RunsJ (v p : Nat → Int) (D Ta : Addr) (oT : Obj) (i : Nat) (led : List (Addr × Obj)) : Prop where
  ex : ∃ (es : List Ent) (c : Nat), led = (D, PySem.W.listOf (refsE es.reverse).toArray c) :: (Ta, oT) :: ledE es ∧ es.map Ent.p = runsN v p i ∧ (∀ e ∈ es, @LT.lt Nat _ D e.a) ∧ es.Pairwise (fun e f => @LT.lt Nat _ f.a e.a) ∧ es.length ≤ i ∧ (i = 0 ∨ es ≠ [])
section
variable {prog : Program} {w : World} {A : Around} {E : Value → Shared → Prop} {s : Shared} {env : Env} {h₀ : Heap} {body : List Stmt} {Q : Flow → Shared → Prop}
theorem loop_runs {r D Ta : Addr} {t₀ u₀ v₀ : Tok} {m₀ : PySem.Str → Option Value} {oT : Obj} {c0 : Nat} {x : PySem.Str} (v p : Nat → Int)
    (hh : A.handled = none) (hr : IsRange s.heap r 0 15 1 t₀ u₀ v₀) (hsmall : Builtin.Range.small 0 15 1 = true) (hn : Builtin.Range.rangeSize 0 15 1 = ((15 : Nat) : Int)) (F : Fr h₀ env.locals s.heap m₀) (N : News h₀ env.locals s.heap [(D, PySem.W.listOf #[] c0), (Ta, oT)]) (hT : @LT.lt Nat _ Ta D) (h0 : (v 0 != p 0) = true)
    (first : ∀ (c : Nat) t h tk own, KstMark → OwnOff own [D, Ta] → Fr h₀ env.locals h (fun y => if y = x then some (.int ((0 : Nat) : Int) t) else m₀ y) → News h₀ env.locals h ((D, PySem.W.listOf #[] c) :: (Ta, oT) :: own) → (v 0 != p 0) = true →
      wpAny (model prog w) A (execs body env) (RunsStep h₀ env.locals x m₀ { s with heap := h, toks := tk } (GNew h₀ env.locals D Ta oT #[] (v 0) own)) E { s with heap := h, toks := tk })
    (more : ∀ (i : Nat) t h tk own (arr : Array Value) (c : Nat) (d : Addr) (a b : Int) (ta tb : Tok), i < 15 → KstMark → OwnOff own [D, d, Ta] → @LT.lt Nat _ D d → arr.size < 15 →
      Fr h₀ env.locals h (fun y => if y = x then some (.int (i : Int) t) else m₀ y) → News h₀ env.locals h ((D, PySem.W.listOf (arr.push (.ref d)) c) :: (d, PySem.W.listOf #[.int a ta, .int b tb] 0) :: (Ta, oT) :: own) →
      wpAny (model prog w) A (execs body env) (RunsStep h₀ env.locals x m₀ { s with heap := h, toks := tk } (GMore h₀ env.locals D Ta oT arr d a b ta tb (v i) (p i) c own)) E { s with heap := h, toks := tk })
    (done : ∀ (u : PySem.Str → Option Value) h tk (es : List Ent) (c : Nat), es.map Ent.p = (runsN v p 15).reverse → Fr h₀ env.locals h (fun y => if y = x then u y else m₀ y) → News h₀ env.locals h ((D, PySem.W.listOf (refsE es).toArray c) :: ledE es) → Q .next { s with heap := h, toks := tk }) :
    wpAny (model prog w) A (pyIter (.ref r)) (fun it s₂ => LoopAtV prog w A h₀ env x body Q E it s₂) E s := by
  refine wpAny_pyIter_range hr hsmall ?_
  have W : Walks prog w A s.heap.objs.size [s.heap.objs.size] [s.heap.objs.size] 15 (fun i v => i < 15 ∧ ∃ t, v = .int (0 + i * 1) t)
      (fun i h => IsRangeIter h s.heap.objs.size (0 + (i : Nat) * 1) ((15 : Int) - (i : Nat)) 1) := (Walks.range hh _ 0 1 15).bound
  have hI0 : h₀.get? s.heap.objs.size = none := next_is_new F
  refine ⟨_, _, _, 15, _, _, m₀, _, fun i m led => (∀ z, z ≠ x → m z = m₀ z) ∧ RunsJ v p D Ta oT i led, rfl, W, ?_, ?_, ?_, ?_, F.push _, (fun q hq => ⟨Heap.get?_push_of_some _ (N q hq).1, (N q hq).2⟩), ⟨fun _ _ => rfl, ⟨[], c0, rfl, rfl, fun _ h => (nomatch h), .nil, Nat.le_refl _, .inl rfl⟩⟩, ?_, ?_⟩
  · intro hm
    exact absurd F.ns.lt ((List.mem_singleton.mp hm) ▸ Nat.lt_irrefl _)
  · intro b hb
    rw [List.mem_singleton.mp hb]
    exact hI0
  · intro q hq hI
    exact absurd (Heap.lt_size (N q hq).1) ((List.mem_singleton.mp hI) ▸ Nat.lt_irrefl _)
  · show IsRangeIter _ _ _ _ _
    rw [hn]
    simpa using Heap.get?_push_size _ rfl
  · rintro i v1 m₁ led s₁ own ⟨h, tk, rfl⟩ hi ⟨_, t, rfl⟩ ⟨hm, ⟨es, c, rfl, hes, hDe, hpw, hlen, hne⟩⟩ hnI hown hown2 hown3 hst F₁ N₁
    have e1 : (0 : Int) + (i : Int) * 1 = (i : Int) := by omega
    rw [e1] at F₁
    have em : (fun y => if y = x then some (Value.int (i : Int) t) else m₁ y) = fun y => if y = x then some (Value.int (i : Int) t) else m₀ y := by
      funext y
      by_cases hy : y = x
      · rw [if_pos hy, if_pos hy]
      · rw [if_neg hy, if_neg hy, hm y hy]
    rw [em] at F₁
    have hIown : ∃ o, (s.heap.objs.size, o) ∈ own := ⟨_, hown3 _ (.head _) hI0 _ hst⟩
    obtain ⟨oI, hIown⟩ := hIown
    have hDI : D ≠ s.heap.objs.size := fun e => hnI _ (.head _) (by simp [e])
    have hTI : Ta ≠ s.heap.objs.size := fun e => hnI (Ta, oT) (.tail _ (.head _)) (by simp [e])
    have hownI : ∀ q ∈ own, q.1 = s.heap.objs.size := fun q hq => by simpa using hown q hq
    have NM : ∀ q, q ∈ own ∨ q = (D, PySem.W.listOf (refsE es.reverse).toArray c) ∨ q = (Ta, oT) ∨ q ∈ ledE es → h.get? q.1 = some q.2 ∧ q.1 ≠ env.locals ∧ h₀.get? q.1 = none := by
      rintro q (hq | rfl | rfl | hq)
      · exact N₁ q (List.mem_append_left _ hq)
      · exact N₁ _ (List.mem_append_right _ (.head _))
      · exact N₁ _ (List.mem_append_right _ (.tail _ (.head _)))
      · exact N₁ q (List.mem_append_right _ (.tail _ (.tail _ hq)))
    have conv : ∀ (G : Heap → Prop), (∀ h', G h' → ∃ led', News h₀ env.locals h' (own ++ led') ∧ (∀ q ∈ led', q.1 ≠ s.heap.objs.size) ∧ RunsJ v p D Ta oT (i + 1) led') →
        ∀ f s₂, RunsStep h₀ env.locals x m₀ { s with heap := h, toks := tk } G f s₂ → LoopStepV h₀ env.locals [s.heap.objs.size] own ((fun i m led => (∀ z, z ≠ x → m z = m₀ z) ∧ RunsJ v p D Ta oT i led) (i + 1)) { s with heap := h, toks := tk } (fun v s' => Q (.ret v) s') (fun s' => Q .next s') f s₂ := by
      intro G hG f s₂ st
      have fin : RunsEnd h₀ env.locals x m₀ { s with heap := h, toks := tk } G s₂ → LoopStepU h₀ env.locals [s.heap.objs.size] own ((fun i m led => (∀ z, z ≠ x → m z = m₀ z) ∧ RunsJ v p D Ta oT i led) (i + 1)) { s with heap := h, toks := tk } .next s₂ := by
        rintro ⟨h', tk', m', e, F', hm', g⟩
        obtain ⟨led', n1, n2, n3⟩ := hG h' g
        exact ⟨rfl, h', tk', m', led', e, F', n1, fun q hq => by simpa using n2 q hq, hm', n3⟩
      cases f with
      | ret v => exact st.elim
      | brk => exact st.elim
      | next => exact .next (fin st)
      | cont => exact .cont (fin st)
    match es, hes, hDe, hpw, hlen, hne, NM with
    | [], hes, hDe, hpw, hlen, hne, NM =>
      have hi0 : i = 0 := by
        rcases hne with h | h
        · exact h
        · exact absurd rfl h
      subst hi0
      refine wpAny_mono (first c t h tk own kstMark ?_ F₁ ?_ h0) (conv _ ?_) fun _ _ x => x
      · intro q hq b hb
        rw [hownI q hq]
        rcases List.mem_cons.mp hb with rfl | hb
        · exact Ne.symm hDI
        · rw [List.mem_singleton.mp hb]
          exact Ne.symm hTI
      · intro q hq
        rcases List.mem_cons.mp hq with rfl | hq
        · exact NM _ (.inr (.inl rfl))
        · rcases List.mem_cons.mp hq with rfl | hq
          · exact NM _ (.inr (.inr (.inl rfl)))
          · exact NM _ (.inl hq)
      · rintro h' ⟨e, te, tf, c1, ⟨l1, l2⟩, N'⟩
        have hIe := allLt_mem l2 _ hIown
        refine ⟨(D, PySem.W.listOf #[.ref e] c1) :: (Ta, oT) :: ledE [⟨e, (v 0, 1), te, tf⟩], ?_, ?_, ⟨[⟨e, (v 0, 1), te, tf⟩], c1, rfl, ?_, ?_, ?_, Nat.le_refl _, .inr (by simp)⟩⟩
        · intro q hq
          rcases List.mem_append.mp hq with hq | hq
          · exact N' q (.tail _ (.tail _ (.tail _ hq)))
          · rcases List.mem_cons.mp hq with rfl | hq
            · exact N' _ (.tail _ (.head _))
            · rcases List.mem_cons.mp hq with rfl | hq
              · exact N' _ (.tail _ (.tail _ (.head _)))
              · rw [show q = (e, PySem.W.listOf #[.int (v 0) te, .int 1 tf] 0) from List.mem_singleton.mp hq]
                exact N' _ (.head _)
        · intro q hq
          rcases List.mem_cons.mp hq with rfl | hq
          · exact hDI
          · rcases List.mem_cons.mp hq with rfl | hq
            · exact hTI
            · rw [show q = (e, PySem.W.listOf #[.int (v 0) te, .int 1 tf] 0) from List.mem_singleton.mp hq]
              exact Nat.ne_of_gt hIe
        · show [(v 0, (1 : Int))] = bump (if (v 0 != p 0) = true then (v 0, 0) :: runsN v p 0 else runsN v p 0)
          rw [if_pos h0]
          rfl
        · intro f hf
          rw [List.mem_singleton.mp hf]
          exact l1
        · exact List.pairwise_singleton _ _
    | e :: r, hes, hDe, hpw, hlen, hne, NM =>
      rw [refsE_rev] at NM
      have hpw' := List.pairwise_cons.mp hpw
      have heI : e.a ≠ s.heap.objs.size := fun q => hnI (e.a, e.obj) (.tail _ (.tail _ (.head _))) (by simp [q])
      have hrI : ∀ f ∈ r, f.a ≠ s.heap.objs.size := fun f hf q => hnI (f.a, f.obj) (.tail _ (.tail _ (.tail _ (List.mem_map.mpr ⟨f, hf, rfl⟩)))) (by simp [q])
      have hDd : @LT.lt Nat _ D e.a := hDe e (.head _)
      refine wpAny_mono (more i t h tk (own ++ ledE r) (refsE r.reverse).toArray c e.a e.p.1 e.p.2 e.t e.u hi kstMark ?_ hDd ?_ F₁ ?_) (conv _ ?_) fun _ _ x => x
      · intro q hq b hb
        have hb' : b = D ∨ b = e.a ∨ b = Ta := by simpa using hb
        rcases List.mem_append.mp hq with hq | hq
        · rw [hownI q hq]
          rcases hb' with rfl | rfl | rfl
          · exact Ne.symm hDI
          · exact Ne.symm heI
          · exact Ne.symm hTI
        · obtain ⟨f, hf, rfl⟩ := mem_ledE hq
          have h1 : @LT.lt Nat _ D f.a := hDe f (.tail _ hf)
          have h2 : @LT.lt Nat _ f.a e.a := hpw'.1 f hf
          rcases hb' with rfl | rfl | rfl
          · exact Nat.ne_of_gt h1
          · exact Nat.ne_of_lt h2
          · exact Nat.ne_of_gt (Nat.lt_trans hT h1)
      · have := hlen
        simp [refsE] at this ⊢
        omega
      · intro q hq
        rcases List.mem_cons.mp hq with rfl | hq
        · exact NM _ (.inr (.inl rfl))
        · rcases List.mem_cons.mp hq with rfl | hq
          · exact NM _ (.inr (.inr (.inr (.head _))))
          · rcases List.mem_cons.mp hq with rfl | hq
            · exact NM _ (.inr (.inr (.inl rfl)))
            · rcases List.mem_append.mp hq with hq | hq
              · exact NM _ (.inl hq)
              · exact NM _ (.inr (.inr (.inr (.tail _ hq))))
      · rintro h' (⟨hv, e2, te, tf, c1, ⟨l1, l2, l3⟩, N'⟩ | ⟨hv, tf, N'⟩)
        · have hIe := allLt_mem l3 _ (List.mem_append_left _ hIown)
          refine ⟨(D, PySem.W.listOf (refsE (⟨e2, (v i, 1), te, tf⟩ :: e :: r : List Ent).reverse).toArray c1) :: (Ta, oT) :: ledE (⟨e2, (v i, 1), te, tf⟩ :: e :: r), ?_, ?_, ⟨_, c1, rfl, ?_, ?_, ?_, ?_, .inr (by simp)⟩⟩
          · intro q hq
            rw [refsE_rev, refsE_rev] at hq
            rcases List.mem_append.mp hq with hq | hq
            · exact N' q (.tail _ (.tail _ (.tail _ (.tail _ (List.mem_append_left _ hq)))))
            · rcases List.mem_cons.mp hq with rfl | hq
              · exact N' _ (.tail _ (.head _))
              · rcases List.mem_cons.mp hq with rfl | hq
                · exact N' _ (.tail _ (.tail _ (.tail _ (.head _))))
                · rcases List.mem_cons.mp hq with rfl | hq
                  · exact N' _ (.head _)
                  · rcases List.mem_cons.mp hq with rfl | hq
                    · exact N' _ (.tail _ (.tail _ (.head _)))
                    · exact N' q (.tail _ (.tail _ (.tail _ (.tail _ (List.mem_append_right _ hq)))))
          · intro q hq
            rcases List.mem_cons.mp hq with rfl | hq
            · exact hDI
            · rcases List.mem_cons.mp hq with rfl | hq
              · exact hTI
              · rcases List.mem_cons.mp hq with rfl | hq
                · exact Nat.ne_of_gt hIe
                · rcases List.mem_cons.mp hq with rfl | hq
                  · exact heI
                  · obtain ⟨f, hf, rfl⟩ := mem_ledE hq
                    exact hrI f hf
          · show (v i, (1 : Int)) :: (e :: r).map Ent.p = bump (if (v i != p i) = true then (v i, 0) :: runsN v p i else runsN v p i)
            rw [if_pos hv, hes]
            rfl
          · intro f hf
            rcases List.mem_cons.mp hf with rfl | hf
            · exact l1
            · exact hDe f hf
          · refine List.pairwise_cons.mpr ⟨fun f hf => ?_, hpw⟩
            rcases List.mem_cons.mp hf with rfl | hf
            · exact l2
            · exact Nat.lt_trans (hpw'.1 f hf) l2
          · simpa using hlen
        · refine ⟨(D, PySem.W.listOf (refsE (⟨e.a, (e.p.1, e.p.2 + 1), e.t, tf⟩ :: r : List Ent).reverse).toArray c) :: (Ta, oT) :: ledE (⟨e.a, (e.p.1, e.p.2 + 1), e.t, tf⟩ :: r), ?_, ?_, ⟨_, c, rfl, ?_, ?_, ?_, ?_, .inr (by simp)⟩⟩
          · intro q hq
            rw [refsE_rev] at hq
            rcases List.mem_append.mp hq with hq | hq
            · exact N' q (.tail _ (.tail _ (.tail _ (List.mem_append_left _ hq))))
            · rcases List.mem_cons.mp hq with rfl | hq
              · exact N' _ (.head _)
              · rcases List.mem_cons.mp hq with rfl | hq
                · exact N' _ (.tail _ (.tail _ (.head _)))
                · rcases List.mem_cons.mp hq with rfl | hq
                  · exact N' _ (.tail _ (.head _))
                  · exact N' q (.tail _ (.tail _ (.tail _ (List.mem_append_right _ hq))))
          · intro q hq
            rcases List.mem_cons.mp hq with rfl | hq
            · exact hDI
            · rcases List.mem_cons.mp hq with rfl | hq
              · exact hTI
              · rcases List.mem_cons.mp hq with rfl | hq
                · exact heI
                · obtain ⟨f, hf, rfl⟩ := mem_ledE hq
                  exact hrI f hf
          · show bump ((e :: r).map Ent.p) = bump (if (v i != p i) = true then (v i, 0) :: runsN v p i else runsN v p i)
            rw [if_neg (by rw [hv]; decide), hes]
          · intro f hf
            rcases List.mem_cons.mp hf with rfl | hf
            · exact hDd
            · exact hDe f (.tail _ hf)
          · exact List.pairwise_cons.mpr ⟨hpw'.1, hpw'.2⟩
          · exact Nat.le_succ_of_le (by simpa using hlen)
  · rintro h' tk m' led F' N' _ ⟨hm, ⟨es, c, rfl, hes, _, _, _, _⟩⟩
    have em : (fun y => if y = x then m' y else m₀ y) = m' := by
      funext y
      by_cases hy : y = x
      · rw [if_pos hy]
      · rw [if_neg hy, hm y hy]
    refine done m' h' tk es.reverse c (by rw [List.map_reverse, hes]) (by rw [em]; exact F') fun q hq => ?_
    rcases List.mem_cons.mp hq with rfl | hq
    · exact N' _ (.head _)
    · obtain ⟨e, he, rfl⟩ := mem_ledE hq
      exact N' _ (.tail _ (.tail _ (List.mem_map.mpr ⟨e, List.mem_reverse.mp he, rfl⟩)))
end
end Mine
end
section
set_option maxHeartbeats 0
namespace Mine
def topBody : List Stmt := PySem.Challenge.rw_xm0034_02.row.prog.main.body
def topView : Program := { PySem.Challenge.rw_xm0034_02.row.prog with main := { PySem.Challenge.rw_xm0034_02.row.prog.main with body := (topBody.drop 1).take 9 ++ ((topBody.drop 11).take 11 ++ ((topBody.drop 23).take 10 ++ topBody.drop 34)) } }
local macro_rules | `(tactic| o_head $H) => `(tactic| (refine holds_open (q := topView) (loose := [Str.ofString "BasicError"]) (Xt := fun s => xlAt topView [] s && recOk (RowW.records (OpenRow.toRowW PySem.Challenge.rw_xm0034_02.row)) s) (XP := XL topView []) (Yf := Hook.obs $H) (Ya := Hook.val $H) (YP := Hook.says $H) (N := 2906) ?hl (Hook.of $H) (Hook.keeps $H) (fun s e => xl_of s (Bool.and_eq_true_iff.mp e).1) XL.keeps (by rfl) (by rfl) (by rfl) (fun s e => recFacts_of (Bool.and_eq_true_iff.mp e).2) (by rfl) (by first | assumption | decide +kernel) (by decide +kernel) ⟨rfl, rfl, rfl, rfl, rfl, by decide +kernel⟩ ?hw ?hc; (case hl => (intro w; kernel_rfl))))
open_top Hd02 for PySem.Challenge.rw_xm0034_02
end Mine
end
open Mine
section
namespace Mine
theorem add_xor : ∀ (m n : Nat), m + n = (m ^^^ n) + 2 * (m &&& n) := by
  intro m
  induction m using Nat.strongRecOn with
  | _ m ih =>
    intro n
    by_cases hm : m = 0
    · subst hm; simp
    · have e := ih (m / 2) (by omega) (n / 2)
      have h1 : (m ^^^ n) / 2 = m / 2 ^^^ n / 2 := Nat.xor_div_two
      have h2 : (m &&& n) / 2 = m / 2 &&& n / 2 := Nat.and_div_two
      have h3 := Nat.testBit_xor m n 0
      have h4 := Nat.testBit_and m n 0
      simp only [Nat.testBit_zero] at h3 h4
      rw [← h1, ← h2] at e
      generalize m ^^^ n = p at *
      generalize m &&& n = q at *
      clear h1 h2 ih
      rcases Nat.mod_two_eq_zero_or_one m with a | a <;> rcases Nat.mod_two_eq_zero_or_one n with b | b <;> rw [a, b] at h3 h4 <;> simp at h3 h4 <;> omega
theorem natAbs_and (a b : Nat) : Builtin.bitAnd (a : Int) (b : Int) = ((a &&& b : Nat) : Int) := by rfl
theorem natAbs_xor (a b : Nat) : Builtin.bitXor (a : Int) (b : Int) = ((a ^^^ b : Nat) : Int) := by
  rw [PyProof.Rows.bitXor_and, natAbs_and]
  have := add_xor a b
  omega
theorem and_facts {a b : Int} (ha : 0 ≤ a) (hb : 0 ≤ b) : 0 ≤ Builtin.bitAnd a b ∧ Builtin.bitAnd a b ≤ a ∧ Builtin.bitAnd a b ≤ b := by
  obtain ⟨m, rfl⟩ := Int.eq_ofNat_of_zero_le ha
  obtain ⟨n, rfl⟩ := Int.eq_ofNat_of_zero_le hb
  rw [natAbs_and]
  have h1 := @Nat.and_le_left m n
  have h2 := @Nat.and_le_right m n
  omega
theorem xor_lt {a b : Int} (k : Nat) (ha : 0 ≤ a) (hb : 0 ≤ b) (h1 : a < (2 ^ k : Nat)) (h2 : b < (2 ^ k : Nat)) : 0 ≤ Builtin.bitXor a b ∧ Builtin.bitXor a b < (2 ^ k : Nat) := by
  obtain ⟨m, rfl⟩ := Int.eq_ofNat_of_zero_le ha
  obtain ⟨n, rfl⟩ := Int.eq_ofNat_of_zero_le hb
  rw [natAbs_xor]
  have := @Nat.xor_lt_two_pow m n k (by omega) (by omega)
  omega
theorem xor_facts {a b : Int} (ha : 0 ≤ a ∧ a < 32768) (hb : 0 ≤ b ∧ b < 32768) : 0 ≤ Builtin.bitXor a b ∧ Builtin.bitXor a b < 32768 ∧ (a < 8 → b < 8 → Builtin.bitXor a b < 8) ∧ (a < 128 → b < 128 → Builtin.bitXor a b < 128) := by
  have h := xor_lt 15 ha.1 hb.1 ha.2 hb.2
  exact ⟨h.1, h.2, fun x y => (xor_lt 3 ha.1 hb.1 x y).2, fun x y => (xor_lt 7 ha.1 hb.1 x y).2⟩
end Mine
local macro_rules | `(tactic| k_room) => `(tactic| ktr_room)
namespace Mine

def Says (w : World) (p : Program) (loose : List PySem.Str) (mean : ExcName → Option Value) (mg mb : PySem.Str → Option Value) (k : Nat) (f : Addr) (vs : List Value) (pre post : Prop) (R : Tok → Value) : Prop :=
  ∀ (dp un : Nat) (gd : Option (List Code)) (cn : PySem.Str) (cs : Scope) (a : Addr) (ccd : Value) (cl : List (PySem.Str × Addr)) (outer : List Env) (A₀ : Around) (base h₀ : Heap) (L : Addr) (m : PySem.Str → Option Value) (news : List (Addr × Obj)) (s : Shared) (Q E : Value → Shared → Prop),
    Below A₀ base outer h₀ → Fr h₀ L s.heap m → (Hd02.heap_39 w.params).In h₀ → News h₀ L s.heap news → Top p loose mean mg mb h₀ → cs.kind = .function → pre → dp + k < recursionLimit → un + 10 * k < cLine → (post → CbRet h₀ L m news s Q R) →
      wpAny (model PySem.Challenge.rw_xm0034_02.row.prog w) (ktrTop dp un gd cn cs L a ccd cl outer) (call (.ref f) vs) Q E s
theorem says_use {w : World} {p : Program} {loose : List PySem.Str} {mean : ExcName → Option Value} {mg mb : PySem.Str → Option Value} {k : Nat} {f : Addr} {vs : List Value} {pre post : Prop} {R : Tok → Value}
    {dp un : Nat} {gd : Option (List Code)} {cn : PySem.Str} {cs : Scope} {a : Addr} {ccd : Value} {cl : List (PySem.Str × Addr)} {outer : List Env} {A₀ : Around} {base h₀ : Heap} {L : Addr} {m : PySem.Str → Option Value} {news : List (Addr × Obj)} {s : Shared} {Q E : Value → Shared → Prop}
    (C : Says w p loose mean mg mb k f vs pre post R) (B : Below A₀ base outer h₀) (F : Fr h₀ L s.heap m) (X : (Hd02.heap_39 w.params).In h₀) (N : News h₀ L s.heap news) (T : Top p loose mean mg mb h₀) (hk : cs.kind = .function) (hp : pre) (hd : dp + k < recursionLimit) (hu : un + 10 * k < cLine)
    (ret : post → ∀ (t : Tok) (h' : Heap) (tk' : Nat), Fr h₀ L h' m → News h₀ L h' news → Q (R t) { s with heap := h', toks := tk' }) :
    wpAny (model PySem.Challenge.rw_xm0034_02.row.prog w) (ktrTop dp un gd cn cs L a ccd cl outer) (call (.ref f) vs) Q E s :=
  C _ _ _ _ _ _ _ _ _ _ _ _ _ _ _ _ _ _ B F X N T hk hp hd hu ret

theorem fits_says (w : World) (p : Program) (loose : List PySem.Str) (mean : ExcName → Option Value) (mg mb : PySem.Str → Option Value) (x : Int) (t1 t2 : Tok) :
    Says w p loose mean mg mb 2 72 [.int x t1, .int 16 t2] (-32768 ≤ x ∧ x < 32768) (True) (fun _ => .bool true) := by
  unfold Says
  k_fill
  intro dp un gd cn cs a ccd cl outer A₀ base h₀ L m news s Q E hB hF hX hN hT hk hp hd hu hret0
  have hret := hret0 (trivial)
  clear hret0
  dsimp only [CbRet] at hret
  
  refine wpAny_call ?_
  k_dflt cell_enter
  k_steps
  all_goals cb_end hret
local macro_rules | `(tactic| walk_at "call ref") => `(tactic| (k_here; (with_reducible show wpAny _ _ (call (Value.ref 72) [_, _]) _ _ _); k_dflt (refine' says_use (fits_says _ _ _ _ _ _ _ _ _) ?k1 ?k2 ?k3 ?k4 ?k5 ?kK ?kp ?kd ?ku ?_; (case k1 => k_asm); (case k2 => k_asm); (case k3 => k_asm); (case k4 => k_asm); (case k5 => k_asm); (case kK => first | exact rfl | assumption); (case kp => first | exact True.intro | k_extra "pre" | ((try dsimp only); first | assumption | omega | l_fact)); (case kd => ktr_room); (case ku => ktr_units); intro p9 t9 h9 tk9 F9 N9; (try dsimp only); (try k_fold))))

theorem whole_says (w : World) (p : Program) (loose : List PySem.Str) (mean : ExcName → Option Value) (mg mb : PySem.Str → Option Value) (x : Int) (t1 t2 : Tok) :
    Says w p loose mean mg mb 4 79 [.int x t1, .int 16 t2] (-32768 ≤ x ∧ x < 32768) (True) (fun t => .int x t) := by
  unfold Says
  k_fill
  intro dp un gd cn cs a ccd cl outer A₀ base h₀ L m news s Q E hB hF hX hN hT hk hp hd hu hret0
  have hret := hret0 (trivial)
  clear hret0
  dsimp only [CbRet] at hret
  
  refine wpAny_call ?_
  k_dflt cell_enter
  k_steps
  all_goals cb_end hret
local macro_rules | `(tactic| walk_at "call ref") => `(tactic| (k_here; (with_reducible show wpAny _ _ (call (Value.ref 79) [_, _]) _ _ _); k_dflt (refine' says_use (whole_says _ _ _ _ _ _ _ _ _) ?k1 ?k2 ?k3 ?k4 ?k5 ?kK ?kp ?kd ?ku ?_; (case k1 => k_asm); (case k2 => k_asm); (case k3 => k_asm); (case k4 => k_asm); (case k5 => k_asm); (case kK => first | exact rfl | assumption); (case kp => first | exact True.intro | k_extra "pre" | ((try dsimp only); first | assumption | omega | l_fact)); (case kd => ktr_room); (case ku => ktr_units); intro p9 t9 h9 tk9 F9 N9; (try dsimp only); (try k_fold))))

theorem and_says (w : World) (p : Program) (loose : List PySem.Str) (mean : ExcName → Option Value) (mg mb : PySem.Str → Option Value) (x y : Int) (t1 t2 t3 t4 : Tok) :
    Says w p loose mean mg mb 6 220 [.str (Str.ofString "AND") t1, .int x t2, .int y t3, .int 16 t4] ((0 ≤ x ∧ x < 32768) ∧ 0 ≤ y ∧ y < 32768) (0 ≤ Builtin.bitAnd x y ∧ Builtin.bitAnd x y ≤ x ∧ Builtin.bitAnd x y ≤ y) (fun t => .int (Builtin.bitAnd x y) t) := by
  unfold Says
  k_fill
  intro dp un gd cn cs a ccd cl outer A₀ base h₀ L m news s Q E hB hF hX hN hT hk hp hd hu hret0
  have hret := hret0 (and_facts hp.1.1 hp.2.1)
  clear hret0
  dsimp only [CbRet] at hret
  
  refine wpAny_call ?_
  k_dflt cell_enter
  k_steps
  all_goals cb_end hret
local macro_rules | `(tactic| walk_at "call ref") => `(tactic| (k_here; (with_reducible show wpAny _ _ (call (Value.ref 220) [.str (Str.ofString "AND") _, _, _, _]) _ _ _); k_dflt (refine' says_use (and_says _ _ _ _ _ _ _ _ _ _ _ _) ?k1 ?k2 ?k3 ?k4 ?k5 ?kK ?kp ?kd ?ku ?_; (case k1 => k_asm); (case k2 => k_asm); (case k3 => k_asm); (case k4 => k_asm); (case k5 => k_asm); (case kK => first | exact rfl | assumption); (case kp => first | exact True.intro | k_extra "pre" | ((try dsimp only); first | assumption | omega | l_fact)); (case kd => ktr_room); (case ku => ktr_units); intro p9 t9 h9 tk9 F9 N9; (try dsimp only); (try k_fold))))

theorem xor_says (w : World) (p : Program) (loose : List PySem.Str) (mean : ExcName → Option Value) (mg mb : PySem.Str → Option Value) (x y : Int) (t1 t2 t3 t4 : Tok) :
    Says w p loose mean mg mb 6 220 [.str (Str.ofString "XOR") t1, .int x t2, .int y t3, .int 16 t4] ((0 ≤ x ∧ x < 32768) ∧ 0 ≤ y ∧ y < 32768) (0 ≤ Builtin.bitXor x y ∧ Builtin.bitXor x y < 32768 ∧ (x < 8 → y < 8 → Builtin.bitXor x y < 8) ∧ (x < 128 → y < 128 → Builtin.bitXor x y < 128)) (fun t => .int (Builtin.bitXor x y) t) := by
  unfold Says
  k_fill
  intro dp un gd cn cs a ccd cl outer A₀ base h₀ L m news s Q E hB hF hX hN hT hk hp hd hu hret0
  have hret := hret0 (xor_facts hp.1 hp.2)
  clear hret0
  dsimp only [CbRet] at hret
  
  refine wpAny_call ?_
  k_dflt cell_enter
  k_steps
  all_goals cb_end hret
local macro_rules | `(tactic| walk_at "call ref") => `(tactic| (k_here; (with_reducible show wpAny _ _ (call (Value.ref 220) [.str (Str.ofString "XOR") _, _, _, _]) _ _ _); k_dflt (refine' says_use (xor_says _ _ _ _ _ _ _ _ _ _ _ _) ?k1 ?k2 ?k3 ?k4 ?k5 ?kK ?kp ?kd ?ku ?_; (case k1 => k_asm); (case k2 => k_asm); (case k3 => k_asm); (case k4 => k_asm); (case k5 => k_asm); (case kK => first | exact rfl | assumption); (case kp => first | exact True.intro | k_extra "pre" | ((try dsimp only); first | assumption | omega | l_fact)); (case kd => ktr_room); (case ku => ktr_units); intro p9 t9 h9 tk9 F9 N9; (try dsimp only); (try k_fold))))

theorem is_whole_says (w : World) (p : Program) (loose : List PySem.Str) (mean : ExcName → Option Value) (mg mb : PySem.Str → Option Value) (x : Int) (t1 : Tok) :
    Says w p loose mean mg mb 2 157 [.int x t1] (True) (True) (fun _ => .bool true) := by
  unfold Says
  k_fill
  intro dp un gd cn cs a ccd cl outer A₀ base h₀ L m news s Q E hB hF hX hN hT hk hp hd hu hret0
  have hret := hret0 (trivial)
  clear hret0
  dsimp only [CbRet] at hret
  
  refine wpAny_call ?_
  k_dflt cell_enter
  k_steps
  all_goals cb_end hret
local macro_rules | `(tactic| walk_at "call ref") => `(tactic| (k_here; (with_reducible show wpAny _ _ (call (Value.ref 157) [_]) _ _ _); k_dflt (refine' says_use (is_whole_says _ _ _ _ _ _ _ _) ?k1 ?k2 ?k3 ?k4 ?k5 ?kK ?kp ?kd ?ku ?_; (case k1 => k_asm); (case k2 => k_asm); (case k3 => k_asm); (case k4 => k_asm); (case k5 => k_asm); (case kK => first | exact rfl | assumption); (case kp => first | exact True.intro | k_extra "pre" | ((try dsimp only); first | assumption | omega | l_fact)); (case kd => ktr_room); (case ku => ktr_units); intro p9 t9 h9 tk9 F9 N9; (try dsimp only); (try k_fold))))

theorem settled_says (w : World) (p : Program) (loose : List PySem.Str) (mean : ExcName → Option Value) (mg mb : PySem.Str → Option Value) (x : Int) (t1 t2 t3 : Tok) :
    Says w p loose mean mg mb 4 164 [.int x t1, .int 16 t2, .int 9 t3] (-32768 ≤ x ∧ x < 32768) (True) (fun t => .int x t) := by
  unfold Says
  k_fill
  intro dp un gd cn cs a ccd cl outer A₀ base h₀ L m news s Q E hB hF hX hN hT hk hp hd hu hret0
  have hret := hret0 (trivial)
  clear hret0
  dsimp only [CbRet] at hret
  
  refine wpAny_call ?_
  k_dflt cell_enter
  k_steps
  all_goals cb_end hret
local macro_rules | `(tactic| walk_at "call ref") => `(tactic| (k_here; (with_reducible show wpAny _ _ (call (Value.ref 164) [_, _, _]) _ _ _); k_dflt (refine' says_use (settled_says _ _ _ _ _ _ _ _ _ _) ?k1 ?k2 ?k3 ?k4 ?k5 ?kK ?kp ?kd ?ku ?_; (case k1 => k_asm); (case k2 => k_asm); (case k3 => k_asm); (case k4 => k_asm); (case k5 => k_asm); (case kK => first | exact rfl | assumption); (case kp => first | exact True.intro | k_extra "pre" | ((try dsimp only); first | assumption | omega | l_fact)); (case kd => ktr_room); (case ku => ktr_units); intro p9 t9 h9 tk9 F9 N9; (try dsimp only); (try k_fold))))

theorem mul_says (w : World) (p : Program) (loose : List PySem.Str) (mean : ExcName → Option Value) (mg mb : PySem.Str → Option Value) (x y : Int) (t1 t2 t3 t4 t5 : Tok) :
    Says w p loose mean mg mb 8 213 [.str (Str.ofString "*") t1, .int x t2, .int y t3, .int 16 t4, .int 9 t5] ((0 ≤ x ∧ x ≤ 16) ∧ 0 ≤ y ∧ y < 2048 ∧ 0 ≤ x * y ∧ x * y < 32768) (True) (fun t => .int (x * y) t) := by
  unfold Says
  k_fill
  intro dp un gd cn cs a ccd cl outer A₀ base h₀ L m news s Q E hB hF hX hN hT hk hp hd hu hret0
  have hret := hret0 (trivial)
  clear hret0
  dsimp only [CbRet] at hret
  
  refine wpAny_call ?_
  k_dflt cell_enter
  k_steps
  all_goals cb_end hret
local macro_rules | `(tactic| walk_at "call ref") => `(tactic| (k_here; (with_reducible show wpAny _ _ (call (Value.ref 213) [.str (Str.ofString "*") _, _, _, _, _]) _ _ _); k_dflt (refine' says_use (mul_says _ _ _ _ _ _ _ _ _ _ _ _ _) ?k1 ?k2 ?k3 ?k4 ?k5 ?kK ?kp ?kd ?ku ?_; (case k1 => k_asm); (case k2 => k_asm); (case k3 => k_asm); (case k4 => k_asm); (case k5 => k_asm); (case kK => first | exact rfl | assumption); (case kp => first | exact True.intro | k_extra "pre" | ((try dsimp only); first | assumption | omega | l_fact)); (case kd => ktr_room); (case ku => ktr_units); intro p9 t9 h9 tk9 F9 N9; (try dsimp only); (try k_fold))))
theorem quot_facts {x : Int} (h : 0 ≤ x) : 0 ≤ x.fdiv 2 ∧ x.fdiv 2 ≤ x := by
  rw [Int.fdiv_eq_ediv_of_nonneg _ (by decide)]
  omega
end Mine
end
section
local macro_rules | `(tactic| k_room) => `(tactic| ktr_room)
namespace Mine
local macro_rules | `(tactic| walk_at "call ref") => `(tactic| (k_here; (with_reducible show wpAny _ _ (call (Value.ref 72) [_, _]) _ _ _); k_dflt (refine' says_use (fits_says _ _ _ _ _ _ _ _ _) ?k1 ?k2 ?k3 ?k4 ?k5 ?kK ?kp ?kd ?ku ?_; (case k1 => k_asm); (case k2 => k_asm); (case k3 => k_asm); (case k4 => k_asm); (case k5 => k_asm); (case kK => first | exact rfl | assumption); (case kp => first | exact True.intro | k_extra "pre" | ((try dsimp only); first | assumption | omega | l_fact)); (case kd => ktr_room); (case ku => ktr_units); intro p9 t9 h9 tk9 F9 N9; (try dsimp only); (try k_fold))))
local macro_rules | `(tactic| walk_at "call ref") => `(tactic| (k_here; (with_reducible show wpAny _ _ (call (Value.ref 79) [_, _]) _ _ _); k_dflt (refine' says_use (whole_says _ _ _ _ _ _ _ _ _) ?k1 ?k2 ?k3 ?k4 ?k5 ?kK ?kp ?kd ?ku ?_; (case k1 => k_asm); (case k2 => k_asm); (case k3 => k_asm); (case k4 => k_asm); (case k5 => k_asm); (case kK => first | exact rfl | assumption); (case kp => first | exact True.intro | k_extra "pre" | ((try dsimp only); first | assumption | omega | l_fact)); (case kd => ktr_room); (case ku => ktr_units); intro p9 t9 h9 tk9 F9 N9; (try dsimp only); (try k_fold))))
local macro_rules | `(tactic| walk_at "call ref") => `(tactic| (k_here; (with_reducible show wpAny _ _ (call (Value.ref 220) [.str (Str.ofString "AND") _, _, _, _]) _ _ _); k_dflt (refine' says_use (and_says _ _ _ _ _ _ _ _ _ _ _ _) ?k1 ?k2 ?k3 ?k4 ?k5 ?kK ?kp ?kd ?ku ?_; (case k1 => k_asm); (case k2 => k_asm); (case k3 => k_asm); (case k4 => k_asm); (case k5 => k_asm); (case kK => first | exact rfl | assumption); (case kp => first | exact True.intro | k_extra "pre" | ((try dsimp only); first | assumption | omega | l_fact)); (case kd => ktr_room); (case ku => ktr_units); intro p9 t9 h9 tk9 F9 N9; (try dsimp only); (try k_fold))))
local macro_rules | `(tactic| walk_at "call ref") => `(tactic| (k_here; (with_reducible show wpAny _ _ (call (Value.ref 220) [.str (Str.ofString "XOR") _, _, _, _]) _ _ _); k_dflt (refine' says_use (xor_says _ _ _ _ _ _ _ _ _ _ _ _) ?k1 ?k2 ?k3 ?k4 ?k5 ?kK ?kp ?kd ?ku ?_; (case k1 => k_asm); (case k2 => k_asm); (case k3 => k_asm); (case k4 => k_asm); (case k5 => k_asm); (case kK => first | exact rfl | assumption); (case kp => first | exact True.intro | k_extra "pre" | ((try dsimp only); first | assumption | omega | l_fact)); (case kd => ktr_room); (case ku => ktr_units); intro p9 t9 h9 tk9 F9 N9; (try dsimp only); (try k_fold))))
local macro_rules | `(tactic| walk_at "call ref") => `(tactic| (k_here; (with_reducible show wpAny _ _ (call (Value.ref 157) [_]) _ _ _); k_dflt (refine' says_use (is_whole_says _ _ _ _ _ _ _ _) ?k1 ?k2 ?k3 ?k4 ?k5 ?kK ?kp ?kd ?ku ?_; (case k1 => k_asm); (case k2 => k_asm); (case k3 => k_asm); (case k4 => k_asm); (case k5 => k_asm); (case kK => first | exact rfl | assumption); (case kp => first | exact True.intro | k_extra "pre" | ((try dsimp only); first | assumption | omega | l_fact)); (case kd => ktr_room); (case ku => ktr_units); intro p9 t9 h9 tk9 F9 N9; (try dsimp only); (try k_fold))))
local macro_rules | `(tactic| walk_at "call ref") => `(tactic| (k_here; (with_reducible show wpAny _ _ (call (Value.ref 164) [_, _, _]) _ _ _); k_dflt (refine' says_use (settled_says _ _ _ _ _ _ _ _ _ _) ?k1 ?k2 ?k3 ?k4 ?k5 ?kK ?kp ?kd ?ku ?_; (case k1 => k_asm); (case k2 => k_asm); (case k3 => k_asm); (case k4 => k_asm); (case k5 => k_asm); (case kK => first | exact rfl | assumption); (case kp => first | exact True.intro | k_extra "pre" | ((try dsimp only); first | assumption | omega | l_fact)); (case kd => ktr_room); (case ku => ktr_units); intro p9 t9 h9 tk9 F9 N9; (try dsimp only); (try k_fold))))
local macro_rules | `(tactic| walk_at "call ref") => `(tactic| (k_here; (with_reducible show wpAny _ _ (call (Value.ref 213) [.str (Str.ofString "*") _, _, _, _, _]) _ _ _); k_dflt (refine' says_use (mul_says _ _ _ _ _ _ _ _ _ _ _ _ _) ?k1 ?k2 ?k3 ?k4 ?k5 ?kK ?kp ?kd ?ku ?_; (case k1 => k_asm); (case k2 => k_asm); (case k3 => k_asm); (case k4 => k_asm); (case k5 => k_asm); (case kK => first | exact rfl | assumption); (case kp => first | exact True.intro | k_extra "pre" | ((try dsimp only); first | assumption | omega | l_fact)); (case kd => ktr_room); (case ku => ktr_units); intro p9 t9 h9 tk9 F9 N9; (try dsimp only); (try k_fold))))
local macro_rules | `(tactic| walk_at "call ref") => `(tactic| (k_here; (with_reducible show wpAny _ _ (call (Value.ref 213) [.str (Str.ofString "\\") _, _, _, _, _]) _ _ _); k_dflt (refine' says_use (quot_says _ _ _ _ _ _ _ _ _ _ _ _) ?k1 ?k2 ?k3 ?k4 ?k5 ?kK ?kp ?kd ?ku ?_; (case k1 => k_asm); (case k2 => k_asm); (case k3 => k_asm); (case k4 => k_asm); (case k5 => k_asm); (case kK => first | exact rfl | assumption); (case kp => first | exact True.intro | k_extra "pre" | ((try dsimp only); first | assumption | omega | l_fact)); (case kd => ktr_room); (case ku => ktr_units); intro p9 t9 h9 tk9 F9 N9; (try dsimp only); (try k_fold))))
local macro_rules | `(tactic| walk_at "call ref") => `(tactic| (k_here; (with_reducible show wpAny _ _ (call (Value.ref 234) [_, _]) _ _ _); k_dflt (refine' says_use (is_one_says _ _ _ _ _ _ _ _ _ _) ?k1 ?k2 ?k3 ?k4 ?k5 ?kK ?kp ?kd ?ku ?_; (case k1 => k_asm); (case k2 => k_asm); (case k3 => k_asm); (case k4 => k_asm); (case k5 => k_asm); (case kK => first | exact rfl | assumption); (case kp => first | exact True.intro | k_extra "pre" | ((try dsimp only); first | assumption | omega | l_fact)); (case kd => ktr_room); (case ku => ktr_units); intro p9 t9 h9 tk9 F9 N9; (try dsimp only); (try k_fold))))
local macro_rules | `(tactic| walk_at "call ref") => `(tactic| (k_here; (with_reducible show wpAny _ _ (call (Value.ref 241) [_, _]) _ _ _); k_dflt (refine' says_use (next_says _ _ _ _ _ _ _ _ _ _) ?k1 ?k2 ?k3 ?k4 ?k5 ?kK ?kp ?kd ?ku ?_; (case k1 => k_asm); (case k2 => k_asm); (case k3 => k_asm); (case k4 => k_asm); (case k5 => k_asm); (case kK => first | exact rfl | assumption); (case kp => first | exact True.intro | k_extra "pre" | ((try dsimp only); first | assumption | omega | l_fact)); (case kd => ktr_room); (case ku => ktr_units); intro p9 t9 h9 tk9 F9 N9; (try dsimp only); (try k_fold))))
local macro_rules | `(tactic| walk_at "call ref") => `(tactic| (k_here; (with_reducible show wpAny _ _ (call (Value.ref 248) [_, _]) _ _ _); k_dflt (refine' says_use (back_says _ _ _ _ _ _ _ _ _ _) ?k1 ?k2 ?k3 ?k4 ?k5 ?kK ?kp ?kd ?ku ?_; (case k1 => k_asm); (case k2 => k_asm); (case k3 => k_asm); (case k4 => k_asm); (case k5 => k_asm); (case kK => first | exact rfl | assumption); (case kp => first | exact True.intro | k_extra "pre" | ((try dsimp only); first | assumption | omega | l_fact)); (case kd => ktr_room); (case ku => ktr_units); intro p9 t9 h9 tk9 F9 N9; (try dsimp only); (try k_fold))))
local macro_rules | `(tactic| walk_at "call ref") => `(tactic| (k_here; (with_reducible show wpAny _ _ (call (Value.ref 255) [_]) _ _ _); k_dflt (refine' says_use (turned_says _ _ _ _ _ _ _ _) ?k1 ?k2 ?k3 ?k4 ?k5 ?kK ?kp ?kd ?ku ?_; (case k1 => k_asm); (case k2 => k_asm); (case k3 => k_asm); (case k4 => k_asm); (case k5 => k_asm); (case kK => first | exact rfl | assumption); (case kp => first | exact True.intro | k_extra "pre" | ((try dsimp only); first | assumption | omega | l_fact)); (case kd => ktr_room); (case ku => ktr_units); intro p9 t9 h9 tk9 F9 N9; (try dsimp only); (try k_fold))))

@[irreducible] def isOneB (bits mask : Int) : Bool := Builtin.bitAnd bits mask != 0
@[irreducible] def nextF (bits other : Int) : Int := Builtin.bitAnd (2 * bits) 15 + (if (isOneB bits 8 != isOneB bits other) = true then 1 else 0)
def quotF (x : Int) : Int := x.fdiv 2
def backF (bits other : Int) : Int := quotF bits + (if (isOneB bits 1 != isOneB bits (2 * other)) = true then 8 else 0)
def turnedF (row : Int) : Int := quotF row + 16384 * Builtin.bitAnd row 1
def onesF (row : Int) : Int := ([0, 1, 2, 3, 4, 5, 6, 7, 8, 9, 10, 11, 12, 13, 14].map fun (k : Nat) => Int.fmod (Int.fdiv row (2 ^ k)) 2).sum

theorem quot_is {x : Int} (h : 0 ≤ x) : (if x < 0 then -x else x).fdiv (if (2 : Int) < 0 then -2 else 2) = quotF x := by
  rw [if_neg (by omega), if_neg (by decide)]
  rfl
theorem quot_no {x : Int} (h : 0 ≤ x) (a : (decide (x < 0) == decide ((2 : Int) < 0)) = false) : False := by
  rw [decide_eq_false (by omega : ¬ x < 0)] at a
  cases a
theorem quot_pre1 {x : Int} (h : 0 ≤ x ∧ x < 32768) : -32768 ≤ (if x < 0 then -x else x).fdiv (if (2 : Int) < 0 then -2 else 2) ∧ (if x < 0 then -x else x).fdiv (if (2 : Int) < 0 then -2 else 2) < 32768 := by
  rw [quot_is h.1]
  have := quot_facts h.1
  unfold quotF
  omega
theorem quot_pre2 {x : Int} (h : 0 ≤ x ∧ x < 32768) : -32768 ≤ 0 - (if x < 0 then -x else x).fdiv (if (2 : Int) < 0 then -2 else 2) ∧ 0 - (if x < 0 then -x else x).fdiv (if (2 : Int) < 0 then -2 else 2) < 32768 := by
  rw [quot_is h.1]
  have := quot_facts h.1
  unfold quotF
  omega

theorem next_facts {x o : Int} (h : 0 ≤ x ∧ x < 16) : 0 ≤ nextF x o ∧ nextF x o < 32768 := by
  have a := and_facts (a := 2 * x) (b := 15) (by omega) (by decide)
  unfold nextF
  split <;> omega
theorem turned_facts {x : Int} (h : 0 ≤ x ∧ x < 32768) : 0 ≤ turnedF x ∧ turnedF x < 32768 := by
  have a := and_facts (a := x) (b := 1) h.1 (by decide)
  have b : (quotF x) ≤ 16383 := by
    unfold quotF
    rw [Int.fdiv_eq_ediv_of_nonneg _ (by decide)]
    omega
  have c := (quot_facts h.1).1
  unfold turnedF
  unfold quotF at *
  omega

theorem quot_says (w : World) (p : Program) (loose : List PySem.Str) (mean : ExcName → Option Value) (mg mb : PySem.Str → Option Value) (x : Int) (t1 t2 t3 t4 t5 : Tok) :
    Says w p loose mean mg mb 8 213 [.str (Str.ofString "\\") t1, .int x t2, .int 2 t3, .int 16 t4, .int 9 t5] (0 ≤ x ∧ x < 32768) (0 ≤ quotF x ∧ quotF x ≤ x) (fun t => .int (quotF x) t) := by
  unfold Says
  k_fill
  intro dp un gd cn cs a ccd cl outer A₀ base h₀ L m news s Q E hB hF hX hN hT hk hp hd hu hret0
  have hret := hret0 (quot_facts hp.1)
  clear hret0
  dsimp only [CbRet] at hret
  k_with "pre" => first | with_reducible exact quot_pre1 hp | with_reducible exact quot_pre2 hp
  k_with "tree" => first | exact (quot_is hp.1).symm | exact quot_is hp.1 | exact (quot_no hp.1 (by assumption)).elim
  refine wpAny_call ?_
  k_dflt cell_enter
  k_steps
  all_goals cb_end hret
  k_with_none
local macro_rules | `(tactic| walk_at "call ref") => `(tactic| (k_here; (with_reducible show wpAny _ _ (call (Value.ref 213) [.str (Str.ofString "\\") _, _, _, _, _]) _ _ _); k_dflt (refine' says_use (quot_says _ _ _ _ _ _ _ _ _ _ _ _) ?k1 ?k2 ?k3 ?k4 ?k5 ?kK ?kp ?kd ?ku ?_; (case k1 => k_asm); (case k2 => k_asm); (case k3 => k_asm); (case k4 => k_asm); (case k5 => k_asm); (case kK => first | exact rfl | assumption); (case kp => first | exact True.intro | k_extra "pre" | ((try dsimp only); first | assumption | omega | l_fact)); (case kd => ktr_room); (case ku => ktr_units); intro p9 t9 h9 tk9 F9 N9; (try dsimp only); (try k_fold))))

theorem is_one_says (w : World) (p : Program) (loose : List PySem.Str) (mean : ExcName → Option Value) (mg mb : PySem.Str → Option Value) (x y : Int) (t1 t2 : Tok) :
    Says w p loose mean mg mb 8 234 [.int x t1, .int y t2] ((0 ≤ x ∧ x < 32768) ∧ 0 ≤ y ∧ y < 32768) (True) (fun _ => .bool (isOneB x y)) := by
  unfold Says
  k_fill
  intro dp un gd cn cs a ccd cl outer A₀ base h₀ L m news s Q E hB hF hX hN hT hk hp hd hu hret0
  have hret := hret0 (trivial)
  clear hret0
  dsimp only [CbRet] at hret
  k_with "tree" => simp only [isOneB]
  refine wpAny_call ?_
  k_dflt cell_enter
  k_steps
  all_goals cb_end hret
  k_with_none
local macro_rules | `(tactic| walk_at "call ref") => `(tactic| (k_here; (with_reducible show wpAny _ _ (call (Value.ref 234) [_, _]) _ _ _); k_dflt (refine' says_use (is_one_says _ _ _ _ _ _ _ _ _ _) ?k1 ?k2 ?k3 ?k4 ?k5 ?kK ?kp ?kd ?ku ?_; (case k1 => k_asm); (case k2 => k_asm); (case k3 => k_asm); (case k4 => k_asm); (case k5 => k_asm); (case kK => first | exact rfl | assumption); (case kp => first | exact True.intro | k_extra "pre" | ((try dsimp only); first | assumption | omega | l_fact)); (case kd => ktr_room); (case ku => ktr_units); intro p9 t9 h9 tk9 F9 N9; (try dsimp only); (try k_fold))))

theorem next_says (w : World) (p : Program) (loose : List PySem.Str) (mean : ExcName → Option Value) (mg mb : PySem.Str → Option Value) (x o : Int) (t1 t2 : Tok) :
    Says w p loose mean mg mb 10 241 [.int x t1, .int o t2] ((0 ≤ x ∧ x < 16) ∧ 0 ≤ o ∧ o < 16) (0 ≤ nextF x o ∧ nextF x o < 32768) (fun t => .int (nextF x o) t) := by
  unfold Says
  k_fill
  intro dp un gd cn cs a ccd cl outer A₀ base h₀ L m news s Q E hB hF hX hN hT hk hp hd hu hret0
  have hret := hret0 (next_facts hp.1)
  clear hret0
  dsimp only [CbRet] at hret
  k_with "tree" => (unfold nextF; split <;> first | rfl | (exfalso; simp_all; done))
  refine wpAny_call ?_
  k_dflt cell_enter
  k_steps
  all_goals cb_end hret
  k_with_none
local macro_rules | `(tactic| walk_at "call ref") => `(tactic| (k_here; (with_reducible show wpAny _ _ (call (Value.ref 241) [_, _]) _ _ _); k_dflt (refine' says_use (next_says _ _ _ _ _ _ _ _ _ _) ?k1 ?k2 ?k3 ?k4 ?k5 ?kK ?kp ?kd ?ku ?_; (case k1 => k_asm); (case k2 => k_asm); (case k3 => k_asm); (case k4 => k_asm); (case k5 => k_asm); (case kK => first | exact rfl | assumption); (case kp => first | exact True.intro | k_extra "pre" | ((try dsimp only); first | assumption | omega | l_fact)); (case kd => ktr_room); (case ku => ktr_units); intro p9 t9 h9 tk9 F9 N9; (try dsimp only); (try k_fold))))

theorem back_says (w : World) (p : Program) (loose : List PySem.Str) (mean : ExcName → Option Value) (mg mb : PySem.Str → Option Value) (x o : Int) (t1 t2 : Tok) :
    Says w p loose mean mg mb 10 248 [.int x t1, .int o t2] ((0 ≤ x ∧ x < 32768) ∧ 0 ≤ o ∧ o < 16) (True) (fun t => .int (backF x o) t) := by
  unfold Says
  k_fill
  intro dp un gd cn cs a ccd cl outer A₀ base h₀ L m news s Q E hB hF hX hN hT hk hp hd hu hret0
  have hret := hret0 (trivial)
  clear hret0
  dsimp only [CbRet] at hret
  k_with "tree" => (unfold backF; split <;> first | rfl | (exfalso; simp_all; done))
  refine wpAny_call ?_
  k_dflt cell_enter
  k_steps
  all_goals cb_end hret
  k_with_none
local macro_rules | `(tactic| walk_at "call ref") => `(tactic| (k_here; (with_reducible show wpAny _ _ (call (Value.ref 248) [_, _]) _ _ _); k_dflt (refine' says_use (back_says _ _ _ _ _ _ _ _ _ _) ?k1 ?k2 ?k3 ?k4 ?k5 ?kK ?kp ?kd ?ku ?_; (case k1 => k_asm); (case k2 => k_asm); (case k3 => k_asm); (case k4 => k_asm); (case k5 => k_asm); (case kK => first | exact rfl | assumption); (case kp => first | exact True.intro | k_extra "pre" | ((try dsimp only); first | assumption | omega | l_fact)); (case kd => ktr_room); (case ku => ktr_units); intro p9 t9 h9 tk9 F9 N9; (try dsimp only); (try k_fold))))

theorem turned_says (w : World) (p : Program) (loose : List PySem.Str) (mean : ExcName → Option Value) (mg mb : PySem.Str → Option Value) (x : Int) (t1 : Tok) :
    Says w p loose mean mg mb 10 255 [.int x t1] (0 ≤ x ∧ x < 32768) (0 ≤ turnedF x ∧ turnedF x < 32768) (fun t => .int (turnedF x) t) := by
  unfold Says
  k_fill
  intro dp un gd cn cs a ccd cl outer A₀ base h₀ L m news s Q E hB hF hX hN hT hk hp hd hu hret0
  have hret := hret0 (turned_facts hp)
  clear hret0
  dsimp only [CbRet] at hret
  k_with "tree" => rfl
  refine wpAny_call ?_
  k_dflt cell_enter
  k_steps
  all_goals cb_end hret
  k_with_none
local macro_rules | `(tactic| walk_at "call ref") => `(tactic| (k_here; (with_reducible show wpAny _ _ (call (Value.ref 255) [_]) _ _ _); k_dflt (refine' says_use (turned_says _ _ _ _ _ _ _ _) ?k1 ?k2 ?k3 ?k4 ?k5 ?kK ?kp ?kd ?ku ?_; (case k1 => k_asm); (case k2 => k_asm); (case k3 => k_asm); (case k4 => k_asm); (case k5 => k_asm); (case kK => first | exact rfl | assumption); (case kp => first | exact True.intro | k_extra "pre" | ((try dsimp only); first | assumption | omega | l_fact)); (case kd => ktr_room); (case ku => ktr_units); intro p9 t9 h9 tk9 F9 N9; (try dsimp only); (try k_fold))))
end Mine
end
section
local macro_rules | `(tactic| k_room) => `(tactic| ktr_room)
namespace Mine
local macro_rules | `(tactic| walk_at "call ref") => `(tactic| (k_here; (with_reducible show wpAny _ _ (call (Value.ref 72) [_, _]) _ _ _); k_dflt (refine' says_use (fits_says _ _ _ _ _ _ _ _ _) ?k1 ?k2 ?k3 ?k4 ?k5 ?kK ?kp ?kd ?ku ?_; (case k1 => k_asm); (case k2 => k_asm); (case k3 => k_asm); (case k4 => k_asm); (case k5 => k_asm); (case kK => first | exact rfl | assumption); (case kp => first | exact True.intro | k_extra "pre" | ((try dsimp only); first | assumption | omega | l_fact)); (case kd => ktr_room); (case ku => ktr_units); intro p9 t9 h9 tk9 F9 N9; (try dsimp only); (try k_fold))))
local macro_rules | `(tactic| walk_at "call ref") => `(tactic| (k_here; (with_reducible show wpAny _ _ (call (Value.ref 79) [_, _]) _ _ _); k_dflt (refine' says_use (whole_says _ _ _ _ _ _ _ _ _) ?k1 ?k2 ?k3 ?k4 ?k5 ?kK ?kp ?kd ?ku ?_; (case k1 => k_asm); (case k2 => k_asm); (case k3 => k_asm); (case k4 => k_asm); (case k5 => k_asm); (case kK => first | exact rfl | assumption); (case kp => first | exact True.intro | k_extra "pre" | ((try dsimp only); first | assumption | omega | l_fact)); (case kd => ktr_room); (case ku => ktr_units); intro p9 t9 h9 tk9 F9 N9; (try dsimp only); (try k_fold))))
local macro_rules | `(tactic| walk_at "call ref") => `(tactic| (k_here; (with_reducible show wpAny _ _ (call (Value.ref 220) [.str (Str.ofString "AND") _, _, _, _]) _ _ _); k_dflt (refine' says_use (and_says _ _ _ _ _ _ _ _ _ _ _ _) ?k1 ?k2 ?k3 ?k4 ?k5 ?kK ?kp ?kd ?ku ?_; (case k1 => k_asm); (case k2 => k_asm); (case k3 => k_asm); (case k4 => k_asm); (case k5 => k_asm); (case kK => first | exact rfl | assumption); (case kp => first | exact True.intro | k_extra "pre" | ((try dsimp only); first | assumption | omega | l_fact)); (case kd => ktr_room); (case ku => ktr_units); intro p9 t9 h9 tk9 F9 N9; (try dsimp only); (try k_fold))))
local macro_rules | `(tactic| walk_at "call ref") => `(tactic| (k_here; (with_reducible show wpAny _ _ (call (Value.ref 220) [.str (Str.ofString "XOR") _, _, _, _]) _ _ _); k_dflt (refine' says_use (xor_says _ _ _ _ _ _ _ _ _ _ _ _) ?k1 ?k2 ?k3 ?k4 ?k5 ?kK ?kp ?kd ?ku ?_; (case k1 => k_asm); (case k2 => k_asm); (case k3 => k_asm); (case k4 => k_asm); (case k5 => k_asm); (case kK => first | exact rfl | assumption); (case kp => first | exact True.intro | k_extra "pre" | ((try dsimp only); first | assumption | omega | l_fact)); (case kd => ktr_room); (case ku => ktr_units); intro p9 t9 h9 tk9 F9 N9; (try dsimp only); (try k_fold))))
local macro_rules | `(tactic| walk_at "call ref") => `(tactic| (k_here; (with_reducible show wpAny _ _ (call (Value.ref 157) [_]) _ _ _); k_dflt (refine' says_use (is_whole_says _ _ _ _ _ _ _ _) ?k1 ?k2 ?k3 ?k4 ?k5 ?kK ?kp ?kd ?ku ?_; (case k1 => k_asm); (case k2 => k_asm); (case k3 => k_asm); (case k4 => k_asm); (case k5 => k_asm); (case kK => first | exact rfl | assumption); (case kp => first | exact True.intro | k_extra "pre" | ((try dsimp only); first | assumption | omega | l_fact)); (case kd => ktr_room); (case ku => ktr_units); intro p9 t9 h9 tk9 F9 N9; (try dsimp only); (try k_fold))))
local macro_rules | `(tactic| walk_at "call ref") => `(tactic| (k_here; (with_reducible show wpAny _ _ (call (Value.ref 164) [_, _, _]) _ _ _); k_dflt (refine' says_use (settled_says _ _ _ _ _ _ _ _ _ _) ?k1 ?k2 ?k3 ?k4 ?k5 ?kK ?kp ?kd ?ku ?_; (case k1 => k_asm); (case k2 => k_asm); (case k3 => k_asm); (case k4 => k_asm); (case k5 => k_asm); (case kK => first | exact rfl | assumption); (case kp => first | exact True.intro | k_extra "pre" | ((try dsimp only); first | assumption | omega | l_fact)); (case kd => ktr_room); (case ku => ktr_units); intro p9 t9 h9 tk9 F9 N9; (try dsimp only); (try k_fold))))
local macro_rules | `(tactic| walk_at "call ref") => `(tactic| (k_here; (with_reducible show wpAny _ _ (call (Value.ref 213) [.str (Str.ofString "*") _, _, _, _, _]) _ _ _); k_dflt (refine' says_use (mul_says _ _ _ _ _ _ _ _ _ _ _ _ _) ?k1 ?k2 ?k3 ?k4 ?k5 ?kK ?kp ?kd ?ku ?_; (case k1 => k_asm); (case k2 => k_asm); (case k3 => k_asm); (case k4 => k_asm); (case k5 => k_asm); (case kK => first | exact rfl | assumption); (case kp => first | exact True.intro | k_extra "pre" | ((try dsimp only); first | assumption | omega | l_fact)); (case kd => ktr_room); (case ku => ktr_units); intro p9 t9 h9 tk9 F9 N9; (try dsimp only); (try k_fold))))
local macro_rules | `(tactic| walk_at "call ref") => `(tactic| (k_here; (with_reducible show wpAny _ _ (call (Value.ref 213) [.str (Str.ofString "\\") _, _, _, _, _]) _ _ _); k_dflt (refine' says_use (quot_says _ _ _ _ _ _ _ _ _ _ _ _) ?k1 ?k2 ?k3 ?k4 ?k5 ?kK ?kp ?kd ?ku ?_; (case k1 => k_asm); (case k2 => k_asm); (case k3 => k_asm); (case k4 => k_asm); (case k5 => k_asm); (case kK => first | exact rfl | assumption); (case kp => first | exact True.intro | k_extra "pre" | ((try dsimp only); first | assumption | omega | l_fact)); (case kd => ktr_room); (case ku => ktr_units); intro p9 t9 h9 tk9 F9 N9; (try dsimp only); (try k_fold))))
local macro_rules | `(tactic| walk_at "call ref") => `(tactic| (k_here; (with_reducible show wpAny _ _ (call (Value.ref 234) [_, _]) _ _ _); k_dflt (refine' says_use (is_one_says _ _ _ _ _ _ _ _ _ _) ?k1 ?k2 ?k3 ?k4 ?k5 ?kK ?kp ?kd ?ku ?_; (case k1 => k_asm); (case k2 => k_asm); (case k3 => k_asm); (case k4 => k_asm); (case k5 => k_asm); (case kK => first | exact rfl | assumption); (case kp => first | exact True.intro | k_extra "pre" | ((try dsimp only); first | assumption | omega | l_fact)); (case kd => ktr_room); (case ku => ktr_units); intro p9 t9 h9 tk9 F9 N9; (try dsimp only); (try k_fold))))
local macro_rules | `(tactic| walk_at "call ref") => `(tactic| (k_here; (with_reducible show wpAny _ _ (call (Value.ref 241) [_, _]) _ _ _); k_dflt (refine' says_use (next_says _ _ _ _ _ _ _ _ _ _) ?k1 ?k2 ?k3 ?k4 ?k5 ?kK ?kp ?kd ?ku ?_; (case k1 => k_asm); (case k2 => k_asm); (case k3 => k_asm); (case k4 => k_asm); (case k5 => k_asm); (case kK => first | exact rfl | assumption); (case kp => first | exact True.intro | k_extra "pre" | ((try dsimp only); first | assumption | omega | l_fact)); (case kd => ktr_room); (case ku => ktr_units); intro p9 t9 h9 tk9 F9 N9; (try dsimp only); (try k_fold))))
local macro_rules | `(tactic| walk_at "call ref") => `(tactic| (k_here; (with_reducible show wpAny _ _ (call (Value.ref 248) [_, _]) _ _ _); k_dflt (refine' says_use (back_says _ _ _ _ _ _ _ _ _ _) ?k1 ?k2 ?k3 ?k4 ?k5 ?kK ?kp ?kd ?ku ?_; (case k1 => k_asm); (case k2 => k_asm); (case k3 => k_asm); (case k4 => k_asm); (case k5 => k_asm); (case kK => first | exact rfl | assumption); (case kp => first | exact True.intro | k_extra "pre" | ((try dsimp only); first | assumption | omega | l_fact)); (case kd => ktr_room); (case ku => ktr_units); intro p9 t9 h9 tk9 F9 N9; (try dsimp only); (try k_fold))))
local macro_rules | `(tactic| walk_at "call ref") => `(tactic| (k_here; (with_reducible show wpAny _ _ (call (Value.ref 255) [_]) _ _ _); k_dflt (refine' says_use (turned_says _ _ _ _ _ _ _ _) ?k1 ?k2 ?k3 ?k4 ?k5 ?kK ?kp ?kd ?ku ?_; (case k1 => k_asm); (case k2 => k_asm); (case k3 => k_asm); (case k4 => k_asm); (case k5 => k_asm); (case kK => first | exact rfl | assumption); (case kp => first | exact True.intro | k_extra "pre" | ((try dsimp only); first | assumption | omega | l_fact)); (case kd => ktr_room); (case ku => ktr_units); intro p9 t9 h9 tk9 F9 N9; (try dsimp only); (try k_fold))))
local macro_rules | `(tactic| walk_at "call ref") => `(tactic| (k_here; (with_reducible show wpAny _ _ (call (Value.ref 260) [_]) _ _ _); k_dflt (refine' says_use (ones_says _ _ _ _ _ _ _ _) ?k1 ?k2 ?k3 ?k4 ?k5 ?kK ?kp ?kd ?ku ?_; (case k1 => k_asm); (case k2 => k_asm); (case k3 => k_asm); (case k4 => k_asm); (case k5 => k_asm); (case kK => first | exact rfl | assumption); (case kp => first | exact True.intro | k_extra "pre" | ((try dsimp only); first | assumption | omega | l_fact)); (case kd => ktr_room); (case ku => ktr_units); intro p9 t9 h9 tk9 F9 N9; (try dsimp only); (try k_fold))))

theorem ones_says (w : World) (p : Program) (loose : List PySem.Str) (mean : ExcName → Option Value) (mg mb : PySem.Str → Option Value) (x : Int) (t1 : Tok) :
    Says w p loose mean mg mb 4 260 [.int x t1] (0 ≤ x ∧ x < 32768) (True) (fun t => .int (onesF x) t) := by
  unfold Says
  k_fill
  intro dp un gd cn cs a ccd cl outer A₀ base h₀ L m news s Q E hB hF hX hN hT hk hp hd hu hret0
  have hret := hret0 (trivial)
  clear hret0
  dsimp only [CbRet] at hret
  
  refine wpAny_call ?_
  k_dflt (refine' code_defC ?k1 ?k2 ?k3 ?k4 ?k5 ?kA ?kF ?kK ?k6 ?k7 ?k8 ?k9 ?kB ?kD ?_ ?c2 ?c3 ?c4; (case kA => exact rfl); (case kF => exact rfl); (case kK => assumption); (case k1 => k_asm); (case k2 => k_asm); (case k3 => k_asm); (case k4 => k_asm); (case k5 => k_asm); (case k6 => k_is); (case k7 => k_is); (case k8 => ktr_room); (case k9 => exact BindsTo.of_eq rfl); (case kB => exact rfl); (case kD => decide +kernel); (case c2 => exact rfl); (case c3 => exact rfl); (case c4 => exact rfl); k_whole; intro g' L' h' tk' cells' FG' F' N' Y' B' X' T' l1; (try k_lt l1); k_cells Y'; (try simp only [List.cons_append, List.nil_append] at N'); (try dsimp only); (try k_lift B'); (try k_fold))
  k_steps
  all_goals cb_end hret
local macro_rules | `(tactic| walk_at "call ref") => `(tactic| (k_here; (with_reducible show wpAny _ _ (call (Value.ref 260) [_]) _ _ _); k_dflt (refine' says_use (ones_says _ _ _ _ _ _ _ _) ?k1 ?k2 ?k3 ?k4 ?k5 ?kK ?kp ?kd ?ku ?_; (case k1 => k_asm); (case k2 => k_asm); (case k3 => k_asm); (case k4 => k_asm); (case k5 => k_asm); (case kK => first | exact rfl | assumption); (case kp => first | exact True.intro | k_extra "pre" | ((try dsimp only); first | assumption | omega | l_fact)); (case kd => ktr_room); (case ku => ktr_units); intro p9 t9 h9 tk9 F9 N9; (try dsimp only); (try k_fold))))
end Mine
end
section
local macro_rules | `(tactic| k_room) => `(tactic| ktr_room)
namespace Mine
local macro_rules | `(tactic| walk_at "call ref") => `(tactic| (k_here; (with_reducible show wpAny _ _ (call (Value.ref 72) [_, _]) _ _ _); k_dflt (refine' says_use (fits_says _ _ _ _ _ _ _ _ _) ?k1 ?k2 ?k3 ?k4 ?k5 ?kK ?kp ?kd ?ku ?_; (case k1 => k_asm); (case k2 => k_asm); (case k3 => k_asm); (case k4 => k_asm); (case k5 => k_asm); (case kK => first | exact rfl | assumption); (case kp => first | exact True.intro | k_extra "pre" | ((try dsimp only); first | assumption | omega | l_fact)); (case kd => ktr_room); (case ku => ktr_units); intro p9 t9 h9 tk9 F9 N9; (try dsimp only); (try k_fold))))
local macro_rules | `(tactic| walk_at "call ref") => `(tactic| (k_here; (with_reducible show wpAny _ _ (call (Value.ref 79) [_, _]) _ _ _); k_dflt (refine' says_use (whole_says _ _ _ _ _ _ _ _ _) ?k1 ?k2 ?k3 ?k4 ?k5 ?kK ?kp ?kd ?ku ?_; (case k1 => k_asm); (case k2 => k_asm); (case k3 => k_asm); (case k4 => k_asm); (case k5 => k_asm); (case kK => first | exact rfl | assumption); (case kp => first | exact True.intro | k_extra "pre" | ((try dsimp only); first | assumption | omega | l_fact)); (case kd => ktr_room); (case ku => ktr_units); intro p9 t9 h9 tk9 F9 N9; (try dsimp only); (try k_fold))))
local macro_rules | `(tactic| walk_at "call ref") => `(tactic| (k_here; (with_reducible show wpAny _ _ (call (Value.ref 220) [.str (Str.ofString "AND") _, _, _, _]) _ _ _); k_dflt (refine' says_use (and_says _ _ _ _ _ _ _ _ _ _ _ _) ?k1 ?k2 ?k3 ?k4 ?k5 ?kK ?kp ?kd ?ku ?_; (case k1 => k_asm); (case k2 => k_asm); (case k3 => k_asm); (case k4 => k_asm); (case k5 => k_asm); (case kK => first | exact rfl | assumption); (case kp => first | exact True.intro | k_extra "pre" | ((try dsimp only); first | assumption | omega | l_fact)); (case kd => ktr_room); (case ku => ktr_units); intro p9 t9 h9 tk9 F9 N9; (try dsimp only); (try k_fold))))
local macro_rules | `(tactic| walk_at "call ref") => `(tactic| (k_here; (with_reducible show wpAny _ _ (call (Value.ref 220) [.str (Str.ofString "XOR") _, _, _, _]) _ _ _); k_dflt (refine' says_use (xor_says _ _ _ _ _ _ _ _ _ _ _ _) ?k1 ?k2 ?k3 ?k4 ?k5 ?kK ?kp ?kd ?ku ?_; (case k1 => k_asm); (case k2 => k_asm); (case k3 => k_asm); (case k4 => k_asm); (case k5 => k_asm); (case kK => first | exact rfl | assumption); (case kp => first | exact True.intro | k_extra "pre" | ((try dsimp only); first | assumption | omega | l_fact)); (case kd => ktr_room); (case ku => ktr_units); intro p9 t9 h9 tk9 F9 N9; (try dsimp only); (try k_fold))))
local macro_rules | `(tactic| walk_at "call ref") => `(tactic| (k_here; (with_reducible show wpAny _ _ (call (Value.ref 157) [_]) _ _ _); k_dflt (refine' says_use (is_whole_says _ _ _ _ _ _ _ _) ?k1 ?k2 ?k3 ?k4 ?k5 ?kK ?kp ?kd ?ku ?_; (case k1 => k_asm); (case k2 => k_asm); (case k3 => k_asm); (case k4 => k_asm); (case k5 => k_asm); (case kK => first | exact rfl | assumption); (case kp => first | exact True.intro | k_extra "pre" | ((try dsimp only); first | assumption | omega | l_fact)); (case kd => ktr_room); (case ku => ktr_units); intro p9 t9 h9 tk9 F9 N9; (try dsimp only); (try k_fold))))
local macro_rules | `(tactic| walk_at "call ref") => `(tactic| (k_here; (with_reducible show wpAny _ _ (call (Value.ref 164) [_, _, _]) _ _ _); k_dflt (refine' says_use (settled_says _ _ _ _ _ _ _ _ _ _) ?k1 ?k2 ?k3 ?k4 ?k5 ?kK ?kp ?kd ?ku ?_; (case k1 => k_asm); (case k2 => k_asm); (case k3 => k_asm); (case k4 => k_asm); (case k5 => k_asm); (case kK => first | exact rfl | assumption); (case kp => first | exact True.intro | k_extra "pre" | ((try dsimp only); first | assumption | omega | l_fact)); (case kd => ktr_room); (case ku => ktr_units); intro p9 t9 h9 tk9 F9 N9; (try dsimp only); (try k_fold))))
local macro_rules | `(tactic| walk_at "call ref") => `(tactic| (k_here; (with_reducible show wpAny _ _ (call (Value.ref 213) [.str (Str.ofString "*") _, _, _, _, _]) _ _ _); k_dflt (refine' says_use (mul_says _ _ _ _ _ _ _ _ _ _ _ _ _) ?k1 ?k2 ?k3 ?k4 ?k5 ?kK ?kp ?kd ?ku ?_; (case k1 => k_asm); (case k2 => k_asm); (case k3 => k_asm); (case k4 => k_asm); (case k5 => k_asm); (case kK => first | exact rfl | assumption); (case kp => first | exact True.intro | k_extra "pre" | ((try dsimp only); first | assumption | omega | l_fact)); (case kd => ktr_room); (case ku => ktr_units); intro p9 t9 h9 tk9 F9 N9; (try dsimp only); (try k_fold))))
local macro_rules | `(tactic| walk_at "call ref") => `(tactic| (k_here; (with_reducible show wpAny _ _ (call (Value.ref 213) [.str (Str.ofString "\\") _, _, _, _, _]) _ _ _); k_dflt (refine' says_use (quot_says _ _ _ _ _ _ _ _ _ _ _ _) ?k1 ?k2 ?k3 ?k4 ?k5 ?kK ?kp ?kd ?ku ?_; (case k1 => k_asm); (case k2 => k_asm); (case k3 => k_asm); (case k4 => k_asm); (case k5 => k_asm); (case kK => first | exact rfl | assumption); (case kp => first | exact True.intro | k_extra "pre" | ((try dsimp only); first | assumption | omega | l_fact)); (case kd => ktr_room); (case ku => ktr_units); intro p9 t9 h9 tk9 F9 N9; (try dsimp only); (try k_fold))))
local macro_rules | `(tactic| walk_at "call ref") => `(tactic| (k_here; (with_reducible show wpAny _ _ (call (Value.ref 234) [_, _]) _ _ _); k_dflt (refine' says_use (is_one_says _ _ _ _ _ _ _ _ _ _) ?k1 ?k2 ?k3 ?k4 ?k5 ?kK ?kp ?kd ?ku ?_; (case k1 => k_asm); (case k2 => k_asm); (case k3 => k_asm); (case k4 => k_asm); (case k5 => k_asm); (case kK => first | exact rfl | assumption); (case kp => first | exact True.intro | k_extra "pre" | ((try dsimp only); first | assumption | omega | l_fact)); (case kd => ktr_room); (case ku => ktr_units); intro p9 t9 h9 tk9 F9 N9; (try dsimp only); (try k_fold))))
local macro_rules | `(tactic| walk_at "call ref") => `(tactic| (k_here; (with_reducible show wpAny _ _ (call (Value.ref 241) [_, _]) _ _ _); k_dflt (refine' says_use (next_says _ _ _ _ _ _ _ _ _ _) ?k1 ?k2 ?k3 ?k4 ?k5 ?kK ?kp ?kd ?ku ?_; (case k1 => k_asm); (case k2 => k_asm); (case k3 => k_asm); (case k4 => k_asm); (case k5 => k_asm); (case kK => first | exact rfl | assumption); (case kp => first | exact True.intro | k_extra "pre" | ((try dsimp only); first | assumption | omega | l_fact)); (case kd => ktr_room); (case ku => ktr_units); intro p9 t9 h9 tk9 F9 N9; (try dsimp only); (try k_fold))))
local macro_rules | `(tactic| walk_at "call ref") => `(tactic| (k_here; (with_reducible show wpAny _ _ (call (Value.ref 248) [_, _]) _ _ _); k_dflt (refine' says_use (back_says _ _ _ _ _ _ _ _ _ _) ?k1 ?k2 ?k3 ?k4 ?k5 ?kK ?kp ?kd ?ku ?_; (case k1 => k_asm); (case k2 => k_asm); (case k3 => k_asm); (case k4 => k_asm); (case k5 => k_asm); (case kK => first | exact rfl | assumption); (case kp => first | exact True.intro | k_extra "pre" | ((try dsimp only); first | assumption | omega | l_fact)); (case kd => ktr_room); (case ku => ktr_units); intro p9 t9 h9 tk9 F9 N9; (try dsimp only); (try k_fold))))
local macro_rules | `(tactic| walk_at "call ref") => `(tactic| (k_here; (with_reducible show wpAny _ _ (call (Value.ref 255) [_]) _ _ _); k_dflt (refine' says_use (turned_says _ _ _ _ _ _ _ _) ?k1 ?k2 ?k3 ?k4 ?k5 ?kK ?kp ?kd ?ku ?_; (case k1 => k_asm); (case k2 => k_asm); (case k3 => k_asm); (case k4 => k_asm); (case k5 => k_asm); (case kK => first | exact rfl | assumption); (case kp => first | exact True.intro | k_extra "pre" | ((try dsimp only); first | assumption | omega | l_fact)); (case kd => ktr_room); (case ku => ktr_units); intro p9 t9 h9 tk9 F9 N9; (try dsimp only); (try k_fold))))
local macro_rules | `(tactic| walk_at "call ref") => `(tactic| (k_here; (with_reducible show wpAny _ _ (call (Value.ref 260) [_]) _ _ _); k_dflt (refine' says_use (ones_says _ _ _ _ _ _ _ _) ?k1 ?k2 ?k3 ?k4 ?k5 ?kK ?kp ?kd ?ku ?_; (case k1 => k_asm); (case k2 => k_asm); (case k3 => k_asm); (case k4 => k_asm); (case k5 => k_asm); (case kK => first | exact rfl | assumption); (case kp => first | exact True.intro | k_extra "pre" | ((try dsimp only); first | assumption | omega | l_fact)); (case kd => ktr_room); (case ku => ktr_units); intro p9 t9 h9 tk9 F9 N9; (try dsimp only); (try k_fold))))

theorem begun_says : ∀ (w : World) (p : Program) (loose : List PySem.Str) (mean : ExcName → Option Value) (mg mb : PySem.Str → Option Value) (k below : Int) (t t1 : Tok) (a1 B l0 : Addr) (o1 : Obj) (vs : List Value) (ns : List Int)
    (dp un : Nat) (gd : Option (List Code)) (cn : PySem.Str) (cs : Scope) (a : Addr) (ccd : Value) (cl : List (PySem.Str × Addr)) (outer : List Env) (A₀ : Around) (base h₀ : Heap) (L : Addr) (m : PySem.Str → Option Value) (s : Shared) (Q E : Value → Shared → Prop),
    Below A₀ base outer h₀ → Fr h₀ L s.heap m → (Hd02.heap_39 w.params).In h₀ → News h₀ L s.heap [(a1, o1), (B, PySem.W.listOf #[.ref l0, .int k t] 0), (l0, PySem.W.listOf vs.toArray 0)] →
    Top p loose mean mg mb h₀ → cs.kind = .function → dp + 8 < recursionLimit → un + 80 < cLine →
    0 ≤ k → k ≤ 9 → 0 < below → below ≤ 1000 → IntsAre vs ns → ns.length ≤ 9 → (@LT.lt Nat _ B a1 ∧ @LT.lt Nat _ l0 B) →
    (∀ (y : Int) (t' tB : Tok) (h' : Heap) (tk' : Nat), 0 ≤ y → y < below → Fr h₀ L h' m → News h₀ L h' [(a1, o1), (B, PySem.W.listOf #[.ref l0, .int (k + 1) tB] 0), (l0, PySem.W.listOf vs.toArray 0)] → Q (.int y t') { s with heap := h', toks := tk' }) →
    wpAny (model PySem.Challenge.rw_xm0034_02.row.prog w) (ktrTop dp un gd cn cs L a ccd cl outer) (call (.ref 227) [.ref B, .int below t1]) Q E s := by
  k_fill
  intro w p loose mean mg mb k below t t1 a1 B l0 o1 vs ns dp un gd cn cs a ccd cl outer A₀ base h₀ L m s Q E hB hF hX hN hT hk hd hu hk0 hk1 hb0 hb1 hI hlen hD hret
  refine wpAny_call ?_
  k_dflt cell_enter
  k_steps
  all_goals exact hret _ _ _ _ _ (Int.fmod_nonneg_of_pos _ hb0) (Int.fmod_lt_of_pos _ hb0) (by k_asm) (by k_asm)
end Mine
end
section
namespace Mine

def S0 (o b : Int) : Nat → Int
  | 0 => b
  | n + 1 => nextF (S0 o b n) o
@[irreducible] def S (o b : Int) (n : Nat) : Int := S0 o b n
@[irreducible] def bitF (x : Int) : Int := if isOneB x 8 = true then 1 else 0
def told0 (o b : Int) : Nat → List Int
  | 0 => []
  | n + 1 => told0 o b n ++ [bitF (S o b n)]
@[irreducible] def toldL (o b : Int) (n : Nat) : List Int := told0 o b n
def row0 (o b : Int) : Nat → Int
  | 0 => 0
  | n + 1 => row0 o b n + 2 ^ n * bitF (S o b n)
@[irreducible] def rowF (o b : Int) (n : Nat) : Int := row0 o b n
def fours0 (o b : Int) : Nat → List Int
  | 0 => [b]
  | n + 1 => fours0 o b n ++ [S o b (n + 1)]
@[irreducible] def foursL (o b : Int) (n : Nat) : List Int := fours0 o b n
theorem S_zero (o b : Int) : S o b 0 = b := by unfold S; rfl
theorem S_succ (o b : Int) (n : Nat) : S o b (n + 1) = nextF (S o b n) o := by unfold S; rfl
theorem told_zero (o b : Int) : toldL o b 0 = [] := by unfold toldL; rfl
theorem told_succ (o b : Int) (n : Nat) : toldL o b (n + 1) = toldL o b n ++ [bitF (S o b n)] := by unfold toldL; rfl
theorem row_zero (o b : Int) : rowF o b 0 = 0 := by unfold rowF; rfl
theorem row_succ (o b : Int) (n : Nat) : rowF o b (n + 1) = rowF o b n + 2 ^ n * bitF (S o b n) := by unfold rowF; rfl
theorem fours_zero (o b : Int) : foursL o b 0 = [b] := by unfold foursL; rfl
theorem fours_succ (o b : Int) (n : Nat) : foursL o b (n + 1) = foursL o b n ++ [S o b (n + 1)] := by unfold foursL; rfl
theorem fours_at (o b : Int) : ∀ n, (foursL o b n).length = n + 1 ∧ (foursL o b n).getD n 0 = S o b n
  | 0 => by rw [fours_zero, S_zero]; exact ⟨rfl, rfl⟩
  | n + 1 => by
    have h := (fours_at o b n).1
    rw [fours_succ]
    refine ⟨by simp [h], ?_⟩
    rw [List.getD_eq_getElem?_getD, List.getElem?_append_right (by omega), h]
    simp
theorem bitF_yes {x : Int} (h : isOneB x 8 = true) : 1 = bitF x := by unfold bitF; rw [if_pos h]
theorem bitF_no {x : Int} (h : isOneB x 8 = false) : 0 = bitF x := by unfold bitF; rw [if_neg (by rw [h]; decide)]
theorem bitF_01 (x : Int) : bitF x = 0 ∨ bitF x = 1 := by unfold bitF; split <;> simp
theorem all_of (k : Nat) {P : Int → Bool} (h : (List.range k).all (fun (n : Nat) => P (n : Int)) = true) {x : Int} (h0 : 0 ≤ x) (h1 : x < (k : Int)) : P x = true := by
  obtain ⟨n, rfl⟩ := Int.eq_ofNat_of_zero_le h0
  exact (List.all_eq_true.mp h) n (List.mem_range.mpr (by omega))
theorem all_o (k : Nat) {P : Int → Int → Bool} (h : (List.range k).all (fun (n : Nat) => P 4 (n : Int) && P 1 (n : Int)) = true) {o x : Int} (ho : o = 4 ∨ o = 1) (h0 : 0 ≤ x) (h1 : x < (k : Int)) : P o x = true := by
  have q := all_of k (P := fun n => P 4 n && P 1 n) h h0 h1
  obtain ⟨q1, q2⟩ := Bool.and_eq_true_iff.mp q
  rcases ho with rfl | rfl
  · exact q1
  · exact q2
theorem next16 {o x : Int} (ho : o = 4 ∨ o = 1) (h0 : 0 ≤ x) (h1 : x < 16) : 0 ≤ nextF x o ∧ nextF x o < 16 := by
  have h := all_o 16 (P := fun o x => decide (0 ≤ nextF x o ∧ nextF x o < 16)) (by decide +kernel) ho h0 h1
  simpa using h
theorem back_next {o x : Int} (ho : o = 4 ∨ o = 1) (h0 : 0 ≤ x) (h1 : x < 16) : backF (nextF x o) o = x := by
  have h := all_o 16 (P := fun o x => decide (backF (nextF x o) o = x)) (by decide +kernel) ho h0 h1
  simpa using h
structure Turned (o b : Int) (n : Nat) (told : List Int) (row bits : Int) (fours : List Int) : Prop where
  h1 : told = toldL o b n
  h2 : row = rowF o b n
  h3 : bits = S o b n
  h4 : fours = foursL o b n
theorem c_back {o b x k row : Int} {n : Nat} {told fours : List Int} (hk : k = 0 + (n : Int)) (T : Turned o b n told row x fours) (ho : o = 4 ∨ o = 1) (h0 : 0 ≤ x) (h1 : x < 16) : ¬ ((backF (nextF x o) o != fours.getD k.toNat 0) = true) := by
  obtain ⟨_, _, h3, h4⟩ := T
  subst hk h4
  have e : (0 + (n : Int)).toNat = n := by omega
  rw [back_next ho h0 h1, e, (fours_at o b n).2, h3]
  simp
theorem turn02 {o b : Int} {pre : List Int} {k : Int} {told fours : List Int} {row bits x : Int} (T : Turned o b pre.length told row bits fours)
    (hb : 0 ≤ bits) (hb' : bits < 16) (hr : 0 ≤ row) (hr' : row < 2 ^ pre.length) (ho : o = 4 ∨ o = 1) (hB1 : 1 ≤ b) (hB2 : b ≤ 15) (hl : told.length = pre.length) (hl' : fours.length = pre.length + 1) (hx : x = bitF bits) :
    Turned o b (pre ++ [k]).length (told ++ [x]) (row + 2 ^ pre.length * x) (nextF bits o) (fours ++ [nextF bits o])
      ∧ (0 ≤ nextF bits o ∧ nextF bits o < 16) ∧ (0 ≤ row + 2 ^ pre.length * x ∧ row + 2 ^ pre.length * x < 2 ^ (pre ++ [k]).length) ∧ (o = 4 ∨ o = 1) ∧ (1 ≤ b ∧ b ≤ 15)
      ∧ (told ++ [x]).length = (pre ++ [k]).length ∧ (fours ++ [nextF bits o]).length = (pre ++ [k]).length + 1 := by
  have e : (pre ++ [k]).length = pre.length + 1 := by simp
  have hp : (2 : Int) ^ (pre.length + 1) = 2 ^ pre.length * 2 := Int.pow_succ _ _
  obtain ⟨h1, h2, h3, h4⟩ := T
  rw [e]
  refine ⟨⟨by rw [told_succ, ← h3, ← hx, ← h1], by rw [row_succ, ← h3, ← hx, ← h2], by rw [S_succ, ← h3], by rw [fours_succ, S_succ, ← h3, ← h4]⟩, next16 ho hb hb', ?_, ho, ⟨hB1, hB2⟩, by simp [hl], by simp [hl']⟩
  rw [hp]
  generalize (2 : Int) ^ pre.length = q at *
  rcases bitF_01 bits with h | h <;> rw [hx, h] <;> omega
section
variable {prog : Program} {w : World} {A : Around} {Q E : Value → Shared → Prop} {s : Shared}
theorem mul_told {l : List Int} {n : Nat} {k x : Int} {t u : Tok} (hk : k = 0 + (n : Int)) (hl : l.length = n) (hx : x = 0 ∨ x = 1) (h : Q (.int (2 ^ n * x) s.toks) { s with toks := s.toks + 1 }) :
    wpAny (model prog w) A (binaryOp .Mult (.int (2 ^ k.toNat) t) (.int ((l ++ [x]).getD k.toNat 0) u)) Q E s := by
  have e : k.toNat = n := by omega
  have e2 : (l ++ [x]).getD k.toNat 0 = x := by
    rw [e, List.getD_eq_getElem?_getD, List.getElem?_append_right (by omega), hl]
    simp
  rw [e2, e]
  refine PyProof.Rows.mul_int h (IntMulOk.of_right ?_)
  rcases hx with rfl | rfl <;> decide
end
theorem draw2 {y : Int} (h0 : 0 ≤ y) (h1 : y < 2) : [4, 1].getD y.toNat 0 = (4 : Int) ∨ [4, 1].getD y.toNat 0 = (1 : Int) := by
  rcases (by omega : y = 0 ∨ y = 1) with rfl | rfl
  · exact .inl rfl
  · exact .inr rfl
theorem start02 {y z : Int} (h0 : 0 ≤ y) (h1 : y < 2) (h2 : 0 ≤ z) (h3 : z < 15) :
    Turned ([4, 1].getD y.toNat 0) (1 + z) ([] : List Int).length [] 0 (1 + z) [1 + z] ∧ (0 ≤ 1 + z ∧ 1 + z < 16) ∧ (0 ≤ (0 : Int) ∧ (0 : Int) < 2 ^ ([] : List Int).length) ∧ ([4, 1].getD y.toNat 0 = (4 : Int) ∨ [4, 1].getD y.toNat 0 = (1 : Int)) ∧ (1 ≤ 1 + z ∧ 1 + z ≤ 15)
      ∧ ([] : List Int).length = ([] : List Int).length ∧ [1 + z].length = ([] : List Int).length + 1 :=
  ⟨⟨(told_zero _ _).symm, (row_zero _ _).symm, (S_zero _ _).symm, (fours_zero _ _).symm⟩, ⟨by omega, by omega⟩, ⟨by decide, by decide⟩, draw2 h0 h1, ⟨by omega, by omega⟩, rfl, rfl⟩
def ins (x : Int) : List Int → List Int
  | [] => [x]
  | y :: r => if x ≤ y then x :: y :: r else y :: ins x r
theorem ins_perm (x : Int) : ∀ l : List Int, (ins x l).Perm (x :: l)
  | [] => .refl _
  | y :: r => by
    unfold ins
    split
    · exact .refl _
    · exact ((ins_perm x r).cons y).trans (.swap x y r)
def isort : List Int → List Int
  | [] => []
  | x :: r => ins x (isort r)
theorem isort_perm : ∀ l : List Int, (isort l).Perm l
  | [] => .refl _
  | x :: r => (ins_perm x (isort r)).trans ((isort_perm r).cons x)
theorem fours_sorts {o b : Int} (ho : o = 4 ∨ o = 1) (h0 : 1 ≤ b) (h1 : b ≤ 15) : isort ((foursL o b 15).take 15) = rangeKs 1 15 := by
  have h := all_o 16 (P := fun o b => decide (b = 0) || decide (isort ((foursL o b 15).take 15) = rangeKs 1 15)) (by decide +kernel) ho (show 0 ≤ b by omega) (show b < (16 : Nat) by omega)
  rcases Bool.or_eq_true_iff.mp h with q | q
  · have := of_decide_eq_true q
    omega
  · exact of_decide_eq_true q
theorem asc15 : lks_asc (rangeKs 1 15) = true := by decide +kernel
theorem c_sorted {o b : Int} {row bits : Int} {told n' fours : List Int} (p : n'.Perm (List.take 15 fours)) (s : n'.Pairwise (· ≤ ·)) (T : Turned o b (rangeKs 0 (15 - 0 : Int).toNat).length told row bits fours) (ho : o = 4 ∨ o = 1) (h0 : 1 ≤ b) (h1 : b ≤ 15) : ¬ ((!decide (n' = rangeKs 1 15)) = true) := by
  have e15 : (rangeKs 0 (15 - 0 : Int).toNat).length = 15 := by decide +kernel
  have h := T.h4
  rw [e15] at h
  have e : n' = rangeKs 1 15 := lks_uniq (p.trans (by rw [h, ← fours_sorts ho h0 h1]; exact (isort_perm _).symm)) s (lks_asc_spec asc15)
  rw [decide_eq_true e]
  decide
theorem len15 : (rangeKs 0 (15 - 0 : Int).toNat).length = 15 := by decide +kernel
theorem row15 {x : Int} (h : x < 2 ^ (rangeKs 0 (15 - 0 : Int).toNat).length) : x < 32768 := by
  rw [len15] at h
  exact h
theorem ints_at : ∀ {vs : List Value} {ns : List Int} {n : Nat}, IntsAre vs ns → n < ns.length → ∃ t, vs[n]? = some (.int (ns.getD n 0) t)
  | _, _, _, .nil, h => absurd h (Nat.not_lt_zero _)
  | _, _, 0, .cons _ t _, _ => ⟨t, rfl⟩
  | _, _, n + 1, .cons _ _ r, h => by
    obtain ⟨t, e⟩ := ints_at (n := n) r (by simpa using h)
    exact ⟨t, by simpa using e⟩
theorem item_at {prog : Program} {w : World} {A : Around} {Q E : Value → Shared → Prop} {s : Shared} {value slice : PySem.Expr} {l : Addr} {vs : List Value} {ns : List Int} {k : Int} {u : Tok}
    (hl : s.heap.IsList l vs.toArray) (hI : IntsAre vs ns) (h0 : 0 ≤ k) (hk : k < (ns.length : Int)) (hh : k < 2 ^ 63) (h : ∀ t, Q (.int (ns.getD k.toNat 0) t) s)
    (hs : subscripted slice false (.ref l) (.int k u) = operate [.ref l, .int k u] (getItem (.ref l) (.int k u)) := by with_unfolding_all rfl) :
    wpAny (model prog w) A (subscriptTail value slice (.ref l) (.int k u)) Q E s := by
  obtain ⟨t, e⟩ := ints_at (n := k.toNat) hI (by omega)
  exact tail_any hl.typeIs slot_list_getitem.lookup (wpAny_getItem_list hl h0 hh (by simpa using e) (h t)) hs
theorem all_b {P : Int → Int → Bool} (h : (List.range 16).all (fun (n : Nat) => (decide ((n : Int) = 0) || P 4 (n : Int)) && (decide ((n : Int) = 0) || P 1 (n : Int))) = true) {o b : Int} (ho : o = 4 ∨ o = 1) (h0 : 1 ≤ b) (h1 : b ≤ 15) : P o b = true := by
  have q := all_o 16 (P := fun o b => decide (b = 0) || P o b) h ho (show 0 ≤ b by omega) (show b < (16 : Nat) by omega)
  rcases Bool.or_eq_true_iff.mp q with q | q
  · have := of_decide_eq_true q
    omega
  · exact q
theorem c_cycle {o b row bits : Int} {told fours : List Int} (T : Turned o b (rangeKs 0 (15 - 0 : Int).toNat).length told row bits fours) (ho : o = 4 ∨ o = 1) (h0 : 1 ≤ b) (h1 : b ≤ 15) : ¬ ((fours.getD (Int.toNat 15) 0 != fours.getD (Int.toNat 0) 0) = true) := by
  have h := T.h4
  rw [len15] at h
  have q := all_b (P := fun o b => ! ((foursL o b 15).getD (Int.toNat 15) 0 != (foursL o b 15).getD (Int.toNat 0) 0)) (by decide +kernel) ho h0 h1
  rw [h]
  simpa using q
theorem c_ones {o b row bits : Int} {told fours : List Int} (T : Turned o b (rangeKs 0 (15 - 0 : Int).toNat).length told row bits fours) (ho : o = 4 ∨ o = 1) (h0 : 1 ≤ b) (h1 : b ≤ 15) : ¬ ((onesF row != 8) = true) := by
  have h := T.h2
  rw [len15] at h
  have q := all_b (P := fun o b => ! (onesF (rowF o b 15) != 8)) (by decide +kernel) ho h0 h1
  rw [h]
  simpa using q
end Mine
end
section
namespace Mine

@[irreducible] def atF (l : List Int) (k : Int) : Int := l.getD (if k < 0 then k + 15 else k).toNat 0
@[irreducible] def stopF (l : List Int) : Int := (((List.range 15).find? fun (n : Nat) => atF l n != atF l (n - 1)).getD 0 : Nat)
def vF (l : List Int) (b : Int) (n : Nat) : Int := atF l (Int.fmod (b + (n : Int)) 15)
def pF (l : List Int) (b : Int) (n : Nat) : Int := atF l (Int.fmod (b + (n : Int) - 1) 15)
def toldOk (l : List Int) : Bool :=
  l.length == 15 && (decide (0 ≤ stopF l) && (decide (stopF l ≤ 14) && (((List.range 15).all fun (k : Nat) => decide (stopF l < (k : Int)) || ((atF l k == atF l (k - 1)) == decide ((k : Int) < stopF l)))
    && ((vF l (stopF l) 0 != pF l (stopF l) 0) && sortsB (runsN (vF l (stopF l)) (pF l (stopF l)) 15).reverse))))
def tolds : List (List Int) := [[0, 0, 0, 1, 0, 0, 1, 1, 0, 1, 0, 1, 1, 1, 1], [0, 0, 1, 0, 0, 1, 1, 0, 1, 0, 1, 1, 1, 1, 0], [0, 0, 1, 1, 0, 1, 0, 1, 1, 1, 1, 0, 0, 0, 1], [0, 1, 0, 0, 1, 1, 0, 1, 0, 1, 1, 1, 1, 0, 0], [0, 1, 0, 1, 1, 1, 1, 0, 0, 0, 1, 0, 0, 1, 1], [0, 1, 1, 0, 1, 0, 1, 1, 1, 1, 0, 0, 0, 1, 0], [0, 1, 1, 1, 1, 0, 0, 0, 1, 0, 0, 1, 1, 0, 1], [1, 0, 0, 0, 1, 0, 0, 1, 1, 0, 1, 0, 1, 1, 1], [1, 0, 0, 1, 1, 0, 1, 0, 1, 1, 1, 1, 0, 0, 0], [1, 0, 1, 0, 1, 1, 1, 1, 0, 0, 0, 1, 0, 0, 1], [1, 0, 1, 1, 1, 1, 0, 0, 0, 1, 0, 0, 1, 1, 0], [1, 1, 0, 0, 0, 1, 0, 0, 1, 1, 0, 1, 0, 1, 1], [1, 1, 0, 1, 0, 1, 1, 1, 1, 0, 0, 0, 1, 0, 0], [1, 1, 1, 0, 0, 0, 1, 0, 0, 1, 1, 0, 1, 0, 1], [1, 1, 1, 1, 0, 0, 0, 1, 0, 0, 1, 1, 0, 1, 0], [0, 0, 0, 1, 1, 1, 1, 0, 1, 0, 1, 1, 0, 0, 1], [0, 0, 1, 0, 0, 0, 1, 1, 1, 1, 0, 1, 0, 1, 1], [0, 0, 1, 1, 1, 1, 0, 1, 0, 1, 1, 0, 0, 1, 0], [0, 1, 0, 0, 0, 1, 1, 1, 1, 0, 1, 0, 1, 1, 0], [0, 1, 0, 1, 1, 0, 0, 1, 0, 0, 0, 1, 1, 1, 1], [0, 1, 1, 0, 0, 1, 0, 0, 0, 1, 1, 1, 1, 0, 1], [0, 1, 1, 1, 1, 0, 1, 0, 1, 1, 0, 0, 1, 0, 0], [1, 0, 0, 0, 1, 1, 1, 1, 0, 1, 0, 1, 1, 0, 0], [1, 0, 0, 1, 0, 0, 0, 1, 1, 1, 1, 0, 1, 0, 1], [1, 0, 1, 0, 1, 1, 0, 0, 1, 0, 0, 0, 1, 1, 1], [1, 0, 1, 1, 0, 0, 1, 0, 0, 0, 1, 1, 1, 1, 0], [1, 1, 0, 0, 1, 0, 0, 0, 1, 1, 1, 1, 0, 1, 0], [1, 1, 0, 1, 0, 1, 1, 0, 0, 1, 0, 0, 0, 1, 1], [1, 1, 1, 0, 1, 0, 1, 1, 0, 0, 1, 0, 0, 0, 1], [1, 1, 1, 1, 0, 1, 0, 1, 1, 0, 0, 1, 0, 0, 0]]

theorem tolds_ok : tolds.all toldOk = true := by decide +kernel
theorem told_in {o b : Int} (ho : o = 4 ∨ o = 1) (h0 : 1 ≤ b) (h1 : b ≤ 15) : toldOk (toldL o b 15) = true := by
  have q := all_b (P := fun o b => tolds.contains (toldL o b 15)) (by decide +kernel) ho h0 h1
  exact (List.all_eq_true.mp tolds_ok) _ (List.contains_iff_mem.mp q)
structure ToldOk (l : List Int) : Prop where
  len : l.length = 15
  s0 : 0 ≤ stopF l
  s1 : stopF l ≤ 14
  eq : ∀ k : Int, 0 ≤ k → k ≤ stopF l → ((atF l k == atF l (k - 1)) = true ↔ k < stopF l)
  v0 : (vF l (stopF l) 0 != pF l (stopF l) 0) = true
  so : sortsB (runsN (vF l (stopF l)) (pF l (stopF l)) 15).reverse = true
theorem ToldOk.of {l : List Int} (h : toldOk l = true) : ToldOk l := by
  unfold toldOk at h
  simp only [Bool.and_eq_true, beq_iff_eq, decide_eq_true_eq] at h
  obtain ⟨h1, h2, h3, h4, h5, h6⟩ := h
  refine ⟨h1, h2, h3, ?_, h5, h6⟩
  intro k k0 k1
  obtain ⟨n, rfl⟩ := Int.eq_ofNat_of_zero_le k0
  have q := (List.all_eq_true.mp h4) n (List.mem_range.mpr (by omega))
  rcases Bool.or_eq_true_iff.mp q with q | q
  · have := of_decide_eq_true q
    omega
  · rw [eq_of_beq q]
    exact decide_eq_true_iff
theorem told_ok {o b row bits : Int} {told fours : List Int} (T : Turned o b (rangeKs 0 (15 - 0 : Int).toNat).length told row bits fours) (ho : o = 4 ∨ o = 1) (h0 : 1 ≤ b) (h1 : b ≤ 15) : ToldOk told := by
  have h := T.h1
  rw [len15] at h
  rw [h]
  exact .of (told_in ho h0 h1)
structure BeginW (told : List Int) (k : Int) : Prop where
  k0 : 0 ≤ k
  k1 : k ≤ stopF told
theorem begin_start {l : List Int} (T : ToldOk l) : BeginW l 0 := ⟨Int.le_refl _, T.s0⟩
theorem begin_turn {l : List Int} {k : Int} (T : ToldOk l) (B : BeginW l k) (h : (atF l k == atF l (k - 1)) = true) : BeginW l (k + 1) := by
  have := (T.eq k B.k0 B.k1).mp h
  have := B.k0
  exact ⟨by omega, by omega⟩
theorem begin_falls {l : List Int} {k : Int} (T : ToldOk l) (B : BeginW l k) (h : (atF l k == atF l (k - 1)) = true) : (stopF l - (k + 1)).toNat < (stopF l - k).toNat := by
  have := (T.eq k B.k0 B.k1).mp h
  omega
structure RunsOk (l : List Int) (k : Int) : Prop where
  k0 : 0 ≤ k
  k1 : k ≤ 14
  v0 : (vF l k 0 != pF l k 0) = true
  so : sortsB (runsN (vF l k) (pF l k) 15).reverse = true
theorem begin_end {l : List Int} {k : Int} (T : ToldOk l) (B : BeginW l k) (h : ¬ (atF l k == atF l (k - 1)) = true) : RunsOk l k := by
  have q : ¬ k < stopF l := fun x => h ((T.eq k B.k0 B.k1).mpr x)
  have e : k = stopF l := by
    have := B.k1
    omega
  have := T.s1
  exact ⟨B.k0, by omega, by rw [e]; exact T.v0, by rw [e]; exact T.so⟩
theorem fmod15 (x : Int) : 0 ≤ Int.fmod x 15 ∧ Int.fmod x 15 < 15 := ⟨Int.fmod_nonneg_of_pos _ (by decide), Int.fmod_lt_of_pos _ (by decide)⟩
theorem item_atF {prog : Program} {w : World} {A : Around} {Q E : Value → Shared → Prop} {s : Shared} {value slice : PySem.Expr} {l : Addr} {vs : List Value} {ns : List Int} {k : Int} {u : Tok}
    (hl : s.heap.IsList l vs.toArray) (hI : IntsAre vs ns) (hlen : ns.length = 15) (h0 : -15 ≤ k) (hk : k < 15) (h : ∀ t, Q (.int (atF ns k) t) s)
    (hs : subscripted slice false (.ref l) (.int k u) = operate [.ref l, .int k u] (getItem (.ref l) (.int k u)) := by with_unfolding_all rfl) :
    wpAny (model prog w) A (subscriptTail value slice (.ref l) (.int k u)) Q E s := by
  unfold atF at h
  by_cases hk0 : k < 0
  · rw [if_pos hk0] at h
    obtain ⟨t, e⟩ := ints_at (n := (k + 15).toNat) hI (by omega)
    have hv : vs.length = 15 := by rw [hI.length, hlen]
    refine tail_any hl.typeIs slot_list_getitem.lookup (wpAny_getItem_list_neg hl hk0 (by simp [hv]; omega) (by omega) (x := .int (ns.getD (k + 15).toNat 0) t) ?_ (h t)) hs
    rw [List.size_toArray, hv]
    simpa using e
  · rw [if_neg hk0] at h
    exact item_at hl hI (by omega) (by omega) (by omega) h hs
theorem item_endF {prog : Program} {w : World} {A : Around} {Q E : Value → Shared → Prop} {s : Shared} {value slice : PySem.Expr} {l : Addr} {arr : Array Value} {x : Value} {u : Tok}
    (hl : s.heap.IsList l (arr.push x)) (h : Q x s)
    (hs : subscripted slice false (.ref l) (.int (-1) u) = operate [.ref l, .int (-1) u] (getItem (.ref l) (.int (-1) u)) := by with_unfolding_all rfl) :
    wpAny (model prog w) A (subscriptTail value slice (.ref l) (.int (-1) u)) Q E s := by
  refine tail_any hl.typeIs slot_list_getitem.lookup (wpAny_getItem_list_neg hl (by decide) (by rw [Array.size_push]; omega) (by decide) (x := x) ?_ h) hs
  have e : (-1 + ((arr.push x).size : Int)).toNat = arr.size := by rw [Array.size_push]; omega
  rw [e]
  simp
theorem item_only {prog : Program} {w : World} {A : Around} {Q E : Value → Shared → Prop} {s : Shared} {value slice : PySem.Expr} {l : Addr} {x : Value} {u : Tok}
    (hl : s.heap.IsList l #[x]) (h : Q x s)
    (hs : subscripted slice false (.ref l) (.int (-1) u) = operate [.ref l, .int (-1) u] (getItem (.ref l) (.int (-1) u)) := by with_unfolding_all rfl) :
    wpAny (model prog w) A (subscriptTail value slice (.ref l) (.int (-1) u)) Q E s := item_endF (arr := #[]) hl h hs
theorem fs_eight {fs : List Ent} (h : fs.map Ent.p = runs8) : ∃ d1 d2 d3 d4 d5 d6 d7 d8 : Ent, fs = [d1, d2, d3, d4, d5, d6, d7, d8] ∧ d1.p = (0, 1) ∧ d2.p = (0, 1) ∧ d3.p = (0, 2) ∧ d4.p = (0, 3) ∧ d5.p = (1, 1) ∧ d6.p = (1, 1) ∧ d7.p = (1, 2) ∧ d8.p = (1, 4) := by
  have hl : fs.length = 8 := by
    have := congrArg List.length h
    simpa [runs8] using this
  match fs, hl, h with
  | [d1, d2, d3, d4, d5, d6, d7, d8], _, h =>
    simp only [List.map_cons, List.map_nil, runs8, List.cons.injEq, and_true] at h
    exact ⟨d1, d2, d3, d4, d5, d6, d7, d8, rfl, h⟩
theorem Ent.obj_of {e : Ent} {a b : Int} (h : e.p = (a, b)) : e.obj = PySem.W.listOf #[.int a e.t, .int b e.u] 0 := by
  unfold Ent.obj
  rw [h]
theorem ite_while {l : List Int} {k : Int} {X Y : Prop} {I : Decidable ((atF l k == atF l (k - 1)) = true)} (T : ToldOk l) (B : BeginW l k) (t : BeginW l (k + 1) → (stopF l - (k + 1)).toNat < (stopF l - k).toNat → X) (f : RunsOk l k → Y) : @ite Prop ((atF l k == atF l (k - 1)) = true) I X Y := by
  by_cases h : (atF l k == atF l (k - 1)) = true
  · rw [if_pos h]
    exact t (begin_turn T B h) (begin_falls T B h)
  · rw [if_neg h]
    exact f (begin_end T B h)
theorem ite_both {c : Prop} [Decidable c] {X Y : Prop} (t : c → X) (f : ¬ c → Y) : ite c X Y := by
  by_cases h : c
  · rw [if_pos h]
    exact t h
  · rw [if_neg h]
    exact f h
theorem gen_toks {α : Type} {M : Model} {A : Around} {t : Sem α} {Q : α → Shared → Prop} {E : Value → Shared → Prop} {h g d o} {n : Nat} (H : ∀ tk, wpAny M A t Q E ⟨h, g, d, tk, o⟩) : wpAny M A t Q E ⟨h, g, d, n + 1 + 1, o⟩ := H _
end Mine
end
section
local macro_rules | `(tactic| walk_at "own nothing 0") => `(tactic| fail "none")
local macro_rules | `(tactic| walk_at "own nothing 1") => `(tactic| fail "none")
local macro_rules | `(tactic| walk_at "own nothing 2") => `(tactic| fail "none")
local macro_rules | `(tactic| walk_at "own nothing 3") => `(tactic| fail "none")
local macro_rules | `(tactic| walk_at "own nothing 4") => `(tactic| fail "none")
local macro_rules | `(tactic| walk_at "own nothing 5") => `(tactic| fail "none")
local macro_rules | `(tactic| walk_at "own nothing 6") => `(tactic| fail "none")
local macro_rules | `(tactic| walk_at "own nothing 7") => `(tactic| fail "none")
local macro_rules | `(tactic| walk_at "own nothing 8") => `(tactic| fail "none")
local macro_rules | `(tactic| walk_at "own nothing 9") => `(tactic| fail "none")
local macro_rules | `(tactic| walk_at "own nothing 10") => `(tactic| fail "none")
local macro_rules | `(tactic| walk_at "own nothing 11") => `(tactic| fail "none")
local macro_rules | `(tactic| walk_at "own nothing 12") => `(tactic| fail "none")
local macro_rules | `(tactic| walk_at "own nothing 13") => `(tactic| fail "none")
local macro_rules | `(tactic| walk_at "own nothing 14") => `(tactic| fail "none")
local macro_rules | `(tactic| walk_at "own nothing 15") => `(tactic| fail "none")
local macro_rules | `(tactic| walk_at "own nothing 16") => `(tactic| fail "none")
local macro_rules | `(tactic| walk_at "own nothing 17") => `(tactic| fail "none")
local macro_rules | `(tactic| walk_at "own nothing 18") => `(tactic| fail "none")
local macro_rules | `(tactic| walk_at "own nothing 19") => `(tactic| fail "none")
local macro_rules | `(tactic| k_room) => `(tactic| ktr_room)
namespace Mine
end Mine
open Mine
local macro_rules | `(tactic| walk_at "call builtin:list.append") => `(tactic| (k_here; dsimp only [List.cons_append, List.nil_append]; (with_reducible show wpAny _ _ (call (Value.builtin _) [Value.ref _, _]) _ _ _); walk_at "call builtin:list.append"))
local macro_rules | `(tactic| walk_at "subscriptTail") => `(tactic| (k_here; (with_reducible show wpAny _ _ (subscriptTail _ _ (Value.ref _) (Value.int _ _)) _ _ _); (with_reducible rename ToldOk _ => hTO); (with_unfolding_all refine' item_atF ?k1 ?k2 ?k3 ?k4 ?k5 ?_ ?k6; (case k1 => is_list); (case k2 => with_reducible assumption); (case k3 => exact hTO.len); (case k4 => first | exact Int.le_trans (by decide) (fmod15 _).1 | ((with_reducible rename BeginW _ _ => bW); have b0 := bW.k0; have b1 := bW.k1; have s1 := hTO.s1; omega)); (case k5 => first | exact (fmod15 _).2 | ((with_reducible rename BeginW _ _ => bW); have b0 := bW.k0; have b1 := bW.k1; have s1 := hTO.s1; omega)); (case k6 => with_unfolding_all rfl)); intro t9))
local macro_rules | `(tactic| walk_at "subscriptTail Name BinOp ref int") => `(tactic| (k_here; (with_reducible show wpAny _ _ (subscriptTail _ _ (Value.ref _) (Value.int _ _)) _ _ _); (with_reducible rename ToldOk _ => hTO); (with_unfolding_all refine' item_atF ?k1 ?k2 ?k3 ?k4 ?k5 ?_ ?k6; (case k1 => is_list); (case k2 => with_reducible assumption); (case k3 => exact hTO.len); (case k4 => first | exact Int.le_trans (by decide) (fmod15 _).1 | ((with_reducible rename BeginW _ _ => bW); have b0 := bW.k0; have b1 := bW.k1; have s1 := hTO.s1; omega)); (case k5 => first | exact (fmod15 _).2 | ((with_reducible rename BeginW _ _ => bW); have b0 := bW.k0; have b1 := bW.k1; have s1 := hTO.s1; omega)); (case k6 => with_unfolding_all rfl)); intro t9))
local macro_rules | `(tactic| walk_at "subscriptTail Name Name ref int") => `(tactic| (k_here; (with_reducible show wpAny _ _ (subscriptTail _ _ (Value.ref _) (Value.int _ _)) _ _ _); (with_reducible rename ToldOk _ => hTO); (with_unfolding_all refine' item_atF ?k1 ?k2 ?k3 ?k4 ?k5 ?_ ?k6; (case k1 => is_list); (case k2 => with_reducible assumption); (case k3 => exact hTO.len); (case k4 => first | exact Int.le_trans (by decide) (fmod15 _).1 | ((with_reducible rename BeginW _ _ => bW); have b0 := bW.k0; have b1 := bW.k1; have s1 := hTO.s1; omega)); (case k5 => first | exact (fmod15 _).2 | ((with_reducible rename BeginW _ _ => bW); have b0 := bW.k0; have b1 := bW.k1; have s1 := hTO.s1; omega)); (case k6 => with_unfolding_all rfl)); intro t9))
local macro_rules | `(tactic| walk_at "execs cons") => `(tactic| (k_here; with_reducible refine' gen_toks (fun tk9 => ?_)))
local macro_rules | `(tactic| walk_at "execs nil") => `(tactic| (k_here; with_reducible refine' gen_toks (fun tk9 => ?_)))
local macro_rules | `(tactic| walk_at "subscriptTail Name UnaryOp ref int") => `(tactic| (k_here; (with_reducible show wpAny _ _ (subscriptTail _ _ (Value.ref _) (Value.int (-1) _)) _ _ _); (with_unfolding_all refine' item_endF ?k1 ?_ ?k6; (case k1 => is_list); (case k6 => with_unfolding_all rfl))))
local macro_rules | `(tactic| walk_at "ite") => `(tactic| (k_here; (with_reducible rename ToldOk _ => hTO); (with_reducible rename BeginW _ _ => bW); (with_reducible refine' ite_while hTO bW (fun hB9 hM9 => ?_) (fun hR9 => ?_)); (all_goals clear bW)))
local macro_rules | `(tactic| walk_at "ite") => `(tactic| (k_here; (with_reducible rename RunsOk _ _ => hRO); (k_dflt (refine' ite_both (fun hq9 => ?_) (fun hq9 => ?_)))))
local macro_rules | `(tactic| walk_at "ite") => `(tactic| (k_here; (with_reducible rename ((vF _ _ 0 != pF _ _ 0) = true) => hv9); (k_dflt (refine' ite_pos (show _ from hv9) ?_))))
local macro_rules | `(tactic| walk_at "pyIter ref") => `(tactic| (k_here; (with_reducible show wpAny _ _ (pyIter (Value.ref _)) (fun it s₂ => LoopAtV _ _ _ _ _ _ _ _ _ it s₂) _ _); (rename Fr _ _ _ _ => lF'); (rename News _ _ _ _ => lN'); (rename IsRange _ _ _ _ _ _ _ _ => rgX); (rename RunsOk _ _ => hRO); (with_unfolding_all refine' loop_runs (vF _ _) (pF _ _) ?hh rgX ?hs ?hn lF' lN' ?hT hRO.v0 (fun c9 t9 h9 tk9 own9 hM9 hO9 F9 N9 hv9 => ?_) (fun i9 t9 h9 tk9 own9 arr9 c9 d9 a9 b9 ta9 tb9 hi9 hM9 hO9 hDd9 hs9 F9 N9 => ?_) (fun u9 h9 tk9 es9 c9 he9 F9 N9 => ?_); (case hh => rfl); (case hs => decide); (case hn => rfl); (case hT => first | assumption | (try dsimp only) <;> omega)); (all_goals clear lF' lN'); (all_goals (try k_fold))))
local macro_rules | `(tactic| walk_at "RunsStep") => `(tactic| (dsimp only [RunsStep]))
local macro_rules | `(tactic| walk_at "RunsEnd") => `(tactic| (k_dflt (refine' RunsEnd.intro ?F ?hm ?_; (case F => k_asm); (case hm => (intro z hz; exact if_neg hz)); first
  | ((with_reducible rename (_ ∧ _ ∧ AllLt _ _) => lX9); exact ⟨_, _, _, _, ⟨lX9.1, lX9.2.2⟩, by assumption⟩)
  | ((with_reducible rename (_ ∧ _ ∧ _ ∧ AllLt _ _) => lX9); (with_reducible rename ((_ != _) = true) => hq9); exact .inl ⟨hq9, _, _, _, _, ⟨lX9.1, lX9.2.1, lX9.2.2.2⟩, by assumption⟩)
  | ((with_reducible rename (¬ ((_ != _) = true)) => hq9); exact .inr ⟨Bool.eq_false_iff.mpr hq9, _, by assumption⟩))))
local macro_rules | `(tactic| walk_at "call builtin:sorted") => `(tactic| (k_here; (with_reducible rename RunsOk _ _ => hRO); (with_reducible rename (_ = (runsN _ _ 15).reverse) => hes); k_dflt (refine' sorted_ents ?hu ?F ?N (.head _) (fun q hq => .tail _ hq) ?hs (fun D9 c9 h9 fs9 hfs9 F9 N9 => ?_); (case F => k_asm); (case N => k_asm); (case hu => first | ktr_units | k_units); (case hs => (rw [hes]; exact hRO.so)); (obtain ⟨d1, d2, d3, d4, d5, d6, d7, d8, e9, p1, p2, p3, p4, p5, p6, p7, p8⟩ := fs_eight hfs9); (subst e9); (simp only [ledE, refsE, List.map_cons, List.map_nil, Ent.obj_of p1, Ent.obj_of p2, Ent.obj_of p3, Ent.obj_of p4, Ent.obj_of p5, Ent.obj_of p6, Ent.obj_of p7, Ent.obj_of p8] at N9))))
namespace Mine
set_option maxHeartbeats 4000000 in
theorem runs_says : ∀ (w : World) (p : Program) (loose : List PySem.Str) (mean : ExcName → Option Value) (mg mb : PySem.Str → Option Value) (o b : Int) (Ta : Addr) (cT : Nat) (vs : List Value) (row bits : Int) (told fours : List Int)
    (dp un : Nat) (gd : Option (List Code)) (cn : PySem.Str) (cs : Scope) (a : Addr) (ccd : Value) (cl : List (PySem.Str × Addr)) (outer : List Env) (A₀ : Around) (base h₀ : Heap) (L : Addr) (m : PySem.Str → Option Value) (s : Shared) (Q E : Value → Shared → Prop),
    Below A₀ base outer h₀ → Fr h₀ L s.heap m → (Hd02.heap_39 w.params).In h₀ → News h₀ L s.heap [(Ta, PySem.W.listOf vs.toArray cT)] →
    Top p loose mean mg mb h₀ → cs.kind = .function → dp + 20 < recursionLimit → un + 200 < cLine →
    IntsAre vs told → Turned o b (rangeKs 0 (15 - 0 : Int).toNat).length told row bits fours → (o = 4 ∨ o = 1) → 1 ≤ b → b ≤ 15 →
    (∀ (D d1 d2 d3 d4 d5 d6 d7 d8 : Addr) (t1 t2 t3 t4 t5 t6 t7 t8 u1 u2 u3 u4 u5 u6 u7 u8 : Tok) (c : Nat) (h' : Heap) (tk' : Nat), Fr h₀ L h' m → News h₀ L h' [(D, PySem.W.listOf #[.ref d1, .ref d2, .ref d3, .ref d4, .ref d5, .ref d6, .ref d7, .ref d8] c), (d1, PySem.W.listOf #[.int 0 t1, .int 1 u1] 0), (d2, PySem.W.listOf #[.int 0 t2, .int 1 u2] 0), (d3, PySem.W.listOf #[.int 0 t3, .int 2 u3] 0), (d4, PySem.W.listOf #[.int 0 t4, .int 3 u4] 0), (d5, PySem.W.listOf #[.int 1 t5, .int 1 u5] 0), (d6, PySem.W.listOf #[.int 1 t6, .int 1 u6] 0), (d7, PySem.W.listOf #[.int 1 t7, .int 2 u7] 0), (d8, PySem.W.listOf #[.int 1 t8, .int 4 u8] 0)] → Q (.ref D) { s with heap := h', toks := tk' }) →
    wpAny (model PySem.Challenge.rw_xm0034_02.row.prog w) (ktrTop dp un gd cn cs L a ccd cl outer) (call (.ref 267) [.ref Ta]) Q E s := by
  k_fill
  intro w p loose mean mg mb o b Ta cT vs row bits told fours dp un gd cn cs a ccd cl outer A₀ base h₀ L m s Q E hB hF hX hN hT hk hd hu hI hTu ho hb0 hb1 hret
  have hTO := told_ok hTu ho hb0 hb1
  clear hTu ho hb0 hb1
  k_with "exec While Compare cons nil" => k_while (fun told begin => BeginW told begin) (fun told begin => (stopF told - begin).toNat) "begin"
  k_with "state" => first
    | with_reducible exact begin_start (by assumption)
    | with_reducible assumption
  k_with "measure" => first
    | with_reducible assumption
  refine wpAny_call ?_
  k_dflt cell_enter
  k_steps
  all_goals exact hret _ _ _ _ _ _ _ _ _ _ _ _ _ _ _ _ _ _ _ _ _ _ _ _ _ _ _ _ (by k_asm) (by k_asm)
  k_with_none
end Mine
end
section
local macro_rules | `(tactic| k_room) => `(tactic| ktr_room)
namespace Mine
def pick (is : List Nat) (l : List (Addr × Obj)) : List (Addr × Obj) := is.filterMap fun i => l[i]?
def Desc : List (Addr × Obj) → Prop
  | [] => True
  | p :: r => (match r with | [] => True | q :: _ => @LT.lt Nat _ q.1 p.1) ∧ Desc r
theorem news_pick {h₀ : Heap} {L : Addr} {h : Heap} {l : List (Addr × Obj)} {G : Prop} (is : List Nat) (N : News h₀ L h l) (D : Desc (pick is l)) (k : News h₀ L h (pick is l) → Desc (pick is l) → G) : G :=
  k (fun p hp => by
    obtain ⟨i, _, hi⟩ := List.mem_filterMap.mp hp
    exact N p (List.mem_of_getElem? hi)) D
def T0 (r : Int) : Nat → Int
  | 0 => r
  | n + 1 => turnedF (T0 r n)
def rows0 (r : Int) : Nat → List Int
  | 0 => [r]
  | n + 1 => rows0 r n ++ [T0 r (n + 1)]
structure RowsIs (r : Int) (n : Nat) (rows : List Int) : Prop where
  e : rows = rows0 r n
theorem T0_rng {r : Int} (h : 0 ≤ r ∧ r < 32768) : ∀ n, 0 ≤ T0 r n ∧ T0 r n < 32768
  | 0 => h
  | n + 1 => turned_facts (T0_rng h n)
theorem rows_at (r : Int) : ∀ n, (rows0 r n).length = n + 1 ∧ (rows0 r n).getD n 0 = T0 r n
  | 0 => ⟨rfl, rfl⟩
  | n + 1 => by
    have h := (rows_at r n).1
    unfold rows0
    refine ⟨by simp [h], ?_⟩
    rw [List.getD_eq_getElem?_getD, List.getElem?_append_right (by omega), h]
    simp
theorem rows_pre {r k : Int} {n : Nat} {rows : List Int} (hk : k = 0 + (n : Int)) (R : RowsIs r n rows) (h0 : 0 ≤ r) (h1 : r < 32768) : 0 ≤ rows.getD k.toNat 0 ∧ rows.getD k.toNat 0 < 32768 := by
  have e : k.toNat = n := by omega
  rw [R.e, e, (rows_at r n).2]
  exact T0_rng ⟨h0, h1⟩ n
theorem rows_start {r : Int} (h0 : 0 ≤ r) (h1 : r < 32768) : RowsIs r ([] : List Int).length [r] ∧ (0 ≤ r ∧ r < 32768) ∧ [r].length = ([] : List Int).length + 1 := ⟨⟨rfl⟩, ⟨h0, h1⟩, rfl⟩
theorem rows_turn {r k : Int} {pre rows : List Int} (hk : k = 0 + (pre.length : Int)) (R : RowsIs r pre.length rows) (h0 : 0 ≤ r) (h1 : r < 32768) (hl : rows.length = pre.length + 1) :
    RowsIs r (pre ++ [k]).length (rows ++ [turnedF (rows.getD k.toNat 0)]) ∧ (0 ≤ r ∧ r < 32768) ∧ (rows ++ [turnedF (rows.getD k.toNat 0)]).length = (pre ++ [k]).length + 1 := by
  have e : k.toNat = pre.length := by omega
  have e2 : (pre ++ [k]).length = pre.length + 1 := by simp
  refine ⟨⟨?_⟩, ⟨h0, h1⟩, by simp [hl]⟩
  rw [e2, e]
  have q : rows.getD pre.length 0 = T0 r pre.length := by rw [R.e]; exact (rows_at r pre.length).2
  rw [q, R.e]
  rfl
def r4 : List Int := [0, 31432, 15716, 18348, 7858, 25722, 9174, 22814, 30097, 3929, 18677, 12861, 27427, 4587, 22087, 11407]
def r1 : List Int := [0, 19832, 27588, 9916, 13794, 30874, 24102, 4958, 6897, 22409, 28981, 15437, 12051, 25195, 17623, 2479]
def litRow (o b : Int) : Int := if o = 4 then r4.getD b.toNat 0 else r1.getD b.toNat 0
theorem row_lit {o b : Int} (ho : o = 4 ∨ o = 1) (h0 : 1 ≤ b) (h1 : b ≤ 15) : rowF o b 15 = litRow o b := by
  have q := all_b (P := fun o b => decide (rowF o b 15 = litRow o b)) (by decide +kernel) ho h0 h1
  exact of_decide_eq_true q
theorem row_is {o b row bits : Int} {told fours : List Int} (T : Turned o b (rangeKs 0 (15 - 0 : Int).toNat).length told row bits fours) (ho : o = 4 ∨ o = 1) (h0 : 1 ≤ b) (h1 : b ≤ 15) : row = litRow o b := by
  have h := T.h2
  rw [len15] at h
  rw [h]
  exact row_lit ho h0 h1
theorem len14 : (rangeKs 0 (14 - 0 : Int).toNat).length = 14 := by decide +kernel
theorem rows_any {r : Int} (h : 0 ≤ r ∧ r < 32768) : ∀ (n i : Nat), 0 ≤ (rows0 r n).getD i 0 ∧ (rows0 r n).getD i 0 < 32768
  | 0, 0 => h
  | 0, i + 1 => by simp [rows0]
  | n + 1, i => by
    have hl := (rows_at r n).1
    unfold rows0
    rw [List.getD_eq_getElem?_getD]
    by_cases hi : i < n + 1
    · rw [List.getElem?_append_left (by omega), ← List.getD_eq_getElem?_getD]
      exact rows_any h n i
    · rw [List.getElem?_append_right (by omega)]
      by_cases he : i = n + 1
      · subst he
        rw [hl, Nat.sub_self]
        exact T0_rng h (n + 1)
      · rw [List.getElem?_eq_none (by simp; omega)]
        decide
theorem rows_pre' {r : Int} {n i : Nat} {rows : List Int} (R : RowsIs r n rows) (h0 : 0 ≤ r) (h1 : r < 32768) : 0 ≤ rows.getD i 0 ∧ rows.getD i 0 < 32768 := by
  rw [R.e]
  exact rows_any ⟨h0, h1⟩ n i
theorem c_turned {o b row bits : Int} {told fours rows : List Int} (T : Turned o b (rangeKs 0 (15 - 0 : Int).toNat).length told row bits fours) (R : RowsIs row (rangeKs 0 (14 - 0 : Int).toNat).length rows) (ho : o = 4 ∨ o = 1) (h0 : 1 ≤ b) (h1 : b ≤ 15) :
    ¬ ((turnedF (rows.getD (Int.toNat 14) 0) != row) = true) := by
  have e := row_is T ho h0 h1
  rw [R.e, len14, e]
  have q := all_b (P := fun o b => ! (turnedF ((rows0 (litRow o b) 14).getD (Int.toNat 14) 0) != litRow o b)) (by decide +kernel) ho h0 h1
  simpa using q
theorem rows_lit {o b row bits : Int} {told fours rows : List Int} (T : Turned o b (rangeKs 0 (15 - 0 : Int).toNat).length told row bits fours) (R : RowsIs row (rangeKs 0 (14 - 0 : Int).toNat).length rows) (ho : o = 4 ∨ o = 1) (h0 : 1 ≤ b) (h1 : b ≤ 15) :
    row = litRow o b ∧ rows = rows0 (litRow o b) 14 := by
  have e := row_is T ho h0 h1
  refine ⟨e, ?_⟩
  rw [← e, R.e, len14]
def manyB (o b : Int) : Bool := ((List.range 15).drop 1).all fun (i : Nat) => onesF (Builtin.bitXor (litRow o b) ((rows0 (litRow o b) 14).getD i 0)) == 8 && (rows0 (litRow o b) 14).any fun x => x == Builtin.bitXor (litRow o b) ((rows0 (litRow o b) 14).getD i 0)
theorem many_all {o b : Int} (ho : o = 4 ∨ o = 1) (h0 : 1 ≤ b) (h1 : b ≤ 15) : manyB o b = true := all_b (P := manyB) (by decide +kernel) ho h0 h1
theorem many_at {o b row bits k : Int} {told fours rows rows' : List Int} (e' : rows' = rows) (T : Turned o b (rangeKs 0 (15 - 0 : Int).toNat).length told row bits fours) (R : RowsIs row (rangeKs 0 (14 - 0 : Int).toNat).length rows) (ho : o = 4 ∨ o = 1) (h0 : 1 ≤ b) (h1 : b ≤ 15) (hk : 1 ≤ k) (hk' : k ≤ 14) :
    onesF (Builtin.bitXor row (rows'.getD k.toNat 0)) = 8 ∧ (rows'.any fun x => x == Builtin.bitXor row (rows'.getD k.toNat 0)) = true := by
  obtain ⟨e1, e2⟩ := rows_lit T R ho h0 h1
  have q := many_all ho h0 h1
  have m : k.toNat ∈ (List.range 15).drop 1 := by
    have : k.toNat < 15 := by omega
    have h1 : 1 ≤ k.toNat := by omega
    generalize k.toNat = n at this h1
    match n, this, h1 with
    | 1, _, _ | 2, _, _ | 3, _, _ | 4, _, _ | 5, _, _ | 6, _, _ | 7, _, _ | 8, _, _ | 9, _, _ | 10, _, _ | 11, _, _ | 12, _, _ | 13, _, _ | 14, _, _ => decide
  have q2 := (List.all_eq_true.mp q) _ m
  obtain ⟨q3, q4⟩ := Bool.and_eq_true_iff.mp q2
  rw [e', e1, e2]
  exact ⟨by simpa using q3, q4⟩
theorem c_many {o b row bits k : Int} {told fours rows rows' : List Int} (e' : rows' = rows) (T : Turned o b (rangeKs 0 (15 - 0 : Int).toNat).length told row bits fours) (R : RowsIs row (rangeKs 0 (14 - 0 : Int).toNat).length rows) (ho : o = 4 ∨ o = 1) (h0 : 1 ≤ b) (h1 : b ≤ 15) (hk : 1 ≤ k) (hk' : k ≤ 14) :
    ¬ ((onesF (Builtin.bitXor row (rows'.getD k.toNat 0)) != 8) = true) := by
  rw [(many_at e' T R ho h0 h1 hk hk').1]
  decide
theorem c_many2 {o b row bits k : Int} {told fours rows rows' : List Int} (e' : rows' = rows) (T : Turned o b (rangeKs 0 (15 - 0 : Int).toNat).length told row bits fours) (R : RowsIs row (rangeKs 0 (14 - 0 : Int).toNat).length rows) (ho : o = 4 ∨ o = 1) (h0 : 1 ≤ b) (h1 : b ≤ 15) (hk : 1 ≤ k) (hk' : k ≤ 14) :
    ¬ ((!(rows'.any fun x => x == Builtin.bitXor row (rows'.getD k.toNat 0))) = true) := by
  rw [(many_at e' T R ho h0 h1 hk hk').2]
  decide
theorem rows_pre2 {r : Int} {n i : Nat} {rows rows' : List Int} (e' : rows' = rows) (R : RowsIs r n rows) (h0 : 0 ≤ r) (h1 : r < 32768) : 0 ≤ rows'.getD i 0 ∧ rows'.getD i 0 < 32768 := by
  rw [e']
  exact rows_pre' R h0 h1
theorem eq_true {prog : Program} {w : World} {A : Around} {Q E : Value → Shared → Prop} {s : Shared} {a b : Int} {t u : Tok} (h : a = b) (q : Q (.bool true) s) : wpAny (model prog w) A (compareOp .Eq (.int a t) (.int b u)) Q E s :=
  eq_int (by rw [h, beq_self_eq_true]; exact q)
def endB (o b : Int) : Bool := Builtin.bitXor (litRow o b) ((rows0 (litRow o b) 14).getD (if o = 1 then 3 else 1) 0) == (rows0 (litRow o b) 14).getD 4 0
theorem end_all {o b : Int} (ho : o = 4 ∨ o = 1) (h0 : 1 ≤ b) (h1 : b ≤ 15) : endB o b = true := all_b (P := endB) (by decide +kernel) ho h0 h1
theorem c_end3 {o b row bits : Int} {told fours rows rows' : List Int} (e' : rows' = rows) (T : Turned o b (rangeKs 0 (15 - 0 : Int).toNat).length told row bits fours) (R : RowsIs row (rangeKs 0 (14 - 0 : Int).toNat).length rows) (ho : o = 4 ∨ o = 1) (h0 : 1 ≤ b) (h1 : b ≤ 15) (hq : (o == 1) = true) : Builtin.bitXor row (rows'.getD (Int.toNat 3) 0) = rows'.getD (Int.toNat 4) 0 := by
  obtain ⟨e1, e2⟩ := rows_lit T R ho h0 h1
  have q := end_all ho h0 h1
  unfold endB at q
  rw [if_pos (by simpa using hq)] at q
  rw [e', e1, e2]
  exact eq_of_beq q
theorem c_end1 {o b row bits : Int} {told fours rows rows' : List Int} (e' : rows' = rows) (T : Turned o b (rangeKs 0 (15 - 0 : Int).toNat).length told row bits fours) (R : RowsIs row (rangeKs 0 (14 - 0 : Int).toNat).length rows) (ho : o = 4 ∨ o = 1) (h0 : 1 ≤ b) (h1 : b ≤ 15) (hq : (o == 1) = false) : Builtin.bitXor row (rows'.getD (Int.toNat 1) 0) = rows'.getD (Int.toNat 4) 0 := by
  obtain ⟨e1, e2⟩ := rows_lit T R ho h0 h1
  have q := end_all ho h0 h1
  unfold endB at q
  rw [if_neg (by simpa using hq)] at q
  rw [e', e1, e2]
  exact eq_of_beq q
end Mine
open Mine
local macro_rules | `(tactic| walk_at "call ref") => `(tactic| (k_here; (with_reducible show wpAny _ _ (call (Value.ref 72) [_, _]) _ _ _); k_dflt (refine' says_use (fits_says _ _ _ _ _ _ _ _ _) ?k1 ?k2 ?k3 ?k4 ?k5 ?kK ?kp ?kd ?ku ?_; (case k1 => k_asm); (case k2 => k_asm); (case k3 => k_asm); (case k4 => k_asm); (case k5 => k_asm); (case kK => first | exact rfl | assumption); (case kp => first | exact True.intro | k_extra "pre" | ((try dsimp only); first | assumption | omega | l_fact)); (case kd => ktr_room); (case ku => ktr_units); intro p9 t9 h9 tk9 F9 N9; (try dsimp only); (try k_fold))))
local macro_rules | `(tactic| walk_at "call ref") => `(tactic| (k_here; (with_reducible show wpAny _ _ (call (Value.ref 79) [_, _]) _ _ _); k_dflt (refine' says_use (whole_says _ _ _ _ _ _ _ _ _) ?k1 ?k2 ?k3 ?k4 ?k5 ?kK ?kp ?kd ?ku ?_; (case k1 => k_asm); (case k2 => k_asm); (case k3 => k_asm); (case k4 => k_asm); (case k5 => k_asm); (case kK => first | exact rfl | assumption); (case kp => first | exact True.intro | k_extra "pre" | ((try dsimp only); first | assumption | omega | l_fact)); (case kd => ktr_room); (case ku => ktr_units); intro p9 t9 h9 tk9 F9 N9; (try dsimp only); (try k_fold))))
local macro_rules | `(tactic| walk_at "call ref") => `(tactic| (k_here; (with_reducible show wpAny _ _ (call (Value.ref 220) [.str (Str.ofString "AND") _, _, _, _]) _ _ _); k_dflt (refine' says_use (and_says _ _ _ _ _ _ _ _ _ _ _ _) ?k1 ?k2 ?k3 ?k4 ?k5 ?kK ?kp ?kd ?ku ?_; (case k1 => k_asm); (case k2 => k_asm); (case k3 => k_asm); (case k4 => k_asm); (case k5 => k_asm); (case kK => first | exact rfl | assumption); (case kp => first | exact True.intro | k_extra "pre" | ((try dsimp only); first | assumption | omega | l_fact)); (case kd => ktr_room); (case ku => ktr_units); intro p9 t9 h9 tk9 F9 N9; (try dsimp only); (try k_fold))))
local macro_rules | `(tactic| walk_at "call ref") => `(tactic| (k_here; (with_reducible show wpAny _ _ (call (Value.ref 220) [.str (Str.ofString "XOR") _, _, _, _]) _ _ _); k_dflt (refine' says_use (xor_says _ _ _ _ _ _ _ _ _ _ _ _) ?k1 ?k2 ?k3 ?k4 ?k5 ?kK ?kp ?kd ?ku ?_; (case k1 => k_asm); (case k2 => k_asm); (case k3 => k_asm); (case k4 => k_asm); (case k5 => k_asm); (case kK => first | exact rfl | assumption); (case kp => first | exact True.intro | k_extra "pre" | ((try dsimp only); first | assumption | omega | l_fact)); (case kd => ktr_room); (case ku => ktr_units); intro p9 t9 h9 tk9 F9 N9; (try dsimp only); (try k_fold))))
local macro_rules | `(tactic| walk_at "call ref") => `(tactic| (k_here; (with_reducible show wpAny _ _ (call (Value.ref 157) [_]) _ _ _); k_dflt (refine' says_use (is_whole_says _ _ _ _ _ _ _ _) ?k1 ?k2 ?k3 ?k4 ?k5 ?kK ?kp ?kd ?ku ?_; (case k1 => k_asm); (case k2 => k_asm); (case k3 => k_asm); (case k4 => k_asm); (case k5 => k_asm); (case kK => first | exact rfl | assumption); (case kp => first | exact True.intro | k_extra "pre" | ((try dsimp only); first | assumption | omega | l_fact)); (case kd => ktr_room); (case ku => ktr_units); intro p9 t9 h9 tk9 F9 N9; (try dsimp only); (try k_fold))))
local macro_rules | `(tactic| walk_at "call ref") => `(tactic| (k_here; (with_reducible show wpAny _ _ (call (Value.ref 164) [_, _, _]) _ _ _); k_dflt (refine' says_use (settled_says _ _ _ _ _ _ _ _ _ _) ?k1 ?k2 ?k3 ?k4 ?k5 ?kK ?kp ?kd ?ku ?_; (case k1 => k_asm); (case k2 => k_asm); (case k3 => k_asm); (case k4 => k_asm); (case k5 => k_asm); (case kK => first | exact rfl | assumption); (case kp => first | exact True.intro | k_extra "pre" | ((try dsimp only); first | assumption | omega | l_fact)); (case kd => ktr_room); (case ku => ktr_units); intro p9 t9 h9 tk9 F9 N9; (try dsimp only); (try k_fold))))
local macro_rules | `(tactic| walk_at "call ref") => `(tactic| (k_here; (with_reducible show wpAny _ _ (call (Value.ref 213) [.str (Str.ofString "*") _, _, _, _, _]) _ _ _); k_dflt (refine' says_use (mul_says _ _ _ _ _ _ _ _ _ _ _ _ _) ?k1 ?k2 ?k3 ?k4 ?k5 ?kK ?kp ?kd ?ku ?_; (case k1 => k_asm); (case k2 => k_asm); (case k3 => k_asm); (case k4 => k_asm); (case k5 => k_asm); (case kK => first | exact rfl | assumption); (case kp => first | exact True.intro | k_extra "pre" | ((try dsimp only); first | assumption | omega | l_fact)); (case kd => ktr_room); (case ku => ktr_units); intro p9 t9 h9 tk9 F9 N9; (try dsimp only); (try k_fold))))
local macro_rules | `(tactic| walk_at "call ref") => `(tactic| (k_here; (with_reducible show wpAny _ _ (call (Value.ref 213) [.str (Str.ofString "\\") _, _, _, _, _]) _ _ _); k_dflt (refine' says_use (quot_says _ _ _ _ _ _ _ _ _ _ _ _) ?k1 ?k2 ?k3 ?k4 ?k5 ?kK ?kp ?kd ?ku ?_; (case k1 => k_asm); (case k2 => k_asm); (case k3 => k_asm); (case k4 => k_asm); (case k5 => k_asm); (case kK => first | exact rfl | assumption); (case kp => first | exact True.intro | k_extra "pre" | ((try dsimp only); first | assumption | omega | l_fact)); (case kd => ktr_room); (case ku => ktr_units); intro p9 t9 h9 tk9 F9 N9; (try dsimp only); (try k_fold))))
local macro_rules | `(tactic| walk_at "call ref") => `(tactic| (k_here; (with_reducible show wpAny _ _ (call (Value.ref 234) [_, _]) _ _ _); k_dflt (refine' says_use (is_one_says _ _ _ _ _ _ _ _ _ _) ?k1 ?k2 ?k3 ?k4 ?k5 ?kK ?kp ?kd ?ku ?_; (case k1 => k_asm); (case k2 => k_asm); (case k3 => k_asm); (case k4 => k_asm); (case k5 => k_asm); (case kK => first | exact rfl | assumption); (case kp => first | exact True.intro | k_extra "pre" | ((try dsimp only); first | assumption | omega | l_fact)); (case kd => ktr_room); (case ku => ktr_units); intro p9 t9 h9 tk9 F9 N9; (try dsimp only); (try k_fold))))
local macro_rules | `(tactic| walk_at "call ref") => `(tactic| (k_here; (with_reducible show wpAny _ _ (call (Value.ref 241) [_, _]) _ _ _); k_dflt (refine' says_use (next_says _ _ _ _ _ _ _ _ _ _) ?k1 ?k2 ?k3 ?k4 ?k5 ?kK ?kp ?kd ?ku ?_; (case k1 => k_asm); (case k2 => k_asm); (case k3 => k_asm); (case k4 => k_asm); (case k5 => k_asm); (case kK => first | exact rfl | assumption); (case kp => first | exact True.intro | k_extra "pre" | ((try dsimp only); first | assumption | omega | l_fact)); (case kd => ktr_room); (case ku => ktr_units); intro p9 t9 h9 tk9 F9 N9; (try dsimp only); (try k_fold))))
local macro_rules | `(tactic| walk_at "call ref") => `(tactic| (k_here; (with_reducible show wpAny _ _ (call (Value.ref 248) [_, _]) _ _ _); k_dflt (refine' says_use (back_says _ _ _ _ _ _ _ _ _ _) ?k1 ?k2 ?k3 ?k4 ?k5 ?kK ?kp ?kd ?ku ?_; (case k1 => k_asm); (case k2 => k_asm); (case k3 => k_asm); (case k4 => k_asm); (case k5 => k_asm); (case kK => first | exact rfl | assumption); (case kp => first | exact True.intro | k_extra "pre" | ((try dsimp only); first | assumption | omega | l_fact)); (case kd => ktr_room); (case ku => ktr_units); intro p9 t9 h9 tk9 F9 N9; (try dsimp only); (try k_fold))))
local macro_rules | `(tactic| walk_at "call ref") => `(tactic| (k_here; (with_reducible show wpAny _ _ (call (Value.ref 255) [_]) _ _ _); k_dflt (refine' says_use (turned_says _ _ _ _ _ _ _ _) ?k1 ?k2 ?k3 ?k4 ?k5 ?kK ?kp ?kd ?ku ?_; (case k1 => k_asm); (case k2 => k_asm); (case k3 => k_asm); (case k4 => k_asm); (case k5 => k_asm); (case kK => first | exact rfl | assumption); (case kp => first | exact True.intro | k_extra "pre" | ((try dsimp only); first | assumption | omega | l_fact)); (case kd => ktr_room); (case ku => ktr_units); intro p9 t9 h9 tk9 F9 N9; (try dsimp only); (try k_fold))))
local macro_rules | `(tactic| walk_at "call ref") => `(tactic| (k_here; (with_reducible show wpAny _ _ (call (Value.ref 260) [_]) _ _ _); k_dflt (refine' says_use (ones_says _ _ _ _ _ _ _ _) ?k1 ?k2 ?k3 ?k4 ?k5 ?kK ?kp ?kd ?ku ?_; (case k1 => k_asm); (case k2 => k_asm); (case k3 => k_asm); (case k4 => k_asm); (case k5 => k_asm); (case kK => first | exact rfl | assumption); (case kp => first | exact True.intro | k_extra "pre" | ((try dsimp only); first | assumption | omega | l_fact)); (case kd => ktr_room); (case ku => ktr_units); intro p9 t9 h9 tk9 F9 N9; (try dsimp only); (try k_fold))))
local macro_rules | `(tactic| walk_at "call ref") => `(tactic| (k_here; (with_reducible show wpAny _ _ (call (Value.ref 227) _) _ _ _); k_dflt (refine' begun_says _ _ _ _ _ _ _ _ _ _ _ _ _ _ _ _ _ _ _ _ _ _ _ _ _ _ _ _ _ _ _ _ _ ?k1 ?k2 ?k3 ?k4 ?k5 ?kK ?kd ?ku ?p1 ?p2 ?p3 ?p4 ?p5 ?p6 ?p7 ?_; (case k1 => k_asm); (case k2 => k_asm); (case k3 => k_asm); (case k4 => k_asm); (case k5 => k_asm); (case kK => first | exact rfl | assumption); (case p5 => with_reducible assumption); (case p1 => decide); (case p2 => decide); (case p3 => decide); (case p4 => decide); (case p6 => (simp only [List.length_take]; omega)); (case p7 => ((try dsimp only); omega)); (case kd => ktr_room); (case ku => ktr_units); intro y9 t9 tB9 h9 tk9 yl9 yh9 F9 N9; (try dsimp only); (try k_fold))))
local macro_rules | `(tactic| walk_at "call type:list") => `(tactic| (k_here; (with_reducible show wpAny _ _ (call (Value.type _) [Value.ref _]) _ _ _); (rename IsRange _ _ _ _ _ _ _ _ => rgX); (with_unfolding_all refine' kll_range (n := 15) ?k0 ?k1 ?k2 ?k3 ?k4 ?k5 ?k6 ?_; (case k0 => rfl); (case k1 => k_asm); (case k2 => k_asm); (case k3 => exact rgX); (case k4 => decide); (case k5 => exact rfl); (case k6 => exact Nat.le_of_ble_eq_true rfl)); intro D' vs' c' h' tk' F' N' l1 hI'; (try k_lt l1)))
local macro_rules | `(tactic| walk_at "compareOp NotEq ref ref") => `(tactic| (k_here; (with_reducible rename IntsAre _ (rangeKs _ _) => hRR); (with_reducible show wpAny _ _ (compareOp CmpOp.NotEq (Value.ref _) (Value.ref _)) _ _ _); k_dflt (refine' ne_intsK ?k1 ?k2 ?k3 hRR ?k5 ?_; (case k1 => exact News.isList (by k_asm) (by k_mem)); (case k2 => with_reducible assumption); (case k3 => exact News.isList (by k_asm) (by k_mem)); (case k5 => units_room))))
local macro_rules | `(tactic| walk_at "ite") => `(tactic| (k_here; (fail_if_success (with_reducible show ite (isOneB _ 8 = true) _ _)); (fail_if_success (with_reducible show ite ((_ == (1 : Int)) = true) _ _)); (first
  | (with_reducible refine' ite_neg Bool.false_ne_true ?_)
  | (with_reducible refine' ite_neg (c_back ?a ?b ?c ?d ?e) ?_; (case a => assumption); (case b => assumption); (case c => assumption); (case d => assumption); (case e => assumption))
  | (with_reducible refine' ite_neg (c_sorted ?a ?b ?c ?d ?e ?f) ?_; (case a => assumption); (case b => assumption); (case c => assumption); (case d => assumption); (case e => assumption); (case f => assumption); (have e15 := len15); (have r15 := row15 (by assumption)))
  | (with_reducible refine' ite_neg (c_cycle ?a ?b ?c ?d) ?_; (case a => assumption); (case b => assumption); (case c => assumption); (case d => assumption))
  | (with_reducible refine' ite_neg (c_ones ?a ?b ?c ?d) ?_; (case a => assumption); (case b => assumption); (case c => assumption); (case d => assumption))
  | (with_reducible refine' ite_neg (c_turned ?a ?b ?c ?d ?e) ?_; (case a => assumption); (case b => assumption); (case c => assumption); (case d => assumption); (case e => assumption))
  | (with_reducible refine' ite_neg (c_many ?a ?b ?c ?d ?e ?f ?g ?h) ?_; (case a => first | assumption | rfl); (case b => assumption); (case c => assumption); (case d => assumption); (case e => assumption); (case f => assumption); (case g => omega); (case h => omega))
  | (with_reducible refine' ite_neg (c_many2 ?a ?b ?c ?d ?e ?f ?g ?h) ?_; (case a => first | assumption | rfl); (case b => assumption); (case c => assumption); (case d => assumption); (case e => assumption); (case f => assumption); (case g => omega); (case h => omega))
  | (with_reducible refine' ite_pos rfl ?_)
  | fail "none")))
local macro_rules | `(tactic| walk_at "binaryOp Mult int int") => `(tactic| (k_here; (with_reducible refine' mul_told ?a ?b ?c ?_; (case a => assumption); (case b => assumption); (case c => first | exact .inl rfl | exact .inr rfl))))
local macro_rules | `(tactic| walk_at "subscriptTail") => `(tactic| (k_here; (first | (with_reducible show wpAny _ _ (subscriptTail _ _ (Value.ref _) (Value.int 15 _)) _ _ _) | (with_reducible show wpAny _ _ (subscriptTail _ _ (Value.ref _) (Value.int 0 _)) _ _ _)); (with_unfolding_all refine' item_at ?k1 ?k2 ?k3 ?k4 ?k5 ?_ ?k6; (case k1 => is_list); (case k2 => with_reducible assumption); (case k3 => decide); (case k4 => omega); (case k5 => decide); (case k6 => with_unfolding_all rfl)); intro t9))
local macro_rules | `(tactic| walk_at "call ref") => `(tactic| (k_here; (with_reducible show wpAny _ _ (call (Value.ref 267) _) _ _ _); ((rename News _ _ _ _ => hN); (refine' news_pick [4] hN ?hD ?_); (case hD => (simp only [pick, Desc, List.filterMap_cons, List.filterMap_nil, List.getElem?_cons_succ, List.getElem?_cons_zero, List.getElem?_nil, and_true, true_and]; first | done | omega)); intro nX dX; (simp only [pick, Desc, List.filterMap_cons, List.filterMap_nil, List.getElem?_cons_succ, List.getElem?_cons_zero, List.getElem?_nil, and_true, true_and] at nX dX); revert nX; (repeat ((with_reducible rename News _ _ _ _ => x9); clear x9)); (repeat ((with_reducible rename (@LT.lt Nat _ _ _ ∧ _) => x9); clear x9)); (repeat ((with_reducible rename (@LT.lt Nat _ _ _) => x9); clear x9)); (repeat ((with_reducible rename (@Ne Nat _ _ ∧ _) => x9); clear x9)); intro nX); k_dflt (refine' runs_says _ _ _ _ _ _ _ _ _ _ _ _ _ _ _ _ _ _ _ _ _ _ _ _ _ _ _ _ _ _ _ _ ?k1 ?k2 ?k3 ?k4 ?k5 ?kK ?kd ?ku ?p1 ?p2 ?p3 ?p4 ?p5 ?_; (case k1 => k_asm); (case k2 => k_asm); (case k3 => k_asm); (case k4 => k_asm); (case k5 => k_asm); (case kK => first | exact rfl | assumption); (case p1 => with_reducible assumption); (case p2 => with_reducible assumption); (case p3 => with_reducible assumption); (case p4 => with_reducible assumption); (case p5 => with_reducible assumption); (case kd => ktr_room); (case ku => ktr_units); intro D9 x1 x2 x3 x4 x5 x6 x7 x8 t1 t2 t3 t4 t5 t6 t7 t8 u1 u2 u3 u4 u5 u6 u7 u8 c9 h9 tk9 F9 N9; (try dsimp only); (try k_fold))))
local macro_rules | `(tactic| walk_at "subscriptTail") => `(tactic| (k_here; (with_reducible show wpAny _ _ (subscriptTail _ _ (Value.ref _) (Value.int _ _)) _ _ _); (with_reducible rename RowsIs _ _ _ => rwX); (with_unfolding_all refine' item_at ?k1 ?k2 ?k3 ?k4 ?k5 ?_ ?k6; (case k1 => is_list); (case k2 => with_reducible assumption); (case k3 => omega); (case k4 => first | omega | ((have e14 := len14); omega)); (case k5 => omega); (case k6 => with_unfolding_all rfl)); intro t9))
local macro_rules | `(tactic| walk_at "compareOp Eq int int") => `(tactic| (k_here; (with_reducible rename RowsIs _ _ _ => rwX); (fail_if_success (with_reducible show wpAny _ _ (compareOp _ _ (Value.int 1 _)) _ _ _)); (with_reducible refine' eq_true ?hq ?_); (case hq => first | with_reducible exact c_end3 (by first | assumption | rfl) (by assumption) (by assumption) (by assumption) (by assumption) (by assumption) (by assumption) | with_reducible exact c_end1 (by first | assumption | rfl) (by assumption) (by assumption) (by assumption) (by assumption) (by assumption) (by assumption) | with_reducible exact c_end3 (by first | assumption | rfl) (by assumption) (by assumption) (by assumption) (by assumption) (by assumption) (beq_iff_eq.mpr (by assumption)) | with_reducible exact c_end1 (by first | assumption | rfl) (by assumption) (by assumption) (by assumption) (by assumption) (by assumption) (beq_eq_false_iff_ne.mpr (by assumption)))))
set_option maxHeartbeats 100000000 in
theorem Mine.walk02 : PySem.Challenge.rw_xm0034_02.Holds := Hd02 (by
  k_with "pyIter ref" => (k_of "turn" => first | k_state_given ["row"] (fun row pre rows => RowsIs row pre.length rows ∧ (0 ≤ row ∧ row < 32768) ∧ rows.length = pre.length + 1) "rows" | k_state_given ["other", "bits!"] (fun o b pre told row bits fours => Turned o b pre.length told row bits fours ∧ (0 ≤ bits ∧ bits < 16) ∧ (0 ≤ row ∧ row < 2 ^ pre.length) ∧ (o = 4 ∨ o = 1) ∧ (1 ≤ b ∧ b ≤ 15) ∧ told.length = pre.length ∧ fours.length = pre.length + 1) "told" "row" "bits" "fours")
  k_with "pyIter ref" => (k_of "many" => k_state_given ["rows!"] (fun r0 pre rows => rows = r0 ∧ 14 < rows.length) "rows")
  k_with "pre" => first
    | with_reducible exact rows_pre' (by assumption) (by assumption) (by assumption)
    | with_reducible exact ⟨⟨by omega, by omega⟩, rows_pre' (by assumption) (by assumption) (by assumption)⟩
    | with_reducible exact ⟨⟨by omega, by omega⟩, rows_pre2 (by assumption) (by assumption) (by assumption) (by assumption)⟩
  k_with "state" => first
    | with_reducible exact start02 (by assumption) (by assumption) (by assumption) (by assumption)
    | with_reducible exact turn02 (by assumption) (by assumption) (by assumption) (by assumption) (by assumption) (by assumption) (by assumption) (by assumption) (by assumption) (by assumption) (bitF_yes (by assumption))
    | with_reducible exact turn02 (by assumption) (by assumption) (by assumption) (by assumption) (by assumption) (by assumption) (by assumption) (by assumption) (by assumption) (by assumption) (bitF_no (by assumption))
    | with_reducible exact rows_start (by assumption) (by assumption)
    | with_reducible exact rows_turn (by assumption) (by assumption) (by assumption) (by assumption) (by assumption)
    | (refine ⟨rfl, ?_⟩; have e14 := len14; omega)
    | (refine ⟨by assumption, ?_⟩; have e14 := len14; omega)
  w_strict (k_go0; (all_goals try k_fold); k_steps)
  all_goals w_report)

end
theorem PySem.Challenge.cw_xm0034_02_holds : PySem.Challenge.rw_xm0034_02.Holds :=
  Mine.walk02
