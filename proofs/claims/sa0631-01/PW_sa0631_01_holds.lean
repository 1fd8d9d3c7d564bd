import PyProof.Rows.All
import Wide.All
import OpenK.AllK
import Wide.FinOn
import Lean
import PySem.Challenge.RW_sa0631_01
set_option Elab.async false
set_option pp.deepTerms false
set_option rowWalk.seconds 0
set_option compiler.extract_closed false
open PySem PySem.W PyProof.Rows
namespace Mine
set_option maxRecDepth 100000 in
set_option maxHeartbeats 8000000 in
set_option synthInstance.maxSize 1 in
open_top hd for PySem.Challenge.rw_sa0631_01
end Mine
open PySem PySem.W PyProof.Rows
namespace Mine

abbrev Ledger := List (Addr × Obj)

abbrev progDict (h1 h2 : Int) (t1 t2 : Tok) (a b : Addr) (n : Nat) : Obj := dictOf [⟨h1, .str (Str.ofString "numbers") t1, .ref a⟩, ⟨h2, .str (Str.ofString "rows") t2, .ref b⟩] n

/-- what a call of the def at address f does: a result and a new ledger -/
def Spec (D U : Nat) (prog : Program) (w : World) (f : Addr) (args : List Value) (news : Ledger) (post : Value → Ledger → Prop) : Prop :=
  ∀ (mean : ExcName → Option Value) (mg mb : Str → Option Value) (dp un : Nat) (gd : Option (List Code)) (cn : Str) (cs : Scope) (a0 : Addr) (ccd : Value) (cl : List (Str × Addr)) (outer : List Env) (A₀ : Around) (base h₀ : Heap) (L : Addr) (m : Str → Option Value) (s : Shared) (Q E : Value → Shared → Prop),
    Below A₀ base outer h₀ → Fr h₀ L s.heap m → (hd.heap_39 w.params).In h₀ → News h₀ L s.heap news → Top hd.view_39 (looseW hd.view_39 []) mean mg mb h₀ → cs.kind = .function → dp + D < recursionLimit → un + U < cLine →
    (∀ v news' h' tk', post v news' → Fr h₀ L h' m → News h₀ L h' news' → Q v { s with heap := h', toks := tk' }) →
    wpAny (model prog w) (ktrTop dp un gd cn cs L a0 ccd cl outer) (call (.ref f) args) Q E s

theorem Spec.use {D U : Nat} {prog : Program} {w : World} {f : Addr} {args : List Value} {news : Ledger} {post : Value → Ledger → Prop}
    {mean : ExcName → Option Value} {mg mb : Str → Option Value} {dp un : Nat} {gd : Option (List Code)} {cn : Str} {cs : Scope} {a0 : Addr} {ccd : Value} {cl : List (Str × Addr)} {outer : List Env} {A₀ : Around} {base h₀ : Heap} {L : Addr} {m : Str → Option Value} {s : Shared} {Q E : Value → Shared → Prop}
    (B : Below A₀ base outer h₀) (F : Fr h₀ L s.heap m) (X : (hd.heap_39 w.params).In h₀) (N : News h₀ L s.heap news) (T : Top hd.view_39 (looseW hd.view_39 []) mean mg mb h₀) (hk : cs.kind = .function)
    (C : Spec D U prog w f args news post) (hd : dp + D < recursionLimit) (hu : un + U < cLine)
    (ret : ∀ v news' h' tk', post v news' → Fr h₀ L h' m → News h₀ L h' news' → Q v { s with heap := h', toks := tk' }) :
    wpAny (model prog w) (ktrTop dp un gd cn cs L a0 ccd cl outer) (call (.ref f) args) Q E s :=
  C mean mg mb dp un gd cn cs a0 ccd cl outer A₀ base h₀ L m s Q E B F X N T hk hd hu ret

theorem nsub {h₀ h : Heap} {L : Addr} {l l' : Ledger} (N : News h₀ L h l) (hs : ∀ q ∈ l', q ∈ l) : News h₀ L h l' := fun q hq => N q (hs q hq)
theorem nadd {h₀ h : Heap} {L : Addr} {l : Ledger} {q : Addr × Obj} (N : News h₀ L h l) (hq : q ∈ l) : News h₀ L h (q :: l) := fun r hr => (List.mem_cons.mp hr).elim (fun e => e ▸ N q hq) (N r)

/-- the number of the leading items below k -/
noncomputable def pos : List Int → Int → Nat
  | [], _ => 0
  | x :: r, k => if x < k then pos r k + 1 else 0

def Lo (ns : List Int) (k i : Int) : Prop := ∀ (j : Nat) (x : Int), (j : Int) < i → ns[j]? = some x → x < k
def Hi (ns : List Int) (k i : Int) : Prop := ∀ (j : Nat) (x : Int), i ≤ (j : Int) → ns[j]? = some x → ¬ x < k

theorem pos_of : ∀ {ns : List Int} {k : Int} {i : Nat}, i ≤ ns.length → Lo ns k i → Hi ns k i → i = pos ns k
  | [], k, i, h, _, _ => by simp at h; simp [pos, h]
  | x :: r, k, 0, _, _, hh => by
    have := hh 0 x (by simp) (by simp)
    simp [pos, this]
  | x :: r, k, i + 1, h, hl, hh => by
    have h0 := hl 0 x (by omega) (by simp)
    have := pos_of (ns := r) (k := k) (i := i) (by simpa using h) (fun j y hj e => hl (j + 1) y (by omega) (by simpa using e)) (fun j y hj e => hh (j + 1) y (by omega) (by simpa using e))
    simp [pos, h0, ← this]

theorem sorted_get {ns : List Int} (hs : ns.Pairwise (· < ·)) {i j : Nat} {x y : Int} (hi : ns[i]? = some x) (hj : ns[j]? = some y) (h : i ≤ j) : x ≤ y := by
  obtain ⟨hi', rfl⟩ := List.getElem?_eq_some_iff.mp hi
  obtain ⟨hj', rfl⟩ := List.getElem?_eq_some_iff.mp hj
  by_cases e : i = j
  · subst e; exact Int.le_refl _
  · exact Int.le_of_lt (List.pairwise_iff_getElem.mp hs i j hi' hj' (by omega))

theorem getD_some {ns : List Int} {i : Nat} (h : i < ns.length) : ns[i]? = some (ns.getD i 0) := by
  simp [List.getD_eq_getElem?_getD, h]

theorem lo_step {ns : List Int} {k lo hi : Int} (hs : ns.Pairwise (· < ·)) (h0 : 0 ≤ lo) (h1 : lo < hi) (h2 : hi ≤ (ns.length : Int)) (h : ns.getD ((lo + hi).fdiv 2).toNat 0 < k) : Lo ns k ((lo + hi).fdiv 2 + 1) := by
  intro j x hj e
  have hm : ((lo + hi).fdiv 2).toNat < ns.length := by rw [Int.fdiv_eq_ediv_of_nonneg _ (by omega)]; omega
  exact Int.lt_of_le_of_lt (sorted_get hs e (getD_some hm) (by rw [Int.fdiv_eq_ediv_of_nonneg _ (by omega)] at hj ⊢; omega)) h
theorem hi_step {ns : List Int} {k lo hi : Int} (hs : ns.Pairwise (· < ·)) (h0 : 0 ≤ lo) (h1 : lo < hi) (h2 : hi ≤ (ns.length : Int)) (h : ¬ ns.getD ((lo + hi).fdiv 2).toNat 0 < k) : Hi ns k ((lo + hi).fdiv 2) := by
  intro j x hj e
  have hm : ((lo + hi).fdiv 2).toNat < ns.length := by rw [Int.fdiv_eq_ediv_of_nonneg _ (by omega)]; omega
  have := sorted_get hs (getD_some hm) e (by rw [Int.fdiv_eq_ediv_of_nonneg _ (by omega)] at hj ⊢; omega)
  omega
theorem lo_zero {ns : List Int} {k : Int} : Lo ns k 0 := fun _ _ h _ => by omega
theorem hi_len {ns : List Int} {k : Int} : Hi ns k ns.length := fun j x h e => by
  have := (List.getElem?_eq_some_iff.mp e).1; omega
theorem lo_hi_pos {ns : List Int} {k lo hi : Int} (h0 : 0 ≤ lo) (h1 : lo ≤ hi) (h2 : hi ≤ (ns.length : Int)) (h3 : ¬ lo < hi) (hl : Lo ns k lo) (hh : Hi ns k hi) : lo = (pos ns k : Int) := by
  have e : lo = hi := by omega
  subst e
  have := pos_of (ns := ns) (k := k) (i := lo.toNat) (by omega) (by simpa [Int.toNat_of_nonneg h0] using hl) (by simpa [Int.toNat_of_nonneg h0] using hh)
  omega
theorem mid_bounds {lo hi : Int} (h0 : 0 ≤ lo) (h1 : lo < hi) : 0 ≤ (lo + hi).fdiv 2 ∧ lo ≤ (lo + hi).fdiv 2 ∧ (lo + hi).fdiv 2 < hi := by
  rw [Int.fdiv_eq_ediv_of_nonneg _ (by omega)]; omega
theorem bs_lo {ns : List Int} {k lo hi : Int} (hs : ns.Pairwise (· < ·)) (h0 : 0 ≤ lo) (h1 : lo < hi) (h2 : hi ≤ (ns.length : Int)) (h : ns.getD ((lo + hi).fdiv 2).toNat 0 < k) (hh : Hi ns k hi) :
    0 ≤ (lo + hi).fdiv 2 + 1 ∧ (lo + hi).fdiv 2 + 1 ≤ hi ∧ hi ≤ (ns.length : Int) ∧ Lo ns k ((lo + hi).fdiv 2 + 1) ∧ Hi ns k hi := by
  have := mid_bounds h0 h1
  exact ⟨by omega, by omega, h2, lo_step hs h0 h1 h2 h, hh⟩
theorem bs_hi {ns : List Int} {k lo hi : Int} (hs : ns.Pairwise (· < ·)) (h0 : 0 ≤ lo) (h1 : lo < hi) (h2 : hi ≤ (ns.length : Int)) (h : ¬ ns.getD ((lo + hi).fdiv 2).toNat 0 < k) (hl : Lo ns k lo) :
    0 ≤ lo ∧ lo ≤ (lo + hi).fdiv 2 ∧ (lo + hi).fdiv 2 ≤ (ns.length : Int) ∧ Lo ns k lo ∧ Hi ns k ((lo + hi).fdiv 2) := by
  have := mid_bounds h0 h1
  exact ⟨by omega, by omega, by omega, hl, hi_step hs h0 h1 h2 h⟩
theorem bs_less {lo hi : Int} (h0 : 0 ≤ lo) (h1 : lo < hi) : (hi - ((lo + hi).fdiv 2 + 1)).toNat < (hi - lo).toNat := by
  have := mid_bounds h0 h1
  omega
theorem bs_less2 {lo hi : Int} (h0 : 0 ≤ lo) (h1 : lo < hi) : ((lo + hi).fdiv 2 - lo).toNat < (hi - lo).toNat := by
  have := mid_bounds h0 h1
  omega
theorem pos_le : ∀ (ns : List Int) (k : Int), pos ns k ≤ ns.length
  | [], _ => by simp [pos]
  | x :: r, k => by
    have := pos_le r k
    simp only [pos, List.length_cons]
    split <;> omega
theorem has_at : ∀ {ns : List Int} {k : Int}, ns.Pairwise (· < ·) → pos ns k < ns.length → (ns.getD (pos ns k) 0 == k) = ns.contains k
  | x :: r, k, hs, h => by
    obtain ⟨h1, h2⟩ := List.pairwise_cons.mp hs
    by_cases e : x < k
    · have hp : pos (x :: r) k = pos r k + 1 := by simp [pos, e]
      rw [hp] at h ⊢
      have ih := has_at (ns := r) (k := k) h2 (by simpa using h)
      have : (k == x) = false := by simp; omega
      simp only [List.getD_cons_succ, List.contains_cons, this, Bool.false_or]
      exact ih
    · have hp : pos (x :: r) k = 0 := by simp [pos, e]
      rw [hp]
      simp only [List.getD_cons_zero, List.contains_cons]
      by_cases e2 : x = k
      · subst e2; simp
      · have e3 : (k == x) = false := by simp; omega
        have e4 : r.contains k = false := by
          simp only [List.contains_eq_mem, decide_eq_false_iff_not]
          intro hm
          have := h1 k hm
          omega
        rw [e3, e4]; simp [e2]
theorem has_out : ∀ {ns : List Int} {k : Int}, ¬ pos ns k < ns.length → ns.contains k = false
  | [], _, _ => by simp
  | x :: r, k, h => by
    by_cases e : x < k
    · have hp : pos (x :: r) k = pos r k + 1 := by simp [pos, e]
      rw [hp] at h
      have ih := has_out (ns := r) (k := k) (by simpa using h)
      have : (k == x) = false := by simp; omega
      simp only [List.contains_cons, this, Bool.false_or]
      exact ih
    · exfalso; apply h; simp [pos, e]
end Mine
open PySem PySem.W PyProof.Rows
namespace Mine

set_option maxRecDepth 100000 in
set_option maxHeartbeats 8000000 in
theorem place_spec {prog : Program} {w : World} {news : Ledger} {p d a b : Addr} {h1 h2 : Int} {t1 t2 : Tok} {n1 n2 : Nat} {vs : List Value} {ns : List Int} {k : Int} {tk : Tok}
    (hp : (p, instObj 79 d) ∈ news) (hdd : (d, progDict h1 h2 t1 t2 a b n1) ∈ news) (hna : (a, listOf vs.toArray n2) ∈ news) (hI : IntsAre vs ns)
    (hS : ns.Pairwise (· < ·)) (hlen : ns.length ≤ 100) :
    Spec 10 20 prog w 90 [.ref p, .int k tk] news (fun v news' => ∃ tr, v = .int (pos ns k) tr ∧ news' = news) := by
  have hfill : PySem.Challenge.rw_sa0631_01 = PySem.Challenge.rw_sa0631_01 ∧ @hd.heap_39 = hd.heap_39 := by (k_fill; exact ⟨rfl, rfl⟩)
  clear hfill
  intro mean mg mb dp un gd cn cs a0 ccd cl outer A₀ base h₀ L m s Q E B F X N0 T hk hdp hun ret
  have N := nadd (nadd (nadd N0 hna) (List.mem_cons_of_mem _ hdd)) (List.mem_cons_of_mem _ (List.mem_cons_of_mem _ hp))
  clear N0
  refine wpAny_call ?_
  k_dflt ktr_enter
  k_with_none
  k_with "exec While Compare cons nil" => k_while (fun _ lo hi => 0 ≤ lo ∧ lo ≤ hi ∧ hi ≤ (ns.length : Int) ∧ Lo ns k lo ∧ Hi ns k hi) (fun _ lo hi => (hi - lo).toNat) "least" "most"
  k_with "state" => exact ⟨by omega, by omega, by omega, lo_zero, hi_len⟩
  k_with "state" => exact bs_hi hS (by assumption) (by assumption) (by assumption) (by assumption) (by assumption)
  k_with "state" => exact bs_lo hS (by assumption) (by assumption) (by assumption) (by assumption) (by assumption)
  k_with "measure" => exact bs_less (by assumption) (by assumption)
  k_with "measure" => exact bs_less2 (by assumption) (by assumption)
  k_steps
  all_goals (have e := lo_hi_pos (by assumption) (by assumption) (by assumption) (by assumption) (by assumption) (by assumption); subst e; exact ret _ _ _ _ ⟨_, rfl, rfl⟩ (by assumption) (nsub (by assumption) (by intro q hq; repeat (first | exact hq | apply List.mem_cons_of_mem))))

set_option maxRecDepth 100000 in
set_option maxHeartbeats 8000000 in
theorem has_spec {prog : Program} {w : World} {news : Ledger} {p d a b : Addr} {h1 h2 : Int} {t1 t2 : Tok} {n1 n2 : Nat} {vs : List Value} {ns : List Int} {k : Int} {tk : Tok}
    (hp : (p, instObj 79 d) ∈ news) (hdd : (d, progDict h1 h2 t1 t2 a b n1) ∈ news) (hna : (a, listOf vs.toArray n2) ∈ news) (hI : IntsAre vs ns)
    (hS : ns.Pairwise (· < ·)) (hlen : ns.length ≤ 100) :
    Spec 20 40 prog w 97 [.ref p, .int k tk] news (fun v news' => v = .bool (ns.contains k) ∧ news' = news) := by
  have hfill : PySem.Challenge.rw_sa0631_01 = PySem.Challenge.rw_sa0631_01 ∧ @hd.heap_39 = hd.heap_39 := by (k_fill; exact ⟨rfl, rfl⟩)
  clear hfill
  intro mean mg mb dp un gd cn cs a0 ccd cl outer A₀ base h₀ L m s Q E B F X N0 T hk hdp hun ret
  have N := nadd (nadd (nadd N0 hna) (List.mem_cons_of_mem _ hdd)) (List.mem_cons_of_mem _ (List.mem_cons_of_mem _ hp))
  clear N0
  refine wpAny_call ?_
  k_dflt ktr_enter
  k_with_none
  k_with "call ref" => (k_here; (with_reducible show wpAny _ _ (call (Value.ref 90) [_, _]) _ _ _); with_unfolding_all refine' Spec.use ?B ?F ?X ?N ?T ?hk (place_spec (h1 := h1) (h2 := h2) (t1 := t1) (t2 := t2) (d := d) (a := a) (b := b) (n1 := n1) (n2 := n2) (vs := vs) (ns := ns) ?p1 ?p2 ?p3 ?p4 ?p5 ?p6) ?hd ?hu ?_; (case B => k_asm); (case F => k_asm); (case X => k_asm); (case N => k_asm); (case T => k_asm); (case hk => first | exact rfl | assumption); (case p1 => k_mem); (case p2 => k_mem); (case p3 => k_mem); (case p4 => assumption); (case p5 => assumption); (case p6 => assumption); (case hd => ktr_room); (case hu => ktr_units); rintro _ _ h9 tk9 ⟨tr9, rfl, rfl⟩ F9 N9; (try dsimp only); (try k_sweep); (try k_fold))
  k_steps
  · have e := has_at hS (k := k) (by omega)
    refine ret _ _ _ _ ⟨?_, rfl⟩ (by assumption) (nsub (by assumption) (by intro q hq; repeat (first | exact hq | apply List.mem_cons_of_mem)))
    rw [← e]; rfl
  · have e := has_out (ns := ns) (k := k) (by omega)
    have e2 : decide ((pos ns k : Int) < (ns.length : Int)) = false := decide_eq_false (by omega)
    rw [e2]
    exact ret _ _ _ _ ⟨by rw [e], rfl⟩ (by assumption) (nsub (by assumption) (by intro q hq; repeat (first | exact hq | apply List.mem_cons_of_mem)))
end Mine
section
open PySem PySem.W PyProof.Rows PySem.Calls
set_option maxRecDepth 100000
namespace Mine

section
variable {prog : Program} {w : World} {A : Around} {E : Value → Shared → Prop} {s : Shared} {h₀ h : Heap} {L D : Addr} {m : Str → Option Value} {news news' : Ledger} {its : List Value} {n : Nat}

theorem fits_small (k : Nat) (h : k ≤ 1000000) : Builtin.List.listFitsIndex (k : Int) = true := by
  unfold Builtin.List.listFitsIndex
  simp only [Bool.and_eq_true, decide_eq_true_eq]
  omega

theorem gl_len {Q : Value → Shared → Prop} (N : News h₀ L s.heap news) (hm : (D, listOf its.toArray n) ∈ news) (hl : its.length ≤ 1000)
    (h : ∀ t tk, Q (.int its.length t) { s with toks := tk }) : wpAny (model prog w) A (call (.builtin "len") [.ref D]) Q E s := by
  have hL : s.heap.IsList D its.toArray := PySem.IsL.isList (n := n) (N _ hm).1
  refine call_len_list hL (by rw [List.size_toArray]; omega) ?_
  have := h (s.toks + 1) (s.toks + 1 + 1)
  rw [List.size_toArray]; exact this

theorem gl_set {v : Value} {k : Int} {t : Tok} {Q : Unit → Shared → Prop} (F : Fr h₀ L s.heap m) (N : News h₀ L s.heap news) (U : Upd D (listOf its.toArray n) (listOf (its.set k.toNat v).toArray n) news news')
    (h0 : 0 ≤ k) (h1 : k < its.length) (hl : its.length ≤ 1000)
    (h : ∀ h', Fr h₀ L h' m → News h₀ L h' news' → Q () { s with heap := h' }) : wpAny (model prog w) A (setItem (.ref D) (.int k t) v) Q E s := by
  obtain ⟨pre, post, rfl, rfl, a, b⟩ := U.split
  have z := N (D, listOf its.toArray n) (List.mem_append.mpr (.inr (.head _)))
  refine ki_setAt z.1 h0 (by omega) (by rw [List.size_toArray]; exact h1) (h _ (F.change (Heap.SameBut.update ..) z.2.1 z.2.2) (ki_turn _ N a b ?_ ?_))
  · apply Array.toList_inj.mp
    simp
  · simp

theorem gl_insert {y : Value} {i : Int} {u : Tok} {Q : Value → Shared → Prop} (F : Fr h₀ L s.heap m) (N : News h₀ L s.heap news) (U : Upd D (listOf its.toArray n) (listOf (its.take i.toNat ++ y :: its.drop i.toNat).toArray (n + 1)) news news')
    (h0 : 0 ≤ i) (h1 : i ≤ its.length) (hl : its.length ≤ 1000)
    (h : ∀ h', Fr h₀ L h' m → News h₀ L h' news' → Q .none { s with heap := h' }) : wpAny (model prog w) A (call (.builtin "list.insert") [.ref D, .int i u, y]) Q E s := by
  have hf : Builtin.List.listFitsIndex i = true := by
    have := fits_small i.toNat (by omega)
    rwa [Int.toNat_of_nonneg h0] at this
  refine kl_insert (l := its.take i.toNat ++ y :: its.drop i.toNat) F N hf ?_ U (by simp; rw [sizeLine_eq]; omega) h
  unfold kl_ins
  have e1 : ¬ (i < 0) := by omega
  have e2 : min i.toNat its.length = i.toNat := by omega
  simp only [if_neg e1, e2]

theorem gl_pop {i : Int} {u : Tok} {Q : Value → Shared → Prop} (F : Fr h₀ L s.heap m) (N : News h₀ L s.heap news) (U : Upd D (listOf its.toArray n) (listOf (its.eraseIdx i.toNat).toArray (n + 1)) news news')
    (h0 : 0 ≤ i) (h1 : i < its.length) (hl : its.length ≤ 1000)
    (h : ∀ h' y, its[i.toNat]? = some y → Fr h₀ L h' m → News h₀ L h' news' → Q y { s with heap := h' }) : wpAny (model prog w) A (call (.builtin "list.pop") [.ref D, .int i u]) Q E s := by
  obtain ⟨pre, post, rfl, rfl, a, b⟩ := U.split
  have z := N (D, listOf its.toArray n) (List.mem_append.mpr (.inr (.head _)))
  have h1' : i.toNat < its.length := by omega
  have hk : seqIndex? i its.toArray.size = some i.toNat := by
    unfold seqIndex?
    have e1 : ¬ (i < 0) := by omega
    simp [e1, h0, h1]
  obtain ⟨y, hyy⟩ : ∃ y, its[i.toNat]? = some y := ⟨_, List.getElem?_eq_getElem h1'⟩
  have hy : its.toArray[i.toNat]? = some y := by simpa using hyy
  have hz' : its.toArray.size ≤ sizeLine := by rw [List.size_toArray, sizeLine_eq]; omega
  have hf : Builtin.List.listFitsIndex i = true := by
    have := fits_small i.toNat (by omega)
    rwa [Int.toNat_of_nonneg h0] at this
  have he : its.toArray.eraseIdxIfInBounds i.toNat = (its.eraseIdx i.toNat).toArray := by
    apply Array.toList_inj.mp
    simp [Array.eraseIdxIfInBounds, h1']
  have hs : (its.eraseIdx i.toNat).toArray.size ≠ its.toArray.size := by
    rw [List.size_toArray, List.size_toArray, List.length_eraseIdx, if_pos h1']; omega
  exact call_meets PySem.F.slot_list_pop ⟨_, z.1, rfl⟩ PySem.F.entry_list_pop (PySem.F.args_list_pop_2 _ _) (PySem.MeetsSeq.list_pop_at D _ n i u _ y hf hk hy hz') ⟨z.1, h _ _ hyy (F.change (Heap.SameBut.update ..) z.2.1 z.2.2) (kl_turn _ N a b he hs)⟩
end
theorem pick_upto (its : List Value) {y : Int} (h : 0 ≤ y) : (slicePick its.toArray none (some y) none).toList = its.take y.toNat := by
  have e := PySem.slicePick_upto' its.toArray y.toNat
  rw [Int.toNat_of_nonneg h] at e
  rw [e]
theorem pick_from (its : List Value) {y : Int} (h : 0 ≤ y) : (slicePick its.toArray (some y) none none).toList = its.drop y.toNat := by
  have e := PySem.slicePick_from' its.toArray y.toNat
  rw [Int.toNat_of_nonneg h] at e
  rw [e]
end Mine
end
section
open PySem PySem.W PyProof.Rows PySem.Calls
set_option maxRecDepth 100000
namespace Mine

/-- each object keeps its own dict -/
def DictKept (h h' : Heap) : Prop := ∀ b o, h.get? b = some o → ∃ o', h'.get? b = some o' ∧ o'.dict = o.dict
theorem DictKept.refl (h : Heap) : DictKept h h := fun _ o e => ⟨o, e, rfl⟩
theorem DictKept.trans {h h₁ h₂ : Heap} (x : DictKept h h₁) (y : DictKept h₁ h₂) : DictKept h h₂ := fun b o e => by
  obtain ⟨o1, e1, d1⟩ := x b o e
  obtain ⟨o2, e2, d2⟩ := y b o1 e1
  exact ⟨o2, e2, d2.trans d1⟩
theorem DictKept.push (h : Heap) (o : Obj) : DictKept h (h.push o) := fun _ o' e => ⟨o', Heap.get?_push_of_some _ e, rfl⟩
theorem DictKept.update {h : Heap} {a : Addr} {f : Obj → Obj} (hf : ∀ o, (f o).dict = o.dict ∧ (f o).isFreed = o.isFreed) : DictKept h (h.update a f) := fun b o e => by
  by_cases q : a = b
  · subst q
    exact ⟨f o, Heap.get?_update_self f e (by rw [(hf o).2]; exact (Heap.get?_some_iff.mp e).2), (hf o).1⟩
  · exact ⟨o, by rw [Heap.get?_update_other _ _ q]; exact e, rfl⟩

/-- a tree that calls nothing and whose writes keep the dicts -/
noncomputable def Pres {α : Type} : Sem α → Prop
  | .pure _ => True
  | .raise _ => True
  | .unsupported _ => True
  | .finish _ => True
  | .rule _ k => Pres (k ())
  | .at _ k => Pres (k ())
  | .load _ _ k => ∀ o, Pres (k o)
  | .update _ _ f k => (∀ o, (f o).dict = o.dict ∧ (f o).isFreed = o.isFreed) ∧ Pres (k ())
  | .alloc _ k => ∀ a, Pres (k a)
  | .loadIfAlive _ k => ∀ o, Pres (k o)
  | .point _ k => Pres (k ())
  | .register _ _ => True
  | .fresh k => ∀ t, Pres (k t)
  | .ask k => ∀ x, Pres (k x)
  | .choose _ _ k => ∀ x, Pres (k x)
  | .os _ _ k => ∀ x, Pres (k x)
  | .call _ _ _ _ _ => False
  | .handled _ k => ∀ x, Pres (k x)
  | .newGen _ k => ∀ x, Pres (k x)
  | .genState _ k => ∀ x, Pres (k x)
  | .resume _ _ _ _ => False
  | .yield _ _ _ _ => True
  | .stack k => ∀ x, Pres (k x)
  | .fork _ _ => True
  | .thread k => ∀ x, Pres (k x)
  | .await _ _ _ _ _ => True

theorem pres_wp {α : Type} {M : Model} {Γ : Ctx} (t : Sem α) (ht : Pres t) {Q : α → Pos → Shared → Prop} {E : Value → Pos → Shared → Prop} {p : Pos} {s : Shared} (h : Sem.wp M Γ t Q E p s) :
    Sem.wp M Γ t (fun a p' s' => Q a p' s' ∧ DictKept s.heap s'.heap) (fun e p' s' => E e p' s' ∧ DictKept s.heap s'.heap) p s := by
  induction t generalizing p s with
  | pure a => exact ⟨h, .refl _⟩
  | raise e => exact ⟨h, .refl _⟩
  | unsupported w => exact h
  | finish e => exact h
  | rule _ k ih => exact ih _ ht h
  | «at» _ k ih => exact ih _ ht h
  | load a _ k ih => obtain ⟨o, ho, h⟩ := h; exact ⟨o, ho, ih o (ht o) h⟩
  | update a _ f k ih =>
    obtain ⟨ha, h⟩ := h
    refine ⟨ha, ?_⟩
    have k1 : DictKept s.heap (s.heap.update a f) := .update ht.1
    exact Sem.wp_mono M Γ _ (fun _ _ _ z => ⟨z.1, k1.trans z.2⟩) (fun _ _ _ z => ⟨z.1, k1.trans z.2⟩) _ _ (ih _ ht.2 h)
  | alloc o k ih =>
    have k1 : DictKept s.heap (s.heap.push o) := .push _ _
    exact Sem.wp_mono M Γ _ (fun _ _ _ z => ⟨z.1, k1.trans z.2⟩) (fun _ _ _ z => ⟨z.1, k1.trans z.2⟩) _ _ (ih _ (ht _) h)
  | loadIfAlive a k ih => exact ih _ (ht _) h
  | point _ k ih => exact ih _ ht h
  | register a k ih => exact h
  | fresh k ih => exact ih _ (ht _) h
  | ask k ih => exact ih _ (ht _) h
  | choose _ _ k ih => exact ⟨h.1, ih _ (ht _) h.2⟩
  | os _ _ k ih => exact ih _ (ht _) h
  | call c h' g l k ih => exact ht.elim
  | handled _ k ih => exact ih _ (ht _) h
  | newGen _ k ih => exact ih _ (ht _) h
  | genState _ k ih => obtain ⟨st, hst, h⟩ := h; exact ⟨st, hst, ih _ (ht _) h⟩
  | resume _ _ _ _ ih => exact ht.elim
  | yield _ _ _ _ ih => exact h
  | stack k ih => exact ih _ (ht _) h
  | fork _ _ ih => exact h
  | thread k ih => exact ih _ (ht _) h
  | await _ _ _ _ _ ih => exact h

theorem wpAny_pres {α : Type} {M : Model} {A : Around} {t : Sem α} {Q : α → Shared → Prop} {E : Value → Shared → Prop} {s : Shared} (ht : Pres t) (h : wpAny M A t Q E s) :
    wpAny M A t (fun a s' => Q a s' ∧ DictKept s.heap s'.heap) (fun e s' => E e s' ∧ DictKept s.heap s'.heap) s := fun Γ p hΓ => pres_wp t ht (h Γ p hΓ)
/-- the rule: what is shown of a tree, with the dicts kept -/
theorem wpAny_pres' {α : Type} {M : Model} {A : Around} {t : Sem α} {Q Q' : α → Shared → Prop} {E E' : Value → Shared → Prop} {s : Shared} (ht : Pres t) (h : wpAny M A t Q' E' s)
    (hQ : ∀ a s', Q' a s' → DictKept s.heap s'.heap → Q a s') (hE : ∀ e s', E' e s' → DictKept s.heap s'.heap → E e s') : wpAny M A t Q E s :=
  wpAny_mono (wpAny_pres ht h) (fun a s' z => hQ a s' z.1 z.2) fun e s' z => hE e s' z.1 z.2

theorem pres_bind {α β : Type} {m : Sem α} {f : α → Sem β} (hm : Pres m) (hf : ∀ a, Pres (f a)) : Pres (m >>= f) := by
  show Pres (m.bind f)
  induction m with
  | pure a => exact hf a
  | update _ _ _ k ih => exact ⟨hm.1, ih _ hm.2⟩
  | call => exact hm.elim
  | resume => exact hm.elim
  | rule _ k ih => exact ih _ hm
  | «at» _ k ih => exact ih _ hm
  | point _ k ih => exact ih _ hm
  | load _ _ k ih => exact fun x => ih _ (hm x)
  | alloc _ k ih => exact fun x => ih _ (hm x)
  | loadIfAlive _ k ih => exact fun x => ih _ (hm x)
  | fresh k ih => exact fun x => ih _ (hm x)
  | ask k ih => exact fun x => ih _ (hm x)
  | choose _ _ k ih => exact fun x => ih _ (hm x)
  | os _ _ k ih => exact fun x => ih _ (hm x)
  | handled _ k ih => exact fun x => ih _ (hm x)
  | newGen _ k ih => exact fun x => ih _ (hm x)
  | genState _ k ih => exact fun x => ih _ (hm x)
  | stack k ih => exact fun x => ih _ (hm x)
  | thread k ih => exact fun x => ih _ (hm x)
  | raise | unsupported | finish | register | yield | fork | await => trivial
theorem pres_pure {α : Type} (a : α) : Pres (pure a : Sem α) := trivial
theorem pres_field (v : Value) (i : Nat) : Pres (field v i) := by
  unfold field fieldsOf
  refine pres_bind ?_ fun vs => ?_
  · split
    · exact fun o => by
        show Pres ((match o.data with | .fields vs => pure vs | _ => unsupported "internal:no-fields") : Sem _)
        split <;> trivial
    · trivial
  · split <;> trivial
theorem dict_mapFields (o : Obj) (f : Array Value → Array Value) : (o.mapFields f).dict = o.dict ∧ (o.mapFields f).isFreed = o.isFreed := by
  obtain ⟨_, _, d, _⟩ := o
  cases d <;> exact ⟨rfl, rfl⟩
theorem pres_setField (v : Value) (i : Nat) (x : Value) : Pres (setField v i x) := by
  unfold setField
  split
  · unfold updateField
    refine pres_bind (fun o => trivial) fun o => ?_
    split
    · split
      · exact ⟨fun o => dict_mapFields o _, trivial⟩
      · trivial
    · trivial
  · trivial
theorem pres_setFlight (v : Value) (f : Option Addr) : Pres (setFlight v f) := by
  unfold setFlight
  refine pres_bind (pres_field ..) fun tb => ?_
  split
  · exact pres_setField ..
  · trivial
theorem pres_stack : Pres stack := fun x => trivial
theorem pres_keptBack (env : Env) (b : Bool) (l : List Env) : Pres (keptBack env b l) := by
  unfold keptBack
  split
  · split
    · trivial
    · exact pres_bind (pres_bind pres_stack fun _ => trivial) fun _ => trivial
  · trivial
theorem pres_behindIsImport (env : Env) (l : List Env) : Pres (behindIsImport env l) := by
  unfold behindIsImport
  split
  · trivial
  · split
    · trivial
    · exact pres_bind (pres_field ..) fun _ => trivial
theorem pres_readyFrames : ∀ l : List Env, Pres (readyFrames l)
  | [] => trivial
  | env :: outer => by
    unfold readyFrames
    cases env.frame with
    | none => trivial
    | some f =>
      refine pres_bind (fun _ => trivial) fun o => ?_
      split
      · trivial
      · refine pres_bind (pres_behindIsImport ..) fun b => pres_bind (pres_keptBack ..) fun bk => pres_bind ⟨fun o => ⟨rfl, ?_⟩, trivial⟩ fun _ => pres_readyFrames outer
        obtain ⟨_, _, d, _⟩ := o
        cases d <;> rfl
theorem pres_frameOf (env : Env) : Pres (PySem.frameOf env) := by
  unfold PySem.frameOf frameObject
  refine pres_bind (pres_bind pres_stack fun _ => trivial) fun l => pres_bind ?_ fun r => ?_
  · split
    · trivial
    · exact pres_bind (pres_readyFrames _) fun _ => trivial
  · split <;> trivial
theorem pres_entryPlaceOf (f : Addr) (b : Bool) : Pres (entryPlaceOf f b) := by
  show Pres _
  unfold entryPlaceOf
  refine pres_bind pres_stack fun acts => ?_
  split <;> trivial
theorem pres_newEntry (a b c d e : Value) (p : List Value) : Pres (EntryCells.newEntry a b c d e p) := by
  unfold EntryCells.newEntry newFields newObj
  have tail : ∀ d : Data, Pres (newObjAsIs (.type "traceback") d) := fun d => by
    unfold newObjAsIs
    exact pres_bind (m := alloc _) (fun _ => trivial) fun _ => trivial
  dsimp only
  have hh : ∀ (c : Prop) [Decidable c] (d : Data), Pres (if c then do unsupported "record:memory"; newObjAsIs (.type "traceback") d else newObjAsIs (.type "traceback") d) := fun c _ d => by
    split
    · trivial
    · exact tail d
  exact hh _ _
theorem pres_noteFrame (e : Value) (env : Env) : Pres (noteFrame e env) := by
  unfold noteFrame
  cases env.frame with
  | none => trivial
  | some f =>
    have tail : ∀ head : Value, Pres (do setField e 1 (← EntryCells.newEntry head (← PySem.frameOf env) .none (rawInt f) .none (← entryPlaceOf f (head != .none)))) := fun head =>
      pres_bind (pres_frameOf _) fun _ => pres_bind (pres_entryPlaceOf f _) fun _ => pres_bind (pres_newEntry ..) fun _ => pres_setField ..
    refine pres_bind (pres_field ..) fun head => ?_
    dsimp only
    split
    · refine pres_bind (pres_field ..) fun x => ?_
      split
      · trivial
      · exact pres_bind (pres_setField ..) fun _ => tail head
    · exact tail head
theorem pres_leaving (env : Env) (e : Value) : Pres (leaving env e) := pres_bind (pres_noteFrame ..) fun _ => pres_setFlight ..
end Mine
end
open PySem PySem.W PyProof.Rows PySem.Calls
namespace Mine
local macro_rules | `(tactic| k_all) => `(tactic| assumption)
local macro_rules | `(tactic| k_mem) => `(tactic| assumption)
local macro_rules | `(tactic| walk_at "last call builtin:len") => `(tactic| (k_here; (with_reducible show wpAny _ _ (call (Value.builtin "len") [Value.ref _]) _ _ _); k_dflt (refine' gl_len ?N ?m ?l ?_; (case N => k_asm); (case m => k_mem); (case l => omega); k_whole); intro _ _; (try dsimp only)))
local macro_rules | `(tactic| walk_at "setItem ref int ref") => `(tactic| (k_here; k_dflt (refine' gl_set ?F ?N ?U ?a ?b ?c ?_; (case F => k_asm); (case N => k_asm); (case U => k_upd); (case a => omega); (case b => omega); (case c => omega); k_whole); intro h' F' N'; (try k_sweep)))
local macro_rules | `(tactic| walk_at "call builtin:list.insert") => `(tactic| (k_here; k_dflt (refine' gl_insert ?F ?N ?U ?a ?b ?c ?_; (case F => k_asm); (case N => k_asm); (case U => k_upd); (case a => omega); (case b => omega); (case c => omega); k_whole); intro h' F' N'; (try k_sweep)))
local macro_rules | `(tactic| walk_at "call builtin:list.pop") => `(tactic| (k_here; (with_reducible show wpAny _ _ (call (Value.builtin _) [Value.ref _, Value.int _ _]) _ _ _); k_dflt (refine' gl_pop ?F ?N ?U ?a ?b ?c ?_; (case F => k_asm); (case N => k_asm); (case U => k_upd); (case a => omega); (case b => omega); (case c => omega); k_whole); intro h' y9 hy9 F' N'; (try k_sweep)))
local macro_rules | `(tactic| walk_at "setItem ref int int") => `(tactic| (k_here; k_dflt (refine' kda_set (knd := PySem.intKind _ _) ?F ?N ?U ?d (intKind_is _ _ _ _) ?z ?_; (case F => k_asm); (case N => k_asm); (case U => k_updF); (case d => k_asm); (case z => rw [sizeLine_eq]; omega)); intro h' o' F' N' hd'; (try dsimp only at N'); (try k_sweep)))
local macro_rules | `(tactic| k_enter) => `(tactic| (refine' code_def ?k1 ?k2 ?k3 ?k4 ?k5 ?kA ?kF ?kK ?k6 ?k7 ?k8 ?k9 ?kB ?_ ?c2 ?c3 ?c4 ?c5; (case kA => exact rfl); (case kF => exact rfl); (case kK => first | exact rfl | assumption); (case k1 => k_asm); (case k2 => k_asm); (case k3 => k_asm); (case k4 => k_asm); (case k5 => k_asm); (case k6 => k_is); (case k7 => k_is); (case k8 => ktr_room); (case k9 => exact BindsTo.of_eq rfl); (case c5 => decide); (case kB => exact locs rfl); (case c2 => exact rfl); (case c3 => exact rfl); (case c4 => exact rfl); k_whole; intro g' L' h' FG' F' N' B' X' T'; (try dsimp only); (try k_fold)))
local macro_rules | `(tactic| walk_at "subscriptTail Name Slice ref ref") => `(tactic| (k_here; (with_reducible show wpAny _ _ (subscriptTail _ (PySem.Expr.Slice _ _ none _) (Value.ref _) (Value.ref _)) _ _ _); k_dflt (refine' kmk_slice_lit ?F ?N ?l ?p ?q ?e ?_ ?s ?t ?z; (case F => k_asm); (case N => k_asm); (case l => kmk_list); (case p => kmk_part); (case q => kmk_part); (case e => first | exact pick_upto _ (by omega) | exact pick_from _ (by omega)); (case s => with_unfolding_all rfl); (case t => kmk_pure); (case z => (rw [List.size_toArray, sizeLine_eq]; omega))); intro D' h' F' N' l1; (try k_lt l1); (try k_sweep)))
local macro_rules | `(tactic| walk_at "subscriptTail Attribute Slice ref ref") => `(tactic| (k_here; (with_reducible show wpAny _ _ (subscriptTail _ (PySem.Expr.Slice _ _ none _) (Value.ref _) (Value.ref _)) _ _ _); k_dflt (refine' kmk_slice_lit ?F ?N ?l ?p ?q ?e ?_ ?s ?t ?z; (case F => k_asm); (case N => k_asm); (case l => kmk_list); (case p => kmk_part); (case q => kmk_part); (case e => first | exact pick_upto _ (by omega) | exact pick_from _ (by omega)); (case s => with_unfolding_all rfl); (case t => kmk_pure); (case z => (rw [List.size_toArray, sizeLine_eq]; omega))); intro D' h' F' N' l1; (try k_lt l1); (try k_sweep)))
local macro_rules | `(tactic| walk_at "binaryOp Add ref ref") => `(tactic| (k_here; (with_reducible show wpAny _ _ (binaryOp _ (Value.ref _) (Value.ref _)) _ _ _); k_dflt (refine' kmk_add_lit ?F ?N ?a ?b ?e ?_ ?z; (case F => k_asm); (case N => k_asm); (case a => kmk_list); (case b => kmk_list); (case e => exact rfl); (case z => (simp only [List.length_take, List.length_drop]; rw [sizeLine_eq]; omega))); intro D' h' F' N' l1; (try k_lt l1); (try k_sweep)))
section
theorem has_spec' {prog : Program} {w : World} {news : Ledger} {p d a b : Addr} {h1 h2 : Int} {t1 t2 : Tok} {n1 n2 : Nat} {vs : List Value} {ns : List Int} {k : Int} {tk : Tok} {bb : Bool}
    (hp : (p, instObj 79 d) ∈ news) (hdd : (d, progDict h1 h2 t1 t2 a b n1) ∈ news) (hna : (a, listOf vs.toArray n2) ∈ news) (hI : IntsAre vs ns)
    (hS : ns.Pairwise (· < ·)) (hlen : ns.length ≤ 100) (hb : ns.contains k = bb) :
    Spec 20 40 prog w 97 [.ref p, .int k tk] news (fun v news' => v = .bool bb ∧ news' = news) := hb ▸ has_spec hp hdd hna hI hS hlen

set_option maxRecDepth 100000 in
set_option maxHeartbeats 8000000 in
theorem put_there {prog : Program} {w : World} {R : Ledger} {p d a b r : Addr} {h1 h2 : Int} {t1 t2 : Tok} {n1 n2 n3 n4 : Nat} {vs rs its : List Value} {ns : List Int} {k : Int} {tk : Tok}
    (hp : (p, instObj 79 d) ∈ R) (hdd : (d, progDict h1 h2 t1 t2 a b n1) ∈ R) (hr : (r, listOf its.toArray n4) ∈ R) (hI : IntsAre vs ns)
    (hS : ns.Pairwise (· < ·)) (hlen : ns.length ≤ 100) (hk0 : 0 ≤ k) (hk1 : k ≤ 1000) (hits : its.length ≤ 2) (hb : ns.contains k = true) (hrl : rs.length = ns.length)
    (hab : a ≠ b) (hRa : ∀ q ∈ R, q.1 ≠ a) (hRb : ∀ q ∈ R, q.1 ≠ b) :
    Spec 40 80 prog w 104 [.ref p, .int k tk, .ref r] ((a, listOf vs.toArray n2) :: (b, listOf rs.toArray n3) :: R)
      (fun v news' => v = .none ∧ ((its.length = 0 ∧ news' = (a, listOf (vs.eraseIdx (pos ns k)).toArray (n2 + 1)) :: (b, listOf (rs.eraseIdx (pos ns k)).toArray (n3 + 1)) :: R) ∨
        (its.length ≠ 0 ∧ news' = (a, listOf vs.toArray n2) :: (b, listOf (rs.set (pos ns k) (.ref r)).toArray n3) :: R))) := by
  k_with_none
  w_top off
  have hfill : PySem.Challenge.rw_sa0631_01 = PySem.Challenge.rw_sa0631_01 ∧ @hd.heap_39 = hd.heap_39 := by (k_fill; exact ⟨rfl, rfl⟩)
  clear hfill
  intro mean mg mb dp un gd cn cs a0 ccd cl outer A₀ base h₀ L m s Q E B F X N0 T hk hdp hun ret
  have hab := neN hab
  have hpa := neN (hRa _ hp)
  have hpb := neN (hRb _ hp)
  have hda := neN (hRa _ hdd)
  have hdb := neN (hRb _ hdd)
  have hra := neN (hRa _ hr)
  have hrb := neN (hRb _ hr)
  have N := nadd (nadd (nadd N0 (List.mem_cons_of_mem _ (List.mem_cons_of_mem _ hr))) (List.mem_cons_of_mem _ (List.mem_cons_of_mem _ (List.mem_cons_of_mem _ hdd)))) (List.mem_cons_of_mem _ (List.mem_cons_of_mem _ (List.mem_cons_of_mem _ (List.mem_cons_of_mem _ hp))))
  clear N0
  have hpl : pos ns k < ns.length := by
    by_cases h : pos ns k < ns.length
    · exact h
    · rw [has_out h] at hb; cases hb
  have hvl : vs.length = ns.length := hI.length
  refine wpAny_call ?_
  k_dflt ktr_enter
  k_with_none
  k_with "call ref" => (k_here; (with_reducible show wpAny _ _ (call (Value.ref 90) [_, _]) _ _ _); with_unfolding_all refine' Spec.use ?B ?F ?X ?N ?T ?hk (place_spec (h1 := h1) (h2 := h2) (t1 := t1) (t2 := t2) (d := d) (a := a) (b := b) (n1 := n1) (n2 := n2) (vs := vs) (ns := ns) ?p1 ?p2 ?p3 ?p4 ?p5 ?p6) ?hd ?hu ?_; (case B => k_asm); (case F => k_asm); (case X => k_asm); (case N => k_asm); (case T => k_asm); (case hk => first | exact rfl | assumption); (case hd => ktr_room); (case hu => ktr_units); (case p1 => k_mem); (case p2 => k_mem); (case p3 => k_mem); (case p4 => assumption); (case p5 => assumption); (case p6 => assumption); rintro _ _ h9 tk9 ⟨tr9, rfl, rfl⟩ F9 N9; (try dsimp only); (try k_sweep); (try k_fold))
  k_with "call ref" => (k_here; (with_reducible show wpAny _ _ (call (Value.ref 97) [_, _]) _ _ _); with_unfolding_all refine' Spec.use ?B ?F ?X ?N ?T ?hk (has_spec' (h1 := h1) (h2 := h2) (t1 := t1) (t2 := t2) (d := d) (a := a) (b := b) (n1 := n1) (n2 := n2) (vs := vs) (ns := ns) ?p1 ?p2 ?p3 ?p4 ?p5 ?p6 hb) ?hd ?hu ?_; (case B => k_asm); (case F => k_asm); (case X => k_asm); (case N => k_asm); (case T => k_asm); (case hk => first | exact rfl | assumption); (case hd => ktr_room); (case hu => ktr_units); (case p1 => k_mem); (case p2 => k_mem); (case p3 => k_mem); (case p4 => assumption); (case p5 => assumption); (case p6 => assumption); rintro _ _ h9 tk9 ⟨rfl, rfl⟩ F9 N9; (try dsimp only); (try k_sweep); (try k_fold))
  k_steps
  · (rename News _ _ _ _ => nE; (try simp only [Int.toNat_natCast] at nE))
    exact ret _ _ _ _ ⟨rfl, .inl ⟨by omega, rfl⟩⟩ (by assumption) (nsub nE (by intro q hq; repeat (first | exact hq | apply List.mem_cons_of_mem)))
  · (rename News _ _ _ _ => nE; (try simp only [Int.toNat_natCast] at nE))
    exact ret _ _ _ _ ⟨rfl, .inr ⟨by omega, rfl⟩⟩ (by assumption) (nsub nE (by intro q hq; repeat (first | exact hq | apply List.mem_cons_of_mem)))

set_option maxRecDepth 100000 in
set_option maxHeartbeats 8000000 in
theorem put_new {prog : Program} {w : World} {R : Ledger} {p d a b r : Addr} {h1 h2 : Int} {t1 t2 : Tok} {n1 n2 n3 n4 : Nat} {vs rs its : List Value} {ns : List Int} {k : Int} {tk : Tok}
    (hp : (p, instObj 79 d) ∈ R) (hdd : (d, progDict h1 h2 t1 t2 a b n1) ∈ R) (hr : (r, listOf its.toArray n4) ∈ R) (hI : IntsAre vs ns)
    (hS : ns.Pairwise (· < ·)) (hlen : ns.length ≤ 100) (hk0 : 0 ≤ k) (hk1 : k ≤ 1000) (hits : its.length = 2) (hb : ns.contains k = false) (hrl : rs.length = ns.length)
    (hab : a ≠ b) (hRa : ∀ q ∈ R, q.1 ≠ a) (hRb : ∀ q ∈ R, q.1 ≠ b) :
    Spec 40 80 prog w 104 [.ref p, .int k tk, .ref r] ((a, listOf vs.toArray n2) :: (b, listOf rs.toArray n3) :: R)
      (fun v news' => v = .none ∧ news' = (a, listOf (vs.take (pos ns k) ++ .int k tk :: vs.drop (pos ns k)).toArray (n2 + 1)) :: (b, listOf (rs.take (pos ns k) ++ .ref r :: rs.drop (pos ns k)).toArray (n3 + 1)) :: R) := by
  k_with_none
  w_top off
  have hfill : PySem.Challenge.rw_sa0631_01 = PySem.Challenge.rw_sa0631_01 ∧ @hd.heap_39 = hd.heap_39 := by (k_fill; exact ⟨rfl, rfl⟩)
  clear hfill
  intro mean mg mb dp un gd cn cs a0 ccd cl outer A₀ base h₀ L m s Q E B F X N0 T hk hdp hun ret
  have hab := neN hab
  have hpa := neN (hRa _ hp)
  have hpb := neN (hRb _ hp)
  have hda := neN (hRa _ hdd)
  have hdb := neN (hRb _ hdd)
  have hra := neN (hRa _ hr)
  have hrb := neN (hRb _ hr)
  have N := nadd (nadd (nadd N0 (List.mem_cons_of_mem _ (List.mem_cons_of_mem _ hr))) (List.mem_cons_of_mem _ (List.mem_cons_of_mem _ (List.mem_cons_of_mem _ hdd)))) (List.mem_cons_of_mem _ (List.mem_cons_of_mem _ (List.mem_cons_of_mem _ (List.mem_cons_of_mem _ hp))))
  clear N0
  have hpl : pos ns k ≤ ns.length := pos_le ns k
  have hvl : vs.length = ns.length := hI.length
  refine wpAny_call ?_
  k_dflt ktr_enter
  k_with_none
  k_with "call ref" => (k_here; (with_reducible show wpAny _ _ (call (Value.ref 90) [_, _]) _ _ _); with_unfolding_all refine' Spec.use ?B ?F ?X ?N ?T ?hk (place_spec (h1 := h1) (h2 := h2) (t1 := t1) (t2 := t2) (d := d) (a := a) (b := b) (n1 := n1) (n2 := n2) (vs := vs) (ns := ns) ?p1 ?p2 ?p3 ?p4 ?p5 ?p6) ?hd ?hu ?_; (case B => k_asm); (case F => k_asm); (case X => k_asm); (case N => k_asm); (case T => k_asm); (case hk => first | exact rfl | assumption); (case hd => ktr_room); (case hu => ktr_units); (case p1 => k_mem); (case p2 => k_mem); (case p3 => k_mem); (case p4 => assumption); (case p5 => assumption); (case p6 => assumption); rintro _ _ h9 tk9 ⟨tr9, rfl, rfl⟩ F9 N9; (try dsimp only); (try k_sweep); (try k_fold))
  k_with "call ref" => (k_here; (with_reducible show wpAny _ _ (call (Value.ref 97) [_, _]) _ _ _); with_unfolding_all refine' Spec.use ?B ?F ?X ?N ?T ?hk (has_spec' (h1 := h1) (h2 := h2) (t1 := t1) (t2 := t2) (d := d) (a := a) (b := b) (n1 := n1) (n2 := n2) (vs := vs) (ns := ns) ?p1 ?p2 ?p3 ?p4 ?p5 ?p6 hb) ?hd ?hu ?_; (case B => k_asm); (case F => k_asm); (case X => k_asm); (case N => k_asm); (case T => k_asm); (case hk => first | exact rfl | assumption); (case hd => ktr_room); (case hu => ktr_units); (case p1 => k_mem); (case p2 => k_mem); (case p3 => k_mem); (case p4 => assumption); (case p5 => assumption); (case p6 => assumption); rintro _ _ h9 tk9 ⟨rfl, rfl⟩ F9 N9; (try dsimp only); (try k_sweep); (try k_fold))
  k_steps
  · exfalso; omega
  · (rename News _ _ _ _ => nE; (try simp only [Int.toNat_natCast] at nE))
    exact ret _ _ _ _ ⟨rfl, rfl⟩ (by assumption) (nsub nE (by intro q hq; repeat (first | exact hq | apply List.mem_cons_of_mem)))
end
section
abbrev tupOf (vs : List Value) : Obj := { cls := .type "tuple", data := .seq vs.toArray }
/-- v is a row PRINT x, all of it in J -/
def RowIn (J : Ledger) (v : Value) (x : Int) : Prop := ∃ (r a b : Addr) (t1 t2 t3 t4 : Tok), v = .ref r ∧ (r, listOf [.ref a, .ref b].toArray 0) ∈ J ∧
  (a, tupOf [.str (Str.ofString "word") t1, .str (Str.ofString "PRINT") t2]) ∈ J ∧ (b, tupOf [.str (Str.ofString "number") t3, .int x t4]) ∈ J
theorem RowIn.mono {J J' : Ledger} {v : Value} {x : Int} (h : RowIn J v x) (hs : ∀ q ∈ J, q ∈ J') : RowIn J' v x := by
  obtain ⟨r, a, b, t1, t2, t3, t4, e, h1, h2, h3⟩ := h
  exact ⟨r, a, b, t1, t2, t3, t4, e, hs _ h1, hs _ h2, hs _ h3⟩

/-- new objects, all above the elder ones -/
def Above (new R : Ledger) : Prop := ∀ q ∈ new, ∀ q' ∈ R, q'.1 < q.1

theorem allLt_mem {d : Nat} {l : Ledger} (h : AllLt d l) : ∀ q ∈ l, q.1 < d := by
  induction l with
  | nil => intro q hq; cases hq
  | cons p r ih =>
    intro q hq
    rcases List.mem_cons.mp hq with rfl | hq
    · exact h.1
    · exact ih h.2 q hq

theorem row_end {R : Ledger} {l a b : Nat} {t1 t2 t3 t4 : Tok} {x : Int} (h1 : ∀ q ∈ R, q.1 < a) (h2 : a < b ∧ AllLt b R) (h3 : b < l ∧ a < l ∧ AllLt l R) :
    ∃ new, RowIn new (.ref l) x ∧ (((l, listOf #[Value.ref a, Value.ref b] 0) :: (b, { cls := .type "tuple", data := .seq #[.str (Str.ofString "number") t3, .int x t4] }) :: (a, { cls := .type "tuple", data := .seq #[.str (Str.ofString "word") t1, .str (Str.ofString "PRINT") t2] }) :: R) : Ledger) = new ++ R ∧ Above new R ∧ (new.map (·.1)).Nodup := by
  refine ⟨[(l, listOf #[Value.ref a, Value.ref b] 0), (b, { cls := .type "tuple", data := .seq #[.str (Str.ofString "number") t3, .int x t4] }), (a, { cls := .type "tuple", data := .seq #[.str (Str.ofString "word") t1, .str (Str.ofString "PRINT") t2] })], ⟨l, a, b, t1, t2, t3, t4, rfl, .head _, .tail _ (.tail _ (.head _)), .tail _ (.head _)⟩, rfl, ?_, ?_⟩
  · intro q hq q' hq'
    rcases List.mem_cons.mp hq with rfl | hq
    · exact allLt_mem h3.2.2 q' hq'
    · rcases List.mem_cons.mp hq with rfl | hq
      · exact allLt_mem h2.2 q' hq'
      · rw [List.mem_singleton.mp hq]; exact h1 q' hq'
  · have e1 := h3.1
    have e2 := h3.2.1
    have e3 := h2.1
    simp only [List.map_cons, List.map_nil, List.nodup_cons, List.mem_cons, List.not_mem_nil, or_false, not_or, not_false_eq_true, List.nodup_nil, and_true]
    exact ⟨⟨Nat.ne_of_gt e1, Nat.ne_of_gt e2⟩, Nat.ne_of_gt e3⟩

set_option maxRecDepth 100000 in
set_option maxHeartbeats 8000000 in
theorem row_spec {prog : Program} {w : World} {R : Ledger} {x : Int} {tk : Tok} :
    Spec 10 20 prog w 146 [.int x tk] R
      (fun v news' => ∃ new, RowIn new v x ∧ news' = new ++ R ∧ Above new R ∧ (new.map (·.1)).Nodup) := by
  k_with_none
  w_top off
  have hfill : PySem.Challenge.rw_sa0631_01 = PySem.Challenge.rw_sa0631_01 ∧ @hd.heap_39 = hd.heap_39 := by (k_fill; exact ⟨rfl, rfl⟩)
  clear hfill
  intro mean mg mb dp un gd cn cs a0 ccd cl outer A₀ base h₀ L m s Q E B F X N0 T hk hdp hun ret
  have N := N0
  clear N0
  refine wpAny_call ?_
  k_dflt ktr_enter
  k_with_none
  k_steps
  rename News _ _ _ _ => nE
  exact ret _ _ _ _ (row_end (by assumption) (by assumption) (by assumption)) (by assumption) nE

set_option maxRecDepth 100000 in
set_option maxHeartbeats 8000000 in
theorem next_spec {prog : Program} {w : World} {R : Ledger} {f c : Addr} {vs : List Value} {ns : List Int} {n n2 : Nat} {turn many : Int} {tk tt : Tok} (hc : (c, listOf vs.toArray n2) ∈ R) (hI : IntsAre vs ns) (hl : ns.length ≤ 63)
    (ht0 : 0 ≤ turn) (ht1 : turn ≤ 1000) (hm : 0 < many) (hm1 : many ≤ 100) (hRf : ∀ q ∈ R, q.1 ≠ f) :
    Spec 10 20 prog w 132 [.ref f, .int many tk] ((f, listOf #[.ref c, .int turn tt] n) :: R)
      (fun v news' => ∃ r tr tt', v = .int r tr ∧ 0 ≤ r ∧ r < many ∧ news' = (f, listOf #[.ref c, .int (turn + 1) tt'] n) :: R) := by
  k_with_none
  w_top off
  have hfill : PySem.Challenge.rw_sa0631_01 = PySem.Challenge.rw_sa0631_01 ∧ @hd.heap_39 = hd.heap_39 := by (k_fill; exact ⟨rfl, rfl⟩)
  clear hfill
  intro mean mg mb dp un gd cn cs a0 ccd cl outer A₀ base h₀ L m s Q E B F X N0 T hk hdp hun ret
  have hcf := neN (hRf _ hc)
  have N := nadd N0 (List.mem_cons_of_mem _ hc)
  clear N0
  refine wpAny_call ?_
  k_dflt ktr_enter
  k_with_none
  k_steps
  all_goals (rename News _ _ _ _ => nE)
  all_goals exact ret _ _ _ _ ⟨_, _, _, rfl, Int.fmod_nonneg_of_pos _ hm, Int.fmod_lt_of_pos _ hm, rfl⟩ (by assumption) (nsub nE (by intro q hq; repeat (first | exact hq | apply List.mem_cons_of_mem)))

theorem Spec.conv {D U : Nat} {prog : Program} {w : World} {f : Addr} {args : List Value} {news1 news2 : Ledger} {post1 post2 : Value → Ledger → Prop} (C : Spec D U prog w f args news1 post1)
    (h1 : ∀ q ∈ news1, q ∈ news2) (h2 : ∀ v n1, post1 v n1 → ∃ n2, post2 v n2 ∧ ∀ q ∈ n2, q ∈ n1) : Spec D U prog w f args news2 post2 := by
  intro mean mg mb dp un gd cn cs a0 ccd cl outer A₀ base h₀ L m s Q E B F X N T hk hd hu ret
  refine C mean mg mb dp un gd cn cs a0 ccd cl outer A₀ base h₀ L m s Q E B F X (nsub N h1) T hk hd hu fun v n1 h' tk' hp F' N' => ?_
  obtain ⟨n2, hp2, hs⟩ := h2 v n1 hp
  exact ret v n2 h' tk' hp2 F' (nsub N' hs)

theorem next_specU {prog : Program} {w : World} {news : Ledger} {g : Obj → Ledger} {f c : Addr} {vs : List Value} {ns : List Int} {n n2 : Nat} {turn many : Int} {tk tt : Tok} (U : UpdF f (listOf #[.ref c, .int turn tt] n) news g) (hc : (c, listOf vs.toArray n2) ∈ news) (hcf : @Ne Nat c f) (hI : IntsAre vs ns) (hl : ns.length ≤ 63)
    (ht0 : 0 ≤ turn) (ht1 : turn ≤ 1000) (hm : 0 < many) (hm1 : many ≤ 100) :
    Spec 10 20 prog w 132 [.ref f, .int many tk] news
      (fun v news' => ∃ r tr tt', v = .int r tr ∧ 0 ≤ r ∧ r < many ∧ news' = g (listOf #[.ref c, .int (turn + 1) tt'] n)) := by
  obtain ⟨pre, post, rfl, hg, a, b⟩ := U.split
  have hR : ∀ q ∈ pre ++ post, q.1 ≠ f := fun q hq => (List.mem_append.mp hq).elim (a q) (b q)
  have hc' : (c, listOf vs.toArray n2) ∈ pre ++ post := by
    rcases List.mem_append.mp hc with h | h
    · exact List.mem_append_left _ h
    · rcases List.mem_cons.mp h with h | h
      · exact absurd (congrArg Prod.fst h) hcf
      · exact List.mem_append_right _ h
  refine Spec.conv (next_spec (n := n) (tt := tt) hc' hI hl ht0 ht1 hm hm1 hR) (fun q hq => ?_) ?_
  · rcases List.mem_cons.mp hq with rfl | hq
    · exact List.mem_append_right _ (.head _)
    · exact (List.mem_append.mp hq).elim (List.mem_append_left _) fun h => List.mem_append_right _ (.tail _ h)
  · rintro v n1 ⟨r, tr, tt', rfl, h0, h1, rfl⟩
    refine ⟨_, ⟨r, tr, tt', rfl, h0, h1, rfl⟩, fun q hq => ?_⟩
    rw [hg] at hq
    rcases List.mem_append.mp hq with h | h
    · exact .tail _ (List.mem_append_left _ h)
    · rcases List.mem_cons.mp h with rfl | h
      · exact .head _
      · exact .tail _ (List.mem_append_right _ h)
end
section
def Apart (a b : Ledger) : Prop := ∀ p ∈ a, ∀ q ∈ b, p.1 ≠ q.1

/-- the frame's map: the letters' names, what the body stores, the rest as it was -/
abbrev mapG (stored : List Str) (u m₀ : Str → Option Value) (ps : List (Str × Value)) : Str → Option Value := kstB (fun z => if stored.contains z then u z else m₀ z) ps

def KeptG (stored : List Str) (m₀ : Str → Option Value) (ps : List (Str × Value)) (m' : Str → Option Value) : Prop :=
  (∀ p ∈ ps, m' p.1 = some p.2) ∧ ∀ z, (∀ p ∈ ps, z ≠ p.1) → stored.contains z = false → m' z = m₀ z

theorem KeptG.eq {stored : List Str} {m₀ m' : Str → Option Value} {ps : List (Str × Value)} (k : KeptG stored m₀ ps m') : mapG stored m' m₀ ps = m' := by
  funext y
  refine kstB_eq k.1 fun hn => ?_
  show (if stored.contains y = true then m' y else m₀ y) = m' y
  cases h3 : stored.contains y with
  | true => simp
  | false => simp only [Bool.false_eq_true, if_false]; exact (k.2 y hn h3).symm

def EndG {σ : Type} (h₀ : Heap) (L : Addr) (Led : σ → Ledger) (ps : σ → List (Str × Value)) (stored : List Str) (m₀ : Str → Option Value) (P : σ → Prop) (R' : Ledger) (s₁ s₂ : Shared) : Prop :=
  ∃ c' h' tk m' news', s₂ = { s₁ with heap := h', toks := tk } ∧ Fr h₀ L h' m' ∧ News h₀ L h' news' ∧ (∀ q ∈ Led c', q ∈ news') ∧ (∀ q ∈ R', q ∈ news') ∧ Apart (Led c') R' ∧ KeptG stored m₀ (ps c') m' ∧ P c'

def PostG {σ : Type} (h₀ : Heap) (L : Addr) (Led : σ → Ledger) (ps : σ → List (Str × Value)) (stored : List Str) (m₀ : Str → Option Value) (P : σ → Prop) (R' : Ledger) (s₁ : Shared) (RR : Result → Shared → Prop) (f : Flow) (s₂ : Shared) : Prop :=
  match f with
  | .ret v => RR (.ok (.ret v)) s₂
  | .brk => RR (.ok .next) s₂
  | _ => EndG h₀ L Led ps stored m₀ P R' s₁ s₂

section
variable {prog : Program} {w : World} {A : Around} {s : Shared} {env : Env} {h₀ : Heap}

theorem pairLoop {σ : Type} {RR : Result → Shared → Prop} {xi xc : Str} {pk pv pt : Pos} {x1 : Nat} {body : List Stmt} {I : Addr} {fp wr : List Addr} {n : Nat} {Pt : Nat → Array Value → Prop} {St : Nat → Heap → Prop} {Mid : Nat → Addr → Heap → Prop}
    {m₀ : Str → Option Value} {R : Ledger} (Led : σ → Ledger) (ps : σ → List (Str × Value)) (stored : List Str) (P : Nat → σ → Prop) (c₀ : σ)
    (hh : A.handled = none) (W : WalksT prog w A I fp wr n Pt St Mid) (h2 : ∀ i vals, Pt i vals → ∃ v0 v1, vals = #[v0, v1])
    (hxi : env.kindOf xi = some .local) (hxc : env.kindOf xc = some .local)
    (hp : (env.scope.kind == .class || (env.scope.kind == .module && env.locals != env.globals)) = false)
    (hLf : env.locals ∉ fp) (hwr : ∀ b ∈ wr, h₀.get? b = none) (hal : ∀ i h, St i h → ∀ b ∈ fp, ∃ o, h.get? b = some o) (hRw : ∀ q ∈ R, q.1 ∉ wr) (hap : ∀ q ∈ Led c₀, q.1 ∉ fp) (hapR : Apart (Led c₀) R)
    (hst : St 0 s.heap) (F : Fr h₀ env.locals s.heap m₀) (N : News h₀ env.locals s.heap (Led c₀ ++ R)) (hps : ∀ p ∈ ps c₀, m₀ p.1 = some p.2) (hP : P 0 c₀)
    (turn : ∀ i c v0 v1 (u : Str → Option Value) h tk R' (E' : Value → Shared → Prop), i < n → Pt i #[v0, v1] → P i c → (∀ q ∈ R, q ∈ R') → (∀ b ∈ fp, h₀.get? b = none → ∃ o, (b, o) ∈ R') → Apart (Led c) R' →
      Fr h₀ env.locals h (fun y => if y = xc then some v1 else if y = xi then some v0 else mapG stored u m₀ (ps c) y) → News h₀ env.locals h (Led c ++ R') →
      wpAny (model prog w) A (execs body env) (PostG h₀ env.locals Led ps stored m₀ (P (i + 1)) R' { s with heap := h, toks := tk } RR) E' { s with heap := h, toks := tk })
    (done : ∀ c (u : Str → Option Value) h tk, P n c → Fr h₀ env.locals h (mapG stored u m₀ (ps c)) → News h₀ env.locals h (Led c ++ R) → Apart (Led c) R → RR (.ok .next) { s with heap := h, toks := tk }) :
    codeAny (model prog w) A (.forLoop (.Tuple [.Name xi pk, .Name xc pv] x1 pt) (.ref I) body [] env) RR s := by
  have hLw : env.locals ∉ wr := fun h => hLf (W.sub _ h)
  have old : ∀ b o, h₀.get? b = some o → b ∉ wr := fun b o e hb => by rw [hwr b hb] at e; cases e
  refine codeAny_forLoop_any
    (fun k s' => ∃ h' tk m' i c, s' = { s with heap := h', toks := tk } ∧ St i h' ∧ Fr h₀ env.locals h' m' ∧ News h₀ env.locals h' (Led c ++ R) ∧ (∀ q ∈ Led c, q.1 ∉ fp) ∧ Apart (Led c) R ∧ KeptG stored m₀ (ps c) m' ∧ P i c ∧ i ≤ n ∧ k = n + 1 - i) ?_ (n + 1)
    ⟨s.heap, s.toks, m₀, 0, c₀, rfl, hst, F, N, hap, hapR, ⟨hps, fun _ _ _ => rfl⟩, hP, Nat.zero_le _, rfl⟩
  rintro k s' ⟨H, tk, m', i, c, rfl, hst', F', N', hap', hapR', hK, hPc, hi, rfl⟩
  have hoff : ∀ q ∈ Led c ++ R, q.1 ∉ wr := fun q hq => (List.mem_append.mp hq).elim (fun h hb => hap' q h (W.sub _ hb)) (hRw q)
  have next : ∀ h₁ : Heap, (∀ b o, b ∉ wr → H.get? b = some o → h₁.get? b = some o) → Fr h₀ env.locals h₁ m' ∧ News h₀ env.locals h₁ (Led c ++ R) := fun h₁ hk₁ =>
    ⟨⟨F'.ns.at' fun o e => hk₁ _ o hLw e, fun b o e => hk₁ b o (old b o e) (F'.keep b o e), F'.above⟩, fun q hq => ⟨hk₁ _ _ (hoff q hq) (N' q hq).1, (N' q hq).2⟩⟩
  by_cases hlt : i < n
  · refine W.item i _ _ _ hlt hst' fun T vals h₁ tk₁ hPt _ hT hMid hk₁ => ?_
    obtain ⟨v0, v1, rfl⟩ := h2 i vals hPt
    refine W.go _ x1 pt i T _ _ _ hMid fun h₂ hst₂ hk₂ => ?_
    have ht₂ : h₂.IsTuple T #[v0, v1] := hT.at fun o e => hk₂ T o (W.apart i T h₁ hMid) e
    refine wpAny_assign_Tuple hh ht₂ rfl rfl fun h₃ hx₃ => ?_
    replace hx₃ : Heap.ExtBut h₂.objs.size h₂ h₃ := hx₃
    have up₃ : ∀ b o, h₂.get? b = some o → h₃.get? b = some o := fun b o x => hx₃ b o (Nat.ne_of_lt (Heap.lt_size x)) x
    obtain ⟨F₃, N₃⟩ := next h₃ fun b o hb x => up₃ b o (hk₂ b o hb (hk₁ b o hb x))
    show wpAny _ A (do holding [v1] (assign (.Name xi pk) env v0); do holding [] (assign (.Name xc pv) env v1); pure ()) _ _ _
    refine wpAny_bind (wpAny_holding (wpAny_assign_Name (wpAny_storeName_local hxi F₃.ns (fun h₄ hn₄ hs₄ => ?_) hp)))
    have F₄ := F₃.set hn₄ hs₄
    refine wpAny_bind (wpAny_holding (wpAny_assign_Name (wpAny_storeName_local hxc F₄.ns (fun h₅ hn₅ hs₅ => wpAny_pure ?_) hp)))
    have F₅ := F₄.set hn₅ hs₅
    have N₅ : News h₀ env.locals h₅ (Led c ++ R) := (N₃.set hs₄).set hs₅
    have hst₅ : St (i + 1) h₅ := W.frame _ _ _ hst₂ fun b hb o e => hs₅.extBut b o (fun q => hLf (q ▸ hb)) (hs₄.extBut b o (fun q => hLf (q ▸ hb)) (up₃ b o e))
    have Nw : News h₀ env.locals h₅ (ownOf h₀ fp h₅) := news_ownOf hLf
    rw [← hK.eq] at F₅
    refine wpAny_mono (turn i c v0 v1 m' h₅ _ (ownOf h₀ fp h₅ ++ R) _ hlt hPt hPc (fun q hq => List.mem_append_right _ hq)
      (fun b hb hn => let ⟨o, ho⟩ := hal _ _ hst₅ b hb; ⟨o, List.mem_append_left _ (mem_ownOf hb hn ho)⟩)
      (fun p hp q hq => (List.mem_append.mp hq).elim (fun h e => hap' p hp (e ▸ ownOf_sub q h)) (hapR' p hp q)) F₅
      (fun q hq => (List.mem_append.mp hq).elim (fun h => N₅ q (List.mem_append_left _ h)) fun h => (List.mem_append.mp h).elim (Nw q) fun h => N₅ q (List.mem_append_right _ h))) (fun f s₃ h₆ => ?_) fun _ _ e => e
    have fin : ∀ tkx, EndG h₀ env.locals Led ps stored m₀ (P (i + 1)) (ownOf h₀ fp h₅ ++ R) { s with heap := h₅, toks := tkx } s₃ → ∃ k', k' < n + 1 - i ∧ ∃ h' tk m' i c, s₃ = { s with heap := h', toks := tk } ∧ St i h' ∧ Fr h₀ env.locals h' m' ∧ News h₀ env.locals h' (Led c ++ R) ∧ (∀ q ∈ Led c, q.1 ∉ fp) ∧ Apart (Led c) R ∧ KeptG stored m₀ (ps c) m' ∧ P i c ∧ i ≤ n ∧ k' = n + 1 - i := by
      rintro tkx ⟨c', h', tk', m₂, news', rfl, F₆, N₆, hl, hr, ha, hK', hP'⟩
      have keepfp : ∀ b ∈ fp, ∀ o, h₅.get? b = some o → h'.get? b = some o := fun b hb o e => by
        cases hn : h₀.get? b with
        | some o₀ =>
          have : o₀ = o := by have q := F₅.keep b o₀ hn; rw [e] at q; exact (Option.some.inj q).symm
          exact this ▸ F₆.keep b o₀ hn
        | none => exact (N₆ _ (hr _ (List.mem_append_left _ (mem_ownOf hb hn e)))).1
      refine ⟨n + 1 - (i + 1), by omega, h', tk', m₂, i + 1, c', rfl, W.frame _ _ _ hst₅ keepfp, F₆,
        fun q hq => (List.mem_append.mp hq).elim (fun h => N₆ q (hl q h)) fun h => N₆ q (hr q (List.mem_append_right _ h)), fun q hq hb => ?_, fun p hp q hq => ha p hp q (List.mem_append_right _ hq), hK', hP', hlt, rfl⟩
      obtain ⟨o, ho⟩ := hal _ _ hst₅ _ hb
      cases hn : h₀.get? q.1 with
      | some o₀ => have := (N₆ q (hl q hq)).2.2; rw [hn] at this; cases this
      | none => exact ha q hq (q.1, o) (List.mem_append_left _ (mem_ownOf hb hn ho)) rfl
    cases f with
    | ret v => exact h₆
    | brk => exact h₆
    | cont => exact fin _ h₆
    | next => exact fin _ h₆
  · have hin : i = n := by omega
    subst hin
    refine W.done _ _ _ hst' fun h₁ tk₁ hk₁ => wpAny_execs_nil ?_
    obtain ⟨F₁, N₁⟩ := next h₁ hk₁
    rw [← hK.eq] at F₁
    exact done c m' h₁ tk₁ hPc F₁ N₁ hapR'

theorem nameLoop {σ : Type} {RR : Result → Shared → Prop} {x : Str} {px : Pos} {body : List Stmt} {I : Addr} {fp wr : List Addr} {n : Nat} {Pt : Nat → Value → Prop} {St : Nat → Heap → Prop}
    {m₀ : Str → Option Value} {R : Ledger} (Led : σ → Ledger) (ps : σ → List (Str × Value)) (stored : List Str) (P : Nat → σ → Prop) (c₀ : σ)
    (W : Walks prog w A I fp wr n Pt St) (hx : env.kindOf x = some .local)
    (hp : (env.scope.kind == .class || (env.scope.kind == .module && env.locals != env.globals)) = false)
    (hLf : env.locals ∉ fp) (hwr : ∀ b ∈ wr, h₀.get? b = none) (hal : ∀ i h, St i h → ∀ b ∈ fp, ∃ o, h.get? b = some o) (hRw : ∀ q ∈ R, q.1 ∉ wr) (hap : ∀ q ∈ Led c₀, q.1 ∉ fp) (hapR : Apart (Led c₀) R)
    (hst : St 0 s.heap) (F : Fr h₀ env.locals s.heap m₀) (N : News h₀ env.locals s.heap (Led c₀ ++ R)) (hps : ∀ p ∈ ps c₀, m₀ p.1 = some p.2) (hP : P 0 c₀)
    (turn : ∀ i c v (u : Str → Option Value) h tk R' (E' : Value → Shared → Prop), i < n → Pt i v → P i c → (∀ q ∈ R, q ∈ R') → (∀ b ∈ fp, h₀.get? b = none → ∃ o, (b, o) ∈ R') → Apart (Led c) R' →
      Fr h₀ env.locals h (fun y => if y = x then some v else mapG stored u m₀ (ps c) y) → News h₀ env.locals h (Led c ++ R') →
      wpAny (model prog w) A (execs body env) (PostG h₀ env.locals Led ps stored m₀ (P (i + 1)) R' { s with heap := h, toks := tk } RR) E' { s with heap := h, toks := tk })
    (done : ∀ c (u : Str → Option Value) h tk, P n c → Fr h₀ env.locals h (mapG stored u m₀ (ps c)) → News h₀ env.locals h (Led c ++ R) → Apart (Led c) R → RR (.ok .next) { s with heap := h, toks := tk }) :
    codeAny (model prog w) A (.forLoop (.Name x px) (.ref I) body [] env) RR s := by
  have hLw : env.locals ∉ wr := fun h => hLf (W.sub _ h)
  have old : ∀ b o, h₀.get? b = some o → b ∉ wr := fun b o e hb => by rw [hwr b hb] at e; cases e
  refine codeAny_forLoop
    (fun k s' => ∃ h' tk m' i c, s' = { s with heap := h', toks := tk } ∧ St i h' ∧ Fr h₀ env.locals h' m' ∧ News h₀ env.locals h' (Led c ++ R) ∧ (∀ q ∈ Led c, q.1 ∉ fp) ∧ Apart (Led c) R ∧ KeptG stored m₀ (ps c) m' ∧ P i c ∧ i ≤ n ∧ k = n + 1 - i) ?_ (n + 1)
    ⟨s.heap, s.toks, m₀, 0, c₀, rfl, hst, F, N, hap, hapR, ⟨hps, fun _ _ _ => rfl⟩, hP, Nat.zero_le _, rfl⟩
  rintro k s' ⟨H, tk, m', i, c, rfl, hst', F', N', hap', hapR', hK, hPc, hi, rfl⟩
  have hoff : ∀ q ∈ Led c ++ R, q.1 ∉ wr := fun q hq => (List.mem_append.mp hq).elim (fun h hb => hap' q h (W.sub _ hb)) (hRw q)
  have next : ∀ h₁ : Heap, (∀ b o, b ∉ wr → H.get? b = some o → h₁.get? b = some o) → Fr h₀ env.locals h₁ m' ∧ News h₀ env.locals h₁ (Led c ++ R) := fun h₁ hk₁ =>
    ⟨⟨F'.ns.at' fun o e => hk₁ _ o hLw e, fun b o e => hk₁ b o (old b o e) (F'.keep b o e), F'.above⟩, fun q hq => ⟨hk₁ _ _ (hoff q hq) (N' q hq).1, (N' q hq).2⟩⟩
  by_cases hlt : i < n
  · refine W.item i _ _ _ hlt hst' fun v h₁ tk₁ hPt hst₁ hk₁ => ?_
    obtain ⟨F₁, N₁⟩ := next h₁ hk₁
    refine wpAny_assign_Name (wpAny_storeName_local hx F₁.ns (fun h₅ hn₅ hs₅ => ?_) hp)
    have F₅ := F₁.set hn₅ hs₅
    have N₅ : News h₀ env.locals h₅ (Led c ++ R) := N₁.set hs₅
    have hst₅ : St (i + 1) h₅ := W.frame _ _ _ hst₁ fun b hb o e => (hs₅.2 b fun q => hLf (q ▸ hb)).trans e
    have Nw : News h₀ env.locals h₅ (ownOf h₀ fp h₅) := news_ownOf hLf
    rw [← hK.eq] at F₅
    refine wpAny_mono (turn i c v m' h₅ _ (ownOf h₀ fp h₅ ++ R) _ hlt hPt hPc (fun q hq => List.mem_append_right _ hq)
      (fun b hb hn => let ⟨o, ho⟩ := hal _ _ hst₅ b hb; ⟨o, List.mem_append_left _ (mem_ownOf hb hn ho)⟩)
      (fun p hp q hq => (List.mem_append.mp hq).elim (fun h e => hap' p hp (e ▸ ownOf_sub q h)) (hapR' p hp q)) F₅
      (fun q hq => (List.mem_append.mp hq).elim (fun h => N₅ q (List.mem_append_left _ h)) fun h => (List.mem_append.mp h).elim (Nw q) fun h => N₅ q (List.mem_append_right _ h))) (fun f s₃ h₆ => ?_) fun _ _ e => e
    have fin : ∀ tkx, EndG h₀ env.locals Led ps stored m₀ (P (i + 1)) (ownOf h₀ fp h₅ ++ R) { s with heap := h₅, toks := tkx } s₃ → ∃ k', k' < n + 1 - i ∧ ∃ h' tk m' i c, s₃ = { s with heap := h', toks := tk } ∧ St i h' ∧ Fr h₀ env.locals h' m' ∧ News h₀ env.locals h' (Led c ++ R) ∧ (∀ q ∈ Led c, q.1 ∉ fp) ∧ Apart (Led c) R ∧ KeptG stored m₀ (ps c) m' ∧ P i c ∧ i ≤ n ∧ k' = n + 1 - i := by
      rintro tkx ⟨c', h', tk', m₂, news', rfl, F₆, N₆, hl, hr, ha, hK', hP'⟩
      have keepfp : ∀ b ∈ fp, ∀ o, h₅.get? b = some o → h'.get? b = some o := fun b hb o e => by
        cases hn : h₀.get? b with
        | some o₀ =>
          have : o₀ = o := by have q := F₅.keep b o₀ hn; rw [e] at q; exact (Option.some.inj q).symm
          exact this ▸ F₆.keep b o₀ hn
        | none => exact (N₆ _ (hr _ (List.mem_append_left _ (mem_ownOf hb hn e)))).1
      refine ⟨n + 1 - (i + 1), by omega, h', tk', m₂, i + 1, c', rfl, W.frame _ _ _ hst₅ keepfp, F₆,
        fun q hq => (List.mem_append.mp hq).elim (fun h => N₆ q (hl q h)) fun h => N₆ q (hr q (List.mem_append_right _ h)), fun q hq hb => ?_, fun p hp q hq => ha p hp q (List.mem_append_right _ hq), hK', hP', hlt, rfl⟩
      obtain ⟨o, ho⟩ := hal _ _ hst₅ _ hb
      cases hn : h₀.get? q.1 with
      | some o₀ => have := (N₆ q (hl q hq)).2.2; rw [hn] at this; cases this
      | none => exact ha q hq (q.1, o) (List.mem_append_left _ (mem_ownOf hb hn ho)) rfl
    cases f with
    | ret v => exact h₆
    | brk => exact h₆
    | cont => exact fin _ h₆
    | next => exact fin _ h₆
  · have hin : i = n := by omega
    subst hin
    refine W.done _ _ _ hst' fun h₁ tk₁ hk₁ => wpAny_execs_nil ?_
    obtain ⟨F₁, N₁⟩ := next h₁ hk₁
    rw [← hK.eq] at F₁
    exact done c m' h₁ tk₁ hPc F₁ N₁ hapR'
end

section
variable {prog : Program} {w : World} {A : Around} {E : Value → Shared → Prop} {s : Shared} {env : Env} {h₀ : Heap}
theorem rangeLoop {σ : Type} {RR : Result → Shared → Prop} {x : Str} {px : Pos} {body : List Stmt} {r : Addr} {a₀ b₀ st : Int} {t₀ u₀ v₀ : Tok} {n : Nat}
    {m₀ : Str → Option Value} {R : Ledger} (Led : σ → Ledger) (ps : σ → List (Str × Value)) (stored : List Str) (P : Nat → σ → Prop) (c₀ : σ)
    (hh : A.handled = none) (hr : IsRange s.heap r a₀ b₀ st t₀ u₀ v₀) (hsmall : Builtin.Range.small a₀ b₀ st = true) (hn : Builtin.Range.rangeSize a₀ b₀ st = (n : Int)) (hx : env.kindOf x = some .local)
    (hp : (env.scope.kind == .class || (env.scope.kind == .module && env.locals != env.globals)) = false)
    (F : Fr h₀ env.locals s.heap m₀) (N : News h₀ env.locals s.heap (Led c₀ ++ R)) (hapR : Apart (Led c₀) R) (hps : ∀ p ∈ ps c₀, m₀ p.1 = some p.2) (hP : P 0 c₀)
    (turn : ∀ i c t (u : Str → Option Value) h tk R' (E' : Value → Shared → Prop), i < n → P i c → (∀ q ∈ R, q ∈ R') → Apart (Led c) R' →
      Fr h₀ env.locals h (fun y => if y = x then some (.int (a₀ + i * st) t) else mapG stored u m₀ (ps c) y) → News h₀ env.locals h (Led c ++ R') →
      wpAny (model prog w) A (execs body env) (PostG h₀ env.locals Led ps stored m₀ (P (i + 1)) R' { s with heap := h, toks := tk } RR) E' { s with heap := h, toks := tk })
    (done : ∀ c (u : Str → Option Value) h tk, P n c → Fr h₀ env.locals h (mapG stored u m₀ (ps c)) → News h₀ env.locals h (Led c ++ R) → Apart (Led c) R → RR (.ok .next) { s with heap := h, toks := tk }) :
    wpAny (model prog w) A (pyIter (.ref r)) (fun it s₂ => codeAny (model prog w) A (.forLoop (.Name x px) it body [] env) RR s₂) E s := by
  refine wpAny_pyIter_range hr hsmall ?_
  have W : Walks prog w A s.heap.objs.size [s.heap.objs.size] [s.heap.objs.size] n (fun i v => i < n ∧ ∃ t, v = .int (a₀ + i * st) t)
      (fun i h => IsRangeIter h s.heap.objs.size (a₀ + (i : Nat) * st) ((n : Int) - (i : Nat)) st) := (Walks.range hh _ a₀ st n).bound
  have hI : ∀ q ∈ Led c₀ ++ R, q.1 ∉ [s.heap.objs.size] := fun q hq hm => absurd (Heap.lt_size (N q hq).1) ((List.mem_singleton.mp hm) ▸ Nat.lt_irrefl _)
  refine nameLoop (m₀ := m₀) (R := R) Led ps stored P c₀ W hx hp ?_ ?_ ?_ (fun q hq => hI q (List.mem_append_right _ hq)) (fun q hq => hI q (List.mem_append_left _ hq)) hapR ?_ (F.push _) (fun q hq => ⟨Heap.get?_push_of_some _ (N q hq).1, (N q hq).2⟩) hps hP ?_ done
  · intro hm
    exact absurd F.ns.lt ((List.mem_singleton.mp hm) ▸ Nat.lt_irrefl _)
  · intro b hb
    rw [List.mem_singleton.mp hb]
    exact next_is_new F
  · intro i h hst b hb
    rw [List.mem_singleton.mp hb]
    exact ⟨_, hst⟩
  · show IsRangeIter _ _ _ _ _
    rw [hn]
    simpa using Heap.get?_push_size s.heap (o := { cls := .type "range_iterator", data := .fields #[rawInt a₀, rawInt n, rawInt st] }) rfl
  · rintro i c v u h tk R' E' hi ⟨_, t, rfl⟩ hPc hR _ ha F' N'
    exact turn i c t u h tk R' E' hi hPc hR ha F' N'
end

theorem mapG_off {stored : List Str} {u m₀ : Str → Option Value} : ∀ {ps : List (Str × Value)} {z : Str}, (∀ p ∈ ps, z ≠ p.1) → stored.contains z = false → mapG stored u m₀ ps z = m₀ z
  | [], z, _, h3 => by show (if stored.contains z = true then u z else m₀ z) = m₀ z; rw [h3]; rfl
  | p :: r, z, h2, h3 => by
    show (if z = p.1 then some p.2 else mapG stored u m₀ r z) = m₀ z
    rw [if_neg (h2 p (.head _))]
    exact mapG_off (fun q hq => h2 q (.tail _ hq)) h3

theorem postG_next {σ : Type} {h₀ : Heap} {L : Addr} {Led : σ → Ledger} {ps : σ → List (Str × Value)} {stored : List Str} {m₀ : Str → Option Value} {P : σ → Prop} {R' : Ledger} {s₁ : Shared} {RR : Result → Shared → Prop} {h' : Heap} {tk : Nat} {m' : Str → Option Value} {news' : Ledger}
    (c' : σ) (F : Fr h₀ L h' m') (N : News h₀ L h' news') (hl : ∀ q ∈ Led c', q ∈ news') (hr : ∀ q ∈ R', q ∈ news') (ha : Apart (Led c') R') (hK : KeptG stored m₀ (ps c') m') (hP : P c') :
    PostG h₀ L Led ps stored m₀ P R' s₁ RR .next { s₁ with heap := h', toks := tk } := ⟨c', h', tk, m', news', rfl, F, N, hl, hr, ha, hK, hP⟩

/-- the same addresses are as apart -/
theorem Apart.same {a a' R : Ledger} (h : Apart a R) (e : a'.map (·.1) = a.map (·.1)) : Apart a' R := fun p hp q hq => by
  have : p.1 ∈ a.map (·.1) := e ▸ List.mem_map.mpr ⟨p, hp, rfl⟩
  obtain ⟨p', hp', e'⟩ := List.mem_map.mp this
  exact e' ▸ h p' hp' q hq

theorem notStored {stored : List Str} {z : Str} (h3 : stored.contains z = false) (x : Str) (hx : x ∈ stored) : z ≠ x := by
  rintro rfl
  rw [List.contains_iff_mem.mpr hx] at h3
  cases h3
theorem notPs {ps : List (Str × Value)} {z : Str} (h2 : ∀ p ∈ ps, z ≠ p.1) (x : Str) (hx : x ∈ ps.map (·.1)) : z ≠ x := by
  obtain ⟨p, hp, rfl⟩ := List.mem_map.mp hx
  exact h2 p hp
theorem ite_off {z x : Str} {a b c : Option Value} (hne : z ≠ x) (h : b = c) : (if z = x then a else b) = c := by rw [if_neg hne]; exact h

section
variable {prog : Program} {w : World} {A : Around} {E : Value → Shared → Prop} {s : Shared} {env : Env} {h₀ : Heap}
theorem walksItems (hh : A.handled = none) (it d : Addr) (hdi : d ≠ it) (kvs : List (Int × Value)) (ep : Nat) :
    WalksT prog w A it [it, d] [it] kvs.length (fun i vs => ∃ k v t, kvs[i]? = some (k, v) ∧ vs = #[.int k t, v])
      (fun i h => ∃ ok ov, PySem.IsItemIter h it d i kvs.length ep ok ov ∧ h.DictAt (intKind prog w) d kvs ep)
      (fun i T h => ∃ ok ov, PySem.IsItemIterOut h it d (i + 1) kvs.length ep ok ov T ∧ h.DictAt (intKind prog w) d kvs ep ∧ T ≠ it) where
  sub := fun b hb => by simp at hb; simp [hb]
  frame := fun i h h' hst hk => by
    obtain ⟨ok, ov, h1, h2⟩ := hst
    exact ⟨ok, ov, hk it (by simp) _ h1, h2.at fun o e => hk d (by simp) o e⟩
  item := fun i s Q E hi hst hQ => by
    obtain ⟨ok, ov, h1, h2⟩ := hst
    obtain ⟨k, v, hx⟩ : ∃ k v, kvs[i]? = some (k, v) := ⟨_, _, List.getElem?_eq_getElem hi⟩
    refine wpAny_pyNext_items_item h1 h2 hx fun key h' hkey heo ht hz hk => ?_
    obtain ⟨t, rfl⟩ := Value.isInt_shape hkey
    have hne : s.heap.objs.size ≠ it := Nat.ne_of_gt (Heap.lt_size h1)
    exact hQ _ _ h' s.toks ⟨k, v, t, hx, rfl⟩ (Nat.le_refl _) ⟨_, ht, rfl, _, rfl⟩ ⟨_, _, heo, h2.at fun o e => hk d o hdi e, hne⟩ fun b o hb e => hk b o (fun q => hb (by simp [q])) e
  go := fun elts k pos i T s Q E hM hQ => by
    obtain ⟨ok, ov, h1, h2, _⟩ := hM
    refine wpAny_letOwnedTupleGo_items h1 fun h' h1' hs => ?_
    exact hQ h' ⟨ok, ov, h1', h2.at fun o e => hs.extBut d o hdi e⟩ fun b o hb e => hs.extBut b o (fun q => hb (by simp [q])) e
  apart := fun i T h hM hT => hM.choose_spec.choose_spec.2.2 (by simpa using hT)
  done := fun s Q E hst hQ => by
    obtain ⟨ok, ov, h1, h2⟩ := hst
    exact wpAny_pyNext_items_end hh h1 h2 (by simp) fun h' he => hQ h' s.toks fun b o hb e => he b o (fun q => hb (by simp [q])) e
  self := fun i s Q E hst h => by
    obtain ⟨ok, ov, h1, _⟩ := hst
    exact kcp_self h1 h

theorem itemsLoop {σ : Type} {RR : Result → Shared → Prop} {xi xc : Str} {pk pv pt : Pos} {x1 : Nat} {body : List Stmt} {v d : Addr} {od : Obj} {kvs : List (Int × Value)}
    {m₀ : Str → Option Value} {R : Ledger} (Led : σ → Ledger) (ps : σ → List (Str × Value)) (stored : List Str) (P : Nat → σ → Prop) (c₀ : σ)
    (hh : A.handled = none) (hv : s.heap.IsItemsView v d) (hdR : (d, od) ∈ R) (hd : od.IsDictOf (intKind prog w) kvs)
    (hxi : env.kindOf xi = some .local) (hxc : env.kindOf xc = some .local)
    (hp : (env.scope.kind == .class || (env.scope.kind == .module && env.locals != env.globals)) = false)
    (F : Fr h₀ env.locals s.heap m₀) (N : News h₀ env.locals s.heap (Led c₀ ++ R)) (hapR : Apart (Led c₀) R) (hps : ∀ p ∈ ps c₀, m₀ p.1 = some p.2) (hP : P 0 c₀)
    (turn : ∀ i c k x t (u : Str → Option Value) h tk R' (E' : Value → Shared → Prop), kvs[i]? = some (k, x) → P i c → (∀ q ∈ R, q ∈ R') → Apart (Led c) R' →
      Fr h₀ env.locals h (fun y => if y = xc then some x else if y = xi then some (.int k t) else mapG stored u m₀ (ps c) y) → News h₀ env.locals h (Led c ++ R') →
      wpAny (model prog w) A (execs body env) (PostG h₀ env.locals Led ps stored m₀ (P (i + 1)) R' { s with heap := h, toks := tk } RR) E' { s with heap := h, toks := tk })
    (done : ∀ c (u : Str → Option Value) h tk, P kvs.length c → Fr h₀ env.locals h (mapG stored u m₀ (ps c)) → News h₀ env.locals h (Led c ++ R) → Apart (Led c) R → RR (.ok .next) { s with heap := h, toks := tk }) :
    wpAny (model prog w) A (pyIter (.ref v)) (fun it s₂ => codeAny (model prog w) A (.forLoop (.Tuple [.Name xi pk, .Name xc pv] x1 pt) it body [] env) RR s₂) E s := by
  have hdN := N _ (List.mem_append_right _ hdR)
  obtain ⟨ep, hm⟩ := (Heap.dictOf_iff.mpr ⟨od, hdN.1, hd⟩ : s.heap.DictOf (intKind prog w) d kvs).dictAt
  refine wpAny_pyIter_items hv hm ?_
  have hdi : d ≠ s.heap.objs.size := Nat.ne_of_lt hm.lt_size
  have hI : ∀ q ∈ Led c₀ ++ R, q.1 ≠ s.heap.objs.size := fun q hq hm => absurd (Heap.lt_size (N q hq).1) (hm ▸ Nat.lt_irrefl _)
  refine pairLoop (m₀ := m₀) (R := R) Led ps stored P c₀ hh (walksItems hh s.heap.objs.size d hdi kvs ep) ?_ hxi hxc hp ?_ ?_ ?_ ?_ ?_ hapR ?_ (F.push _) (fun q hq => ⟨Heap.get?_push_of_some _ (N q hq).1, (N q hq).2⟩) hps hP ?_ done
  · rintro i vs ⟨k, v, t, _, rfl⟩
    exact ⟨_, _, rfl⟩
  · intro hm
    rcases List.mem_cons.mp hm with e | hm
    · exact absurd F.ns.lt (e ▸ Nat.lt_irrefl _)
    · exact hdN.2.1 (List.mem_singleton.mp hm).symm
  · intro b hb
    rw [List.mem_singleton.mp hb]
    exact next_is_new F
  · rintro i h ⟨ok, ov, h1, o, es, ho, _⟩ b hb
    rcases List.mem_cons.mp hb with rfl | hb
    · exact ⟨_, h1⟩
    · rw [List.mem_singleton.mp hb]; exact ⟨o, ho⟩
  · intro q hq hm
    exact hI q (List.mem_append_right _ hq) (List.mem_singleton.mp hm)
  · intro q hq hm
    rcases List.mem_cons.mp hm with e | hm
    · exact hI q (List.mem_append_left _ hq) e
    · exact hapR q hq _ hdR (List.mem_singleton.mp hm)
  · exact ⟨.none, .none, Heap.get?_push_size _ rfl, hm.push _⟩
  · rintro i c v0 v1 u h tk R' E' hi ⟨k, x, t, hkv, e⟩ hPc hR _ ha F' N'
    simp only [Array.mk.injEq, List.cons.injEq, and_true] at e
    obtain ⟨rfl, rfl⟩ := e
    exact turn i c k _ t u h tk R' E' hkv hPc hR ha F' N'
end
end
section
inductive All2 {α β : Type} (P : α → β → Prop) : List α → List β → Prop
  | nil : All2 P [] []
  | cons {a b l m} : P a b → All2 P l m → All2 P (a :: l) (b :: m)
theorem All2.length {α β : Type} {P : α → β → Prop} {l : List α} {m : List β} (h : All2 P l m) : l.length = m.length := by
  induction h with
  | nil => rfl
  | cons _ _ ih => simp [ih]

/-- the dict object o holds the pairs dl, in their order -/
def ValsAre (kvs : List (Int × Value)) (dl : List (Int × Int)) : Prop := All2 (fun (a : Int × Value) (b : Int × Int) => a.1 = b.1 ∧ ∃ t, a.2 = .int b.2 t) kvs dl
def DictSt (prog : Program) (w : World) (o : Obj) (dl : List (Int × Int)) : Prop := ∃ kvs, o.IsDictOf (intKind prog w) kvs ∧ ValsAre kvs dl

def dset (dl : List (Int × Int)) (k v : Int) : List (Int × Int) :=
  if dl.any (fun p => p.1 = k) then dl.map (fun p => if p.1 = k then (p.1, v) else p) else dl ++ [(k, v)]

theorem ValsAre.length {kvs : List (Int × Value)} {dl : List (Int × Int)} (h : ValsAre kvs dl) : kvs.length = dl.length := All2.length h
theorem ValsAre.any {k : Int} {kvs : List (Int × Value)} {dl : List (Int × Int)} (h : ValsAre kvs dl) : kvs.any (fun p => p.1 = k) = dl.any (fun p => p.1 = k) := by
  induction h with
  | nil => rfl
  | cons e _ ih => simp only [List.any_cons, ih, e.1]
theorem ValsAre.snoc {k v : Int} {t : Tok} {kvs : List (Int × Value)} {dl : List (Int × Int)} (h : ValsAre kvs dl) : ValsAre (kvs ++ [(k, .int v t)]) (dl ++ [(k, v)]) := by
  induction h with
  | nil => exact .cons ⟨rfl, t, rfl⟩ .nil
  | cons e _ ih => exact .cons e ih
theorem ValsAre.repl {k v : Int} {t : Tok} {kvs : List (Int × Value)} {dl : List (Int × Int)} (h : ValsAre kvs dl) :
    ValsAre (kvs.map fun p => if p.1 = k then (p.1, .int v t) else p) (dl.map fun p => if p.1 = k then (p.1, v) else p) := by
  induction h with
  | nil => exact .nil
  | @cons a b _ _ e _ ih =>
    refine .cons ?_ ih
    obtain ⟨e1, u, e2⟩ := e
    dsimp only
    by_cases hk : b.1 = k
    · rw [if_pos (e1.trans hk), if_pos hk]; exact ⟨e1, t, rfl⟩
    · rw [if_neg (fun h => hk (e1 ▸ h)), if_neg hk]; exact ⟨e1, u, e2⟩
theorem ValsAre.stored {k v : Int} {t : Tok} {kvs : List (Int × Value)} {dl : List (Int × Int)} (h : ValsAre kvs dl) : ValsAre (PySem.stored kvs k (.int v t)) (dset dl k v) := by
  unfold PySem.stored dset
  have e := h.any (k := k)
  cases hb : dl.any (fun p => p.1 = k) with
  | true => rw [hb] at e; rw [e]; simpa using h.repl
  | false => rw [hb] at e; rw [e]; simpa using h.snoc

/-- keys as the law draws them -/
def GoodKeys (dl : List (Int × Int)) : Prop := ∀ p ∈ dl, ∃ j : Nat, j < 8 ∧ p.1 = 10 * j
theorem GoodKeys.dset {dl : List (Int × Int)} {k v : Int} (h : GoodKeys dl) (hk : ∃ j : Nat, j < 8 ∧ k = 10 * j) : GoodKeys (dset dl k v) := by
  intro p hp
  unfold Mine.dset at hp
  split at hp
  · obtain ⟨q, hq, rfl⟩ := List.mem_map.mp hp
    split
    · exact h q hq
    · exact h q hq
  · rcases List.mem_append.mp hp with hp | hp
    · exact h p hp
    · rw [List.mem_singleton.mp hp]; exact hk
def GoodVals (pl : List (Int × Int)) : Prop := ∀ q ∈ pl, 0 ≤ q.2 ∧ q.2 ≤ 100
theorem GoodVals.dset {dl : List (Int × Int)} {k v : Int} (h : GoodVals dl) (hk : 0 ≤ v ∧ v ≤ 100) : GoodVals (dset dl k v) := by
  intro p hp
  unfold Mine.dset at hp
  split at hp
  · obtain ⟨q, hq, rfl⟩ := List.mem_map.mp hp
    split
    · exact hk
    · exact h q hq
  · rcases List.mem_append.mp hp with hp | hp
    · exact h p hp
    · rw [List.mem_singleton.mp hp]; exact hk
theorem IsDictOf.nodup {prog : Program} {w : World} {o : Obj} {kvs : List (Int × Value)} (h : o.IsDictOf (intKind prog w) kvs) : (kvs.map (·.1)).Nodup := let ⟨_, _, _, _, _, _, n⟩ := h; n
theorem ValsAre.keys {kvs : List (Int × Value)} {dl : List (Int × Int)} (h : ValsAre kvs dl) : kvs.map (·.1) = dl.map (·.1) := by
  induction h with
  | nil => rfl
  | cons e _ ih => simp only [List.map_cons, ih, e.1]
theorem DictSt.nodup {prog : Program} {w : World} {o : Obj} {dl : List (Int × Int)} (h : DictSt prog w o dl) : (dl.map (·.1)).Nodup := by
  obtain ⟨kvs, h1, h2⟩ := h
  rw [← h2.keys]; exact IsDictOf.nodup h1

theorem nodup_lt : ∀ (n : Nat) (l : List Nat), l.Nodup → (∀ x ∈ l, x < n) → l.length ≤ n
  | 0, [], _, _ => Nat.le_refl _
  | 0, x :: _, _, h => absurd (h x (.head _)) (Nat.not_lt_zero _)
  | n + 1, l, hn, h => by
    have h1 := nodup_lt n (l.erase n) (hn.erase n) fun x hx => by
      have h2 := (hn.mem_erase_iff).mp hx
      have := h x h2.2
      omega
    have h3 : l.length ≤ (l.erase n).length + 1 := by
      rw [List.length_erase]; split <;> omega
    omega
theorem nodup_le {l : List Int} (hn : l.Nodup) (hg : ∀ x ∈ l, ∃ j : Nat, j < 8 ∧ x = 10 * j) : l.length ≤ 8 := by
  have h1 : (l.map fun x => (x / 10).toNat).Nodup := by
    refine List.pairwise_map.mpr (List.Pairwise.imp_of_mem ?_ hn)
    intro a b ha hb hab e
    obtain ⟨i, hi, rfl⟩ := hg a ha
    obtain ⟨j, hj, rfl⟩ := hg b hb
    apply hab
    have e1 : (10 * (i : Int)) / 10 = i := by omega
    have e2 : (10 * (j : Int)) / 10 = j := by omega
    rw [e1, e2] at e
    simp at e
    rw [e]
  have h2 : ∀ y ∈ l.map (fun x => (x / 10).toNat), y < 8 := by
    intro y hy
    obtain ⟨x, hx, rfl⟩ := List.mem_map.mp hy
    obtain ⟨j, hj, rfl⟩ := hg x hx
    have e1 : (10 * (j : Int)) / 10 = j := by omega
    rw [e1]
    simp [hj]
  have := nodup_lt 8 _ h1 h2
  simpa using this
theorem GoodKeys.length {dl : List (Int × Int)} (h : GoodKeys dl) (hn : (dl.map (·.1)).Nodup) : dl.length ≤ 8 := by
  have := nodup_le hn (fun x hx => by obtain ⟨p, hp, rfl⟩ := List.mem_map.mp hx; exact h p hp)
  simpa using this

structure LinesL (prog : Program) (w : World) where
  o : Obj
  turn : Int
  tt : Tok
  dl : List (Int × Int)

section
local macro_rules | `(tactic| walk_at "exec For Name Call cons nil") => `(tactic| (k_here; (with_unfolding_all refine wpAny_For ?_ (by intro _; rfl))))
local macro_rules | `(tactic| walk_at "exec For Tuple Call cons nil") => `(tactic| (k_here; (with_unfolding_all refine wpAny_For ?_ (by intro _; rfl))))
set_option maxRecDepth 100000 in
set_option maxHeartbeats 8000000 in
theorem lines_spec {prog : Program} {w : World} {R : Ledger} {f c : Addr} {vs : List Value} {ns : List Int} {n n2 : Nat} {turn : Int} {tt : Tok} (hc : (c, listOf vs.toArray n2) ∈ R) (hI : IntsAre vs ns) (hl : ns.length ≤ 63)
    (ht0 : 0 ≤ turn) (ht1 : turn ≤ 900) (hRf : ∀ q ∈ R, q.1 ≠ f) :
    Spec 20 40 prog w 139 [.ref f] ((f, listOf #[.ref c, .int turn tt] n) :: R)
      (fun v news' => ∃ turn' tt' dd o dl, v = .ref dd ∧ news' = (f, listOf #[.ref c, .int turn' tt'] n) :: (dd, o) :: R ∧ turn ≤ turn' ∧ turn' ≤ turn + 11 ∧ DictSt prog w o dl ∧ GoodKeys dl ∧ GoodVals dl ∧ f < dd ∧ (∀ q ∈ R, q.1 < dd) ∧ (dd == sysModules) = false) := by
  k_with_none
  w_top off
  have hfill : PySem.Challenge.rw_sa0631_01 = PySem.Challenge.rw_sa0631_01 ∧ @hd.heap_39 = hd.heap_39 := by (k_fill; exact ⟨rfl, rfl⟩)
  clear hfill
  intro mean mg mb dp un gd cn cs a0 ccd cl outer A₀ base h₀ L m s Q E B F X N0 T hk hdp hun ret
  have hcf := neN (hRf _ hc)
  dsimp only at hcf
  have N := nadd N0 (List.mem_cons_of_mem _ hc)
  clear N0
  refine wpAny_call ?_
  k_dflt ktr_enter
  k_with_none
  k_with "call ref" => (k_here; (with_reducible show wpAny _ _ (call (Value.ref 132) [_, _]) _ _ _); with_unfolding_all refine' Spec.use ?B ?F ?X ?N ?T ?hk (next_specU (vs := vs) (ns := ns) ?p8 ?p1 ?p0 ?p2 ?p3 ?p4 ?p5 ?p6 ?p7) ?hd ?hu ?_; (case N => k_asm); (case p8 => k_updF); (case p1 => k_mem); (case p0 => first | assumption | omega); (case B => k_asm); (case F => k_asm); (case X => k_asm); (case T => k_asm); (case hk => first | exact rfl | assumption); (case hd => ktr_room); (case hu => ktr_units); (case p2 => assumption); (case p3 => assumption); (case p4 => omega); (case p5 => omega); (case p6 => omega); (case p7 => omega); rintro _ _ h9 tk9 ⟨r9, tr9, tt9, rfl, hr0, hr1, rfl⟩ F9 N9; (try dsimp only at N9); (try dsimp only); (try k_sweep); (try k_fold))
  k_steps
  rename_i g1 L1 _ _ _ _ _ _ _ d0 _ o0 lo0 _ _ hi0 _ l10 _ _ _ _ _ _ _ _ hrg F3 N3 hkp
  refine rangeLoop (n := r9.toNat) (σ := Obj × Int × Tok × List (Int × Int)) (R := (c, listOf vs.toArray n2) :: R) (fun x => [(d0, x.1), (f, listOf #[.ref c, .int x.2.1 x.2.2.1] n)]) (fun _ => [(Str.ofString "found", .ref d0)]) [Str.ofString "turn", Str.ofString "number"]
    (fun i x => x.2.1 = turn + 1 + 2 * i ∧ DictSt prog w x.1 x.2.2.2 ∧ GoodKeys x.2.2.2 ∧ GoodVals x.2.2.2) (o0, turn + 1, tt9, []) rfl hrg (small_one (by omega) (by omega) (by omega) (by omega)) (by rw [rangeSize_nat]; simp) rfl rfl F3 (nsub N3 ?_) ?_ ?_ ?_ ?_ ?_
  · kst_inAny
  · intro p hp q hq
    have hcd : @Ne Nat c d0 := Nat.ne_of_lt l10.1
    have hfd : @Ne Nat f d0 := Nat.ne_of_lt l10.2.1
    rcases List.mem_cons.mp hp with rfl | hp
    · rcases List.mem_cons.mp hq with rfl | hq
      · exact hcd.symm
      · exact Nat.ne_of_gt (allLt_mem l10.2.2 q hq)
    · rw [List.mem_singleton.mp hp]
      rcases List.mem_cons.mp hq with rfl | hq
      · exact hcf.symm
      · exact (hRf q hq).symm
  · intro p hp; rw [List.mem_singleton.mp hp]; rfl
  · exact ⟨by dsimp only; omega, ⟨[], hi0, .nil⟩, (by intro p hp; cases hp), (by intro p hp; cases hp)⟩
  · intro i x t u h tk R' E' hi hP hR hA F' N'
    obtain ⟨o, tu, tt2, dl⟩ := x
    dsimp only at hP F' N' hA ⊢
    change Fr g1 L1 h _ at F'
    change News g1 L1 h _ at N'
    obtain ⟨htu, ⟨kvs, hdo, hv⟩, hg, hgv⟩ := hP
    have hcR' := hR _ (.head _)
    have hfd : @Ne Nat f d0 := Nat.ne_of_lt l10.2.1
    have hRd : ∀ q ∈ R', q.1 ≠ d0 := fun q hq => (hA _ (.head _) q hq).symm
    have hRf' : ∀ q ∈ R', q.1 ≠ f := fun q hq => (hA _ (.tail _ (.head _)) q hq).symm
    have hkl : kvs.length ≤ 8 := by rw [hv.length]; exact hg.length (DictSt.nodup ⟨kvs, hdo, hv⟩)
    simp only [List.cons_append, List.nil_append] at N'
    k_steps
    rename_i rK tr8 tt8 hr0' hr1' _ _ _ _ h5 o5 F5 N5 hd5
    refine postG_next (o5, tu + 1 + 1, tt9, dset dl (10 * rK) r9) F5 N5 (by kst_inAny) (by kst_inAny) (hA.same rfl) ?_ ?_
    · (refine ⟨by kst_all, fun z h2 h3 => ?_⟩; (try dsimp only); (repeat (with_reducible first | refine ite_off (notStored h3 _ (by decide)) ?_ | refine ite_off (notPs h2 _ (by decide)) ?_)); exact mapG_off h2 h3)
    · exact ⟨by dsimp only; omega, ⟨_, hd5, hv.stored⟩, hg.dset ⟨rK.toNat, by omega, by omega⟩, hgv.dset ⟨by omega, by omega⟩⟩
  · intro x u h tk hP F' N' hA
    obtain ⟨o, tu, tt2, dl⟩ := x
    dsimp only at hP F' N' hA ⊢
    change Fr g1 L1 h _ at F'
    change News g1 L1 h _ at N'
    obtain ⟨htu, hdo, hg, hgv⟩ := hP
    simp only [List.cons_append, List.nil_append] at N'
    k_steps
    rename News _ _ _ _ => nE
    exact ret _ _ _ _ ⟨tu, tt2, d0, o, dl, rfl, rfl, by omega, by omega, hdo, hg, hgv, l10.2.1, allLt_mem l10.2.2, lo0⟩ (by assumption) (nsub nE (by kst_inAny))
end
end
section
/-! the lines of a program, plainly: pairs by ascending numbers -/
noncomputable def put : List (Int × Int) → Int → Int → List (Int × Int)
  | [], k, x => [(k, x)]
  | (a, y) :: r, k, x => if a < k then (a, y) :: put r k x else if a = k then (k, x) :: r else (k, x) :: (a, y) :: r
def del (pl : List (Int × Int)) (k : Int) : List (Int × Int) := pl.filter fun p => p.1 ≠ k
abbrev keys (pl : List (Int × Int)) : List Int := pl.map (·.1)
abbrev vals (pl : List (Int × Int)) : List Int := pl.map (·.2)
def Sorted (pl : List (Int × Int)) : Prop := (keys pl).Pairwise (· < ·)

theorem put_keys_there {pl : List (Int × Int)} {k x : Int} (hs : Sorted pl) (hc : (keys pl).contains k = true) : keys (put pl k x) = keys pl ∧ vals (put pl k x) = (vals pl).set (pos (keys pl) k) x := by
  induction pl with
  | nil => simp at hc
  | cons p r ih =>
    obtain ⟨a, y⟩ := p
    have hs' : (a :: keys r).Pairwise (· < ·) := hs
    obtain ⟨h1, h2⟩ := List.pairwise_cons.mp hs'
    by_cases e : a < k
    · have hne : (k == a) = false := by simp; omega
      have hc' : (keys r).contains k = true := by
        have : ((a :: keys r).contains k) = true := hc
        simpa only [List.contains_cons, hne, Bool.false_or] using this
      obtain ⟨i1, i2⟩ := ih h2 hc'
      have hp : pos (keys ((a, y) :: r)) k = pos (keys r) k + 1 := by simp [pos, e]
      rw [hp]
      simp only [put, if_pos e, keys, vals, List.map_cons, List.set_cons_succ]
      exact ⟨congrArg (a :: ·) i1, congrArg (y :: ·) i2⟩
    · have hp : pos (keys ((a, y) :: r)) k = 0 := by simp [pos, e]
      rw [hp]
      have ea : a = k := by
        by_cases h : a = k
        · exact h
        · exfalso
          have : k ∈ a :: keys r := by simpa using hc
          rcases List.mem_cons.mp this with q | q
          · exact h q.symm
          · have := h1 k q; omega
      subst ea
      simp [put, keys, vals]
theorem put_keys_new {pl : List (Int × Int)} {k x : Int} (hc : (keys pl).contains k = false) :
    keys (put pl k x) = (keys pl).take (pos (keys pl) k) ++ k :: (keys pl).drop (pos (keys pl) k) ∧ vals (put pl k x) = (vals pl).take (pos (keys pl) k) ++ x :: (vals pl).drop (pos (keys pl) k) := by
  induction pl with
  | nil => simp [put, keys, vals, pos]
  | cons p r ih =>
    obtain ⟨a, y⟩ := p
    have hc0 : ((a :: keys r).contains k) = false := hc
    rw [List.contains_cons, Bool.or_eq_false_iff] at hc0
    by_cases e : a < k
    · obtain ⟨i1, i2⟩ := ih hc0.2
      have hp : pos (keys ((a, y) :: r)) k = pos (keys r) k + 1 := by simp [pos, e]
      rw [hp]
      simp only [put, if_pos e, keys, vals, List.map_cons, List.take_succ_cons, List.drop_succ_cons, List.cons_append]
      exact ⟨congrArg (a :: ·) i1, congrArg (y :: ·) i2⟩
    · have hp : pos (keys ((a, y) :: r)) k = 0 := by simp [pos, e]
      have ne : a ≠ k := fun h => by have := hc0.1; simp [h] at this
      rw [hp]
      simp [put, if_neg e, if_neg ne, keys, vals]
theorem del_keys {pl : List (Int × Int)} {k : Int} (hs : Sorted pl) (hc : (keys pl).contains k = true) :
    keys (del pl k) = (keys pl).eraseIdx (pos (keys pl) k) ∧ vals (del pl k) = (vals pl).eraseIdx (pos (keys pl) k) := by
  induction pl with
  | nil => simp at hc
  | cons p r ih =>
    obtain ⟨a, y⟩ := p
    have hs' : (a :: keys r).Pairwise (· < ·) := hs
    obtain ⟨h1, h2⟩ := List.pairwise_cons.mp hs'
    by_cases e : a < k
    · have hne : (k == a) = false := by simp; omega
      have hc' : (keys r).contains k = true := by
        have : ((a :: keys r).contains k) = true := hc
        simpa only [List.contains_cons, hne, Bool.false_or] using this
      obtain ⟨i1, i2⟩ := ih h2 hc'
      have hp : pos (keys ((a, y) :: r)) k = pos (keys r) k + 1 := by simp [pos, e]
      have hak : a ≠ k := by omega
      rw [hp]
      have : del ((a, y) :: r) k = (a, y) :: del r k := by simp [del, hak]
      rw [this]
      simp only [keys, vals, List.map_cons, List.eraseIdx_cons_succ]
      exact ⟨congrArg (a :: ·) i1, congrArg (y :: ·) i2⟩
    · have hp : pos (keys ((a, y) :: r)) k = 0 := by simp [pos, e]
      have ea : a = k := by
        by_cases h : a = k
        · exact h
        · exfalso
          have : k ∈ a :: keys r := by simpa using hc
          rcases List.mem_cons.mp this with q | q
          · exact h q.symm
          · have := h1 k q; omega
      subst ea
      have h3 : del ((a, y) :: r) a = r := by
        simp only [del, ne_eq, decide_not, List.filter_cons, decide_true, Bool.not_true, Bool.false_eq_true, if_false]
        refine List.filter_eq_self.mpr fun q hq => ?_
        have := h1 q.1 (List.mem_map.mpr ⟨q, hq, rfl⟩)
        simp; omega
      rw [h3, hp]
      simp [keys, vals]

theorem All2.set {α β : Type} {P : α → β → Prop} {l : List α} {m : List β} (h : All2 P l m) {a : α} {b : β} (hp : P a b) : ∀ i, All2 P (l.set i a) (m.set i b) := by
  induction h with
  | nil => intro i; simpa using .nil
  | cons e t ih =>
    intro i
    cases i with
    | zero => exact .cons hp t
    | succ i => exact .cons e (ih i)
theorem All2.insert {α β : Type} {P : α → β → Prop} {l : List α} {m : List β} (h : All2 P l m) {a : α} {b : β} (hp : P a b) : ∀ i, All2 P (l.take i ++ a :: l.drop i) (m.take i ++ b :: m.drop i) := by
  induction h with
  | nil => intro i; simpa using .cons hp .nil
  | cons e t ih =>
    intro i
    cases i with
    | zero => exact .cons hp (.cons e t)
    | succ i => exact .cons e (ih i)
theorem All2.erase {α β : Type} {P : α → β → Prop} {l : List α} {m : List β} (h : All2 P l m) : ∀ i, All2 P (l.eraseIdx i) (m.eraseIdx i) := by
  induction h with
  | nil => intro i; simpa using .nil
  | cons e t ih =>
    intro i
    cases i with
    | zero => exact t
    | succ i => exact .cons e (ih i)
theorem All2.mono {α β : Type} {P P' : α → β → Prop} {l : List α} {m : List β} (h : All2 P l m) (hs : ∀ a b, P a b → P' a b) : All2 P' l m := by
  induction h with
  | nil => exact .nil
  | cons e _ ih => exact .cons (hs _ _ e) ih
theorem ints_iff {vs : List Value} {ns : List Int} : IntsAre vs ns ↔ All2 (fun v n => ∃ t, v = Value.int n t) vs ns := by
  constructor
  · intro h
    induction h with
    | nil => exact .nil
    | cons i t _ ih => exact .cons ⟨t, rfl⟩ ih
  · intro h
    induction h with
    | nil => exact .nil
    | cons e _ ih => obtain ⟨t, rfl⟩ := e; exact .cons _ t ih

/-- a program's three turning objects: its dict, its numbers, its rows; its own object and the rows stand in J -/
def ProgSt (M J : Ledger) (p : Addr) (pl : List (Int × Int)) : Prop :=
  ∃ (d a b : Addr) (h1 h2 : Int) (t1 t2 : Tok) (n2 n3 : Nat) (vs rs : List Value), M = [(d, progDict h1 h2 t1 t2 a b 2), (a, listOf vs.toArray n2), (b, listOf rs.toArray n3)] ∧
    @Ne Nat d a ∧ @Ne Nat d b ∧ @Ne Nat a b ∧ (p, instObj 79 d) ∈ J ∧ IntsAre vs (keys pl) ∧ All2 (RowIn J) rs (vals pl)

theorem ProgSt.mono {M J J' : Ledger} {p : Addr} {pl : List (Int × Int)} (h : ProgSt M J p pl) (hs : ∀ q ∈ J, q ∈ J') : ProgSt M J' p pl := by
  obtain ⟨d, a, b, h1, h2, t1, t2, n2, n3, vs, rs, e, x1, x2, x3, hp, hI, hr⟩ := h
  exact ⟨d, a, b, h1, h2, t1, t2, n2, n3, vs, rs, e, x1, x2, x3, hs _ hp, hI, hr.mono fun _ _ h => h.mono hs⟩

theorem put_spec {prog : Program} {w : World} {M J R : Ledger} {p r : Addr} {pl : List (Int × Int)} {k x : Int} {tk : Tok}
    (hP : ProgSt M J p pl) (hS : Sorted pl) (hlen : pl.length ≤ 100) (hk0 : 0 ≤ k) (hk1 : k ≤ 1000) (hJ : ∀ q ∈ J, q ∈ R) (hA : Apart M R) (hrow : RowIn J (.ref r) x) :
    Spec 40 80 prog w 104 [.ref p, .int k tk, .ref r] (M ++ R) (fun v news' => v = .none ∧ ∃ M', news' = M' ++ R ∧ ProgSt M' J p (put pl k x) ∧ M'.map (·.1) = M.map (·.1)) := by
  obtain ⟨d, a, b, h1, h2, t1, t2, n2, n3, vs, rs, rfl, hda, hdb, hab, hp, hI, hr⟩ := hP
  obtain ⟨r', ra, rb, u1, u2, u3, u4, e, hr1, hr2, hr3⟩ := id hrow
  cases e
  have hRa : ∀ q ∈ (d, progDict h1 h2 t1 t2 a b 2) :: R, q.1 ≠ a := fun q hq => by
    rcases List.mem_cons.mp hq with rfl | hq
    · exact hda
    · exact (hA (a, listOf vs.toArray n2) (.tail _ (.head _)) q hq).symm
  have hRb : ∀ q ∈ (d, progDict h1 h2 t1 t2 a b 2) :: R, q.1 ≠ b := fun q hq => by
    rcases List.mem_cons.mp hq with rfl | hq
    · exact hdb
    · exact (hA (b, listOf rs.toArray n3) (.tail _ (.tail _ (.head _))) q hq).symm
  have hkl : (keys pl).length ≤ 100 := by simpa using hlen
  have hrl : rs.length = (keys pl).length := by rw [hr.length]; simp
  have hs1 : ∀ o1 o2 : Obj, ∀ q ∈ (a, o1) :: (b, o2) :: (d, progDict h1 h2 t1 t2 a b 2) :: R, q ∈ [(d, progDict h1 h2 t1 t2 a b 2), (a, o1), (b, o2)] ++ R := fun o1 o2 => by
    intro q hq
    simp only [List.mem_cons, List.cons_append, List.nil_append] at hq ⊢
    rcases hq with h | h | h | h <;> simp [h]
  have hs2 : ∀ o1 o2 : Obj, ∀ q ∈ [(d, progDict h1 h2 t1 t2 a b 2), (a, o1), (b, o2)] ++ R, q ∈ (a, o1) :: (b, o2) :: (d, progDict h1 h2 t1 t2 a b 2) :: R := fun o1 o2 => by
    intro q hq
    simp only [List.mem_cons, List.cons_append, List.nil_append] at hq ⊢
    rcases hq with h | h | h | h <;> simp [h]
  cases hb : (keys pl).contains k with
  | true =>
    obtain ⟨e1, e2⟩ := put_keys_there (x := x) hS hb
    refine Spec.conv (put_there (vs := vs) (rs := rs) (n2 := n2) (n3 := n3) (.tail _ (hJ _ hp)) (.head _) (.tail _ (hJ _ hr1)) hI hS hkl hk0 hk1 (by simp) hb hrl hab hRa hRb) (hs1 _ _) ?_
    rintro v n1' ⟨rfl, ⟨h0, _⟩ | ⟨_, rfl⟩⟩
    · simp at h0
    · exact ⟨_, ⟨rfl, _, rfl, ⟨d, a, b, h1, h2, t1, t2, n2, n3, vs, rs.set (pos (keys pl) k) (.ref r), rfl, hda, hdb, hab, hp, by rw [e1]; exact hI, by rw [e2]; exact hr.set hrow _⟩, rfl⟩, hs2 _ _⟩
  | false =>
    obtain ⟨e1, e2⟩ := put_keys_new (x := x) hb
    refine Spec.conv (put_new (vs := vs) (rs := rs) (n2 := n2) (n3 := n3) (.tail _ (hJ _ hp)) (.head _) (.tail _ (hJ _ hr1)) hI hS hkl hk0 hk1 (by simp) hb hrl hab hRa hRb) (hs1 _ _) ?_
    rintro v n1' ⟨rfl, rfl⟩
    refine ⟨_, ⟨rfl, _, rfl, ⟨d, a, b, h1, h2, t1, t2, n2 + 1, n3 + 1, vs.take (pos (keys pl) k) ++ .int k tk :: vs.drop (pos (keys pl) k), rs.take (pos (keys pl) k) ++ .ref r :: rs.drop (pos (keys pl) k), rfl, hda, hdb, hab, hp, ?_, ?_⟩, rfl⟩, hs2 _ _⟩
    · rw [e1]; exact ints_iff.mpr ((ints_iff.mp hI).insert ⟨tk, rfl⟩ _)
    · rw [e2]; exact hr.insert hrow _

theorem del_spec {prog : Program} {w : World} {M J R : Ledger} {p r : Addr} {pl : List (Int × Int)} {k : Int} {tk : Tok} {n4 : Nat}
    (hP : ProgSt M J p pl) (hS : Sorted pl) (hlen : pl.length ≤ 100) (hk0 : 0 ≤ k) (hk1 : k ≤ 1000) (hJ : ∀ q ∈ J, q ∈ R) (hA : Apart M R) (hr0 : (r, listOf #[] n4) ∈ R) (hb : (keys pl).contains k = true) :
    Spec 40 80 prog w 104 [.ref p, .int k tk, .ref r] (M ++ R) (fun v news' => v = .none ∧ ∃ M', news' = M' ++ R ∧ ProgSt M' J p (del pl k) ∧ M'.map (·.1) = M.map (·.1)) := by
  obtain ⟨d, a, b, h1, h2, t1, t2, n2, n3, vs, rs, rfl, hda, hdb, hab, hp, hI, hr⟩ := hP
  have hRa : ∀ q ∈ (d, progDict h1 h2 t1 t2 a b 2) :: R, q.1 ≠ a := fun q hq => by
    rcases List.mem_cons.mp hq with rfl | hq
    · exact hda
    · exact (hA (a, listOf vs.toArray n2) (.tail _ (.head _)) q hq).symm
  have hRb : ∀ q ∈ (d, progDict h1 h2 t1 t2 a b 2) :: R, q.1 ≠ b := fun q hq => by
    rcases List.mem_cons.mp hq with rfl | hq
    · exact hdb
    · exact (hA (b, listOf rs.toArray n3) (.tail _ (.tail _ (.head _))) q hq).symm
  have hkl : (keys pl).length ≤ 100 := by simpa using hlen
  have hrl : rs.length = (keys pl).length := by rw [hr.length]; simp
  obtain ⟨e1, e2⟩ := del_keys hS hb
  refine Spec.conv (put_there (its := []) (vs := vs) (rs := rs) (n2 := n2) (n3 := n3) (.tail _ (hJ _ hp)) (.head _) (.tail _ hr0) hI hS hkl hk0 hk1 (by simp) hb hrl hab hRa hRb) (fun q hq => ?_) ?_
  · simp only [List.mem_cons, List.cons_append, List.nil_append] at hq ⊢
    rcases hq with h | h | h | h <;> simp [h]
  rintro v n1' ⟨rfl, ⟨_, rfl⟩ | ⟨h0, _⟩⟩
  · refine ⟨[(d, progDict h1 h2 t1 t2 a b 2), (a, listOf (vs.eraseIdx (pos (keys pl) k)).toArray (n2 + 1)), (b, listOf (rs.eraseIdx (pos (keys pl) k)).toArray (n3 + 1))] ++ R, ⟨rfl, _, rfl, ⟨d, a, b, h1, h2, t1, t2, n2 + 1, n3 + 1, vs.eraseIdx (pos (keys pl) k), rs.eraseIdx (pos (keys pl) k), rfl, hda, hdb, hab, hp, ?_, ?_⟩, rfl⟩, ?_⟩
    · rw [e1]; exact ints_iff.mpr ((ints_iff.mp hI).erase _)
    · rw [e2]; exact hr.erase _
    · intro q hq
      simp only [List.mem_cons, List.cons_append, List.nil_append] at hq ⊢
      rcases hq with h | h | h | h <;> simp [h]
  · simp at h0
end
section
theorem put_mem {pl : List (Int × Int)} {k x : Int} : ∀ {q : Int × Int}, q ∈ put pl k x → q = (k, x) ∨ q ∈ pl := by
  induction pl with
  | nil => intro q hq; simp [put] at hq; exact .inl hq
  | cons p r ih =>
    intro q hq
    obtain ⟨a, y⟩ := p
    unfold put at hq
    split at hq
    · rcases List.mem_cons.mp hq with h | h
      · exact .inr (by simp [h])
      · rcases ih h with h | h
        · exact .inl h
        · exact .inr (.tail _ h)
    · split at hq
      · rcases List.mem_cons.mp hq with h | h
        · exact .inl h
        · exact .inr (.tail _ h)
      · rcases List.mem_cons.mp hq with h | h
        · exact .inl h
        · exact .inr h
theorem put_sorted {pl : List (Int × Int)} {k x : Int} (h : Sorted pl) : Sorted (put pl k x) := by
  induction pl with
  | nil => simp [put, Sorted]
  | cons p r ih =>
    obtain ⟨a, y⟩ := p
    have hs' : (a :: keys r).Pairwise (· < ·) := h
    obtain ⟨h1, h2⟩ := List.pairwise_cons.mp hs'
    unfold put
    split
    · rename_i e
      show (a :: keys (put r k x)).Pairwise (· < ·)
      refine List.pairwise_cons.mpr ⟨fun b hb => ?_, ih h2⟩
      obtain ⟨q, hq, rfl⟩ := List.mem_map.mp hb
      rcases put_mem hq with rfl | hq
      · exact e
      · exact h1 _ (List.mem_map.mpr ⟨q, hq, rfl⟩)
    · rename_i e
      split
      · rename_i e2
        subst e2
        exact List.pairwise_cons.mpr ⟨h1, h2⟩
      · rename_i e2
        show (k :: a :: keys r).Pairwise (· < ·)
        refine List.pairwise_cons.mpr ⟨fun b hb => ?_, List.pairwise_cons.mpr ⟨h1, h2⟩⟩
        rcases List.mem_cons.mp hb with rfl | hb
        · omega
        · have := h1 b hb; omega
theorem put_good {pl : List (Int × Int)} {k x : Int} (h : GoodKeys pl) (hk : ∃ j : Nat, j < 8 ∧ k = 10 * j) : GoodKeys (put pl k x) := fun q hq => by
  rcases put_mem hq with rfl | hq
  · exact hk
  · exact h q hq
theorem sorted_nodup {pl : List (Int × Int)} (h : Sorted pl) : (keys pl).Nodup := List.Pairwise.imp (fun h => Int.ne_of_lt h) h
theorem good_len {pl : List (Int × Int)} (h : Sorted pl) (hg : GoodKeys pl) : pl.length ≤ 8 := hg.length (sorted_nodup h)

noncomputable def build (dl : List (Int × Int)) : List (Int × Int) := dl.foldl (fun pl q => put pl q.1 q.2) []
theorem vals_get {kvs : List (Int × Value)} {dl : List (Int × Int)} (h : ValsAre kvs dl) : ∀ {i : Nat} {k : Int} {v : Value}, kvs[i]? = some (k, v) → ∃ x t, v = .int x t ∧ dl[i]? = some (k, x) := by
  induction h with
  | nil => intro i k v h; simp at h
  | cons e _ ih =>
    intro i k v h
    cases i with
    | zero =>
      simp only [List.getElem?_cons_zero, Option.some.injEq] at h
      subst h
      obtain ⟨e1, t, e2⟩ := e
      exact ⟨_, t, e2, by simp only [List.getElem?_cons_zero]; exact congrArg some (Prod.ext e1.symm rfl)⟩
    | succ i => simpa using ih (by simpa using h)

theorem Above.append_left {a b R : Ledger} (ha : Above a R) (hb : Above b R) : Above (a ++ b) R := fun q hq => (List.mem_append.mp hq).elim (ha q) (hb q)
theorem Above.sub {a R R' : Ledger} (h : Above a R) (hs : ∀ q ∈ R', q ∈ R) : Above a R' := fun q hq q' hq' => h q hq q' (hs q' hq')
theorem Above.apart {a R : Ledger} (h : Above a R) : Apart R a := fun q hq q' hq' => Nat.ne_of_lt (h q' hq' q hq)
theorem Above.same {a a' R : Ledger} (h : Above a R) (e : a'.map (·.1) = a.map (·.1)) : Above a' R := fun p hp q hq => by
  have : p.1 ∈ a.map (·.1) := e ▸ List.mem_map.mpr ⟨p, hp, rfl⟩
  obtain ⟨p', hp', e'⟩ := List.mem_map.mp this
  exact e' ▸ h p' hp' q hq
theorem Apart.append_right {a b c : Ledger} (h1 : Apart a b) (h2 : Apart a c) : Apart a (b ++ c) := fun p hp q hq => (List.mem_append.mp hq).elim (h1 p hp q) (h2 p hp q)

theorem ncons {h₀ h : Heap} {L : Addr} {q : Addr × Obj} {l : Ledger} (hq : h.get? q.1 = some q.2 ∧ q.1 ≠ L ∧ h₀.get? q.1 = none) (N : News h₀ L h l) : News h₀ L h (q :: l) := fun r hr => by
  rcases List.mem_cons.mp hr with rfl | hr
  · exact hq
  · exact N r hr
theorem build_snoc {dl : List (Int × Int)} {i : Nat} {k x : Int} (h : dl[i]? = some (k, x)) : put (build (dl.take i)) k x = build (dl.take (i + 1)) := by
  unfold build
  rw [List.take_add_one, h]
  simp

section
local macro_rules | `(tactic| walk_at "exec For Name Call cons nil") => `(tactic| (k_here; (with_unfolding_all refine wpAny_For ?_ (by intro _; rfl))))
local macro_rules | `(tactic| walk_at "exec For Tuple Call cons nil") => `(tactic| (k_here; (with_unfolding_all refine wpAny_For ?_ (by intro _; rfl))))
set_option maxRecDepth 100000 in
set_option maxHeartbeats 8000000 in
theorem program_spec {prog : Program} {w : World} {R : Ledger} {dd : Addr} {o : Obj} {dl : List (Int × Int)} (hdm : (dd, o) ∈ R) (lo : (dd == sysModules) = false) (hD : DictSt prog w o dl) (hG : GoodKeys dl) :
    Spec 60 120 prog w 153 [.ref dd] R
      (fun v news' => ∃ M new p, v = .ref p ∧ news' = M ++ (new ++ R) ∧ ProgSt M new p (build dl) ∧ Above (M ++ new) R ∧ Apart M new) := by
  k_with_none
  w_top off
  have hfill : PySem.Challenge.rw_sa0631_01 = PySem.Challenge.rw_sa0631_01 ∧ @hd.heap_39 = hd.heap_39 := by (k_fill; exact ⟨rfl, rfl⟩)
  clear hfill
  intro mean mg mb dp un gd cn cs a0 ccd cl outer A₀ base h₀ L m s Q E B F X N0 T hk hdp hun ret
  obtain ⟨kvs, hdo, hv⟩ := hD
  have N := nadd N0 hdm
  clear N0
  refine wpAny_call ?_
  k_dflt ktr_enter
  k_with_none
  k_steps
  rename_i g1 L1 _ FG B1 X1 T1 qk ek _ x0 d0 _ l1x l2x _ _ _ _ _ _ _ la _ l1a _ _ lb _ l1b _ _ _ _ _ _ _ _ _ D0 _ F0 N00 lD
  have N1 := ncons (N00 _ (.tail _ (.tail _ (.tail _ (.tail _ (.head _)))))) (ncons (N00 _ (.tail _ (.tail _ (.head _)))) (ncons (N00 _ (.tail _ (.head _))) (ncons (N00 _ (.tail _ (.tail _ (.tail _ (.head _))))) (nsub (l' := (dd, o) :: R) N00 (fun q hq => .tail _ (.tail _ (.tail _ (.tail _ (.tail _ hq)))))))))
  have hview := (N00 _ (.head _)).1
  clear N00
  have hL : kvs.length = dl.length := hv.length
  have e1 : @Ne Nat d0 la := Nat.ne_of_lt l1a.2.1
  have e2 : @Ne Nat d0 lb := Nat.ne_of_lt l1b.2.2.1
  have e3 : @Ne Nat la lb := Nat.ne_of_lt l1b.1
  refine itemsLoop (σ := Ledger × Ledger × List (Int × Int)) (R := (dd, o) :: R) (fun x => x.1 ++ x.2.1) (fun _ => [(Str.ofString "found", .ref x0)]) [Str.ofString "number", Str.ofString "printed"]
    (fun i x => ProgSt x.1 x.2.1 x0 x.2.2 ∧ x.2.2 = build (dl.take i) ∧ Sorted x.2.2 ∧ GoodKeys x.2.2 ∧ Above (x.1 ++ x.2.1) ((dd, o) :: R) ∧ Apart x.1 x.2.1) ([(d0, _), (la, listOf #[] 0), (lb, listOf #[] 0)], [(x0, instObj 79 d0)], []) rfl ⟨_, hview, rfl, rfl⟩ (.head _) hdo rfl rfl rfl F0 N1 ?_ ?_ ?_ ?_ ?_
  · intro p hp q hq
    have hq2 : @LT.lt Nat _ q.1 d0 := by
      rcases List.mem_cons.mp hq with rfl | hq
      · exact l1x.1
      · exact allLt_mem l1x.2 q hq
    simp only [List.cons_append, List.nil_append, List.mem_cons, List.not_mem_nil, or_false] at hp
    have f1 := l1a.2.1
    have f2 := l1b.2.2.1
    rcases hp with rfl | rfl | rfl | rfl
    · exact Nat.ne_of_gt hq2
    · exact Nat.ne_of_gt (Nat.lt_trans hq2 f1)
    · exact Nat.ne_of_gt (Nat.lt_trans hq2 f2)
    · exact Nat.ne_of_gt (Nat.lt_trans hq2 l2x)
  · intro p hp; rw [List.mem_singleton.mp hp]; rfl
  · refine ⟨⟨d0, la, lb, _, _, _, _, _, _, [], [], rfl, e1, e2, e3, .head _, .nil, .nil⟩, rfl, (by exact List.Pairwise.nil), (by intro p hp; cases hp), ?_, ?_⟩
    · intro p hp q hq
      have hq2 : @LT.lt Nat _ q.1 d0 := by
        rcases List.mem_cons.mp hq with rfl | hq
        · exact l1x.1
        · exact allLt_mem l1x.2 q hq
      simp only [List.cons_append, List.nil_append, List.mem_cons, List.not_mem_nil, or_false] at hp
      have f1 := l1a.2.1
      have f2 := l1b.2.2.1
      rcases hp with rfl | rfl | rfl | rfl
      · exact hq2
      · exact Nat.lt_trans hq2 f1
      · exact Nat.lt_trans hq2 f2
      · exact Nat.lt_trans hq2 l2x
    · intro p hp q hq
      have f1 := l1a.1
      have f2 := l1b.2.1
      rw [List.mem_singleton.mp hq]
      simp only [List.mem_cons, List.not_mem_nil, or_false] at hp
      rcases hp with rfl | rfl | rfl
      · exact Nat.ne_of_lt l2x
      · exact Nat.ne_of_gt f1
      · exact Nat.ne_of_gt f2
  · intro i x k xv t u h tk R' E' hkv hP hR hA F' N'
    obtain ⟨M, J, pl⟩ := x
    dsimp only at hP F' N' hA ⊢
    change Fr g1 L1 h _ at F'
    change News g1 L1 h _ at N'
    obtain ⟨hP, hpl, hS, hg, hab, hap⟩ := hP
    obtain ⟨xi, ti, rfl, hdl⟩ := vals_get hv hkv
    obtain ⟨j, hj, hkj⟩ := hG _ (List.mem_of_getElem? hdl)
    dsimp only at hkj
    rw [List.append_assoc] at N'
    have hlen := good_len hS hg
    k_with "call ref" => (k_here; (with_reducible show wpAny _ _ (call (Value.ref 146) [_]) _ _ _); with_unfolding_all refine' Spec.use ?B ?F ?X ?N ?T ?hk row_spec ?hd ?hu ?_; (case B => k_asm); (case F => k_asm); (case X => k_asm); (case N => k_asm); (case T => k_asm); (case hk => first | exact rfl | assumption); (case hd => ktr_room); (case hu => ktr_units); rintro v9 n9 h9 tk9 ⟨new9, hrow9, rfl, hab9, hnd9⟩ F9 N9; (obtain ⟨ra9, hv9⟩ : ∃ r, v9 = .ref r := hrow9.imp fun r h => h.choose_spec.choose_spec.choose_spec.choose_spec.choose_spec.choose_spec.1); subst hv9; (try dsimp only); (try k_sweep); (try k_fold))
    k_with "call ref" => (k_here; (with_reducible show wpAny _ _ (call (Value.ref 104) [_, _, _]) _ _ _); with_unfolding_all refine' Spec.use ?B ?F ?X (nsub (l' := M ++ (new9 ++ (J ++ R'))) N9 ?N) ?T ?hk (put_spec (J := new9 ++ J) (R := new9 ++ (J ++ R')) (hP.mono fun q hq => List.mem_append_right _ hq) hS ?p1 ?p2 ?p3 ?p4 ?p5 (hrow9.mono fun q hq => List.mem_append_left _ hq)) ?hd ?hu ?_; (case N => kst_inAny); (case B => k_asm); (case F => k_asm); (case X => k_asm); (case T => k_asm); (case hk => first | exact rfl | assumption); (case hd => ktr_room); (case hu => ktr_units); (case p1 => omega); (case p2 => omega); (case p3 => omega); (case p4 => kst_inAny); (case p5 => exact Apart.append_right (fun p hp q hq => Nat.ne_of_lt (hab9 q hq p (List.mem_append_left _ hp))) (Apart.append_right hap fun p hp => hA p (List.mem_append_left _ hp))); rintro v8 n8 h8 tk8 ⟨rfl, M', rfl, hP', hM'⟩ F8 N8; (try dsimp only); (try k_sweep); (try k_fold))
    k_steps
    have hMa : Above M' ((dd, o) :: R) := Above.same (fun q hq => hab q (List.mem_append_left _ hq)) hM'
    have hna : Above new9 (J ++ R') := Above.sub hab9 fun q hq => List.mem_append_right _ hq
    refine postG_next (M', new9 ++ J, put pl k xi) F8 N8 (by kst_inAny) (by kst_inAny) ?_ ?_ ?_
    · refine fun p hp q hq => ?_
      rcases List.mem_append.mp hp with hp | hp
      · exact Apart.same (fun p hp => hA p (List.mem_append_left _ hp)) hM' p hp q hq
      · rcases List.mem_append.mp hp with hp | hp
        · exact Nat.ne_of_gt (hna p hp q (List.mem_append_right _ hq))
        · exact hA p (List.mem_append_right _ hp) q hq
    · (refine ⟨by kst_all, fun z h2 h3 => ?_⟩; (try dsimp only); (repeat (with_reducible first | refine ite_off (notStored h3 _ (by decide)) ?_ | refine ite_off (notPs h2 _ (by decide)) ?_)); exact mapG_off h2 h3)
    · refine ⟨hP', ?_, put_sorted hS, put_good hg ⟨j, hj, hkj⟩, ?_, ?_⟩
      · rw [hpl]; exact build_snoc hdl
      · exact Above.append_left hMa (Above.append_left (Above.sub hna fun q hq => List.mem_append_right _ (hR q hq)) fun q hq => hab q (List.mem_append_right _ hq))
      · exact Apart.same (Apart.append_right (fun p hp q hq => Nat.ne_of_lt (hab9 q hq p (List.mem_append_left _ hp))) hap) hM'
  · intro x u h tk hP F' N' hA
    obtain ⟨M, J, pl⟩ := x
    dsimp only at hP F' N' hA ⊢
    change Fr g1 L1 h _ at F'
    change News g1 L1 h _ at N'
    obtain ⟨hP, hpl, hS, hg, hab, hap⟩ := hP
    k_steps
    rename News _ _ _ _ => nE
    rw [hL, List.take_length] at hpl
    subst hpl
    exact ret _ _ _ _ ⟨M, J, x0, rfl, rfl, hP, Above.sub hab fun q hq => .tail _ hq, hap⟩ (by assumption) (nsub nE (by kst_inAny))
end
end
section
noncomputable def mergeL (pl ql : List (Int × Int)) : List (Int × Int) := ql.foldl (fun pl q => put pl q.1 q.2) pl

theorem mergeL_snoc {pl ql : List (Int × Int)} {i : Nat} {k x : Int} (h : ql[i]? = some (k, x)) : put (mergeL pl (ql.take i)) k x = mergeL pl (ql.take (i + 1)) := by
  unfold mergeL
  rw [List.take_add_one, h]
  simp
theorem All2.get {α β : Type} {P : α → β → Prop} {l : List α} {m : List β} (h : All2 P l m) : ∀ {i : Nat} {a : α}, l[i]? = some a → ∃ b, m[i]? = some b ∧ P a b := by
  induction h with
  | nil => intro i a h; simp at h
  | cons e _ ih =>
    intro i a h
    cases i with
    | zero => simp only [List.getElem?_cons_zero, Option.some.injEq] at h; subst h; exact ⟨_, rfl, e⟩
    | succ i => simpa using ih (by simpa using h)
theorem pair_get {ql : List (Int × Int)} {i : Nat} {k x : Int} (h1 : (keys ql)[i]? = some k) (h2 : (vals ql)[i]? = some x) : ql[i]? = some (k, x) := by
  simp only [keys, vals, List.getElem?_map, Option.map_eq_some_iff] at h1 h2
  obtain ⟨p, hp, rfl⟩ := h1
  obtain ⟨p', hp', rfl⟩ := h2
  rw [hp] at hp'
  cases hp'
  exact hp
theorem none_of_ge {g h : Heap} {L b : Addr} {m : Str → Option Value} (F : Fr g L h m) (hb : h.objs.size ≤ b) : g.get? b = none := by
  cases e : g.get? b with
  | none => rfl
  | some o => exact absurd (Heap.lt_size (F.keep b o e)) (Nat.not_lt.mpr hb)

section
local macro_rules | `(tactic| walk_at "exec For Name Call cons nil") => `(tactic| (k_here; (with_unfolding_all refine wpAny_For ?_ (by intro _; rfl))))
local macro_rules | `(tactic| walk_at "exec For Tuple Call cons nil") => `(tactic| (k_here; (with_unfolding_all refine wpAny_For ?_ (by intro _; rfl))))
set_option maxRecDepth 100000 in
set_option maxHeartbeats 8000000 in
theorem merge_spec {prog : Program} {w : World} {M J M2 R : Ledger} {p q : Addr} {pl ql : List (Int × Int)} (hP : ProgSt M J p pl) (hQ : ProgSt M2 J q ql) (hM2 : ∀ x ∈ M2, x ∈ R) (hJ : ∀ x ∈ J, x ∈ R) (hA : Apart M R) (hS : Sorted pl) (hG : GoodKeys pl) (hSq : Sorted ql) (hGq : GoodKeys ql) :
    Spec 60 120 prog w 125 [.ref p, .ref q] (M ++ R)
      (fun v news' => v = .none ∧ ∃ M', news' = M' ++ R ∧ ProgSt M' J p (mergeL pl ql) ∧ M'.map (·.1) = M.map (·.1)) := by
  k_with_none
  w_top off
  have hfill : PySem.Challenge.rw_sa0631_01 = PySem.Challenge.rw_sa0631_01 ∧ @hd.heap_39 = hd.heap_39 := by (k_fill; exact ⟨rfl, rfl⟩)
  clear hfill
  intro mean mg mb dp un gd cn cs a0 ccd cl outer A₀ base h₀ L m s Q E B F X N0 T hk hdp hun ret
  obtain ⟨d2, a2, b2, k1, k2, u1, u2, m2, m3, ws, rs2, rfl, hda, hdb, hab, hq, hI2, hr2⟩ := id hQ
  have g1 := hM2 _ (.head _)
  have g2 := hM2 _ (.tail _ (.head _))
  have g3 := hM2 _ (.tail _ (.tail _ (.head _)))
  have N := nadd (nadd (nadd (nadd N0 (List.mem_append_right _ g3)) (.tail _ (List.mem_append_right _ g2))) (.tail _ (.tail _ (List.mem_append_right _ g1)))) (.tail _ (.tail _ (.tail _ (List.mem_append_right _ (hJ _ hq)))))
  clear N0
  refine wpAny_call ?_
  k_dflt ktr_enter
  k_with_none
  k_steps
  rename_i g L1 h1 _ F1 N1 B1 X1 T1 _ h2 z TI TO i1 i2 hz hst F2 hk2 kz kTO k1' k2' hLz _ _ _ _ _ N2
  obtain ⟨d, a, b, c1, c2, t1, t2, n2, n3, vs, rs, rfl, hda', hdb', hab', hp, hI, hr⟩ := id hP
  have hlt : ∀ x ∈ (q, instObj 79 d2) :: (d2, progDict k1 k2 u1 u2 a2 b2 2) :: (a2, listOf ws.toArray m2) :: (b2, listOf rs2.toArray m3) :: ([(d, progDict c1 c2 t1 t2 a b 2), (a, listOf vs.toArray n2), (b, listOf rs.toArray n3)] ++ R), x.1 < h1.objs.size := fun x hx => Heap.lt_size (N1 x hx).1
  have hltR : ∀ x ∈ R, x.1 < h1.objs.size := fun x hx => hlt x (.tail _ (.tail _ (.tail _ (.tail _ (List.mem_append_right _ hx)))))
  have hTI : ∀ x o, h2.get? x = some o → o.cls ≠ .type "tuple" → x ≠ TI := fun x o e hc q => by
    rw [q, hst.2.1] at e
    exact hc (by cases e; rfl)
  have N3 := nsub (l' := [(d, progDict c1 c2 t1 t2 a b 2), (a, listOf vs.toArray n2), (b, listOf rs.toArray n3)] ++ R) N2 (fun x hx => .tail _ (.tail _ (.tail _ (.tail _ hx))))
  have old : ∀ x ∈ [(d, progDict c1 c2 t1 t2 a b 2), (a, listOf vs.toArray n2), (b, listOf rs.toArray n3)] ++ R, x.1 ≠ z ∧ x.1 ≠ TO ∧ x.1 ≠ i1 ∧ x.1 ≠ i2 := fun x hx => by
    have hx2 := hlt x (.tail _ (.tail _ (.tail _ (.tail _ hx))))
    exact ⟨Nat.ne_of_lt (Nat.lt_of_lt_of_le hx2 kz), Nat.ne_of_lt (Nat.lt_of_lt_of_le hx2 kTO), Nat.ne_of_lt (Nat.lt_of_lt_of_le hx2 k1'), Nat.ne_of_lt (Nat.lt_of_lt_of_le hx2 k2')⟩
  have hfp : ∀ o1 o2 o3 : Obj, o1.cls ≠ .type "tuple" → True := fun _ _ _ _ => trivial
  have hlz := hLz
  refine (WalksT.zip2 (prog := prog) (w := w) rfl z TI TO i1 i2 a2 b2 hz ws.toArray rs2.toArray).self 0 _ _ _ hst ?_
  refine pairLoop (σ := Ledger × List (Int × Int)) (R := R) (fun c => c.1) (fun _ => []) [Str.ofString "number", Str.ofString "row"]
    (fun i c => ProgSt c.1 J p c.2 ∧ c.2 = mergeL pl (ql.take i) ∧ Sorted c.2 ∧ GoodKeys c.2 ∧ c.1.map (·.1) = [d, a, b]) ([(d, progDict c1 c2 t1 t2 a b 2), (a, listOf vs.toArray n2), (b, listOf rs.toArray n3)], pl) rfl
    (WalksT.zip2 (prog := prog) (w := w) rfl z TI TO i1 i2 a2 b2 hz ws.toArray rs2.toArray) ?_ rfl rfl rfl ?_ ?_ ?_ ?_ ?_ hA hst F2 N3 (by intro x hx; cases hx) ⟨hP, rfl, hS, hG, rfl⟩ ?_ ?_
  · rintro i vs ⟨x, y, _, _, rfl⟩
    exact ⟨x, y, rfl⟩
  · obtain ⟨oL, es, ep, hoL, hdL, _⟩ := F2.ns
    intro hm
    simp only [List.mem_cons, List.not_mem_nil, or_false] at hm
    rcases hm with e | e | e | e | e | e | e
    · exact Nat.ne_of_lt hlz.1 e
    · have h9 := hst.2.1
      rw [← e] at h9
      have h8 : h2.get? L1 = some oL := hoL
      change h2.get? L1 = _ at h9
      rw [h8] at h9; cases h9; cases hdL
    · exact Nat.ne_of_lt hlz.2.1 e
    · exact Nat.ne_of_lt hlz.2.2.1 e
    · exact Nat.ne_of_lt hlz.2.2.2 e
    · exact (N2 _ (.tail _ (.tail _ (.head _)))).2.1 e.symm
    · exact (N2 _ (.tail _ (.tail _ (.tail _ (.head _))))).2.1 e.symm
  · intro x hx
    simp only [List.mem_cons, List.not_mem_nil, or_false] at hx
    rcases hx with rfl | rfl | rfl | rfl
    · exact none_of_ge F1 kz
    · exact none_of_ge F1 kTO
    · exact none_of_ge F1 k1'
    · exact none_of_ge F1 k2'
  · rintro i h ⟨y1, y2, ⟨_, _, y3⟩, ⟨_, y4, _⟩, ⟨_, y5, _⟩, ⟨_, y6, _⟩, ⟨_, y7, _⟩⟩ x hx
    simp only [List.mem_cons, List.not_mem_nil, or_false] at hx
    rcases hx with rfl | rfl | rfl | rfl | rfl | rfl | rfl
    · exact ⟨_, y1⟩
    · exact ⟨_, y2⟩
    · exact ⟨_, y3⟩
    · exact ⟨_, y4⟩
    · exact ⟨_, y5⟩
    · exact ⟨_, y6⟩
    · exact ⟨_, y7⟩
  · intro x hx hm
    obtain ⟨y1, y2, y3, y4⟩ := old x (List.mem_append_right _ hx)
    simp only [List.mem_cons, List.not_mem_nil, or_false] at hm
    rcases hm with e | e | e | e
    · exact y1 e
    · exact y2 e
    · exact y3 e
    · exact y4 e
  · intro x hx hm
    obtain ⟨y1, y2, y3, y4⟩ := old x (List.mem_append_left _ hx)
    have hne := hA x hx
    have hti := hTI x.1 x.2 (N3 x (List.mem_append_left _ hx)).1
    simp only [List.mem_cons, List.not_mem_nil, or_false] at hm
    rcases hm with e | e | e | e | e | e | e
    · exact y1 e
    · refine hti ?_ e
      simp only [List.mem_cons, List.not_mem_nil, or_false] at hx
      rcases hx with rfl | rfl | rfl <;> (intro q; injection q with q; exact absurd q (by decide))
    · exact y2 e
    · exact y3 e
    · exact y4 e
    · exact hne _ g2 e
    · exact hne _ g3 e
  · intro i x v0 v1 u h tk R' E' hi hPt hPx hR hfpo hA' F' N'
    obtain ⟨M, pl'⟩ := x
    dsimp only at hPx F' N' hA' ⊢
    change Fr g L1 h _ at F'
    change News g L1 h _ at N'
    obtain ⟨hP', hpl, hS', hg', hM⟩ := hPx
    obtain ⟨x0, x1, hx0, hx1, e⟩ := hPt
    simp only [Array.mk.injEq, List.cons.injEq, and_true] at e
    obtain ⟨rfl, rfl⟩ := e
    obtain ⟨k, hk0, t, rfl⟩ := (ints_iff.mp hI2).get (by simpa using hx0)
    obtain ⟨xv, hxv, hrow⟩ := hr2.get (by simpa using hx1)
    have hql := pair_get hk0 hxv
    obtain ⟨r, hrv⟩ : ∃ r, v1 = .ref r := hrow.imp fun r h => h.choose_spec.choose_spec.choose_spec.choose_spec.choose_spec.choose_spec.1
    subst hrv
    obtain ⟨j, hj, hkj⟩ := hGq _ (List.mem_of_getElem? hql)
    dsimp only at hkj
    have hlen := good_len hS' hg'
    k_with_none
    k_with "call ref" => (k_here; (with_reducible show wpAny _ _ (call (Value.ref 104) [_, _, _]) _ _ _); with_unfolding_all refine' Spec.use ?B ?F ?X ?N ?T ?hk (put_spec (R := R') hP' hS' ?p1 ?p2 ?p3 ?p4 ?p5 hrow) ?hd ?hu ?_; (case N => k_asm); (case B => k_asm); (case F => k_asm); (case X => k_asm); (case T => k_asm); (case hk => first | exact rfl | assumption); (case hd => ktr_room); (case hu => ktr_units); (case p1 => omega); (case p2 => omega); (case p3 => omega); (case p4 => exact fun y hy => hR y (hJ y hy)); (case p5 => exact hA'); rintro v8 n8 h8 tk8 ⟨rfl, M', rfl, hP8, hM8⟩ F8 N8; (try dsimp only); (try k_sweep); (try k_fold))
    k_steps
    refine postG_next (M', put pl' k xv) F8 N8 (by kst_inAny) (by kst_inAny) (hA'.same hM8) ?_ ?_
    · (refine ⟨by kst_all, fun z h2 h3 => ?_⟩; (try dsimp only); (repeat (with_reducible first | refine ite_off (notStored h3 _ (by decide)) ?_ | refine ite_off (notPs h2 _ (by decide)) ?_)); exact mapG_off h2 h3)
    · refine ⟨hP8, ?_, put_sorted hS', put_good hg' ⟨j, hj, hkj⟩, hM8.trans hM⟩
      rw [hpl]; exact mergeL_snoc hql
  · intro x u h tk hPx F' N' hA'
    obtain ⟨M, pl'⟩ := x
    dsimp only at hPx F' N' hA' ⊢
    change Fr g L1 h _ at F'
    change News g L1 h _ at N'
    obtain ⟨hP', hpl, hS', hg', hM⟩ := hPx
    k_steps
    rename News _ _ _ _ => nE
    have hl1 : min ws.toArray.size rs2.toArray.size = ql.length := by
      have y1 := hI2.length
      have y2 := hr2.length
      simp at y1 y2
      simp [y1, y2]
    rw [hl1, List.take_length] at hpl
    subst hpl
    exact ret _ _ _ _ ⟨rfl, M, rfl, hP', hM⟩ (by assumption) (nsub nE (by kst_inAny))
end
end
section
/-! lines between two numbers taken out, plainly -/
def delR (pl : List (Int × Int)) (k l : Int) : List (Int × Int) := pl.filter fun p => !(decide (k ≤ p.1) && decide (p.1 ≤ l))

theorem pos_lt_all {ns : List Int} {k : Int} : ∀ {x : Int}, x ∈ ns.take (pos ns k) → x < k := by
  induction ns with
  | nil => intro x hx; simp at hx
  | cons a r ih =>
    intro x hx
    by_cases e : a < k
    · have hp : pos (a :: r) k = pos r k + 1 := by simp [pos, e]
      rw [hp, List.take_succ_cons] at hx
      rcases List.mem_cons.mp hx with rfl | hx
      · exact e
      · exact ih hx
    · have hp : pos (a :: r) k = 0 := by simp [pos, e]
      rw [hp] at hx
      simp at hx
theorem pos_ge_all {ns : List Int} {k : Int} (hs : ns.Pairwise (· < ·)) : ∀ {x : Int}, x ∈ ns.drop (pos ns k) → k ≤ x := by
  induction ns with
  | nil => intro x hx; simp at hx
  | cons a r ih =>
    intro x hx
    obtain ⟨h1, h2⟩ := List.pairwise_cons.mp hs
    by_cases e : a < k
    · have hp : pos (a :: r) k = pos r k + 1 := by simp [pos, e]
      rw [hp, List.drop_succ_cons] at hx
      exact ih h2 hx
    · have hp : pos (a :: r) k = 0 := by simp [pos, e]
      rw [hp, List.drop_zero] at hx
      rcases List.mem_cons.mp hx with rfl | hx
      · omega
      · have := h1 x hx; omega

theorem filter_low {pl : List (Int × Int)} {k : Int} (hs : Sorted pl) : pl.filter (fun p => decide (p.1 < k)) = pl.take (pos (keys pl) k) := by
  induction pl with
  | nil => rfl
  | cons p r ih =>
    obtain ⟨a, y⟩ := p
    have hs' : (a :: keys r).Pairwise (· < ·) := hs
    obtain ⟨h1, h2⟩ := List.pairwise_cons.mp hs'
    by_cases e : a < k
    · have hp : pos (keys ((a, y) :: r)) k = pos (keys r) k + 1 := by simp [pos, e]
      rw [hp, List.take_succ_cons, List.filter_cons_of_pos (by simpa using e), ih h2]
    · have hp : pos (keys ((a, y) :: r)) k = 0 := by simp [pos, e]
      rw [hp, List.take_zero]
      refine List.filter_eq_nil_iff.mpr fun q hq => ?_
      rcases List.mem_cons.mp hq with rfl | hq
      · simpa using e
      · have := h1 q.1 (List.mem_map.mpr ⟨q, hq, rfl⟩)
        simp; omega
theorem filter_high {pl : List (Int × Int)} {k : Int} (hs : Sorted pl) : pl.filter (fun p => decide (k ≤ p.1)) = pl.drop (pos (keys pl) k) := by
  induction pl with
  | nil => rfl
  | cons p r ih =>
    obtain ⟨a, y⟩ := p
    have hs' : (a :: keys r).Pairwise (· < ·) := hs
    obtain ⟨h1, h2⟩ := List.pairwise_cons.mp hs'
    by_cases e : a < k
    · have hp : pos (keys ((a, y) :: r)) k = pos (keys r) k + 1 := by simp [pos, e]
      rw [hp, List.drop_succ_cons, List.filter_cons_of_neg (by simp; omega), ih h2]
    · have hp : pos (keys ((a, y) :: r)) k = 0 := by simp [pos, e]
      rw [hp, List.drop_zero]
      refine List.filter_eq_self.mpr fun q hq => ?_
      rcases List.mem_cons.mp hq with rfl | hq
      · simp; omega
      · have := h1 q.1 (List.mem_map.mpr ⟨q, hq, rfl⟩)
        simp; omega
/-- the place behind a number that is there -/
theorem pos_succ {pl : List (Int × Int)} {l : Int} (hs : Sorted pl) (hc : (keys pl).contains l = true) : pos (keys pl) (l + 1) = pos (keys pl) l + 1 := by
  induction pl with
  | nil => simp at hc
  | cons p r ih =>
    obtain ⟨a, y⟩ := p
    have hs' : (a :: keys r).Pairwise (· < ·) := hs
    obtain ⟨h1, h2⟩ := List.pairwise_cons.mp hs'
    have hm : l ∈ a :: keys r := by simpa using hc
    rcases List.mem_cons.mp hm with rfl | hm
    · have hz : pos (keys r) (l + 1) = 0 := by
        cases r with
        | nil => rfl
        | cons q r' =>
          have := h1 q.1 (.head _)
          show (if q.1 < l + 1 then _ else 0) = 0
          rw [if_neg (by omega)]
      show (if l < l + 1 then pos (keys r) (l + 1) + 1 else 0) = (if l < l then _ else 0) + 1
      rw [if_pos (by omega), if_neg (by omega), hz]
    · have := h1 l hm
      show (if a < l + 1 then pos (keys r) (l + 1) + 1 else 0) = (if a < l then pos (keys r) l + 1 else 0) + 1
      rw [if_pos (by omega), if_pos (by omega), ih h2 (by simpa using hm)]
theorem delR_eq {pl : List (Int × Int)} {k l : Int} (hs : Sorted pl) (hkl : k ≤ l) (hc : (keys pl).contains l = true) : delR pl k l = pl.take (pos (keys pl) k) ++ pl.drop (pos (keys pl) l + 1) := by
  rw [← pos_succ hs hc, ← filter_low hs, ← filter_high hs]
  clear hc
  induction pl with
  | nil => rfl
  | cons p r ih =>
    obtain ⟨a, y⟩ := p
    have hs' : (a :: keys r).Pairwise (· < ·) := hs
    obtain ⟨h1, h2⟩ := List.pairwise_cons.mp hs'
    have ih := ih h2
    unfold delR at ih ⊢
    by_cases e : a < k
    · rw [List.filter_cons_of_pos (by simp; omega), List.filter_cons_of_pos (p := fun (p : Int × Int) => decide (p.1 < k)) (by simpa using e), List.filter_cons_of_neg (p := fun (p : Int × Int) => decide (l + 1 ≤ p.1)) (by simp; omega), ih, List.cons_append]
    · have hlow : r.filter (fun p => decide (p.1 < k)) = [] := List.filter_eq_nil_iff.mpr fun q hq => by
        have := h1 q.1 (List.mem_map.mpr ⟨q, hq, rfl⟩)
        simp; omega
      rw [List.filter_cons_of_neg (p := fun (p : Int × Int) => decide (p.1 < k)) (by simpa using e), hlow, List.nil_append]
      rw [hlow, List.nil_append] at ih
      by_cases e2 : a ≤ l
      · rw [List.filter_cons_of_neg (by simp; omega), List.filter_cons_of_neg (by simp; omega), ih]
      · rw [List.filter_cons_of_pos (by simp; omega), List.filter_cons_of_pos (by simp; omega), ih]
theorem All2.take {α β : Type} {P : α → β → Prop} {l : List α} {m : List β} (h : All2 P l m) : ∀ i, All2 P (l.take i) (m.take i) := by
  induction h with
  | nil => intro i; simpa using .nil
  | cons e t ih =>
    intro i
    cases i with
    | zero => exact .nil
    | succ i => exact .cons e (ih i)
theorem All2.drop {α β : Type} {P : α → β → Prop} {l : List α} {m : List β} (h : All2 P l m) : ∀ i, All2 P (l.drop i) (m.drop i) := by
  induction h with
  | nil => intro i; simpa using .nil
  | cons e t ih =>
    intro i
    cases i with
    | zero => exact .cons e t
    | succ i => exact ih i
theorem All2.append {α β : Type} {P : α → β → Prop} {l l' : List α} {m m' : List β} (h : All2 P l m) (h' : All2 P l' m') : All2 P (l ++ l') (m ++ m') := by
  induction h with
  | nil => exact h'
  | cons e _ ih => exact .cons e ih
theorem allLt_get {D : Addr} : ∀ {R : Ledger}, AllLt D R → ∀ q ∈ R, @LT.lt Nat _ q.1 D
  | [], _, q, hq => by cases hq
  | p :: R, h, q, hq => by
    rcases List.mem_cons.mp hq with rfl | hq
    · exact h.1
    · exact allLt_get h.2 q hq

set_option maxRecDepth 100000 in
set_option maxHeartbeats 8000000 in
theorem delr_raw {prog : Program} {w : World} {R : Ledger} {p d a b : Addr} {h1 h2 : Int} {t1 t2 : Tok} {n2 n3 : Nat} {vs rs : List Value} {ns : List Int} {k l : Int} {tk tl : Tok}
    (hp : (p, instObj 79 d) ∈ R) (hI : IntsAre vs ns)
    (hS : ns.Pairwise (· < ·)) (hlen : ns.length ≤ 100) (hkl : k ≤ l) (hb : ns.contains l = true) (hrl : rs.length = ns.length)
    (hda : @Ne Nat d a) (hdb : @Ne Nat d b) (hab : @Ne Nat a b) (hRa : ∀ q ∈ R, q.1 ≠ a) (hRb : ∀ q ∈ R, q.1 ≠ b) (hRd : ∀ q ∈ R, q.1 ≠ d) :
    Spec 40 80 prog w 118 [.ref p, .int k tk, .int l tl] ((d, progDict h1 h2 t1 t2 a b 2) :: (a, listOf vs.toArray n2) :: (b, listOf rs.toArray n3) :: R)
      (fun v news' => v = .none ∧ ∃ a' b' : Addr, @Ne Nat d a' ∧ @Ne Nat d b' ∧ @Ne Nat a' b' ∧ (∀ q ∈ R, @LT.lt Nat _ q.1 a') ∧ (∀ q ∈ R, @LT.lt Nat _ q.1 b') ∧
        news' = (d, progDict h1 h2 t1 t2 a' b' 2) :: (a', listOf (vs.take (pos ns k) ++ vs.drop (pos ns l + 1)).toArray 0) :: (b', listOf (rs.take (pos ns k) ++ rs.drop (pos ns l + 1)).toArray 0) :: R) := by
  k_with_none
  w_top off
  have hfill : PySem.Challenge.rw_sa0631_01 = PySem.Challenge.rw_sa0631_01 ∧ @hd.heap_39 = hd.heap_39 := by (k_fill; exact ⟨rfl, rfl⟩)
  clear hfill
  intro mean mg mb dp un gd cn cs a0 ccd cl outer A₀ base h₀ L m s Q E B F X N0 T hk hdp hun ret
  have hpa := neN (hRa _ hp)
  have hpb := neN (hRb _ hp)
  have hpd := neN (hRd _ hp)
  dsimp only at hpa hpb hpd
  have N := nadd N0 (.tail _ (.tail _ (.tail _ hp)))
  clear N0
  have hpl : pos ns l < ns.length := by
    by_cases h : pos ns l < ns.length
    · exact h
    · rw [has_out h] at hb; cases hb
  have hpk := pos_le ns k
  have hvl : vs.length = ns.length := hI.length
  refine wpAny_call ?_
  k_dflt ktr_enter
  k_with_none
  k_with "call ref" => (k_here; (with_reducible show wpAny _ _ (call (Value.ref 90) [_, _]) _ _ _); with_unfolding_all refine' Spec.use ?B ?F ?X ?N ?T ?hk (place_spec (h1 := h1) (h2 := h2) (t1 := t1) (t2 := t2) (d := d) (a := a) (b := b) (n1 := 2) (n2 := n2) (vs := vs) (ns := ns) ?p1 ?p2 ?p3 ?p4 ?p5 ?p6) ?hd ?hu ?_; (case B => k_asm); (case F => k_asm); (case X => k_asm); (case N => k_asm); (case T => k_asm); (case hk => first | exact rfl | assumption); (case hd => ktr_room); (case hu => ktr_units); (case p1 => k_mem); (case p2 => k_mem); (case p3 => k_mem); (case p4 => assumption); (case p5 => assumption); (case p6 => assumption); rintro _ _ h9 tk9 ⟨tr9, rfl, rfl⟩ F9 N9; (try dsimp only); (try k_sweep); (try k_fold))
  k_with "call ref" => (k_here; (with_reducible show wpAny _ _ (call (Value.ref 97) [_, _]) _ _ _); with_unfolding_all refine' Spec.use ?B ?F ?X ?N ?T ?hk (has_spec' (h1 := h1) (h2 := h2) (t1 := t1) (t2 := t2) (d := d) (a := a) (b := b) (n1 := 2) (n2 := n2) (vs := vs) (ns := ns) ?p1 ?p2 ?p3 ?p4 ?p5 ?p6 hb) ?hd ?hu ?_; (case B => k_asm); (case F => k_asm); (case X => k_asm); (case N => k_asm); (case T => k_asm); (case hk => first | exact rfl | assumption); (case hd => ktr_room); (case hu => ktr_units); (case p1 => k_mem); (case p2 => k_mem); (case p3 => k_mem); (case p4 => assumption); (case p5 => assumption); (case p6 => assumption); rintro _ _ h9 tk9 ⟨rfl, rfl⟩ F9 N9; (try dsimp only); (try k_sweep); (try k_fold))
  k_steps
  rename_i D3 _ l3 _ D2 _ _ D1 _ _ D0 _ l0 _ _ _ _ _ _ _
  (rename News _ _ _ _ => nE; (try simp only [Int.toNat_natCast] at nE))
  refine ret _ _ _ _ ⟨rfl, D3, D0, ?_, ?_, ?_, ?_, ?_, rfl⟩ (by assumption) (nsub nE ?_)
  · exact Nat.ne_of_lt l3.2.2.2.2.1
  · exact Nat.ne_of_lt (Nat.lt_trans l3.2.2.2.2.1 l0.2.2.1)
  · exact Nat.ne_of_lt l0.2.2.1
  · exact allLt_get l3.2.2.2.2.2.2.2
  · exact allLt_get l0.2.2.2.2.2.2.2.2.2.2
  · intro q hq
    have e9 : ((pos ns l : Int) + 1).toNat = pos ns l + 1 := by omega
    rw [e9]
    simp only [List.mem_cons] at hq ⊢
    rcases hq with h | h | h | h <;> simp [h]

theorem delR_spec {prog : Program} {w : World} {M J R : Ledger} {p : Addr} {pl : List (Int × Int)} {k l : Int} {tk tl : Tok}
    (hP : ProgSt M J p pl) (hS : Sorted pl) (hlen : pl.length ≤ 100) (hJ : ∀ q ∈ J, q ∈ R) (hA : Apart M R) (hkl : k ≤ l) (hb : (keys pl).contains l = true) :
    Spec 40 80 prog w 118 [.ref p, .int k tk, .int l tl] (M ++ R) (fun v news' => v = .none ∧ ∃ M', news' = M' ++ R ∧ ProgSt M' J p (delR pl k l) ∧ Apart M' R) := by
  obtain ⟨d, a, b, h1, h2, t1, t2, n2, n3, vs, rs, rfl, hda, hdb, hab, hp, hI, hr⟩ := hP
  have hRa : ∀ q ∈ R, q.1 ≠ a := fun q hq => (hA (a, listOf vs.toArray n2) (.tail _ (.head _)) q hq).symm
  have hRb : ∀ q ∈ R, q.1 ≠ b := fun q hq => (hA (b, listOf rs.toArray n3) (.tail _ (.tail _ (.head _))) q hq).symm
  have hRd : ∀ q ∈ R, q.1 ≠ d := fun q hq => (hA (d, progDict h1 h2 t1 t2 a b 2) (.head _) q hq).symm
  have hkl' : (keys pl).length ≤ 100 := by simpa using hlen
  have hrl : rs.length = (keys pl).length := by rw [hr.length]; simp
  refine Spec.conv (delr_raw (h1 := h1) (h2 := h2) (t1 := t1) (t2 := t2) (n2 := n2) (n3 := n3) (hJ _ hp) hI hS hkl' hkl hb hrl hda hdb hab hRa hRb hRd) (fun q hq => hq) ?_
  rintro v n1' ⟨rfl, a', b', x1, x2, x3, x4, x5, rfl⟩
  refine ⟨_, ⟨rfl, [_, _, _], rfl, ⟨d, a', b', h1, h2, t1, t2, 0, 0, _, _, rfl, x1, x2, x3, hp, ?_, ?_⟩, ?_⟩, fun q hq => hq⟩
  · have e : keys (delR pl k l) = (keys pl).take (pos (keys pl) k) ++ (keys pl).drop (pos (keys pl) l + 1) := by
      rw [delR_eq hS hkl hb]; simp
    rw [e]
    exact ints_iff.mpr (((ints_iff.mp hI).take _).append ((ints_iff.mp hI).drop _))
  · have e : vals (delR pl k l) = (vals pl).take (pos (keys pl) k) ++ (vals pl).drop (pos (keys pl) l + 1) := by
      rw [delR_eq hS hkl hb]; simp
    rw [e]
    exact (hr.take _).append (hr.drop _)
  · intro q hq r hr'
    simp only [List.mem_cons, List.not_mem_nil, or_false] at hq
    rcases hq with rfl | rfl | rfl
    · exact (hRd r hr').symm
    · exact Nat.ne_of_gt (x4 r hr')
    · exact Nat.ne_of_gt (x5 r hr')
end
section
/-! an own exception class with an own __init__ -/
def excMro : List Value := [.type "Exception", .type "BaseException", .type "object"]
def excI (K : Frag) (C f : Addr) : Bool := match K.lookup C with
  | some ⟨.type "type", _, .cls cd, sl⟩ => (match cd.mro, sl.toList with
    | .ref C' :: bm, [_, _, _, _, some (.builtin n), _] => C' == C && n == "Exception.__new__" && !cd.hasDel && bm == excMro && nsOkIn K cd.ns && nsIn K cd.ns "__init__" == some (some (.ref f)) && cd.hasDict
    | _, _ => false)
  | _ => false
theorem nsMap_some_of_in {K : Frag} {h : Heap} {N : Addr} {x : Str} {v : Value} (X : K.In h) (e : nsOkIn K N = true) (q : nsIn K N x = some (some v)) : h.nsMap N x = some v := by
  obtain ⟨o, es, ep, ho, hd, _, hf⟩ := Heap.Ns.of_isNs (isNs_of_in X e)
  unfold nsIn at q
  split at q
  · rename_i c d es' n' sl q'
    have := X _ _ q'
    rw [ho] at this
    cases this
    cases hd
    split at q
    · rename_i en he
      rw [← hf]
      unfold nsFind findBy
      rw [← Array.find?_toList, he]
      exact Option.some.inj q
    · split at q <;> cases q
  · cases q
theorem excI_obj {K : Frag} {h : Heap} {C f : Addr} (X : K.In h) (q : excI K C f = true) : ∃ N nm qn bs sn sub ab col dd k0 k1 k2 k3 k5 mN,
    h.get? C = some (excClassObj nm qn C N bs excMro true sn sub ab col dd k0 k1 k2 k3 k5 "Exception.__new__") ∧ h.Ns N mN ∧ mN "__init__" = some (.ref f) := by
  unfold excI at q
  split at q
  · rename_i dd cd sl ho
    split at q
    · rename_i C' bm k0 k1 k2 k3 n k5 hm hs
      simp only [Bool.and_eq_true, beq_iff_eq, Bool.not_eq_true'] at q
      obtain ⟨⟨⟨⟨⟨⟨rfl, rfl⟩, hdel⟩, rfl⟩, hok⟩, hni⟩, hhd⟩ := q
      obtain ⟨nm, bs, mro, ns, qn, hd, sn, sub, ab, col, del⟩ := cd
      dsimp only at hm hdel hok hni hhd
      subst hm hdel hhd
      have hsl : sl = #[k0, k1, k2, k3, some (.builtin "Exception.__new__"), k5] := by
        obtain ⟨l⟩ := sl
        simp only at hs
        rw [hs]
      subst hsl
      exact ⟨ns, nm, qn, bs, sn, sub, ab, col, dd, k0, k1, k2, k3, k5, _, X _ _ ho, .of_isNs (isNs_of_in X hok), nsMap_some_of_in X hok hni⟩
    · cases q
  · cases q

abbrev excBare (C t : Addr) : Obj := { cls := .ref C, data := .fields #[.ref t, .none, .none, .none, .bool false, .none] }
abbrev excObj (C t dx : Addr) : Obj := { cls := .ref C, dict := some dx, data := .fields #[.ref t, .none, .none, .none, .bool false, .none] }

theorem exc_passes (self : Value) : refuseLoop self "__setattr__" excMro = pure () := by kernel_rfl

section
variable {prog : Program} {w : World} {A : Around} {K : Frag} {C x : Addr} {s : Shared} {h₀ : Heap} {L : Addr} {m : Str → Option Value} {news : List (Addr × Obj)} {R : Result → Shared → Prop}
open Builtin Builtin.ObjectAttr in
/-- the first attribute of an exception: its dict is made -/
theorem exc_store {E : Value → Shared → Prop} {Q : Unit → Shared → Prop} {f t : Addr} {name : Str} {v : Value} (F : Fr h₀ L s.heap m) (N : News h₀ L s.heap ((x, excBare C t) :: news)) (X₀ : K.In h₀) (q : excI K C f = true)
    (hs : findIn K (.ref C) "__setattr__" = some (some (.builtin "object.__setattr__"))) (hn : findIn K (.ref C) name = some none) (hx : ∀ p ∈ news, p.1 ≠ x)
    (h : ∀ D h', Fr h₀ L h' m → News h₀ L h' ((x, excObj C t D) :: (D, dictOf [⟨PyData.keyHash w.params name, .str name (s.toks + 1), v⟩] 1) :: news) → (∀ p ∈ (x, excBare C t) :: news, p.1 < D) → Q () { s with heap := h', toks := s.toks + 2 }) :
    wpAny (model prog w) A (setAttr (.ref x) name v) Q E s := by
  have X := X₀.keeps F.keep
  obtain ⟨hx1, hx2, hx3⟩ := N (x, excBare C t) (.head _)
  dsimp only at hx1 hx2 hx3
  have I : InstAt s.heap x (excBare C t) C none := ⟨hx1, rfl, rfl, trivial⟩
  obtain ⟨Nn, nm, qn, bs, sn, sub, ab, col, dd, k0, k1, k2, k3, k5, mN, hC, hN, hi⟩ := excI_obj X q
  refine set_plain X I hs ?_
  have SF := PySem.F.store_object
  have hm : Looks (model prog w) s.heap (mroOf (.ref C)) (.ref C :: excMro) := by
    intro A Q E s' k q'
    obtain ⟨hh, g, d, t, os⟩ := s'
    exact wpAny_mroOf_exc (k _ _ hC) q'
  have hsub : Looks (model prog w) s.heap (isInstance (.ref x) (.type "object")) true := I.type.andThen (by
    intro A Q E s' k q'
    obtain ⟨hh, g, d, t, os⟩ := s'
    exact wpAny_isSubtype_exc (k _ _ hC) q')
  refine codeAny_call_builtin SF.slot.plain SF.entry (@check_slot (model prog w) _ _ { s with toks := s.toks + 1 } "object.__setattr__" "object" "__setattr__" (.ref x) [.str name s.toks, v] [] _ SF.kind SF.split hsub (SF.args (.ref x) (.str name s.toks) v) ?_)
  rw [osa_eq, refuse_eq]
  refine wpAny_bind (wpAny_bind (I.type.at (wpAny_bind (hm.at ?_))))
  rw [refuseLoop_ref, exc_passes]
  refine wpAny_pure (wpAny_bind (I.type.at (wpAny_bind ((looks_findIn X hn).at (wpAny_bind (wpAny_pure ?_))))))
  show wpAny _ _ (storeInOwnDict _ _ _ _ _ _) _ _ _
  have hcd : Looks (model prog w) s.heap (classData C) _ := (Looks.ld (part := none) hC).andThen .now
  refine wpAny_bind (wpAny_pure (wpAny_bind (wpAny_bind (wpAny_loadPart hx1 (wpAny_bind (hcd.at ?_))))))
  rw [if_neg (by rw [Bool.not_true]; exact Bool.false_ne_true)]
  show wpAny _ _ (alloc emptyDict >>= fun d => update x (fun o => { o with dict := some d }) >>= fun _ => dictMade (.ref C) x d) _ _ _
  have F1 := F.push emptyDict
  have N1 := N.push F emptyDict
  have hltx : @LT.lt Nat _ x s.heap.objs.size := Heap.lt_size hx1
  obtain ⟨F2, N2⟩ := news_upd (pre := [(s.heap.objs.size, emptyDict)]) (post := news) (f := fun o => { o with dict := some s.heap.objs.size }) (o' := excObj C t s.heap.objs.size) F1 N1
    (fun p hp => by rw [List.mem_singleton.mp hp]; exact Nat.ne_of_gt hltx) hx rfl rfl
  refine wpAny_bind (wpAny_alloc (wpAny_bind (wpAny_update (N1 (x, excBare C t) (.tail _ (.head _))).1 (wpAny_pure ?_))))
  show wpAny _ _ (storeInDict s.heap.objs.size _ _ _) _ _ _
  unfold storeInDict
  have lt9 : ∀ p : Addr × Obj, (p = (x, excObj C t s.heap.objs.size) ∨ p ∈ news) → @LT.lt Nat _ p.1 s.heap.objs.size := fun p hp => by
    rcases hp with rfl | hp
    · exact hltx
    · exact Heap.lt_size (N p (.tail _ hp)).1
  have D := (N2 (s.heap.objs.size, emptyDict) (.head _)).1
  have e3 : Obj.putName name (PyData.keyHash w.params name) (.str name (s.toks + 1)) v emptyDict = dictOf [⟨PyData.keyHash w.params name, .str name (s.toks + 1), v⟩] 1 := rfl
  obtain ⟨F3, N3⟩ := news_upd (pre := []) (post := (x, excObj C t s.heap.objs.size) :: news) (f := Obj.putName name (PyData.keyHash w.params name) (.str name (s.toks + 1)) v) F2 N2 (fun p hp => nomatch hp)
    (fun p hp => Nat.ne_of_lt (lt9 p (by cases hp with | head => exact .inl rfl | tail _ h => exact .inr h))) e3 rfl
  have D' := (N3 (_, _) (.head _)).1
  refine wpAny_bind (wpAny_pure (wpAny_bind ?_))
  unfold nsSet
  refine wpAny_bind (wpAny_bind (wpAny_askSetting (wpAny_pure (wpAny_bind (wpAny_mkText (wpAny_bind (wpAny_loadPart D ?_)))))))
  dsimp only
  rw [if_neg (by rw [show aRefKeyMayBeTheName name #[] = false from rfl]; exact Bool.false_ne_true)]
  refine wpAny_updatePart D ?_
  refine wpAny_bind (wpAny_lookBehind D' (pastItsLine_dict (by show 1 ≤ sizeLine + 1; rw [sizeLine_eq]; omega)) ?_)
  have z := h s.heap.objs.size _ F3 (fun p hp => N3 p ?_) (fun p hp => ?_)
  · refine wpAny_pure ?_
    exact z
  · cases hp with
    | head => exact .tail _ (.head _)
    | tail _ hp =>
      cases hp with
      | head => exact .head _
      | tail _ hp => exact .tail _ (.tail _ hp)
  · cases hp with
    | head => exact hltx
    | tail _ hp => exact lt9 p (.inr hp)
end

def clsAtIn (K : Frag) (a : Addr) (v : Value) : Bool := match K.lookup a with
  | some o => o.cls == v
  | none => false
theorem clsAt_of {K : Frag} {h : Heap} {a : Addr} {v : Value} (X : K.In h) (q : clsAtIn K a v = true) : ∃ o, h.get? a = some o ∧ o.cls = v := by
  unfold clsAtIn at q
  split at q
  · rename_i o ho
    exact ⟨o, X _ _ ho, beq_iff_eq.mp q⟩
  · cases q

set_option maxRecDepth 100000 in
set_option maxHeartbeats 8000000 in
theorem exc_make {prog : Program} {w : World} {k : Str} {tk : Tok} {mean : ExcName → Option Value} {mg mb : Str → Option Value} {dp un : Nat} {gd : Option (List Code)} {cn : Str} {cs : Scope} {a0 : Addr} {ccd : Value} {cl : List (Str × Addr)} {outer : List Env} {A₀ : Around} {base h₀ : Heap} {L : Addr} {m : Str → Option Value} {s : Shared} {Q E : Value → Shared → Prop} {news : Ledger}
    (B : Below A₀ base outer h₀) (F : Fr h₀ L s.heap m) (X : (hd.heap_39 w.params).In h₀) (N : News h₀ L s.heap news) (T : Top hd.view_39 (looseW hd.view_39 []) mean mg mb h₀) (hk : cs.kind = .function) (hdp : dp + 5 < recursionLimit) (hun : un + 10 < cLine)
    (ret : ∀ e t dx hh tt h' tk', Fr h₀ L h' m → News h₀ L h' ((e, excObj 31 t dx) :: (dx, dictOf [⟨hh, .str (Str.ofString "kind") tt, .str k tk⟩] 1) :: news) → (∀ q ∈ (dx, dictOf [⟨hh, .str (Str.ofString "kind") tt, .str k tk⟩] 1) :: news, q.1 ≠ e) → Q (.ref e) { s with heap := h', toks := tk' }) :
    wpAny (model prog w) (ktrTop dp un gd cn cs L a0 ccd cl outer) (call (.ref 31) [.str k tk]) Q E s := by
  k_with_none
  w_top off
  have hfill : PySem.Challenge.rw_sa0631_01 = PySem.Challenge.rw_sa0631_01 ∧ @hd.heap_39 = hd.heap_39 := by (k_fill; exact ⟨rfl, rfl⟩)
  clear hfill
  have XH := X.keeps F.keep
  obtain ⟨Nn, nm, qn, bs, sn, sub, ab, col, dd, k0, k1, k2, k3, k5, mN, hC, hN, hi⟩ := excI_obj (C := 31) (f := 28) XH (by kernel_rfl)
  obtain ⟨oI, hoI, hcI⟩ := clsAt_of (a := 28) (v := .type "function") XH (by kernel_rfl)
  obtain ⟨hp, gg, dr, tk0, os⟩ := s
  refine wpAny_call_exc_init (hrest := by size_fits) PySem.F.excBase_Exception hC hN hi hoI hcI fun h' e hm => ?_
  obtain ⟨t, he, hnt, ht⟩ := hm.there
  have F1 : Fr h₀ L h' m := F.grownK hm.keeps
  have N1 : News h₀ L h' ((e, excBare 31 t) :: news) := by
    have N9 := N.grown hm.keeps
    exact News.more F1 N9 he (fun es n q => by cases q) (by
      cases q : h₀.get? e with
      | none => rfl
      | some o => have := F.keep _ _ q; rw [hm.new] at this; cases this)
  have hxn : ∀ p ∈ news, p.1 ≠ e := fun p hp q => by
    have := (N p hp).1
    rw [q] at this
    exact absurd (this.symm.trans hm.new) (by intro z; cases z)
  clear hm he ht hnt hC hN hi hoI hcI N XH
  refine wpAny_call ?_
  k_enter
  k_steps
  refine' exc_store ?F ?N ?X ?q ?hs ?hn ?hx ?_
  (case F => k_asm)
  (case N => k_asm)
  (case X => k_asm)
  (case q => exact (by kernel_rfl : excI (hd.heap_39 w.params) 31 28 = true))
  (case hs => k_is)
  (case hn => k_is)
  (case hx => assumption)
  intro D9 h9 F9 N9 l9
  (try dsimp only)
  (try k_sweep)
  k_steps
  refine ret e t D9 _ _ _ _ (by assumption) (by assumption) fun q hq => ?_
  rcases List.mem_cons.mp hq with rfl | hq
  · exact Nat.ne_of_gt (l9 _ (.head _))
  · exact hxn q hq

def RaisableO (E : Value → Shared → Prop) (v : Value) (s₁ : Shared) : Prop :=
  ∃ C f e t dx K, Frag.In K s₁.heap ∧ excI K C f = true ∧ v = .ref e ∧ s₁.heap.get? e = some (excObj C t dx) ∧ E (.ref e) s₁

theorem Raise_kind {M : Model} {A : Around} {E : Value → Shared → Prop} {s : Shared} {env : Env} {ex : PySem.Expr} {pos : PySem.Pos} {Q : Flow → Shared → Prop} (hh : A.handled = none)
    (h : wpAny M A (eval ex env) (RaisableO E) E s) : wpAny M A (exec (.Raise (some ex) none pos) env) Q E s := by
  show wpAny M A (do standAt pos; raiseStmt env (some (do let v ← eval ex env; standAt pos; pure v)) none) Q E s
  refine wpAny_bind (wpAny_standAt ?_)
  unfold raiseStmt
  dsimp only
  refine wpAny_bind (wpAny_bind (wpAny_mono h (fun v s₁ h₁ => wpAny_bind (wpAny_standAt (wpAny_pure ?_))) fun _ _ x => x))
  obtain ⟨C, f, e, t, dx, K, X, q, rfl, he, hE⟩ := h₁
  obtain ⟨Nn, nm, qn, bs, sn, sub, ab, col, dd, k0, k1, k2, k3, k5, mN, hC, hN, hi⟩ := excI_obj X q
  have hcB : (Value.ref C :: excMro).contains (.type "BaseException") = true := by rw [List.contains_cons]; exact Bool.or_true _
  obtain ⟨hp, g, d, tk, os⟩ := s₁
  repeat (first | with_reducible refine wpAny_loadPart_at he ?_ | with_reducible refine wpAny_loadPart_at hC ?_ | (with_reducible refine wpAny_isSubtype_exc hC ?_; rw [hcB]) | wp_step)
  exact wpAny_raiseNew_none hh hE
end
section
def DictAt (h : Heap) (e dx : Addr) : Prop := ∃ o, h.get? e = some o ∧ o.dict = some dx
theorem DictAt.kept {h h' : Heap} {e dx : Addr} (x : DictAt h e dx) (k : DictKept h h') : DictAt h' e dx := by
  obtain ⟨o, ho, hd⟩ := x
  obtain ⟨o', ho', hd'⟩ := k e o ho
  exact ⟨o', ho', hd'.trans hd⟩
theorem DictAt.keeps {h h' : Heap} {e dx : Addr} (x : DictAt h e dx) (k : ∀ b o, h.get? b = some o → h'.get? b = some o) : DictAt h' e dx := by
  obtain ⟨o, ho, hd⟩ := x
  exact ⟨o, k _ _ ho, hd⟩

section
variable {M : Model} {A : Around} {E : Value → Shared → Prop} {s' : Shared} {base g : Heap} {outer : List Env} {L a e t dx C : Addr} {m : Str → Option Value} {name : Str} {scope : Scope} {cd : Value} {Q : Unit → Shared → Prop} {news : List (Addr × Obj)}
theorem leave_kind (K : Below A base outer g) (F : Fr g L s'.heap m) (N : News g L s'.heap ((e, excObj C t dx) :: news)) (hx : ∀ q ∈ news, q.1 ≠ e)
    (hQ : ∀ h', RaisedSN base g outer e (.ref C) news h' → DictAt h' e dx → g.UpToSlots h' → Q () { s' with heap := h' }) (hk : scope.kind = .function) :
    wpAny M (A.deeper (envOf name scope L a cd)) (leaving (envOf name scope L a cd) (.ref e)) Q E s' := by
  have K' := K.push (name := name) (a := a) (cd := cd) F hk
  obtain ⟨he, heL, heg⟩ := N _ (.head _)
  dsimp only at he heL heg
  have heb : base.get? e = none := fresh_of_stays K.stays heg
  have hin : ∀ env ∈ (envOf name scope L a cd :: outer), ∀ b, env.frame = some b → b ∈ e :: (envOf name scope L a cd :: outer).filterMap (·.frame) := fun env he b hb => .tail _ (List.mem_filterMap.mpr ⟨env, he, hb⟩)
  have hef : e ∉ (envOf name scope L a cd :: outer).filterMap (·.frame) := fun hm => by
    rcases kts_mem hm with z | z
    · exact heL z
    · obtain ⟨_, o, ho, _⟩ := K.frames.mem z
      rw [heg] at ho; cases ho
  have st : base.StaysIn (hideAll s'.heap (e :: (envOf name scope L a cd :: outer).filterMap (·.frame))) := fun b o q => hideAll_get _ (K'.stays b o q) fun hm => by
    rcases List.mem_cons.mp hm with z | z
    · rw [z, heb] at q; cases q
    · rw [(K'.frames.mem z).1] at q; cases q
  have sg : ∀ b o, g.get? b = some o → b ∉ outer.filterMap (·.frame) → (hideAll s'.heap (e :: (envOf name scope L a cd :: outer).filterMap (·.frame))).get? b = some o := fun b o q nm => hideAll_get _ (F.keep b o q) fun hm => by
    rcases List.mem_cons.mp hm with z | z
    · rw [z, heg] at q; cases q
    · rcases kts_mem z with z | z
      · rw [z, kts_self F] at q
        cases q
      · exact nm z
  have hl : ∀ q ∈ news, (hideAll s'.heap (e :: (envOf name scope L a cd :: outer).filterMap (·.frame))).get? q.1 = some q.2 ∧ g.get? q.1 = none ∧ base.get? q.1 = none := fun q hq => by
    obtain ⟨y1, y2, y3⟩ := N q (.tail _ hq)
    refine ⟨hideAll_get _ y1 fun hm => ?_, y3, fresh_of_stays K.stays y3⟩
    rcases List.mem_cons.mp hm with z | z
    · exact hx q hq z
    · rcases kts_mem z with z | z
      · exact y2 z
      · obtain ⟨_, o, ho, _⟩ := K.frames.mem z
        rw [y3] at ho; cases ho
  refine wpAny_pres' (pres_leaving _ _) (Q' := fun _ s'' => ∃ h', s'' = { s' with heap := h' } ∧ RaisedSN base g outer e (.ref C) news h' ∧ g.UpToSlots h') (E' := E) ?_ ?_ (fun _ _ z _ => z)
  · refine wpAny_leaving_firstW (base := hideAll s'.heap (e :: (envOf name scope L a cd :: outer).filterMap (·.frame))) (a0 := .ref t) K'.stack (funFrames_hide K'.frames hin) rfl he (fun b o q => of_hideAll _ q) (hideAll_none _ (.head _)) rfl rfl rfl fun h' hL => ?_
    obtain ⟨k1, ⟨_, _, k2⟩, k3, k4⟩ := hL
    exact ⟨h', rfl, ⟨_, _, st, sg, hl, k1, hideAll_none _ (.head _), k2, k3⟩, (Heap.UpToSlots.of_keeps F.keep).trans k4⟩
  · rintro _ s'' ⟨h', rfl, x1, x2⟩ hd
    exact hQ h' x1 (DictAt.kept ⟨_, he, rfl⟩ hd) x2
end
end
section
section
variable {prog : Program} {w : World} {A₀ : Around} {E : Value → Shared → Prop} {s' : Shared} {base g g₀ G : Heap} {outer : List Env} {L a e dx C : Addr} {m : Str → Option Value} {name : Str} {scope : Scope} {cd : Value}
  {n : Str} {b₀ : Stmt} {suite : List Stmt} {pos : PySem.Pos} {rest : List ExceptHandler} {Q : Flow → Shared → Prop} {news : List (Addr × Obj)} {KF : Frag} {p : Program} {loose : List Str} {mean : ExcName → Option Value} {mg mb : Str → Option Value} {tt : PySem.Expr}
theorem catch_kind (R : RaisedSN base G (envOf name scope L a cd :: outer) e (.ref C) news s'.heap) (DA : DictAt s'.heap e dx) (F : Fr g L G m) (K : Below A₀ base outer g) (hsm : G.UpToSlots s'.heap) (XB : KF.In base) (TB : Top p loose mean mg mb base)
    (D : KtsDicts (outer.filterMap (·.frame)) g) (T0 : KtsTurn (outer.filterMap (·.frame)) g₀ g) (T : KtsTest prog w KF p loose mg mb name scope L a cd (.ref C) tt true)
    (k : ∀ h' g' tk oe, KtsTurn (outer.filterMap (·.frame)) g₀ g' → Fr g' L h' (fun y => if y = n then some (.ref e) else m y) → News g' L h' ((e, oe) :: news) → oe.cls = .ref C → oe.dict = some dx → notCls oe = true → Below A₀ base outer g' → KF.In g' → Top p loose mean mg mb g' → KtsDicts (outer.filterMap (·.frame)) g' →
      wpAny (model prog w) ((A₀.deeper (envOf name scope L a cd)).mark (some (.ref e))) (execs (b₀ :: suite) (envOf name scope L a cd))
        (fun f s₄ => wpAny (model prog w) (A₀.deeper (envOf name scope L a cd)) (do bindName (envOf name scope L a cd) n .none; unbindBehindTheSuite (envOf name scope L a cd) n pos) (fun _ s₅ => Q f s₅) E s₄)
        (AsSuiteRaised (model prog w) ((A₀.deeper (envOf name scope L a cd)).mark (some (.ref e))) (envOf name scope L a cd) n pos (notedBy (model prog w) ((A₀.deeper (envOf name scope L a cd)).mark (some (.ref e))) (envOf name scope L a cd) (cameBackBy (model prog w) (A₀.deeper (envOf name scope L a cd)) (envOf name scope L a cd) E)))
        { s' with heap := h', toks := tk })
    (hk : scope.kind = .function) (hlo : (envOf name scope L a cd).kindOf n = some .local) :
    wpAny (model prog w) (A₀.deeper (envOf name scope L a cd)) (noteFrame (.ref e) (envOf name scope L a cd)) (fun _ s₂ => wpAny (model prog w) (A₀.deeper (envOf name scope L a cd)) (setFlight (.ref e) none) (fun _ s₃ =>
      wpAny (model prog w) (A₀.deeper (envOf name scope L a cd)) (handleBy (.ref e) (envOf name scope L a cd) (.ExceptHandler (some tt) (some n) (b₀ :: suite) pos :: rest)) Q E s₃) E s₂) E s' := by
  obtain ⟨B, a0, hB, hBG, hl, hfl⟩ := R
  have hL : B.get? L = none := by
    obtain ⟨_, ⟨L', _, hf, hn', _⟩, _⟩ := hfl.2.2.1
    obtain rfl : L = L' := Option.some.inj hf
    exact hn'
  -- the look at the frame
  refine wpAny_pres' (pres_noteFrame _ _) (Q' := fun _ s₁ => ∃ h₄, s₁ = { s' with heap := h₄ } ∧ Heap.HeldW B (envOf name scope L a cd :: outer) e (.ref C) a0 L h₄ ∧ s'.heap.UpToSlots h₄) (E' := E) ?_ ?_ (fun _ _ z _ => z)
  · exact wpAny_looks_onW (Around.frames_deeper K.stack) rfl hfl fun h₄ x1 x2 => ⟨h₄, rfl, x1, x2⟩
  rintro _ _ ⟨h₄, rfl, hheld₄, hsm₄⟩ hd₄
  replace DA := DA.kept hd₄
  -- the flight ends
  refine wpAny_pres' (pres_setFlight _ _) (Q' := fun _ s₁ => ∃ h₅, s₁ = { s' with heap := h₅ } ∧ Heap.FlyingW B (envOf name scope L a cd :: outer) e (.ref C) a0 h₅ ∧ h₄.UpToSlots h₅) (E' := E) ?_ ?_ (fun _ _ z _ => z)
  · exact wpAny_landsW hheld₄ fun h₅ x1 x2 => ⟨h₅, rfl, x1, x2⟩
  rintro _ _ ⟨h₅, rfl, hfl₅, hsm₅⟩ hd₅
  replace DA := DA.kept hd₅
  have hsm5 := hsm.trans (hsm₄.trans hsm₅)
  have R5 : RaisedSN base G (envOf name scope L a cd :: outer) e (.ref C) news h₅ := ⟨B, a0, hB, hBG, hl, hfl₅⟩
  obtain ⟨g₅, T₅, F₅, K₅⟩ := kts_ground K F hBG hfl₅.1 hsm5
  refine wpAny_handleBy_cons (codeAny_handlers_test (T _ _ _ _ g₅ e m F₅ (XB.keeps K₅.stays) (topRead_of (TB.keeps K₅.stays)) R5.ty fun h₆ kp => ?_)) (by intro q; cases q)
  replace DA := DA.keeps kp
  have hfl₆ := flying_keeps hfl₅ kp
  have hsm6 := hsm5.trans (Heap.UpToSlots.of_keeps kp)
  refine codeAny_handlers_suite_as ?_
  refine wpAny_pres' (pres_setFlight _ _) (Q' := fun _ s₁ => ∃ h₇, s₁ = { s' with heap := h₇ } ∧ Heap.FlyingW B (envOf name scope L a cd :: outer) e (.ref C) a0 h₇ ∧ h₆.UpToSlots h₇) (E' := fun _ _ => False) ?_ ?_ (fun _ _ z _ => z.elim)
  · exact lands_againW hfl₆ fun h₇ x1 x2 => ⟨h₇, rfl, x1, x2⟩
  rintro _ _ ⟨h₇, rfl, hfl₇, hsm₇⟩ hd₇
  replace DA := DA.kept hd₇
  obtain ⟨g₇, T₇, F₇, K₇⟩ := kts_ground K F hBG hfl₇.1 (hsm6.trans hsm₇)
  obtain ⟨oe, ws, hoe, hoec, hoed, hoe0⟩ := hfl₇.first
  have ne₇ : g₇.get? e = none := T₇.none_ _ (kts_fresh F hBG hfl₇.2.1 fun o ho hm => by
    obtain ⟨_, o', ho', hd⟩ := K.frames.mem hm
    rw [ho] at ho'
    cases ho'
    obtain ⟨sl, hs⟩ := (hsm6.trans hsm₇) _ _ (F.keep _ _ ho) hd
    rw [hoe] at hs
    cases hs
    exact hd _ hoed)
  have Nl : News g₇ L h₇ news := fun q hq => ⟨hfl₇.1 _ _ (hl q hq).1, (fun z => by have := (hl q hq).1; rw [z, hL] at this; cases this), T₇.none_ _ (kts_none F.keep (hl q hq).2.1)⟩
  have Ne : News g₇ L h₇ ((e, oe) :: news) := News.more F₇ Nl hoe (fun es n q => by rw [hoed] at q; cases q) ne₇
  obtain ⟨oe', hoe', hdx⟩ := DA
  have hoe'' : h₇.get? e = some oe' := hoe'
  rw [hoe] at hoe''
  cases hoe''
  refine stN F₇ Ne (fun h₈ F₈ N₈ => ?_) hk hlo
  exact k h₈ g₇ _ oe (T0.trans T₇) F₈ N₈ hoec hdx (by unfold notCls; rw [hoed]) K₇ (XB.keeps K₇.stays) (TB.keeps K₇.stays) (D.turn T₇)
end
end
section
abbrev kindDict (hh : Int) (tt : Tok) (kd : Str) (tk : Tok) : Obj := dictOf [⟨hh, .str (Str.ofString "kind") tt, .str kd tk⟩] 1

/-- a call that raises the program's own exception, with its letters -/
def SpecR (D U : Nat) (prog : Program) (w : World) (f : Addr) (args : List Value) (news : Ledger) (kd : Str) : Prop :=
  ∀ (mean : ExcName → Option Value) (mg mb : Str → Option Value) (dp un : Nat) (gd : Option (List Code)) (cn : Str) (cs : Scope) (a0 : Addr) (ccd : Value) (outer : List Env) (A₀ : Around) (base h₀ : Heap) (L : Addr) (m : Str → Option Value) (s : Shared) (Q E : Value → Shared → Prop),
    Below A₀ base outer h₀ → Fr h₀ L s.heap m → (hd.heap_39 w.params).In h₀ → News h₀ L s.heap news → Top hd.view_39 (looseW hd.view_39 []) mean mg mb h₀ → cs.kind = .function → dp + D < recursionLimit → un + U < cLine →
    (∀ e dx hh tt tk G news' h' tk', Fr h₀ L G m → RaisedSN base G (envOf cn cs L a0 ccd :: outer) e (.ref 31) news' h' → DictAt h' e dx → G.UpToSlots h' → (dx, kindDict hh tt kd tk) ∈ news' → (∀ q ∈ news, q ∈ news') → E (.ref e) { s with heap := h', toks := tk' }) →
    wpAny (model prog w) (ktrTop dp un gd cn cs L a0 ccd [] outer) (call (.ref f) args) Q E s

set_option maxRecDepth 100000 in
set_option maxHeartbeats 8000000 in
theorem put_raise {prog : Program} {w : World} {R : Ledger} {p d a r : Addr} {b : Addr} {h1 h2 : Int} {t1 t2 : Tok} {n2 n4 : Nat} {vs : List Value} {ns : List Int} {k : Int} {tk : Tok}
    (hp : (p, instObj 79 d) ∈ R) (hdd : (d, progDict h1 h2 t1 t2 a b 2) ∈ R) (ha : (a, listOf vs.toArray n2) ∈ R) (hr : (r, listOf (List.toArray []) n4) ∈ R) (hI : IntsAre vs ns)
    (hS : ns.Pairwise (· < ·)) (hlen : ns.length ≤ 100) (hk0 : 0 ≤ k) (hk1 : k ≤ 1000) (hb : ns.contains k = false) :
    SpecR 40 80 prog w 104 [.ref p, .int k tk, .ref r] R (Str.ofString "UL") := by
  k_with_none
  w_top off
  have hfill : PySem.Challenge.rw_sa0631_01 = PySem.Challenge.rw_sa0631_01 ∧ @hd.heap_39 = hd.heap_39 := by (k_fill; exact ⟨rfl, rfl⟩)
  clear hfill
  intro mean mg mb dp un gd cn cs a0 ccd outer A₀ base h₀ L m s Q E B F X N0 T hk hdp hun ret
  have N := nadd (nadd (nadd (nadd N0 ha) (.tail _ hr)) (.tail _ (.tail _ hdd))) (.tail _ (.tail _ (.tail _ hp)))
  clear N0
  have hpl : pos ns k ≤ ns.length := pos_le ns k
  have hvl : vs.length = ns.length := hI.length
  refine wpAny_call ?_
  k_dflt ktr_enter
  k_with_none
  k_with "call ref" => (k_here; (with_reducible show wpAny _ _ (call (Value.ref 90) [_, _]) _ _ _); with_unfolding_all refine' Spec.use ?B ?F ?X ?N ?T ?hk (place_spec (h1 := h1) (h2 := h2) (t1 := t1) (t2 := t2) (d := d) (a := a) (b := b) (n1 := 2) (n2 := n2) (vs := vs) (ns := ns) ?p1 ?p2 ?p3 ?p4 ?p5 ?p6) ?hd ?hu ?_; (case B => k_asm); (case F => k_asm); (case X => k_asm); (case N => k_asm); (case T => k_asm); (case hk => first | exact rfl | assumption); (case hd => ktr_room); (case hu => ktr_units); (case p1 => k_mem); (case p2 => k_mem); (case p3 => k_mem); (case p4 => assumption); (case p5 => assumption); (case p6 => assumption); rintro _ _ h9 tk9 ⟨tr9, rfl, rfl⟩ F9 N9; (try dsimp only); (try k_sweep); (try k_fold))
  k_with "call ref" => (k_here; (with_reducible show wpAny _ _ (call (Value.ref 97) [_, _]) _ _ _); with_unfolding_all refine' Spec.use ?B ?F ?X ?N ?T ?hk (has_spec' (h1 := h1) (h2 := h2) (t1 := t1) (t2 := t2) (d := d) (a := a) (b := b) (n1 := 2) (n2 := n2) (vs := vs) (ns := ns) ?p1 ?p2 ?p3 ?p4 ?p5 ?p6 hb) ?hd ?hu ?_; (case B => k_asm); (case F => k_asm); (case X => k_asm); (case N => k_asm); (case T => k_asm); (case hk => first | exact rfl | assumption); (case hd => ktr_room); (case hu => ktr_units); (case p1 => k_mem); (case p2 => k_mem); (case p3 => k_mem); (case p4 => assumption); (case p5 => assumption); (case p6 => assumption); rintro _ _ h9 tk9 ⟨rfl, rfl⟩ F9 N9; (try dsimp only); (try k_sweep); (try k_fold))
  k_with "exec Raise some none" => (k_here; refine Raise_kind rfl ?_)
  k_with "call ref" => (k_here; (with_reducible show wpAny _ _ (call (Value.ref 31) [_]) _ _ _); with_unfolding_all refine' exc_make ?B ?F ?X ?N ?T ?hk ?hd ?hu ?_; (case B => k_asm); (case F => k_asm); (case X => k_asm); (case N => k_asm); (case T => k_asm); (case hk => first | exact rfl | assumption); (case hd => ktr_room); (case hu => ktr_units); intro e9 x9 dx9 hh9 tt9 h9 tk9 F9 N9 ne9; (try dsimp only); (try k_sweep); (try k_fold))
  k_steps
  rename (hd.heap_39 w.params).In _ => X'
  refine ⟨31, 28, e9, x9, dx9, _, X'.keeps F9.keep, by kernel_rfl, rfl, (N9 _ (.head _)).1, ?_⟩
  refine leave_kind (by assumption) F9 N9 ne9 (fun h' R' D' U' => ?_) rfl
  exact ret e9 dx9 hh9 tt9 _ _ _ h' _ (by assumption) R' D' U' (.head _) (fun q hq => .tail _ (.tail _ (.tail _ (.tail _ (.tail _ hq)))))

set_option maxRecDepth 100000 in
set_option maxHeartbeats 8000000 in
theorem delR_raise {prog : Program} {w : World} {R : Ledger} {p d a : Addr} {b : Addr} {h1 h2 : Int} {t1 t2 : Tok} {n2 : Nat} {vs : List Value} {ns : List Int} {k l : Int} {tk tl : Tok}
    (hp : (p, instObj 79 d) ∈ R) (hdd : (d, progDict h1 h2 t1 t2 a b 2) ∈ R) (ha : (a, listOf vs.toArray n2) ∈ R) (hI : IntsAre vs ns)
    (hS : ns.Pairwise (· < ·)) (hlen : ns.length ≤ 100) (hb : k > l ∨ ns.contains l = false) :
    SpecR 40 80 prog w 118 [.ref p, .int k tk, .int l tl] R (Str.ofString "FC") := by
  k_with_none
  w_top off
  have hfill : PySem.Challenge.rw_sa0631_01 = PySem.Challenge.rw_sa0631_01 ∧ @hd.heap_39 = hd.heap_39 := by (k_fill; exact ⟨rfl, rfl⟩)
  clear hfill
  intro mean mg mb dp un gd cn cs a0 ccd outer A₀ base h₀ L m s Q E B F X N0 T hk hdp hun ret
  have N := nadd (nadd (nadd N0 ha) (.tail _ hdd)) (.tail _ (.tail _ hp))
  clear N0
  by_cases hkl : l < k
  · (refine wpAny_call ?_); (k_dflt ktr_enter); k_with_none
    k_with "exec Raise some none" => (k_here; refine Raise_kind rfl ?_)
    k_with "call ref" => (k_here; (with_reducible show wpAny _ _ (call (Value.ref 31) [_]) _ _ _); with_unfolding_all refine' exc_make ?B ?F ?X ?N ?T ?hk ?hd ?hu ?_; (case B => k_asm); (case F => k_asm); (case X => k_asm); (case N => k_asm); (case T => k_asm); (case hk => first | exact rfl | assumption); (case hd => ktr_room); (case hu => ktr_units); intro e9 x9 dx9 hh9 tt9 h9 tk9 F9 N9 ne9; (try dsimp only); (try k_sweep); (try k_fold))
    k_steps
    rename (hd.heap_39 w.params).In _ => X'
    refine ⟨31, 28, e9, x9, dx9, _, X'.keeps F9.keep, by kernel_rfl, rfl, (N9 _ (.head _)).1, ?_⟩
    refine leave_kind (by assumption) F9 N9 ne9 (fun h' R' D' U' => ?_) rfl
    exact ret e9 dx9 hh9 tt9 _ _ _ h' _ (by assumption) R' D' U' (.head _) (fun q hq => .tail _ (.tail _ (.tail _ (.tail _ hq))))
  · replace hb : ns.contains l = false := hb.elim (fun h => absurd h hkl) id
    (refine wpAny_call ?_); (k_dflt ktr_enter); k_with_none
    k_with "call ref" => (k_here; (with_reducible show wpAny _ _ (call (Value.ref 97) [_, _]) _ _ _); with_unfolding_all refine' Spec.use ?B ?F ?X ?N ?T ?hk (has_spec' (h1 := h1) (h2 := h2) (t1 := t1) (t2 := t2) (d := d) (a := a) (b := b) (n1 := 2) (n2 := n2) (vs := vs) (ns := ns) ?p1 ?p2 ?p3 ?p4 ?p5 ?p6 hb) ?hd ?hu ?_; (case B => k_asm); (case F => k_asm); (case X => k_asm); (case N => k_asm); (case T => k_asm); (case hk => first | exact rfl | assumption); (case hd => ktr_room); (case hu => ktr_units); (case p1 => k_mem); (case p2 => k_mem); (case p3 => k_mem); (case p4 => assumption); (case p5 => assumption); (case p6 => assumption); rintro _ _ h9 tk9 ⟨rfl, rfl⟩ F9 N9; (try dsimp only); (try k_sweep); (try k_fold))
    k_with "exec Raise some none" => (k_here; refine Raise_kind rfl ?_)
    k_with "call ref" => (k_here; (with_reducible show wpAny _ _ (call (Value.ref 31) [_]) _ _ _); with_unfolding_all refine' exc_make ?B ?F ?X ?N ?T ?hk ?hd ?hu ?_; (case B => k_asm); (case F => k_asm); (case X => k_asm); (case N => k_asm); (case T => k_asm); (case hk => first | exact rfl | assumption); (case hd => ktr_room); (case hu => ktr_units); intro e9 x9 dx9 hh9 tt9 h9 tk9 F9 N9 ne9; (try dsimp only); (try k_sweep); (try k_fold))
    k_steps
    rename (hd.heap_39 w.params).In _ => X'
    refine ⟨31, 28, e9, x9, dx9, _, X'.keeps F9.keep, by kernel_rfl, rfl, (N9 _ (.head _)).1, ?_⟩
    refine leave_kind (by assumption) F9 N9 ne9 (fun h' R' D' U' => ?_) rfl
    exact ret e9 dx9 hh9 tt9 _ _ _ h' _ (by assumption) R' D' U' (.head _) (fun q hq => .tail _ (.tail _ (.tail _ (.tail _ hq))))

theorem SpecR.use {D U : Nat} {prog : Program} {w : World} {f : Addr} {args : List Value} {news : Ledger} {kd : Str}
    {mean : ExcName → Option Value} {mg mb : Str → Option Value} {dp un : Nat} {gd : Option (List Code)} {cn : Str} {cs : Scope} {a0 : Addr} {ccd : Value} {outer : List Env} {A₀ : Around} {base h₀ : Heap} {L : Addr} {m : Str → Option Value} {s : Shared} {Q E : Value → Shared → Prop}
    (B : Below A₀ base outer h₀) (F : Fr h₀ L s.heap m) (X : (hd.heap_39 w.params).In h₀) (N : News h₀ L s.heap news) (T : Top hd.view_39 (looseW hd.view_39 []) mean mg mb h₀) (hk : cs.kind = .function)
    (C : SpecR D U prog w f args news kd) (hd : dp + D < recursionLimit) (hu : un + U < cLine)
    (ret : ∀ e dx hh tt tk G news' h' tk', Fr h₀ L G m → RaisedSN base G (envOf cn cs L a0 ccd :: outer) e (.ref 31) news' h' → DictAt h' e dx → G.UpToSlots h' → (dx, kindDict hh tt kd tk) ∈ news' → (∀ q ∈ news, q ∈ news') → E (.ref e) { s with heap := h', toks := tk' }) :
    wpAny (model prog w) (ktrTop dp un gd cn cs L a0 ccd [] outer) (call (.ref f) args) Q E s :=
  C mean mg mb dp un gd cn cs a0 ccd outer A₀ base h₀ L m s Q E B F X N T hk hd hu ret

/-- the same on the plain list of pairs -/
theorem put_miss {prog : Program} {w : World} {M J R : Ledger} {p r : Addr} {pl : List (Int × Int)} {k : Int} {tk : Tok} {n4 : Nat}
    (hP : ProgSt M J p pl) (hS : Sorted pl) (hlen : pl.length ≤ 100) (hk0 : 0 ≤ k) (hk1 : k ≤ 1000) (hJ : ∀ q ∈ J, q ∈ R) (hM : ∀ q ∈ M, q ∈ R) (hr0 : (r, listOf #[] n4) ∈ R) (hb : (keys pl).contains k = false) :
    SpecR 40 80 prog w 104 [.ref p, .int k tk, .ref r] R (Str.ofString "UL") := by
  obtain ⟨d, a, b, h1, h2, t1, t2, n2, n3, vs, rs, rfl, hda, hdb, hab, hp, hI, hr⟩ := hP
  exact put_raise (hJ _ hp) (hM _ (.head _)) (hM _ (.tail _ (.head _))) hr0 hI hS (by simpa using hlen) hk0 hk1 hb
theorem delR_miss {prog : Program} {w : World} {M J R : Ledger} {p : Addr} {pl : List (Int × Int)} {k l : Int} {tk tl : Tok}
    (hP : ProgSt M J p pl) (hS : Sorted pl) (hlen : pl.length ≤ 100) (hJ : ∀ q ∈ J, q ∈ R) (hM : ∀ q ∈ M, q ∈ R) (hb : k > l ∨ (keys pl).contains l = false) :
    SpecR 40 80 prog w 118 [.ref p, .int k tk, .int l tl] R (Str.ofString "FC") := by
  obtain ⟨d, a, b, h1, h2, t1, t2, n2, n3, vs, rs, rfl, hda, hdb, hab, hp, hI, hr⟩ := hP
  exact delR_raise (hJ _ hp) (hM _ (.head _)) (hM _ (.tail _ (.head _))) hI hS (by simpa using hlen) hb
end
section
/-! dicts of ints as lists of pairs -/
def dD (dl : List (Int × Int)) : List (PyData × PyData) := dl.map fun p => (.int p.1, .int p.2)
def dupd (a b : List (Int × Int)) : List (Int × Int) := b.foldl (fun d p => dset d p.1 p.2) a
def ddel (dl : List (Int × Int)) (k : Int) : List (Int × Int) := dl.filter fun p => p.1 ≠ k
def dhas (dl : List (Int × Int)) (k : Int) : Bool := dl.any fun p => p.1 = k

theorem flat_of_vals {kvs : List (Int × Value)} {dl : List (Int × Int)} (h : ValsAre kvs dl) : PyProof.V.FlatPairs PyData.int kvs (dD dl) := by
  induction h with
  | nil => exact .nil
  | @cons a b l m e _ ih =>
    obtain ⟨k, v⟩ := a
    obtain ⟨e1, t, e2⟩ := e
    dsimp only at e1 e2
    subst e1 e2
    exact .cons (PyProof.V.Flat.int _ _) ih
theorem vals_of_flat {dl : List (Int × Int)} : ∀ {kvs : List (Int × Value)}, PyProof.V.FlatPairs PyData.int kvs (dD dl) → ValsAre kvs dl := by
  induction dl with
  | nil => intro kvs h; cases h; exact .nil
  | cons p r ih =>
    intro kvs h
    have h' : PyProof.V.FlatPairs PyData.int kvs ((PyData.int p.1, PyData.int p.2) :: dD r) := h
    generalize hD : (PyData.int p.1, PyData.int p.2) :: dD r = D at h'
    cases h' with
    | nil => cases hD
    | @cons k v d kvs' D' hf ht =>
      injection hD with h1 h2
      injection h1 with h3 h4
      injection h3 with h3
      subst h2 h3 h4
      obtain ⟨t, rfl⟩ := hf.int_inv
      exact .cons ⟨rfl, t, rfl⟩ (ih ht)
theorem put_dD {dl : List (Int × Int)} {k v : Int} : PyProof.V.putD (.int k) (.int v) (dD dl) = dD (dset dl k v) := by
  unfold PyProof.V.putD dset dD
  have e : ((dl.map fun p => (PyData.int p.1, PyData.int p.2)).any fun p => PySem.Spec.same p.1 (.int k)) = dl.any fun p => p.1 = k := by
    rw [List.any_map]; rfl
  rw [e]
  split
  · rw [List.map_map, List.map_map]
    congr 1
    funext p
    show (if PySem.Spec.same (.int p.1) (.int k) = true then _ else _) = _
    rw [PyProof.V.same_int]
    by_cases h : p.1 = k
    · simp [h]
    · simp [h]
  · simp
theorem del_dD {dl : List (Int × Int)} {k : Int} : PyProof.V.delD (.int k) (dD dl) = dD (ddel dl k) := by
  unfold PyProof.V.delD ddel dD
  rw [List.filter_map]
  congr 1
  refine List.filter_congr fun p _ => ?_
  show (!PySem.Spec.same (.int p.1) (.int k)) = _
  rw [PyProof.V.same_int]
  simp
theorem merge_dD {b : List (Int × Int)} : ∀ {a : List (Int × Int)}, PyProof.Rows.ktMergeD (dD a) (dD b) = dD (dupd a b) := by
  induction b with
  | nil => intro a; rfl
  | cons p r ih =>
    intro a
    show PyProof.Rows.ktMergeD (PyProof.V.putD (.int p.1) (.int p.2) (dD a)) (dD r) = dD (dupd (dset a p.1 p.2) r)
    rw [put_dD, ih]
theorem lookup_dD {dl : List (Int × Int)} {k : Int} : (PySem.Spec.lookup (.int k) (dD dl)).isSome = dhas dl k := by
  induction dl with
  | nil => rfl
  | cons p r ih =>
    show (if PySem.Spec.same (.int p.1) (.int k) = true then some (PyData.int p.2) else PySem.Spec.lookup (.int k) (dD r)).isSome = (decide (p.1 = k) || dhas r k)
    rw [PyProof.V.same_int]
    by_cases h : p.1 = k
    · simp [h]
    · simp [h, ih]
theorem dhas_iff {dl : List (Int × Int)} {k : Int} : dhas dl k = true ↔ k ∈ dl.map (·.1) := by
  unfold dhas
  simp only [List.any_eq_true, decide_eq_true_eq, List.mem_map]
theorem ddel_none {dl : List (Int × Int)} {k : Int} (h : dhas dl k = false) : ddel dl k = dl := by
  refine List.filter_eq_self.mpr fun p hp => ?_
  unfold dhas at h
  rw [List.any_eq_false] at h
  have := h p hp
  simpa using this
theorem DictSt.flat {prog : Program} {w : World} {o : Obj} {dl : List (Int × Int)} (h : DictSt prog w o dl) : ∃ kvs, o.IsDictOf (intKind prog w) kvs ∧ PyProof.V.FlatPairs PyData.int kvs (dD dl) := h.imp fun _ h => ⟨h.1, flat_of_vals h.2⟩
theorem DictSt.tab {prog : Program} {w : World} {d : Addr} {o : Obj} {dl : List (Int × Int)} {h : Heap} (hd : DictSt prog w o dl) (ho : h.get? d = some o) (lo : (d == sysModules) = false) : PyProof.Rows.TabAt (intKind prog w) PyData.int h d (dD dl) := by
  obtain ⟨kvs, h1, h2⟩ := hd.flat
  exact ⟨lo, kvs, Heap.dictOf_iff.mpr ⟨o, ho, h1⟩, h2⟩
theorem dD_length {dl : List (Int × Int)} : (dD dl).length = dl.length := by unfold dD; rw [List.length_map]

section
variable {prog : Program} {w : World} {A : Around} {E : Value → Shared → Prop} {s : Shared} {h₀ : Heap} {L d : Addr} {m : Str → Option Value} {news : Ledger} {g : Obj → Ledger} {o o2 : Obj} {dl dl2 : List (Int × Int)}
theorem gd_update {d2 : Addr} {Q : Value → Shared → Prop} (F : Fr h₀ L s.heap m) (N : News h₀ L s.heap news) (U : UpdF d o news g) (hd : DictSt prog w o dl) (h2 : (d2, o2) ∈ news) (lo : (d2 == sysModules) = false) (hd2 : DictSt prog w o2 dl2) (hne : @Ne Nat d d2)
    (hsz : dl.length + dl2.length ≤ 1000) (h : ∀ h' o', Fr h₀ L h' m → News h₀ L h' (g o') → DictSt prog w o' (dupd dl dl2) → Q .none { s with heap := h' }) :
    wpAny (model prog w) A (call (.builtin "dict.update") [.ref d, .ref d2]) Q E s := by
  obtain ⟨kvs, h3, h4⟩ := hd.flat
  refine kt_update_K PyProof.V.same_int F N U h3 h4 (hd2.tab (N _ h2).1 lo) hne (fun h' o' kvs' F' N' x y => h h' o' F' N' ⟨kvs', x, ?_⟩) (by rw [dD_length, dD_length, sizeLine_eq]; omega)
  rw [merge_dD] at y
  exact vals_of_flat y
theorem updF_self {l : Ledger} {g : Obj → Ledger} (U : UpdF d o l g) : g o = l := by
  obtain ⟨pre, post, rfl, hg, _, _⟩ := U.split
  exact hg o
theorem gd_pop {k : Int} {t : Tok} {Q : Value → Shared → Prop} (F : Fr h₀ L s.heap m) (N : News h₀ L s.heap news) (U : UpdF d o news g) (hd : DictSt prog w o dl) (lo : (d == sysModules) = false) (hsz : dl.length ≤ 1000)
    (h : ∀ h' o' v, Fr h₀ L h' m → News h₀ L h' (g o') → DictSt prog w o' (ddel dl k) → Q v { s with heap := h', toks := s.toks + 1 }) :
    wpAny (model prog w) A (call (.builtin "dict.pop") [.ref d, .int k t, .none]) Q E s := by
  obtain ⟨kvs, h3, h4⟩ := hd.flat
  have hmem : (d, o) ∈ news := by
    obtain ⟨pre, post, rfl, _, _, _⟩ := U.split
    exact List.mem_append_right _ (.head _)
  cases hl : PySem.Spec.lookup (.int k) (dD dl) with
  | none =>
    refine kt_pop_default PyProof.V.same_int (intKind_is _ _ _ _) (by rfl) (hd.tab (N _ hmem).1 lo) (PySem.F.args_dict_pop_3 _ _ _) hl ?_
    have e : dhas dl k = false := by rw [← lookup_dD, hl]; rfl
    exact h _ o _ F (by rw [updF_self U]; exact N) (by rw [ddel_none e]; exact hd)
  | some dv =>
    refine kt_pop_K (more := [_]) PyProof.V.same_int (intKind_is _ _ _ _) (.inr ⟨_, rfl⟩) (by rfl) (PySem.F.args_dict_pop_3 _ _ _) F N U h3 h4 hl (fun h' o' v _ F' N' x y => h h' o' v F' N' ⟨_, x, ?_⟩) (by rw [dD_length, sizeLine_eq]; omega)
    rw [del_dD] at y
    exact vals_of_flat y
theorem gd_in {k : Int} {t : Tok} {Q : Value → Shared → Prop} (N : News h₀ L s.heap news) (hm : (d, o) ∈ news) (lo : (d == sysModules) = false) (hd : DictSt prog w o dl)
    (h : Q (.bool (dhas dl k)) { s with toks := s.toks + 1 }) : wpAny (model prog w) A (compareOp .In (.int k t) (.ref d)) Q E s := by
  refine PyProof.Rows.in_tab PyProof.V.same_int (intKind_is _ _ _ _) (hd.tab (N _ hm).1 lo) ?_
  rw [lookup_dD]
  exact h
theorem gd_method {name : Str} {i : String} {pl : Sem Bool} {Q : Value × List Value → Shared → Prop} (N : News h₀ L s.heap news) (hm : (d, o) ∈ news) (hd : DictSt prog w o dl) (S : Slot "dict" name i) (T : typeOf (.builtin i) = pure (.type "method_descriptor")) (h : Q (.builtin i, [.ref d]) s) :
    wpAny (model prog w) A (getMethod (.ref d) name pl) Q E s := by
  obtain ⟨kvs, h1, _⟩ := hd
  have hD := kda_dict N hm h1
  exact getMethod_builtin hD.typeIs PySem.F.plainAttrs_dict S T hD.mapOf.noDict h
theorem gd_copy {Q : Value → Shared → Prop} (F : Fr h₀ L s.heap m) (N : News h₀ L s.heap news) (hbig : sysModules < h₀.objs.size) (hm : (d, o) ∈ news) (lo : (d == sysModules) = false) (hd : DictSt prog w o dl) (hsz : dl.length ≤ 1000)
    (h : ∀ D h' o', Fr h₀ L h' m → News h₀ L h' ((D, o') :: news) → (D == sysModules) = false → DictSt prog w o' dl → (∀ p ∈ news, @LT.lt Nat _ p.1 D) → Q (.ref D) { s with heap := h' }) :
    wpAny (model prog w) A (call (.type "dict") [.ref d]) Q E s :=
  kt_dict_of F N hbig (hd.tab (N _ hm).1 lo) (by rw [dD_length, sizeLine_eq]; omega) fun h' o' kvs F' N' lo' x y _ => h _ h' o' F' N' lo' ⟨kvs, x, vals_of_flat y⟩ fun p hp => Heap.lt_size (N p hp).1
end
end
section
section
variable {prog : Program} {w : World} {A₀ A : Around} {s : Shared} {base h₀ : Heap} {L : Addr} {m : Str → Option Value} {news : List (Addr × Obj)} {K : Frag} {p : Program} {loose : List Str} {mean : ExcName → Option Value} {mg mb : Str → Option Value}
    {R : Result → Shared → Prop} {name qual : Str} {params : Arguments} {body : List Stmt} {scope : Scope} {dV kV doc pm cdv ct oc : Value} {an od : Option Addr} {osl : Array (Option Value)} {f : Addr} {args : Args} {binds : List (Str × Value)} {env : Env}

/-- a def that catches, called from the outermost frame -/
theorem code_def0 (B : Below A₀ base [] h₀) (F : Fr h₀ L s.heap m) (X₀ : K.In h₀) (N : News h₀ L s.heap news) (T : Top p loose mean mg mb h₀) (hA : A.frames = some [env]) (hf : env.frame = some L) (hke : env.scope.kind = .function)
    (ho : K.lookup f = some ⟨oc, od, .func (fnOf name qual params body scope dV kV doc pm an cdv ct), osl⟩) (hcd : codeIn K cdv qual = true) (hroom : A.depth < recursionLimit)
    (hbind : BindsTo s (fnOf name qual params body scope dV kV doc pm an cdv ct) args binds) (hloc : ∀ y ∈ binds, scope.names.lookup y.1 = some .local)
    (h : ∀ g L' h₁, Fr h₀ L g m → Fr g L' h₁ (fun y => binds.reverse.lookup y) → News g L' h₁ news → Below A base [env] g → K.In g → Top p loose mean mg mb g → KtsDicts ([env].filterMap (·.frame)) g →
      wpAny (model prog w) (A.deeper (envOf qual scope L' f cdv)) (execs body (envOf qual scope L' f cdv))
        (fun fl s' => LeaveS0 ([env].filterMap (·.frame)) h₀ L m g R (match fl with | .ret v => v | _ => .none) s')
        (fun e s' => wpAny (model prog w) (A.deeper (envOf qual scope L' f cdv)) (leaving (envOf qual scope L' f cdv) e) (fun _ s'' => R (.error e) s'') (fun e' s'' => R (.error e') s'') s')
        { s with heap := h₁, toks := s.toks + binds.length })
    (hco : scope.isCoroutine = false) (hgen : scope.isGenerator = false) (hk : scope.kind = .function)
    (hcell : ∀ x ∈ scope.names, x.2 ≠ .cell) : codeAny (model prog w) A (.call (.ref f) args) R s := by
  have X := X₀.keeps F.keep
  refine codeAny_call_def (fd := fnOf name qual params body scope dV kV doc pm an cdv ct) (body := body) (binds := binds) hroom (X _ _ ho) rfl (T.nolimit.keeps F.keep) (codeRec_of X hcd) rfl hbind hcell hloc (fun h₁ hns hk₁ => ?_) hco hgen hk
  have nm : ∀ b o, h₀.get? b = some o → b ∉ news.map (·.1) := fun b o e q => by
    obtain ⟨p, hp, rfl⟩ := List.mem_map.mp q
    rw [(N p hp).2.2] at e; cases e
  have st : h₀.StaysIn (hideAll s.heap (news.map (·.1))) := fun b o e => hideAll_get _ (F.keep b o e) (nm b o e)
  obtain ⟨oL, es, ep, hL, hLd, hLk, hLf⟩ := F.ns
  have nL : L ∉ news.map (·.1) := fun q => by
    obtain ⟨p, hp, e⟩ := List.mem_map.mp q
    exact (N p hp).2.1 e
  have hLg := hideAll_get (news.map (·.1)) hL nL
  have nL₀ : h₀.get? L = none := kts_self F
  have hNs : ∀ (sl : Array (Option Value)) h', h'.get? L = some { oL with slots := sl } → Heap.Ns h' L m := fun sl h' e => ⟨_, es, ep, e, hLd, hLk, hLf⟩
  have hfm : [env].filterMap (·.frame) = [L] := by simp [hf]
  have B₂ : Below A base [env] (hideAll s.heap (news.map (·.1))) := ⟨hA, fun b o e => st b o (B.stays b o e), by rw [hke]; decide,
    ⟨L, oL, hf, fresh_of_stays B.stays nL₀, hLg, fun vs q => by rw [hLd] at q; cases q⟩, trivial⟩
  refine wpAny_mono (h _ s.heap.objs.size h₁ ⟨hNs oL.slots _ hLg, st, F.above⟩ ⟨hns, fun b o e => hk₁ b o (of_hideAll _ e), Nat.le_of_eq (hideAll_size _ _)⟩
    (fun p hp => ⟨hk₁ _ _ (N p hp).1, Nat.ne_of_lt (Heap.lt_size (N p hp).1), hideAll_none _ (List.mem_map_of_mem hp)⟩) B₂ (X₀.keeps st) (T.keeps st) (fun b hb => by
      rw [hfm] at hb
      rw [List.mem_singleton.mp hb]
      exact ⟨oL, es, ep, hLg, hLd⟩)) (fun fl s' hl => ?_) fun _ _ y => y
  obtain ⟨g', L', m', news', T', F', N', k⟩ := hl
  obtain ⟨sl, hs⟩ := T'.up hLg
  refine k ⟨hNs sl _ (F'.keep _ _ hs), fun b o e => F'.keep b o (T'.other b o (st b o e) (fun q => by
    rw [hfm, List.mem_singleton] at q
    rw [q, nL₀] at e
    cases e)), F.above⟩ fun p hp => ⟨(N' p hp).1, fun q => ?_, ?_⟩
  · have := (N' p hp).2.2; rw [q, hs] at this; cases this
  · cases q : h₀.get? p.1 with
    | none => rfl
    | some o =>
      obtain ⟨sl', hs'⟩ := T'.up (st _ _ q)
      have := (N' p hp).2.2
      rw [hs'] at this
      cases this
end

/-- what a call from the outermost frame does, of a def that may catch -/
def Spec0 (D U : Nat) (prog : Program) (w : World) (f : Addr) (args : List Value) (news : Ledger) (post : Value → Ledger → Prop) : Prop :=
  ∀ (mean : ExcName → Option Value) (mg mb : Str → Option Value) (dp un : Nat) (gd : Option (List Code)) (cn : Str) (cs : Scope) (a0 : Addr) (ccd : Value) (cl : List (Str × Addr)) (A₀ : Around) (base h₀ : Heap) (L : Addr) (m : Str → Option Value) (s : Shared) (Q E : Value → Shared → Prop),
    Below A₀ base [] h₀ → Fr h₀ L s.heap m → (hd.heap_39 w.params).In h₀ → News h₀ L s.heap news → Top hd.view_39 (looseW hd.view_39 []) mean mg mb h₀ → (hd.heap_39 w.params).In base → Top hd.view_39 (looseW hd.view_39 []) mean mg mb base → cs.kind = .function → dp + D < recursionLimit → un + U < cLine →
    (∀ v news' h' tk', post v news' → Fr h₀ L h' m → News h₀ L h' news' → Q v { s with heap := h', toks := tk' }) →
    wpAny (model prog w) (ktrTop dp un gd cn cs L a0 ccd cl []) (call (.ref f) args) Q E s
theorem Spec0.use {D U : Nat} {prog : Program} {w : World} {f : Addr} {args : List Value} {news : Ledger} {post : Value → Ledger → Prop}
    {mean : ExcName → Option Value} {mg mb : Str → Option Value} {dp un : Nat} {gd : Option (List Code)} {cn : Str} {cs : Scope} {a0 : Addr} {ccd : Value} {cl : List (Str × Addr)} {A₀ : Around} {base h₀ : Heap} {L : Addr} {m : Str → Option Value} {s : Shared} {Q E : Value → Shared → Prop}
    (B : Below A₀ base [] h₀) (F : Fr h₀ L s.heap m) (X : (hd.heap_39 w.params).In h₀) (N : News h₀ L s.heap news) (T : Top hd.view_39 (looseW hd.view_39 []) mean mg mb h₀) (XB : (hd.heap_39 w.params).In base) (TB : Top hd.view_39 (looseW hd.view_39 []) mean mg mb base) (hk : cs.kind = .function)
    (C : Spec0 D U prog w f args news post) (hd : dp + D < recursionLimit) (hu : un + U < cLine)
    (ret : ∀ v news' h' tk', post v news' → Fr h₀ L h' m → News h₀ L h' news' → Q v { s with heap := h', toks := tk' }) :
    wpAny (model prog w) (ktrTop dp un gd cn cs L a0 ccd cl []) (call (.ref f) args) Q E s :=
  C mean mg mb dp un gd cn cs a0 ccd cl A₀ base h₀ L m s Q E B F X N T XB TB hk hd hu ret
end
section
/-- the program's pairs and the dict's pairs are the same -/
def Agree (pl dl : List (Int × Int)) : Prop := ∀ q, q ∈ pl ↔ q ∈ dl
theorem Agree.has {pl dl : List (Int × Int)} (h : Agree pl dl) (k : Int) : (keys pl).contains k = dhas dl k := by
  rw [Bool.eq_iff_iff, dhas_iff, List.contains_iff_mem]
  simp only [keys, List.mem_map]
  exact ⟨fun ⟨a, ha, e⟩ => ⟨a, (h a).mp ha, e⟩, fun ⟨a, ha, e⟩ => ⟨a, (h a).mpr ha, e⟩⟩


/-! the plain law: pairs by keys -/
theorem put_mem_iff {pl : List (Int × Int)} {k x : Int} {q : Int × Int} (hs : Sorted pl) : q ∈ put pl k x ↔ q = (k, x) ∨ (q ∈ pl ∧ q.1 ≠ k) := by
  induction pl with
  | nil => simp [put]
  | cons p r ih =>
    obtain ⟨a, y⟩ := p
    have hs' : (a :: keys r).Pairwise (· < ·) := hs
    obtain ⟨h1, h2⟩ := List.pairwise_cons.mp hs'
    have ih := ih h2
    have hr : ∀ q ∈ r, a < q.1 := fun q hq => h1 q.1 (List.mem_map.mpr ⟨q, hq, rfl⟩)
    unfold put
    split
    · rename_i e
      rw [List.mem_cons, ih, List.mem_cons]
      constructor
      · rintro (rfl | rfl | ⟨h, h'⟩)
        · exact .inr ⟨.inl rfl, by show a ≠ k; omega⟩
        · exact .inl rfl
        · exact .inr ⟨.inr h, h'⟩
      · rintro (rfl | ⟨rfl | h, h'⟩)
        · exact .inr (.inl rfl)
        · exact .inl rfl
        · exact .inr (.inr ⟨h, h'⟩)
    · split
      · rename_i e1 e2
        subst e2
        rw [List.mem_cons, List.mem_cons]
        constructor
        · rintro (rfl | h)
          · exact .inl rfl
          · have := hr q h; exact .inr ⟨.inr h, by omega⟩
        · rintro (rfl | ⟨rfl | h, h'⟩)
          · exact .inl rfl
          · exact absurd rfl h'
          · exact .inr h
      · rename_i e1 e2
        rw [List.mem_cons]
        constructor
        · rintro (rfl | h)
          · exact .inl rfl
          · refine .inr ⟨h, ?_⟩
            rcases List.mem_cons.mp h with rfl | h
            · exact e2
            · have := hr q h; omega
        · rintro (rfl | ⟨h, _⟩)
          · exact .inl rfl
          · exact .inr h
theorem dset_mem_iff {dl : List (Int × Int)} {k x : Int} {q : Int × Int} : q ∈ dset dl k x ↔ q = (k, x) ∨ (q ∈ dl ∧ q.1 ≠ k) := by
  unfold dset
  split
  · rename_i hany
    obtain ⟨p0, hp0, e0⟩ := List.any_eq_true.mp hany
    have e0 : p0.1 = k := by simpa using e0
    rw [List.mem_map]
    constructor
    · rintro ⟨p, hp, rfl⟩
      split
      · rename_i e; exact .inl (by rw [e])
      · rename_i e; exact .inr ⟨hp, e⟩
    · rintro (rfl | ⟨h, h'⟩)
      · exact ⟨p0, hp0, by rw [if_pos e0, e0]⟩
      · exact ⟨q, h, by rw [if_neg h']⟩
  · rename_i hany
    have hno : ∀ p ∈ dl, p.1 ≠ k := fun p hp e => hany (List.any_eq_true.mpr ⟨p, hp, by simpa using e⟩)
    rw [List.mem_append, List.mem_singleton]
    constructor
    · rintro (h | h)
      · exact .inr ⟨h, hno q h⟩
      · exact .inl h
    · rintro (h | ⟨h, _⟩)
      · exact .inr h
      · exact .inl h
theorem del_mem_iff {pl : List (Int × Int)} {k : Int} {q : Int × Int} : q ∈ del pl k ↔ q ∈ pl ∧ q.1 ≠ k := by
  unfold del; rw [List.mem_filter]; simp
theorem ddel_mem_iff {pl : List (Int × Int)} {k : Int} {q : Int × Int} : q ∈ ddel pl k ↔ q ∈ pl ∧ q.1 ≠ k := by
  unfold ddel; rw [List.mem_filter]; simp
theorem delR_mem_iff {pl : List (Int × Int)} {k l : Int} {q : Int × Int} : q ∈ delR pl k l ↔ q ∈ pl ∧ ¬(k ≤ q.1 ∧ q.1 ≤ l) := by
  unfold delR; rw [List.mem_filter]
  simp only [Bool.not_eq_true', Bool.and_eq_false_iff, decide_eq_false_iff_not]
  constructor
  · rintro ⟨h, h'⟩; exact ⟨h, fun ⟨a, b⟩ => h'.elim (fun z => z a) fun z => z b⟩
  · rintro ⟨h, h'⟩; exact ⟨h, by by_cases z : k ≤ q.1; exact .inr fun y => h' ⟨z, y⟩; exact .inl z⟩
theorem filter_sorted {pl : List (Int × Int)} {f : Int × Int → Bool} (h : Sorted pl) : Sorted (pl.filter f) := by
  unfold Sorted keys at *
  exact h.sublist (List.Sublist.map _ (List.filter_sublist))
theorem filter_good {pl : List (Int × Int)} {f : Int × Int → Bool} (h : GoodKeys pl) : GoodKeys (pl.filter f) := fun q hq => h q (List.mem_filter.mp hq).1

theorem mergeL_cons {pl r : List (Int × Int)} {a : Int × Int} : mergeL pl (a :: r) = mergeL (put pl a.1 a.2) r := rfl
theorem mergeL_sorted {ql : List (Int × Int)} : ∀ {pl : List (Int × Int)}, Sorted pl → Sorted (mergeL pl ql) := by
  induction ql with
  | nil => exact fun h => h
  | cons a r ih => exact fun h => ih (put_sorted h)
theorem mergeL_good {ql : List (Int × Int)} : ∀ {pl : List (Int × Int)}, GoodKeys pl → GoodKeys ql → GoodKeys (mergeL pl ql) := by
  induction ql with
  | nil => exact fun h _ => h
  | cons a r ih => exact fun h h' => ih (put_good h (h' a (.head _))) (fun q hq => h' q (.tail _ hq))
theorem mergeL_mem {ql : List (Int × Int)} : ∀ {pl : List (Int × Int)}, Sorted pl → (keys ql).Nodup → ∀ q, q ∈ mergeL pl ql ↔ q ∈ ql ∨ (q ∈ pl ∧ q.1 ∉ keys ql) := by
  induction ql with
  | nil => intro pl _ _ q; simp [mergeL]
  | cons a r ih =>
    intro pl hs hn q
    have hn' : (a.1 :: keys r).Nodup := hn
    obtain ⟨n1, n2⟩ := List.nodup_cons.mp hn'
    rw [mergeL_cons, ih (put_sorted hs) n2, put_mem_iff hs]
    have ek : keys (a :: r) = a.1 :: keys r := rfl
    rw [ek, List.mem_cons, List.mem_cons]
    constructor
    · rintro (h | ⟨rfl | ⟨h, h'⟩, h2⟩)
      · exact .inl (.inr h)
      · exact .inl (.inl rfl)
      · exact .inr ⟨h, fun z => z.elim h' h2⟩
    · rintro ((rfl | h) | ⟨h, h'⟩)
      · exact .inr ⟨.inl rfl, n1⟩
      · exact .inl h
      · exact .inr ⟨.inr ⟨h, fun z => h' (.inl z)⟩, fun z => h' (.inr z)⟩
theorem dupd_mem {b : List (Int × Int)} : ∀ {a : List (Int × Int)}, (keys b).Nodup → ∀ q, q ∈ dupd a b ↔ q ∈ b ∨ (q ∈ a ∧ q.1 ∉ keys b) := by
  induction b with
  | nil => intro a _ q; simp [dupd]
  | cons p r ih =>
    intro a hn q
    have hn' : (p.1 :: keys r).Nodup := hn
    obtain ⟨n1, n2⟩ := List.nodup_cons.mp hn'
    show q ∈ dupd (dset a p.1 p.2) r ↔ _
    rw [ih n2, dset_mem_iff]
    have ek : keys (p :: r) = p.1 :: keys r := rfl
    rw [ek, List.mem_cons, List.mem_cons]
    constructor
    · rintro (h | ⟨rfl | ⟨h, h'⟩, h2⟩)
      · exact .inl (.inr h)
      · exact .inl (.inl rfl)
      · exact .inr ⟨h, fun z => z.elim h' h2⟩
    · rintro ((rfl | h) | ⟨h, h'⟩)
      · exact .inr ⟨.inl rfl, n1⟩
      · exact .inl h
      · exact .inr ⟨.inr ⟨h, fun z => h' (.inl z)⟩, fun z => h' (.inr z)⟩
theorem build_eq {dl : List (Int × Int)} : build dl = mergeL [] dl := rfl
theorem sorted_nil : Sorted [] := List.Pairwise.nil
theorem build_sorted {dl : List (Int × Int)} : Sorted (build dl) := mergeL_sorted sorted_nil
theorem build_good {dl : List (Int × Int)} (h : GoodKeys dl) : GoodKeys (build dl) := mergeL_good (fun _ h => nomatch h) h
theorem build_mem {dl : List (Int × Int)} (hn : (keys dl).Nodup) (q : Int × Int) : q ∈ build dl ↔ q ∈ dl := by
  rw [build_eq, mergeL_mem sorted_nil hn]; simp

theorem mem_keys {pl : List (Int × Int)} {k : Int} : k ∈ keys pl ↔ ∃ q ∈ pl, q.1 = k := by simp only [keys, List.mem_map]
theorem Agree.keys {pl dl : List (Int × Int)} (h : Agree pl dl) (k : Int) : k ∈ Mine.keys pl ↔ k ∈ Mine.keys dl := by
  rw [mem_keys, mem_keys]
  exact ⟨fun ⟨q, hq, e⟩ => ⟨q, (h q).mp hq, e⟩, fun ⟨q, hq, e⟩ => ⟨q, (h q).mpr hq, e⟩⟩
theorem build_agree {dl : List (Int × Int)} (hn : (keys dl).Nodup) : Agree (build dl) dl := build_mem hn
theorem put_agree {pl dl : List (Int × Int)} {k x : Int} (hs : Sorted pl) (h : Agree pl dl) : Agree (put pl k x) (dset dl k x) := fun q => by
  rw [put_mem_iff hs, dset_mem_iff, h q]
theorem del_agree {pl dl : List (Int × Int)} {k : Int} (h : Agree pl dl) : Agree (del pl k) (ddel dl k) := fun q => by
  rw [del_mem_iff, ddel_mem_iff, h q]
theorem merge_agree {pl ql dl el : List (Int × Int)} (hs : Sorted pl) (hq : Sorted ql) (hn : (keys el).Nodup) (h : Agree pl dl) (h' : Agree ql el) : Agree (mergeL pl ql) (dupd dl el) := fun q => by
  rw [mergeL_mem hs (sorted_nodup hq), dupd_mem hn, h q, h' q, h'.keys]

/-- two ascending lists with the same pairs are one list -/
theorem sorted_ext {a : List (Int × Int)} : ∀ {b : List (Int × Int)}, Sorted a → Sorted b → Agree a b → a = b := by
  induction a with
  | nil =>
    intro b _ _ h
    cases b with
    | nil => rfl
    | cons q r => exact absurd ((h q).mpr (.head _)) (by simp)
  | cons p r ih =>
    intro b ha hb h
    cases b with
    | nil => exact absurd ((h p).mp (.head _)) (by simp)
    | cons q t =>
      have ha' : (p.1 :: keys r).Pairwise (· < ·) := ha
      have hb' : (q.1 :: keys t).Pairwise (· < ·) := hb
      obtain ⟨a1, a2⟩ := List.pairwise_cons.mp ha'
      obtain ⟨b1, b2⟩ := List.pairwise_cons.mp hb'
      have lr : ∀ z ∈ r, p.1 < z.1 := fun z hz => a1 z.1 (List.mem_map.mpr ⟨z, hz, rfl⟩)
      have lt : ∀ z ∈ t, q.1 < z.1 := fun z hz => b1 z.1 (List.mem_map.mpr ⟨z, hz, rfl⟩)
      have e : p = q := by
        rcases List.mem_cons.mp ((h p).mp (.head _)) with e | h1
        · exact e
        · rcases List.mem_cons.mp ((h q).mpr (.head _)) with e | h2
          · exact e.symm
          · have := lt p h1; have := lr q h2; omega
      subst e
      congr 1
      refine ih a2 b2 fun z => ?_
      constructor
      · intro hz
        rcases List.mem_cons.mp ((h z).mp (.tail _ hz)) with e | h1
        · have := lr z hz; rw [e] at this; omega
        · exact h1
      · intro hz
        rcases List.mem_cons.mp ((h z).mpr (.tail _ hz)) with e | h1
        · have := lt z hz; rw [e] at this; omega
        · exact h1
end
section
/-- a mark: the walker stops here -/
def Stop (P : Prop) : Prop := P
theorem Stop.on {P : Prop} (h : Stop P) : P := h
theorem Stop.off {P : Prop} (h : P) : Stop P := h



theorem gd_set {prog : Program} {w : World} {A : Around} {E : Value → Shared → Prop} {s : Shared} {h₀ : Heap} {L d : Addr} {m : Str → Option Value} {news : Ledger} {g : Obj → Ledger} {o : Obj} {dl : List (Int × Int)} {k v : Int} {t u : Tok} {Q : Unit → Shared → Prop}
    (F : Fr h₀ L s.heap m) (N : News h₀ L s.heap news) (U : UpdF d o news g) (hd : DictSt prog w o dl) (hsz : dl.length ≤ 1000)
    (h : ∀ h' o', Fr h₀ L h' m → News h₀ L h' (g o') → DictSt prog w o' (dset dl k v) → Q () { s with heap := h', toks := s.toks + 1 }) : wpAny (model prog w) A (setItem (.ref d) (.int k t) (.int v u)) Q E s := by
  obtain ⟨kvs, h1, h2⟩ := hd
  exact kda_set (knd := intKind prog w) F N U h1 (intKind_is _ _ _ _) (by rw [h2.length, sizeLine_eq]; omega) fun h' o' F' N' x => h h' o' F' N' ⟨_, x, h2.stored⟩

/-- the state that the law's deeds turn: the feed, the dict, the program -/
def LawSt (prog : Program) (w : World) (J R : Ledger) (f c dd p : Addr) (turn : Int) (news : Ledger) (pl dl : List (Int × Int)) : Prop :=
  ∃ (tt : Tok) (n : Nat) (o : Obj) (M : Ledger), news = (f, listOf #[.ref c, .int turn tt] n) :: (dd, o) :: (M ++ R) ∧ ProgSt M J p pl ∧ DictSt prog w o dl ∧ Agree pl dl ∧ Sorted pl ∧ GoodKeys pl ∧ Apart M R ∧
    (∀ q ∈ M ++ R, q.1 ≠ f) ∧ (∀ q ∈ M ++ R, q.1 ≠ dd) ∧ (∀ q ∈ J, q ∈ R)

theorem same_ne {M M' : Ledger} {a : Addr} (h : ∀ q ∈ M, q.1 ≠ a) (e : M'.map (·.1) = M.map (·.1)) : ∀ q ∈ M', q.1 ≠ a := fun q hq => by
  have : q.1 ∈ M.map (·.1) := e ▸ List.mem_map.mpr ⟨q, hq, rfl⟩
  obtain ⟨q', hq', e'⟩ := List.mem_map.mp this
  exact e' ▸ h q' hq'
theorem above_ne {new R : Ledger} {a : Addr} {o : Obj} (h : Above new R) (hm : (a, o) ∈ R) : ∀ q ∈ new, q.1 ≠ a := fun q hq => Nat.ne_of_gt (h q hq _ hm)

theorem apart_mid {M new R : Ledger} {f dd : Addr} {of od : Obj} (h1 : Apart M new) (hf : ∀ q ∈ M, q.1 ≠ f) (hd : ∀ q ∈ M, q.1 ≠ dd) (h2 : Apart M R) : Apart M (new ++ ((f, of) :: (dd, od) :: R)) :=
  Apart.append_right h1 fun q hq q' hq' => by
    rcases List.mem_cons.mp hq' with rfl | hq'
    · exact hf q hq
    · rcases List.mem_cons.mp hq' with rfl | hq'
      · exact hd q hq
      · exact h2 q hq q' hq'
theorem sub_mid {J new R : Ledger} {f dd : Addr} {of od : Obj} (h : ∀ q ∈ J, q ∈ R) : ∀ q ∈ new ++ J, q ∈ new ++ ((f, of) :: (dd, od) :: R) := fun q hq =>
  (List.mem_append.mp hq).elim (fun h => List.mem_append_left _ h) fun h' => List.mem_append_right _ (.tail _ (.tail _ (h q h')))

theorem ne_mid {M new R : Ledger} {a f : Addr} {of : Obj} (hf : @Ne Nat f a) (hM : ∀ q ∈ M, q.1 ≠ a) (hn : ∀ q ∈ new, q.1 ≠ a) (hR : ∀ q ∈ R, q.1 ≠ a) : ∀ q ∈ (f, of) :: (M ++ (new ++ R)), q.1 ≠ a := fun q hq => by
  rcases List.mem_cons.mp hq with rfl | hq
  · exact hf
  · rcases List.mem_append.mp hq with hq | hq
    · exact hM q hq
    · exact (List.mem_append.mp hq).elim (hn q) (hR q)
theorem ne_two {M new R : Ledger} {a : Addr} (hM : ∀ q ∈ M, q.1 ≠ a) (hn : ∀ q ∈ new, q.1 ≠ a) (hR : ∀ q ∈ R, q.1 ≠ a) : ∀ q ∈ M ++ (new ++ R), q.1 ≠ a := fun q hq => by
  rcases List.mem_append.mp hq with hq | hq
  · exact hM q hq
  · exact (List.mem_append.mp hq).elim (hn q) (hR q)
theorem sub_two {J new R : Ledger} (h : ∀ q ∈ J, q ∈ R) : ∀ q ∈ new ++ J, q ∈ new ++ R := fun q hq =>
  (List.mem_append.mp hq).elim (fun h => List.mem_append_left _ h) fun h' => List.mem_append_right _ (h q h')

theorem Above.left {a b R : Ledger} (h : Above (a ++ b) R) : Above a R := fun q hq => h q (List.mem_append_left _ hq)
theorem Above.right {a b R : Ledger} (h : Above (a ++ b) R) : Above b R := fun q hq => h q (List.mem_append_right _ hq)

theorem oth_list {h₀ h : Heap} {L oth d1 d2 : Addr} {n5 : Nat} {news : Ledger} (N : News h₀ L h news) (hm : (oth, listOf #[.ref d1, .ref d2] n5) ∈ news) : h.IsList oth #[.ref d1, .ref d2] := PySem.IsL.isList (n := n5) (N _ hm).1


theorem gd_in' {prog : Program} {w : World} {A : Around} {E : Value → Shared → Prop} {s : Shared} {h₀ : Heap} {L d : Addr} {news : Ledger} {o : Obj} {dl : List (Int × Int)} {k : Int} {t : Tok} {b : Bool} {Q : Value → Shared → Prop} (N : News h₀ L s.heap news) (hm : (d, o) ∈ news) (lo : (d == sysModules) = false) (hd : DictSt prog w o dl) (hb : dhas dl k = b)
    (h : Q (.bool b) { s with toks := s.toks + 1 }) : wpAny (model prog w) A (compareOp .In (.int k t) (.ref d)) Q E s := gd_in N hm lo hd (by rw [hb]; exact h)

theorem size_ten {a b : Int} (h : a ≤ b) : Builtin.Range.rangeSize (10 * a) (10 * b + 1) 10 = (((b - a).toNat + 1 : Nat) : Int) := by
  unfold Builtin.Range.rangeSize
  rw [if_pos (by omega), if_pos (by omega)]
  omega
theorem small_ten {a b : Int} (h : a ≤ b) (h0 : 0 ≤ a) (h1 : b ≤ 1000) : Builtin.Range.small (10 * a) (10 * b + 1) 10 = true := by
  unfold Builtin.Range.small
  rw [size_ten h]
  simp only [Builtin.Range.rangeFitsLong, Bool.and_eq_true, Bool.or_eq_true, decide_eq_true_eq, beq_iff_eq, show (10 : Int) > 0 by decide, if_true]
  omega
/-- after the loop that takes lines out of the dict -/
theorem pops_agree {pl dl dl' : List (Int × Int)} {a b : Int} (hg : GoodKeys dl) (hag : Agree pl dl) (h0 : 0 ≤ a) (hab : a ≤ b) (h : ∀ q, q ∈ dl' ↔ q ∈ dl ∧ ∀ j : Nat, j < (b - a).toNat + 1 → q.1 ≠ 10 * a + j * 10) :
    Agree (delR pl (10 * a) (10 * b)) dl' := fun q => by
  rw [delR_mem_iff, h, hag q]
  refine and_congr_right fun hq => ?_
  obtain ⟨i, hi, e⟩ := hg q hq
  constructor
  · intro hn j hj e2
    apply hn
    omega
  · rintro hn ⟨h1, h2⟩
    refine hn (i - a).toNat (by omega) ?_
    omega
theorem pop_step {dl dl' : List (Int × Int)} {a : Int} {i : Nat} (h : ∀ q, q ∈ dl' ↔ q ∈ dl ∧ ∀ j : Nat, j < i → q.1 ≠ 10 * a + j * 10) : ∀ q, q ∈ ddel dl' (10 * a + i * 10) ↔ q ∈ dl ∧ ∀ j : Nat, j < i + 1 → q.1 ≠ 10 * a + j * 10 := fun q => by
  rw [ddel_mem_iff, h q]
  constructor
  · rintro ⟨⟨h1, h2⟩, h3⟩
    refine ⟨h1, fun j hj => ?_⟩
    by_cases e : j = i
    · subst e; exact h3
    · exact h2 j (by omega)
  · rintro ⟨h1, h2⟩
    exact ⟨⟨h1, fun j hj => h2 j (by omega)⟩, h2 i (by omega)⟩
theorem sub_good {dl dl' : List (Int × Int)} (hg : GoodKeys dl) (h : ∀ q ∈ dl', q ∈ dl) : GoodKeys dl' := fun q hq => hg q (h q hq)

theorem del_one {pl dl dl' : List (Int × Int)} {a : Int} (hg : GoodKeys dl) (hag : Agree pl dl) (h0 : 0 ≤ a) (h : ∀ q, q ∈ dl' ↔ q ∈ dl ∧ ∀ j : Nat, j < (a - a).toNat + 1 → q.1 ≠ 10 * a + j * 10) :
    Agree (del pl (10 * a)) dl' := fun q => by
  rw [del_mem_iff, h, hag q]
  refine and_congr_right fun hq => ?_
  constructor
  · intro hn j hj e2
    apply hn
    have : j = 0 := by omega
    subst this
    omega
  · intro hn
    have := hn 0 (by omega)
    omega
end
section
open Builtin Builtin.ObjectAttr in
/-- an attribute of an own exception, out of its dict -/
theorem exc_get {prog : Program} {w : World} {A : Around} {E : Value → Shared → Prop} {s : Shared} {K : Frag} {x C f : Addr} {ox : Obj} {es : List DictEntry} {n : Nat} {name : Str} {expr : Bool} {v : Value} {Q : Value → Shared → Prop}
    (X : K.In s.heap) (I : InstAt s.heap x ox C (some (dictOf es n))) (q : excI K C f = true) (hga : findIn K (.ref C) "__getattribute__" = some (some (.builtin "BaseException.__getattribute__"))) (hgb : findIn K (.ref C) "__getattr__" = some none)
    (hh : hasDictIn K C = true) (ha : findIn K (.ref C) name = some none) (hl : getL name es = some (some v)) (hv : handedIn v = true) (h : Q v { s with toks := s.toks + 1 }) :
    wpAny (model prog w) A (getAttr (.ref x) name expr) Q E s := by
  obtain ⟨hp, g, d, t, os⟩ := s
  obtain ⟨Nn, nm, qn, bs, sn, sub, ab, col, dd, k0, k1, k2, k3, k5, mN, hC, hN, hi⟩ := excI_obj X q
  have FX := PySem.F.attr_Exception
  have L0 := I.type (M := model prog w)
  have L1 := looks_findIn (M := model prog w) X hga
  have L2 := looks_findIn (M := model prog w) X hgb
  have L3 := looks_find (M := model prog w) X I (findObj_own hh ha rfl hl)
  have hx2 : (Value.builtin "BaseException.__getattribute__" == Value.builtin "object.__getattribute__") = false := by decide +kernel
  have hx1 : (onTheHeap (Value.ref C) && Value.builtin "BaseException.__getattribute__" == Value.builtin "object.__getattribute__") = false := by rw [hx2]; rfl
  have hx0 : (expr && onTheHeap (Value.builtin "BaseException.__getattribute__")) = false := by cases expr <;> rfl
  unfold getAttr getAttrBy
  refine wpAny_bind (wpAny_mkText (wpAny_holding (wpAny_bind (L0.at (wpAny_bind (L1.at ?_))))))
  dsimp only
  rw [hx1]
  simp only [Bool.false_eq_true, if_false]
  unfold getAttrByItsOwn hookBefore
  refine wpAny_bind (L2.at ?_)
  refine wpAny_bind (wpAny_attempt ?_)
  unfold callGetattribute
  rw [hx0]
  simp only [Bool.false_eq_true, if_false]
  unfold boundAndCalled
  rw [FX.ga.bind]
  refine wpAny_holding (wpAny_bind (wpAny_pure ?_))
  refine wpAny_call ?_
  have hsub : Looks (model prog w) hp (isInstance (.ref x) (.type "BaseException")) true := L0.andThen (by
    intro A Q E s' k q'
    obtain ⟨hh, g, d, t, os⟩ := s'
    exact wpAny_isSubtype_exc (k _ _ hC) q')
  have hk : builtinKind "BaseException.__getattribute__" = some .slot := by decide +kernel
  have hsplit : splitId "BaseException.__getattribute__" = some ("BaseException", "__getattribute__") := by decide +kernel
  refine codeAny_call_builtin FX.ga.plain PySem.F.entry_bexc_ga (@check_slot (model prog w) _ _ { heap := hp, gens := g, drawn := d, toks := t + 1, os := os } "BaseException.__getattribute__" "BaseException" "__getattribute__" (.ref x) [.str name t] [] _ hk hsplit hsub (PySem.F.args_bexc_ga (.ref x) (.str name t)) ?_)
  unfold Builtin.«object.__getattribute__»
  refine wpAny_bind (wpAny_pure ?_)
  dsimp only
  refine wpAny_bind (wpAny_pure ?_)
  refine wpAny_bind (L0.at (wpAny_bind (L3.at ?_)))
  refine wpAny_pure ?_
  show wpAny _ _ (handedOut v) _ _ _
  rw [handedOut_of hv]
  exact wpAny_pure h
end
section
section
local macro_rules | `(tactic| kc_enter) => `(tactic| (refine' code_def0 ?k1 ?k2 ?k3 ?k4 ?k5 ?kA ?kF ?kK ?k6 ?k7 ?k8 ?k9 ?kB ?_ ?c2 ?c3 ?c4 ?c5; (case kA => exact rfl); (case kF => exact rfl); (case kK => first | exact rfl | assumption); (case k1 => k_asm); (case k2 => k_asm); (case k3 => k_asm); (case k4 => k_asm); (case k5 => k_asm); (case k6 => k_is); (case k7 => k_is); (case k8 => ktr_room); (case k9 => exact BindsTo.of_eq rfl); (case c5 => decide); (case kB => exact locs rfl); (case c2 => exact rfl); (case c3 => exact rfl); (case c4 => exact rfl); k_whole; intro g' L' h' FG' F' N' B' X' T' D'; (try dsimp only); (try k_fold)))
local macro_rules | `(tactic| walk_at "exec For Name Call cons nil") => `(tactic| (k_here; (with_unfolding_all refine wpAny_For ?_ (by intro _; rfl))))
local macro_rules | `(tactic| walk_at "exec For Tuple Call cons nil") => `(tactic| (k_here; (with_unfolding_all refine wpAny_For ?_ (by intro _; rfl))))
set_option maxRecDepth 100000 in
set_option maxHeartbeats 8000000 in
theorem done_spec {prog : Program} {w : World} {M J R : Ledger} {f c dd oth d1 d2 p : Addr} {vs : List Value} {ns : List Int} {n n2 n5 : Nat} {turn : Int} {tt : Tok} {o o1 o2 : Obj} {pl dl e1 e2 : List (Int × Int)}
    (hc : (c, listOf vs.toArray n2) ∈ R) (hI : IntsAre vs ns) (hl : ns.length ≤ 63) (ht0 : 0 ≤ turn) (ht1 : turn ≤ 800)
    (hoth : (oth, listOf #[.ref d1, .ref d2] n5) ∈ R) (h1 : (d1, o1) ∈ R) (h2 : (d2, o2) ∈ R) (lo1 : (d1 == sysModules) = false) (lo2 : (d2 == sysModules) = false) (hd1 : DictSt prog w o1 e1) (hd2 : DictSt prog w o2 e2) (hg1 : GoodKeys e1) (hg2 : GoodKeys e2)
    (hD : DictSt prog w o dl) (lo : (dd == sysModules) = false) (hP : ProgSt M J p pl) (hJ : ∀ q ∈ J, q ∈ R) (hA : Apart M R) (hS : Sorted pl) (hG : GoodKeys pl) (hag : Agree pl dl)
    (hfd : @Ne Nat f dd) (hRf : ∀ q ∈ M ++ R, q.1 ≠ f) (hRd : ∀ q ∈ M ++ R, q.1 ≠ dd) :
    Spec0 200 400 prog w 165 [.ref f, .ref p, .ref dd, .ref oth] ((f, listOf #[.ref c, .int turn tt] n) :: (dd, o) :: (M ++ R))
      (fun v news' => ∃ turn' new pl' dl', LawSt prog w (new ++ J) (new ++ R) f c dd p turn' news' pl' dl' ∧ turn ≤ turn' ∧ turn' ≤ turn + 3 ∧ Above new R ∧ v = .bool true) := by
  k_with_none
  w_top off
  have hfill : PySem.Challenge.rw_sa0631_01 = PySem.Challenge.rw_sa0631_01 ∧ @hd.heap_39 = hd.heap_39 := by (k_fill; exact ⟨rfl, rfl⟩)
  clear hfill
  intro mean mg mb dp un gd cn cs a0 ccd cl A₀ base h₀ L m s Q E B F X N0 T XB TB hk hdp hun ret
  have q1 := neN (hRf _ (List.mem_append_right _ hc))
  have q2 := neN (hRf _ (List.mem_append_right _ hoth))
  have q3 := neN (hRf _ (List.mem_append_right _ h1))
  have q4 := neN (hRf _ (List.mem_append_right _ h2))
  have q5 := neN (hRd _ (List.mem_append_right _ hc))
  have q6 := neN (hRd _ (List.mem_append_right _ hoth))
  have q7 := neN (hRd _ (List.mem_append_right _ h1))
  have q8 := neN (hRd _ (List.mem_append_right _ h2))
  dsimp only at q1 q2 q3 q4 q5 q6 q7 q8
  have hRf' : ∀ q ∈ R, q.1 ≠ f := fun q hq => hRf q (List.mem_append_right _ hq)
  have hRd' : ∀ q ∈ R, q.1 ≠ dd := fun q hq => hRd q (List.mem_append_right _ hq)
  have hMf' : ∀ q ∈ M, q.1 ≠ f := fun q hq => hRf q (List.mem_append_left _ hq)
  have hMd' : ∀ q ∈ M, q.1 ≠ dd := fun q hq => hRd q (List.mem_append_left _ hq)
  have hlen := good_len hS hG
  have hdn := hD.nodup
  have hgd : GoodKeys dl := fun q hq => hG q ((hag q).mpr hq)
  have hdlen := hgd.length hdn
  have N := nadd (nadd (nadd (nadd N0 (.tail _ (.tail _ (List.mem_append_right _ hoth)))) (.tail _ (.tail _ (.tail _ (List.mem_append_right _ hc))))) (.tail _ (.tail _ (.tail _ (.tail _ (List.mem_append_right _ h1)))))) (.tail _ (.tail _ (.tail _ (.tail _ (.tail _ (List.mem_append_right _ h2))))))
  clear N0
  refine wpAny_call ?_
  k_dflt kc_enter
  k_with_none
  k_with "call ref" => (k_here; (with_reducible show wpAny _ _ (call (Value.ref 132) [_, _]) _ _ _); with_unfolding_all refine' Spec.use ?B ?F ?X ?N ?T ?hk (next_specU (vs := vs) (ns := ns) ?p8 ?p1 ?p0 ?p2 ?p3 ?p4 ?p5 ?p6 ?p7) ?hd ?hu ?_; (case N => k_asm); (case p8 => k_updF); (case p1 => k_mem); (case p0 => first | assumption | omega); (case B => k_asm); (case F => k_asm); (case X => k_asm); (case T => k_asm); (case hk => first | exact rfl | assumption); (case hd => ktr_room); (case hu => ktr_units); (case p2 => assumption); (case p3 => assumption); (case p4 => omega); (case p5 => omega); (case p6 => omega); (case p7 => omega); rintro _ _ h9 tk9 ⟨r9, tr9, tt9, rfl, hr0, hr1, rfl⟩ F9 N9; (try dsimp only at N9); (try dsimp only); (try k_sweep); (try k_fold))
  k_with "exec If" => (refine Stop.on ?_)
  k_steps
  rename_i g L1 h1' FG B1 X1 T1 DD qk ek tk0 _ tkform rform trform _ hf0 hf1 _ _ _ tkfirst rfirst trfirst _ hr2 hr3 _ _ TU _ l9 _ _ _ _ F1 N1
  refine Stop.off ?_
  have hform : rform = 2 ∨ rform = 0 ∨ rform = 1 ∨ rform = 3 := by omega
  have gfirst : ∃ j : Nat, j < 8 ∧ 10 * rfirst = 10 * j := ⟨rfirst.toNat, by omega, by omega⟩
  have bad : ∀ h' tk', Fr h₀ L h' m → News h₀ L h' ((f, listOf #[.ref c, .int (turn + 1 + 1 + 1) tt9] n) :: (dd, o) :: (M ++ R)) → Q (.bool true) { s with heap := h', toks := tk' } := fun h' tk' F' N' =>
    ret _ _ _ _ ⟨turn + 1 + 1 + 1, [], pl, dl, ⟨tt9, n, o, M, rfl, hP, hD, hag, hS, hG, hA, hRf, hRd, hJ⟩, by omega, by omega, (by intro q hq; cases hq), rfl⟩ F' N'
  rcases hform with rfl | rfl | rfl | rfl
  · k_with_none
    k_with "call ref" => (k_here; (with_reducible show wpAny _ _ (call (Value.ref 146) [_]) _ _ _); with_unfolding_all refine' Spec.use ?B ?F ?X ?N ?T ?hk row_spec ?hd ?hu ?_; (case B => k_asm); (case F => k_asm); (case X => k_asm); (case N => k_asm); (case T => k_asm); (case hk => first | exact rfl | assumption); (case hd => ktr_room); (case hu => ktr_units); rintro v9 n9 h9 tk9 ⟨new9, hrow9, rfl, hab9, hnd9⟩ F9 N9; (obtain ⟨ra9, hv9⟩ : ∃ r, v9 = .ref r := hrow9.imp fun r h => h.choose_spec.choose_spec.choose_spec.choose_spec.choose_spec.choose_spec.1); subst hv9; (try dsimp only); (try k_sweep); (try k_fold))
    k_with "call ref" => (k_here; (with_reducible show wpAny _ _ (call (Value.ref 104) [_, _, _]) _ _ _); with_unfolding_all refine' Spec.use ?B ?F ?X ?N ?T ?hk (put_spec (R := new9 ++ ((f, listOf #[.ref c, .int (turn + 1 + 1 + 1) tt9] n) :: (dd, o) :: R)) (J := new9 ++ J) (M := M) (pl := pl) (hP.mono fun q hq => List.mem_append_right _ hq) hS ?p1 ?p2 ?p3 ?p4 ?p5 (hrow9.mono fun q hq => List.mem_append_left _ hq)) ?hd ?hu ?_; (case N => exact nsub N9 (by kst_inAny)); (case B => k_asm); (case F => k_asm); (case X => k_asm); (case T => k_asm); (case hk => first | exact rfl | assumption); (case hd => ktr_room); (case hu => ktr_units); (case p1 => omega); (case p2 => omega); (case p3 => omega); (case p4 => exact sub_mid hJ); (case p5 => exact apart_mid (Above.apart (hab9.sub (by kst_inAny))) hMf' hMd' hA); rintro v8 n8 h8 tk8 ⟨rfl, M', rfl, hP8, hM8⟩ F8 N8; (try dsimp only); (try k_sweep); (try k_fold))
    k_steps
    refine' gd_set (news := (dd, o) :: (f, listOf #[.ref c, .int (turn + 1 + 1 + 1) tt9] n) :: (M' ++ (new9 ++ R))) F8 (nsub N8 (by kst_inAny)) (.head (ne_mid hfd (same_ne hMd' hM8) (above_ne (o := o) hab9 (by k_mem)) hRd')) hD (by omega) ?_
    intro h7 o7 F7 N7 hd7
    k_steps
    rename News _ _ _ _ => nE
    exact ret _ _ _ _ ⟨turn + 1 + 1 + 1, new9, _, _, ⟨tt9, n, o7, M', rfl, hP8, hd7, put_agree hS hag, put_sorted hS, put_good hG gfirst, Apart.same (Apart.append_right (Above.apart (hab9.sub (by kst_inAny))) hA) hM8,
      ne_two (same_ne hMf' hM8) (above_ne (o := listOf #[.ref c, .int (turn + 1 + 1 + 1) tt9] n) hab9 (by k_mem)) hRf', ne_two (same_ne hMd' hM8) (above_ne (o := o) hab9 (by k_mem)) hRd', sub_two hJ⟩, by omega, by omega, hab9.sub (by kst_inAny), rfl⟩ (by assumption) (nsub nE (by kst_inAny))
  · k_with_none
    have hidx : 0 ≤ ((10 * r9).fdiv 10).fmod 2 ∧ ((10 * r9).fdiv 10).fmod 2 < 2 := by
      rw [Int.fdiv_eq_ediv_of_nonneg _ (by omega), Int.fmod_eq_emod_of_nonneg _ (by omega)]; omega
    obtain ⟨hx0, hx1⟩ := hidx
    obtain ⟨dx, ox, ex, hat, hxm, lox, hdx, hgx⟩ : ∃ dx ox ex, (#[Value.ref d1, Value.ref d2] : Array Value)[(((10 * r9).fdiv 10).fmod 2).toNat]? = some (.ref dx) ∧ (dx, ox) ∈ R ∧ (dx == sysModules) = false ∧ DictSt prog w ox ex ∧ GoodKeys ex := by
      have : (((10 * r9).fdiv 10).fmod 2).toNat = 0 ∨ (((10 * r9).fdiv 10).fmod 2).toNat = 1 := by omega
      rcases this with e | e
      · exact ⟨d1, o1, e1, by rw [e]; rfl, h1, lo1, hd1, hg1⟩
      · exact ⟨d2, o2, e2, by rw [e]; rfl, h2, lo2, hd2, hg2⟩
    have hxd := neN (hRd' _ hxm)
    have hxl := hgx.length hdx.nodup
    dsimp only at hxd
    k_with "subscriptTail" => (k_here; (with_reducible show wpAny _ _ (subscriptTail _ _ (Value.ref oth) (Value.int _ _)) _ _ _); k_dflt (refine' PyProof.Rows.item_list (l := oth) ?z9l ?z9a ?z9b hat ?_ ?z9s ?z9g; (case z9l => exact oth_list (by k_asm) (by repeat (first | exact hoth | apply List.Mem.tail | apply List.mem_append_right))); (case z9a => exact hx0); (case z9b => omega); (case z9s => with_unfolding_all rfl); (case z9g => (intro _; with_unfolding_all rfl))))
    k_with "call ref" => (k_here; (with_reducible show wpAny _ _ (call (Value.ref 153) [_]) _ _ _); with_unfolding_all refine' Spec.use ?B ?F ?X ?N ?T ?hk (program_spec (dd := dx) (o := ox) (dl := ex) ?p1 lox hdx hgx) ?hd ?hu ?_; (case B => k_asm); (case F => k_asm); (case X => k_asm); (case N => k_asm); (case T => k_asm); (case hk => first | exact rfl | assumption); (case hd => ktr_room); (case hu => ktr_units); (case p1 => (repeat (first | exact List.mem_append_right _ hxm | apply List.Mem.tail))); rintro _ _ h9 tk9 ⟨M9, new9, p9, rfl, rfl, hP9, hab9, hap9⟩ F9 N9; (try dsimp only); (try k_sweep); (try k_fold))
    k_with "call ref" => (k_here; (with_reducible show wpAny _ _ (call (Value.ref 125) [_, _]) _ _ _); with_unfolding_all refine' Spec.use ?B ?F ?X ?N ?T ?hk (merge_spec (M := M) (M2 := M9) (J := new9 ++ J) (R := M9 ++ (new9 ++ ((f, listOf #[.ref c, .int (turn + 1 + 1 + 1) tt9] n) :: (dd, o) :: R))) (hP.mono fun q hq => List.mem_append_right _ hq) (hP9.mono fun q hq => List.mem_append_left _ hq) (fun q hq => List.mem_append_left _ hq) ?p4 ?p5 hS hG build_sorted (build_good hgx)) ?hd ?hu ?_; (case N => exact nsub N9 (by kst_inAny)); (case B => k_asm); (case F => k_asm); (case X => k_asm); (case T => k_asm); (case hk => first | exact rfl | assumption); (case hd => ktr_room); (case hu => ktr_units); (case p4 => exact fun q hq => List.mem_append_right _ (sub_mid hJ q hq)); (case p5 => exact Apart.append_right (Above.apart (hab9.left.sub (by kst_inAny))) (apart_mid (Above.apart (hab9.right.sub (by kst_inAny))) hMf' hMd' hA)); rintro v8 n8 h8 tk8 ⟨rfl, M', rfl, hP8, hM8⟩ F8 N8; (try dsimp only); (try k_sweep); (try k_fold))
    k_with "getMethod ref" => (k_here; (with_reducible show wpAny _ _ (getMethod (Value.ref dd) (Str.ofString "update") _) _ _ _); k_dflt (refine' gd_method (dl := dl) (o := o) N8 ?m hD PySem.F.slot_dict_update PySem.F.type_dict_update ?_; (case m => exact List.mem_append_right _ (List.mem_append_right _ (List.mem_append_right _ (.tail _ (.head _)))))))
    k_steps
    refine' gd_update (d2 := dx) (o2 := ox) (dl2 := ex) (news := (dd, o) :: (f, listOf #[.ref c, .int (turn + 1 + 1 + 1) tt9] n) :: (M' ++ (new9 ++ R))) F8 (nsub N8 (by kst_inAny)) (.head (ne_mid hfd (same_ne hMd' hM8) (above_ne (o := o) hab9.right (by k_mem)) hRd')) hD ?m lox hdx ?n ?z ?_
    (case m => exact .tail _ (.tail _ (List.mem_append_right _ (List.mem_append_right _ hxm))))
    (case n => exact hxd.symm)
    (case z => omega)
    intro h7 o7 F7 N7 hd7
    k_steps
    rename News _ _ _ _ => nE
    exact ret _ _ _ _ ⟨turn + 1 + 1 + 1, new9, _, _, ⟨tt9, n, o7, M', rfl, hP8, hd7, merge_agree hS build_sorted hdx.nodup hag (build_agree hdx.nodup), mergeL_sorted hS, mergeL_good hG (build_good hgx), Apart.same (Apart.append_right (Above.apart (hab9.right.sub (by kst_inAny))) hA) hM8,
      ne_two (same_ne hMf' hM8) (above_ne (o := listOf #[.ref c, .int (turn + 1 + 1 + 1) tt9] n) hab9.right (by k_mem)) hRf', ne_two (same_ne hMd' hM8) (above_ne (o := o) hab9.right (by k_mem)) hRd', sub_two hJ⟩, by omega, by omega, hab9.right.sub (by kst_inAny), rfl⟩ (by assumption) (nsub nE (by kst_inAny))
  · k_with_none
    have hin := hag.has (10 * r9)
    rcases (show (rfirst ≤ r9 ∧ dhas dl (10 * r9) = true) ∨ (rfirst ≤ r9 ∧ dhas dl (10 * r9) = false) ∨ r9 < rfirst by
      by_cases h : rfirst ≤ r9
      · cases e : dhas dl (10 * r9) with
        | true => exact .inl ⟨h, rfl⟩
        | false => exact .inr (.inl ⟨h, rfl⟩)
      · exact .inr (.inr (by omega))) with ⟨hle, hb⟩ | ⟨hle, hb⟩ | hlt
    · rw [hb] at hin
      k_with "compareOp In int ref" => (k_here; refine' gd_in' (d := dd) (o := o) (dl := dl) N1 ?z9m lo hD hb ?_; (case z9m => k_mem))
      k_with "call ref" => (refine Stop.on ?_)
      k_steps
      refine Stop.off ?_
      rename_i _ F2 N2 _
      refine Spec.use B1 F2 X1 (nsub N2 (by kst_inAny)) T1 rfl (delR_spec (R := (f, listOf #[.ref c, .int (turn + 1 + 1 + 1) tt9] n) :: (dd, o) :: R) (M := M) hP hS (by omega) (fun q hq => .tail _ (.tail _ (hJ q hq))) (apart_mid (new := []) (fun _ _ _ h => nomatch h) hMf' hMd' hA) (by omega) hin) (by ktr_room) (by ktr_units) ?_
      rintro v8 n8 h8 tk8 ⟨rfl, M', rfl, hP8, hA8⟩ F8 N8
      have hMA : Apart M' R := fun q hq q' hq' => hA8 q hq q' (.tail _ (.tail _ hq'))
      have hMf2 : ∀ q ∈ M', q.1 ≠ f := fun q hq => hA8 q hq _ (.head _)
      have hMd2 : ∀ q ∈ M', q.1 ≠ dd := fun q hq => hA8 q hq _ (.tail _ (.head _))
      k_with_none
      k_steps
      rename_i _ _ _ _ _ hrg F3 N3 _
      refine rangeLoop (n := (r9 - rfirst).toNat + 1) (σ := Obj × List (Int × Int)) (R := (f, listOf #[.ref c, .int (turn + 1 + 1 + 1) tt9] n) :: (M' ++ R)) (fun x => [(dd, x.1)]) (fun _ => []) [Str.ofString "number"]
        (fun i x => DictSt prog w x.1 x.2 ∧ ∀ q, q ∈ x.2 ↔ q ∈ dl ∧ ∀ j : Nat, j < i → q.1 ≠ 10 * rfirst + j * 10) (o, dl) rfl hrg (small_ten hle hr2 (by omega)) (size_ten hle) rfl rfl F3 (nsub N3 (by kst_inAny)) ?_ (fun p hp => nomatch hp) ⟨hD, fun q => ⟨fun h => ⟨h, fun j hj => absurd hj (Nat.not_lt_zero j)⟩, fun h => h.1⟩⟩ ?_ ?_
      · intro p hp q hq
        rw [List.mem_singleton.mp hp]
        rcases List.mem_cons.mp hq with rfl | hq
        · exact hfd.symm
        · exact (List.mem_append.mp hq).elim (fun h => (hMd2 q h).symm) fun h => (hRd' q h).symm
      · intro i x t u h tk R' E' hi hPx hR hAx F' N'
        obtain ⟨ox, dx⟩ := x
        dsimp only at hPx F' N' hAx ⊢
        change Fr g L1 h _ at F'
        change News g L1 h _ at N'
        obtain ⟨hdx, hmx⟩ := hPx
        have hxg := sub_good hgd fun q hq => ((hmx q).mp hq).1
        have hxl := hxg.length hdx.nodup
        simp only [List.cons_append, List.nil_append] at N'
        k_with_none
        k_with "getMethod ref" => (k_here; (with_reducible show wpAny _ _ (getMethod (Value.ref dd) (Str.ofString "pop") _) _ _ _); k_dflt (refine' gd_method (dl := dx) (o := ox) N' (.head _) hdx PySem.F.slot_dict_pop PySem.F.type_dict_pop ?_))
        k_with "call builtin:dict.pop" => (k_here; k_dflt (refine' gd_pop F' N' (.head ?z9u) hdx lo ?z9z ?_; (case z9u => exact fun q hq => (hAx _ (.head _) q hq).symm); (case z9z => omega)); intro h7 o7 v7 F7 N7 hd7; (try dsimp only); (try k_sweep); (try k_fold))
        k_steps
        refine postG_next (o7, ddel dx (10 * rfirst + i * 10)) F7 N7 (by kst_inAny) (by kst_inAny) (hAx.same rfl) ?_ ?_
        · (refine ⟨by kst_all, fun z h2 h3 => ?_⟩; (try dsimp only); (repeat (with_reducible first | refine ite_off (notStored h3 _ (by decide)) ?_ | refine ite_off (notPs h2 _ (by decide)) ?_)); exact mapG_off h2 h3)
        · exact ⟨hd7, pop_step hmx⟩
      · intro x u h tk hPx F' N' hAx
        obtain ⟨ox, dx⟩ := x
        dsimp only at hPx F' N' hAx ⊢
        change Fr g L1 h _ at F'
        change News g L1 h _ at N'
        obtain ⟨hdx, hmx⟩ := hPx
        k_with_none
        k_steps
        rename News h₀ _ _ _ => nE
        exact ret _ _ _ _ ⟨turn + 1 + 1 + 1, [], _, dx, ⟨tt9, n, ox, M', rfl, hP8, hdx, pops_agree hgd hag hr2 hle hmx, filter_sorted hS, filter_good hG, hMA, ne_two (new := []) hMf2 (fun _ h => nomatch h) hRf', ne_two (new := []) hMd2 (fun _ h => nomatch h) hRd', hJ⟩, by omega, by omega, (by intro q hq; cases hq), rfl⟩ (by assumption) (nsub nE (by kst_inAny))
    · rw [hb] at hin
      k_with "compareOp In int ref" => (k_here; refine' gd_in' (d := dd) (o := o) (dl := dl) N1 ?z9m lo hD hb ?_; (case z9m => k_mem))
      k_with "call ref" => (refine Stop.on ?_)
      k_steps
      refine Stop.off ?_
      rename_i _ F2 N2 _
      refine SpecR.use B1 F2 X1 (nsub N2 (by kst_inAny)) T1 rfl (delR_miss (R := (f, listOf #[.ref c, .int (turn + 1 + 1 + 1) tt9] n) :: (dd, o) :: (M ++ R)) hP hS (by omega) (fun q hq => .tail _ (.tail _ (List.mem_append_right _ (hJ q hq)))) (fun q hq => .tail _ (.tail _ (List.mem_append_left _ hq))) (.inr hin)) (by ktr_room) (by ktr_units) ?_
      intro e9 dx9 hh9 tt8 tk8 G9 n9 h9 tk7 F9 R9 D9 U9 m9 s9
      refine catch_kind R9 D9 F9 B1 U9 XB TB DD .refl (test_name (.inl (by k_is)) (by kernel_rfl) rfl rfl rfl) ?_ rfl rfl
      intro h6 g6 tk6 oe6 T6 F6 N6 c1 c2 c3 B6 X6 TT6 D6
      have I6 : InstAt h6 e9 oe6 31 (some (kindDict hh9 tt8 (Str.ofString "FC") tk8)) := ⟨(N6 _ (.head _)).1, c1, c3, by rw [c2]; exact (N6 _ (.tail _ m9)).1⟩
      k_with_none
      k_with "getAttr ref" => (k_here; (with_reducible show wpAny _ _ (getAttr (Value.ref e9) (Str.ofString "kind") _) _ _ _); k_dflt (refine' exc_get (f := 28) (X6.keeps F6.keep) I6 ?z9q ?z9d ?z9e ?z9f ?z9g ?z9h ?z9i ?_; (case z9q => kernel_rfl); (case z9d => kernel_rfl); (case z9e => k_is); (case z9f => k_is); (case z9g => k_is); (case z9h => k_get); (case z9i => k_handed); k_whole))
      k_steps
      rename News h₀ _ _ _ => nE
      exact bad _ _ (by assumption) (nsub nE fun q hq => .tail _ (s9 q (hq)))
    · k_with "call ref" => (refine Stop.on ?_)
      k_steps
      refine Stop.off ?_
      rename_i _ F2 N2 _
      refine SpecR.use B1 F2 X1 (nsub N2 (by kst_inAny)) T1 rfl (delR_miss (R := (f, listOf #[.ref c, .int (turn + 1 + 1 + 1) tt9] n) :: (dd, o) :: (M ++ R)) hP hS (by omega) (fun q hq => .tail _ (.tail _ (List.mem_append_right _ (hJ q hq)))) (fun q hq => .tail _ (.tail _ (List.mem_append_left _ hq))) (.inl (by omega))) (by ktr_room) (by ktr_units) ?_
      intro e9 dx9 hh9 tt8 tk8 G9 n9 h9 tk7 F9 R9 D9 U9 m9 s9
      refine catch_kind R9 D9 F9 B1 U9 XB TB DD .refl (test_name (.inl (by k_is)) (by kernel_rfl) rfl rfl rfl) ?_ rfl rfl
      intro h6 g6 tk6 oe6 T6 F6 N6 c1 c2 c3 B6 X6 TT6 D6
      have I6 : InstAt h6 e9 oe6 31 (some (kindDict hh9 tt8 (Str.ofString "FC") tk8)) := ⟨(N6 _ (.head _)).1, c1, c3, by rw [c2]; exact (N6 _ (.tail _ m9)).1⟩
      k_with_none
      k_with "getAttr ref" => (k_here; (with_reducible show wpAny _ _ (getAttr (Value.ref e9) (Str.ofString "kind") _) _ _ _); k_dflt (refine' exc_get (f := 28) (X6.keeps F6.keep) I6 ?z9q ?z9d ?z9e ?z9f ?z9g ?z9h ?z9i ?_; (case z9q => kernel_rfl); (case z9d => kernel_rfl); (case z9e => k_is); (case z9f => k_is); (case z9g => k_is); (case z9h => k_get); (case z9i => k_handed); k_whole))
      k_steps
      rename News h₀ _ _ _ => nE
      exact bad _ _ (by assumption) (nsub nE fun q hq => .tail _ (s9 q (hq)))
  · k_with_none
    have hin := hag.has (10 * rfirst)
    cases hb : dhas dl (10 * rfirst) with
    | true =>
      rw [hb] at hin
      k_with "compareOp In int ref" => (k_here; refine' gd_in' (d := dd) (o := o) (dl := dl) N1 ?z9m lo hD hb ?_; (case z9m => k_mem))
      k_with "call ref" => (refine Stop.on ?_)
      k_steps
      refine Stop.off ?_
      rename_i l2 _ F2 N2 l3
      refine Spec.use B1 F2 X1 (nsub N2 (by kst_inAny)) T1 rfl (del_spec (n4 := 0) (R := (l2, listOf #[] 0) :: (f, listOf #[.ref c, .int (turn + 1 + 1 + 1) tt9] n) :: (dd, o) :: R) (M := M) hP hS (by omega) (by omega) (by omega) (fun q hq => .tail _ (.tail _ (.tail _ (hJ q hq)))) (fun q hq q' hq' => ?z9x) (.head _) hin) (by ktr_room) (by ktr_units) ?_
      case z9x =>
        rcases List.mem_cons.mp hq' with rfl | hq'
        · exact Nat.ne_of_lt (allLt_get l3.2.2.2.2.2.2.2 q (List.mem_append_left _ hq))
        · exact apart_mid (new := []) (fun _ _ _ h => nomatch h) hMf' hMd' hA q hq q' hq'
      rintro v8 n8 h8 tk8 ⟨rfl, M', rfl, hP8, hM8⟩ F8 N8
      have hMA : Apart M' R := Apart.same hA hM8
      have hMf2 : ∀ q ∈ M', q.1 ≠ f := same_ne hMf' hM8
      have hMd2 : ∀ q ∈ M', q.1 ≠ dd := same_ne hMd' hM8
      k_with_none
      k_steps
      rename_i _ _ _ _ _ hrg F3 N3 _
      refine rangeLoop (n := (rfirst - rfirst).toNat + 1) (σ := Obj × List (Int × Int)) (R := (f, listOf #[.ref c, .int (turn + 1 + 1 + 1) tt9] n) :: (M' ++ R)) (fun x => [(dd, x.1)]) (fun _ => []) [Str.ofString "number"]
        (fun i x => DictSt prog w x.1 x.2 ∧ ∀ q, q ∈ x.2 ↔ q ∈ dl ∧ ∀ j : Nat, j < i → q.1 ≠ 10 * rfirst + j * 10) (o, dl) rfl hrg (small_ten (Int.le_refl _) hr2 (by omega)) (size_ten (Int.le_refl _)) rfl rfl F3 (nsub N3 (by kst_inAny)) ?_ (fun p hp => nomatch hp) ⟨hD, fun q => ⟨fun h => ⟨h, fun j hj => absurd hj (Nat.not_lt_zero j)⟩, fun h => h.1⟩⟩ ?_ ?_
      · intro p hp q hq
        rw [List.mem_singleton.mp hp]
        rcases List.mem_cons.mp hq with rfl | hq
        · exact hfd.symm
        · exact (List.mem_append.mp hq).elim (fun h => (hMd2 q h).symm) fun h => (hRd' q h).symm
      · intro i x t u h tk R' E' hi hPx hR hAx F' N'
        obtain ⟨ox, dx⟩ := x
        dsimp only at hPx F' N' hAx ⊢
        change Fr g L1 h _ at F'
        change News g L1 h _ at N'
        obtain ⟨hdx, hmx⟩ := hPx
        have hxg := sub_good hgd fun q hq => ((hmx q).mp hq).1
        have hxl := hxg.length hdx.nodup
        simp only [List.cons_append, List.nil_append] at N'
        k_with_none
        k_with "getMethod ref" => (k_here; (with_reducible show wpAny _ _ (getMethod (Value.ref dd) (Str.ofString "pop") _) _ _ _); k_dflt (refine' gd_method (dl := dx) (o := ox) N' (.head _) hdx PySem.F.slot_dict_pop PySem.F.type_dict_pop ?_))
        k_with "call builtin:dict.pop" => (k_here; k_dflt (refine' gd_pop F' N' (.head ?z9u) hdx lo ?z9z ?_; (case z9u => exact fun q hq => (hAx _ (.head _) q hq).symm); (case z9z => omega)); intro h7 o7 v7 F7 N7 hd7; (try dsimp only); (try k_sweep); (try k_fold))
        k_steps
        refine postG_next (o7, ddel dx (10 * rfirst + i * 10)) F7 N7 (by kst_inAny) (by kst_inAny) (hAx.same rfl) ?_ ?_
        · (refine ⟨by kst_all, fun z h2 h3 => ?_⟩; (try dsimp only); (repeat (with_reducible first | refine ite_off (notStored h3 _ (by decide)) ?_ | refine ite_off (notPs h2 _ (by decide)) ?_)); exact mapG_off h2 h3)
        · exact ⟨hd7, pop_step hmx⟩
      · intro x u h tk hPx F' N' hAx
        obtain ⟨ox, dx⟩ := x
        dsimp only at hPx F' N' hAx ⊢
        change Fr g L1 h _ at F'
        change News g L1 h _ at N'
        obtain ⟨hdx, hmx⟩ := hPx
        k_with_none
        k_steps
        rename News h₀ _ _ _ => nE
        exact ret _ _ _ _ ⟨turn + 1 + 1 + 1, [], _, dx, ⟨tt9, n, ox, M', rfl, hP8, hdx, del_one hgd hag hr2 hmx, filter_sorted hS, filter_good hG, hMA, ne_two (new := []) hMf2 (fun _ h => nomatch h) hRf', ne_two (new := []) hMd2 (fun _ h => nomatch h) hRd', hJ⟩, by omega, by omega, (by intro q hq; cases hq), rfl⟩ (by assumption) (nsub nE (by kst_inAny))
    | false =>
      rw [hb] at hin
      k_with "compareOp In int ref" => (k_here; refine' gd_in' (d := dd) (o := o) (dl := dl) N1 ?z9m lo hD hb ?_; (case z9m => k_mem))
      k_with "call ref" => (refine Stop.on ?_)
      k_steps
      refine Stop.off ?_
      rename_i l2 _ F2 N2 l3
      refine SpecR.use B1 F2 X1 (nsub N2 (by kst_inAny)) T1 rfl (put_miss (n4 := 0) (R := (l2, listOf #[] 0) :: (f, listOf #[.ref c, .int (turn + 1 + 1 + 1) tt9] n) :: (dd, o) :: (M ++ R)) hP hS (by omega) (by omega) (by omega) (fun q hq => .tail _ (.tail _ (.tail _ (List.mem_append_right _ (hJ q hq))))) (fun q hq => .tail _ (.tail _ (.tail _ (List.mem_append_left _ hq)))) (.head _) hin) (by ktr_room) (by ktr_units) ?_
      intro e9 dx9 hh9 tt8 tk8 G9 n9 h9 tk7 F9 R9 D9 U9 m9 s9
      refine catch_kind R9 D9 F9 B1 U9 XB TB DD .refl (test_name (.inl (by k_is)) (by kernel_rfl) rfl rfl rfl) ?_ rfl rfl
      intro h6 g6 tk6 oe6 T6 F6 N6 c1 c2 c3 B6 X6 TT6 D6
      have I6 : InstAt h6 e9 oe6 31 (some (kindDict hh9 tt8 (Str.ofString "UL") tk8)) := ⟨(N6 _ (.head _)).1, c1, c3, by rw [c2]; exact (N6 _ (.tail _ m9)).1⟩
      k_with_none
      k_with "getAttr ref" => (k_here; (with_reducible show wpAny _ _ (getAttr (Value.ref e9) (Str.ofString "kind") _) _ _ _); k_dflt (refine' exc_get (f := 28) (X6.keeps F6.keep) I6 ?z9q ?z9d ?z9e ?z9f ?z9g ?z9h ?z9i ?_; (case z9q => kernel_rfl); (case z9d => kernel_rfl); (case z9e => k_is); (case z9f => k_is); (case z9g => k_is); (case z9h => k_get); (case z9i => k_handed); k_whole))
      k_steps
      rename News h₀ _ _ _ => nE
      exact bad _ _ (by assumption) (nsub nE fun q hq => .tail _ (s9 q (.tail _ hq)))
end
end
section
/-! the sort's tree of questions, asked of distinct keys -/
section
variable (key : Nat → Int) (n : Nat)
noncomputable def evP {α : Type} : KasT α → (α → Prop) → Prop
  | .ret a, Q => Q a
  | .ask i j k, Q => i < n ∧ j < n ∧ evP (k (decide (key i < key j))) Q
variable {key n}
theorem evP_bind {α β : Type} {f : α → KasT β} {Q : β → Prop} : ∀ (t : KasT α), evP key n t (fun a => evP key n (f a) Q) → evP key n (t.bind f) Q
  | .ret _, h => h
  | .ask _ _ k, ⟨h1, h2, h3⟩ => ⟨h1, h2, evP_bind (k _) h3⟩
theorem evP_wp {α : Type} {cmp : Nat → Nat → (Bool → Shared → Prop) → Shared → Prop} {G : α → Shared → Prop} {s : Shared} (hc : ∀ i j (C : Bool → Shared → Prop), i < n → j < n → C (decide (key i < key j)) s → cmp i j C s) : ∀ (t : KasT α), evP key n t (fun a => G a s) → t.kasWp cmp G s
  | .ret _, h => h
  | .ask i j k, ⟨h1, h2, h3⟩ => hc i j _ h1 h2 (evP_wp hc (k _) h3)
theorem evP_mono {α : Type} {Q Q' : α → Prop} (hq : ∀ a, Q a → Q' a) : ∀ (t : KasT α), evP key n t Q → evP key n t Q'
  | .ret _, h => hq _ h
  | .ask _ _ k, ⟨h1, h2, h3⟩ => ⟨h1, h2, evP_mono hq (k _) h3⟩

def KP (key : Nat → Int) (p : Array Nat) (i : Nat) : Int := key (p.getD i 0)
theorem KP_congr {p q : Array Nat} {i j : Nat} (h : p[i]? = q[j]?) : KP key p i = KP key q j := by
  unfold KP
  rw [Array.getD_eq_getD_getElem?, Array.getD_eq_getD_getElem?, h]
def PermR (n : Nat) (p : Array Nat) : Prop := p.Perm (List.range n).toArray
theorem PermR.size {p : Array Nat} (h : PermR n p) : p.size = n := by
  have := h.toList.length_eq
  simpa using this
theorem PermR.lt {p : Array Nat} (h : PermR n p) {i : Nat} (hi : i < n) : p.getD i 0 < n := by
  have hs := h.size
  have : p.getD i 0 ∈ p.toList := by
    rw [Array.getD_eq_getD_getElem?, Array.getElem?_eq_getElem (by omega)]
    simp
  have := (h.toList.mem_iff).mp this
  simpa using this
theorem PermR.inj {p : Array Nat} (h : PermR n p) {i j : Nat} (hi : i < n) (hj : j < n) (e : p.getD i 0 = p.getD j 0) : i = j := by
  have hs := h.size
  have hn : p.toList.Nodup := h.toList.nodup_iff.mpr (by simpa using List.nodup_range)
  have hi' : i < p.toList.length := by simpa using (by omega : i < p.size)
  have hj' : j < p.toList.length := by simpa using (by omega : j < p.size)
  refine (List.getElem_inj (h₀ := hi') (h₁ := hj') hn).mp ?_
  rw [Array.getD_eq_getD_getElem?, Array.getD_eq_getD_getElem?, Array.getElem?_eq_getElem (by omega), Array.getElem?_eq_getElem (by omega)] at e
  simpa using e
variable (hk : ∀ i j, i < n → j < n → key i = key j → i = j)
include hk
theorem KP_ne {p : Array Nat} (h : PermR n p) {i j : Nat} (hi : i < n) (hj : j < n) (hij : i ≠ j) : KP key p i ≠ KP key p j := fun e => hij (h.inj hi hj (hk _ _ (h.lt hi) (h.lt hj) e))
omit hk
def Srt (key : Nat → Int) (p : Array Nat) (k : Nat) : Prop := ∀ i, i + 1 < k → KP key p i < KP key p (i + 1)
def DSrt (key : Nat → Int) (p : Array Nat) (k : Nat) : Prop := ∀ i, i + 1 < k → KP key p (i + 1) < KP key p i
theorem Srt.lt {p : Array Nat} {k : Nat} (h : Srt key p k) {i : Nat} : ∀ {j : Nat}, i < j → j < k → KP key p i < KP key p j
  | 0, hj, _ => by omega
  | j + 1, hj, hk => by
    by_cases e : i = j
    · subst e; exact h i hk
    · exact Int.lt_trans (h.lt (by omega) (by omega)) (h j hk)
theorem Srt.step {p : Array Nat} {k : Nat} (h : Srt key p k) (h1 : 1 ≤ k) (hl : KP key p (k - 1) < KP key p k) : Srt key p (k + 1) := fun i hi => by
  by_cases e : i + 1 < k
  · exact h i e
  · have : i = k - 1 := by omega
    subst this
    have e2 : k - 1 + 1 = k := by omega
    rw [e2]; exact hl
theorem DSrt.step {p : Array Nat} {k : Nat} (h : DSrt key p k) (h1 : 1 ≤ k) (hl : KP key p k < KP key p (k - 1)) : DSrt key p (k + 1) := fun i hi => by
  by_cases e : i + 1 < k
  · exact h i e
  · have : i = k - 1 := by omega
    subst this
    have e2 : k - 1 + 1 = k := by omega
    rw [e2]; exact hl
include hk
theorem ev_asc {p : Array Nat} (hp : PermR n p) : ∀ {f a : Nat} {Q : Nat → Prop}, 1 ≤ a → a + f ≤ n → Srt key p a → (∀ m, a ≤ m → m ≤ a + f → Srt key p m → (m < a + f → KP key p m < KP key p (m - 1)) → Q m) → evP key n (kas_asc p f a) Q
  | 0, a, Q, h1, h2, hs, hq => hq a (Nat.le_refl _) (Nat.le_refl _) hs fun h => absurd h (by omega)
  | f + 1, a, Q, h1, h2, hs, hq => by
    refine ⟨hp.lt (by omega), hp.lt (by omega), ?_⟩
    by_cases c : key (p.getD a 0) < key (p.getD (a - 1) 0)
    · rw [decide_eq_true c]
      exact hq a (Nat.le_refl _) (by omega) hs fun _ => c
    · rw [decide_eq_false c]
      have hne := KP_ne hk hp (i := a - 1) (j := a) (by omega) (by omega) (by omega)
      have hlt : KP key p (a - 1) < KP key p a := by
        unfold KP at hne ⊢; omega
      exact ev_asc hp (by omega) (by omega) (hs.step h1 hlt) fun m y1 y2 y3 y4 => hq m (by omega) (by omega) y3 fun h => y4 (by omega)
theorem ev_desc {p : Array Nat} (hp : PermR n p) : ∀ {f a : Nat} {Q : Array Nat × Nat × Nat → Prop}, 1 ≤ a → a + f ≤ n → DSrt key p a → (∀ m, a ≤ m → m ≤ a + f → DSrt key p m → Q (p, m, 0)) → evP key n (kas_desc f p a 0) Q
  | 0, a, Q, h1, h2, hs, hq => hq a (Nat.le_refl _) (Nat.le_refl _) hs
  | f + 1, a, Q, h1, h2, hs, hq => by
    refine ⟨hp.lt (by omega), hp.lt (by omega), ?_⟩
    by_cases c : key (p.getD a 0) < key (p.getD (a - 1) 0)
    · rw [decide_eq_true c]
      exact ev_desc hp (by omega) (by omega) (hs.step h1 c) fun m y1 y2 y3 => hq m (by omega) (by omega) y3
    · rw [decide_eq_false c]
      have hne := KP_ne hk hp (i := a - 1) (j := a) (by omega) (by omega) (by omega)
      have hlt : key (p.getD (a - 1) 0) < key (p.getD a 0) := by
        unfold KP at hne; omega
      refine ⟨hp.lt (by omega), hp.lt (by omega), ?_⟩
      rw [decide_eq_true hlt]
      exact hq a (Nat.le_refl _) (by omega) hs
theorem ev_tail3 {p : Array Nat} (hp : PermR n p) {a : Nat} {Q : Nat × Array Nat → Prop} (h1 : 1 ≤ a) (h2 : a ≤ n) (hs : DSrt key p a) (hq : ∀ m p', PermR n p' → 1 ≤ m → m ≤ n → Srt key p' m → Q (m, p')) : evP key n (kas_tail3 a n p) Q := by
  have hp' : PermR n (kas_rev p 0 a) := (mirror_perm _ _ _ _).trans hp
  have hsz := hp.size
  have e : ∀ i, i < a → KP key (kas_rev p 0 a) i = KP key p (a - 1 - i) := fun i hi => by
    have := getElem?_mirror_all (xs := p) (i := 0) (j := a) (by omega) i
    refine KP_congr (this.trans ?_)
    rw [if_pos ⟨Nat.zero_le _, hi⟩, Nat.zero_add]
  have hs' : Srt key (kas_rev p 0 a) a := fun i hi => by
    rw [e i (by omega), e (i + 1) hi]
    have := hs (a - 1 - (i + 1)) (by omega)
    rwa [show a - 1 - (i + 1) + 1 = a - 1 - i by omega] at this
  refine evP_bind _ (ev_asc hk hp' h1 (by omega) hs' fun m y1 y2 y3 _ => ?_)
  exact hq m _ hp' (by omega) (by omega) y3
theorem ev_count {p : Array Nat} (hp : PermR n p) (hn : 1 ≤ n) {Q : Nat × Array Nat → Prop} (hq : ∀ m p', PermR n p' → 1 ≤ m → m ≤ n → Srt key p' m → Q (m, p')) : evP key n (kas_count n p) Q := by
  refine evP_bind _ (ev_asc hk hp (Nat.le_refl _) (by omega) (fun i hi => by omega) fun m y1 y2 y3 y4 => ?_)
  by_cases e : m = n
  · rw [if_pos (by simpa using e)]
    subst e
    exact hq m p hp y1 (Nat.le_refl _) y3
  · rw [if_neg (by simpa using e)]
    by_cases e2 : m > 1
    · rw [if_pos e2]
      refine ⟨hp.lt (by omega), hp.lt (by omega), ?_⟩
      have := y3.lt (i := 0) (j := m - 1) (by omega) (by omega)
      unfold KP at this
      rw [decide_eq_true this]
      exact hq m p hp y1 (by omega) y3
    · rw [if_neg e2]
      have hm : m = 1 := by omega
      subst hm
      have hlt := y4 (by omega)
      refine evP_bind _ (ev_desc (f := n - (1 + 1)) (a := 1 + 1) hk hp (by omega) (by omega) (fun i hi => ?_) fun m z1 z2 z3 => ?_)
      · have : i = 0 := by omega
        subst this
        exact hlt
      · rw [if_neg (by simp)]
        exact ev_tail3 (a := m) hk hp (by omega) (by omega) z3 hq
theorem ev_place {p : Array Nat} (hp : PermR n p) {k : Nat} (hkn : k < n) (hs : Srt key p k) : ∀ {f l r : Nat} {Q : Nat → Prop}, l ≤ r → r ≤ k → r - l ≤ f → (∀ i, i < l → KP key p i < KP key p k) → (∀ i, r ≤ i → i < k → KP key p k < KP key p i) →
    (∀ l', l' ≤ k → (∀ i, i < l' → KP key p i < KP key p k) → (∀ i, l' ≤ i → i < k → KP key p k < KP key p i) → Q l') → evP key n (kas_place p k f l r) Q
  | 0, l, r, Q, h1, h2, h3, hl, hr, hq => hq l (by omega) hl fun i hi => hr i (by omega)
  | f + 1, l, r, Q, h1, h2, h3, hl, hr, hq => by
    unfold kas_place
    by_cases e : l ≥ r
    · rw [if_pos e]
      exact hq l (by omega) hl fun i hi => hr i (by omega)
    · rw [if_neg e]
      refine ⟨hp.lt hkn, hp.lt (by omega), ?_⟩
      by_cases c : key (p.getD k 0) < key (p.getD ((l + r) / 2) 0)
      · rw [decide_eq_true c]
        refine ev_place hp hkn hs (by omega) (by omega) (by omega) hl (fun i y1 y2 => ?_) hq
        by_cases e2 : i = (l + r) / 2
        · subst e2; exact c
        · exact Int.lt_trans c (hs.lt (i := (l + r) / 2) (by omega) y2)
      · rw [decide_eq_false c]
        have hne := KP_ne hk hp (i := (l + r) / 2) (j := k) (by omega) hkn (by omega)
        have hlt : KP key p ((l + r) / 2) < KP key p k := by
          unfold KP at hne ⊢; omega
        refine ev_place hp hkn hs (by omega) (by omega) (by omega) (fun i y1 => ?_) hr hq
        by_cases e2 : i = (l + r) / 2
        · subst e2; exact hlt
        · exact Int.lt_trans (hs.lt (i := i) (by omega) (by omega)) hlt
theorem ev_bin : ∀ {f k : Nat} {p : Array Nat} {Q : Array Nat → Prop}, PermR n p → k + f = n → Srt key p k → (∀ p', PermR n p' → Srt key p' n → Q p') → evP key n (kas_bin f p k) Q
  | 0, k, p, Q, hp, h1, hs, hq => hq p hp (by rw [show n = k by omega]; exact hs)
  | f + 1, k, p, Q, hp, h1, hs, hq => by
    refine evP_bind _ (ev_place hk hp (by omega) hs (Nat.zero_le _) (Nat.le_refl _) (by omega) (fun i hi => by omega) (fun i y1 y2 => by omega) fun l y1 y2 y3 => ?_)
    have hp' : PermR n (bubble p k (k - l)) := (bubble_perm _ _ _).trans hp
    have hsz := hp.size
    have e : ∀ i, KP key (bubble p k (k - l)) i = if i = l then KP key p k else if l < i ∧ i ≤ k then KP key p (i - 1) else KP key p i := fun i => by
      have := getElem?_bubble (xs := p) (src := k) (by omega) (k - l) (by omega) i
      rw [show k - (k - l) = l by omega] at this
      split
      · rename_i h; rw [if_pos h] at this; exact KP_congr this
      · rename_i h
        rw [if_neg h] at this
        split
        · rename_i h2; rw [if_pos h2] at this; exact KP_congr this
        · rename_i h2; rw [if_neg h2] at this; exact KP_congr this
    refine ev_bin hp' (by omega) (fun i hi => ?_) hq
    rw [e i, e (i + 1)]
    by_cases c1 : i = l
    · subst c1
      rw [if_pos rfl, if_neg (by omega), if_pos (by omega)]
      exact y3 i (Nat.le_refl _) (by omega)
    · rw [if_neg c1]
      by_cases c2 : i + 1 = l
      · rw [if_pos c2, if_neg (by omega)]
        exact y2 i (by omega)
      · rw [if_neg c2]
        by_cases c3 : l < i
        · rw [if_pos (by omega), if_pos (by omega)]
          have := hs (i - 1) (by omega)
          rwa [show i - 1 + 1 = i by omega, show (i + 1) - 1 = i by omega] at *
        · rw [if_neg (by omega), if_neg (by omega)]
          exact hs i (by omega)
/-- the sort puts distinct keys into their order -/
theorem ev_sort (hn : 1 ≤ n) : evP key n (kas_sort n) fun p => PermR n p ∧ Srt key p n := by
  have h0 : PermR n (List.toArray (List.range n)) := Array.Perm.refl _
  refine evP_bind _ (ev_count hk h0 hn fun m p' y1 y2 y3 y4 => ?_)
  have em : max m 1 = m := by omega
  dsimp only
  rw [em]
  by_cases c : m < n
  · rw [if_pos c]
    exact ev_bin hk y1 (by omega) y4 fun p'' z1 z2 => ⟨z1, z2⟩
  · rw [if_neg c]
    have : m = n := by omega
    subst this
    exact ⟨y1, y4⟩
end
end
section
section
variable {prog : Program} {w : World} {A : Around} {E : Value → Shared → Prop} {s : Shared} {h₀ : Heap} {L a d v : Addr} {m : Str → Option Value} {news : Ledger}

/-- sorting a list of at most one item -/
theorem sort_small {vs : List Value} {n : Nat} {Q : Value → Shared → Prop} (F : Fr h₀ L s.heap m) (N : News h₀ L s.heap ((a, listOf vs.toArray n) :: news)) (hna : ∀ p ∈ news, p.1 ≠ a) (h2 : vs.length < 2)
    (h : ∀ h' c, Fr h₀ L h' m → News h₀ L h' ((a, listOf vs.toArray c) :: news) → Q .none { s with heap := h' }) :
    wpAny (model prog w) A (call (.builtin "list.sort") [.ref a]) Q E s := by
  obtain ⟨ho, haL, ha0⟩ := N _ (.head _)
  dsimp only at ho haL ha0
  have N₀ : News h₀ L s.heap news := fun p hp => N p (.tail _ hp)
  refine wpAny_call_entry slot_list_sort ⟨_, ho, rfl⟩ entry_list_sort ?_ (args_list_sort _)
  have s1 := Heap.SameBut.update s.heap a (Obj.mapSeq fun _ => (#[] : Array Value))
  obtain ⟨e1, ho1⟩ : ∃ e1, (s.heap.update a (Obj.mapSeq fun _ => (#[] : Array Value))).get? a = some (seqObj "list" #[] e1) := ⟨_, get?_update_seq ho fun _ => #[]⟩
  have F3 : Fr h₀ L (((s.heap.update a (Obj.mapSeq fun _ => (#[] : Array Value))).push (seqObj "tuple" vs.toArray 0)).push (seqObj "list" #[] 0)) m := ((kas_fr F s1 haL ha0).push _).push _
  have N2 : News h₀ L (((s.heap.update a (Obj.mapSeq fun _ => (#[] : Array Value))).push (seqObj "tuple" vs.toArray 0)).push (seqObj "list" #[] 0)) news :=
    (kas_news N₀ s1 hna).grown fun b x e => Heap.get?_push_of_some _ (Heap.get?_push_of_some _ e)
  have na : (((s.heap.update a (Obj.mapSeq fun _ => (#[] : Array Value))).push (seqObj "tuple" vs.toArray 0)).push (seqObj "list" #[] 0)).get? a = some (seqObj "list" #[] e1) := Heap.get?_push_of_some _ (Heap.get?_push_of_some _ ho1)
  rw [list_sort_plain]
  refine wpAny_bind (listItems_at ho rfl ?_)
  refine wpAny_bind (listUpdate_at ho rfl ?_ (by rw [List.size_toArray, sizeLine_eq]; omega) (Nat.zero_le _))
  refine wpAny_bind (seqEpoch_at ho1 rfl ?_)
  refine wpAny_bind (wpAny_newTuple ?_ (by show vs.length ≤ _; rw [sizeLine_eq]; omega))
  refine wpAny_bind (wpAny_newList ?_ (Nat.zero_le _))
  refine wpAny_holding ?_
  show wpAny (model prog w) A.in1 _ _ E { s with heap := ((s.heap.update a (Obj.mapSeq fun _ => (#[] : Array Value))).push (seqObj "tuple" vs.toArray 0)).push (seqObj "list" #[] 0) }
  dsimp only
  have hn2 : vs.toArray.size < 2 := by rw [List.size_toArray]; omega
  rw [if_pos hn2, if_pos hn2]
  refine wpAny_bind (wpAny_pure ?_)
  refine wpAny_bind (wpAny_pure ?_)
  dsimp only
  have hout : Array.map (fun x : Keyed => x.2) (arrOf (SortSt.mk' general' (vs.toArray.zip vs.toArray) #[] 7 none)) = vs.toArray := by
    apply Array.toList_inj.mp
    show (Array.map (fun x : Keyed => x.2) (vs.toArray.zip vs.toArray)).toList = _
    rw [Array.toList_map]
    simp
    exact List.map_snd_zip (Nat.le_refl _)
  rw [hout]
  have s2 := Heap.SameBut.update (((s.heap.update a (Obj.mapSeq fun _ => (#[] : Array Value))).push (seqObj "tuple" vs.toArray 0)).push (seqObj "list" #[] 0)) a (Obj.mapSeq fun _ => vs.toArray)
  obtain ⟨c2, hc2⟩ : ∃ c2, ((((s.heap.update a (Obj.mapSeq fun _ => (#[] : Array Value))).push (seqObj "tuple" vs.toArray 0)).push (seqObj "list" #[] 0)).update a (Obj.mapSeq fun _ => vs.toArray)).get? a = some (seqObj "list" vs.toArray c2) := ⟨_, get?_update_seq na fun _ => vs.toArray⟩
  refine wpAny_bind (seqEpoch_at na rfl ?_)
  refine wpAny_bind (listUpdate_at na rfl ?_ (Nat.zero_le _) (by rw [List.size_toArray, sizeLine_eq]; omega))
  simp only [bne_self_eq_false, Bool.false_eq_true, if_false]
  refine wpAny_pure ⟨_, rfl, h _ c2 (kas_fr F3 s2 haL ha0) fun p hp => ?_⟩
  rcases List.mem_cons.mp hp with rfl | hp
  · exact ⟨hc2, haL, ha0⟩
  · exact kas_news N2 s2 hna p hp

/-- the pairs of a dict as a list of tuples -/
def TupsAre (tups : Ledger) (vs : List Value) (ql : List (Int × Int)) : Prop := All2 (fun v q => ∃ b t u, v = Value.ref b ∧ (b, tupOf [.int q.1 t, .int q.2 u]) ∈ tups) vs ql
theorem TupsAre.mono {tups tups' : Ledger} {vs : List Value} {ql : List (Int × Int)} (h : TupsAre tups vs ql) (hs : ∀ q ∈ tups, q ∈ tups') : TupsAre tups' vs ql :=
  All2.mono h fun _ _ ⟨b, t, u, e, hm⟩ => ⟨b, t, u, e, hs _ hm⟩
theorem TupsAre.snoc {tups : Ledger} {vs : List Value} {ql : List (Int × Int)} {v : Value} {q : Int × Int} (h : TupsAre tups vs ql) (hv : ∃ b t u, v = Value.ref b ∧ (b, tupOf [.int q.1 t, .int q.2 u]) ∈ tups) : TupsAre tups (vs ++ [v]) (ql ++ [q]) :=
  All2.append h (.cons hv .nil)

theorem open_all {lo : Addr} {C : List Value → Ledger → Prop} : ∀ (kvs : List (Int × Value)) (dl ql : List (Int × Int)) (vs : List Value) (tups : Ledger), ValsAre kvs dl → TupsAre tups vs ql → (∀ q ∈ tups, ∀ r ∈ news, @LT.lt Nat _ r.1 q.1) → (tups.map (·.1)).Nodup →
    (∀ vs' tups', TupsAre tups' vs' (ql ++ dl) → (∀ q ∈ tups', ∀ r ∈ news, @LT.lt Nat _ r.1 q.1) → C vs' tups') → KdxOpen lo news (kvs.map fun p => (kyVal (PyData.int p.1), p.2)) vs tups C
  | [], [], ql, vs, tups, _, ht, ha, hn, hC => hC vs tups (by rw [List.append_nil]; exact ht) ha
  | (k, v) :: kvs, q :: dl, ql, vs, tups, .cons e hv, ht, ha, hn, hC => by
    refine KdxOpen.cons fun b t h1 h2 h3 => ?_
    obtain ⟨e1, u, e2⟩ := e
    dsimp only at e1 e2
    subst e1 e2
    refine open_all kvs dl (ql ++ [q]) _ _ hv (TupsAre.snoc (ht.mono fun q hq => .tail _ hq) ⟨b, t, u, rfl, .head _⟩) (fun q' hq' => ?_) (by simp only [List.map_cons, List.nodup_cons]; exact ⟨fun hm => by obtain ⟨z, hz, e⟩ := List.mem_map.mp hm; have := h3 z hz; rw [e] at this; exact absurd this (Nat.lt_irrefl _), hn⟩) fun vs' tups' y1 y2 => hC vs' tups' (by rw [List.append_assoc] at y1; exact y1) y2
    rcases List.mem_cons.mp hq' with rfl | hq'
    · exact h2
    · exact ha q' hq'
end

section
variable {prog : Program} {w : World} {A : Around} {E : Value → Shared → Prop} {s : Shared} {h₀ : Heap} {L a d v : Addr} {m : Str → Option Value} {news : Ledger}
theorem tups_get {tups : Ledger} {vs : List Value} {ql : List (Int × Int)} (h : TupsAre tups vs ql) {i : Nat} (hi : i < vs.length) : ∃ b t u, vs.getD i .none = Value.ref b ∧ (b, tupOf [.int (ql.getD i (0, 0)).1 t, .int (ql.getD i (0, 0)).2 u]) ∈ tups := by
  have e1 : vs[i]? = some (vs.getD i .none) := by simp [List.getD_eq_getElem?_getD, hi]
  obtain ⟨q, hq, b, t, u, e, hm⟩ := All2.get h e1
  have e2 : ql.getD i (0, 0) = q := by simp [List.getD_eq_getElem?_getD, hq]
  exact ⟨b, t, u, e, by rw [e2]; exact hm⟩
theorem tups_kat {h : Heap} {tups : Ledger} (N : News h₀ L h tups) : ∀ {vs : List Value} {ql : List (Int × Int)}, TupsAre tups vs ql → ∃ fs, KatTups h vs fs ∧ fs.length = vs.length ∧ ∀ f ∈ fs, ∃ n t, f = Value.int n t
  | [], _, _ => ⟨[], trivial, rfl, fun _ h => nomatch h⟩
  | v :: vs, q :: ql, .cons ⟨b, t, u, e, hm⟩ r => by
    obtain ⟨fs, k1, k2, k3⟩ := tups_kat N r
    subst e
    refine ⟨.int q.1 t :: fs, KatTups.cons (N _ hm).1 rfl rfl rfl k1, by simp [k2], fun f hf => ?_⟩
    rcases List.mem_cons.mp hf with rfl | hf
    · exact ⟨_, _, rfl⟩
    · exact k3 f hf
theorem ask_lt {tups : Ledger} {x y : Addr} {k1 k2 v1 v2 : Int} {t1 t2 u1 u2 : Tok} {C : Bool → Shared → Prop} (N : News h₀ L s.heap tups) (hx : (x, tupOf [.int k1 t1, .int v1 u1]) ∈ tups) (hy : (y, tupOf [.int k2 t2, .int v2 u2]) ∈ tups) (he : k1 = k2 → v1 = v2)
    (h : C (decide (k1 < k2)) s) : wpAny (model prog w) A (keyLt' (tuples' true) (.ref x) (.ref y)) C (fun _ _ => False) s := by
  refine kat_lt (N _ hx).1 rfl (N _ hy).1 rfl ?_
  show KatLex prog w A true _ C [(.int k1 t1, .int k2 t2), (.int v1 u1, .int v2 u2)] 0 s
  refine kat_cons (wpAny_eqBool_int ?_)
  by_cases e : k1 = k2
  · have e2 := he e
    subst e e2
    rw [show (k1 == k1) = true by simp]
    refine kat_yes (kat_cons (wpAny_eqBool_int ?_))
    rw [show (v1 == v1) = true by simp]
    refine kat_yes (kat_nil ?_)
    have : decide (k1 < k1) = false := by simp
    rw [this] at h
    exact h
  · rw [show (k1 == k2) = false by simpa using e]
    exact kat_no (oneLt_int h)
theorem key_inj {dl : List (Int × Int)} (hn : (keys dl).Nodup) {i j : Nat} (hi : i < dl.length) (hj : j < dl.length) (e : (dl.getD i (0, 0)).1 = (dl.getD j (0, 0)).1) : i = j := by
  have hi' : i < (keys dl).length := by simpa using hi
  have hj' : j < (keys dl).length := by simpa using hj
  refine (List.getElem_inj (h₀ := hi') (h₁ := hj') hn).mp ?_
  simp only [keys, List.getElem_map]
  simpa [List.getD_eq_getElem?_getD, hi, hj] using e
theorem build_small {dl : List (Int × Int)} (h : dl.length < 2) : build dl = dl := by
  match dl, h with
  | [], _ => rfl
  | [q], _ => rfl
theorem sort_build {dl : List (Int × Int)} (hn : (keys dl).Nodup) {p : Array Nat} (hp : PermR dl.length p) (hs : Srt (fun i => (dl.getD i (0, 0)).1) p dl.length) : build dl = p.toList.map fun i => dl.getD i (0, 0) := by
  refine sorted_ext build_sorted ?_ fun q => ?_
  · have hsz := hp.size
    unfold Sorted keys
    rw [List.map_map]
    refine List.pairwise_iff_getElem.mpr fun i j hi hj hij => ?_
    rw [List.length_map] at hi hj
    have hj' : j < p.size := by simpa using hj
    have := Srt.lt hs (i := i) (j := j) hij (by omega)
    unfold KP at this
    simpa [Array.getD_eq_getD_getElem?, Array.getElem?_eq_getElem hj', Array.getElem?_eq_getElem (show i < p.size by omega)] using this
  · rw [build_mem hn, List.mem_map]
    constructor
    · intro hq
      obtain ⟨i, hi, e⟩ := List.mem_iff_getElem.mp hq
      refine ⟨i, (hp.toList.mem_iff).mpr (by simpa using hi), ?_⟩
      simp [List.getD_eq_getElem?_getD, hi, e]
    · rintro ⟨i, hi, rfl⟩
      have : i < dl.length := by simpa using (hp.toList.mem_iff).mp hi
      simp [List.getD_eq_getElem?_getD, this]
theorem tups_map {tups : Ledger} {vs : List Value} {ql : List (Int × Int)} (h : TupsAre tups vs ql) : ∀ (l : List Nat), (∀ i ∈ l, i < vs.length) → TupsAre tups (l.map fun i => vs.getD i .none) (l.map fun i => ql.getD i (0, 0))
  | [], _ => .nil
  | i :: l, hl => .cons (let ⟨b, t, u, e, hm⟩ := tups_get h (hl i (.head _)); ⟨b, t, u, e, hm⟩) (tups_map h l fun j hj => hl j (.tail _ hj))

theorem swap_mem {x y : Ledger} : ∀ q ∈ y ++ x, q ∈ x ++ y := fun _ hq => (List.mem_append.mp hq).elim (fun h => List.mem_append_right _ h) fun h => List.mem_append_left _ h
theorem swap_tail {p : Addr × Obj} {x y : Ledger} : ∀ q ∈ p :: (y ++ x), q ∈ p :: (x ++ y) := fun q hq => by
  rcases List.mem_cons.mp hq with rfl | hq
  · exact .head _
  · exact .tail _ (swap_mem q hq)
theorem sorted_items {o : Obj} {dl : List (Int × Int)} {Q : Value → Shared → Prop} (hh : A.handled = none) (F : Fr h₀ L s.heap m) (N : News h₀ L s.heap news) (hvw : (v, { cls := .type "dict_items", data := .fields #[.ref d] }) ∈ news) (hmd : (d, o) ∈ news) (hD : DictSt prog w o dl) (hlen : dl.length ≤ 60)
    (h : ∀ B h' tk its tups c, Fr h₀ L h' m → News h₀ L h' ((B, listOf its.toArray c) :: (news ++ tups)) → TupsAre tups its (build dl) → (∀ q ∈ news ++ tups, @LT.lt Nat _ q.1 B) → (∀ q ∈ tups, ∀ r ∈ news, @LT.lt Nat _ r.1 q.1) → Q (.ref B) { s with heap := h', toks := tk }) :
    wpAny (model prog w) A (call (.builtin "sorted") [.ref v]) Q E s := by
  have hn := hD.nodup
  obtain ⟨kvs, hdo, hv⟩ := hD
  refine kdx_sortedN (knd := intKind prog w) (enc := PyData.int) (ps := kvs.map fun p => (kyVal (PyData.int p.1), p.2)) hh F N hvw hmd hdo (by rw [hv.length]; omega) (fun _ _ h => Value.isInt_shape h) rfl fun lo hlo => ?_
  refine open_all kvs dl [] [] [] hv .nil (fun _ h => nomatch h) List.nodup_nil fun vs tups hT hab => ?_
  rw [List.nil_append] at hT
  intro B h' tk hB F' N'
  have hvl : vs.length = dl.length := hT.length
  by_cases h2 : vs.length < 2
  · refine sort_small (vs := vs) F' N' (fun q hq => Nat.ne_of_lt (hB q hq)) h2 fun h3 c F3 N3 => ?_
    exact h B h3 tk vs tups c F3 (nsub N3 swap_tail) (by rw [build_small (by omega)]; exact hT) (fun q hq => hB q (swap_mem q hq)) hab
  · refine kat_lsort (vs := vs) F' N' (.head fun q hq => Nat.ne_of_lt (hB q hq)) rfl (by omega) (by omega) fun e1 h3 F3 N3 => ?_
    have Nt : News h₀ L h3 tups := fun q hq => N3 q (.tail _ (List.mem_append_left _ hq))
    obtain ⟨fs, k1, k2, k3⟩ := tups_kat Nt hT
    refine kat_kind (T := .type "int") k1 (by omega) (fun f hf => ?_) (by rfl) ?_
    · obtain ⟨n, t, rfl⟩ := k3 f hf
      exact Looks.of_pure rfl
    rw [show (Value.type "int" != Value.type "tuple") = true by decide]
    refine evP_wp (key := fun i => (dl.getD i (0, 0)).1) (n := vs.length) (fun i j C hi hj hC => ?_) _ (evP_mono (fun p hp => ?_) _ (ev_sort (fun i j hi hj e => ?_) (by omega)))
    · obtain ⟨x, t1, u1, ex, hx⟩ := tups_get hT hi
      obtain ⟨y, t2, u2, ey, hy⟩ := tups_get hT hj
      show wpAny _ _ (keyLt' _ (vs.getD i .none) (vs.getD j .none)) _ _ _
      rw [ex, ey]
      refine ask_lt Nt hx hy (fun e => ?_) hC
      have : i = j := key_inj hn (by omega) (by omega) e
      subst this; rfl
    · obtain ⟨hp1, hp2⟩ := hp
      rw [hvl] at hp1 hp2
      refine KasFin.intro F3 N3 (.head fun q hq => Nat.ne_of_lt (hB q hq)) fun h4 c F4 N4 => ?_
      refine h B h4 _ _ tups c F4 (nsub N4 swap_tail) ?_ (fun q hq => hB q (swap_mem q hq)) hab
      rw [sort_build hn hp1 hp2]
      exact tups_map hT _ fun i hi => by
        have : i < dl.length := by simpa using (hp1.toList.mem_iff).mp hi
        omega
    · exact key_inj hn (by omega) (by omega) e
end
end
section
section
open PyProof.Rows.LCg
variable {prog : Program} {w : World} {A : Around} {E : Value → Shared → Prop} {s : Shared} {h₀ : Heap} {L : Addr} {m : Str → Option Value} {env : Env}
/-- the numbers of a list of pairs, by a comprehension -/
theorem comp_keys {x x₂ : Str} {px : PySem.Pos} {scope : Scope} {cl : List (Str × Addr)} {S : Ledger → Prop} {Fin : List Value → Ledger → Prop} {its : List Value} {ql : List (Int × Int)} {news : Ledger} (hT : TupsAre news its ql) (hS : S news)
    (hk : ∀ C, (compEnvC scope cl C env).scope.kind = .function) (hl : ∀ C, (compEnvC scope cl C env).kindOf x = some .local) (hd : (x == ("__debug__" : Str)) = false)
    (hF : ∀ ys, IntsAre ys (keys ql) → Fin ys news) : ∀ (k i : Nat) (ys : List Value), i + k = its.length → IntsAre ys ((keys ql).take i) →
    LCp.CompRestP prog w A h₀ L m env (.Name x px) x x₂ scope cl s S (fun i v => its.toArray[i]? = some v) Fin k i ys news
  | 0, i, ys, hi, hy => LCp.CompRestP.zero (hF ys (by
      have : (keys ql).take i = keys ql := List.take_of_length_le (by have := hT.length; simp only [keys, List.length_map]; omega)
      rw [this] at hy; exact hy))
  | k + 1, i, ys, hi, hy => LCp.CompRestP.succ fun v hv => by
      obtain ⟨q, hq, b, t, u, rfl, hm⟩ := All2.get hT (by simpa using hv)
      refine ⟨b, _, .int q.1 t, .int q.2 u, _, rfl, hm, rfl, rfl, ?_⟩
      intro I oI C oC D m₂ h tk E' hC hx hx2 F N off ne
      refine LCgL.ld_own N (.tail _ (.head _)) hC hx ?_ (hk C) (hl C) hd
      refine CompEnd.intro F N news (fun p hp => hp) off hS ?_
      refine comp_keys hT hS hk hl hd hF k (i + 1) _ (by omega) ?_
      have e : (keys ql).take (i + 1) = (keys ql).take i ++ [q.1] := by
        rw [List.take_add_one]
        congr 1
        simp [keys, hq]
      rw [e]
      exact IntsAre.append hy (.cons _ _ .nil)
end
end
section
def PostC (h₀ : Heap) (L : Addr) (m₀ : Str → Option Value) (cA : Addr) (oc : Obj) (R' : Ledger) (s₁ : Shared) (RR : Result → Shared → Prop) (f : Flow) (s₂ : Shared) : Prop :=
  match f with
  | .ret v => RR (.ok (.ret v)) s₂
  | .brk => RR (.ok .next) s₂
  | _ => ∃ h' tk news', s₂ = { s₁ with heap := h', toks := tk } ∧ Fr h₀ L h' m₀ ∧ News h₀ L h' news' ∧ (cA, oc) ∈ news' ∧ ∀ q ∈ R', q ∈ news'

section
variable {prog : Program} {w : World} {A : Around} {E : Value → Shared → Prop} {s : Shared} {env : Env} {h₀ : Heap}
/-- a loop over a range whose name is a cell; the body changes nothing that it finds -/
theorem cellLoop {RR : Result → Shared → Prop} {x : Str} {px : PySem.Pos} {body : List Stmt} {r : Addr} {a₀ b₀ st : Int} {t₀ u₀ v₀ : Tok} {n : Nat} {m₀ : Str → Option Value} {R : Ledger} {cA : Addr} {oc₀ : Obj} {vc : Option Value}
    (hh : A.handled = none) (hr : IsRange s.heap r a₀ b₀ st t₀ u₀ v₀) (hsmall : Builtin.Range.small a₀ b₀ st = true) (hn : Builtin.Range.rangeSize a₀ b₀ st = (n : Int)) (hsk : env.scope.kind = .function) (hx : env.kindOf x = some .cell) (hxc : env.cells.lookup x = some cA)
    (hc0 : oc₀.data = .cell vc) (F : Fr h₀ env.locals s.heap m₀) (N : News h₀ env.locals s.heap ((cA, oc₀) :: R)) (hap : ∀ q ∈ R, q.1 ≠ cA)
    (turn : ∀ i oc t h tk R' (E' : Value → Shared → Prop), i < n → oc.data = .cell (some (.int (a₀ + (i : Nat) * st) t)) → (∀ q ∈ R, q ∈ R') → (∀ q ∈ R', q.1 ≠ cA) → Fr h₀ env.locals h m₀ → News h₀ env.locals h ((cA, oc) :: R') →
      wpAny (model prog w) A (execs body env) (PostC h₀ env.locals m₀ cA oc R' { s with heap := h, toks := tk } RR) E' { s with heap := h, toks := tk })
    (done : ∀ oc h tk, Fr h₀ env.locals h m₀ → News h₀ env.locals h ((cA, oc) :: R) → RR (.ok .next) { s with heap := h, toks := tk }) :
    wpAny (model prog w) A (pyIter (.ref r)) (fun it s₂ => codeAny (model prog w) A (.forLoop (.Name x px) it body [] env) RR s₂) E s := by
  refine wpAny_pyIter_range hr hsmall ?_
  have W : Walks prog w A s.heap.objs.size [s.heap.objs.size] [s.heap.objs.size] n (fun i v => i < n ∧ ∃ t, v = .int (a₀ + (i : Nat) * st) t)
      (fun i h => IsRangeIter h s.heap.objs.size (a₀ + (i : Nat) * st) ((n : Int) - (i : Nat)) st) := (Walks.range hh _ a₀ st n).bound
  have hItN : ∀ q ∈ (cA, oc₀) :: R, q.1 ≠ s.heap.objs.size := fun q hq => Nat.ne_of_lt (Heap.lt_size (N q hq).1)
  have hLI : env.locals ≠ s.heap.objs.size := Nat.ne_of_lt F.ns.lt
  have hI0 : h₀.get? s.heap.objs.size = none := next_is_new F
  have hcL := (N _ (.head _)).2.1
  have hc0' := (N _ (.head _)).2.2
  dsimp only at hcL hc0'
  have hcI : cA ≠ s.heap.objs.size := hItN _ (.head _)
  have loop : ∀ s' : Shared, (∃ h' tk oc vc, s' = { s with heap := h', toks := tk } ∧ IsRangeIter h' s.heap.objs.size (a₀ + ((0 : Nat) : Int) * st) ((n : Int) - ((0 : Nat) : Int)) st ∧ Fr h₀ env.locals h' m₀ ∧ oc.data = .cell vc ∧ News h₀ env.locals h' ((cA, oc) :: R)) →
      codeAny (model prog w) A (.forLoop (.Name x px) (.ref s.heap.objs.size) body [] env) RR s' := by
    rintro s' ⟨h', tk, oc, vc, rfl, hst, F', hcd, N'⟩
    refine codeAny_forLoop
      (fun k s' => ∃ h' tk i oc vc, s' = { s with heap := h', toks := tk } ∧ IsRangeIter h' s.heap.objs.size (a₀ + (i : Nat) * st) ((n : Int) - (i : Nat)) st ∧ Fr h₀ env.locals h' m₀ ∧ oc.data = .cell vc ∧ News h₀ env.locals h' ((cA, oc) :: R) ∧ i ≤ n ∧ k = n + 1 - i) ?_ (n + 1)
      ⟨h', tk, 0, oc, vc, rfl, hst, F', hcd, N', Nat.zero_le _, rfl⟩
    rintro k s' ⟨H, tk, i, oc, vc, rfl, hst', F', hcd, N', hi, rfl⟩
    have next : ∀ h₁ : Heap, (∀ b o, b ∉ [s.heap.objs.size] → H.get? b = some o → h₁.get? b = some o) → Fr h₀ env.locals h₁ m₀ ∧ News h₀ env.locals h₁ ((cA, oc) :: R) := fun h₁ hk₁ =>
      ⟨LCg.fr_but F' hk₁ hLI hI0, LCg.news_but N' hk₁ fun q hq => by
        rcases List.mem_cons.mp hq with rfl | hq
        · exact hcI
        · exact hItN q (.tail _ hq)⟩
    by_cases hlt : i < n
    · refine W.item i _ _ _ hlt hst' fun v h₁ tk₁ hPt hst₁ hk₁ => ?_
      obtain ⟨_, t, rfl⟩ := hPt
      obtain ⟨F₁, N₁⟩ := next h₁ hk₁
      refine wpAny_assign_Name (wpAny_storeName_cell hsk hx hxc ⟨oc, (N₁ _ (.head _)).1, hcd⟩ fun h₅ hc₅ hs₅ => ?_)
      obtain ⟨oc5, hoc5, hd5⟩ := hc₅
      have F₅ : Fr h₀ env.locals h₅ m₀ := kas_fr F₁ hs₅ hcL hc0'
      have hst₅ : IsRangeIter h₅ s.heap.objs.size (a₀ + ((i + 1 : Nat) : Int) * st) ((n : Int) - ((i + 1 : Nat) : Int)) st := W.frame _ _ _ hst₁ fun b hb o e => (hs₅.2 b (by rw [List.mem_singleton.mp hb]; exact hcI.symm)).trans e
      have NR : News h₀ env.locals h₅ R := kas_news (fun q hq => N₁ q (.tail _ hq)) hs₅ hap
      have Nw : News h₀ env.locals h₅ (ownOf h₀ [s.heap.objs.size] h₅) := news_ownOf (by intro hm; exact hLI (List.mem_singleton.mp hm))
      have N₅ : News h₀ env.locals h₅ ((cA, oc5) :: (ownOf h₀ [s.heap.objs.size] h₅ ++ R)) := fun q hq => by
        rcases List.mem_cons.mp hq with rfl | hq
        · exact ⟨hoc5, hcL, hc0'⟩
        · exact (List.mem_append.mp hq).elim (Nw q) (NR q)
      refine wpAny_mono (turn i oc5 t h₅ _ (ownOf h₀ [s.heap.objs.size] h₅ ++ R) _ hlt hd5 (fun q hq => List.mem_append_right _ hq) (fun q hq => ?_) F₅ N₅) (fun f s₃ h₆ => ?_) fun _ _ e => e
      · rcases List.mem_append.mp hq with hq | hq
        · have := ownOf_sub q hq
          rw [List.mem_singleton.mp this]
          exact hcI.symm
        · exact hap q hq
      have fin : ∀ tkx, (∃ h' tk news', s₃ = { { s with heap := h₅, toks := tkx } with heap := h', toks := tk } ∧ Fr h₀ env.locals h' m₀ ∧ News h₀ env.locals h' news' ∧ (cA, oc5) ∈ news' ∧ ∀ q ∈ ownOf h₀ [s.heap.objs.size] h₅ ++ R, q ∈ news') →
          ∃ k', k' < n + 1 - i ∧ ∃ h' tk i oc vc, s₃ = { s with heap := h', toks := tk } ∧ IsRangeIter h' s.heap.objs.size (a₀ + (i : Nat) * st) ((n : Int) - (i : Nat)) st ∧ Fr h₀ env.locals h' m₀ ∧ oc.data = .cell vc ∧ News h₀ env.locals h' ((cA, oc) :: R) ∧ i ≤ n ∧ k' = n + 1 - i := by
        rintro tkx ⟨h', tk', news', rfl, F₆, N₆, hm, hr⟩
        refine ⟨n + 1 - (i + 1), by omega, h', tk', i + 1, oc5, _, rfl, W.frame _ _ _ hst₅ (fun b hb o e => ?_), F₆, hd5, fun q hq => ?_, hlt, rfl⟩
        · rw [List.mem_singleton.mp hb] at e ⊢
          exact (N₆ _ (hr _ (List.mem_append_left _ (mem_ownOf (.head _) hI0 e)))).1
        · rcases List.mem_cons.mp hq with rfl | hq
          · exact N₆ _ hm
          · exact N₆ q (hr q (List.mem_append_right _ hq))
      cases f with
      | ret v => exact h₆
      | brk => exact h₆
      | cont => exact fin _ h₆
      | next => exact fin _ h₆
    · have hin : i = n := by omega
      subst hin
      refine W.done _ _ _ hst' fun h₁ tk₁ hk₁ => wpAny_execs_nil ?_
      obtain ⟨F₁, N₁⟩ := next h₁ hk₁
      exact done oc h₁ tk₁ F₁ N₁
  refine loop _ ⟨_, s.toks, oc₀, vc, rfl, ?_, F.push _, hc0, fun q hq => ⟨Heap.get?_push_of_some _ (N q hq).1, (N q hq).2⟩⟩
  show IsRangeIter _ _ _ _ _
  rw [hn]
  simpa using Heap.get?_push_size s.heap (o := { cls := .type "range_iterator", data := .fields #[rawInt a₀, rawInt n, rawInt st] }) rfl
end
end
section
/-! a comprehension over a list of pairs with a test, where the test and the item touch nothing -/
section
open PyProof.Rows.LCg
variable {prog : Program} {w : World} {A : Around} {E : Value → Shared → Prop} {s : Shared} {h₀ : Heap} {L : Addr} {m : Str → Option Value} {env : Env}

theorem compLoop_test {elt iter ct : PySem.Expr} {elts : List PySem.Expr} {x1} {tp : PySem.Pos} {scope : Scope} {pos : PySem.Pos} {it acc : Value} {env : Env} {R : Result → Shared → Prop} (I : Nat → Shared → Prop)
    (turn : ∀ n s, I n s → wpAny (model prog w) A (pyNext it) (fun r s₁ => match r with
      | none => R (.ok .next) s₁
      | some v => wpAny (model prog w) A (letOwnedTupleGo (.Tuple elts x1 tp) it v) (fun _ s₁' => wpAny (model prog w) A (assign (.Tuple elts x1 tp) env v) (fun _ s₂ =>
          wpAny (model prog w) A (isTrue ct env (eval ct env)) (fun ok s₃ => if ok = true then wpAny (model prog w) A (eval elt env) (fun x s₄ =>
              wpAny (model prog w) A (call (.builtin "list.append") [acc, x]) (fun _ s₅ => ∃ m, m < n ∧ I m s₅) (notedBy (model prog w) A env fun e s' => R (.error e) s') s₄) (notedBy (model prog w) A env fun e s' => R (.error e) s') s₃
            else ∃ m, m < n ∧ I m s₃) (notedBy (model prog w) A env fun e s' => R (.error e) s') s₂)
          (notedBy (model prog w) A env fun e s' => R (.error e) s') s₁') (notedBy (model prog w) A env fun e s' => R (.error e) s') s₁) (notedBy (model prog w) A env fun e s' => R (.error e) s') s)
    (n : Nat) (h : I n s) : codeAny (model prog w) A (.compLoop (.ListComp elt [⟨.Tuple elts x1 tp, iter, [ct], 0⟩] scope pos) 0 it acc env) R s := by
  refine codeAny_loop rfl I (fun n s hI => ?_) n h
  show wpAny _ A ((compTurn (.ListComp elt [⟨.Tuple elts x1 tp, iter, [ct], 0⟩] scope pos) 0 it acc env).onRaise (fun x => do noteFrame x env; theTreesLotGoes x)) _ _ s
  refine wpAny_noted ?_
  rw [compTurn_list]
  refine wpAny_bind (wpAny_standAt (wpAny_bind (wpAny_mono (turn n s hI) (fun r s₁ h₁ => ?_) fun _ _ h' => h')))
  cases r with
  | none => exact wpAny_pure h₁
  | some v =>
    refine wpAny_bind (wpAny_mono h₁ (fun _ s₁' h₁' => ?_) fun _ _ h' => h')
    refine wpAny_bind (wpAny_mono h₁' (fun _ s₂ h₂ => ?_) fun _ _ h' => h')
    refine wpAny_bind (wpAny_mono (wpAny_tests_one h₂) (fun ok s₃ h₃ => ?_) fun _ _ h' => h')
    cases ok with
    | true =>
      simp only [if_true] at h₃ ⊢
      exact wpAny_bind (wpAny_bind (wpAny_mono h₃ (fun x s₄ h₄ => wpAny_bind (wpAny_mono h₄ (fun _ s₅ h₅ => wpAny_pure (wpAny_pure ⟨rfl, h₅⟩)) fun _ _ h' => h')) fun _ _ h' => h'))
    | false =>
      simp only [Bool.false_eq_true, if_false] at h₃ ⊢
      exact wpAny_pure ⟨rfl, h₃⟩
end

section
open PyProof.Rows.LCg
variable {prog : Program} {w : World} {A : Around} {E : Value → Shared → Prop} {s : Shared} {h₀ : Heap} {L : Addr} {m : Str → Option Value} {env : Env}
theorem comp_test {elt iter ct : PySem.Expr} {x x₂ : Str} {px px₂ tp : PySem.Pos} {tk0} {scope : Scope} {cl : List (Str × Addr)} {pos : PySem.Pos} {Q : Value → Shared → Prop} {ax : Addr} {its : List Value} {ql : List (Int × Int)} {b : Int × Int → Bool} {Y : Value → Int × Int → Prop} {news : Ledger} {k0 : Nat}
    (hh : A.handled = none) (F : Fr h₀ L s.heap m) (N : News h₀ L s.heap news) (hax : (ax, listOf its.toArray k0) ∈ news) (hT : TupsAre news its ql) (hsz : its.length ≤ 1000)
    (hclos : closureFor scope env = pure cl) (hcell : ∀ y ∈ scope.names, y.2 ≠ .cell) (hkind : scope.kind = .function) (hnames : ∀ y ∈ scope.names, y.2 = .local → scope.names.lookup y.1 = some .local) (hx : scope.names.lookup x = some .local) (hx₂ : scope.names.lookup x₂ = some .local) (hxx : x ≠ x₂)
    (hs : ∀ v, foldedSetIterable iter env v = pure v) (hiter : ∀ Q' : Value → Shared → Prop, Q' (.ref ax) s → wpAny (model prog w) A (eval iter env) Q' E s)
    (test : ∀ q ∈ ql, ∀ C m₂ h tk t u (E' : Value → Shared → Prop), h.Ns C m₂ → m₂ x = some (.int q.1 t) → m₂ x₂ = some (.int q.2 u) → Fr h₀ L h m → News h₀ L h news →
      wpAny (model prog w) A (isTrue ct (compEnvC scope cl C env) (eval ct (compEnvC scope cl C env))) (fun ok s' => ok = b q ∧ ∃ tk', s' = { s with heap := h, toks := tk' }) E' { s with heap := h, toks := tk })
    (item : ∀ q ∈ ql, b q = true → ∀ C m₂ h tk t u (E' : Value → Shared → Prop), h.Ns C m₂ → m₂ x = some (.int q.1 t) → m₂ x₂ = some (.int q.2 u) → Fr h₀ L h m → News h₀ L h news →
      wpAny (model prog w) A (eval elt (compEnvC scope cl C env)) (fun y s' => Y y q ∧ ∃ tk', s' = { s with heap := h, toks := tk' }) E' { s with heap := h, toks := tk })
    (done : ∀ D h tk ys, Fr h₀ L h m → News h₀ L h ((D, lst ys) :: news) → (∀ p ∈ news, p.1 ≠ D) → All2 Y ys (ql.filter b) → Q (.ref D) { s with heap := h, toks := tk }) :
    wpAny (model prog w) A (eval (.ListComp elt [⟨.Tuple [.Name x px, .Name x₂ px₂] tk0 tp, iter, [ct], 0⟩] scope pos) env) Q E s := by
  rw [eval_ListComp]
  refine wpAny_comprehension_free (use := none) rfl hs hclos hkind hnames (hiter _ ?_)
  have hl : s.heap.IsList ax its.toArray := PySem.IsL.isList (n := k0) (N _ hax).1
  have hlt : ax < s.heap.objs.size := by obtain ⟨_, e, _⟩ := hl; exact Heap.lt_size e
  refine wpAny_pyIter_list hl ?_
  have hTl := hT.length
  generalize hI : s.heap.objs.size = I
  have W := Walks.list (prog := prog) (w := w) hh I ax (by rw [← hI]; exact Nat.ne_of_lt hlt) its.toArray
  refine wpAny_newObj_type (wpAny_newFunctionEnv hcell (by intro y hy; simp at hy) (fun h₁ hns₁ hsb₁ => ?_) hkind)
  dsimp only at hns₁ hsb₁ ⊢
  generalize hH1 : s.heap.push { cls := .type "list_iterator", data := .fields #[.ref ax, .int 0 0] } = H1 at hns₁ hsb₁ ⊢
  have hD : H1.objs.size = I + 1 := by rw [← hH1, Heap.size_push, hI]
  generalize hH2 : H1.push { cls := .type "list", dict := none, data := .seq ([] : List Value).toArray } = H2 at hns₁ hsb₁ ⊢
  have hC : H2.objs.size = I + 2 := by rw [← hH2, Heap.size_push, hD]
  rw [hC] at hns₁ hsb₁ ⊢
  rw [hD]
  have old : ∀ c o, s.heap.get? c = some o → h₁.get? c = some o := fun c o e => by
    have h9 : @LT.lt Nat _ c I := by rw [← hI]; exact Heap.lt_size e
    refine hsb₁.extBut c o (Nat.ne_of_lt (Nat.lt_of_lt_of_le h9 (Nat.le_add_right I 2))) ?_
    refine Heap.get?_push_of_some _ ?_
    rw [← hH2, ← hH1]
    exact Heap.get?_push_of_some _ (Heap.get?_push_of_some _ e)
  have hacc : h₁.get? (I + 1) = some (lst []) := by
    refine hsb₁.extBut _ _ (Nat.ne_of_lt (Nat.lt_succ_self (I + 1))) (Heap.get?_push_of_some _ ?_)
    rw [← hH2, ← hD]
    exact Heap.get?_push_size _ rfl
  have hit : h₁.IsListIter I ax 0 := by
    refine ⟨{ cls := .type "list_iterator", data := .fields #[.ref ax, .int 0 0] }, hsb₁.extBut _ _ (Nat.ne_of_lt (show @LT.lt Nat _ I (I + 2) from Nat.lt_add_of_pos_right (Nat.succ_pos 1))) (Heap.get?_push_of_some _ ?_), rfl, rfl⟩
    rw [← hH2, ← hH1, ← hI]
    exact Heap.get?_push_of_some _ (Heap.get?_push_size _ rfl)
  have hns : h₁.Ns (I + 2) (fun _ => none) := hns₁
  have fresh₀ : ∀ c, @LE.le Nat _ I c → h₀.get? c = none := fun c hc => by
    cases e : h₀.get? c with
    | none => rfl
    | some o => exact absurd (Heap.lt_size (F.keep c o e)) (by rw [hI]; exact Nat.not_lt.mpr hc)
  have hLlt : @LT.lt Nat _ L I := by rw [← hI]; exact F.ns.lt
  have off : ∀ q ∈ news, @LT.lt Nat _ q.1 I := fun q hq => by rw [← hI]; exact Heap.lt_size (N q hq).1
  have hlist : h₁.IsList ax its.toArray := PySem.IsL.isList (n := k0) (old _ _ (N _ hax).1)
  have axlt : @LT.lt Nat _ ax I := off _ hax
  have nL : L ≠ I ∧ L ≠ I + 1 ∧ L ≠ I + 2 := ⟨Nat.ne_of_lt hLlt, Nat.ne_of_lt (Nat.lt_succ_of_lt hLlt), Nat.ne_of_lt (Nat.lt_succ_of_lt (Nat.lt_succ_of_lt hLlt))⟩
  have loop : ∀ s₃ : Shared, (∃ tk, s₃ = { s with heap := h₁, toks := tk }) →
      codeAny (model prog w) A (.compLoop (.ListComp elt [⟨.Tuple [.Name x px, .Name x₂ px₂] tk0 tp, iter, [ct], 0⟩] scope pos) 0 (.ref I) (.ref (I + 1)) (compEnvC scope cl (I + 2) env))
        (compPost (model prog w) A E none Q (.ref (I + 1)) (I + 2)) s₃ := by
    rintro s₃ ⟨tk1, rfl⟩
    refine compLoop_test
      (fun k s' => ∃ h' tk i ys m', s' = { s with heap := h', toks := tk } ∧ i ≤ its.length ∧ k = its.length + 1 - i ∧ ys.length ≤ i ∧ h'.IsListIter I ax i ∧ h'.IsList ax its.toArray ∧ Fr h₀ L h' m ∧ h'.Ns (I + 2) m' ∧ News h₀ L h' ((I + 1, lst ys) :: news) ∧ All2 Y ys ((ql.take i).filter b)) ?_ (its.length + 1)
      ⟨h₁, _, 0, [], _, rfl, Nat.zero_le _, rfl, Nat.zero_le _, hit, hlist, F.keeps old, hns, fun q hq => ?_, .nil⟩
    · rintro k s' ⟨h', tk, i, ys, m', rfl, hi, rfl, hyl, hI', hli', F', hn', N', hY⟩
      have offI : ∀ q ∈ (I + 1, lst ys) :: news, q.1 ≠ I := fun q hq => by
        rcases List.mem_cons.mp hq with rfl | hq
        · exact Nat.ne_of_gt (Nat.lt_succ_self I)
        · exact Nat.ne_of_lt (off q hq)
      by_cases hlt' : i < its.length
      · refine W.item i _ _ _ (by simpa using hlt') ⟨hI', hli'⟩ fun v h₂ tk₂ hPv hst₂ hk₂ => ?_
        obtain ⟨q, hq, bb, t, u, rfl, hm⟩ := All2.get hT (by simpa using hPv)
        have hqm : q ∈ ql := List.mem_of_getElem? hq
        have N₂ : News h₀ L h₂ ((I + 1, lst ys) :: news) := news_but N' hk₂ offI
        have ht : IsTup h₂ bb #[.int q.1 t, .int q.2 u] := ⟨_, (N₂ _ (.tail _ hm)).1, rfl, _, rfl⟩
        refine wpAny_letOwnedTupleGo_listiter hst₂.1 ?_
        refine assign_Tuple_tuple hh ht rfl rfl fun h₅ he => ?_
        have he' : ∀ b o, h₂.get? b = some o → h₅.get? b = some o := fun b o e => he b o (Nat.ne_of_lt (Heap.lt_size e)) e
        refine assignInOrder_cons (wpAny_assign_Name (wpAny_storeName_local (lookup_relabel_local hx) ((hn'.at' fun o e => hk₂ _ o (by simp) e).at' fun o e => he' _ o e) (fun h₆ hn₆ hs₆ => ?_) (by simp [compEnvC, relabel, hkind])))
        refine assignInOrder_cons (wpAny_assign_Name (wpAny_storeName_local (lookup_relabel_local hx₂) hn₆ (fun h₃ hn₃ hs₃ => ?_) (by simp [compEnvC, relabel, hkind])))
        refine assignInOrder_nil ?_
        have hCL : I + 2 ≠ L := nL.2.2.symm
        have hC₀ := fresh₀ (I + 2) (Nat.le_add_right I 2)
        have old3 : ∀ b o, b ≠ I + 2 → h₂.get? b = some o → h₃.get? b = some o := fun b o hb e => hs₃.extBut b o hb (hs₆.extBut b o hb (he' b o e))
        have nC : ∀ q ∈ (I + 1, lst ys) :: news, q.1 ≠ I + 2 := fun q hq => by
          rcases List.mem_cons.mp hq with rfl | hq
          · exact Nat.ne_of_lt (Nat.lt_succ_self (I + 1))
          · exact Nat.ne_of_lt (Nat.lt_of_lt_of_le (off q hq) (Nat.le_add_right I 2))
        have F₃ : Fr h₀ L h₃ m := (((fr_but F' hk₂ nL.1 (fresh₀ I (Nat.le_refl _))).keeps he').change hs₆ hCL hC₀).change hs₃ hCL hC₀
        have N₃ : News h₀ L h₃ ((I + 1, lst ys) :: news) := fun p hp => ⟨old3 _ _ (nC p hp) (N₂ p hp).1, (N₂ p hp).2⟩
        have hst₃ : h₃.IsListIter I ax (i + 1) ∧ h₃.IsList ax its.toArray := W.frame _ _ _ hst₂ fun c hc o e => by
          refine old3 c o ?_ e
          simp only [List.mem_cons, List.not_mem_nil, or_false] at hc
          rcases hc with rfl | rfl
          · exact Nat.ne_of_lt (show @LT.lt Nat _ c (c + 2) from Nat.lt_add_of_pos_right (Nat.succ_pos 1))
          · exact Nat.ne_of_lt (Nat.lt_of_lt_of_le axlt (Nat.le_add_right I 2))
        have Nn : News h₀ L h₃ news := fun p hp => N₃ p (.tail _ hp)
        have etake : ql.take (i + 1) = ql.take i ++ [q] := by rw [List.take_add_one, hq]; rfl
        refine wpAny_mono (test q hqm (I + 2) _ h₃ _ t u _ hn₃ (by simp [hxx]) (by simp) F₃ Nn) (fun ok s₄ hs => ?_) fun _ _ e => e
        obtain ⟨rfl, tk4, rfl⟩ := hs
        cases hb : b q with
        | false =>
          rw [if_neg (by simp)]
          exact ⟨_, by omega, h₃, tk4, i + 1, ys, _, rfl, hlt', rfl, by omega, hst₃.1, hst₃.2, F₃, hn₃, N₃, by rw [etake, List.filter_append]; simpa [hb] using hY⟩
        | true =>
          rw [if_pos rfl]
          refine wpAny_mono (item q hqm hb (I + 2) _ h₃ _ t u _ hn₃ (by simp [hxx]) (by simp) F₃ Nn) (fun y s₅ hs => ?_) fun _ _ e => e
          obtain ⟨hy, tk5, rfl⟩ := hs
          refine append_at (hsz := by show ys.toArray.size ≤ sizeLine; rw [List.size_toArray, sizeLine_eq]; omega) (N₃ _ (.head _)).1 fun h₇ hs₇ hD₇ => ?_
          refine ⟨_, by omega, h₇, tk5, i + 1, ys ++ [y], _, rfl, hlt', rfl, by rw [List.length_append, List.length_singleton]; omega, ?_, ?_, F₃.change hs₇ nL.2.1.symm (fresh₀ _ (Nat.le_succ I)), hn₃.sameBut hs₇ (Nat.ne_of_gt (Nat.lt_succ_self (I + 1))), fun p hp => ?_, by rw [etake, List.filter_append]; exact All2.append hY (by simpa [hb] using All2.cons hy .nil)⟩
          · exact (W.frame _ _ _ hst₃ fun c hc o e => hs₇.extBut c o (by
              simp only [List.mem_cons, List.not_mem_nil, or_false] at hc
              rcases hc with rfl | rfl
              · exact Nat.ne_of_lt (Nat.lt_succ_self c)
              · exact Nat.ne_of_lt (Nat.lt_succ_of_lt axlt)) e).1
          · exact (W.frame _ _ _ hst₃ fun c hc o e => hs₇.extBut c o (by
              simp only [List.mem_cons, List.not_mem_nil, or_false] at hc
              rcases hc with rfl | rfl
              · exact Nat.ne_of_lt (Nat.lt_succ_self c)
              · exact Nat.ne_of_lt (Nat.lt_succ_of_lt axlt)) e).2
          · rcases List.mem_cons.mp hp with rfl | hp
            · exact ⟨hD₇.trans (congrArg some (lst_snoc ys y)), (N₃ _ (.head _)).2⟩
            · exact ⟨hs₇.extBut _ _ (Nat.ne_of_lt (Nat.lt_succ_of_lt (off p hp))) (Nn p hp).1, (Nn p hp).2⟩
      · have hin : i = its.length := by omega
        have hsz2 : its.toArray.size = i := by simp [hin]
        refine W.done _ _ _ (show h'.IsListIter I ax its.toArray.size ∧ h'.IsList ax its.toArray by rw [hsz2]; exact ⟨hI', hli'⟩) fun h₂ tk₂ hk₂ => ?_
        have F₂ := fr_but F' hk₂ nL.1 (fresh₀ I (Nat.le_refl _))
        have N₂ := news_but N' hk₂ offI
        have eall : ql.take i = ql := List.take_of_length_le (by omega)
        rw [eall] at hY
        refine ⟨m', hn'.at' fun o e => hk₂ _ o (by simp) e, fun h₇ hs₇ => done (I + 1) h₇ tk₂ ys (F₂.change hs₇ nL.2.2.symm (fresh₀ _ (Nat.le_add_right I 2))) (fun p hp => ⟨hs₇.extBut _ _ ?_ (N₂ p hp).1, (N₂ p hp).2⟩) (fun p hp => Nat.ne_of_lt (Nat.lt_succ_of_lt (off p hp))) hY⟩
        rcases List.mem_cons.mp hp with rfl | hp
        · exact Nat.ne_of_lt (Nat.lt_succ_self (I + 1))
        · exact Nat.ne_of_lt (Nat.lt_of_lt_of_le (off p hp) (Nat.le_add_right I 2))
    · rcases List.mem_cons.mp hq with rfl | hq
      · exact ⟨hacc, nL.2.1.symm, fresh₀ _ (Nat.le_succ I)⟩
      · exact ⟨old _ _ (N q hq).1, (N q hq).2⟩
  have hst₁ : h₁.IsListIter I ax 0 ∧ h₁.IsList ax its.toArray := ⟨hit, hlist⟩
  exact codeAny_compStart_list (loop _ ⟨_, rfl⟩) (W.self 0 _ _ _ hst₁ (loop _ ⟨_, rfl⟩))
end
end
section
/-! a comprehension over a list of pairs whose item makes things -/
def EachEnd (h₀ : Heap) (L : Addr) (m : Str → Option Value) (s : Shared) (R : Ledger) (Y : Ledger → Value → Prop) (y : Value) (s' : Shared) : Prop :=
  ∃ h' tk' new, s' = { s with heap := h', toks := tk' } ∧ Fr h₀ L h' m ∧ News h₀ L h' (new ++ R) ∧ Above new R ∧ Y new y
section
open PyProof.Rows.LCg
variable {prog : Program} {w : World} {A : Around} {E : Value → Shared → Prop} {s : Shared} {h₀ : Heap} {L : Addr} {m : Str → Option Value} {env : Env}
theorem comp_each {elt : PySem.Expr} {x x₂ : Str} {scope : Scope} {cl : List (Str × Addr)} {S : Ledger → Prop} {Fin : List Value → Ledger → Prop} {its : List Value} {ql : List (Int × Int)} {news : Ledger} {Y : Ledger → Value → Int × Int → Prop}
    (hT : TupsAre news its ql) (mono : ∀ J J' v q, (∀ z ∈ J, z ∈ J') → Y J v q → Y J' v q) (hS : ∀ new, S (new ++ news))
    (step : ∀ q ∈ ql, ∀ R I oI C oC D oD m₂ h tk t u (E' : Value → Shared → Prop), (∀ z ∈ news, z ∈ R) → NsObj oC m₂ → m₂ x = some (.int q.1 t) → m₂ x₂ = some (.int q.2 u) → Fr h₀ L h m → News h₀ L h ((I, oI) :: (C, oC) :: (D, oD) :: R) →
      wpAny (model prog w) A (eval elt (compEnvC scope cl C env)) (EachEnd h₀ L m s ((I, oI) :: (C, oC) :: (D, oD) :: R) (fun new y => Y new y q)) E' { s with heap := h, toks := tk })
    (hF : ∀ ys new, All2 (Y new) ys ql → Above new news → Fin ys (new ++ news)) :
    ∀ (k i : Nat) (ys : List Value) (new : Ledger), i + k = its.length → All2 (Y new) ys (ql.take i) → Above new news →
      LCp.CompRestP prog w A h₀ L m env elt x x₂ scope cl s S (fun i v => its.toArray[i]? = some v) Fin k i ys (new ++ news)
  | 0, i, ys, new, hi, hy, ha => LCp.CompRestP.zero (hF ys new (by
      have : ql.take i = ql := List.take_of_length_le (by have := hT.length; omega)
      rw [this] at hy; exact hy) ha)
  | k + 1, i, ys, new, hi, hy, ha => LCp.CompRestP.succ fun v hv => by
      obtain ⟨q, hq, b, t, u, rfl, hm⟩ := All2.get hT (by simpa using hv)
      refine ⟨b, _, .int q.1 t, .int q.2 u, _, rfl, List.mem_append_right _ hm, rfl, rfl, ?_⟩
      intro I oI C oC D m₂ h tk E' hC hx hx2 F N off ne
      refine wpAny_mono (step q (List.mem_of_getElem? hq) (new ++ news) I oI C oC D (lst ys) m₂ h tk t u E' (fun z hz => List.mem_append_right _ hz) hC hx hx2 F N) (fun y s' hs => ?_) fun _ _ e => e
      obtain ⟨h', tk', new1, rfl, F', N', ha1, hY⟩ := hs
      refine CompEnd.intro (s₁ := { s with heap := h, toks := tk }) F' N' ((new1 ++ new) ++ news) (fun p hp => ?_) ?_ (hS _) ?_
      · simp only [List.mem_cons, List.mem_append] at hp ⊢
        rcases hp with hp | hp | hp | (hp | hp) | hp
        · exact .inr (.inl hp)
        · exact .inr (.inr (.inl hp))
        · exact .inr (.inr (.inr (.inl hp)))
        · exact .inl hp
        · exact .inr (.inr (.inr (.inr (.inl hp))))
        · exact .inr (.inr (.inr (.inr (.inr hp))))
      · refine Off3.of fun p hp => ?_
        rw [List.append_assoc] at hp
        rcases List.mem_append.mp hp with hp | hp
        · exact ⟨Nat.ne_of_gt (ha1 p hp _ (.head _)), Nat.ne_of_gt (ha1 p hp _ (.tail _ (.head _))), Nat.ne_of_gt (ha1 p hp _ (.tail _ (.tail _ (.head _))))⟩
        · exact off.mem p hp
      · refine comp_each hT mono hS step hF k (i + 1) _ (new1 ++ new) (by omega) ?_ ?_
        · have e : ql.take (i + 1) = ql.take i ++ [q] := by rw [List.take_add_one, hq]; rfl
          rw [e]
          exact All2.append (hy.mono fun a b h => mono _ _ _ _ (fun z hz => List.mem_append_right _ hz) h) (.cons (mono _ _ _ _ (fun z hz => List.mem_append_left _ hz) hY) .nil)
        · exact Above.append_left (ha1.sub fun z hz => .tail _ (.tail _ (.tail _ (List.mem_append_right _ hz)))) ha
end

/-! rows as data -/
def rowD (x : Int) : Dat := .list [.tuple [.str (Str.ofString "word"), .str (Str.ofString "PRINT")], .tuple [.str (Str.ofString "number"), .int x]]
theorem row_dat {J : Ledger} {v : Value} {x : Int} (h : RowIn J v x) : DatIn J v (rowD x) := by
  obtain ⟨r, a, b, t1, t2, t3, t4, rfl, h1, h2, h3⟩ := h
  exact .list h1 (.cons (.tuple h2 (.cons (.str _ _) (.cons (.str _ _) .nil))) (.cons (.tuple h3 (.cons (.str _ _) (.cons (.int _ _) .nil))) .nil))
theorem rows_dat {J : Ledger} {vs : List Value} {xs : List Int} (h : All2 (RowIn J) vs xs) : DatAll J vs (xs.map rowD) := by
  induction h with
  | nil => exact .nil
  | cons e _ ih => exact .cons (row_dat e) ih
theorem rowD_ok (x : Int) : kqdOk 8 (rowD x) = true := by
  simp only [rowD, kqdOk, List.all_cons, List.all_nil, Bool.and_true]
  decide +kernel
theorem rowsD_ok (xs : List Int) : ∀ d ∈ xs.map rowD, kqdOk 8 d = true := fun d hd => by
  obtain ⟨x, _, rfl⟩ := List.mem_map.mp hd
  exact rowD_ok x
theorem lt_count : ∀ {ns : List Int} {k : Int}, ns.Pairwise (· < ·) → (ns.filter fun x => decide (x < k)).length = pos ns k
  | [], _, _ => rfl
  | x :: r, k, h => by
    obtain ⟨h1, h2⟩ := List.pairwise_cons.mp h
    by_cases e : x < k
    · rw [List.filter_cons_of_pos (by simpa using e), List.length_cons, lt_count h2]
      simp [pos, e]
    · have : (x :: r).filter (fun x => decide (x < k)) = [] := List.filter_eq_nil_iff.mpr fun y hy => by
        rcases List.mem_cons.mp hy with rfl | hy
        · simpa using e
        · have := h1 y hy; simp; omega
      rw [this]
      simp [pos, e]
theorem lt_count2 {pl : List (Int × Int)} {k : Int} (h : Sorted pl) : (pl.filter fun q => decide (q.1 < k)).length = pos (keys pl) k := by
  rw [filter_low h, List.length_take]
  have := pos_le (keys pl) k
  simp only [keys, List.length_map] at this ⊢
  omega

section
variable {prog : Program} {w : World} {A : Around} {E : Value → Shared → Prop} {s : Shared} {h₀ : Heap} {L a b : Addr} {news n₁ n₂ : Ledger} {xs ys : List Value} {ka kb : Nat} {ds : List Dat} {Q : Value → Shared → Prop}
theorem dat_eq (N : News h₀ L s.heap news) (ma : (a, listOf xs.toArray ka) ∈ news) (Da : DatAll n₁ xs ds) (sa : ∀ p ∈ n₁, p ∈ news)
    (mb : (b, listOf ys.toArray kb) ∈ news) (Db : DatAll n₂ ys ds) (sb : ∀ p ∈ n₂, p ∈ news)
    (ha : ∀ d ∈ ds, kqdOk 8 d = true) (hu : A.units + 64 < cLine) (h : Q (.bool true) s) : wpAny (model prog w) A (compareOp .Eq (.ref a) (.ref b)) Q E s :=
  kqd_eq N ma rfl rfl Da sa mb rfl rfl Db sb ha ha hu (by simpa using h)
theorem dat_ne (N : News h₀ L s.heap news) (ma : (a, listOf xs.toArray ka) ∈ news) (Da : DatAll n₁ xs ds) (sa : ∀ p ∈ n₁, p ∈ news)
    (mb : (b, listOf ys.toArray kb) ∈ news) (Db : DatAll n₂ ys ds) (sb : ∀ p ∈ n₂, p ∈ news)
    (ha : ∀ d ∈ ds, kqdOk 8 d = true) (hu : A.units + 64 < cLine) (h : Q (.bool false) s) : wpAny (model prog w) A (compareOp .NotEq (.ref a) (.ref b)) Q E s :=
  kqd_ne N ma rfl rfl Da sa mb rfl rfl Db sb ha ha hu (by simpa using h)
end
theorem All2.vals {P : Value → Int → Prop} {vs : List Value} {ql : List (Int × Int)} (h : All2 (fun v (q : Int × Int) => P v q.2) vs ql) : All2 P vs (vals ql) := by
  induction h with
  | nil => exact .nil
  | cons e _ ih => exact .cons e ih
end
section
section
local macro_rules | `(tactic| kc_enter) => `(tactic| (refine' code_defC ?k1 ?k2 ?k3 ?k4 ?k5 ?kA ?kF ?kK ?k6 ?k7 ?k8 ?k9 ?kB ?kD ?_ ?c2 ?c3 ?c4; (case kA => exact rfl); (case kF => exact rfl); (case kK => first | exact rfl | assumption); (case k1 => k_asm); (case k2 => k_asm); (case k3 => k_asm); (case k4 => k_asm); (case k5 => k_asm); (case k6 => k_is); (case k7 => k_is); (case k8 => ktr_room); (case k9 => exact BindsTo.of_eq rfl); (case kB => exact rfl); (case kD => decide +kernel); (case c2 => exact rfl); (case c3 => exact rfl); (case c4 => exact rfl); k_whole; intro g' L' h' tk' cells' FG' F' N' Y' B' X' T' l1; (try k_lt l1); k_cells Y'; (try simp only [List.cons_append, List.nil_append] at N'); (try dsimp only); (try k_fold)))
local macro_rules | `(tactic| walk_at "exec For Name Call cons nil") => `(tactic| (k_here; (with_unfolding_all refine wpAny_For ?_ (by intro _; rfl))))
local macro_rules | `(tactic| walk_at "exec For Tuple Call cons nil") => `(tactic| (k_here; (with_unfolding_all refine wpAny_For ?_ (by intro _; rfl))))
set_option maxRecDepth 100000 in
set_option maxHeartbeats 8000000 in
theorem is_walk {prog : Program} {w : World} {M J R : Ledger} {dd p : Addr} {o : Obj} {pl dl : List (Int × Int)}
    (hP : ProgSt M J p pl) (hM : ∀ q ∈ M, q ∈ R) (hJ : ∀ q ∈ J, q ∈ R) (hdm : (dd, o) ∈ R) (lo : (dd == sysModules) = false) (hD : DictSt prog w o dl) (hS : Sorted pl) (hG : GoodKeys pl) (hag : Agree pl dl) :
    Spec 100 200 prog w 158 [.ref p, .ref dd] R (fun v news' => v = .bool true ∧ news' = R) := by
  k_with_none
  w_top off
  have hfill : PySem.Challenge.rw_sa0631_01 = PySem.Challenge.rw_sa0631_01 ∧ @hd.heap_39 = hd.heap_39 := by (k_fill; exact ⟨rfl, rfl⟩)
  clear hfill
  intro mean mg mb dp un gd cn cs a0 ccd cl outer A₀ base h₀ L m s Q E B F X N0 T hk hdp hun ret
  obtain ⟨kvs, hdo, hv⟩ := id hD
  obtain ⟨d, a, b, c1, c2, t1, t2, n2, n3, vs, rs, rfl, hda, hdb, hab, hp, hI, hr⟩ := id hP
  have hlen := good_len hS hG
  have hdg : GoodKeys dl := fun q hq => hG q ((hag q).mpr hq)
  have hdl := hdg.length hD.nodup
  have hdp' := hJ _ hp
  have g1 := hM _ (.head _)
  have g2 := hM _ (.tail _ (.head _))
  have g3 := hM _ (.tail _ (.tail _ (.head _)))
  have hbd : build dl = pl := sorted_ext build_sorted hS fun q => (build_mem hD.nodup q).trans (hag q).symm
  have N := nadd (nadd (nadd (nadd (nadd N0 hdm) (.tail _ g3)) (.tail _ (.tail _ g2))) (.tail _ (.tail _ (.tail _ g1)))) (.tail _ (.tail _ (.tail _ (.tail _ hdp'))))
  clear N0
  (refine wpAny_call ?_); (k_dflt kc_enter); k_with_none
  rename_i g L1 hh _ FG F0 B1 X1 T1 l1 oc dc0 N1
  have F1 : Fr g L1 hh (fun y => if y = Str.ofString "lines" then some (Value.ref dd) else if y = Str.ofString "program" then some (Value.ref p) else none) := by with_unfolding_all exact F0
  have dc : oc.data = .cell none := by with_unfolding_all exact dc0
  clear F0 dc0 N
  k_with "call builtin:sorted" => (k_here; refine' sorted_items (d := dd) (o := o) (dl := dl) ?z9h ?z9F ?z9N ?z9v ?z9d hD ?z9l ?_; (case z9h => rfl); (case z9F => k_asm); (case z9N => k_asm); (case z9v => k_mem); (case z9d => k_mem); (case z9l => omega); rw [hbd]; intro B9 h9 tk9 its9 tups9 c9 F9 N9 hT9 hB9 hab9; (simp only [List.cons_append, List.nil_append] at N9 hB9); (replace hB9 := allLt_of hB9); (simp only [AllLt] at hB9); (try dsimp only); (try k_sweep); (try k_fold))
  k_with "exec If" => (refine Stop.on ?_)
  k_steps
  refine Stop.off ?_
  k_with_none
  rename_i DV _ lv _ F1 N1
  k_with "SrcLP" => (refine Stop.on ?_)
  k_steps
  refine Stop.off ?_
  refine LCp.SrcLP.ledger (its := its9.toArray) (k := c9) rfl (by assumption) N1 (.head _) (by rw [List.size_toArray, sizeLine_eq, hT9.length]; omega) fun gg => comp_keys (hT9.mono (by kst_inAny)) (.inr ⟨_, .head _, rfl, _, rfl⟩) (fun _ => rfl) (fun _ => rfl) (by decide) (fun ys hy => ?_) _ 0 [] (by simp) .nil
  intro DL h2 tk2 F2 N2 o2
  refine ke_ne_ints (News.isList N2 (.tail _ (.tail _ (.tail _ (.tail _ (.tail _ (.tail _ (.head _)))))))) (News.isList N2 (.head _)) hI hy (by ktr_units) ?_
  rw [show (!decide (keys pl = keys pl)) = false by simp]
  k_with_none
  replace N2 := nsub (l' := (B9, listOf its9.toArray c9) :: (L1 + 1, oc) :: (p, instObj 79 d) :: (d, progDict c1 c2 t1 t2 a b 2) :: (a, listOf vs.toArray n2) :: (b, listOf rs.toArray n3) :: (dd, o) :: (R ++ tups9)) N2 (by kst_inAny)
  clear N1 F1
  k_steps
  rename_i _ _ _ hrg F3 N3 _
  refine cellLoop (n := 8) (R := (B9, listOf its9.toArray c9) :: (p, instObj 79 d) :: (d, progDict c1 c2 t1 t2 a b 2) :: (a, listOf vs.toArray n2) :: (b, listOf rs.toArray n3) :: (dd, o) :: (R ++ tups9)) (cA := L1 + 1) (oc₀ := oc) rfl hrg (by decide) (by decide) rfl rfl rfl dc F3 (nsub N3 (by kst_inAny)) ?_ ?_ ?_
  · intro q hq
    have tup : ∀ q ∈ tups9, @LT.lt Nat _ (L1 + 1) q.1 := fun q hq => hab9 q hq (L1 + 1, oc) (.tail _ (.head _))
    simp only [List.mem_cons, List.mem_append] at hq
    rcases hq with rfl | rfl | rfl | rfl | rfl | rfl | hq | hq
    · exact Nat.ne_of_gt hB9.2.1
    · exact Nat.ne_of_lt (Nat.lt_succ_of_lt l1.1)
    · exact Nat.ne_of_lt (Nat.lt_succ_of_lt l1.2.1)
    · exact Nat.ne_of_lt (Nat.lt_succ_of_lt l1.2.2.1)
    · exact Nat.ne_of_lt (Nat.lt_succ_of_lt l1.2.2.2.1)
    · exact Nat.ne_of_lt (Nat.lt_succ_of_lt l1.2.2.2.2.1)
    · exact Nat.ne_of_lt (Nat.lt_succ_of_lt (allLt_get l1.2.2.2.2.2 q hq))
    · exact Nat.ne_of_gt (tup q hq)
  · intro i oc2 t h tk R' E' hi hcd hR hRne F' N'
    have N5 := nsub (l' := (L1 + 1, oc2) :: (B9, listOf its9.toArray c9) :: (p, instObj 79 d) :: (d, progDict c1 c2 t1 t2 a b 2) :: (a, listOf vs.toArray n2) :: (b, listOf rs.toArray n3) :: (dd, o) :: R') N' (fun q hq => by
      simp only [List.mem_cons] at hq
      rcases hq with rfl | rfl | rfl | rfl | rfl | rfl | rfl | hq
      · exact .head _
      all_goals first | exact .tail _ hq | exact .tail _ (hR _ (by simp)))
    clear N'
    k_with_none
    k_with "callWith" => ((with_reducible show wpAny _ _ (callWith _ (Value.builtin "len") _ _ _) _ _ _); refine Stop.on ?_)
    k_with "call ref" => (k_here; (with_reducible show wpAny _ _ (call (Value.ref 90) [_, _]) _ _ _); with_unfolding_all refine' Spec.use ?B ?F ?X ?N ?T ?hk (place_spec (h1 := c1) (h2 := c2) (t1 := t1) (t2 := t2) (d := d) (a := a) (b := b) (n1 := 2) (n2 := n2) (vs := vs) (ns := keys pl) ?p1 ?p2 ?p3 hI hS ?p6) ?hd ?hu ?_; (case B => k_asm); (case F => k_asm); (case X => k_asm); (case N => k_asm); (case T => k_asm); (case hk => first | exact rfl | assumption); (case hd => ktr_room); (case hu => ktr_units); (case p1 => k_mem); (case p2 => k_mem); (case p3 => k_mem); (case p6 => (simp only [keys, List.length_map]; omega)); rintro _ _ h9 tk9 ⟨tr9, rfl, rfl⟩ F9 N9; (try dsimp only); (try k_sweep); (try k_fold))
    k_steps
    refine Stop.off ?_
    k_with_none
    with_unfolding_all refine PySem.callWith_builtin1 ?_
    refine' comp_test (its := its9) (ql := pl) (x := Str.ofString "one") (x₂ := Str.ofString "printed") (ax := B9) (k0 := c9) (b := fun q => decide (q.1 < 0 + (i : Int) * 10)) (Y := fun y q => ∃ t, y = .int q.1 t) (cl := [(Str.ofString "number", L1 + 1)]) ?z9h ?z9F ?z9N ?z9X ?z9T ?z9s ?z9c ?z9n ?z9k ?z9m ?z9x ?z9y ?z9q ?z9f ?z9i ?z9t ?z9e ?z9d
    case z9h => rfl
    case z9F => exact F9
    case z9N => exact N9
    case z9X => k_mem
    case z9n => decide
    case z9k => rfl
    case z9m => decide
    case z9x => rfl
    case z9y => rfl
    case z9q => decide
    case z9f => intro _; rfl
    case z9T => exact hT9.mono (fun q hq => .tail _ (.tail _ (.tail _ (.tail _ (.tail _ (.tail _ (.tail _ (hR q (by simp [hq])))))))))
    case z9s => rw [hT9.length]; omega
    case z9c => with_unfolding_all rfl
    case z9i =>
      intro Q' hQ
      k_steps
      exact hQ
    case z9t =>
      intro q hq C m₂ h3 tk3 t3 u3 E3 hC hx hx2 F3 N3
      refine wpAny_isTrue_Compare1 ?_
      refine ldVarK hC hx ?_
      refine ldCellK (c := L1 + 1) rfl ⟨_, (N3 _ (by k_mem)).1, hcd⟩ ?_
      refine lt_int ?_
      refine wpAny_truthy_bool ?_
      exact ⟨rfl, _, rfl⟩
    case z9e =>
      intro q hq _ C m₂ h3 tk3 t3 u3 E3 hC hx hx2 F3 N3
      refine ldVarK hC hx ?_
      exact ⟨⟨_, rfl⟩, _, rfl⟩
    case z9d =>
      intro D h3 tk3 ys3 F3 N3 hDn hY
      have hl3 : ys3.length = pos (keys pl) (0 + (i : Int) * 10) := by rw [hY.length, lt_count2 hS]
      have hpl := pos_le (keys pl) (0 + (i : Int) * 10)
      have hkl : (keys pl).length = pl.length := by simp only [keys, List.length_map]
      refine gl_len (its := ys3) N3 (.head _) (by omega) ?_
      intro t3 tk4
      rw [hl3]
      k_with "exec If" => (refine Stop.on ?_)
      with_unfolding_all refine PyProof.Rows.ne_int ?_
      rw [bne_self_eq_false]
      k_steps
      refine Stop.off ?_
      rename_i _ _ F4 N4
      obtain ⟨bb, hbb⟩ : ∃ bb, dhas dl (0 + (i : Int) * 10) = bb := ⟨_, rfl⟩
      have hbp : (keys pl).contains (0 + (i : Int) * 10) = bb := (hag.has _).trans hbb
      k_with_none
      k_with "call ref" => (k_here; (with_reducible show wpAny _ _ (call (Value.ref 97) [_, _]) _ _ _); with_unfolding_all refine' Spec.use ?B ?F ?X ?N ?T ?hk (has_spec' (h1 := c1) (h2 := c2) (t1 := t1) (t2 := t2) (d := d) (a := a) (b := b) (n1 := 2) (n2 := n2) (vs := vs) (ns := keys pl) ?p1 ?p2 ?p3 hI hS ?p6 hbp) ?hd ?hu ?_; (case B => k_asm); (case F => k_asm); (case X => k_asm); (case N => k_asm); (case T => k_asm); (case hk => first | exact rfl | assumption); (case hd => ktr_room); (case hu => ktr_units); (case p1 => k_mem); (case p2 => k_mem); (case p3 => k_mem); (case p6 => omega); rintro _ _ h9 tk9 ⟨rfl, rfl⟩ F9 N9; (try dsimp only); (try k_sweep); (try k_fold))
      cases bb
      all_goals (k_steps; (refine' gd_in' (dl := dl) (o := o) ?z9N ?z9m lo hD hbb ?_; (case z9N => assumption); (case z9m => k_mem)); k_steps)
      all_goals exact ⟨_, _, _, rfl, by assumption, by assumption, by k_mem, by kst_inAny⟩
  · intro oc9 h tk F5 N5
    k_with_none
    k_with "SrcLP" => (refine Stop.on ?_)
    k_steps
    refine Stop.off ?_
    refine LCp.SrcLP.ledger (its := its9.toArray) (k := c9) rfl (by assumption) (by assumption) (.tail _ (.head _)) (by rw [List.size_toArray, sizeLine_eq, hT9.length]; omega) fun gg => comp_each (Y := fun J v q => RowIn J v q.2) (hT9.mono (by kst_inAny)) (fun J J' v q hs h => h.mono hs) (fun new => .inr ⟨_, List.mem_append_right _ (.tail _ (.head _)), rfl, _, rfl⟩) ?_ (fun ys new hy ha => ?_) _ 0 [] [] (by simp) .nil (by intro q hq; cases hq)
    · intro q hq R2 I oI C oC D oD m₂ h2 tk2 t2 u2 E2 hsub hC hx hx2 F2 N2
      k_with_none
      k_with "call ref" => (k_here; (with_reducible show wpAny _ _ (call (Value.ref 146) [_]) _ _ _); with_unfolding_all refine' Spec.use ?B ?F ?X ?N ?T ?hk row_spec ?hd ?hu ?_; (case B => k_asm); (case F => k_asm); (case X => k_asm); (case N => k_asm); (case T => k_asm); (case hk => first | exact rfl | assumption); (case hd => ktr_room); (case hu => ktr_units); rintro v9 n9 h9 tk9 ⟨new9, hrow9, rfl, hab9, hnd9⟩ F9 N9; (obtain ⟨ra9, hv9⟩ : ∃ r, v9 = .ref r := hrow9.imp fun r h => h.choose_spec.choose_spec.choose_spec.choose_spec.choose_spec.choose_spec.1); subst hv9; (try dsimp only); (try k_sweep); (try k_fold))
      k_steps
      exact ⟨_, _, _, rfl, by assumption, by assumption, by assumption, by assumption⟩
    · intro DL h2 tk2 F2 N2 o2
      refine dat_eq (ka := n3) (kb := ys.length) (n₁ := J) (n₂ := new) N2 ?z9a (rows_dat hr) ?z9b (.head _) (rows_dat hy.vals) ?z9d (rowsD_ok _) (by ktr_units) ?_
      case z9a => exact .tail _ (List.mem_append_right _ (by simp))
      case z9b => exact fun q hq => .tail _ (List.mem_append_right _ (by simp [hJ q hq]))
      case z9d => exact fun q hq => .tail _ (List.mem_append_left _ hq)
      k_steps
      rename News _ _ _ _ => nE
      exact ret _ _ _ _ ⟨rfl, rfl⟩ (by assumption) (nsub nE (fun q hq => .tail _ (List.mem_append_right _ (by simp [hq]))))
end
end
section
section
variable {prog : Program} {w : World} {A : Around} {E : Value → Shared → Prop} {s : Shared} {env : Env} {h₀ : Heap}
theorem enumLoop {σ : Type} {RR : Result → Shared → Prop} {xi xc : Str} {pk pv pt : PySem.Pos} {x1 : Nat} {body : List Stmt} {l : Addr} {vs : List Value} {n0 : Nat}
    {m₀ : Str → Option Value} {R : Ledger} (ps : σ → List (Str × Value)) (stored : List Str) (P : Nat → σ → Prop) (c₀ : σ)
    (hh : A.handled = none) (hlR : (l, listOf vs.toArray n0) ∈ R)
    (hxi : env.kindOf xi = some .local) (hxc : env.kindOf xc = some .local)
    (hp : (env.scope.kind == .class || (env.scope.kind == .module && env.locals != env.globals)) = false)
    (F : Fr h₀ env.locals s.heap m₀) (N : News h₀ env.locals s.heap R) (hps : ∀ p ∈ ps c₀, m₀ p.1 = some p.2) (hP : P 0 c₀)
    (turn : ∀ i c x t (u : Str → Option Value) h tk R' (E' : Value → Shared → Prop), vs[i]? = some x → P i c → (∀ q ∈ R, q ∈ R') →
      Fr h₀ env.locals h (fun y => if y = xc then some x else if y = xi then some (.int (i : Int) t) else mapG stored u m₀ (ps c) y) → News h₀ env.locals h R' →
      wpAny (model prog w) A (execs body env) (PostG h₀ env.locals (fun _ => []) ps stored m₀ (P (i + 1)) R' { s with heap := h, toks := tk } RR) E' { s with heap := h, toks := tk })
    (done : ∀ c (u : Str → Option Value) h tk, P vs.length c → Fr h₀ env.locals h (mapG stored u m₀ (ps c)) → News h₀ env.locals h R → RR (.ok .next) { s with heap := h, toks := tk }) :
    wpAny (model prog w) A (call (.type "enumerate") [.ref l]) (fun xv s₁ => wpAny (model prog w) A (pyIter xv) (fun it s₂ => codeAny (model prog w) A (.forLoop (.Tuple [.Name xi pk, .Name xc pv] x1 pt) it body [] env) RR s₂) E s₁) E s := by
  have hlN := N _ hlR
  have hl : s.heap.IsList l vs.toArray := PySem.IsL.isList (n := n0) hlN.1
  have hlt : @LT.lt Nat _ l s.heap.objs.size := Heap.lt_size hlN.1
  have hLs : @LT.lt Nat _ env.locals s.heap.objs.size := F.ns.lt
  have hle : l ≠ s.heap.objs.size + 1 := Nat.ne_of_lt (Nat.lt_succ_of_lt hlt)
  have hli : l ≠ s.heap.objs.size := Nat.ne_of_lt hlt
  have hoff : ∀ q ∈ R, q.1 ≠ s.heap.objs.size + 1 ∧ q.1 ≠ s.heap.objs.size := fun q hq => ⟨Nat.ne_of_lt (Nat.lt_succ_of_lt (Heap.lt_size (N q hq).1)), Nat.ne_of_lt (Heap.lt_size (N q hq).1)⟩
  refine call_enumerate_list hl fun h' hE hI hsz hk => ?_
  refine wpAny_pyIter_enum hE ?_
  refine pairLoop (m₀ := m₀) (R := R) (fun _ => []) ps stored P c₀ hh (WalksT.enumerate hh (s.heap.objs.size + 1) s.heap.objs.size l (Nat.succ_ne_self _) hle hli vs.toArray) ?_ hxi hxc hp ?_ ?_ ?_ ?_ (fun q hq => nomatch hq) (fun q hq => nomatch hq) ⟨⟨_, hE⟩, hI, hl.at fun o e => hk _ o e⟩ (F.keeps hk) (N.grown hk) hps hP ?_ ?_
  · rintro i v ⟨t, x, _, rfl⟩
    exact ⟨_, _, rfl⟩
  · intro hm
    simp only [List.mem_cons, List.not_mem_nil, or_false] at hm
    rcases hm with e | e | e
    · exact Nat.ne_of_lt (Nat.lt_succ_of_lt hLs) e
    · exact Nat.ne_of_lt hLs e
    · exact hlN.2.1 e.symm
  · intro b hb
    simp only [List.mem_cons, List.not_mem_nil, or_false] at hb
    rcases hb with rfl | rfl
    · exact none_of_ge F (Nat.le_succ _)
    · exact none_of_ge F (Nat.le_refl _)
  · rintro i h ⟨⟨old, he⟩, ⟨oi, hoi, _⟩, ⟨ol, hol, _⟩⟩ b hb
    simp only [List.mem_cons, List.not_mem_nil, or_false] at hb
    rcases hb with rfl | rfl | rfl
    · exact ⟨_, he⟩
    · exact ⟨_, hoi⟩
    · exact ⟨_, hol⟩
  · intro q hq hm
    obtain ⟨y1, y2⟩ := hoff q hq
    simp only [List.mem_cons, List.not_mem_nil, or_false] at hm
    rcases hm with e | e
    · exact y1 e
    · exact y2 e
  · rintro i c v0 v1 u h tk R' E' hi ⟨t, x, hx, e⟩ hPc hR _ ha F' N'
    simp only [Array.mk.injEq, List.cons.injEq, and_true] at e
    obtain ⟨rfl, rfl⟩ := e
    exact turn i c _ t u h tk R' E' (by simpa using hx) hPc hR F' N'
  · intro c u h tk hPc F' N' _
    exact done c u h tk (by simpa using hPc) F' N'
end

theorem mapG_off2 {stored : List Str} {u m₀ : Str → Option Value} {ps ps' : List (Str × Value)} {z : Str} (e : ps.map (·.1) = ps'.map (·.1)) (h2 : ∀ p ∈ ps', z ≠ p.1) (h3 : stored.contains z = false) : mapG stored u m₀ ps z = m₀ z :=
  mapG_off (fun p hp => by
    have : p.1 ∈ ps'.map (·.1) := e ▸ List.mem_map.mpr ⟨p, hp, rfl⟩
    exact notPs h2 _ this) h3
section
local macro_rules | `(tactic| walk_at "exec For Name Call cons nil") => `(tactic| (k_here; (with_unfolding_all refine wpAny_For ?_ (by intro _; rfl))))
local macro_rules | `(tactic| walk_at "exec For Tuple Call cons nil") => `(tactic| (k_here; (with_unfolding_all refine wpAny_For ?_ (by intro _; rfl))))
set_option maxRecDepth 100000 in
set_option maxHeartbeats 8000000 in
theorem text_spec {prog : Program} {w : World} {R : Ledger} {r a b : Addr} {t1 t2 t3 t4 : Tok} {n1 : Nat} {x : Int}
    (hr : (r, listOf [.ref a, .ref b].toArray n1) ∈ R) (ha : (a, tupOf [.str (Str.ofString "word") t1, .str (Str.ofString "PRINT") t2]) ∈ R) (hb : (b, tupOf [.str (Str.ofString "number") t3, .int x t4]) ∈ R)
    (h0 : 0 ≤ x) (h1 : x ≤ 100) :
    Spec 20 200 prog w 62 [.ref r] R (fun v news' => ∃ tr, v = .str (Str.ofString "PRINT " ++ Str.ofString (toString x)) tr ∧ news' = R) := by
  k_with_none
  w_top off
  have hfill : PySem.Challenge.rw_sa0631_01 = PySem.Challenge.rw_sa0631_01 ∧ @hd.heap_39 = hd.heap_39 := by (k_fill; exact ⟨rfl, rfl⟩)
  clear hfill
  intro mean mg mb dp un gd cn cs a0 ccd cl outer A₀ base h₀ L m s Q E B F X N0 T hk hdp hun ret
  have N := nadd (nadd (nadd N0 hb) (.tail _ ha)) (.tail _ (.tail _ hr))
  clear N0
  refine wpAny_call ?_
  k_dflt ktr_enter
  k_with_none
  k_steps
  rename_i g1 L1 _ FG1 B1 X1 T1 tk1 D1 _ _ _ _ _ F1 N1
  refine enumLoop (σ := Str × Tok × Str × Tok) (vs := [.ref a, .ref b]) (n0 := n1) (R := (r, listOf [.ref a, .ref b].toArray n1) :: (a, tupOf [.str (Str.ofString "word") t1, .str (Str.ofString "PRINT") t2]) :: (b, tupOf [.str (Str.ofString "number") t3, .int x t4]) :: R) (fun c => [(Str.ofString "found", .str c.1 c.2.1), (Str.ofString "ahead", .str c.2.2.1 c.2.2.2)]) [Str.ofString "at", Str.ofString "token"]
    (fun i c => (i = 0 ∧ c.1 = Str.ofString "" ∧ c.2.2.1 = Str.ofString "") ∨ (i = 1 ∧ c.1 = Str.ofString "PRINT" ∧ c.2.2.1 = Str.ofString "PRINT") ∨ (i = 2 ∧ c.1 = Str.ofString "PRINT " ++ Str.ofString (toString x))) (Str.ofString "", tk1, Str.ofString "", tk1 + 1) rfl (.head _) rfl rfl rfl (by with_unfolding_all exact F1) (nsub N1 (by kst_inAny)) ?_ (.inl ⟨rfl, rfl, rfl⟩) ?_ ?_
  · intro p hp
    simp only [List.mem_cons, List.not_mem_nil, or_false] at hp
    rcases hp with rfl | rfl <;> rfl
  · intro i c y t u h tk R' E' hy hP hR F' N'
    obtain ⟨fo, tf, ah, ta⟩ := c
    dsimp only at hP F' ⊢
    change Fr g1 L1 h _ at F'
    change News g1 L1 h _ at N'
    have N2 := nadd (nadd (nadd N' (hR _ (.tail _ (.tail _ (.head _))))) (.tail _ (hR _ (.tail _ (.head _))))) (.tail _ (.tail _ (hR _ (.head _))))
    clear N'
    rcases hP with ⟨rfl, rfl, rfl⟩ | ⟨rfl, rfl, rfl⟩ | ⟨rfl, rfl⟩
    · cases hy
      k_steps
      refine' postG_next (σ := Str × Tok × Str × Tok) (Str.ofString "PRINT", ?y1t, Str.ofString "PRINT", ?y1u) ?y1F ?y1N (fun q hq => nomatch hq) ?y1s (fun q hq => nomatch hq) ?y1k ?y1p
      case y1F => assumption
      case y1N => assumption
      case y1s => kst_inAny
      case y1k => (refine ⟨by kst_all, fun z h2 h3 => ?_⟩; (try dsimp only); (repeat (with_reducible first | refine ite_off (notStored h3 _ (by decide)) ?_ | refine ite_off (notPs h2 _ (by first | decide | (with_unfolding_all exact List.Mem.head _) | (with_unfolding_all exact List.Mem.tail _ (List.Mem.head _)))) ?_)); first | exact mapG_off h2 h3 | exact mapG_off2 (by exact rfl) h2 h3)
      case y1p => exact .inr (.inl ⟨trivial, rfl, rfl⟩)
    · cases hy
      k_steps
      refine' postG_next (σ := Str × Tok × Str × Tok) (_, ?y2t, _, ?y2u) ?y2F ?y2N (fun q hq => nomatch hq) ?y2s (fun q hq => nomatch hq) ?y2k ?y2p
      case y2F => assumption
      case y2N => assumption
      case y2s => kst_inAny
      case y2k => (refine ⟨by kst_all, fun z h2 h3 => ?_⟩; (try dsimp only); (repeat (with_reducible first | refine ite_off (notStored h3 _ (by decide)) ?_ | refine ite_off (notPs h2 _ (by first | decide | (with_unfolding_all exact List.Mem.head _) | (with_unfolding_all exact List.Mem.tail _ (List.Mem.head _)))) ?_)); first | exact mapG_off h2 h3 | exact mapG_off2 (by exact rfl) h2 h3)
      case y2p => exact .inr (.inr ⟨trivial, rfl⟩)
    · simp at hy
  · intro c u h tk hP F' N'
    obtain ⟨fo, tf, ah, ta⟩ := c
    dsimp only at hP F' ⊢
    change Fr g1 L1 h _ at F'
    change News g1 L1 h _ at N'
    rcases hP with ⟨h9, _⟩ | ⟨h9, _⟩ | ⟨_, rfl⟩
    · cases h9
    · cases h9
    k_steps
    rename News _ _ _ _ => nE
    exact ret _ _ _ _ ⟨_, rfl, rfl⟩ (by assumption) (nsub nE (by kst_inAny))
end
end
section
/-! the lines between two numbers -/
theorem high_low {pl : List (Int × Int)} {k l : Int} (hs : Sorted pl) : (pl.drop (pos (keys pl) k)).filter (fun q => decide (q.1 ≤ l)) = pl.filter (fun q => decide (k ≤ q.1) && decide (q.1 ≤ l)) := by
  rw [← filter_high hs, List.filter_filter]
  refine List.filter_congr fun q _ => ?_
  rw [Bool.and_comm]
theorem list_end {pl : List (Int × Int)} {k l : Int} (hs : Sorted pl) (h : ∀ q ∈ pl.drop (pos (keys pl) k), q.1 ≤ l) : pl.drop (pos (keys pl) k) = pl.filter (fun q => decide (k ≤ q.1) && decide (q.1 ≤ l)) := by
  rw [← high_low hs]
  exact (List.filter_eq_self.mpr fun q hq => by simpa using h q hq).symm
theorem list_brk {pl : List (Int × Int)} {k l : Int} {i : Nat} {q : Int × Int} (hs : Sorted pl) (hq : pl[pos (keys pl) k + i]? = some q) (hl : l < q.1) (h : ∀ q ∈ (pl.drop (pos (keys pl) k)).take i, q.1 ≤ l) :
    (pl.drop (pos (keys pl) k)).take i = pl.filter (fun q => decide (k ≤ q.1) && decide (q.1 ≤ l)) := by
  rw [← high_low hs]
  have e : pl.drop (pos (keys pl) k) = (pl.drop (pos (keys pl) k)).take i ++ pl.drop (pos (keys pl) k + i) := by
    rw [← List.drop_drop, List.take_append_drop]
  have h2 : (pl.drop (pos (keys pl) k + i)).filter (fun q => decide (q.1 ≤ l)) = [] := by
    refine List.filter_eq_nil_iff.mpr fun p hp => ?_
    obtain ⟨j, hj⟩ := List.mem_iff_getElem?.mp hp
    rw [List.getElem?_drop] at hj
    have h3 : (keys pl)[pos (keys pl) k + i]? = some q.1 := by simp only [keys, List.getElem?_map, hq, Option.map_some]
    have h4 : (keys pl)[pos (keys pl) k + i + j]? = some p.1 := by simp only [keys, List.getElem?_map, hj, Option.map_some]
    have := sorted_get hs h3 h4 (by omega)
    simp
    omega
  conv => rhs; rw [e, List.filter_append, h2, List.append_nil]
  exact (List.filter_eq_self.mpr fun q hq => by simpa using h q hq).symm

section
variable {prog : Program} {w : World} {A : Around} {E : Value → Shared → Prop} {s : Shared} {h₀ h : Heap} {L D : Addr} {m : Str → Option Value} {news news' : Ledger} {its : List Value} {n : Nat}
theorem gl_append {x : Value} {Q : Value → Shared → Prop} (F : Fr h₀ L s.heap m) (N : News h₀ L s.heap news) (U : Upd D (listOf its.toArray n) (listOf (its ++ [x]).toArray (n + 1)) news news')
    (hl : its.length ≤ 1000) (h : ∀ h', Fr h₀ L h' m → News h₀ L h' news' → Q .none { s with heap := h' }) : wpAny (model prog w) A (call (.builtin "list.append") [.ref D, x]) Q E s :=
  append_K (its := its.toArray) F N (by rw [List.push_toArray]; exact U) h (by rw [List.size_toArray, sizeLine_eq]; omega)
end
theorem gl_item {prog : Program} {w : World} {A : Around} {E : Value → Shared → Prop} {s : Shared} {h₀ : Heap} {L : Addr} {news : Ledger} {value slice : PySem.Expr} {l : Addr} {vs : List Value} {n : Nat} {k : Int} {u : Tok} {v : Value} {Q : Value → Shared → Prop}
    (N : News h₀ L s.heap news) (hm : (l, listOf vs.toArray n) ∈ news) (h0 : 0 ≤ k) (h1 : k < 1000) (hx : vs[k.toNat]? = some v) (h : Q v s)
    (hs : subscripted slice false (.ref l) (.int k u) = operate [.ref l, .int k u] (getItem (.ref l) (.int k u)) := by with_unfolding_all rfl) (hg : ∀ r, letTemporaryGo value (.ref l) r = pure () := by intro _; with_unfolding_all rfl) :
    wpAny (model prog w) A (subscriptTail value slice (.ref l) (.int k u)) Q E s :=
  PyProof.Rows.item_list (PySem.IsL.isList (n := n) (N _ hm).1) h0 (by omega) (by simpa using hx) h hs hg
def lineD (q : Int × Int) : Dat := .str ((Str.ofString (toString q.1) ++ Str.ofString " ") ++ (Str.ofString "PRINT " ++ Str.ofString (toString q.2)))

theorem size_one {a b : Int} (h : a ≤ b) : Builtin.Range.rangeSize a b 1 = ((b - a).toNat : Int) := by
  unfold Builtin.Range.rangeSize
  rw [if_pos (by omega)]
  split <;> omega

section
local macro_rules | `(tactic| walk_at "exec For Name Call cons nil") => `(tactic| (k_here; (with_unfolding_all refine wpAny_For ?_ (by intro _; rfl))))
local macro_rules | `(tactic| walk_at "exec For Tuple Call cons nil") => `(tactic| (k_here; (with_unfolding_all refine wpAny_For ?_ (by intro _; rfl))))
set_option maxRecDepth 100000 in
set_option maxHeartbeats 8000000 in
theorem listed_spec {prog : Program} {w : World} {M J R : Ledger} {p : Addr} {pl : List (Int × Int)} {k l : Int} {tk tl : Tok}
    (hP : ProgSt M J p pl) (hM : ∀ q ∈ M, q ∈ R) (hJ : ∀ q ∈ J, q ∈ R) (hS : Sorted pl) (hG : GoodKeys pl) (hV : GoodVals pl) :
    Spec 100 400 prog w 111 [.ref p, .int k tk, .int l tl] R (fun v news' => ∃ D ys n, v = .ref D ∧ news' = (D, listOf ys.toArray n) :: R ∧ DatAll [] ys ((pl.filter (fun q => decide (k ≤ q.1) && decide (q.1 ≤ l))).map lineD) ∧ ∀ q ∈ R, @LT.lt Nat _ q.1 D) := by
  k_with_none
  w_top off
  have hfill : PySem.Challenge.rw_sa0631_01 = PySem.Challenge.rw_sa0631_01 ∧ @hd.heap_39 = hd.heap_39 := by (k_fill; exact ⟨rfl, rfl⟩)
  clear hfill
  intro mean mg mb dp un gd cn cs a0 ccd cl outer A₀ base h₀ L m s Q E B F X N0 T hk hdp hun ret
  obtain ⟨d, a, b, c1, c2, t1, t2, n2, n3, vs, rs, rfl, hda, hdb, hab, hp, hI, hr⟩ := id hP
  have hlen := good_len hS hG
  have hdp' := hJ _ hp
  have g1 := hM _ (.head _)
  have g2 := hM _ (.tail _ (.head _))
  have g3 := hM _ (.tail _ (.tail _ (.head _)))
  have N := nadd (nadd (nadd (nadd N0 g3) (.tail _ g2)) (.tail _ (.tail _ g1))) (.tail _ (.tail _ (.tail _ hdp')))
  clear N0
  have hvl : vs.length = pl.length := by rw [hI.length]; simp
  have hrl : rs.length = pl.length := by rw [hr.length]; simp
  have hpl := pos_le (keys pl) k
  have hkl : (keys pl).length = pl.length := by simp only [keys, List.length_map]
  refine wpAny_call ?_
  k_dflt ktr_enter
  k_with_none
  k_with "call ref" => (k_here; (with_reducible show wpAny _ _ (call (Value.ref 90) [_, _]) _ _ _); with_unfolding_all refine' Spec.use ?B ?F ?X ?N ?T ?hk (place_spec (h1 := c1) (h2 := c2) (t1 := t1) (t2 := t2) (d := d) (a := a) (b := b) (n1 := 2) (n2 := n2) (vs := vs) (ns := keys pl) ?p1 ?p2 ?p3 hI hS ?p6) ?hd ?hu ?_; (case B => k_asm); (case F => k_asm); (case X => k_asm); (case N => k_asm); (case T => k_asm); (case hk => first | exact rfl | assumption); (case hd => ktr_room); (case hu => ktr_units); (case p1 => k_mem); (case p2 => k_mem); (case p3 => k_mem); (case p6 => omega); rintro _ _ h9 tk9 ⟨tr9, rfl, rfl⟩ F9 N9; (try dsimp only); (try k_sweep); (try k_fold))
  k_with "pyIter ref" => (refine Stop.on ?_)
  k_steps
  refine Stop.off ?_
  k_with_none
  rename_i g1 L1 _ FG1 B1 X1 T1 qk ek tk5 D1 _ l1 _ F2 N2 _ _ t6 u6 v6 hrg F3 N3 _
  have hD1 : ∀ q ∈ R, @LT.lt Nat _ q.1 D1 := fun q hq => allLt_get l1.2.2.2.2 q hq
  refine rangeLoop (n := pl.length - pos (keys pl) k) (σ := List Value × Nat) (R := (p, instObj 79 d) :: (d, progDict c1 c2 t1 t2 a b 2) :: (a, listOf vs.toArray n2) :: (b, listOf rs.toArray n3) :: R) (fun x => [(D1, listOf x.1.toArray x.2)]) (fun _ => [(Str.ofString "found", .ref D1)]) [Str.ofString "at"]
    (fun i x => DatAll [] x.1 (((pl.drop (pos (keys pl) k)).take i).map lineD) ∧ ∀ q ∈ (pl.drop (pos (keys pl) k)).take i, q.1 ≤ l) ([], 0) rfl hrg (small_one (by omega) (by omega) (by omega) (by omega)) (by rw [size_one (by omega)]; omega) rfl rfl F3 (nsub N3 (by kst_inAny)) ?_ ?_ ?_ ?_ ?_
  · intro p hp q hq
    rw [List.mem_singleton.mp hp]
    simp only [List.mem_cons] at hq
    rcases hq with rfl | rfl | rfl | rfl | hq
    · exact Nat.ne_of_gt l1.1
    · exact Nat.ne_of_gt l1.2.1
    · exact Nat.ne_of_gt l1.2.2.1
    · exact Nat.ne_of_gt l1.2.2.2.1
    · exact Nat.ne_of_gt (hD1 q hq)
  · intro p hp; rw [List.mem_singleton.mp hp]; rfl
  · exact ⟨.nil, fun q hq => nomatch hq⟩
  · intro i x t u h tk R' E' hi hP hR hA F' N'
    obtain ⟨ys, n⟩ := x
    dsimp only at hP F' N' hA ⊢
    change Fr g1 L1 h _ at F'
    change News g1 L1 h _ at N'
    simp only [List.cons_append, List.nil_append] at N'
    obtain ⟨hys, hle⟩ := hP
    have hyl : ys.length ≤ i := by rw [hys.length, List.length_map, List.length_take]; omega
    have hj : (((pos (keys pl) k : Nat) : Int) + (i : Int) * 1).toNat = pos (keys pl) k + i := by omega
    obtain ⟨v1, hv1⟩ : ∃ v, vs[pos (keys pl) k + i]? = some v := ⟨_, List.getElem?_eq_getElem (by omega)⟩
    obtain ⟨v2, hv2⟩ : ∃ v, rs[pos (keys pl) k + i]? = some v := ⟨_, List.getElem?_eq_getElem (by omega)⟩
    obtain ⟨q1, hq1, tq, rfl⟩ := (ints_iff.mp hI).get hv1
    obtain ⟨q2, hq2, hrow⟩ := hr.get hv2
    have hq := pair_get hq1 hq2
    obtain ⟨r, ra, rb, u1, u2, u3, u4, rfl, hr1, hr2, hr3⟩ := id hrow
    have m1 := hR _ (.tail _ (.tail _ (.tail _ (.tail _ (hJ _ hr1)))))
    have m2 := hR _ (.tail _ (.tail _ (.tail _ (.tail _ (hJ _ hr2)))))
    have m3 := hR _ (.tail _ (.tail _ (.tail _ (.tail _ (hJ _ hr3)))))
    rw [← hj] at hv1 hv2
    obtain ⟨jj, hjj, hkj⟩ := hG _ (List.mem_of_getElem? hq)
    obtain ⟨hx0, hx1⟩ := hV _ (List.mem_of_getElem? hq)
    dsimp only at hkj hx0 hx1
    have hRd : ∀ q ∈ R', q.1 ≠ D1 := fun q hq => (hA _ (.head _) q hq).symm
    have e1 := neN (hRd _ (hR _ (.head _)))
    have e2 := neN (hRd _ (hR _ (.tail _ (.head _))))
    have e3 := neN (hRd _ (hR _ (.tail _ (.tail _ (.head _)))))
    have e4 := neN (hRd _ (hR _ (.tail _ (.tail _ (.tail _ (.head _))))))
    dsimp only at e1 e2 e3 e4
    have N5 := nsub (l' := (D1, listOf ys.toArray n) :: (p, instObj 79 d) :: (d, progDict c1 c2 t1 t2 a b 2) :: (a, listOf vs.toArray n2) :: (b, listOf rs.toArray n3) :: R') N' (fun q hq => by
      simp only [List.mem_cons] at hq
      rcases hq with rfl | rfl | rfl | rfl | rfl | hq
      · exact .head _
      all_goals first | exact .tail _ hq | exact .tail _ (hR _ (by simp)))
    clear N'
    clear hI hP
    k_with "subscriptTail" => (k_here; first
      | ((with_reducible show wpAny _ _ (subscriptTail _ _ (Value.ref a) (Value.int _ _)) _ _ _); refine gl_item (l := a) (n := n2) (by k_asm) (by k_mem) (by omega) (by omega) hv1 ?_)
      | ((with_reducible show wpAny _ _ (subscriptTail _ _ (Value.ref b) (Value.int _ _)) _ _ _); refine gl_item (l := b) (n := n3) (by k_asm) (by k_mem) (by omega) (by omega) hv2 ?_))
    k_with "call ref" => (k_here; (with_reducible show wpAny _ _ (call (Value.ref 62) [_]) _ _ _); with_unfolding_all refine' Spec.use ?B ?F ?X ?N ?T ?hk (text_spec (n1 := 0) (r := r) (a := ra) (b := rb) (x := q2) ?p1 ?p2 ?p3 hx0 hx1) ?hd ?hu ?_; (case B => k_asm); (case F => k_asm); (case X => k_asm); (case N => k_asm); (case T => k_asm); (case hk => first | exact rfl | assumption); (case hd => ktr_room); (case hu => ktr_units); (case p1 => (repeat (first | exact m1 | apply List.Mem.tail))); (case p2 => (repeat (first | exact m2 | apply List.Mem.tail))); (case p3 => (repeat (first | exact m3 | apply List.Mem.tail))); rintro _ _ h9 tk9 ⟨tr9, rfl, rfl⟩ F9 N9; (try dsimp only); (try k_sweep); (try k_fold))
    k_with "call builtin:list.append" => (k_here; (with_reducible show wpAny _ _ (call (Value.builtin _) [Value.ref _, _]) _ _ _); k_dflt (refine' gl_append ?F ?N ?U ?c ?_; (case F => k_asm); (case N => k_asm); (case U => k_upd); (case c => omega); k_whole); intro h' F' N'; (try k_sweep))
    k_steps
    · dsimp only [PostG]
      k_steps
      rename News _ _ _ _ => nE
      refine ret _ _ _ _ ⟨D1, ys, n, rfl, rfl, ?_, hD1⟩ (by assumption) (nsub nE (fun q hq => ?_))
      · rw [← list_brk hS hq (by dsimp only; omega) hle]; exact hys
      · rcases List.mem_cons.mp hq with rfl | hq
        · exact .head _
        · exact .tail _ (.tail _ (.tail _ (.tail _ (.tail _ (hR _ (.tail _ (.tail _ (.tail _ (.tail _ hq)))))))))
    · have etake : (pl.drop (pos (keys pl) k)).take (i + 1) = (pl.drop (pos (keys pl) k)).take i ++ [(q1, q2)] := by
        rw [List.take_add_one, List.getElem?_drop, hq]; rfl
      refine postG_next (_, n + 1) (by assumption) (by assumption) (by kst_inAny) (by kst_inAny) (hA.same rfl) ?_ ⟨?_, ?_⟩
      · (refine ⟨by kst_all, fun z h2 h3 => ?_⟩; (try dsimp only); (repeat (with_reducible first | refine ite_off (notStored h3 _ (by decide)) ?_ | refine ite_off (notPs h2 _ (by decide)) ?_)); exact mapG_off h2 h3)
      · rw [etake, List.map_append]
        exact hys.append (.cons (.str _ _) .nil)
      · rw [etake]
        intro q hq
        rcases List.mem_append.mp hq with hq | hq
        · exact hle q hq
        · rw [List.mem_singleton.mp hq]; dsimp only; omega
  · intro x u h tk hP F' N' hA
    obtain ⟨ys, n⟩ := x
    dsimp only at hP F' N' hA ⊢
    change Fr g1 L1 h _ at F'
    change News g1 L1 h _ at N'
    simp only [List.cons_append, List.nil_append] at N'
    k_steps
    rename News _ _ _ _ => nE
    refine ret _ _ _ _ ⟨D1, ys, n, rfl, rfl, ?_, hD1⟩ (by assumption) (nsub nE (by kst_inAny))
    obtain ⟨hys, hle⟩ := hP
    have etake : (pl.drop (pos (keys pl) k)).take (pl.length - pos (keys pl) k) = pl.drop (pos (keys pl) k) := List.take_of_length_le (by rw [List.length_drop]; exact Nat.le_refl _)
    rw [etake] at hys hle
    rw [← list_end hS hle]
    exact hys
end
end
section
/-! the plain law: what the law asks of the merges -/
theorem dupd_keys {a b : List (Int × Int)} (hb : (keys b).Nodup) (k : Int) : k ∈ keys (dupd a b) ↔ k ∈ keys b ∨ k ∈ keys a := by
  simp only [mem_keys]
  constructor
  · rintro ⟨q, hq, rfl⟩
    rcases (dupd_mem hb q).mp hq with h | ⟨h, _⟩
    · exact .inl ⟨q, h, rfl⟩
    · exact .inr ⟨q, h, rfl⟩
  · intro h
    by_cases hk : k ∈ keys b
    · obtain ⟨q, hq, rfl⟩ := mem_keys.mp hk
      exact ⟨q, (dupd_mem hb q).mpr (.inl hq), rfl⟩
    · rcases h with h | ⟨q, hq, rfl⟩
      · exact absurd (mem_keys.mpr h) hk
      · exact ⟨q, (dupd_mem hb q).mpr (.inr ⟨hq, hk⟩), rfl⟩
/-- a second into a first, a third into that: as the third into the second, that into the first -/
theorem dupd_assoc {a b c : List (Int × Int)} (hb : (keys b).Nodup) (hc : (keys c).Nodup) (hbc : (keys (dupd b c)).Nodup) : Agree (dupd (dupd a b) c) (dupd a (dupd b c)) := fun q => by
  rw [dupd_mem hc, dupd_mem hb, dupd_mem hbc, dupd_mem hc, dupd_keys hc]
  constructor
  · rintro (h | ⟨h | ⟨h, h'⟩, h2⟩)
    · exact .inl (.inl h)
    · exact .inl (.inr ⟨h, h2⟩)
    · exact .inr ⟨h, fun z => z.elim h2 h'⟩
  · rintro ((h | ⟨h, h'⟩) | ⟨h, h'⟩)
    · exact .inl h
    · exact .inr ⟨.inl h, h'⟩
    · exact .inr ⟨.inr ⟨h, fun z => h' (.inr z)⟩, fun z => h' (.inl z)⟩
theorem Agree.trans {a b c : List (Int × Int)} (h : Agree a b) (h' : Agree b c) : Agree a c := fun q => (h q).trans (h' q)
theorem Agree.symm {a b : List (Int × Int)} (h : Agree a b) : Agree b a := fun q => (h q).symm
/-- once more is nothing -/
theorem merge_again {last inner a o : List (Int × Int)} (hs : Sorted last) (hi : Sorted inner) (ho : (keys o).Nodup) (hl : Agree last (dupd a o)) (h : Agree inner o) : Agree (mergeL last inner) (dupd a o) := fun q => by
  rw [mergeL_mem hs (sorted_nodup hi), h q, hl q, h.keys, dupd_mem ho]
  constructor
  · rintro (h | ⟨h, _⟩)
    · exact .inl h
    · exact h
  · rintro (h | ⟨h, h'⟩)
    · exact .inl h
    · exact .inr ⟨.inr ⟨h, h'⟩, h'⟩
theorem merge_same {last one d : List (Int × Int)} (hs : Sorted last) (hi : Sorted one) (hl : Agree last d) (h : Agree one d) : Agree (mergeL last one) d := fun q => by
  rw [mergeL_mem hs (sorted_nodup hi), h q, hl q, h.keys]
  constructor
  · rintro (h | ⟨h, _⟩)
    · exact h
    · exact h
  · intro h; exact .inl h
/-- where no numbers are alike, either may be the first -/
theorem dupd_apart {a o : List (Int × Int)} (ha : (keys a).Nodup) (ho : (keys o).Nodup) (h : ∀ k ∈ keys a, k ∉ keys o) : Agree (dupd o a) (dupd a o) := fun q => by
  rw [dupd_mem ha, dupd_mem ho]
  constructor
  · rintro (h1 | ⟨h1, h2⟩)
    · exact .inr ⟨h1, h _ (mem_keys.mpr ⟨q, h1, rfl⟩)⟩
    · exact .inl h1
  · rintro (h1 | ⟨h1, h2⟩)
    · exact .inr ⟨h1, fun z => h _ z (mem_keys.mpr ⟨q, h1, rfl⟩)⟩
    · exact .inl h1
theorem dupd_goodk {a b : List (Int × Int)} (hb : (keys b).Nodup) (h : GoodKeys a) (h' : GoodKeys b) : GoodKeys (dupd a b) := fun q hq => by
  rcases (dupd_mem hb q).mp hq with hq | ⟨hq, _⟩
  · exact h' q hq
  · exact h q hq
theorem dupd_goodv {a b : List (Int × Int)} (hb : (keys b).Nodup) (h : GoodVals a) (h' : GoodVals b) : GoodVals (dupd a b) := fun q hq => by
  rcases (dupd_mem hb q).mp hq with hq | ⟨hq, _⟩
  · exact h' q hq
  · exact h q hq
theorem Agree.goodv {a b : List (Int × Int)} (h : Agree a b) (hv : GoodVals b) : GoodVals a := fun q hq => hv q ((h q).mp hq)
theorem Agree.goodk {a b : List (Int × Int)} (h : Agree a b) (hv : GoodKeys b) : GoodKeys a := fun q hq => hv q ((h q).mp hq)

theorem str_assoc (a b c : Str) : a ++ b ++ c = a ++ (b ++ c) := by
  show Str.mk _ = Str.mk _
  congr 1
  exact Array.append_assoc
theorem line_text (k x : Str) : (k ++ Str.ofString " ") ++ (Str.ofString "PRINT " ++ x) = (k ++ Str.ofString " PRINT ") ++ x := by
  rw [str_assoc, ← str_assoc (Str.ofString " "), str_assoc k, show Str.ofString " " ++ Str.ofString "PRINT " = Str.ofString " PRINT " by decide +kernel]
end
section
/-! three programs at once: their turning objects M1 M2 M3, what stands J, all else R -/
def Tri (J R M1 M2 M3 : Ledger) (p1 p2 p3 : Addr) (a b c : List (Int × Int)) : Prop :=
  (ProgSt M1 J p1 a ∧ Sorted a ∧ GoodKeys a ∧ Apart M1 (J ++ R)) ∧ (ProgSt M2 J p2 b ∧ Sorted b ∧ GoodKeys b ∧ Apart M2 (J ++ R)) ∧ (ProgSt M3 J p3 c ∧ Sorted c ∧ GoodKeys c ∧ Apart M3 (J ++ R)) ∧
    Apart M1 M2 ∧ Apart M1 M3 ∧ Apart M2 M3 ∧ Apart J R
abbrev TriL (J R M1 M2 M3 : Ledger) : Ledger := M1 ++ (M2 ++ (M3 ++ (J ++ R)))

theorem Apart.symm {a b : Ledger} (h : Apart a b) : Apart b a := fun q hq p hp => (h p hp q hq).symm
theorem Apart.left {a b c : Ledger} (h : Apart a (b ++ c)) : Apart a b := fun p hp q hq => h p hp q (List.mem_append_left _ hq)
theorem Apart.right {a b c : Ledger} (h : Apart a (b ++ c)) : Apart a c := fun p hp q hq => h p hp q (List.mem_append_right _ hq)
theorem Apart.append_left {a b c : Ledger} (h1 : Apart a c) (h2 : Apart b c) : Apart (a ++ b) c := fun p hp q hq => (List.mem_append.mp hp).elim (fun h => h1 p h q hq) fun h => h2 p h q hq
theorem Above.apartL {a R : Ledger} (h : Above a R) : Apart a R := h.apart.symm

theorem Tri.swap12 {J R M1 M2 M3 : Ledger} {p1 p2 p3 : Addr} {a b c : List (Int × Int)} (h : Tri J R M1 M2 M3 p1 p2 p3 a b c) : Tri J R M2 M1 M3 p2 p1 p3 b a c := by
  obtain ⟨h1, h2, h3, h12, h13, h23, hJ⟩ := h
  exact ⟨h2, h1, h3, h12.symm, h23, h13, hJ⟩
theorem Tri.swap13 {J R M1 M2 M3 : Ledger} {p1 p2 p3 : Addr} {a b c : List (Int × Int)} (h : Tri J R M1 M2 M3 p1 p2 p3 a b c) : Tri J R M3 M2 M1 p3 p2 p1 c b a := by
  obtain ⟨h1, h2, h3, h12, h13, h23, hJ⟩ := h
  exact ⟨h3, h2, h1, h23.symm, h13.symm, h12.symm, hJ⟩

/-- three programs made, one behind the other -/
theorem tri_make {R M1 M2 M3 n1 n2 n3 : Ledger} {p1 p2 p3 : Addr} {a b c : List (Int × Int)} (h1 : ProgSt M1 n1 p1 (build a)) (h2 : ProgSt M2 n2 p2 (build b)) (h3 : ProgSt M3 n3 p3 (build c)) (ga : GoodKeys a) (gb : GoodKeys b) (gc : GoodKeys c)
    (a1 : Above (M1 ++ n1) R) (a2 : Above (M2 ++ n2) (M1 ++ (n1 ++ R))) (a3 : Above (M3 ++ n3) (M2 ++ (n2 ++ (M1 ++ (n1 ++ R))))) (e1 : Apart M1 n1) (e2 : Apart M2 n2) (e3 : Apart M3 n3) :
    Tri (n3 ++ (n2 ++ n1)) R M1 M2 M3 p1 p2 p3 (build a) (build b) (build c) := by
  have b1 : ∀ q ∈ M1, q ∈ M1 ++ (n1 ++ R) := fun q hq => List.mem_append_left _ hq
  have b2 : ∀ q ∈ n1, q ∈ M1 ++ (n1 ++ R) := fun q hq => List.mem_append_right _ (List.mem_append_left _ hq)
  have b3 : ∀ q ∈ R, q ∈ M1 ++ (n1 ++ R) := fun q hq => List.mem_append_right _ (List.mem_append_right _ hq)
  have c1 : ∀ q ∈ M2, q ∈ M2 ++ (n2 ++ (M1 ++ (n1 ++ R))) := fun q hq => List.mem_append_left _ hq
  have c2 : ∀ q ∈ n2, q ∈ M2 ++ (n2 ++ (M1 ++ (n1 ++ R))) := fun q hq => List.mem_append_right _ (List.mem_append_left _ hq)
  have c3 : ∀ q ∈ M1 ++ (n1 ++ R), q ∈ M2 ++ (n2 ++ (M1 ++ (n1 ++ R))) := fun q hq => List.mem_append_right _ (List.mem_append_right _ hq)
  refine ⟨⟨h1.mono fun q hq => by simp [hq], build_sorted, build_good ga, ?_⟩, ⟨h2.mono fun q hq => by simp [hq], build_sorted, build_good gb, ?_⟩, ⟨h3.mono fun q hq => by simp [hq], build_sorted, build_good gc, ?_⟩, ?_, ?_, ?_, ?_⟩
  · exact Apart.append_right (Apart.append_right (a3.right.sub fun q hq => c3 q (b1 q hq)).apart (Apart.append_right (a2.right.sub b1).apart e1)) a1.left.apartL
  · exact Apart.append_right (Apart.append_right (a3.right.sub c1).apart (Apart.append_right e2 (a2.left.sub b2).apartL)) (a2.left.sub b3).apartL
  · exact Apart.append_right (Apart.append_right e3 (Apart.append_right (a3.left.sub c2).apartL (a3.left.sub fun q hq => c3 q (b2 q hq)).apartL)) (a3.left.sub fun q hq => c3 q (b3 q hq)).apartL
  · exact (a2.left.sub b1).apart
  · exact (a3.left.sub fun q hq => c3 q (b1 q hq)).apart
  · exact (a3.left.sub c1).apart
  · exact Apart.append_left (a3.right.sub fun q hq => c3 q (b3 q hq)).apartL (Apart.append_left (a2.right.sub b3).apartL a1.right.apartL)

/-- more stands -/
theorem Tri.more {J R X M1 M2 M3 : Ledger} {p1 p2 p3 : Addr} {a b c : List (Int × Int)} (h : Tri J R M1 M2 M3 p1 p2 p3 a b c) (hX : ∀ q ∈ X, ∀ q' ∈ TriL J R M1 M2 M3, q'.1 ≠ q.1) : Tri J (X ++ R) M1 M2 M3 p1 p2 p3 a b c := by
  obtain ⟨⟨x1, x2, x3, x4⟩, ⟨y1, y2, y3, y4⟩, ⟨z1, z2, z3, z4⟩, h12, h13, h23, hJ⟩ := h
  have f : ∀ {M : Ledger}, (∀ q ∈ M, q ∈ TriL J R M1 M2 M3) → Apart M (J ++ R) → Apart M (J ++ (X ++ R)) := fun hs h => Apart.append_right h.left (Apart.append_right (fun p hp q hq => hX q hq p (hs p hp)) h.right)
  refine ⟨⟨x1, x2, x3, f (fun q hq => by simp [hq]) x4⟩, ⟨y1, y2, y3, f (fun q hq => by simp [hq]) y4⟩, ⟨z1, z2, z3, f (fun q hq => by simp [hq]) z4⟩, h12, h13, h23, Apart.append_right (fun p hp q hq => hX q hq p (by simp [hp])) hJ⟩

theorem tri_prog {prog : Program} {w : World} {J R M1 M2 M3 : Ledger} {p1 p2 p3 dd : Addr} {a b c dl : List (Int × Int)} {o : Obj} (h : Tri J R M1 M2 M3 p1 p2 p3 a b c) (hdm : (dd, o) ∈ R) (lo : (dd == sysModules) = false) (hD : DictSt prog w o dl) (hG : GoodKeys dl) :
    Spec 60 120 prog w 153 [.ref dd] (TriL J R M1 M2 M3)
      (fun v news' => ∃ M4 J' p4, v = .ref p4 ∧ news' = M4 ++ TriL J' R M1 M2 M3 ∧ Tri J' R M1 M2 M3 p1 p2 p3 a b c ∧ ProgSt M4 J' p4 (build dl) ∧ Apart M4 (TriL J' R M1 M2 M3)) := by
  refine Spec.conv (program_spec (R := TriL J R M1 M2 M3) (dd := dd) (by simp [hdm]) lo hD hG) (fun q hq => hq) ?_
  rintro v n1 ⟨M, new, p, rfl, rfl, hP, hab, hap⟩
  obtain ⟨⟨x1, x2, x3, x4⟩, ⟨y1, y2, y3, y4⟩, ⟨z1, z2, z3, z4⟩, h12, h13, h23, hJ⟩ := h
  have s1 : ∀ q ∈ M1, q ∈ TriL J R M1 M2 M3 := fun q hq => by simp [hq]
  have s2 : ∀ q ∈ M2, q ∈ TriL J R M1 M2 M3 := fun q hq => by simp [hq]
  have s3 : ∀ q ∈ M3, q ∈ TriL J R M1 M2 M3 := fun q hq => by simp [hq]
  have sJ : ∀ q ∈ J, q ∈ TriL J R M1 M2 M3 := fun q hq => by simp [hq]
  have sR : ∀ q ∈ R, q ∈ TriL J R M1 M2 M3 := fun q hq => by simp [hq]
  have hm : ∀ q ∈ J, q ∈ new ++ J := fun q hq => List.mem_append_right _ hq
  refine ⟨_, ⟨M, new ++ J, p, rfl, rfl, ⟨⟨x1.mono hm, x2, x3, ?_⟩, ⟨y1.mono hm, y2, y3, ?_⟩, ⟨z1.mono hm, z2, z3, ?_⟩, h12, h13, h23, ?_⟩, hP.mono fun q hq => List.mem_append_left _ hq, ?_⟩, fun q hq => ?_⟩
  · exact Apart.append_right (Apart.append_right (hab.right.sub s1).apart x4.left) x4.right
  · exact Apart.append_right (Apart.append_right (hab.right.sub s2).apart y4.left) y4.right
  · exact Apart.append_right (Apart.append_right (hab.right.sub s3).apart z4.left) z4.right
  · exact Apart.append_left (hab.right.sub sR).apartL hJ
  · exact Apart.append_right (hab.left.sub s1).apartL (Apart.append_right (hab.left.sub s2).apartL (Apart.append_right (hab.left.sub s3).apartL (Apart.append_right (Apart.append_right hap (hab.left.sub sJ).apartL) (hab.left.sub sR).apartL)))
  · simp only [TriL, List.mem_append] at hq ⊢
    rcases hq with h | h | h | h | (h | h) | h <;> simp [h]

theorem tri_merge1 {prog : Program} {w : World} {J R X Mq M1 M2 M3 : Ledger} {p1 p2 p3 q : Addr} {a b c ql : List (Int × Int)} (h : Tri J R M1 M2 M3 p1 p2 p3 a b c) (hQ : ProgSt Mq J q ql) (hMq : ∀ x ∈ Mq, x ∈ X ++ (M2 ++ (M3 ++ (J ++ R)))) (hX : Apart M1 X) (hS : Sorted ql) (hG : GoodKeys ql) :
    Spec 60 120 prog w 125 [.ref p1, .ref q] (X ++ TriL J R M1 M2 M3)
      (fun v news' => v = .none ∧ ∃ M1', news' = TriL J R M1' M2 M3 ∧ Tri J R M1' M2 M3 p1 p2 p3 (mergeL a ql) b c) := by
  obtain ⟨⟨x1, x2, x3, x4⟩, h2, h3, h12, h13, h23, hJ⟩ := h
  refine Spec.conv (merge_spec (M := M1) (J := J) (R := X ++ (M2 ++ (M3 ++ (J ++ R)))) x1 hQ hMq (fun x hx => by simp [hx]) ?_ x2 x3 hS hG) (fun q hq => ?_) ?_
  · exact Apart.append_right hX (Apart.append_right h12 (Apart.append_right h13 x4))
  · simp only [TriL, List.mem_append] at hq ⊢
    rcases hq with h | h | h | h | h | h <;> simp [h]
  · rintro v n1 ⟨rfl, M', rfl, hP', hM'⟩
    refine ⟨_, ⟨rfl, M', rfl, ⟨hP', mergeL_sorted x2, mergeL_good x3 hG, x4.same hM'⟩, h2, h3, h12.same hM', h13.same hM', h23, hJ⟩, fun q hq => ?_⟩
    simp only [TriL, List.mem_append] at hq ⊢
    rcases hq with h | h | h | h | h <;> simp [h]
theorem tri_merge2 {prog : Program} {w : World} {J R X Mq M1 M2 M3 : Ledger} {p1 p2 p3 q : Addr} {a b c ql : List (Int × Int)} (h : Tri J R M1 M2 M3 p1 p2 p3 a b c) (hQ : ProgSt Mq J q ql) (hMq : ∀ x ∈ Mq, x ∈ X ++ (M1 ++ (M3 ++ (J ++ R)))) (hX : Apart M2 X) (hS : Sorted ql) (hG : GoodKeys ql) :
    Spec 60 120 prog w 125 [.ref p2, .ref q] (X ++ TriL J R M1 M2 M3)
      (fun v news' => v = .none ∧ ∃ M2', news' = TriL J R M1 M2' M3 ∧ Tri J R M1 M2' M3 p1 p2 p3 a (mergeL b ql) c) := by
  refine Spec.conv (tri_merge1 (X := X) h.swap12 hQ hMq hX hS hG) (fun q hq => ?_) ?_
  · simp only [TriL, List.mem_append] at hq ⊢
    rcases hq with h | h | h | h | h | h <;> simp [h]
  · rintro v n1 ⟨rfl, M', rfl, h'⟩
    refine ⟨_, ⟨rfl, M', rfl, h'.swap12⟩, fun q hq => ?_⟩
    simp only [TriL, List.mem_append] at hq ⊢
    rcases hq with h | h | h | h | h <;> simp [h]
theorem tri_merge3 {prog : Program} {w : World} {J R X Mq M1 M2 M3 : Ledger} {p1 p2 p3 q : Addr} {a b c ql : List (Int × Int)} (h : Tri J R M1 M2 M3 p1 p2 p3 a b c) (hQ : ProgSt Mq J q ql) (hMq : ∀ x ∈ Mq, x ∈ X ++ (M2 ++ (M1 ++ (J ++ R)))) (hX : Apart M3 X) (hS : Sorted ql) (hG : GoodKeys ql) :
    Spec 60 120 prog w 125 [.ref p3, .ref q] (X ++ TriL J R M1 M2 M3)
      (fun v news' => v = .none ∧ ∃ M3', news' = TriL J R M1 M2 M3' ∧ Tri J R M1 M2 M3' p1 p2 p3 a b (mergeL c ql)) := by
  refine Spec.conv (tri_merge1 (X := X) h.swap13 hQ hMq hX hS hG) (fun q hq => ?_) ?_
  · simp only [TriL, List.mem_append] at hq ⊢
    rcases hq with h | h | h | h | h | h <;> simp [h]
  · rintro v n1 ⟨rfl, M', rfl, h'⟩
    refine ⟨_, ⟨rfl, M', rfl, h'.swap13⟩, fun q hq => ?_⟩
    simp only [TriL, List.mem_append] at hq ⊢
    rcases hq with h | h | h | h | h <;> simp [h]
end
section
section
open PyProof.Rows.LCg
variable {prog : Program} {w : World} {A : Around} {E : Value → Shared → Prop} {s : Shared} {h₀ : Heap} {L : Addr} {m : Str → Option Value} {env : Env}
def SrcTest (prog : Program) (w : World) (A : Around) (h₀ : Heap) (L : Addr) (m : Str → Option Value) (env : Env) (ct elt : PySem.Expr) (x x₂ y : Str) (scope : Scope) (cl : List (Str × Addr)) (Q : Flow → Shared → Prop) (xv : Value) (s : Shared) : Prop :=
  ∃ (ax : Addr) (its : List Value) (ql : List (Int × Int)) (b : Int × Int → Bool) (Y : Value → Int × Int → Prop) (news : Ledger) (k0 : Nat), xv = .ref ax ∧ Fr h₀ L s.heap m ∧ News h₀ L s.heap news ∧ (ax, listOf its.toArray k0) ∈ news ∧ TupsAre news its ql ∧ its.length ≤ 1000 ∧
    (∀ q ∈ ql, ∀ C m₂ h tk t u (E' : Value → Shared → Prop), h.Ns C m₂ → m₂ x = some (.int q.1 t) → m₂ x₂ = some (.int q.2 u) → Fr h₀ L h m → News h₀ L h news →
      wpAny (model prog w) A (isTrue ct (compEnvC scope cl C env) (eval ct (compEnvC scope cl C env))) (fun ok s' => ok = b q ∧ ∃ tk', s' = { s with heap := h, toks := tk' }) E' { s with heap := h, toks := tk }) ∧
    (∀ q ∈ ql, b q = true → ∀ C m₂ h tk t u (E' : Value → Shared → Prop), h.Ns C m₂ → m₂ x = some (.int q.1 t) → m₂ x₂ = some (.int q.2 u) → Fr h₀ L h m → News h₀ L h news →
      wpAny (model prog w) A (eval elt (compEnvC scope cl C env)) (fun y s' => Y y q ∧ ∃ tk', s' = { s with heap := h, toks := tk' }) E' { s with heap := h, toks := tk }) ∧
    (∀ D h tk ys, Fr h₀ L h (fun z => if z = y then some (.ref D) else m z) → News h₀ L h ((D, lst ys) :: news) → (∀ p ∈ news, p.1 ≠ D) → All2 Y ys (ql.filter b) → Q .next { s with heap := h, toks := tk })
theorem assign_comp_test {elt iter ct : PySem.Expr} {x x₂ y : Str} {px px₂ tp py : PySem.Pos} {tk0} {scope : Scope} {cl : List (Str × Addr)} {pos spos : PySem.Pos} {Q : Flow → Shared → Prop} {s0 : Shared}
    (_F₀ : Fr h₀ L s0.heap m) (hLe : env.locals = L) (hsw : swapsWith (.ListComp elt [⟨.Tuple [.Name x px, .Name x₂ px₂] tk0 tp, iter, [ct], 0⟩] scope pos) (some (.Name y py)) spos.line env = pure true) (hy : env.kindOf y = some .local) (hp : (env.scope.kind == .class || (env.scope.kind == .module && env.locals != env.globals)) = false)
    (hh : A.handled = none)
    (hclos : closureFor scope env = pure cl) (hcell : ∀ y ∈ scope.names, y.2 ≠ .cell) (hkind : scope.kind = .function) (hnames : ∀ y ∈ scope.names, y.2 = .local → scope.names.lookup y.1 = some .local) (hx : scope.names.lookup x = some .local) (hx₂ : scope.names.lookup x₂ = some .local) (hxx : x ≠ x₂)
    (hs : ∀ v, foldedSetIterable iter env v = pure v)
    (hiter : wpAny (model prog w) A (eval iter env) (SrcTest prog w A h₀ L m env ct elt x x₂ y scope cl Q) E s0) :
    wpAny (model prog w) A (exec (.Assign [.Name y py] (.ListComp elt [⟨.Tuple [.Name x px, .Name x₂ px₂] tk0 tp, iter, [ct], 0⟩] scope pos) spos) env) Q E s0 := by
  rw [exec_Assign_Name_used _ _ _ _ hsw]
  refine wpAny_bind (wpAny_standAt (wpAny_bind ?_))
  show wpAny _ A (do let _ ← comprehension (.ListComp elt [⟨.Tuple [.Name x px, .Name x₂ px₂] tk0 tp, iter, [ct], 0⟩] scope pos) scope env _ (newList []) false (eval iter env) (some (assign (.Name y py) env))) _ _ s0
  refine wpAny_bind (wpAny_mono (wpAny_comprehension_free (use := some (assign (.Name y py) env)) (Q := fun _ s' => Q .next s') rfl hs hclos hkind hnames (wpAny_mono hiter (fun xv s h₁ => ?_) fun _ _ e => e)) (fun _ s' hq => wpAny_pure (wpAny_pure hq)) fun _ _ e => e)
  obtain ⟨ax, its, ql, b, Y, news, k0, rfl, F, N, hax, hT, hsz, test, item, done⟩ := h₁
  have hl : s.heap.IsList ax its.toArray := PySem.IsL.isList (n := k0) (N _ hax).1
  have hlt : ax < s.heap.objs.size := by obtain ⟨_, e, _⟩ := hl; exact Heap.lt_size e
  refine wpAny_pyIter_list hl ?_
  have hTl := hT.length
  generalize hI : s.heap.objs.size = I
  have W := Walks.list (prog := prog) (w := w) hh I ax (by rw [← hI]; exact Nat.ne_of_lt hlt) its.toArray
  refine wpAny_newObj_type (wpAny_newFunctionEnv hcell (by intro y hy; simp at hy) (fun h₁ hns₁ hsb₁ => ?_) hkind)
  dsimp only at hns₁ hsb₁ ⊢
  generalize hH1 : s.heap.push { cls := .type "list_iterator", data := .fields #[.ref ax, .int 0 0] } = H1 at hns₁ hsb₁ ⊢
  have hD : H1.objs.size = I + 1 := by rw [← hH1, Heap.size_push, hI]
  generalize hH2 : H1.push { cls := .type "list", dict := none, data := .seq ([] : List Value).toArray } = H2 at hns₁ hsb₁ ⊢
  have hC : H2.objs.size = I + 2 := by rw [← hH2, Heap.size_push, hD]
  rw [hC] at hns₁ hsb₁ ⊢
  rw [hD]
  have old : ∀ c o, s.heap.get? c = some o → h₁.get? c = some o := fun c o e => by
    have h9 : @LT.lt Nat _ c I := by rw [← hI]; exact Heap.lt_size e
    refine hsb₁.extBut c o (Nat.ne_of_lt (Nat.lt_of_lt_of_le h9 (Nat.le_add_right I 2))) ?_
    refine Heap.get?_push_of_some _ ?_
    rw [← hH2, ← hH1]
    exact Heap.get?_push_of_some _ (Heap.get?_push_of_some _ e)
  have hacc : h₁.get? (I + 1) = some (lst []) := by
    refine hsb₁.extBut _ _ (Nat.ne_of_lt (Nat.lt_succ_self (I + 1))) (Heap.get?_push_of_some _ ?_)
    rw [← hH2, ← hD]
    exact Heap.get?_push_size _ rfl
  have hit : h₁.IsListIter I ax 0 := by
    refine ⟨{ cls := .type "list_iterator", data := .fields #[.ref ax, .int 0 0] }, hsb₁.extBut _ _ (Nat.ne_of_lt (show @LT.lt Nat _ I (I + 2) from Nat.lt_add_of_pos_right (Nat.succ_pos 1))) (Heap.get?_push_of_some _ ?_), rfl, rfl⟩
    rw [← hH2, ← hH1, ← hI]
    exact Heap.get?_push_of_some _ (Heap.get?_push_size _ rfl)
  have hns : h₁.Ns (I + 2) (fun _ => none) := hns₁
  have fresh₀ : ∀ c, @LE.le Nat _ I c → h₀.get? c = none := fun c hc => by
    cases e : h₀.get? c with
    | none => rfl
    | some o => exact absurd (Heap.lt_size (F.keep c o e)) (by rw [hI]; exact Nat.not_lt.mpr hc)
  have hLlt : @LT.lt Nat _ L I := by rw [← hI]; exact F.ns.lt
  have off : ∀ q ∈ news, @LT.lt Nat _ q.1 I := fun q hq => by rw [← hI]; exact Heap.lt_size (N q hq).1
  have hlist : h₁.IsList ax its.toArray := PySem.IsL.isList (n := k0) (old _ _ (N _ hax).1)
  have axlt : @LT.lt Nat _ ax I := off _ hax
  have nL : L ≠ I ∧ L ≠ I + 1 ∧ L ≠ I + 2 := ⟨Nat.ne_of_lt hLlt, Nat.ne_of_lt (Nat.lt_succ_of_lt hLlt), Nat.ne_of_lt (Nat.lt_succ_of_lt (Nat.lt_succ_of_lt hLlt))⟩
  have loop : ∀ s₃ : Shared, (∃ tk, s₃ = { s with heap := h₁, toks := tk }) →
      codeAny (model prog w) A (.compLoop (.ListComp elt [⟨.Tuple [.Name x px, .Name x₂ px₂] tk0 tp, iter, [ct], 0⟩] scope pos) 0 (.ref I) (.ref (I + 1)) (compEnvC scope cl (I + 2) env))
        (compPost (model prog w) A E (some (assign (.Name y py) env)) (fun _ s' => Q .next s') (.ref (I + 1)) (I + 2)) s₃ := by
    rintro s₃ ⟨tk1, rfl⟩
    refine compLoop_test
      (fun k s' => ∃ h' tk i ys m', s' = { s with heap := h', toks := tk } ∧ i ≤ its.length ∧ k = its.length + 1 - i ∧ ys.length ≤ i ∧ h'.IsListIter I ax i ∧ h'.IsList ax its.toArray ∧ Fr h₀ L h' m ∧ h'.Ns (I + 2) m' ∧ News h₀ L h' ((I + 1, lst ys) :: news) ∧ All2 Y ys ((ql.take i).filter b)) ?_ (its.length + 1)
      ⟨h₁, _, 0, [], _, rfl, Nat.zero_le _, rfl, Nat.zero_le _, hit, hlist, F.keeps old, hns, fun q hq => ?_, .nil⟩
    · rintro k s' ⟨h', tk, i, ys, m', rfl, hi, rfl, hyl, hI', hli', F', hn', N', hY⟩
      have offI : ∀ q ∈ (I + 1, lst ys) :: news, q.1 ≠ I := fun q hq => by
        rcases List.mem_cons.mp hq with rfl | hq
        · exact Nat.ne_of_gt (Nat.lt_succ_self I)
        · exact Nat.ne_of_lt (off q hq)
      by_cases hlt' : i < its.length
      · refine W.item i _ _ _ (by simpa using hlt') ⟨hI', hli'⟩ fun v h₂ tk₂ hPv hst₂ hk₂ => ?_
        obtain ⟨q, hq, bb, t, u, rfl, hm⟩ := All2.get hT (by simpa using hPv)
        have hqm : q ∈ ql := List.mem_of_getElem? hq
        have N₂ : News h₀ L h₂ ((I + 1, lst ys) :: news) := news_but N' hk₂ offI
        have ht : IsTup h₂ bb #[.int q.1 t, .int q.2 u] := ⟨_, (N₂ _ (.tail _ hm)).1, rfl, _, rfl⟩
        refine wpAny_letOwnedTupleGo_listiter hst₂.1 ?_
        refine assign_Tuple_tuple hh ht rfl rfl fun h₅ he => ?_
        have he' : ∀ b o, h₂.get? b = some o → h₅.get? b = some o := fun b o e => he b o (Nat.ne_of_lt (Heap.lt_size e)) e
        refine assignInOrder_cons (wpAny_assign_Name (wpAny_storeName_local (lookup_relabel_local hx) ((hn'.at' fun o e => hk₂ _ o (by simp) e).at' fun o e => he' _ o e) (fun h₆ hn₆ hs₆ => ?_) (by simp [compEnvC, relabel, hkind])))
        refine assignInOrder_cons (wpAny_assign_Name (wpAny_storeName_local (lookup_relabel_local hx₂) hn₆ (fun h₃ hn₃ hs₃ => ?_) (by simp [compEnvC, relabel, hkind])))
        refine assignInOrder_nil ?_
        have hCL : I + 2 ≠ L := nL.2.2.symm
        have hC₀ := fresh₀ (I + 2) (Nat.le_add_right I 2)
        have old3 : ∀ b o, b ≠ I + 2 → h₂.get? b = some o → h₃.get? b = some o := fun b o hb e => hs₃.extBut b o hb (hs₆.extBut b o hb (he' b o e))
        have nC : ∀ q ∈ (I + 1, lst ys) :: news, q.1 ≠ I + 2 := fun q hq => by
          rcases List.mem_cons.mp hq with rfl | hq
          · exact Nat.ne_of_lt (Nat.lt_succ_self (I + 1))
          · exact Nat.ne_of_lt (Nat.lt_of_lt_of_le (off q hq) (Nat.le_add_right I 2))
        have F₃ : Fr h₀ L h₃ m := (((fr_but F' hk₂ nL.1 (fresh₀ I (Nat.le_refl _))).keeps he').change hs₆ hCL hC₀).change hs₃ hCL hC₀
        have N₃ : News h₀ L h₃ ((I + 1, lst ys) :: news) := fun p hp => ⟨old3 _ _ (nC p hp) (N₂ p hp).1, (N₂ p hp).2⟩
        have hst₃ : h₃.IsListIter I ax (i + 1) ∧ h₃.IsList ax its.toArray := W.frame _ _ _ hst₂ fun c hc o e => by
          refine old3 c o ?_ e
          simp only [List.mem_cons, List.not_mem_nil, or_false] at hc
          rcases hc with rfl | rfl
          · exact Nat.ne_of_lt (show @LT.lt Nat _ c (c + 2) from Nat.lt_add_of_pos_right (Nat.succ_pos 1))
          · exact Nat.ne_of_lt (Nat.lt_of_lt_of_le axlt (Nat.le_add_right I 2))
        have Nn : News h₀ L h₃ news := fun p hp => N₃ p (.tail _ hp)
        have etake : ql.take (i + 1) = ql.take i ++ [q] := by rw [List.take_add_one, hq]; rfl
        refine wpAny_mono (test q hqm (I + 2) _ h₃ _ t u _ hn₃ (by simp [hxx]) (by simp) F₃ Nn) (fun ok s₄ hs => ?_) fun _ _ e => e
        obtain ⟨rfl, tk4, rfl⟩ := hs
        cases hb : b q with
        | false =>
          rw [if_neg (by simp)]
          exact ⟨_, by omega, h₃, tk4, i + 1, ys, _, rfl, hlt', rfl, by omega, hst₃.1, hst₃.2, F₃, hn₃, N₃, by rw [etake, List.filter_append]; simpa [hb] using hY⟩
        | true =>
          rw [if_pos rfl]
          refine wpAny_mono (item q hqm hb (I + 2) _ h₃ _ t u _ hn₃ (by simp [hxx]) (by simp) F₃ Nn) (fun y s₅ hs => ?_) fun _ _ e => e
          obtain ⟨hy, tk5, rfl⟩ := hs
          refine append_at (hsz := by show ys.toArray.size ≤ sizeLine; rw [List.size_toArray, sizeLine_eq]; omega) (N₃ _ (.head _)).1 fun h₇ hs₇ hD₇ => ?_
          refine ⟨_, by omega, h₇, tk5, i + 1, ys ++ [y], _, rfl, hlt', rfl, by rw [List.length_append, List.length_singleton]; omega, ?_, ?_, F₃.change hs₇ nL.2.1.symm (fresh₀ _ (Nat.le_succ I)), hn₃.sameBut hs₇ (Nat.ne_of_gt (Nat.lt_succ_self (I + 1))), fun p hp => ?_, by rw [etake, List.filter_append]; exact All2.append hY (by simpa [hb] using All2.cons hy .nil)⟩
          · exact (W.frame _ _ _ hst₃ fun c hc o e => hs₇.extBut c o (by
              simp only [List.mem_cons, List.not_mem_nil, or_false] at hc
              rcases hc with rfl | rfl
              · exact Nat.ne_of_lt (Nat.lt_succ_self c)
              · exact Nat.ne_of_lt (Nat.lt_succ_of_lt axlt)) e).1
          · exact (W.frame _ _ _ hst₃ fun c hc o e => hs₇.extBut c o (by
              simp only [List.mem_cons, List.not_mem_nil, or_false] at hc
              rcases hc with rfl | rfl
              · exact Nat.ne_of_lt (Nat.lt_succ_self c)
              · exact Nat.ne_of_lt (Nat.lt_succ_of_lt axlt)) e).2
          · rcases List.mem_cons.mp hp with rfl | hp
            · exact ⟨hD₇.trans (congrArg some (lst_snoc ys y)), (N₃ _ (.head _)).2⟩
            · exact ⟨hs₇.extBut _ _ (Nat.ne_of_lt (Nat.lt_succ_of_lt (off p hp))) (Nn p hp).1, (Nn p hp).2⟩
      · have hin : i = its.length := by omega
        have hsz2 : its.toArray.size = i := by simp [hin]
        refine W.done _ _ _ (show h'.IsListIter I ax its.toArray.size ∧ h'.IsList ax its.toArray by rw [hsz2]; exact ⟨hI', hli'⟩) fun h₂ tk₂ hk₂ => ?_
        have F₂ := fr_but F' hk₂ nL.1 (fresh₀ I (Nat.le_refl _))
        have N₂ := news_but N' hk₂ offI
        have eall : ql.take i = ql := List.take_of_length_le (by omega)
        rw [eall] at hY
        show wpAny _ A (assign (.Name y py) env (.ref (I + 1))) _ _ _
        have F₂' : Fr h₀ env.locals h₂ m := hLe ▸ F₂
        refine wpAny_assign_Name (wpAny_storeName_local hy F₂'.ns (fun h₈ hn₈ hs₈ => ?_) hp)
        rw [hLe] at hn₈ hs₈
        have hL₀ : h₀.get? L = none := Heap.get?_none_of_le F₂.above
        have F₈ : Fr h₀ L h₈ (fun z => if z = y then some (.ref (I + 1)) else m z) := ⟨hn₈, fun b o e => hs₈.extBut b o (fun q => by rw [q, hL₀] at e; cases e) (F₂.keep b o e), F₂.above⟩
        refine ⟨m', (hn'.at' fun o e => hk₂ _ o (by simp) e).sameBut hs₈ nL.2.2.symm, fun h₇ hs₇ => done (I + 1) h₇ _ ys (F₈.change hs₇ nL.2.2.symm (fresh₀ _ (Nat.le_add_right I 2))) (fun p hp => ⟨hs₇.extBut _ _ ?_ (hs₈.extBut _ _ (N₂ p hp).2.1 (N₂ p hp).1), (N₂ p hp).2⟩) (fun p hp => Nat.ne_of_lt (Nat.lt_succ_of_lt (off p hp))) hY⟩
        rcases List.mem_cons.mp hp with rfl | hp
        · exact Nat.ne_of_lt (Nat.lt_succ_self (I + 1))
        · exact Nat.ne_of_lt (Nat.lt_of_lt_of_le (off p hp) (Nat.le_add_right I 2))
    · rcases List.mem_cons.mp hq with rfl | hq
      · exact ⟨hacc, nL.2.1.symm, fresh₀ _ (Nat.le_succ I)⟩
      · exact ⟨old _ _ (N q hq).1, (N q hq).2⟩
  have hst₁ : h₁.IsListIter I ax 0 ∧ h₁.IsList ax its.toArray := ⟨hit, hlist⟩
  exact codeAny_compStart_list (loop _ ⟨_, rfl⟩) (W.self 0 _ _ _ hst₁ (loop _ ⟨_, rfl⟩))

/-- the keys of a dict that a test takes -/
theorem comp_dict_rest {ct : PySem.Expr} {x : Str} {px : PySem.Pos} {scope : Scope} {cl : List (Str × Addr)} {d : Addr} {od : Obj} {kvs : List (Int × Value)} {ks : List Int} {b : Int → Bool} {news : Ledger} (hks : kvs.map (·.1) = ks) (hdm : (d, od) ∈ news)
    (hkind : ∀ C, (compEnvC scope cl C env).scope.kind = .function) (hl : ∀ C, (compEnvC scope cl C env).kindOf x = some .local) (hd : (x == ("__debug__" : Str)) = false)
    (test : ∀ k ∈ ks, ∀ I oI C oC D oD m₂ h tk t (E' : Value → Shared → Prop), NsObj oC m₂ → m₂ x = some (.int k t) → Fr h₀ L h m → News h₀ L h ((I, oI) :: (C, oC) :: (D, oD) :: news) →
      wpAny (model prog w) A (isTrue ct (compEnvC scope cl C env) (eval ct (compEnvC scope cl C env))) (fun ok s' => ok = b k ∧ ∃ tk', s' = { s with heap := h, toks := tk' }) E' { s with heap := h, toks := tk }) :
    ∀ (n i : Nat) (ys : List Value), i + n = kvs.length → IntsAre ys ((ks.take i).filter b) →
      LCt.CompRestT prog w A h₀ L m env ct (.Name x px) x scope cl s (fun nw => (d, od) ∈ nw) (fun i v => ∃ k y, kvs[i]? = some (k, y) ∧ (intKind prog w).is k v = true) (fun ys nw => nw = news ∧ IntsAre ys (ks.filter b)) n i ys news
  | 0, i, ys, hi, hy => LCt.CompRestT.zero ⟨rfl, by
      have : ks.take i = ks := List.take_of_length_le (by rw [← hks, List.length_map]; omega)
      rw [this] at hy; exact hy⟩
  | n + 1, i, ys, hi, hy => LCt.CompRestT.succ fun v I oI C oC D m₂ h tk E' hP hC hx F N off ne => by
      obtain ⟨k, y, hk, hkey⟩ := hP
      obtain ⟨t, rfl⟩ := Value.isInt_shape hkey
      have hki : ks[i]? = some k := by rw [← hks, List.getElem?_map, hk]; rfl
      have etake : ks.take (i + 1) = ks.take i ++ [k] := by rw [List.take_add_one, hki]; rfl
      refine wpAny_mono (test k (List.mem_of_getElem? hki) I oI C oC D (lst ys) m₂ h tk t E' hC hx F N) (fun ok s' hs => ?_) fun _ _ e => e
      obtain ⟨rfl, tk', rfl⟩ := hs
      cases hb : b k with
      | true =>
        rw [if_pos rfl]
        refine LCgL.ld_own (C := C) (oC := oC) (s := { s with heap := h, toks := tk' }) N (.tail _ (.head _)) hC hx ?_ (hkind C) (hl C) hd
        refine CompEnd.intro (s₁ := { s with heap := h, toks := tk }) F N news (fun p hp => hp) off hdm ?_
        refine comp_dict_rest hks hdm hkind hl hd test n (i + 1) _ (by omega) ?_
        rw [etake, List.filter_append]
        refine IntsAre.append hy ?_
        simp only [List.filter_cons, hb, if_true, List.filter_nil]
        exact .cons _ _ .nil
      | false =>
        rw [if_neg (by simp)]
        refine CompEnd.intro (s₁ := { s with heap := h, toks := tk }) F N news (fun p hp => hp) off hdm ?_
        refine comp_dict_rest hks hdm hkind hl hd test n (i + 1) _ (by omega) ?_
        rw [etake, List.filter_append]
        simp only [List.filter_cons, hb, Bool.false_eq_true, if_false, List.filter_nil, List.append_nil]
        exact hy

theorem comp_dict {iter ct : PySem.Expr} {x : Str} {px ppx : PySem.Pos} {scope : Scope} {cl : List (Str × Addr)} {pos : PySem.Pos} {Q : Value → Shared → Prop} {d : Addr} {od : Obj} {dl : List (Int × Int)} {b : Int → Bool} {news : Ledger}
    (hh : A.handled = none) (F : Fr h₀ L s.heap m) (N : News h₀ L s.heap news) (hdm : (d, od) ∈ news) (lo : (d == sysModules) = false) (hD : DictSt prog w od dl) (hsz : dl.length ≤ 1000)
    (hclos : closureFor scope env = pure cl) (hcell : ∀ y ∈ scope.names, y.2 ≠ .cell) (hkind : scope.kind = .function) (hnames : ∀ y ∈ scope.names, y.2 = .local → scope.names.lookup y.1 = some .local) (hx : scope.names.lookup x = some .local)
    (hkd : ∀ C, (compEnvC scope cl C env).scope.kind = .function) (hl : ∀ C, (compEnvC scope cl C env).kindOf x = some .local) (hdbg : (x == ("__debug__" : Str)) = false)
    (hs : ∀ v, foldedSetIterable iter env v = pure v) (hiter : ∀ Q' : Value → Shared → Prop, (∀ tk, Q' (.ref d) { s with toks := tk }) → wpAny (model prog w) A (eval iter env) Q' E s)
    (test : ∀ k ∈ keys dl, ∀ I oI C oC D oD m₂ h tk t (E' : Value → Shared → Prop), NsObj oC m₂ → m₂ x = some (.int k t) → Fr h₀ L h m → News h₀ L h ((I, oI) :: (C, oC) :: (D, oD) :: news) →
      wpAny (model prog w) A (isTrue ct (compEnvC scope cl C env) (eval ct (compEnvC scope cl C env))) (fun ok s' => ok = b k ∧ ∃ tk', s' = { s with heap := h, toks := tk' }) E' { s with heap := h, toks := tk })
    (done : ∀ D h tk ys, Fr h₀ L h m → News h₀ L h ((D, lst ys) :: news) → IntsAre ys ((keys dl).filter b) → Q (.ref D) { s with heap := h, toks := tk }) :
    wpAny (model prog w) A (eval (.ListComp (.Name x px) [⟨.Name x ppx, iter, [ct], 0⟩] scope pos) env) Q E s := by
  rw [eval_ListComp]
  refine wpAny_comprehension_free (use := none) rfl hs hclos hkind hnames (hiter _ fun tk0 => ?_)
  obtain ⟨kvs, hdo, hv⟩ := hD
  have hdN := N _ hdm
  obtain ⟨ep, hm⟩ := (Heap.dictOf_iff.mpr ⟨od, hdN.1, hdo⟩ : s.heap.DictOf (intKind prog w) d kvs).dictAt
  have hlt : @LT.lt Nat _ d s.heap.objs.size := hm.lt_size
  refine wpAny_pyIter_dict (s := { s with toks := tk0 }) lo hm ?_
  have up : ∀ b o, s.heap.get? b = some o → (s.heap.push { cls := .type "dict_keyiterator", data := .fields #[.ref d, .int 0 0, .int kvs.length 0, .int ep 0] }).get? b = some o := fun b o e => Heap.get?_push_of_some _ e
  refine LCt.block_T (S := fun nw => (d, od) ∈ nw) (Walks.dictKeys hh s.heap.objs.size d (Nat.ne_of_lt hlt) kvs ep) (by rw [hv.length, sizeLine_eq]; omega) (fun i h st => by obtain ⟨o, e, _⟩ := st.1; exact ⟨o, e⟩) ?_ hcell hkind hx ⟨⟨_, Heap.get?_push_size _ rfl, rfl, rfl⟩, hm.push _⟩ (fun b hb => ?_)
    (F.keeps up) (N.grown up) (Nat.ne_of_lt F.ns.lt) (next_is_new F) (fun p hp => Nat.ne_of_lt (Heap.lt_size (N p hp).1)) hdm
    (comp_dict_rest (px := px) (s := { s with heap := s.heap.push { cls := .type "dict_keyiterator", data := .fields #[.ref d, .int 0 0, .int kvs.length 0, .int ep 0] }, toks := tk0 }) (ks := keys dl) hv.keys hdm hkd hl hdbg (fun k hk I oI C oC D oD m₂ h tk t E' => test k hk I oI C oC D oD m₂ h tk t E') kvs.length 0 [] (by omega) .nil) ?_
  · rintro i h h' o nw ⟨⟨oi, hi1, hi2⟩, _⟩ e1 e2 _ N' hS
    obtain ⟨o9, es, ho9, r9⟩ := hm
    have e9 : o9 = od := by rw [hdN.1] at ho9; exact (Option.some.inj ho9).symm
    subst e9
    rw [e1] at hi1
    cases hi1
    exact ⟨⟨_, e2, hi2⟩, ⟨_, es, (N' _ hS).1, r9⟩⟩
  · show b < (s.heap.push _).objs.size
    rw [Heap.size_push]
    rcases List.mem_cons.mp hb with rfl | hb
    · exact Nat.lt_succ_self _
    · rw [List.mem_singleton.mp hb]; exact Nat.lt_succ_of_lt hlt
  · rintro D C h tk m' ys news' F' N' o1 hn hC₀ hD₀ hCL hDL hCD offC ⟨rfl, fin⟩
    refine ⟨m', hn, fun h'' hs'' => done D h'' tk ys (F'.change hs'' hCL hC₀) (fun p hp => ?_) fin⟩
    refine ⟨hs''.extBut _ _ ?_ (N' p hp).1, (N' p hp).2⟩
    rcases List.mem_cons.mp hp with rfl | hp
    · exact Ne.symm hCD
    · exact offC p hp
end

theorem strOk_int : ∀ x : Int, 0 ≤ x → x ≤ 100 → PyData.strOk (Str.ofString (toString x)) = true := by
  intro x h0 h1
  have h : ∀ n : Fin 101, PyData.strOk (Str.ofString (toString (n.val : Int))) = true := by decide +kernel
  have := h ⟨x.toNat, by omega⟩
  rwa [show ((x.toNat : Nat) : Int) = x by omega] at this
theorem strOk_append {a b : Str} (ha : PyData.strOk a = true) (hb : PyData.strOk b = true) : PyData.strOk (a ++ b) = true := by
  have e : (a ++ b).cps = a.cps ++ b.cps := rfl
  unfold PyData.strOk at *
  rw [e, Array.all_append, ha, hb]; rfl
theorem lines_ok {pl : List (Int × Int)} (hG : GoodKeys pl) (hV : GoodVals pl) : ∀ d ∈ pl.map lineD, kqdOk 8 d = true := fun d hd => by
  obtain ⟨q, hq, rfl⟩ := List.mem_map.mp hd
  obtain ⟨j, hj, e⟩ := hG q hq
  obtain ⟨h0, h1⟩ := hV q hq
  show PyData.strOk _ = true
  exact strOk_append (strOk_append (strOk_int _ (by omega) (by omega)) (by decide +kernel)) (strOk_append (by decide +kernel) (strOk_int _ h0 h1))

/-- the places are what counts -/
theorem Tri.reR {J R R' M1 M2 M3 : Ledger} {p1 p2 p3 : Addr} {a b c : List (Int × Int)} (h : Tri J R M1 M2 M3 p1 p2 p3 a b c) (e : ∀ q ∈ R', ∃ q' ∈ R, q'.1 = q.1) : Tri J R' M1 M2 M3 p1 p2 p3 a b c := by
  obtain ⟨⟨x1, x2, x3, x4⟩, ⟨y1, y2, y3, y4⟩, ⟨z1, z2, z3, z4⟩, h12, h13, h23, hJ⟩ := h
  have f : ∀ {M : Ledger}, Apart M R → Apart M R' := fun h p hp q hq => by
    obtain ⟨q', hq', e'⟩ := e q hq
    exact e' ▸ h p hp q' hq'
  exact ⟨⟨x1, x2, x3, Apart.append_right x4.left (f x4.right)⟩, ⟨y1, y2, y3, Apart.append_right y4.left (f y4.right)⟩, ⟨z1, z2, z3, Apart.append_right z4.left (f z4.right)⟩, h12, h13, h23, f hJ⟩
theorem Tri.offR {J R M1 M2 M3 : Ledger} {p1 p2 p3 x : Addr} {o : Obj} {a b c : List (Int × Int)} (h : Tri J R M1 M2 M3 p1 p2 p3 a b c) (hx : (x, o) ∈ R) : ∀ q ∈ M1 ++ (M2 ++ (M3 ++ J)), q.1 ≠ x := fun q hq => by
  obtain ⟨⟨_, _, _, x4⟩, ⟨_, _, _, y4⟩, ⟨_, _, _, z4⟩, _, _, _, hJ⟩ := h
  simp only [List.mem_append] at hq
  rcases hq with h | h | h | h
  · exact x4.right q h _ hx
  · exact y4.right q h _ hx
  · exact z4.right q h _ hx
  · exact hJ q h _ hx
theorem triL_two {J R M1 M2 M3 : Ledger} {x y z1 z2 q : Addr × Obj} (h : q ∈ z1 :: z2 :: TriL J (x :: y :: R) M1 M2 M3) : q ∈ x :: y :: z1 :: z2 :: TriL J R M1 M2 M3 := by
  simp only [TriL, List.mem_cons, List.mem_append] at h ⊢
  rcases h with h | h | h | h | h | h | h | h | h <;> simp [h]
def EndB (v : Bool) (s : Shared) (h : Heap) (ok : Bool) (s' : Shared) : Prop := ok = v ∧ ∃ tk', s' = { s with heap := h, toks := tk' }
def EndV (P : Value → Prop) (s : Shared) (h : Heap) (y : Value) (s' : Shared) : Prop := P y ∧ ∃ tk', s' = { s with heap := h, toks := tk' }
theorem shown_dat {ys : List Value} {ql : List (Int × Int)} (h : All2 (fun y (q : Int × Int) => ∃ t, y = Value.str ((Str.ofString (toString q.1) ++ Str.ofString " PRINT ") ++ Str.ofString (toString q.2)) t) ys ql) : DatAll [] ys (ql.map lineD) := by
  induction h with
  | nil => exact .nil
  | cons e _ ih =>
    obtain ⟨t, rfl⟩ := e
    refine .cons ?_ ih
    rw [← line_text]
    exact .str _ _
section
variable {prog : Program} {w : World} {A : Around} {E : Value → Shared → Prop} {s : Shared} {h₀ : Heap} {L : Addr} {news : Ledger} {va vb : Value} {d : Dat} {Q : Value → Shared → Prop}
theorem dat_eqT (N : News h₀ L s.heap news) (Da : DatIn news va d) (Db : DatIn news vb d) (ok : kqdOk 8 d = true) (hu : A.units + 64 < cLine) (h : Q (.bool true) s) : wpAny (model prog w) A (compareOp .Eq va vb) Q E s := by
  obtain ⟨as, ra⟩ := kqd_in N 8 Da ok
  obtain ⟨bs, rb⟩ := kqd_in N 8 Db ok
  have l := kqd_lay 8 d ok
  have e : PyData.eqv (kqdP d) (kqdP d) = true := (kqd_eqv 8 d d 8 ok ok).mpr rfl
  have sh : SeqAt.shaped (kqdP d) = true := by unfold SeqAt.shaped; rw [l.1, Bool.true_and]; exact decide_eq_true (Nat.le_trans l.2 (by decide))
  exact eq_dataH ra rb sh sh hu (by rw [e]; exact h)
end
theorem ints_dat {J : Ledger} {vs : List Value} {ns : List Int} (h : IntsAre vs ns) : DatAll J vs (ns.map Dat.int) := by
  induction h with
  | nil => exact .nil
  | cons i t _ ih => exact .cons (.int _ _) ih
theorem prog_ok (pl : List (Int × Int)) : kqdOk 8 (.tuple [.list ((keys pl).map Dat.int), .list ((vals pl).map rowD)]) = true := by
  have h1 : ((keys pl).map Dat.int).all (kqdOk 6) = true := List.all_eq_true.mpr fun d hd => by
    obtain ⟨x, _, rfl⟩ := List.mem_map.mp hd
    rfl
  have h2 : ((vals pl).map rowD).all (kqdOk 6) = true := List.all_eq_true.mpr fun d hd => by
    obtain ⟨x, _, rfl⟩ := List.mem_map.mp hd
    simp only [rowD, kqdOk, List.all_cons, List.all_nil, Bool.and_true]
    decide +kernel
  simp only [kqdOk, List.all_cons, List.all_nil, Bool.and_true, h1, h2]
theorem triL_back {J R M1 M2 M3 : Ledger} {x y q : Addr × Obj} (h : q ∈ y :: x :: ((M1 ++ (M2 ++ (M3 ++ J))) ++ R)) : q ∈ TriL J (x :: y :: R) M1 M2 M3 := by
  simp only [TriL, List.mem_cons, List.mem_append] at h ⊢
  rcases h with h | h | (h | h | h | h) | h <;> simp [h]
theorem triL_fwd {J R M1 M2 M3 : Ledger} {x y q : Addr × Obj} (h : q ∈ TriL J (x :: y :: R) M1 M2 M3) : q ∈ y :: x :: ((M1 ++ (M2 ++ (M3 ++ J))) ++ R) := by
  simp only [TriL, List.mem_cons, List.mem_append] at h ⊢
  rcases h with h | h | h | h | h | h | h <;> simp [h]
def EndLaw (s1 : Shared) (f : Flow) (s' : Shared) : Prop := ∃ h' tk' m' news', f = .ret (.bool true) ∧ s' = { s1 with heap := h', toks := tk' } ∧ Fr s1.heap s1.heap.objs.size h' m' ∧ News s1.heap s1.heap.objs.size h' news'
theorem apart_of {A B C : List (Int × Int)} (hc : (keys C).Nodup) (h : (keys A).filter (fun k => dhas B k || dhas C k) = []) : ∀ k ∈ keys A, k ∉ keys (dupd B C) := fun k hk hm => by
  have := List.filter_eq_nil_iff.mp h k hk
  apply this
  rw [Bool.or_eq_true]
  rcases (dupd_keys hc k).mp hm with h | h
  · exact .inr (dhas_iff.mpr h)
  · exact .inl (dhas_iff.mpr h)
end
section
structure LoopSt where
  tt : Tok
  n : Nat
  turn : Int
  o : Obj
  M : Ledger
  new : Ledger
  pl : List (Int × Int)
  dl : List (Int × Int)
def LoopP (prog : Program) (w : World) (J0 : Ledger) (f0 dd p0 : Addr) (t0 : Int) (i : Nat) (c : LoopSt) : Prop :=
  ProgSt c.M (c.new ++ J0) p0 c.pl ∧ DictSt prog w c.o c.dl ∧ Agree c.pl c.dl ∧ Sorted c.pl ∧ GoodKeys c.pl ∧ Apart c.M c.new ∧ (∀ q ∈ c.M ++ c.new, q.1 ≠ f0) ∧ (∀ q ∈ c.M ++ c.new, q.1 ≠ dd) ∧ 0 ≤ c.turn ∧ c.turn ≤ t0 + 3 * i

section
local macro_rules | `(tactic| walk_at "exec For Name Call cons nil") => `(tactic| (k_here; (with_unfolding_all refine wpAny_For ?_ (by intro _; rfl))))
local macro_rules | `(tactic| walk_at "exec For Tuple Call cons nil") => `(tactic| (k_here; (with_unfolding_all refine wpAny_For ?_ (by intro _; rfl))))
local macro_rules | `(tactic| walk_at "exec Assign cons ListComp") => `(tactic| (refine Stop.on ?_))
local macro_rules | `(tactic| walk_at "eval ListComp") => `(tactic| (refine Stop.on ?_))
local macro_rules | `(tactic| walk_at "compareOp NotEq ref ref") => `(tactic| (refine Stop.on ?_))
local macro_rules | `(tactic| walk_at "compareOp Eq ref ref") => `(tactic| (refine Stop.on ?_))
local macro_rules | `(tactic| walk_at "compareOp In int ref") => `(tactic| (refine Stop.on ?_))
set_option maxRecDepth 100000 in
set_option maxHeartbeats 8000000 in
theorem law_holds : PySem.Challenge.rw_sa0631_01.Holds := hd (by
  k_with_none
  w_top off
  k_fill
  intro w s0 s1 mg mb G Y fa o pm cd doc dV kV ho hdf hcd hD hmg hg args vals as hpre hlay hrd hwl hlo
  have KX := kIn_of Y
  have X := (Ground.X G).1
  have V := (Ground.X G).2
  refine Ground.open G ?_
  intro T B D TE TW
  try (refine guard_noD D (by decide +kernel) ?_; clear D)
  obtain ⟨_, _, M⟩ := bmod_of_top T
  have TA := at_of_top T
  try (obtain ⟨_, _, he, B0⟩ := based_of_top T rfl hmg ho hdf; have he' : cd = _ := he; subst he'; clear he)
  clear hmg
  wrow_args hpre hlay hrd hwl hlo
  all_goals (
    first | refine callC_kw (enter_call ?_) | refine enter_call ?_ | refine callC_kw (enter_callW ?_) | refine enter_callW ?_ | w_how
    w_top on
    try refine codeAny_mono ?_ (fun _ _ g => GoodW.toG g)
    have K0 := below_caller (Top.heap T)
    w_call any ho hdf hcd hD T F
    clear hdf TA
    k_drop
    skip)
  all_goals try k_fold
  rename_i w1 w2 w3 w4 ns hs hlay0 hL hr hl2 w5 w6 sa vs w7 hLs ra w1' r0 hI hr' hcond hcond' h1 tk1 oc hoc N0 X0
  refine wpAny_mono (Q := EndLaw s1) (E := fun _ _ => False) ?_ (fun f s' hq => ?_) (fun _ _ e => e.elim)
  · clear hD hcond' hr' r0 w1' ra hl2 hr hL hlay0 hs hcd M TW TE B V X hg ho Y G
    have F1 : Fr s1.heap s1.heap.objs.size h1 (fun y => if y = Str.ofString "script" then some (Value.ref sa) else none) := by with_unfolding_all exact F
    have hoc1 : oc.data = .cell none := by with_unfolding_all exact hoc
    clear F hoc X0
    dsimp only
    have hl63 : ns.length ≤ 63 := by
      have h9 : ¬ ((63 : Nat) : Int) < (ns.length : Int) := hcond
      omega
    have hvl : vs.length ≤ 63 := by rw [hI.length]; exact hl63
    clear hcond
    have hI5 : IntsAre (vs.take 50) (ns.take 50) := ints_iff.mpr ((ints_iff.mp hI).take 50)
    have hl5 : (ns.take 50).length ≤ 63 := by rw [List.length_take]; omega
    k_with "call ref" => (refine Stop.on ?_)
    k_steps
    refine Stop.off ?_
    rename_i c0 _ l1 f0 _ l2 _ F2 N2
    have cf : @Ne Nat c0 f0 := Nat.ne_of_lt l2.1
    have uf : @Ne Nat (s1.heap.objs.size + 1) f0 := Nat.ne_of_lt l2.2
    with_unfolding_all refine' Spec.use (L := s1.heap.objs.size) ?zaB F2 KX ?zaN T rfl (lines_spec (R := [(c0, listOf (vs.take 50).toArray 0), (s1.heap.objs.size + 1, oc)]) (f := f0) (c := c0) (vs := vs.take 50) (ns := ns.take 50) (n := 0) (n2 := 0) (turn := 0) (.head _) hI5 hl5 (by decide) (by decide) ?zaR) ?zad ?zau ?_
    case zaB => exact K0
    case zaN => exact N2
    case zaR =>
      intro q hq
      simp only [List.mem_cons, List.not_mem_nil, or_false] at hq
      rcases hq with rfl | rfl
      · exact cf
      · exact uf
    case zad => decide
    case zau => decide
    rintro _ _ h3 tk3 ⟨t1, tt1, d0, o0, A, rfl, rfl, ha1, ha2, hA, gA, vA, fd0, rd0, lo0⟩ F3 N3
    k_with_none
    k_with "call ref" => (refine Stop.on ?_)
    k_steps
    refine Stop.off ?_
    have fn2 : ∀ q ∈ [(d0, o0), (c0, listOf (vs.take 50).toArray 0), (s1.heap.objs.size + 1, oc)], q.1 ≠ f0 := by
      intro q hq
      simp only [List.mem_cons, List.not_mem_nil, or_false] at hq
      rcases hq with rfl | rfl | rfl
      · exact Nat.ne_of_gt fd0
      · exact cf
      · exact uf
    with_unfolding_all refine' Spec.use (L := s1.heap.objs.size) ?zbB2 F3 KX ?zbN2 T rfl (lines_spec (R := [(d0, o0), (c0, listOf (vs.take 50).toArray 0), (s1.heap.objs.size + 1, oc)]) (f := f0) (c := c0) (vs := vs.take 50) (ns := ns.take 50) (n := 0) (n2 := 0) (turn := t1) (tt := tt1) (.tail _ (.head _)) hI5 hl5 (by omega) (by omega) fn2) ?zbd2 ?zbu2 ?_
    case zbB2 => exact K0
    case zbN2 => exact N3
    case zbd2 => decide
    case zbu2 => decide
    rintro _ _ h4 tk4 ⟨t2, tt2, d1, o1, Bd, rfl, rfl, hb1, hb2, hB, gB, vB, fd1, rd1, lo1⟩ F4 N4
    k_with_none
    k_with "call ref" => (refine Stop.on ?_)
    k_steps
    refine Stop.off ?_
    have fn3 : ∀ q ∈ [(d1, o1), (d0, o0), (c0, listOf (vs.take 50).toArray 0), (s1.heap.objs.size + 1, oc)], q.1 ≠ f0 := by
      intro q hq
      simp only [List.mem_cons, List.not_mem_nil, or_false] at hq
      rcases hq with rfl | rfl | rfl | rfl
      · exact Nat.ne_of_gt fd1
      · exact Nat.ne_of_gt fd0
      · exact cf
      · exact uf
    with_unfolding_all refine' Spec.use (L := s1.heap.objs.size) ?zbB3 F4 KX ?zbN3 T rfl (lines_spec (R := [(d1, o1), (d0, o0), (c0, listOf (vs.take 50).toArray 0), (s1.heap.objs.size + 1, oc)]) (f := f0) (c := c0) (vs := vs.take 50) (ns := ns.take 50) (n := 0) (n2 := 0) (turn := t2) (tt := tt2) (.tail _ (.tail _ (.head _))) hI5 hl5 (by omega) (by omega) fn3) ?zbd3 ?zbu3 ?_
    case zbB3 => exact K0
    case zbN3 => exact N4
    case zbd3 => decide
    case zbu3 => decide
    rintro _ _ h5 tk5 ⟨t3, tt3, d2, o2, Cd, rfl, rfl, hc1, hc2, hC, gC, vC, fd2, rd2, lo2⟩ F5 N5
    have cd0 : @LT.lt Nat _ c0 d0 := rd0 _ (.head _)
    have ud0 : @LT.lt Nat _ (s1.heap.objs.size + 1) d0 := rd0 _ (.tail _ (.head _))
    have d01 : @LT.lt Nat _ d0 d1 := rd1 _ (.head _)
    have cd1 : @LT.lt Nat _ c0 d1 := rd1 _ (.tail _ (.head _))
    have ud1 : @LT.lt Nat _ (s1.heap.objs.size + 1) d1 := rd1 _ (.tail _ (.tail _ (.head _)))
    have d12 : @LT.lt Nat _ d1 d2 := rd2 _ (.head _)
    have d02 : @LT.lt Nat _ d0 d2 := rd2 _ (.tail _ (.head _))
    have cd2 : @LT.lt Nat _ c0 d2 := rd2 _ (.tail _ (.tail _ (.head _)))
    have ud2 : @LT.lt Nat _ (s1.heap.objs.size + 1) d2 := rd2 _ (.tail _ (.tail _ (.tail _ (.head _))))
    clear rd0 rd1 rd2
    k_with_none
    k_with "call ref" => (refine Stop.on ?_)
    k_steps
    refine Stop.off ?_
    rename_i sm _ lsm _ co F6 N6 hco
    k_with_none
    k_with "call ref" => (refine Stop.on ?_)
    k_with "call type:dict" => (refine Stop.on ?_)
    with_unfolding_all refine' Spec.use (L := s1.heap.objs.size) ?zcB F6 KX ?zcN T rfl (program_spec (dd := d0) (o := o0) (dl := A) ?zcm lo0 hA gA) ?zcd ?zcu ?_
    case zcB => exact K0
    case zcN => exact N6
    case zcm => k_mem
    case zcd => decide
    case zcu => decide
    rintro _ _ h7 tk7 ⟨M0, J0, p0, rfl, rfl, hP0, ab0, ap0⟩ F7 N7
    replace N7 := nsub (l' := (sm, listOf #[.ref d0, .ref d1, .ref d2] 0) :: (f0, listOf #[.ref c0, .int t3 tt3] 0) :: (d2, o2) :: (d1, o1) :: (d0, o0) :: (c0, listOf (vs.take 50).toArray 0) :: (s1.heap.objs.size + 1, co) :: (M0 ++ J0)) N7 (fun q hq => by
      simp only [List.mem_cons, List.mem_append] at hq ⊢
      rcases hq with h | h | h | h | h | h | h | h | h <;> simp [h])
    clear N6 F6
    k_steps
    refine Stop.off ?_
    refine' gd_copy F7 N7 (modules_low T.nolimit) (d := d0) (o := o0) (dl := A) ?zdm lo0 hA ?zdl ?_
    case zdm => k_mem
    case zdl => have := gA.length hA.nodup; omega
    intro dd h8 od F8 N8 lod hod bd
    clear N7 F7
    k_steps
    refine Stop.off ?_
    rename_i _ lD _ _ _ F9 N9
    obtain ⟨RB, hRB⟩ : ∃ RB : Ledger, RB = (sm, listOf #[.ref d0, .ref d1, .ref d2] 0) :: (d2, o2) :: (d1, o1) :: (d0, o0) :: (c0, listOf (vs.take 50).toArray 0) :: (s1.heap.objs.size + 1, co) :: J0 := ⟨_, rfl⟩
    have N10 := nsub (l' := (f0, listOf #[.ref c0, .int t3 tt3] 0) :: (dd, od) :: (M0 ++ RB)) N9 (fun q hq => by
      rw [hRB] at hq
      simp only [List.mem_cons, List.mem_append] at hq ⊢
      rcases hq with h | h | h | h | h | h | h | h | h | h <;> simp [h])
    clear N9
    have mf : (f0, listOf #[.ref c0, .int t3 tt3] 0) ∈ [(sm, listOf #[.ref d0, .ref d1, .ref d2] 0), (f0, listOf #[.ref c0, .int t3 tt3] 0), (d2, o2), (d1, o1), (d0, o0), (c0, listOf (vs.take 50).toArray 0), (s1.heap.objs.size + 1, co)] := .tail _ (.head _)
    have fdd : @LT.lt Nat _ f0 dd := bd _ (.tail _ (.head _))
    have hRBf : ∀ q ∈ RB, q.1 ≠ f0 := fun q hq => by
      rw [hRB] at hq
      simp only [List.mem_cons] at hq
      rcases hq with rfl | rfl | rfl | rfl | rfl | rfl | hq
      · exact Nat.ne_of_gt lsm.1
      · exact Nat.ne_of_gt fd2
      · exact Nat.ne_of_gt fd1
      · exact Nat.ne_of_gt fd0
      · exact cf
      · exact uf
      · exact Nat.ne_of_gt (ab0 q (List.mem_append_right _ hq) _ mf)
    have hM0f : ∀ q ∈ M0, q.1 ≠ f0 := fun q hq => Nat.ne_of_gt (ab0 q (List.mem_append_left _ hq) _ mf)
    have hRBd : ∀ q ∈ RB, q.1 ≠ dd := fun q hq => Nat.ne_of_lt (bd q (by
      rw [hRB] at hq
      simp only [List.mem_cons, List.mem_append] at hq ⊢
      rcases hq with h | h | h | h | h | h | h <;> simp [h]))
    have hM0d : ∀ q ∈ M0, q.1 ≠ dd := fun q hq => Nat.ne_of_lt (bd q (by simp [hq]))
    have hM0R : Apart M0 RB := fun p hp q hq => by
      rw [hRB] at hq
      have h9 := ab0 p (List.mem_append_left _ hp)
      simp only [List.mem_cons] at hq
      rcases hq with rfl | rfl | rfl | rfl | rfl | rfl | hq
      · exact Nat.ne_of_gt (h9 _ (.head _))
      · exact Nat.ne_of_gt (h9 _ (.tail _ (.tail _ (.head _))))
      · exact Nat.ne_of_gt (h9 _ (.tail _ (.tail _ (.tail _ (.head _)))))
      · exact Nat.ne_of_gt (h9 _ (.tail _ (.tail _ (.tail _ (.tail _ (.head _))))))
      · exact Nat.ne_of_gt (h9 _ (.tail _ (.tail _ (.tail _ (.tail _ (.tail _ (.head _)))))))
      · exact Nat.ne_of_gt (h9 _ (.tail _ (.tail _ (.tail _ (.tail _ (.tail _ (.tail _ (.head _))))))))
      · exact ap0 p hp q hq
    have hJ0 : ∀ q ∈ J0, q ∈ RB := fun q hq => by rw [hRB]; simp [hq]
    have mc0 : (c0, listOf (vs.take 50).toArray 0) ∈ RB := by rw [hRB]; simp
    have md0 : (d0, o0) ∈ RB := by rw [hRB]; simp
    have md1 : (d1, o1) ∈ RB := by rw [hRB]; simp
    have md2 : (d2, o2) ∈ RB := by rw [hRB]; simp
    have msm : (sm, listOf #[.ref d0, .ref d1, .ref d2] 0) ∈ RB := by rw [hRB]; simp
    have mco : (s1.heap.objs.size + 1, co) ∈ RB := by rw [hRB]; simp
    clear ab0 ap0 bd mf lD lsm
    with_unfolding_all refine' Spec.use (L := s1.heap.objs.size) ?zeB F9 KX N10 T rfl (next_spec (R := (dd, od) :: (M0 ++ RB)) (f := f0) (c := c0) (vs := vs.take 50) (ns := ns.take 50) (n := 0) (n2 := 0) (turn := t3) (.tail _ (List.mem_append_right _ mc0)) hI5 hl5 (by omega) (by omega) (by decide) (by decide) ?zef) ?zed ?zeu ?_
    case zeB => exact K0
    case zef =>
      intro q hq
      rcases List.mem_cons.mp hq with rfl | hq
      · exact Nat.ne_of_gt fdd
      · exact (List.mem_append.mp hq).elim (hM0f q) (hRBf q)
    case zed => decide
    case zeu => decide
    rintro _ _ h11 tk11 ⟨r0, tr0, tt4, rfl, hr00, hr01, rfl⟩ F11 N11
    clear N10
    k_with "pyIter ref" => (refine Stop.on ?_)
    k_steps
    refine Stop.off ?_
    rename_i _ _ _ _ _ _ _ _ t6 u6 v6 hrg F12 N12 _
    rename IntsAre (vs.take 50) (ns.take 50) => hI5
    refine rangeLoop (n := (1 + r0).toNat) (σ := LoopSt) (R := RB) (fun c => (f0, listOf #[.ref c0, .int c.turn c.tt] c.n) :: (dd, c.o) :: (c.M ++ c.new)) (fun _ => []) [Str.ofString "turn"]
      (LoopP PySem.Challenge.rw_sa0631_01.row.prog w J0 f0 dd p0 (t3 + 1)) ⟨tt4, 0, t3 + 1, od, M0, [], build A, A⟩ rfl hrg (small_one (by omega) (by omega) (by omega) (by omega)) (by rw [rangeSize_nat]; simp) rfl rfl F12 (nsub N12 ?_) ?_ ?_ ?_ ?_ ?_
    · intro q hq
      simp only [List.cons_append, List.append_nil] at hq
      exact hq
    · intro p hp q hq
      simp only [List.append_nil, List.mem_cons] at hp
      rcases hp with rfl | rfl | hp
      · exact (hRBf q hq).symm
      · exact (hRBd q hq).symm
      · exact hM0R p hp q hq
    · intro p hp; cases hp
    · exact ⟨hP0, hod, build_agree hA.nodup, build_sorted, build_good gA, (fun p hp q hq => by cases hq), (fun q hq => hM0f q (by simpa using hq)), (fun q hq => hM0d q (by simpa using hq)), by dsimp only; omega, by dsimp only; omega⟩
    · intro i c t u h tk R' E' hi hP hR hAp F' N'
      obtain ⟨tt, n, turn, o, M, new, pl, dl⟩ := c
      obtain ⟨hPp, hDd, hag, hS, hG, hMn, hfn, hdn, htu0, htu1⟩ := hP
      dsimp only at hPp hDd hag hS hG hMn hfn hdn htu0 htu1 F' N' hAp ⊢
      change Fr s1.heap s1.heap.objs.size h _ at F'
      change News s1.heap s1.heap.objs.size h _ at N'
      have N5 := nsub (l' := (sm, listOf #[.ref d0, .ref d1, .ref d2] 0) :: (s1.heap.objs.size + 1, co) :: (f0, listOf #[.ref c0, .int turn tt] n) :: (dd, o) :: (M ++ (new ++ R'))) N' (fun q hq => by
        simp only [List.mem_cons, List.mem_append] at hq
        rcases hq with rfl | rfl | h | h | h | h | h
        · simp [hR _ msm]
        · simp [hR _ mco]
        all_goals simp [h])
      clear N'
      k_with_none
      k_with "call ref" => (refine Stop.on ?_)
      k_steps
      refine Stop.off ?_
      rename_i oth _ F6 N6 loth
      have N7 := nsub (l' := (f0, listOf #[.ref c0, .int turn tt] n) :: (dd, o) :: (M ++ ((oth, listOf #[.ref d1, .ref d2] 0) :: (new ++ R')))) N6 (fun q hq => by
        simp only [List.mem_cons, List.mem_append] at hq ⊢
        rcases hq with h | h | h | h | h | h <;> simp [h])
      clear N6
      have lall : ∀ q ∈ M ++ (new ++ R'), @LT.lt Nat _ q.1 oth := fun q hq => allLt_get loth.2.2.2.2 q hq
      have foth := loth.2.2.1
      have doth := loth.2.2.2.1
      clear loth
      with_unfolding_all refine' Spec0.use (L := s1.heap.objs.size) ?zfB F6 KX N7 T ?zfX ?zfT rfl (done_spec (J := new ++ J0) (R := (oth, listOf #[.ref d1, .ref d2] 0) :: (new ++ R')) (vs := vs.take 50) (ns := ns.take 50) (n2 := 0) (n5 := 0) (c := c0) (d1 := d1) (d2 := d2) (o1 := o1) (o2 := o2) (e1 := Bd) (e2 := Cd) (pl := pl) (dl := dl)
        (.tail _ (List.mem_append_right _ (hR _ mc0))) hI5 hl5 htu0 ?zft (.head _) (.tail _ (List.mem_append_right _ (hR _ md1))) (.tail _ (List.mem_append_right _ (hR _ md2))) lo1 lo2 hB hC gB gC hDd lod hPp ?zfJ ?zfA hS hG hag (Nat.ne_of_lt fdd) ?zff ?zfd) ?zfe ?zfu ?_
      case zfB => exact K0
      case zfX => exact KX
      case zfT => exact T
      case zft => omega
      case zfJ => exact fun q hq => .tail _ ((List.mem_append.mp hq).elim (fun h => List.mem_append_left _ h) fun h => List.mem_append_right _ (hR _ (hJ0 q h)))
      case zfA =>
        intro p hp q hq
        rcases List.mem_cons.mp hq with rfl | hq
        · exact Nat.ne_of_lt (lall p (List.mem_append_left _ hp))
        · exact (List.mem_append.mp hq).elim (hMn p hp q) (hAp p (.tail _ (.tail _ (List.mem_append_left _ hp))) q)
      case zff =>
        intro q hq
        rcases List.mem_append.mp hq with hq | hq
        · exact hfn q (List.mem_append_left _ hq)
        · rcases List.mem_cons.mp hq with rfl | hq
          · exact Nat.ne_of_gt foth
          · exact (List.mem_append.mp hq).elim (fun h => hfn q (List.mem_append_right _ h)) fun h => (hAp _ (.head _) q h).symm
      case zfd =>
        intro q hq
        rcases List.mem_append.mp hq with hq | hq
        · exact hdn q (List.mem_append_left _ hq)
        · rcases List.mem_cons.mp hq with rfl | hq
          · exact Nat.ne_of_gt doth
          · exact (List.mem_append.mp hq).elim (fun h => hdn q (List.mem_append_right _ h)) fun h => (hAp _ (.tail _ (.head _)) q h).symm
      case zfe => decide
      case zfu => decide
      rintro _ _ h8 tk8 ⟨turn', new', pl', dl', ⟨tt', n', o', M', rfl, hP', hD', hag', hS', hG', hA', hf', hd', hJ'⟩, ht1, ht2, hab', rfl⟩ F8 N8
      clear N7
      k_with_none
      k_with "call ref" => (refine Stop.on ?_)
      k_steps
      refine Stop.off ?_
      have sJ : ∀ q ∈ new' ++ (new ++ J0), q ∈ (f0, listOf #[.ref c0, .int turn' tt'] n') :: (dd, o') :: (M' ++ (new' ++ ((oth, listOf #[.ref d1, .ref d2] 0) :: (new ++ R')))) := fun q hq => by
        simp only [List.mem_cons, List.mem_append] at hq ⊢
        rcases hq with h | h | h
        · simp [h]
        · simp [h]
        · simp [hR _ (hJ0 q h)]
      with_unfolding_all refine' Spec.use (L := s1.heap.objs.size) ?zgB F8 KX N8 T rfl (is_walk (dd := dd) (o := o') hP' ?zgM sJ (.tail _ (.head _)) lod hD' hS' hG' hag') ?zge ?zgu ?_
      case zgB => exact K0
      case zgM => exact fun q hq => .tail _ (.tail _ (List.mem_append_left _ hq))
      case zge => decide
      case zgu => decide
      rintro _ _ h9 tk9 ⟨rfl, rfl⟩ F9 N9
      k_with_none
      k_steps
      refine postG_next (σ := LoopSt) ⟨tt', n', turn', o', M', new' ++ new, pl', dl'⟩ F9 N9 (fun q hq => ?_) (fun q hq => ?_) (fun p hp q hq => ?_) ?_ ?_
      · simp only [List.mem_cons, List.mem_append] at hq ⊢
        rcases hq with h | h | h | h | h <;> simp [h]
      · simp [hq]
      · simp only [List.mem_cons, List.mem_append] at hp
        rcases hp with rfl | rfl | h | h | h
        · exact hAp _ (.head _) q hq
        · exact hAp _ (.tail _ (.head _)) q hq
        · exact hA' p h q (by simp [hq])
        · exact Nat.ne_of_gt (hab' p h q (by simp [hq]))
        · exact hAp p (by simp [h]) q hq
      · (refine ⟨by kst_all, fun z h2 h3 => ?_⟩; (try dsimp only); (repeat (with_reducible first | refine ite_off (notStored h3 _ (by decide)) ?_ | refine ite_off (notPs h2 _ (by decide)) ?_)); exact mapG_off h2 h3)
      · refine ⟨hP'.mono fun q hq => ?_, hD', hag', hS', hG', fun p hp q hq => hA' p hp q ?_, fun q hq => hf' q ?_, fun q hq => hd' q ?_, by dsimp only; omega, by dsimp only; omega⟩
        · simp only [List.mem_append] at hq ⊢
          rcases hq with h | h | h <;> simp [h]
        · simp only [List.mem_append] at hq
          rcases hq with h | h <;> simp [h]
        · simp only [List.mem_append] at hq
          rcases hq with h | h | h <;> simp [h]
        · simp only [List.mem_append] at hq
          rcases hq with h | h | h <;> simp [h]
    · intro c u h tk hP F' N' hAp
      obtain ⟨tt, n, turn, o, M, new, pl, dl⟩ := c
      dsimp only at F' N'
      change Fr s1.heap s1.heap.objs.size h _ at F'
      change News s1.heap s1.heap.objs.size h _ at N'
      obtain ⟨RC, hRC⟩ : ∃ RC : Ledger, RC = [(sm, listOf #[.ref d0, .ref d1, .ref d2] 0), (s1.heap.objs.size + 1, co), (d0, o0), (d1, o1), (d2, o2)] := ⟨_, rfl⟩
      have N5 : News s1.heap s1.heap.objs.size h ((sm, listOf #[.ref d0, .ref d1, .ref d2] 0) :: (s1.heap.objs.size + 1, co) :: RC) := nsub N' (fun q hq => by
        rw [hRC] at hq
        simp only [List.mem_cons, List.not_mem_nil, or_false] at hq
        rcases hq with rfl | rfl | rfl | rfl | rfl | rfl | rfl
        · simp [msm]
        · simp [mco]
        · simp [msm]
        · simp [mco]
        · simp [md0]
        · simp [md1]
        · simp [md2])
      clear N' hAp hP
      have rsm : (sm, listOf #[.ref d0, .ref d1, .ref d2] 0) ∈ RC := by rw [hRC]; simp
      have rco : (s1.heap.objs.size + 1, co) ∈ RC := by rw [hRC]; simp
      have rd0 : (d0, o0) ∈ RC := by rw [hRC]; simp
      have rd1 : (d1, o1) ∈ RC := by rw [hRC]; simp
      have rd2 : (d2, o2) ∈ RC := by rw [hRC]; simp
      obtain ⟨mm, F5⟩ : ∃ mm, Fr s1.heap s1.heap.objs.size h mm := ⟨_, F'⟩
      clear F' hRC N12 F12 F9 hRB msm mco md0 md1 md2 mc0 hJ0 hM0R hM0d hRBd hM0f hRBf
      k_with_none
      k_with "call ref" => (refine Stop.on ?_)
      k_steps
      refine Stop.off ?_
      rename News _ _ _ _ => nX
      rename Fr _ _ _ _ => fX
      with_unfolding_all refine' Spec.use (L := s1.heap.objs.size) ?ux1B fX KX (nsub (l' := RC) nX ?ux1S) T rfl (program_spec (dd := d0) (o := o0) (dl := A) rd0 lo0 hA gA) ?ux1d ?ux1u ?_
      case ux1B => exact K0
      case ux1S => exact (by intro q hq; repeat (first | exact hq | apply List.Mem.tail))
      case ux1d => decide
      case ux1u => decide
      rintro _ _ h21 tk21 ⟨M1, n1, p1, rfl, rfl, hP1, ab1, ap1⟩ fY nY
      (try clear nX)
      (try clear fX)
      have nZ : News s1.heap s1.heap.objs.size _ ((sm, listOf #[.ref d0, .ref d1, .ref d2] 0) :: (s1.heap.objs.size + 1, co) :: (M1 ++ (n1 ++ RC))) := nsub nY (fun q hq => by
        rcases List.mem_cons.mp hq with rfl | hq
        · simp [rsm]
        · rcases List.mem_cons.mp hq with rfl | hq
          · simp [rco]
          · exact hq)
      clear nY
      k_with_none
      k_with "call ref" => (refine Stop.on ?_)
      k_steps
      refine Stop.off ?_
      rename News _ _ _ _ => nX
      rename Fr _ _ _ _ => fX
      with_unfolding_all refine' Spec.use (L := s1.heap.objs.size) ?ux2B fX KX (nsub (l' := M1 ++ (n1 ++ RC)) nX ?ux2S) T rfl (program_spec (R := M1 ++ (n1 ++ RC)) (dd := d1) (o := o1) (dl := Bd) (by simp [rd1]) lo1 hB gB) ?ux2d ?ux2u ?_
      case ux2B => exact K0
      case ux2S => exact (by intro q hq; repeat (first | exact hq | apply List.Mem.tail))
      case ux2d => decide
      case ux2u => decide
      rintro _ _ h22 tk22 ⟨M2, n2, p2, rfl, rfl, hP2, ab2, ap2⟩ fY nY
      (try clear nX)
      (try clear fX)
      have nZ : News s1.heap s1.heap.objs.size _ ((sm, listOf #[.ref d0, .ref d1, .ref d2] 0) :: (s1.heap.objs.size + 1, co) :: (M2 ++ (n2 ++ (M1 ++ (n1 ++ RC))))) := nsub nY (fun q hq => by
        rcases List.mem_cons.mp hq with rfl | hq
        · simp [rsm]
        · rcases List.mem_cons.mp hq with rfl | hq
          · simp [rco]
          · exact hq)
      clear nY
      k_with_none
      k_with "call ref" => (refine Stop.on ?_)
      k_steps
      refine Stop.off ?_
      rename News _ _ _ _ => nX
      rename Fr _ _ _ _ => fX
      with_unfolding_all refine' Spec.use (L := s1.heap.objs.size) ?ux3B fX KX (nsub (l' := M2 ++ (n2 ++ (M1 ++ (n1 ++ RC)))) nX ?ux3S) T rfl (program_spec (R := M2 ++ (n2 ++ (M1 ++ (n1 ++ RC)))) (dd := d0) (o := o0) (dl := A) (by simp [rd0]) lo0 hA gA) ?ux3d ?ux3u ?_
      case ux3B => exact K0
      case ux3S => exact (by intro q hq; repeat (first | exact hq | apply List.Mem.tail))
      case ux3d => decide
      case ux3u => decide
      rintro _ _ h23 tk23 ⟨M3, n3, p3, rfl, rfl, hP3, ab3, ap3⟩ fY nY
      (try clear nX)
      (try clear fX)
      have hT := tri_make hP1 hP2 hP3 gA gB gA ab1 ab2 ab3 ap1 ap2 ap3
      obtain ⟨J, hJe⟩ : ∃ J : Ledger, J = n3 ++ (n2 ++ n1) := ⟨_, rfl⟩
      rw [← hJe] at hT
      have nZ : News s1.heap s1.heap.objs.size _ ((sm, listOf #[.ref d0, .ref d1, .ref d2] 0) :: (s1.heap.objs.size + 1, co) :: TriL J RC M1 M2 M3) := nsub nY (fun q hq => by
        rw [hJe] at hq
        simp only [TriL, List.mem_cons, List.mem_append] at hq ⊢
        rcases hq with rfl | rfl | h | h | h | (h | h | h) | h
        · simp [rsm]
        · simp [rco]
        all_goals simp [h])
      clear nY hP1 hP2 hP3 ab1 ab2 ab3 ap1 ap2 ap3 hJe
      k_with_none
      k_with "call ref" => (refine Stop.on ?_)
      k_steps
      refine Stop.off ?_
      rename News _ _ _ _ => nX
      rename Fr _ _ _ _ => fX
      with_unfolding_all refine' Spec.use (L := s1.heap.objs.size) ?ux4B fX KX (nsub (l' := TriL J RC M1 M2 M3) nX ?ux4S) T rfl (tri_merge1 (X := []) hT hT.2.1.1 (fun x hx => by simp [hx]) (fun p hp q hq => by cases hq) hT.2.1.2.1 hT.2.1.2.2.1) ?ux4d ?ux4u ?_
      case ux4B => exact K0
      case ux4S => exact (by intro q hq; repeat (first | exact hq | apply List.Mem.tail))
      case ux4d => decide
      case ux4u => decide
      rintro _ _ h24 tk24 ⟨rfl, M1b, rfl, hT2⟩ fY nY
      (try clear nX)
      (try clear fX)
      clear hT
      have nZ : News s1.heap s1.heap.objs.size _ ((sm, listOf #[.ref d0, .ref d1, .ref d2] 0) :: (s1.heap.objs.size + 1, co) :: (TriL J RC M1b M2 M3)) := nsub nY (fun q hq => by
        rcases List.mem_cons.mp hq with rfl | hq
        · simp [rsm]
        · rcases List.mem_cons.mp hq with rfl | hq
          · simp [rco]
          · exact hq)
      clear nY
      k_with_none
      k_with "call ref" => (refine Stop.on ?_)
      k_steps
      refine Stop.off ?_
      rename News _ _ _ _ => nX
      rename Fr _ _ _ _ => fX
      with_unfolding_all refine' Spec.use (L := s1.heap.objs.size) ?ux5B fX KX (nsub (l' := TriL J RC M1b M2 M3) nX ?ux5S) T rfl (tri_prog hT2 rd2 lo2 hC gC) ?ux5d ?ux5u ?_
      case ux5B => exact K0
      case ux5S => exact (by intro q hq; repeat (first | exact hq | apply List.Mem.tail))
      case ux5d => decide
      case ux5u => decide
      rintro _ _ h25 tk25 ⟨M4, J2, p4, rfl, rfl, hT3, hP4, ap4⟩ fY nY
      (try clear nX)
      (try clear fX)
      clear hT2
      k_with_none
      k_with "call ref" => (refine Stop.on ?_)
      k_steps
      refine Stop.off ?_
      rename News _ _ _ _ => nX
      rename Fr _ _ _ _ => fX
      with_unfolding_all refine' Spec.use (L := s1.heap.objs.size) ?ux6B fX KX (nsub (l' := M4 ++ TriL J2 RC M1b M2 M3) nX ?ux6S) T rfl (tri_merge1 (X := M4) hT3 hP4 (fun x hx => by simp [hx]) (fun p hp q hq => (ap4 q hq p (by simp [hp])).symm) build_sorted (build_good gC)) ?ux6d ?ux6u ?_
      case ux6B => exact K0
      case ux6S => exact (by intro q hq; repeat (first | exact hq | apply List.Mem.tail))
      case ux6d => decide
      case ux6u => decide
      rintro _ _ h26 tk26 ⟨rfl, M1c, rfl, hT4⟩ fY nY
      (try clear nX)
      (try clear fX)
      clear hT3 hP4 ap4
      have nZ : News s1.heap s1.heap.objs.size _ ((sm, listOf #[.ref d0, .ref d1, .ref d2] 0) :: (s1.heap.objs.size + 1, co) :: (TriL J2 RC M1c M2 M3)) := nsub nY (fun q hq => by
        rcases List.mem_cons.mp hq with rfl | hq
        · simp [rsm]
        · rcases List.mem_cons.mp hq with rfl | hq
          · simp [rco]
          · exact hq)
      clear nY
      k_with_none
      k_with "call ref" => (refine Stop.on ?_)
      k_steps
      refine Stop.off ?_
      rename News _ _ _ _ => nX
      rename Fr _ _ _ _ => fX
      with_unfolding_all refine' Spec.use (L := s1.heap.objs.size) ?ux7B fX KX (nsub (l' := TriL J2 RC M1c M2 M3) nX ?ux7S) T rfl (tri_prog hT4 rd2 lo2 hC gC) ?ux7d ?ux7u ?_
      case ux7B => exact K0
      case ux7S => exact (by intro q hq; repeat (first | exact hq | apply List.Mem.tail))
      case ux7d => decide
      case ux7u => decide
      rintro _ _ h27 tk27 ⟨M5, J3, p5, rfl, rfl, hT5, hP5, ap5⟩ fY nY
      (try clear nX)
      (try clear fX)
      clear hT4
      k_with_none
      k_with "call ref" => (refine Stop.on ?_)
      k_steps
      refine Stop.off ?_
      rename News _ _ _ _ => nX
      rename Fr _ _ _ _ => fX
      with_unfolding_all refine' Spec.use (L := s1.heap.objs.size) ?ux8B fX KX (nsub (l' := M5 ++ TriL J3 RC M1c M2 M3) nX ?ux8S) T rfl (tri_merge2 (X := M5) hT5 hP5 (fun x hx => by simp [hx]) (fun p hp q hq => (ap5 q hq p (by simp [hp])).symm) build_sorted (build_good gC)) ?ux8d ?ux8u ?_
      case ux8B => exact K0
      case ux8S => exact (by intro q hq; repeat (first | exact hq | apply List.Mem.tail))
      case ux8d => decide
      case ux8u => decide
      rintro _ _ h28 tk28 ⟨rfl, M2b, rfl, hT6⟩ fY nY
      (try clear nX)
      (try clear fX)
      clear hT5 hP5 ap5
      have nZ : News s1.heap s1.heap.objs.size _ ((sm, listOf #[.ref d0, .ref d1, .ref d2] 0) :: (s1.heap.objs.size + 1, co) :: (TriL J3 RC M1c M2b M3)) := nsub nY (fun q hq => by
        rcases List.mem_cons.mp hq with rfl | hq
        · simp [rsm]
        · rcases List.mem_cons.mp hq with rfl | hq
          · simp [rco]
          · exact hq)
      clear nY
      k_with_none
      k_with "call ref" => (refine Stop.on ?_)
      k_steps
      refine Stop.off ?_
      rename News _ _ _ _ => nX
      rename Fr _ _ _ _ => fX
      with_unfolding_all refine' Spec.use (L := s1.heap.objs.size) ?ux9B fX KX (nsub (l' := TriL J3 RC M1c M2b M3) nX ?ux9S) T rfl (tri_merge3 (X := []) hT6 hT6.2.1.1 (fun x hx => by simp [hx]) (fun p hp q hq => by cases hq) hT6.2.1.2.1 hT6.2.1.2.2.1) ?ux9d ?ux9u ?_
      case ux9B => exact K0
      case ux9S => exact (by intro q hq; repeat (first | exact hq | apply List.Mem.tail))
      case ux9d => decide
      case ux9u => decide
      rintro _ _ h29 tk29 ⟨rfl, M3b, rfl, hT7⟩ fY nY
      (try clear nX)
      (try clear fX)
      clear hT6
      have nZ : News s1.heap s1.heap.objs.size _ ((sm, listOf #[.ref d0, .ref d1, .ref d2] 0) :: (s1.heap.objs.size + 1, co) :: (TriL J3 RC M1c M2b M3b)) := nsub nY (fun q hq => by
        rcases List.mem_cons.mp hq with rfl | hq
        · simp [rsm]
        · rcases List.mem_cons.mp hq with rfl | hq
          · simp [rco]
          · exact hq)
      clear nY
      k_with_none
      k_with "call type:dict" => (refine Stop.on ?_)
      k_steps
      refine Stop.off ?_
      rename News _ _ _ _ => nX
      rename Fr _ _ _ _ => fX
      refine' gd_copy fX nX (modules_low T.nolimit) (d := d0) (o := o0) (dl := A) ?va1 lo0 hA ?va2 ?_
      case va1 => simp [rd0]
      case va2 => have := gA.length hA.nodup; omega
      intro du hh1 ou fY nY lodu hdu bdu
      clear nX fX
      k_with_none
      k_with "call type:dict" => (refine Stop.on ?_)
      k_steps
      refine Stop.off ?_
      rename News _ _ _ _ => nX
      rename Fr _ _ _ _ => fX
      refine' gd_copy fX nX (modules_low T.nolimit) (d := d1) (o := o1) (dl := Bd) ?vb1 lo1 hB ?vb2 ?_
      case vb1 => simp [rd1]
      case vb2 => have := gB.length hB.nodup; omega
      intro ot hh2 oo fY nY loot hot bot
      clear nX fX
      k_with_none
      k_with "getMethod ref" => (refine Stop.on ?_)
      k_steps
      refine Stop.off ?_
      rename News _ _ _ _ => nX
      rename Fr _ _ _ _ => fX
      refine' gd_method (dl := Bd) (o := oo) nX ?vc1 hot PySem.F.slot_dict_update PySem.F.type_dict_update ?_
      case vc1 => k_mem
      k_with_none
      k_with "call builtin:dict.update" => (refine Stop.on ?_)
      k_steps
      refine Stop.off ?_
      rename News _ _ _ _ => nX
      rename Fr _ _ _ _ => fX
      have ddo2 : @LT.lt Nat _ d2 ot := bot (d2, o2) (by simp [rd2])
      have dudo : @LT.lt Nat _ du ot := bot _ (.head _)
      refine' gd_update (d2 := d2) (o2 := o2) (dl2 := Cd) (news := (ot, oo) :: (du, ou) :: (sm, listOf #[.ref d0, .ref d1, .ref d2] 0) :: (s1.heap.objs.size + 1, co) :: TriL J3 RC M1c M2b M3b) fX (nsub nX (by intro q hq; repeat (first | exact hq | apply List.Mem.tail))) (.head (fun q hq => Nat.ne_of_lt (bot q hq))) hot ?vd1 lo2 hC (Nat.ne_of_gt ddo2) ?vd2 ?_
      case vd1 => simp [rd2]
      case vd2 => have := gB.length hB.nodup; have := gC.length hC.nodup; omega
      intro hh3 oo2 fY nY hot2
      clear nX fX
      k_with_none
      k_with "getMethod ref" => (refine Stop.on ?_)
      k_steps
      refine Stop.off ?_
      rename News _ _ _ _ => nX
      rename Fr _ _ _ _ => fX
      refine' gd_method (dl := A) (o := ou) nX ?ve1 hdu PySem.F.slot_dict_update PySem.F.type_dict_update ?_
      case ve1 => k_mem
      k_with_none
      k_with "call builtin:dict.update" => (refine Stop.on ?_)
      k_steps
      refine Stop.off ?_
      rename News _ _ _ _ => nX
      rename Fr _ _ _ _ => fX
      have nBC : (keys (dupd Bd Cd)).Nodup := hot2.nodup
      have gBC : GoodKeys (dupd Bd Cd) := dupd_goodk hC.nodup gB gC
      refine' gd_update (d2 := ot) (o2 := oo2) (dl2 := dupd Bd Cd) (news := (du, ou) :: (ot, oo2) :: (sm, listOf #[.ref d0, .ref d1, .ref d2] 0) :: (s1.heap.objs.size + 1, co) :: TriL J3 RC M1c M2b M3b) fX (nsub nX (fun q hq => by
        rcases List.mem_cons.mp hq with h | hq
        · simp [h]
        · rcases List.mem_cons.mp hq with h | hq
          · simp [h]
          · repeat (first | exact hq | apply List.Mem.tail))) (.head (fun q hq => by
        rcases List.mem_cons.mp hq with rfl | hq
        · exact Nat.ne_of_gt dudo
        · exact Nat.ne_of_lt (bdu q hq))) hdu (.tail _ (.head _)) loot hot2 (Nat.ne_of_lt dudo) ?vf2 ?_
      case vf2 => have := gA.length hA.nodup; have := gBC.length nBC; omega
      intro hh4 ou2 fY nY hdu2
      clear nX fX
      have nD : (keys (dupd A (dupd Bd Cd))).Nodup := hdu2.nodup
      have agI : Agree (mergeL (build Bd) (build Cd)) (dupd Bd Cd) := merge_agree build_sorted build_sorted hC.nodup (build_agree hB.nodup) (build_agree hC.nodup)
      have agL : Agree (mergeL (build A) (mergeL (build Bd) (build Cd))) (dupd A (dupd Bd Cd)) := merge_agree build_sorted (mergeL_sorted build_sorted) nBC (build_agree hA.nodup) agI
      have agO : Agree (mergeL (mergeL (build A) (build Bd)) (build Cd)) (dupd A (dupd Bd Cd)) := (merge_agree (mergeL_sorted build_sorted) build_sorted hC.nodup (merge_agree build_sorted build_sorted hB.nodup (build_agree hA.nodup) (build_agree hB.nodup)) (build_agree hC.nodup)).trans (dupd_assoc hB.nodup hC.nodup nBC)
      have hT8 := hT7.more (X := [(du, ou2), (ot, oo2)]) (fun q hq q' hq' => by
        simp only [List.mem_cons, List.not_mem_nil, or_false] at hq
        rcases hq with rfl | rfl
        · exact Nat.ne_of_lt (bdu q' (.tail _ (.tail _ hq')))
        · exact Nat.ne_of_lt (bot q' (.tail _ (.tail _ (.tail _ hq')))))
      have duR : ∀ q ∈ RC, q.1 ≠ du := fun q hq => Nat.ne_of_lt (bdu q (by simp [hq]))
      have otR : ∀ q ∈ RC, q.1 ≠ ot := fun q hq => Nat.ne_of_lt (bot q (by simp [hq]))
      obtain ⟨RD, hRD⟩ : ∃ RD : Ledger, RD = (du, ou2) :: (ot, oo2) :: RC := ⟨_, rfl⟩
      have hT8 : Tri J3 RD M1c M2b M3b p1 p2 p3 (mergeL (mergeL (build A) (build Bd)) (build Cd)) (mergeL (build Bd) (build Cd)) (mergeL (build A) (mergeL (build Bd) (build Cd))) := by rw [hRD]; exact hT8
      have nZ : News s1.heap s1.heap.objs.size _ ((sm, listOf #[.ref d0, .ref d1, .ref d2] 0) :: (s1.heap.objs.size + 1, co) :: (TriL J3 RD M1c M2b M3b)) := nsub nY (fun q hq => triL_two (by rw [hRD] at hq; exact hq))
      clear nY hT7 bdu bot
      have rsmC := rsm
      have rcoC := rco
      replace rsm : (sm, listOf #[.ref d0, .ref d1, .ref d2] 0) ∈ RD := by rw [hRD]; exact .tail _ (.tail _ rsm)
      replace rco : (s1.heap.objs.size + 1, co) ∈ RD := by rw [hRD]; exact .tail _ (.tail _ rco)
      have rdu : (du, ou2) ∈ RD := by rw [hRD]; exact .head _
      have rot : (ot, oo2) ∈ RD := by rw [hRD]; exact .tail _ (.head _)
      have sd0 : (d0, o0) ∈ RD := by rw [hRD]; exact .tail _ (.tail _ rd0)
      have sd1 : (d1, o1) ∈ RD := by rw [hRD]; exact .tail _ (.tail _ rd1)
      have sd2 : (d2, o2) ∈ RD := by rw [hRD]; exact .tail _ (.tail _ rd2)
      k_with_none
      k_with "call ref" => (refine Stop.on ?_)
      k_steps
      refine Stop.off ?_
      rename News _ _ _ _ => nX
      rename Fr _ _ _ _ => fX
      with_unfolding_all refine' Spec.use (L := s1.heap.objs.size) ?ux10B fX KX (nsub (l' := TriL J3 RD M1c M2b M3b) nX ?ux10S) T rfl (is_walk (R := TriL J3 RD M1c M2b M3b) (M := M1c) (J := J3) (dd := du) (o := ou2) (dl := dupd A (dupd Bd Cd)) hT8.1.1 (fun x hx => by simp [hx]) (fun x hx => by simp [hx]) (by simp [rdu]) lodu hdu2 hT8.1.2.1 hT8.1.2.2.1 agO) ?ux10d ?ux10u ?_
      case ux10B => exact K0
      case ux10S => exact (by intro q hq; repeat (first | exact hq | apply List.Mem.tail))
      case ux10d => decide
      case ux10u => decide
      rintro _ _ h30 tk30 ⟨rfl, rfl⟩ fY nY
      (try clear nX)
      (try clear fX)
      have nZ : News s1.heap s1.heap.objs.size _ ((sm, listOf #[.ref d0, .ref d1, .ref d2] 0) :: (s1.heap.objs.size + 1, co) :: (TriL J3 RD M1c M2b M3b)) := nsub nY (fun q hq => by
        rcases List.mem_cons.mp hq with rfl | hq
        · simp [rsm]
        · rcases List.mem_cons.mp hq with rfl | hq
          · simp [rco]
          · exact hq)
      clear nY
      k_with_none
      k_with "call ref" => (refine Stop.on ?_)
      k_steps
      refine Stop.off ?_
      rename News _ _ _ _ => nX
      rename Fr _ _ _ _ => fX
      with_unfolding_all refine' Spec.use (L := s1.heap.objs.size) ?ux11B fX KX (nsub (l' := TriL J3 RD M1c M2b M3b) nX ?ux11S) T rfl (is_walk (R := TriL J3 RD M1c M2b M3b) (M := M3b) (J := J3) (dd := du) (o := ou2) (dl := dupd A (dupd Bd Cd)) hT8.2.2.1.1 (fun x hx => by simp [hx]) (fun x hx => by simp [hx]) (by simp [rdu]) lodu hdu2 hT8.2.2.1.2.1 hT8.2.2.1.2.2.1 agL) ?ux11d ?ux11u ?_
      case ux11B => exact K0
      case ux11S => exact (by intro q hq; repeat (first | exact hq | apply List.Mem.tail))
      case ux11d => decide
      case ux11u => decide
      rintro _ _ h31 tk31 ⟨rfl, rfl⟩ fY nY
      (try clear nX)
      (try clear fX)
      have nZ : News s1.heap s1.heap.objs.size _ ((sm, listOf #[.ref d0, .ref d1, .ref d2] 0) :: (s1.heap.objs.size + 1, co) :: (TriL J3 RD M1c M2b M3b)) := nsub nY (fun q hq => by
        rcases List.mem_cons.mp hq with rfl | hq
        · simp [rsm]
        · rcases List.mem_cons.mp hq with rfl | hq
          · simp [rco]
          · exact hq)
      clear nY
      k_with_none
      k_with "call ref" => (refine Stop.on ?_)
      k_steps
      refine Stop.off ?_
      rename News _ _ _ _ => nX
      rename Fr _ _ _ _ => fX
      with_unfolding_all refine' Spec.use (L := s1.heap.objs.size) ?ux12B fX KX (nsub (l' := TriL J3 RD M1c M2b M3b) nX ?ux12S) T rfl (is_walk (R := TriL J3 RD M1c M2b M3b) (M := M2b) (J := J3) (dd := ot) (o := oo2) (dl := dupd Bd Cd) hT8.2.1.1 (fun x hx => by simp [hx]) (fun x hx => by simp [hx]) (by simp [rot]) loot hot2 hT8.2.1.2.1 hT8.2.1.2.2.1 agI) ?ux12d ?ux12u ?_
      case ux12B => exact K0
      case ux12S => exact (by intro q hq; repeat (first | exact hq | apply List.Mem.tail))
      case ux12d => decide
      case ux12u => decide
      rintro _ _ h32 tk32 ⟨rfl, rfl⟩ fY nY
      (try clear nX)
      (try clear fX)
      have nZ : News s1.heap s1.heap.objs.size _ ((sm, listOf #[.ref d0, .ref d1, .ref d2] 0) :: (s1.heap.objs.size + 1, co) :: (TriL J3 RD M1c M2b M3b)) := nsub nY (fun q hq => by
        rcases List.mem_cons.mp hq with rfl | hq
        · simp [rsm]
        · rcases List.mem_cons.mp hq with rfl | hq
          · simp [rco]
          · exact hq)
      clear nY
      k_with_none
      k_steps
      refine Stop.off ?_
      rename News _ _ _ _ => nX
      rename Fr _ _ _ _ => fX
      have hbo : build (dupd A (dupd Bd Cd)) = mergeL (mergeL (build A) (build Bd)) (build Cd) := sorted_ext build_sorted hT8.1.2.1 ((build_agree nD).trans agO.symm)
      have gDu : GoodKeys (dupd A (dupd Bd Cd)) := dupd_goodk nBC gA (dupd_goodk hC.nodup gB gC)
      have vDu : GoodVals (dupd A (dupd Bd Cd)) := dupd_goodv nBC vA (dupd_goodv hC.nodup vB vC)
      have lDu := gDu.length nD
      obtain ⟨kvsD, hdoD, _⟩ := id hdu2
      have mdu : (du, ou2) ∈ TriL J3 RD M1c M2b M3b := by simp [rdu]
      have nW := nadd nX (.tail _ (.tail _ mdu))
      clear nX
      refine' assign_comp_test (x := Str.ofString "number") (x₂ := Str.ofString "printed") (y := Str.ofString "shown") (cl := []) (L := s1.heap.objs.size) fX rfl ?wsw rfl rfl rfl ?wcl (by decide) rfl (by decide) rfl rfl (by decide) (by intro _; rfl) ?_
      case wsw => with_unfolding_all rfl
      case wcl => with_unfolding_all rfl
      k_with "call builtin:sorted" => (k_here; refine' sorted_items (d := du) (o := ou2) (dl := dupd A (dupd Bd Cd)) ?w9h ?w9F ?w9N ?w9v ?w9d hdu2 ?w9l ?_; (case w9h => rfl); (case w9F => k_asm); (case w9N => k_asm); (case w9v => k_mem); (case w9d => k_mem); (case w9l => omega); intro B9 h9 tk9 its9 tups9 c9 F9 N9 hT9 hB9 hab9)
      k_steps
      have lits : its9.length ≤ 1000 := by have h9 := hT9.length; have h8 := good_len build_sorted (build_good gDu); omega
      refine ⟨B9, its9, build (dupd A (dupd Bd Cd)), fun q => decide (20 ≤ q.1) && decide (q.1 ≤ 55), fun y q => ∃ t, y = .str ((Str.ofString (toString q.1) ++ Str.ofString " PRINT ") ++ Str.ofString (toString q.2)) t, _, c9, rfl, by assumption, by assumption, .head _, hT9.mono (fun q hq => .tail _ (List.mem_append_right _ hq)), lits, ?wt, ?wi, ?wd⟩
      case wt =>
        intro q hq C m₂ h3 tk3 t3 u3 E3 hC hx hx2 F3 N3
        refine wpAny_mono (Q := EndB (decide (20 ≤ q.1) && decide (q.1 ≤ 55)) _ h3) ?_ (fun _ _ h => h) fun _ _ e => e
        k_with_none
        k_with "eval Name" => (first | (refine ldVarK hC hx ?_) | (refine ldVarK hC hx2 ?_))
        k_steps
        · refine ⟨?_, _, rfl⟩
          have h20 : (20 : Int) ≤ q.1 := by omega
          simp [h20]
        · refine ⟨?_, _, rfl⟩
          have h20 : ¬ (20 : Int) ≤ q.1 := by omega
          simp [h20]
      case wi =>
        intro q hq _ C m₂ h3 tk3 t3 u3 E3 hC hx hx2 F3 N3
        have hqm := (build_agree nD q).mp hq
        obtain ⟨jq, hjq, ejq⟩ := gDu q hqm
        obtain ⟨vq0, vq1⟩ := vDu q hqm
        refine wpAny_mono (Q := EndV (fun y => ∃ t, y = .str ((Str.ofString (toString q.1) ++ Str.ofString " PRINT ") ++ Str.ofString (toString q.2)) t) _ h3) ?_ (fun _ _ h => h) fun _ _ e => e
        k_with_none
        k_with "eval Name" => (first | (refine ldVarK hC hx ?_) | (refine ldVarK hC hx2 ?_))
        k_steps
        exact ⟨⟨_, rfl⟩, _, rfl⟩
      intro SD h3 tk3 ys3 F3 N3 hSD hY
      rw [hbo] at hY
      have nZ : News s1.heap s1.heap.objs.size h3 ((SD, listOf ys3.toArray ys3.length) :: TriL J3 RD M1c M2b M3b) := nsub N3 (fun q hq => by
        rcases List.mem_cons.mp hq with rfl | hq
        · exact .head _
        · exact .tail _ (.tail _ (List.mem_append_left _ (.tail _ (.tail _ (.tail _ (.tail _ hq)))))))
      clear N3 hT9 hB9 hab9
      k_with_none
      k_with "call ref" => (refine Stop.on ?_)
      k_steps
      refine Stop.off ?_
      rename News _ _ _ _ => nX
      rename Fr _ _ _ _ => fX
      with_unfolding_all refine' Spec.use (L := s1.heap.objs.size) ?ux13B fX KX (nsub (l' := (SD, listOf ys3.toArray ys3.length) :: TriL J3 RD M1c M2b M3b) nX ?ux13S) T rfl (listed_spec (R := (SD, listOf ys3.toArray ys3.length) :: TriL J3 RD M1c M2b M3b) (M := M1c) (J := J3) (k := 20) (l := 55) hT8.1.1 (fun x hx => by simp [hx]) (fun x hx => by simp [hx]) hT8.1.2.1 hT8.1.2.2.1 (agO.goodv vDu)) ?ux13d ?ux13u ?_
      case ux13B => exact K0
      case ux13S => exact (by intro q hq; repeat (first | exact hq | apply List.Mem.tail))
      case ux13d => decide
      case ux13u => decide
      rintro _ _ h33 tk33 ⟨DL, ysL, nL, rfl, rfl, hdL, hlL⟩ fY nY
      (try clear nX)
      (try clear fX)
      k_with_none
      k_steps
      refine Stop.off ?_
      rename News _ _ _ _ => nX
      rename Fr _ _ _ _ => fX
      refine dat_ne (n₁ := []) (n₂ := []) (ka := nL) (kb := ys3.length) nX (.head _) hdL (fun q hq => nomatch hq) (.tail _ (.head _)) (shown_dat hY) (fun q hq => nomatch hq) (lines_ok (filter_good hT8.1.2.2.1) (fun q hq => agO.goodv vDu q (List.mem_filter.mp hq).1)) (by first | ktr_units | decide) ?_
      have nY := nsub (l' := TriL J3 RD M1c M2b M3b) nX (fun q hq => .tail _ (.tail _ hq))
      clear nX
      have nZ : News s1.heap s1.heap.objs.size _ ((sm, listOf #[.ref d0, .ref d1, .ref d2] 0) :: (s1.heap.objs.size + 1, co) :: (TriL J3 RD M1c M2b M3b)) := nsub nY (fun q hq => by
        rcases List.mem_cons.mp hq with rfl | hq
        · simp [rsm]
        · rcases List.mem_cons.mp hq with rfl | hq
          · simp [rco]
          · exact hq)
      clear nY
      k_with_none
      k_with "call ref" => (refine Stop.on ?_)
      k_steps
      refine Stop.off ?_
      rename News _ _ _ _ => nX
      rename Fr _ _ _ _ => fX
      with_unfolding_all refine' Spec.use (L := s1.heap.objs.size) ?ux14B fX KX (nsub (l' := TriL J3 RD M1c M2b M3b) nX ?ux14S) T rfl (tri_merge3 (X := []) hT8 hT8.2.1.1 (fun x hx => by simp [hx]) (fun p hp q hq => by cases hq) hT8.2.1.2.1 hT8.2.1.2.2.1) ?ux14d ?ux14u ?_
      case ux14B => exact K0
      case ux14S => exact (by intro q hq; repeat (first | exact hq | apply List.Mem.tail))
      case ux14d => decide
      case ux14u => decide
      rintro _ _ h34 tk34 ⟨rfl, M3c, rfl, hT9⟩ fY nY
      (try clear nX)
      (try clear fX)
      clear hT8
      have nZ : News s1.heap s1.heap.objs.size _ ((sm, listOf #[.ref d0, .ref d1, .ref d2] 0) :: (s1.heap.objs.size + 1, co) :: (TriL J3 RD M1c M2b M3c)) := nsub nY (fun q hq => by
        rcases List.mem_cons.mp hq with rfl | hq
        · simp [rsm]
        · rcases List.mem_cons.mp hq with rfl | hq
          · simp [rco]
          · exact hq)
      clear nY
      k_with_none
      k_with "call ref" => (refine Stop.on ?_)
      k_steps
      refine Stop.off ?_
      rename News _ _ _ _ => nX
      rename Fr _ _ _ _ => fX
      with_unfolding_all refine' Spec.use (L := s1.heap.objs.size) ?ux15B fX KX (nsub (l' := TriL J3 RD M1c M2b M3c) nX ?ux15S) T rfl (tri_merge3 (X := []) hT9 hT9.1.1 (fun x hx => by simp [hx]) (fun p hp q hq => by cases hq) hT9.1.2.1 hT9.1.2.2.1) ?ux15d ?ux15u ?_
      case ux15B => exact K0
      case ux15S => exact (by intro q hq; repeat (first | exact hq | apply List.Mem.tail))
      case ux15d => decide
      case ux15u => decide
      rintro _ _ h35 tk35 ⟨rfl, M3d, rfl, hT10⟩ fY nY
      (try clear nX)
      (try clear fX)
      clear hT9
      have nZ : News s1.heap s1.heap.objs.size _ ((sm, listOf #[.ref d0, .ref d1, .ref d2] 0) :: (s1.heap.objs.size + 1, co) :: (TriL J3 RD M1c M2b M3d)) := nsub nY (fun q hq => by
        rcases List.mem_cons.mp hq with rfl | hq
        · simp [rsm]
        · rcases List.mem_cons.mp hq with rfl | hq
          · simp [rco]
          · exact hq)
      clear nY
      k_with_none
      k_with "call ref" => (refine Stop.on ?_)
      k_steps
      refine Stop.off ?_
      rename News _ _ _ _ => nX
      rename Fr _ _ _ _ => fX
      with_unfolding_all refine' Spec.use (L := s1.heap.objs.size) ?ux16B fX KX (nsub (l' := TriL J3 RD M1c M2b M3d) nX ?ux16S) T rfl (tri_prog hT10 sd0 lo0 hA gA) ?ux16d ?ux16u ?_
      case ux16B => exact K0
      case ux16S => exact (by intro q hq; repeat (first | exact hq | apply List.Mem.tail))
      case ux16d => decide
      case ux16u => decide
      rintro _ _ h36 tk36 ⟨M6, J4, p6, rfl, rfl, hT11, hP6, ap6⟩ fY nY
      (try clear nX)
      (try clear fX)
      clear hT10
      k_with_none
      k_with "call ref" => (refine Stop.on ?_)
      k_steps
      refine Stop.off ?_
      rename News _ _ _ _ => nX
      rename Fr _ _ _ _ => fX
      with_unfolding_all refine' Spec.use (L := s1.heap.objs.size) ?ux17B fX KX (nsub (l' := M6 ++ TriL J4 RD M1c M2b M3d) nX ?ux17S) T rfl (tri_merge2 (X := M6) hT11 hP6 (fun x hx => by simp [hx]) (fun p hp q hq => (ap6 q hq p (by simp [hp])).symm) build_sorted (build_good gA)) ?ux17d ?ux17u ?_
      case ux17B => exact K0
      case ux17S => exact (by intro q hq; repeat (first | exact hq | apply List.Mem.tail))
      case ux17d => decide
      case ux17u => decide
      rintro _ _ h37 tk37 ⟨rfl, M2c, rfl, hT12⟩ fY nY
      (try clear nX)
      (try clear fX)
      clear hT11 hP6 ap6
      have nZ : News s1.heap s1.heap.objs.size _ ((sm, listOf #[.ref d0, .ref d1, .ref d2] 0) :: (s1.heap.objs.size + 1, co) :: (TriL J4 RD M1c M2c M3d)) := nsub nY (fun q hq => by
        rcases List.mem_cons.mp hq with rfl | hq
        · simp [rsm]
        · rcases List.mem_cons.mp hq with rfl | hq
          · simp [rco]
          · exact hq)
      clear nY
      k_with_none
      k_with "getMethod ref" => (refine Stop.on ?_)
      k_steps
      refine Stop.off ?_
      rename News _ _ _ _ => nX
      rename Fr _ _ _ _ => fX
      have mot : (ot, oo2) ∈ TriL J4 RD M1c M2c M3d := by simp [rot]
      refine' gd_method (dl := dupd Bd Cd) (o := oo2) nX ?vg1 hot2 PySem.F.slot_dict_update PySem.F.type_dict_update ?_
      case vg1 => exact .tail _ (.tail _ mot)
      k_with_none
      k_with "call builtin:dict.update" => (refine Stop.on ?_)
      k_steps
      refine Stop.off ?_
      rename News _ _ _ _ => nX
      rename Fr _ _ _ _ => fX
      have offo := hT12.offR rot
      have dne0 : ot ≠ d0 := fun e => otR _ rd0 e.symm
      refine' gd_update (d2 := d0) (o2 := o0) (dl2 := A) (news := (ot, oo2) :: (du, ou2) :: ((M1c ++ (M2c ++ (M3d ++ J4))) ++ RC)) fX (nsub nX (fun q hq => .tail _ (.tail _ (by rw [hRD]; exact triL_back hq)))) (.head (fun q hq => by
        rcases List.mem_cons.mp hq with rfl | hq
        · exact Nat.ne_of_lt dudo
        · exact (List.mem_append.mp hq).elim (offo q) (otR q))) hot2 ?vh1 lo0 hA dne0 ?vh2 ?_
      case vh1 => exact .tail _ (.tail _ (List.mem_append_right _ rd0))
      case vh2 => have := gA.length hA.nodup; have := gBC.length nBC; omega
      intro hh5 oo3 fY nY hot3
      clear nX fX
      obtain ⟨RE, hRE⟩ : ∃ RE : Ledger, RE = (du, ou2) :: (ot, oo3) :: RC := ⟨_, rfl⟩
      have hT13 : Tri J4 RE M1c M2c M3d p1 p2 p3 (mergeL (mergeL (build A) (build Bd)) (build Cd)) (mergeL (mergeL (build Bd) (build Cd)) (build A)) (mergeL (mergeL (mergeL (build A) (mergeL (build Bd) (build Cd))) (mergeL (build Bd) (build Cd))) (mergeL (mergeL (build A) (build Bd)) (build Cd))) := hT12.reR (fun q hq => by
        rw [hRE] at hq
        rcases List.mem_cons.mp hq with rfl | hq
        · exact ⟨_, rdu, rfl⟩
        · rcases List.mem_cons.mp hq with rfl | hq
          · exact ⟨_, rot, rfl⟩
          · exact ⟨q, by rw [hRD]; exact .tail _ (.tail _ hq), rfl⟩)
      clear hT12 offo
      have nZ : News s1.heap s1.heap.objs.size _ ((sm, listOf #[.ref d0, .ref d1, .ref d2] 0) :: (s1.heap.objs.size + 1, co) :: (d0, o0) :: (d1, o1) :: (d2, o2) :: TriL J4 RE M1c M2c M3d) := nsub nY (fun q hq => by
        rcases List.mem_cons.mp hq with rfl | hq
        · exact .tail _ (.tail _ (List.mem_append_right _ rsmC))
        rcases List.mem_cons.mp hq with rfl | hq
        · exact .tail _ (.tail _ (List.mem_append_right _ rcoC))
        rcases List.mem_cons.mp hq with rfl | hq
        · exact .tail _ (.tail _ (List.mem_append_right _ rd0))
        rcases List.mem_cons.mp hq with rfl | hq
        · exact .tail _ (.tail _ (List.mem_append_right _ rd1))
        rcases List.mem_cons.mp hq with rfl | hq
        · exact .tail _ (.tail _ (List.mem_append_right _ rd2))
        rw [hRE] at hq
        exact triL_fwd hq)
      clear nY
      replace rsm : (sm, listOf #[.ref d0, .ref d1, .ref d2] 0) ∈ RE := by rw [hRE]; exact .tail _ (.tail _ rsmC)
      replace rco : (s1.heap.objs.size + 1, co) ∈ RE := by rw [hRE]; exact .tail _ (.tail _ rcoC)
      have reu : (du, ou2) ∈ RE := by rw [hRE]; exact .head _
      have reo : (ot, oo3) ∈ RE := by rw [hRE]; exact .tail _ (.head _)
      k_with_none
      k_steps
      refine Stop.off ?_
      rename News _ _ _ _ => nX
      rename Fr _ _ _ _ => fX
      refine' comp_dict (x := Str.ofString "number") (d := d0) (od := o0) (dl := A) (b := fun k => dhas Bd k || dhas Cd k) (cl := [(Str.ofString "some", s1.heap.objs.size + 1)]) ?vj0 ?vj1 ?vj2 ?vj3 lo0 hA ?vj4 ?vj5 ?vj6 ?vj7 ?vj8 ?vj9 ?vjk ?vjl ?vjm ?vjn ?vjo ?vjp ?vjq
      case vj0 => rfl
      case vj1 => exact fX
      case vj2 => exact nX
      case vj3 => exact .tail _ (.tail _ (.head _))
      case vj4 => have := gA.length hA.nodup; omega
      case vj5 => with_unfolding_all rfl
      case vj6 => decide
      case vj7 => rfl
      case vj8 => decide
      case vj9 => rfl
      case vjk => intro _; rfl
      case vjl => intro _; with_unfolding_all rfl
      case vjm => decide
      case vjn => intro _; rfl
      case vjo =>
        intro Q' hQ
        k_with_none
        k_steps
        exact hQ _
      case vjp =>
        intro k hk I oI C oC D oD m₂ h3 tk3 t3 E3 hCo hx F3 N3
        obtain ⟨b1, hb1⟩ : ∃ b1, dhas Bd k = b1 := ⟨_, rfl⟩
        obtain ⟨b2, hb2⟩ : ∃ b2, dhas Cd k = b2 := ⟨_, rfl⟩
        refine wpAny_mono (Q := EndB (dhas Bd k || dhas Cd k) _ h3) ?_ (fun _ _ h => h) fun _ _ e => e
        rw [hb1, hb2]
        k_with_none
        k_with "eval Name" => (refine ldCellK (c := s1.heap.objs.size + 1) rfl ⟨_, (N3 _ (.tail _ (.tail _ (.tail _ (.tail _ (.head _)))))).1, hco⟩ ?_)
        cases b1
        · k_steps
          refine Stop.off ?_
          refine' gd_in' (d := d1) (o := o1) (dl := Bd) N3 ?wa1 lo1 hB hb1 ?_
          case wa1 => exact .tail _ (.tail _ (.tail _ (.tail _ (.tail _ (.tail _ (.head _))))))
          k_steps
          refine Stop.off ?_
          refine' gd_in' (d := d2) (o := o2) (dl := Cd) N3 ?wa2 lo2 hC hb2 ?_
          case wa2 => exact .tail _ (.tail _ (.tail _ (.tail _ (.tail _ (.tail _ (.tail _ (.head _)))))))
          k_steps
          all_goals exact ⟨by first | (simp; done) | (cases b2 <;> simp_all; done), _, rfl⟩
        · k_steps
          refine Stop.off ?_
          refine' gd_in' (d := d1) (o := o1) (dl := Bd) N3 ?wa3 lo1 hB hb1 ?_
          case wa3 => exact .tail _ (.tail _ (.tail _ (.tail _ (.tail _ (.tail _ (.head _))))))
          k_steps
          all_goals exact ⟨by first | (simp; done) | (cases b2 <;> simp_all; done), _, rfl⟩
      case vjq =>
      intro AD h3 tk3 ysA F3 N3 hys
      clear nX fX
      k_with_none
      k_steps
      refine Stop.off ?_
      rename News _ _ _ _ => nX
      rename Fr _ _ _ _ => fX
      refine ke_eq_ints (News.isList nX (.tail _ (.head _))) (News.isList nX (.head _)) hys .nil (by first | ktr_units | decide) ?_
      obtain ⟨ap, hap⟩ : ∃ ap, decide ((keys A).filter (fun k => dhas Bd k || dhas Cd k) = []) = ap := ⟨_, rfl⟩
      rw [hap]
      have nY := nsub (l' := TriL J4 RE M1c M2c M3d) nX (fun q hq => .tail _ (.tail _ (.tail _ (.tail _ (.tail _ (.tail _ (.tail _ hq)))))))
      clear nX
      have nZ : News s1.heap s1.heap.objs.size _ ((sm, listOf #[.ref d0, .ref d1, .ref d2] 0) :: (s1.heap.objs.size + 1, co) :: (TriL J4 RE M1c M2c M3d)) := nsub nY (fun q hq => by
        rcases List.mem_cons.mp hq with rfl | hq
        · simp [rsm]
        · rcases List.mem_cons.mp hq with rfl | hq
          · simp [rco]
          · exact hq)
      clear nY
      have agL3 := merge_same (mergeL_sorted (ql := mergeL (build Bd) (build Cd)) (mergeL_sorted build_sorted)) hT13.1.2.1 (merge_again (mergeL_sorted build_sorted) (mergeL_sorted build_sorted) nBC agL agI) agO
      have agI2 : Agree (mergeL (mergeL (build Bd) (build Cd)) (build A)) (dupd (dupd Bd Cd) A) := merge_agree (mergeL_sorted build_sorted) build_sorted hA.nodup agI (build_agree hA.nodup)
      k_with_none
      k_with "call ref" => (refine Stop.on ?_)
      k_steps
      refine Stop.off ?_
      rename News _ _ _ _ => nX
      rename Fr _ _ _ _ => fX
      with_unfolding_all refine' Spec.use (L := s1.heap.objs.size) ?ux18B fX KX (nsub (l' := TriL J4 RE M1c M2c M3d) nX ?ux18S) T rfl (is_walk (R := TriL J4 RE M1c M2c M3d) (M := M3d) (J := J4) (dd := du) (o := ou2) (dl := dupd A (dupd Bd Cd)) hT13.2.2.1.1 (fun x hx => by simp [hx]) (fun x hx => by simp [hx]) (by simp [reu]) lodu hdu2 hT13.2.2.1.2.1 hT13.2.2.1.2.2.1 agL3) ?ux18d ?ux18u ?_
      case ux18B => exact K0
      case ux18S => exact (by intro q hq; repeat (first | exact hq | apply List.Mem.tail))
      case ux18d => decide
      case ux18u => decide
      rintro _ _ h38 tk38 ⟨rfl, rfl⟩ fY nY
      (try clear nX)
      (try clear fX)
      have nZ : News s1.heap s1.heap.objs.size _ ((sm, listOf #[.ref d0, .ref d1, .ref d2] 0) :: (s1.heap.objs.size + 1, co) :: (TriL J4 RE M1c M2c M3d)) := nsub nY (fun q hq => by
        rcases List.mem_cons.mp hq with rfl | hq
        · simp [rsm]
        · rcases List.mem_cons.mp hq with rfl | hq
          · simp [rco]
          · exact hq)
      clear nY
      k_with_none
      k_with "call ref" => (refine Stop.on ?_)
      k_steps
      refine Stop.off ?_
      rename News _ _ _ _ => nX
      rename Fr _ _ _ _ => fX
      with_unfolding_all refine' Spec.use (L := s1.heap.objs.size) ?ux19B fX KX (nsub (l' := TriL J4 RE M1c M2c M3d) nX ?ux19S) T rfl (is_walk (R := TriL J4 RE M1c M2c M3d) (M := M2c) (J := J4) (dd := ot) (o := oo3) (dl := dupd (dupd Bd Cd) A) hT13.2.1.1 (fun x hx => by simp [hx]) (fun x hx => by simp [hx]) (by simp [reo]) loot hot3 hT13.2.1.2.1 hT13.2.1.2.2.1 agI2) ?ux19d ?ux19u ?_
      case ux19B => exact K0
      case ux19S => exact (by intro q hq; repeat (first | exact hq | apply List.Mem.tail))
      case ux19d => decide
      case ux19u => decide
      rintro _ _ h39 tk39 ⟨rfl, rfl⟩ fY nY
      (try clear nX)
      (try clear fX)
      have nZ : News s1.heap s1.heap.objs.size _ ((sm, listOf #[.ref d0, .ref d1, .ref d2] 0) :: (s1.heap.objs.size + 1, co) :: (TriL J4 RE M1c M2c M3d)) := nsub nY (fun q hq => by
        rcases List.mem_cons.mp hq with rfl | hq
        · simp [rsm]
        · rcases List.mem_cons.mp hq with rfl | hq
          · simp [rco]
          · exact hq)
      clear nY
      cases ap
      · k_with_none
        k_steps
        show EndLaw s1 _ _
        exact ⟨_, _, _, _, rfl, rfl, by assumption, by assumption⟩
      · have hdis := apart_of hC.nodup (of_decide_eq_true hap)
        have hsame : mergeL (mergeL (build Bd) (build Cd)) (build A) = mergeL (mergeL (build A) (build Bd)) (build Cd) := sorted_ext hT13.2.1.2.1 hT13.1.2.1 (agI2.trans ((dupd_apart hA.nodup nBC hdis).trans agO.symm))
        rw [hsame] at hT13
        obtain ⟨⟨hQ1, _, _, _⟩, ⟨hQ2, _, _, _⟩, _⟩ := hT13
        obtain ⟨x1, ya1, yb1, g1, g2, u1, u2, m2, m3, vs1, rs1, rfl, _, _, _, hp1, hI1, hr1⟩ := hQ1
        obtain ⟨x2, ya2, yb2, g3, g4, u3, u4, m4, m5, vs2, rs2, rfl, _, _, _, hp2, hI2, hr2⟩ := hQ2
        rename News _ _ _ _ => nX
        have nW := nsub (l' := (p1, instObj 79 x1) :: (p2, instObj 79 x2) :: (x1, progDict g1 g2 u1 u2 ya1 yb1 2) :: (x2, progDict g3 g4 u3 u4 ya2 yb2 2) :: (ya1, listOf vs1.toArray m2) :: (yb1, listOf rs1.toArray m3) :: (ya2, listOf vs2.toArray m4) :: (yb2, listOf rs2.toArray m5) :: J4) nX (fun q hq => .tail _ (.tail _ (by
          simp only [List.mem_cons] at hq
          rcases hq with rfl | rfl | rfl | rfl | rfl | rfl | rfl | rfl | h
          · exact List.mem_append_right _ (List.mem_append_right _ (List.mem_append_right _ (List.mem_append_left _ hp1)))
          · exact List.mem_append_right _ (List.mem_append_right _ (List.mem_append_right _ (List.mem_append_left _ hp2)))
          · exact List.mem_append_left _ (.head _)
          · exact List.mem_append_right _ (List.mem_append_left _ (.head _))
          · exact List.mem_append_left _ (.tail _ (.head _))
          · exact List.mem_append_left _ (.tail _ (.tail _ (.head _)))
          · exact List.mem_append_right _ (List.mem_append_left _ (.tail _ (.head _)))
          · exact List.mem_append_right _ (List.mem_append_left _ (.tail _ (.tail _ (.head _))))
          · exact List.mem_append_right _ (List.mem_append_right _ (List.mem_append_right _ (List.mem_append_left _ h))))))
        clear nX
        k_with_none
        k_steps
        refine Stop.off ?_
        rename News _ _ _ _ => nX
        have hJ4 : DatAll J4 rs1 _ := rows_dat hr1
        have hK4 : DatAll J4 rs2 _ := rows_dat hr2
        refine dat_eqT (d := .tuple [.list ((keys (mergeL (mergeL (build A) (build Bd)) (build Cd))).map Dat.int), .list ((vals (mergeL (mergeL (build A) (build Bd)) (build Cd))).map rowD)]) nX
          (.tuple (n := 0) (vs := [.ref ya2, .ref yb2]) ?wt1 (.cons (.list (n := m4) (vs := vs2) ?wt2 (ints_dat hI2)) (.cons (.list (n := m5) (vs := rs2) ?wt3 (hK4.mono ?wt4)) .nil)))
          (.tuple (n := 0) (vs := [.ref ya1, .ref yb1]) ?wt5 (.cons (.list (n := m2) (vs := vs1) ?wt6 (ints_dat hI1)) (.cons (.list (n := m3) (vs := rs1) ?wt7 (hJ4.mono ?wt8)) .nil))) (prog_ok _) (by first | ktr_units | decide) ?_
        case wt1 => k_mem
        case wt2 => k_mem
        case wt3 => k_mem
        case wt4 => intro q hq; repeat (first | exact hq | apply List.Mem.tail)
        case wt5 => k_mem
        case wt6 => k_mem
        case wt7 => k_mem
        case wt8 => intro q hq; repeat (first | exact hq | apply List.Mem.tail)
        k_steps
        show EndLaw s1 _ _
        exact ⟨_, _, _, _, rfl, rfl, by assumption, by assumption⟩
  · obtain ⟨h', tk', m', news', rfl, rfl, F', N'⟩ := hq
    k_steps)
end
end
end Mine

theorem PySem.Challenge.cw_sa0631_01_holds : PySem.Challenge.rw_sa0631_01.Holds := by
  exact Mine.law_holds
