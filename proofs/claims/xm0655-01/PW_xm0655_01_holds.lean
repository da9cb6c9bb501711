import PyProof.Rows.All
import Wide.All
import OpenK.AllK
import Wide.FinOn
import Lean
import PySem.Challenge.RW_xm0655_01
set_option Elab.async false
set_option compiler.extract_closed false
set_option maxRecDepth 100000
set_option maxHeartbeats 8000000
namespace Mine
open PySem PySem.W PyProof.Rows
open_top topH for PySem.Challenge.rw_xm0655_01
end Mine
open PySem PySem.W PySem.Spec PySem.Calls PyProof.Rows
local macro_rules | `(tactic| k_room) => `(tactic| ktr_room)
local macro_rules | `(tactic| k_units) => `(tactic| ktr_units)
local macro_rules | `(tactic| units_room) => `(tactic| ktr_units)
namespace Mine
open PySem PySem.W PySem.Spec PySem.Calls PyProof.Rows
noncomputable abbrev LO : List Str := looseW topH.view_39 [Str.ofString "SyntaxFault"]
abbrev Led : Type := List (Addr × Obj)
/-- what stands at a place to which a value v and a ledger nw are handed -/
abbrev Go (h₀ : Heap) (L : Addr) (m : Str → Option Value) (s : Shared) (Q : Value → Shared → Prop) (v : Value) (nw : Led) : Prop :=
  ∀ (h' : Heap) (tk' : Nat), Fr h₀ L h' m → News h₀ L h' nw → Q v { s with heap := h', toks := tk' }
/-- a call of the def at f, from any place: it hands on by Post -/
def Ans (w : World) (f : Addr) (dep : Nat) (news : Led) (vs : List Value) (Post : (Value → Led → Prop) → Prop) : Prop :=
  ∀ (mean : ExcName → Option Value) (mg mb : Str → Option Value) (dp un : Nat) (gd : Option (List Code)) (cn : Str) (cs : Scope) (a : Addr) (ccd : Value) (cl : List (Str × Addr)) (outer : List Env) (A₀ : Around) (base h₀ : Heap) (L : Addr) (m : Str → Option Value) (s : Shared) (Q E : Value → Shared → Prop),
    Below A₀ base outer h₀ → Fr h₀ L s.heap m → (topH.heap_39 w.params).In h₀ → News h₀ L s.heap news → Top topH.view_39 LO mean mg mb h₀ → cs.kind = .function → dp + dep < recursionLimit → un + 8 * dep < cLine →
    Post (Go h₀ L m s Q) →
    wpAny (model PySem.Challenge.rw_xm0655_01.row.prog w) (ktrTop dp un gd cn cs L a ccd cl outer) (call (.ref f) vs) Q E s
theorem Ans.use {w : World} {f : Addr} {dep : Nat} {news : Led} {vs : List Value} {Post : (Value → Led → Prop) → Prop} (C : Ans w f dep news vs Post)
    {mean : ExcName → Option Value} {mg mb : Str → Option Value} {dp un : Nat} {gd : Option (List Code)} {cn : Str} {cs : Scope} {a : Addr} {ccd : Value} {cl : List (Str × Addr)} {outer : List Env} {A₀ : Around} {base h₀ : Heap} {L : Addr} {m : Str → Option Value} {s : Shared} {Q E : Value → Shared → Prop}
    (B : Below A₀ base outer h₀) (F : Fr h₀ L s.heap m) (X : (topH.heap_39 w.params).In h₀) (N : News h₀ L s.heap news) (T : Top topH.view_39 LO mean mg mb h₀) (hk : cs.kind = .function) (hd : dp + dep < recursionLimit) (hu : un + 8 * dep < cLine)
    (hret : Post (Go h₀ L m s Q)) :
    wpAny (model PySem.Challenge.rw_xm0655_01.row.prog w) (ktrTop dp un gd cn cs L a ccd cl outer) (call (.ref f) vs) Q E s :=
  C mean mg mb dp un gd cn cs a ccd cl outer A₀ base h₀ L m s Q E B F X N T hk hd hu hret
theorem Ans.goN {w : World} {f : Addr} {dep : Nat} {news : Led} {vs : List Value} {Post : (Value → Led → Prop) → Prop}
    {mean : ExcName → Option Value} {mg mb : PySem.Str → Option Value} {dp un : Nat} {gd : Option (List Code)} {cn : PySem.Str} {cs : Scope} {a : Addr} {ccd : Value} {cl : List (PySem.Str × Addr)} {outer : List Env} {base : Heap} {A₀ : Around} {h₀ : Heap} {L : Addr} {m : PySem.Str → Option Value} {s : Shared} {Q E : Value → Shared → Prop}
    (N : News h₀ L s.heap news := by first | k_asm | exact News.tail' (by k_asm)) (C : Ans w f dep news vs Post) (hret : Post (Go h₀ L m s Q))
    (B : Below A₀ base outer h₀ := by k_asm) (F : Fr h₀ L s.heap m := by k_asm) (X : (topH.heap_39 w.params).In h₀ := by k_asm) (T : Top topH.view_39 LO mean mg mb h₀ := by k_asm) (hk : cs.kind = .function := by first | exact rfl | assumption) (hd : dp + dep < recursionLimit := by ktr_room) (hu : un + 8 * dep < cLine := by ktr_units) :
    wpAny (model PySem.Challenge.rw_xm0655_01.row.prog w) (ktrTop dp un gd cn cs L a ccd cl outer) (call (.ref f) vs) Q E s := Ans.use C B F X N T hk hd hu hret
/-- the signs that the law's texts are made of -/
def signs : List Nat := [97, 38, 98, 59, 35, 120, 49, 37, 60, 54, 53]
def startOk (c : Nat) : Bool := c == 97 || c == 98 || c == 120
def charOk (c : Nat) : Bool := c == 97 || c == 98 || c == 120 || c == 49 || c == 54 || c == 53
/-- all signs of the text are of the law's -/
def Plain (x : PySem.Str) : Prop := ∀ c ∈ x.cps.toList, c ∈ signs
theorem plain_at {x : PySem.Str} {pre post : List Int} {n : Nat} (h : Plain x) (e : KStt.codes x = pre ++ (n : Int) :: post) : n ∈ signs := by
  apply h
  have : (n : Int) ∈ KStt.codes x := by rw [e]; simp
  unfold KStt.codes at this
  obtain ⟨a, ha, e⟩ : ∃ a, a ∈ x.cps ∧ (a : Int) = (n : Int) := by simpa using this
  have : a = n := by omega
  subst this; simpa using ha
end Mine
namespace Mine
open PySem PySem.W PySem.Spec PySem.Calls PyProof.Rows
theorem sign_up : ∀ c ∈ signs, ¬ [c] < (Str.ofString "a").cps.toList → ¬ (Str.ofString "z").cps.toList < [c] ∧ startOk c = true := by decide +kernel
theorem sign_low : ∀ c ∈ signs, [c] < (Str.ofString "a").cps.toList → [c] < (Str.ofString "A").cps.toList ∧ ((⟨#[c]⟩ : PySem.Str) == Str.ofString "_") = false ∧ ((⟨#[c]⟩ : PySem.Str) == Str.ofString ":") = false ∧ startOk c = false := by decide +kernel
theorem sign_fig : ∀ c ∈ signs, startOk c = false → ([c] < (Str.ofString "0").cps.toList → charOk c = false) ∧ (¬ [c] < (Str.ofString "0").cps.toList → charOk c = !decide ((Str.ofString "9").cps.toList < [c])) ∧ ((⟨#[c]⟩ : PySem.Str) == Str.ofString "-") = false ∧ ((⟨#[c]⟩ : PySem.Str) == Str.ofString ".") = false := by decide +kernel
theorem sign_ok : ∀ c ∈ signs, startOk c = true → charOk c = true := by decide +kernel
theorem bool_eq {Q : Value → Shared → Prop} {a b : Bool} {s : Shared} (h : Q (.bool a) s) (e : a = b) : Q (.bool b) s := e ▸ h
theorem start_ans : ∀ (w : World) (news : Led) (c : Nat) (tk : Tok), c ∈ signs → Ans w 52 2 news [.str ⟨#[c]⟩ tk] (fun K => K (.bool (startOk c)) news) := by
  intro w news c tk hc
  unfold Ans
  k_fill
  intro mean mg mb dp un gd cn cs a ccd cl outer A₀ base h₀ L m s Q E B F X N T hk hd hu hret
  have hc1 : c < 128 := by
    simp only [signs, List.mem_cons, List.not_mem_nil, or_false] at hc
    omega
  refine wpAny_call ?_
  k_dflt cell_enter
  (repeat' (first | (k_unfold; (try dsimp only)) | (k_end; wrow_close) | ((with_reducible show wpAny _ _ (call (Value.ref _) _) _ _ _); (k_here; k_dflt (refine' Ans.goN (C := start_ans _ _ _ _ (by assumption)) (hret := ?_); intro h' tk' F' N'); (try dsimp only); (try k_fold))) | walk1 | (dsimp only; walk1) | (leave1; walk_say "STEP leave1"; try dsimp only) | fail "no step"))
  all_goals refine bool_eq (hret _ _ (by k_asm) (by k_asm)) ?_
  all_goals clear hret
  all_goals by_cases q : [c] < (Str.ofString "a").cps.toList
  all_goals first
    | exact absurd q (by assumption)
    | exact absurd (by assumption) q
    | exact absurd (by assumption) (sign_up c hc q).1
    | exact absurd (sign_low c hc q).1 (by assumption)
    | exact absurd ((sign_low c hc q).2.1.symm.trans (by assumption)) (by decide)
    | exact (sign_low c hc q).2.2.2.trans (sign_low c hc q).2.2.1.symm
    | exact (sign_up c hc q).2.trans (by rw [decide_eq_false (sign_up c hc q).1]; rfl)
theorem char_ans : ∀ (w : World) (news : Led) (c : Nat) (tk : Tok), c ∈ signs → Ans w 59 3 news [.str ⟨#[c]⟩ tk] (fun K => K (.bool (charOk c)) news) := by
  intro w news c tk hc
  unfold Ans
  k_fill
  intro mean mg mb dp un gd cn cs a ccd cl outer A₀ base h₀ L m s Q E B F X N T hk hd hu hret
  have hc1 : c < 128 := by
    simp only [signs, List.mem_cons, List.not_mem_nil, or_false] at hc
    omega
  refine wpAny_call ?_
  k_dflt cell_enter
  (repeat' (first | (k_unfold; (try dsimp only)) | (k_end; wrow_close) | ((with_reducible show wpAny _ _ (call (Value.ref _) _) _ _ _); (k_here; k_dflt (refine' Ans.goN (C := start_ans _ _ _ _ (by assumption)) (hret := ?_); intro h' tk' F' N'); (try dsimp only); (try k_fold))) | walk1 | (dsimp only; walk1) | (leave1; walk_say "STEP leave1"; try dsimp only) | fail "no step"))
  all_goals refine bool_eq (hret _ _ (by k_asm) (by k_asm)) ?_
  all_goals clear hret
  all_goals first
    | exact sign_ok c hc (by with_reducible assumption)
    | exact absurd ((sign_fig c hc (by with_reducible assumption)).2.2.1.symm.trans (by assumption)) (by decide)
    | exact ((sign_fig c hc (by with_reducible assumption)).1 (by assumption)).trans (sign_fig c hc (by with_reducible assumption)).2.2.2.symm
    | exact (sign_fig c hc (by with_reducible assumption)).2.1 (by assumption)
    | exact (((sign_fig c hc (by with_reducible assumption)).2.1 (by assumption)).trans (congrArg not (decide_eq_true (by assumption)))).trans (sign_fig c hc (by with_reducible assumption)).2.2.2.symm
end Mine
namespace Mine
open PySem PySem.W PySem.Spec PySem.Calls PyProof.Rows
theorem codes_all {x : PySem.Str} (h : ∀ c ∈ KStt.codes x, charOk c.toNat = true) : (x != Str.ofString "") = (x.cps.toList.all charOk && !x.cps.isEmpty) := by
  have h1 : x.cps.toList.all charOk = true := by
    rw [List.all_eq_true]
    intro c hc
    have := h (c : Int) (by unfold KStt.codes; exact List.mem_map.mpr ⟨c, hc, rfl⟩)
    simpa using this
  rw [h1, Bool.true_and]
  obtain ⟨a⟩ := x
  have e : (Str.ofString "" : PySem.Str) = ⟨#[]⟩ := by decide +kernel
  rw [e]
  cases hb : a.isEmpty with
  | true =>
    have : a = #[] := by simpa using hb
    subst this; decide
  | false =>
    have : a ≠ #[] := by simpa using hb
    simp only [Bool.not_false, bne_iff_ne, ne_eq, PySem.Str.mk.injEq]
    exact this
theorem codes_not {x : PySem.Str} {pre post : List Int} {n : Nat} (e : KStt.codes x = pre ++ (n : Int) :: post) (h : charOk n = false) : false = (x.cps.toList.all charOk && !x.cps.isEmpty) := by
  have hm : n ∈ x.cps.toList := by
    have : (n : Int) ∈ KStt.codes x := by rw [e]; simp
    unfold KStt.codes at this
    obtain ⟨a, ha, q⟩ := List.mem_map.mp this
    have : a = n := by omega
    exact this ▸ ha
  have : x.cps.toList.all charOk = false := by
    rw [List.all_eq_false]
    exact ⟨n, hm, by simpa using h⟩
  rw [this]; rfl
theorem codes_more {pre : List Int} {n : Nat} (h1 : ∀ c ∈ pre, charOk c.toNat = true) (h : charOk n = true) : ∀ c ∈ pre ++ [(n : Int)], charOk c.toNat = true := by
  intro c hc
  rcases List.mem_append.mp hc with q | q
  · exact h1 c q
  · rw [List.mem_singleton.mp q]; simpa using h
theorem nmtoken_ans : ∀ (w : World) (news : Led) (x : PySem.Str) (tk : Tok), Plain x → Ans w 66 4 news [.str x tk] (fun K => K (.bool (x.cps.toList.all charOk && !x.cps.isEmpty)) news) := by
  intro w news x tk hc
  unfold Ans
  k_fill
  intro mean mg mb dp un gd cn cs a ccd cl outer A₀ base h₀ L m s Q E B F X N T hk hd hu hret
  refine wpAny_call ?_
  k_dflt cell_enter
  (repeat' (first | (k_unfold; (try dsimp only)) | (k_end; wrow_close) | ((with_reducible show wpAny _ _ (call (Value.ref _) _) _ _ _); (k_here; k_dflt (refine' Ans.goN (C := char_ans _ _ _ _ (by exact plain_at (by assumption) (by assumption))) (hret := ?_); intro h' tk' F' N'); (try dsimp only); (try k_fold))) | ((with_reducible show wpAny _ _ (pyIter (Value.str _ _)) _ _ _); ((rename Fr _ _ _ _ => lF'); (rename News _ _ _ _ => lN'); (with_unfolding_all refine' KStt.kst_text (fun _ : Unit => _) (fun _ => []) (fun _ => True) [] (fun pre _ => ∀ c ∈ pre, charOk c.toNat = true) () (by rfl) lF' lN' ?kf ?kk ?kp ?kturn ?kdone); (case kf => exact True.intro); (case kk => exact List.forall_mem_nil _); (case kp => exact List.forall_mem_nil _); (all_goals clear lF' lN'); (case' kturn => (intro _ kPre kPost kN kT kU kH kTk kOwn kEq kOff _ kInv kFr kNews)); (case' kdone => (intro _ kU kH kTk _ kInv kFr kNews)); (all_goals (try k_fold)))) | ((with_reducible show wpAny _ _ (exec (Stmt.For (PySem.Expr.Name _ _) (PySem.Expr.Name _ _) _ [] _) _) _ _ _); (k_here; (rename Fr _ _ _ _ => lF'); (with_unfolding_all refine' For_invVF lF' ?k1 ?k2 ?_; (case k1 => exact rfl); (case k2 => exact rfl); k_whole))) | walk1 | (dsimp only; walk1) | (leave1; walk_say "STEP leave1"; try dsimp only) | fail "no step"))
  · rw [codes_all (by assumption)]
    exact hret _ _ (by k_asm) (by k_asm)
  · refine kst_end () (by assumption) (by assumption) (by intro p hp; kst_mem) (by intro p hp; kst_mem) (by rfl) True.intro (List.forall_mem_nil _) (by intro z h1 _ _; simp only [if_neg h1]; rfl) (codes_more (by assumption) (by assumption))
  · rw [codes_not (by assumption) (by assumption)]
    exact hret _ _ (by k_asm) (KStt.news_of (by assumption) (by intro p hp; kst_mem))
end Mine
namespace Mine
open PySem PySem.W PySem.Spec PySem.Calls PyProof.Rows
/-- the first sign -/
def first (x : PySem.Str) : Nat := (Txt.charAt x 0).getD 0
theorem first_cons {c : Nat} {r : List Nat} : first ⟨(c :: r).toArray⟩ = c := by
  unfold first Txt.charAt seqIndex?
  simp [PySem.Str.length]
theorem str_cases (x : PySem.Str) : x = ⟨#[]⟩ ∨ ∃ c r, x = ⟨(c :: r).toArray⟩ := by
  obtain ⟨⟨l⟩⟩ := x
  cases l with
  | nil => exact .inl rfl
  | cons c r => exact .inr ⟨c, r, rfl⟩
theorem first_sign {x : PySem.Str} (h : Plain x) (h1 : 1 ≤ x.length) : (Txt.charAt x 0).getD 0 ∈ signs := by
  rcases str_cases x with rfl | ⟨c, r, rfl⟩
  · exact absurd h1 (by decide)
  · show first _ ∈ signs
    rw [first_cons]
    exact h c (by simp)
def nameOk (x : PySem.Str) : Bool := match x.cps.toList with
  | [] => false
  | c :: r => startOk c && (c :: r).all charOk
theorem empty_is : (Str.ofString "" : PySem.Str) = ⟨#[]⟩ := by decide +kernel
theorem nameOk_none {x : PySem.Str} (h : (x != Str.ofString "") = false) : (x != Str.ofString "") = nameOk x := by
  have : x = Str.ofString "" := by simpa using h
  rw [h, this, empty_is]; rfl
theorem nameOk_some {x : PySem.Str} (h1 : 1 ≤ x.length) : nameOk x = (startOk (first x) && (x.cps.toList.all charOk && !x.cps.isEmpty)) := by
  rcases str_cases x with rfl | ⟨c, r, rfl⟩
  · exact absurd h1 (by decide)
  · rw [first_cons]
    show (startOk c && (c :: r).all charOk) = _
    simp
theorem nameOk_start {x : PySem.Str} (h1 : 1 ≤ x.length) (h : startOk ((Txt.charAt x 0).getD 0) = false) : startOk ((Txt.charAt x 0).getD 0) = nameOk x := by
  rw [nameOk_some h1]; show _ = (startOk ((Txt.charAt x 0).getD 0) && _); rw [h]; rfl
theorem nameOk_rest {x : PySem.Str} (h1 : 1 ≤ x.length) (h : startOk ((Txt.charAt x 0).getD 0) = true) : (x.cps.toList.all charOk && !x.cps.isEmpty) = nameOk x := by
  rw [nameOk_some h1]; show _ = (startOk ((Txt.charAt x 0).getD 0) && _); rw [h]; rfl
theorem name_ans : ∀ (w : World) (news : Led) (x : PySem.Str) (tk : Tok), Plain x → Ans w 73 5 news [.str x tk] (fun K => K (.bool (nameOk x)) news) := by
  intro w news x tk hc
  unfold Ans
  k_fill
  intro mean mg mb dp un gd cn cs a ccd cl outer A₀ base h₀ L m s Q E B F X N T hk hd hu hret
  refine wpAny_call ?_
  k_dflt cell_enter
  (repeat' (first | (k_unfold; (try dsimp only)) | (k_end; wrow_close) | ((with_reducible show wpAny _ _ (call (Value.ref _) _) _ _ _); (k_here; k_dflt (refine' Ans.goN (C := start_ans _ _ _ _ (by exact first_sign (by assumption) (by assumption))) (hret := ?_); intro h' tk' F' N'); (try dsimp only); (try k_fold))) | ((with_reducible show wpAny _ _ (call (Value.ref _) _) _ _ _); (k_here; k_dflt (refine' Ans.goN (C := nmtoken_ans _ _ _ _ (by assumption)) (hret := ?_); intro h' tk' F' N'); (try dsimp only); (try k_fold))) | walk1 | (dsimp only; walk1) | (leave1; walk_say "STEP leave1"; try dsimp only) | fail "no step"))
  all_goals (first | rw [nameOk_none (by assumption)] | rw [nameOk_start (by assumption) (by assumption)] | rw [nameOk_rest (by assumption) (by assumption)])
  all_goals (exact hret _ _ (by k_asm) (by k_asm))
end Mine
namespace Mine
open PySem PySem.W PySem.Spec PySem.Calls PyProof.Rows
open Builtin.Str
theorem min_cast (a n : Nat) : min (a : Int) n = ((min a n : Nat) : Int) := by omega
theorem slice_places {i j : Int} {n : Nat} (hi : 0 ≤ i) (hj : 0 ≤ j) : strSliceIndices (some i) (some j) 1 n = (List.range (min j n - min i n).toNat).map fun k => (min i n).toNat + k := by
  unfold strSliceIndices sliceRange
  simp only [show (1 : Int) > 0 by decide, if_true, Int.not_lt.mpr hi, Int.not_lt.mpr hj, if_false]
  obtain ⟨a, rfl⟩ := Int.eq_ofNat_of_zero_le hi
  obtain ⟨b, rfl⟩ := Int.eq_ofNat_of_zero_le hj
  clear hi hj
  rw [min_cast, min_cast]
  generalize min a n = q
  generalize min b n = p
  rw [Int.max_eq_right (Int.natCast_nonneg q), Int.max_eq_right (Int.natCast_nonneg p)]
  split
  · have e : ((p : Int) - q + 1 - 1) / 1 = p - q := by omega
    rw [e]
    refine List.map_congr_left fun k _ => ?_
    omega
  · have e : ((p : Int) - q).toNat = 0 := by omega
    rw [e]; rfl
theorem slice_none {j : Int} {n : Nat} (hj : 0 ≤ j) : strSliceIndices none (some j) 1 n = (List.range (min j n).toNat).map fun k => 0 + k := by
  unfold strSliceIndices sliceRange
  simp only [show (1 : Int) > 0 by decide, if_true, Int.not_lt.mpr hj, if_false]
  obtain ⟨b, rfl⟩ := Int.eq_ofNat_of_zero_le hj
  clear hj
  rw [min_cast]
  generalize min b n = p
  rw [Int.max_eq_right (Int.natCast_nonneg p)]
  split
  · have e : ((p : Int) - 0 + 1 - 1) / 1 = p := by omega
    rw [e]
    refine List.map_congr_left fun k _ => ?_
    omega
  · have e : (p : Int).toNat = 0 := by omega
    rw [e]; rfl
theorem pick_run (l : List Nat) (a : Nat) : ∀ m : Nat, a + m ≤ l.length → ((List.range m).map fun k => a + k).filterMap (fun k => l[k]?) = (l.drop a).take m := by
  intro m
  induction m with
  | zero => intro _; simp
  | succ m ih =>
    intro h
    rw [List.range_succ, List.map_append, List.filterMap_append, ih (by omega), List.take_add_one]
    congr 1
    simp only [List.map_cons, List.map_nil, List.getElem?_drop]
    have : l[a + m]? = some l[a + m] := by rw [List.getElem?_eq_getElem]
    simp [this]
theorem slice_of {x : PySem.Str} {l u : Option Int} {a m : Nat} (e : strSliceIndices l u 1 x.length = (List.range m).map fun k => a + k) (h : a + m ≤ x.length) : (Txt.slice x l u).cps.toList = (x.cps.toList.drop a).take m := by
  have hl : x.cps.toList.length = x.length := by rw [Array.length_toList]; rfl
  unfold Txt.slice
  rw [e]
  split
  · rename_i hc
    simp only [beq_self_eq_true, Bool.true_and, beq_iff_eq, List.length_map, List.length_range] at hc
    have : a = 0 := by omega
    subst this
    rw [List.drop_zero, hc, ← hl, List.take_length]
  · show ((((List.range m).map fun k => a + k).filterMap fun k => x.cps[k]?)) = _
    rw [← pick_run _ _ _ (by rw [hl]; exact h)]
    congr 1
    funext k
    rw [Array.getElem?_toList]
/-- a slice by two places, as a list -/
theorem slice_list {x : PySem.Str} {i j : Int} (hi : 0 ≤ i) (hj : 0 ≤ j) : (Txt.slice x (some i) (some j)).cps.toList = (x.cps.toList.take j.toNat).drop i.toNat := by
  have hl : x.cps.toList.length = x.length := by rw [Array.length_toList]; rfl
  obtain ⟨a, rfl⟩ := Int.eq_ofNat_of_zero_le hi
  obtain ⟨b, rfl⟩ := Int.eq_ofNat_of_zero_le hj
  have h1 : (min (a : Int) (x.length : Int)).toNat = min a x.length := by rw [min_cast]; rfl
  have h2 : (min (b : Int) (x.length : Int) - min (a : Int) x.length).toNat = min b x.length - min a x.length := by
    rw [min_cast, min_cast]; exact Int.toNat_sub _ _
  rw [slice_of (slice_places hi hj) (by rw [h1, h2]; omega), h1, h2, List.drop_take]
  show _ = List.take (b - a) (List.drop a x.cps.toList)
  by_cases h : a ≤ x.length
  · rw [Nat.min_eq_left h, List.take_eq_take_iff, List.length_drop, hl]
    by_cases k : b ≤ x.length
    · rw [Nat.min_eq_left k]
    · rw [Nat.min_eq_right (Nat.le_of_not_le k), Nat.min_self, Nat.min_eq_right (Nat.sub_le_sub_right (Nat.le_of_not_le k) a)]
  · have h := Nat.le_of_not_le h
    rw [Nat.min_eq_right h, List.drop_eq_nil_of_le (Nat.le_of_eq hl), List.drop_eq_nil_of_le (hl ▸ h), List.take_nil, List.take_nil]
theorem slice_head {x : PySem.Str} : (Txt.slice x none (some 1)).cps.toList = x.cps.toList.take 1 := by
  have hl : x.cps.toList.length = x.length := by rw [Array.length_toList]; rfl
  rw [slice_of (slice_none (by decide)) (by omega), List.drop_zero]
  by_cases h : 1 ≤ x.length
  · have e : (min (1 : Int) x.length).toNat = 1 := by omega
    rw [e]
  · have e : (min (1 : Int) x.length).toNat = 0 := by omega
    have e' : x.cps.toList = [] := List.length_eq_zero_iff.mp (by omega)
    rw [e, e']; rfl
theorem str_eq {x y : PySem.Str} (h : x.cps.toList = y.cps.toList) : x = y := PySem.Str.ext' (Array.toList_inj.mp h)
theorem str_eq_iff {x y : PySem.Str} : x = y ↔ x.cps.toList = y.cps.toList := ⟨fun h => by rw [h], str_eq⟩
theorem slice_plain {x : PySem.Str} {i j : Int} (hi : 0 ≤ i) (hj : 0 ≤ j) (h : Plain x) : Plain (Txt.slice x (some i) (some j)) := by
  intro c hc
  rw [slice_list hi hj] at hc
  exact h c (List.mem_of_mem_take (List.mem_of_mem_drop hc))
theorem plain_low {x : PySem.Str} (h : Plain x) : x.cps.all (· < 128) = true := by
  rw [← Array.all_toList, List.all_eq_true]
  intro c hc
  have := h c hc
  simp only [signs, List.mem_cons, List.not_mem_nil, or_false] at this
  rcases this with rfl | rfl | rfl | rfl | rfl | rfl | rfl | rfl | rfl | rfl | rfl <;> decide
theorem slice_len {x : PySem.Str} {i j : Int} (hi : 0 ≤ i) (hij : i ≤ j) (hj : j ≤ x.length) : ((Txt.slice x (some i) (some j)).length : Int) = j - i := by
  have e := congrArg List.length (slice_list (x := x) hi (Int.le_trans hi hij))
  rw [Array.length_toList, List.length_drop, List.length_take, Array.length_toList] at e
  have e1 : (Txt.slice x (some i) (some j)).length = (Txt.slice x (some i) (some j)).cps.size := rfl
  rw [e1, e]
  obtain ⟨a, rfl⟩ := Int.eq_ofNat_of_zero_le hi
  obtain ⟨b, rfl⟩ := Int.eq_ofNat_of_zero_le (Int.le_trans hi hij)
  rw [Int.toNat_natCast, Int.toNat_natCast, Nat.min_eq_left (show b ≤ x.cps.size from Int.ofNat_le.mp hj)]
  exact Int.ofNat_sub (Int.ofNat_le.mp hij)
end Mine
namespace Mine
open PySem PySem.W PySem.Spec PySem.Calls PyProof.Rows
theorem fmod_lo (a b : Int) (hb : 0 < b := by decide) : 0 ≤ a.fmod b := Int.fmod_nonneg_of_pos a hb
theorem fmod_hi (a b : Int) (hb : 0 < b := by decide) : a.fmod b < b := Int.fmod_lt_of_pos a hb
theorem fmod_mul (a b : Int) : IntMulOk (a.fmod 2147483647) b := .of_left (intBits_le_64 (by have := fmod_lo a 2147483647; omega) (by have := fmod_hi a 2147483647; omega))
theorem get_mul (x a b : Int) : IntMulOk ([x, a.fmod 2147483647].getD (Int.toNat 1) 0) b := fmod_mul a b
local macro_rules | `(tactic| mul_fits) => `(tactic| with_unfolding_all exact get_mul _ _ _)
theorem fdiv_pos {x y top : Int} (hx : 0 ≤ x) (h1 : 0 ≤ top) : 0 ≤ ([x, y].getD (Int.toNat 0) 0).fdiv top := by
  show 0 ≤ x.fdiv top
  exact Int.fdiv_nonneg hx h1
theorem take_ans : ∀ (w : World) (src : Addr) (x y : Int) (tx ty : Tok) (n : Nat) (own : Led) (top : Int) (tt : Tok), OwnOff own [src] → 1 ≤ top → top ≤ 100 → 0 ≤ x →
    Ans w 169 1 ((src, listOf #[.int x tx, .int y ty] n) :: own) [.ref src, .int top tt] (fun K => ∀ (v x' y' : Int) (t t1 t2 : Tok), 0 ≤ v → v < top → 0 ≤ x' → K (.int v t) ((src, listOf #[.int x' t1, .int y' t2] n) :: own)) := by
  intro w src x y tx ty n own top tt hoff h1 h2 hx
  unfold Ans
  k_fill
  intro mean mg mb dp un gd cn cs a ccd cl outer A₀ base h₀ L m s Q E B F X N T hk hd hu hret
  refine wpAny_call ?_
  k_dflt cell_enter
  k_steps
  · refine hret _ _ _ _ _ _ ?_ ?_ ?_ _ _ (by k_asm) (by k_asm)
    · exact Int.fmod_nonneg_of_pos _ (by omega)
    · exact Int.fmod_lt_of_pos _ (by omega)
    · exact fdiv_pos hx (by omega)
  · refine hret _ _ _ _ _ _ ?_ ?_ hx _ _ (by k_asm) (by k_asm)
    · exact Int.fmod_nonneg_of_pos _ (by omega)
    · exact Int.fmod_lt_of_pos _ (by omega)
end Mine
namespace Mine
open PySem PySem.W PySem.Spec PySem.Calls PyProof.Rows
/-- a contract of an object at the ledger's head, used where the object stands anywhere in it -/
theorem Ans.at {w : World} {f : Addr} {dep : Nat} {src : Addr} {o : Obj} {news : Led} {g : Obj → Led} {vs : List Value} {Post : (Value → Obj → Prop) → Prop}
    (C : ∀ own : Led, OwnOff own [src] → Ans w f dep ((src, o) :: own) vs (fun K => Post (fun v o' => K v ((src, o') :: own))))
    (mono : ∀ K K' : Value → Obj → Prop, (∀ v o, K v o → K' v o) → Post K → Post K')
    (U : UpdF src o news g) : Ans w f dep news vs (fun K => Post (fun v o' => K v (g o'))) := by
  intro mean mg mb dp un gd cn cs a ccd cl outer A₀ base h₀ L m s Q E B F X N T hk hd hu hret
  obtain ⟨pre, post, rfl, hg, h1, h2⟩ := U.split
  refine C (pre ++ post) ?_ mean mg mb dp un gd cn cs a ccd cl outer A₀ base h₀ L m s Q E B F X ?_ T hk hd hu ?_
  · intro p hp b hb
    rw [List.mem_singleton.mp hb]
    exact (List.mem_append.mp hp).elim (h1 p) (h2 p)
  · intro p hp
    refine N p ?_
    simp only [List.mem_cons, List.mem_append] at hp ⊢
    rcases hp with rfl | hp | hp
    · exact .inr (.inl rfl)
    · exact .inl hp
    · exact .inr (.inr hp)
  · refine mono _ _ ?_ hret
    intro v o' hk' h' tk' F' N'
    refine hk' h' tk' F' ?_
    rw [hg]
    intro p hp
    refine N' p ?_
    simp only [List.mem_cons, List.mem_append] at hp ⊢
    rcases hp with hp | rfl | hp
    · exact .inr (.inl hp)
    · exact .inl rfl
    · exact .inr (.inr hp)
/-- as above, where the contract asks for a second object of the ledger -/
theorem Ans.at' {w : World} {f : Addr} {dep : Nat} {src : Addr} {o : Obj} {news : Led} {g : Obj → Led} {vs : List Value} {Post : (Value → Obj → Prop) → Prop} {q : Addr × Obj} (hm : q ∈ news) (hne : q.1 ≠ src)
    (C : ∀ own : Led, OwnOff own [src] → q ∈ own → Ans w f dep ((src, o) :: own) vs (fun K => Post (fun v o' => K v ((src, o') :: own))))
    (mono : ∀ K K' : Value → Obj → Prop, (∀ v o, K v o → K' v o) → Post K → Post K')
    (U : UpdF src o news g) : Ans w f dep news vs (fun K => Post (fun v o' => K v (g o'))) := by
  intro mean mg mb dp un gd cn cs a ccd cl outer A₀ base h₀ L m s Q E B F X N T hk hd hu hret
  obtain ⟨pre, post, rfl, hg, h1, h2⟩ := U.split
  refine C (pre ++ post) ?_ ?_ mean mg mb dp un gd cn cs a ccd cl outer A₀ base h₀ L m s Q E B F X ?_ T hk hd hu ?_
  · intro p hp b hb
    rw [List.mem_singleton.mp hb]
    exact (List.mem_append.mp hp).elim (h1 p) (h2 p)
  · simp only [List.mem_cons, List.mem_append] at hm ⊢
    rcases hm with hm | hm | hm
    · exact .inl hm
    · exact absurd (by rw [hm]) hne
    · exact .inr hm
  · intro p hp
    refine N p ?_
    simp only [List.mem_cons, List.mem_append] at hp ⊢
    rcases hp with rfl | hp | hp
    · exact .inr (.inl rfl)
    · exact .inl hp
    · exact .inr (.inr hp)
  · refine mono _ _ ?_ hret
    intro v o' hk' h' tk' F' N'
    refine hk' h' tk' F' ?_
    rw [hg]
    intro p hp
    refine N' p ?_
    simp only [List.mem_cons, List.mem_append] at hp ⊢
    rcases hp with hp | rfl | hp
    · exact .inr (.inl hp)
    · exact .inl rfl
    · exact .inr (.inr hp)
theorem take_at {w : World} {src : Addr} {x y : Int} {tx ty : Tok} {n : Nat} {news : Led} {g : Obj → Led} {top : Int} {tt : Tok} (U : UpdF src (listOf #[.int x tx, .int y ty] n) news g) (h1 : 1 ≤ top) (h2 : top ≤ 100) (hx : 0 ≤ x) :
    Ans w 169 1 news [.ref src, .int top tt] (fun K => ∀ (v x' y' : Int) (t t1 t2 : Tok), 0 ≤ v → v < top → 0 ≤ x' → K (.int v t) (g (listOf #[.int x' t1, .int y' t2] n))) :=
  Ans.at (Post := fun K => ∀ (v x' y' : Int) (t t1 t2 : Tok), 0 ≤ v → v < top → 0 ≤ x' → K (.int v t) (listOf #[.int x' t1, .int y' t2] n))
    (fun own ho => take_ans w src x y tx ty n own top tt ho h1 h2 hx) (fun _ _ h k v x' y' t t1 t2 a b c => h _ _ (k v x' y' t t1 t2 a b c)) U
theorem strs_at {vs : List Value} {ys : List PySem.Str} (h : StrsAre vs ys) {i : Nat} (hi : i < vs.length) : ∃ y t, y ∈ ys ∧ vs[i]? = some (.str y t) := by
  induction h generalizing i with
  | nil => exact absurd hi (Nat.not_lt_zero _)
  | cons y t r ih =>
    cases i with
    | zero => exact ⟨y, t, .head _, rfl⟩
    | succ i =>
      obtain ⟨z, u, hz, e⟩ := ih (Nat.lt_of_succ_lt_succ hi)
      exact ⟨z, u, .tail _ hz, by simpa using e⟩
/-- an item of a list of texts at a place in it -/
theorem item_text {prog : Program} {w : World} {A : Around} {E : Value → Shared → Prop} {s : Shared} {h₀ : Heap} {L : Addr} {news : Led} {value slice : PySem.Expr} {l : Addr} {vs : List Value} {ys : List PySem.Str} {n : Nat} {k : Int} {u : Tok} {Q : Value → Shared → Prop}
    (N : News h₀ L s.heap news) (hm : (l, listOf vs.toArray n) ∈ news) (hs' : StrsAre vs ys) (h0 : 0 ≤ k) (h1 : k < vs.length) (h2 : vs.length ≤ 100) (h : ∀ y t, y ∈ ys → Q (.str y t) s)
    (hs : subscripted slice false (.ref l) (.int k u) = operate [.ref l, .int k u] (getItem (.ref l) (.int k u)) := by with_unfolding_all rfl) :
    wpAny (model prog w) A (subscriptTail value slice (.ref l) (.int k u)) Q E s := by
  obtain ⟨y, t, hy, e⟩ := strs_at hs' (i := k.toNat) (by omega)
  have hl : s.heap.IsList l vs.toArray := ⟨_, (N _ hm).1, rfl, n, rfl⟩
  exact tail_any hl.typeIs slot_list_getitem.lookup (wpAny_getItem_list hl h0 (by omega) (by simpa using e) (h y t hy)) hs
end Mine
namespace Mine
open PySem PySem.W PySem.Spec PySem.Calls PyProof.Rows
theorem len_made {prog : Program} {w : World} {A : Around} {E : Value → Shared → Prop} {s : Shared} {h₀ : Heap} {L : Addr} {news : Led} {l : Addr} {vs : List Value} {n : Nat} {Q : Value → Shared → Prop}
    (N : News h₀ L s.heap news) (hm : (l, listOf vs.toArray n) ∈ news) (h2 : vs.length ≤ 100) (h : Q (.int (vs.length : Nat) (s.toks + 1)) { s with toks := s.toks + 1 + 1 }) : wpAny (model prog w) A (call (.builtin "len") [.ref l]) Q E s :=
  len_list (items := vs.toArray) ⟨_, (N _ hm).1, rfl, n, rfl⟩ (by rw [List.size_toArray]; omega) (by rw [List.size_toArray]; exact h)
theorem one_ans : ∀ (w : World) (src th : Addr) (x y : Int) (tx ty : Tok) (n n2 : Nat) (own : Led) (vs : List Value) (ys : List PySem.Str), (th, listOf vs.toArray n2) ∈ own → OwnOff own [src] → StrsAre vs ys → 1 ≤ vs.length → vs.length ≤ 100 → 0 ≤ x →
    Ans w 176 2 ((src, listOf #[.int x tx, .int y ty] n) :: own) [.ref src, .ref th] (fun K => ∀ (y₀ : PySem.Str) (x' y' : Int) (t t1 t2 : Tok), y₀ ∈ ys → 0 ≤ x' → K (.str y₀ t) ((src, listOf #[.int x' t1, .int y' t2] n) :: own)) := by
  intro w src th x y tx ty n n2 own vs ys hth hoff hvs h1 h2 hx
  unfold Ans
  k_fill
  intro mean mg mb dp un gd cn cs a ccd cl outer A₀ base h₀ L m s Q E B F X N T hk hd hu hret
  refine wpAny_call ?_
  k_dflt cell_enter
  (repeat' (first | (k_unfold; (try dsimp only)) | (k_end; wrow_close) | ((with_reducible show wpAny _ _ (call (Value.ref _) _) _ _ _); (k_here; k_dflt (refine' Ans.goN (C := take_at (by k_updF) (by (first | omega | (simp only [List.size_toArray, List.length_cons, List.length_nil]; omega))) (by (first | omega | (simp only [List.size_toArray, List.length_cons, List.length_nil]; omega))) (by assumption)) (hret := ?_); intro v' x' y' t' t1' t2' hv0 hv1 hx' h' tk' F' N'; (try dsimp only at N')); (try dsimp only); (try k_fold))) | ((with_reducible show wpAny _ _ (subscriptTail _ _ (Value.ref _) (Value.int _ _)) _ _ _); k_dflt (refine item_text (by k_asm) (by first | k_mem | exact List.mem_cons_of_mem _ (by assumption)) (by assumption) (by assumption) (by assumption) (by assumption) ?_); (intro y' t' hy')) | ((with_reducible show wpAny _ _ (call (Value.builtin _) [Value.ref _]) _ _ _); k_dflt (refine len_made (by k_asm) (by first | k_mem | exact List.mem_cons_of_mem _ (by assumption)) (by assumption) ?_)) | walk1 | (dsimp only; walk1) | (leave1; walk_say "STEP leave1"; try dsimp only) | fail "no step"))
  refine hret _ _ _ _ _ _ (by assumption) ?_ _ _ (by k_asm) (by k_asm)
  assumption
theorem one_at {w : World} {src th : Addr} {x y : Int} {tx ty : Tok} {n n2 : Nat} {news : Led} {g : Obj → Led} {vs : List Value} {ys : List PySem.Str} (U : UpdF src (listOf #[.int x tx, .int y ty] n) news g) (hm : (th, listOf vs.toArray n2) ∈ news) (hne : th ≠ src) (hvs : StrsAre vs ys) (h1 : 1 ≤ vs.length) (h2 : vs.length ≤ 100) (hx : 0 ≤ x) :
    Ans w 176 2 news [.ref src, .ref th] (fun K => ∀ (y₀ : PySem.Str) (x' y' : Int) (t t1 t2 : Tok), y₀ ∈ ys → 0 ≤ x' → K (.str y₀ t) (g (listOf #[.int x' t1, .int y' t2] n))) :=
  Ans.at' (Post := fun K => ∀ (y₀ : PySem.Str) (x' y' : Int) (t t1 t2 : Tok), y₀ ∈ ys → 0 ≤ x' → K (.str y₀ t) (listOf #[.int x' t1, .int y' t2] n)) (q := (th, listOf vs.toArray n2)) hm hne
    (fun own ho hm' => one_ans w src th x y tx ty n n2 own vs ys hm' ho hvs h1 h2 hx) (fun _ _ h k y₀ x' y' t t1 t2 a b => h _ _ (k y₀ x' y' t t1 t2 a b)) U
end Mine
namespace Mine
open PySem PySem.W PySem.Spec PySem.Calls PyProof.Rows
theorem fits_small {i : Int} (h0 : 0 ≤ i) (h1 : i ≤ 1000) : fitsSsize i = true := by
  unfold fitsSsize
  simp only [Bool.not_eq_true', Bool.or_eq_false_iff, decide_eq_false_iff_not]
  omega
/-- the attributes of a Pending -/
abbrev pend (w : World) (k1 k2 k3 : Tok) (x : PySem.Str) (tx : Tok) (nm : Value) (a : Int) (ta : Tok) : List DictEntry :=
  [{ hash := PyData.keyHash w.params (Str.ofString "text"), key := .str (Str.ofString "text") k1, val := .str x tx },
   { hash := PyData.keyHash w.params (Str.ofString "name"), key := .str (Str.ofString "name") k2, val := nm },
   { hash := PyData.keyHash w.params (Str.ofString "at"), key := .str (Str.ofString "at") k3, val := .int a ta }]
/-- e is the first place from a on whose sign is among the marks, or the end -/
def RunTo (x mk : PySem.Str) (a e : Int) : Prop := a ≤ e ∧ e ≤ x.length ∧ (∀ i, a ≤ i → i < e → Txt.contains mk (Txt.item x i) = false) ∧ (e < x.length → Txt.contains mk (Txt.item x e) = true)
theorem RunTo.unique {x mk : PySem.Str} {a e e' : Int} (h : RunTo x mk a e) (h' : RunTo x mk a e') : e = e' := by
  obtain ⟨h1, h2, h3, h4⟩ := h
  obtain ⟨k1, k2, k3, k4⟩ := h'
  rcases Int.lt_trichotomy e e' with q | q | q
  · have := h4 (by omega); rw [k3 e h1 q] at this; cases this
  · exact q
  · have := k4 (by omega); rw [h3 e' k1 q] at this; cases this
theorem run_ans : ∀ (w : World) (p d : Addr) (k1 k2 k3 : Tok) (x : PySem.Str) (tx : Tok) (nm : Value) (a : Int) (ta : Tok) (own : Led) (mk : PySem.Str) (tm : Tok), @LT.lt Nat _ d p → OwnOff own [p, d] → x.length ≤ 200 → 0 ≤ a → a ≤ x.length →
    Ans w 141 1 ((p, instObj 151 d) :: (d, dictOf (pend w k1 k2 k3 x tx nm a ta) 3) :: own) [.ref p, .str mk tm] (fun K => ∀ (e : Int) (t t' : Tok), RunTo x mk a e → K (.str (Txt.slice x (some a) (some e)) t) ((p, instObj 151 d) :: (d, dictOf (pend w k1 k2 k3 x tx nm e t') 3) :: own)) := by
  intro w p d k1 k2 k3 x tx nm a₀ ta own mk tm hpd hoff hlen ha0 ha1
  unfold Ans
  k_fill
  intro mean mg mb dp un gd cn cs a ccd cl outer A₀ base h₀ L m s Q E B F X N T hk hd hu hret
  refine wpAny_call ?_
  k_dflt cell_enter
  iterate 8 (first | (k_unfold; (try dsimp only)) | walk1 | (dsimp only; walk1))
  rename News _ _ _ _ => N1
  rename Fr _ _ _ _ => F1
  with_unfolding_all refine ksw_while (fun c : Int × Tok => (p, instObj 151 d) :: (d, dictOf (pend w k1 k2 k3 x tx nm c.1 c.2) 3) :: own) (fun _ => []) (fun _ => True) [] (fun c => a₀ ≤ c.1 ∧ c.1 ≤ x.length ∧ ∀ i, a₀ ≤ i → i < c.1 → Txt.contains mk (Txt.item x i) = false) (fun c => (x.length - c.1).toNat) (a₀, ta) F1 N1 True.intro (List.forall_mem_nil _) ⟨Int.le_refl _, ha1, fun i h1 h2 => absurd h2 (by omega)⟩ ?turn
  clear F1 N1
  rintro ⟨a, tA⟩ u hH hT _ ⟨hp1, hp2, hp3⟩ kF kN
  dsimp only at hp1 hp2 hp3 kN
  try k_fold
  (repeat' (first | (k_unfold; (try dsimp only)) | (k_end; wrow_close) | ((with_reducible show wpAny _ _ (subscriptTail _ _ (Value.str _ _) (Value.int _ _)) _ _ _); k_dflt (refine' item_str ?r ?a ?b ?_; (case r => exact fits_small (by omega) (by omega)); (case a => omega); (case b => omega)); (intro lItem)) | walk1 | (dsimp only; walk1) | (leave1; walk_say "STEP leave1"; try dsimp only) | fail "no step"))
  · rename_i hlt hnot _ _ _ _
    refine ksw_end (a + 1, _) (by assumption) (by assumption) (fun q hq => hq) True.intro (List.forall_mem_nil _) (fun z _ _ => rfl) ⟨by omega, by omega, ?_⟩ ?_
    · intro i h1 h2
      by_cases hi : i = a
      · subst hi; unfold Txt.contains; simp_all
      · exact hp3 i h1 (by omega)
    · show (x.length - (a + 1)).toNat < (x.length - a).toNat
      omega
  · refine hret _ _ _ ⟨hp1, hp2, hp3, fun _ => ?_⟩ _ _ (by k_asm) (by k_asm)
    unfold Txt.contains; simp_all
  · refine hret _ _ _ ⟨hp1, hp2, hp3, fun q => absurd q (by assumption)⟩ _ _ (by k_asm) (by k_asm)
end Mine
namespace Mine
open PySem PySem.W PySem.Spec PySem.Calls PyProof.Rows
theorem item_first {prog : Program} {w : World} {A : Around} {E : Value → Shared → Prop} {s : Shared} {h₀ : Heap} {L : Addr} {news : Led} {value slice : PySem.Expr} {l : Addr} {vs : List Value} {ns : List Int} {u : Tok} {Q : Value → Shared → Prop}
    (N : News h₀ L s.heap news) (hm : (l, LCg.lst vs) ∈ news) (hi : IntsAre vs ns) (hne : decide (ns = []) = false) (h : ∀ e r t, ns = e :: r → Q (.int e t) s)
    (hs : subscripted slice false (.ref l) (.int 0 u) = operate [.ref l, .int 0 u] (getItem (.ref l) (.int 0 u)) := by with_unfolding_all rfl) :
    wpAny (model prog w) A (subscriptTail value slice (.ref l) (.int 0 u)) Q E s := by
  have hl : s.heap.IsList l vs.toArray := ⟨_, (N _ hm).1, rfl, _, rfl⟩
  cases hi with
  | nil => exact absurd (of_decide_eq_false hne) (fun q => q rfl)
  | cons e t r => exact tail_any hl.typeIs slot_list_getitem.lookup (wpAny_getItem_list hl (by decide) (by decide) (by simp) (h _ _ t rfl)) hs
theorem fold_filter (p : Int → Bool) : ∀ (ks acc : List Int), ks.foldl (fun l k => if p k = true then l ++ [k] else l) acc = acc ++ ks.filter p
  | [], acc => by simp
  | k :: r, acc => by
    rw [List.foldl_cons, fold_filter p r, List.filter_cons]
    cases p k <;> simp
theorem filter_first (p : Int → Bool) : ∀ (n : Nat) (a : Int), (∀ i, a ≤ i → i < a + n → p i = false) ∧ (rangeKs a n).filter p = [] ∨
    ∃ e r, (rangeKs a n).filter p = e :: r ∧ a ≤ e ∧ e < a + n ∧ (∀ i, a ≤ i → i < e → p i = false) ∧ p e = true
  | 0, a => .inl ⟨fun i h1 h2 => absurd h2 (by omega), rfl⟩
  | n + 1, a => by
    rw [kll_cons, List.filter_cons]
    cases hp : p a with
    | true => exact .inr ⟨a, _, rfl, by omega, by omega, fun i h1 h2 => absurd h2 (by omega), hp⟩
    | false =>
      simp only [Bool.false_eq_true, if_false]
      rcases filter_first p n (a + 1) with ⟨h1, h2⟩ | ⟨e, r, h1, h2, h3, h4, h5⟩
      · refine .inl ⟨fun i k1 k2 => ?_, h2⟩
        by_cases q : i = a
        · rw [q]; exact hp
        · exact h1 i (by omega) (by omega)
      · refine .inr ⟨e, r, h1, by omega, by omega, fun i k1 k2 => ?_, h5⟩
        by_cases q : i = a
        · rw [q]; exact hp
        · exact h4 i (by omega) k2
abbrev marked (x mk : PySem.Str) (a : Int) : List Int := (rangeKs a (x.length - a).toNat).foldl (fun l k => if Txt.contains mk (Txt.item x k) = true then l ++ [k] else l) []
theorem marked_eq (x mk : PySem.Str) (a : Int) : marked x mk a = (rangeKs a (x.length - a).toNat).filter fun k => Txt.contains mk (Txt.item x k) :=
  fold_filter (fun k => Txt.contains mk (Txt.item x k)) (rangeKs a (x.length - a).toNat) []
theorem run_none {x mk : PySem.Str} {a : Int} (h : a ≤ x.length) (e : decide (marked x mk a = []) = true) : RunTo x mk a x.length := by
  have e := of_decide_eq_true e
  rw [marked_eq] at e
  rcases filter_first (fun k => Txt.contains mk (Txt.item x k)) (x.length - a).toNat a with ⟨h1, _⟩ | ⟨e', r, h1, _⟩
  · exact ⟨h, Int.le_refl _, fun i k1 k2 => h1 i k1 (by omega), fun q => absurd q (by omega)⟩
  · rw [e] at h1; cases h1
theorem run_some {x mk : PySem.Str} {a e : Int} {r : List Int} (h : a ≤ x.length) (q : marked x mk a = e :: r) : RunTo x mk a e := by
  rw [marked_eq] at q
  rcases filter_first (fun k => Txt.contains mk (Txt.item x k)) (x.length - a).toNat a with ⟨_, h1⟩ | ⟨e', r', h1, h2, h3, h4, h5⟩
  · rw [q] at h1; cases h1
  · rw [q] at h1; cases h1
    exact ⟨h2, by omega, h4, fun _ => h5⟩
theorem lrun_ans : ∀ (w : World) (x : PySem.Str) (tx : Tok) (a : Int) (ta : Tok) (news : Led) (mk : PySem.Str) (tm : Tok), x.length ≤ 200 → 0 ≤ a → a ≤ x.length →
    Ans w 181 12 news [.str x tx, .int a ta, .str mk tm] (fun K => ∀ (e : Int) (t : Tok), RunTo x mk a e → K (.int e t) news) := by
  intro w x tx a₀ ta news mk tm hlen ha0 ha1
  unfold Ans
  k_fill
  intro mean mg mb dp un gd cn cs a ccd cl outer A₀ base h₀ L m s Q E B F X N T hk hd hu hret
  refine wpAny_call ?_
  k_dflt (refine' code_defC ?k1 ?k2 ?k3 ?k4 ?k5 ?kA ?kF ?kK ?k6 ?k7 ?k8 ?k9 ?kB ?kD ?_ ?c2 ?c3 ?c4; (case kA => exact rfl); (case kF => exact rfl); (case kK => assumption); (case k1 => k_asm); (case k2 => k_asm); (case k3 => k_asm); (case k4 => k_asm); (case k5 => k_asm); (case k6 => k_is); (case k7 => k_is); (case k8 => k_room); (case k9 => first | exact BindsTo.of_eq rfl | exact binds_K (by k_in) rfl (by k_is) rfl rfl rfl | fail "k_enter: no rule for these arguments"); (case kB => exact rfl); (case kD => decide +kernel); (case c2 => exact rfl); (case c3 => exact rfl); (case c4 => exact rfl); k_whole; intro g' L' h' tk' cells' FG' F' N' Y' B' X' T' l1; k_cells Y'; (try simp only [List.cons_append, List.nil_append] at N'); (try dsimp only); (try k_lift B'); (try k_fold))
  iterate 1 (first | (k_unfold; (try dsimp only)) | walk1 | (dsimp only; walk1))
  k_dflt (refine LCt.Assign_ListComp_T (F₀ := by k_asm) (by rfl) (by with_unfolding_all rfl) (by with_unfolding_all rfl) (by decide) (by rfl) (by decide) (by rfl) (by rfl) (by rfl) ?_)
  iterate 15 (first | walk1 | (dsimp only; walk1))
  k_dflt (refine LCt.CompSrcT.range (by rfl) (by k_asm) (by k_asm) (by assumption) (small_one (by omega) (by omega) (by omega) (by omega)) (rangeSize_nat _ _) (by rw [PySem.sizeLine_eq]; omega) ?_)
  intro g2
  k_dflt (refine' kci_range (fun l k => if Txt.contains mk (Txt.item x k) = true then l ++ [k] else l) (fun k' t' I' oI' C' oC' D' m' ys' l' hh' tk' E' hlo' hhi' hI' hC' hx' F' N' off' ne' => ?_) ?_ ?_)
  all_goals (try (have off2 := off'))
  all_goals (try (simp only [LCg.Off3, and_true] at off'))
  all_goals (try ((show KPfMark → _); intro hMark'))
  · have hk2 : k' < x.length := by omega
    (repeat' (first | (k_unfold; (try dsimp only)) | (k_end; wrow_close) | ((with_reducible show wpAny _ _ (subscriptTail _ _ (Value.ref _) (Value.int 0 _)) _ _ _); k_dflt (refine' item_first ?N ?m ?i ?n ?_; (case N => k_asm); (case m => k_mem); (case i => with_reducible assumption); (case n => with_reducible assumption)); (intro e' r' t' he')) | ((with_reducible show wpAny _ _ (subscriptTail _ _ (Value.str _ _) (Value.int _ _)) _ _ _); k_dflt (refine' item_str ?r ?a ?b ?_; (case r => exact fits_small (by omega) (by omega)); (case a => omega); (case b => omega)); (intro lItem)) | walk1 | (dsimp only; walk1) | (leave1; walk_say "STEP leave1"; try dsimp only) | fail "no step"))
    · refine LCg.CompEnd.intro (by assumption) (by assumption) (_ :: _ :: news) (fun p hp => hp) off2 trivial (kci_no ?_ rfl)
      rw [if_neg (by unfold Txt.contains; simp_all)]
    · refine LCg.CompEnd.intro (by assumption) (by assumption) (_ :: _ :: news) (fun p hp => hp) off2 trivial (kci_el ?_ rfl rfl)
      rw [if_pos (by unfold Txt.contains; simp_all)]
  · show (∀ ys, _)
    intro ys hys hlen2
    (repeat' (first | (k_unfold; (try dsimp only)) | (k_end; wrow_close) | ((with_reducible show wpAny _ _ (subscriptTail _ _ (Value.ref _) (Value.int 0 _)) _ _ _); k_dflt (refine' item_first ?N ?m ?i ?n ?_; (case N => k_asm); (case m => k_mem); (case i => with_reducible assumption); (case n => with_reducible assumption)); (intro e' r' t' he')) | ((with_reducible show wpAny _ _ (subscriptTail _ _ (Value.str _ _) (Value.int _ _)) _ _ _); k_dflt (refine' item_str ?r ?a ?b ?_; (case r => exact fits_small (by omega) (by omega)); (case a => omega); (case b => omega)); (intro lItem)) | walk1 | (dsimp only; walk1) | (leave1; walk_say "STEP leave1"; try dsimp only) | fail "no step"))
    · refine hret _ _ (run_none ha1 (by assumption)) _ _ (by k_asm) (KStt.news_of (by assumption) (by intro p hp; kst_mem))
    · refine hret _ _ (run_some ha1 (by assumption)) _ _ (by k_asm) (KStt.news_of (by assumption) (by intro p hp; kst_mem))
  · intro l k
    dsimp only
    split <;> simp
end Mine
namespace Mine
open PySem PySem.W PySem.Spec PySem.Calls PyProof.Rows
/-- the source is a text of low signs -/
def SignSrc (prog : Program) (w : World) (A : Around) (h₀ : Heap) (L : Addr) (m : PySem.Str → Option Value) (env : Env) (ct elt : PySem.Expr) (x : PySem.Str) (scope : Scope) (cl : List (PySem.Str × Addr)) (Fin : Shared → List Value → Led → Prop) (xv : Value) (s₁ : Shared) : Prop :=
  ∃ xt tx news, xv = .str xt tx ∧ A.handled = none ∧ xt.cps.all (· < 128) = true ∧ Fr h₀ L s₁.heap m ∧ News h₀ L s₁.heap news ∧ xt.cps.size ≤ sizeLine ∧
    ∀ g, LCt.CompRestT prog w A h₀ L m env ct elt x scope cl { s₁ with heap := g } (fun _ => True) (SignAt xt) (Fin { s₁ with heap := g }) xt.cps.size 0 [] news
/-- what a turn makes -/
def SgEl (news : Led) (p : Nat → Bool) (c : Nat) (y : Value) (news' : Led) : Prop := news' = news ∧ p c = true ∧ ∃ t, y = .str ⟨#[c]⟩ t
def SgNo (news : Led) (p : Nat → Bool) (c : Nat) (news' : Led) : Prop := news' = news ∧ p c = false
section
variable {prog : Program} {w : World} {A : Around} {E : Value → Shared → Prop} {s : Shared} {h₀ : Heap} {L : Addr} {m : PySem.Str → Option Value} {env : Env}
/-- what the scope of such a comprehension shows: no cells, x its own -/
structure SignScope (scope : Scope) (env : Env) (cl : List (PySem.Str × Addr)) (x : PySem.Str) : Prop where
  closes : closureFor scope env = pure cl
  plain : ∀ z ∈ scope.names, z.2 ≠ .cell
  kind : scope.kind = .function
  found : ∀ z ∈ scope.names, z.2 = .local → scope.names.lookup z.1 = some .local
  mine : scope.names.lookup x = some .local
/-- y = [elt for x in iter if ct], where iter is a text of low signs -/
theorem assign_signs {ct elt iter : PySem.Expr} {x y : PySem.Str} {px py : Pos} {scope : Scope} {cl : List (PySem.Str × Addr)} {pos spos : Pos} {Q : Flow → Shared → Prop} (_F₀ : Fr h₀ L s.heap m) (S : SignScope scope env cl x) (own : env.locals = L)
    (used : swapsWith (.ListComp elt [⟨.Name x px, iter, [ct], 0⟩] scope pos) (some (.Name y py)) spos.line env = pure true) (hy : env.kindOf y = some .local) (hp : (env.scope.kind == .class || (env.scope.kind == .module && env.locals != env.globals)) = false)
    (h : wpAny (model prog w) A (eval iter env) (SignSrc prog w A h₀ L m env ct elt x scope cl (fun s₂ => LCg.FinA h₀ L m s₂ y Q)) E s) (hs : ∀ x, foldedSetIterable iter env x = pure x := by intro _; rfl) :
    wpAny (model prog w) A (exec (.Assign [.Name y py] (.ListComp elt [⟨.Name x px, iter, [ct], 0⟩] scope pos) spos) env) Q E s := by
  subst own
  rw [exec_Assign_Name_used _ _ _ _ used]
  refine wpAny_bind (wpAny_standAt (wpAny_bind (wpAny_bind (wpAny_mono (wpAny_comprehension_free (use := some (assign (.Name y py) env)) (Q := fun _ => Q .next) rfl hs S.closes S.kind S.found (wpAny_mono h (fun v s₁ z => ?_) fun _ _ z => z))
    (fun _ _ z => wpAny_pure (wpAny_pure z)) fun _ _ z => z))))
  obtain ⟨xt, tx, news, rfl, hh, low, F, N, few, turns⟩ := z
  have still : ∀ (i : Nat) (h h' : Heap) (o : Obj) (nw : Led), h.IsStrIter s₁.heap.objs.size "str_ascii_iterator" xt tx i → h.get? s₁.heap.objs.size = some o → h'.get? s₁.heap.objs.size = some o → (∀ b o, h₀.get? b = some o → h'.get? b = some o) → News h₀ env.locals h' nw → True →
      h'.IsStrIter s₁.heap.objs.size "str_ascii_iterator" xt tx i := fun _ _ _ _ _ ⟨o, i₁, r⟩ i₂ i₃ _ _ _ => ⟨o, i₃.trans (i₂.symm.trans i₁), r⟩
  refine wpAny_pyIter_ascii low (LCt.block_T (iter := iter) (px := px) (Walks.strAscii hh _ xt tx) few (fun _ _ z => ⟨_, z.choose_spec.1⟩) still S.plain S.kind S.mine ⟨_, Heap.get?_push_size _ rfl, rfl, rfl⟩ (by simp [Heap.size_push]) (F.push _)
    (N.grown fun _ _ z => Heap.get?_push_of_some _ z) (Nat.ne_of_lt F.ns.lt) (next_is_new F) (fun q hq => Nat.ne_of_lt (Heap.lt_size (N q hq).1)) trivial (turns _) ?_)
  intro D C h' tk m' ys news' F' N' one ns new _ apart _ hDC off fin
  have clear : ∀ q ∈ (D, LCg.lst ys) :: news', q.1 ≠ C := List.forall_mem_cons.mpr ⟨Ne.symm hDC, off⟩
  exact wpAny_assign_Name (wpAny_storeName_local hy F'.ns (fun h₂ ns₂ but₂ => ⟨m', ns.sameBut but₂ apart, fun h₃ but₃ => fin D h₃ _ ((F'.set ns₂ but₂).change but₃ apart new) (fun q hq => have z := N'.set but₂ q hq; ⟨(but₃.2 _ (clear q hq)).trans z.1, z.2⟩) one⟩) hp)
theorem SignSrc.mk {ct elt : PySem.Expr} {x : PySem.Str} {scope : Scope} {cl : List (PySem.Str × Addr)} {Fin : Shared → List Value → Led → Prop} {xt : PySem.Str} {tx : Tok} {news : Led} {s₁ : Shared} (hh : A.handled = none) (F : Fr h₀ L s₁.heap m) (N : News h₀ L s₁.heap news) (ha : xt.cps.all (· < 128) = true) (hsz : xt.cps.size ≤ sizeLine)
    (R : ∀ g, LCt.CompRestT prog w A h₀ L m env ct elt x scope cl { s₁ with heap := g } (fun _ => True) (SignAt xt) (Fin { s₁ with heap := g }) xt.cps.size 0 [] news) : SignSrc prog w A h₀ L m env ct elt x scope cl Fin (.str xt tx) s₁ :=
  ⟨xt, tx, news, rfl, hh, ha, F, N, hsz, R⟩
theorem end_mono {s₁ s₂ : Shared} {I C D : Addr} {oI oC oD : Obj} {S : Led → Prop} {rest rest' : Value → Led → Prop} {y : Value} (z : LCg.CompEnd h₀ L m s₁ I oI C oC D oD S rest y s₂) (k : ∀ nw, rest y nw → rest' y nw) : LCg.CompEnd h₀ L m s₁ I oI C oC D oD S rest' y s₂ := by
  obtain ⟨h', tk', nw, z₁, z₂, z₃, z₄, z₅, z₆⟩ := z
  exact ⟨h', tk', nw, z₁, z₂, z₃, z₄, z₅, k nw z₆⟩
theorem signs_rest {ct elt : PySem.Expr} {x : PySem.Str} {scope : Scope} {cl : List (PySem.Str × Addr)} {S : Led → Prop} {Fin : List Value → Led → Prop} {xt : PySem.Str} {news : Led} (p : Nat → Bool)
    (turn : ∀ c u I oI C oC D m₂ ys h tk (E' : Value → Shared → Prop), c ∈ xt.cps.toList → LCg.NsObj oC m₂ → m₂ x = some (.str ⟨#[c]⟩ u) → Fr h₀ L h m → News h₀ L h ((I, oI) :: (C, oC) :: (D, LCg.lst ys) :: news) → LCg.Off3 I C D news → ((@Ne Nat I C) ∧ (@Ne Nat I D) ∧ (@Ne Nat C D)) →
      wpAny (model prog w) A (isTrue ct (compEnvC scope cl C env) (eval ct (compEnvC scope cl C env))) (fun b s' => if b = true then wpAny (model prog w) A (eval elt (compEnvC scope cl C env)) (LCg.CompEnd h₀ L m { s with heap := h, toks := tk } I oI C oC D (LCg.lst ys) S (fun y news' => SgEl news p c y news')) E' s'
        else LCg.CompEnd h₀ L m { s with heap := h, toks := tk } I oI C oC D (LCg.lst ys) S (fun _ news' => SgNo news p c news') Value.none s') E' { s with heap := h, toks := tk })
    (fin : ∀ ys, StrsAre ys ((xt.cps.toList.filter p).map fun c => ⟨#[c]⟩) → Fin ys news) : LCt.CompRestT prog w A h₀ L m env ct elt x scope cl s S (SignAt xt) Fin xt.cps.size 0 [] news := by
  have go : ∀ (r d : List Nat) (ys : List Value), d ++ r = xt.cps.toList → StrsAre ys ((d.filter p).map fun c => ⟨#[c]⟩) → LCt.CompRestT prog w A h₀ L m env ct elt x scope cl s S (SignAt xt) Fin r.length d.length ys news := by
    intro r
    induction r with
    | nil => intro d ys e hy; exact .zero (fin ys (by rwa [← e, List.append_nil]))
    | cons c r ih =>
      intro d ys e hy
      have more : ∀ ys', StrsAre ys' (((d ++ [c]).filter p).map fun c => ⟨#[c]⟩) → LCt.CompRestT prog w A h₀ L m env ct elt x scope cl s S (SignAt xt) Fin r.length (d.length + 1) ys' news :=
        fun ys' q => by simpa using ih (d ++ [c]) ys' (by simpa using e) q
      have here : xt.cps[d.length]? = some c := by rw [← Array.getElem?_toList, ← e]; simp
      refine .succ fun v I oI C oC D m₂ h tk E' hv hC hx F N off ne => ?_
      obtain ⟨c', u, hc', rfl⟩ := hv
      obtain rfl : c = c' := Option.some.inj (here.symm.trans hc')
      refine wpAny_mono (turn c u I oI C oC D m₂ ys h tk E' (by rw [← e]; simp) hC hx F N off ne) (fun b s₂ z => ?_) fun _ _ z => z
      cases b
      · rw [if_neg Bool.false_ne_true] at z ⊢
        exact end_mono z fun nw ⟨q, no⟩ => q ▸ more _ (by simpa [no] using hy)
      · rw [if_pos rfl] at z ⊢
        refine wpAny_mono z (fun y s₃ z => end_mono z fun nw ⟨q, yes, t, made⟩ => q ▸ more _ ?_) fun _ _ z => z
        rw [made]
        simpa [yes] using StrsAre.append' hy (.cons ⟨#[c]⟩ t .nil)
  simpa using go xt.cps.toList [] [] rfl .nil
open PySem.SeqAt
theorem lays_strs {ns : List PySem.Str} (ok : ∀ y ∈ ns, PyData.strOk y = true) : PyData.canLayAll0 (ns.map PyData.str) = true := by
  induction ns with
  | nil => rfl
  | cons y r ih => simp_all [PyData.canLayAll0, PyData.canLay0]
theorem shaped_strs (ns : List PySem.Str) (ok : ∀ y ∈ ns, PyData.strOk y = true) : shaped (.list (ns.map PyData.str)) = true := by
  simp [shaped, PyData.canLay0, PyData.depth, depthAll_strs', lays_strs ok]
/-- a list of texts held against the empty list -/
theorem eq_strs_nil {news : Led} {a b : Addr} {vs : List Value} {ss : List PySem.Str} {n : Nat} {Q : Value → Shared → Prop} (N : News h₀ L s.heap news) (ha : (a, LCg.lst vs) ∈ news) (hb : (b, listOf #[] n) ∈ news) (hi : StrsAre vs ss) (hok : ∀ y ∈ ss, PyData.strOk y = true) (hu : A.units + 64 < cLine)
    (h : Q (.bool (decide (ss = []))) s) : wpAny (model prog w) A (compareOp .Eq (.ref a) (.ref b)) Q E s := by
  have hl' : s.heap.IsList b ([] : List Value).toArray := ⟨_, (N _ hb).1, rfl, _, rfl⟩
  refine eq_dataH_same (Reads.list (N _ ha).1 rfl rfl (by simpa using hi.reads s.heap)) (reads_of_ints hl' .nil) (shaped_strs ss hok) (shaped_ints []) hu (by cases ss <;> simp [noMix, noMixAll]) ?_
  cases ss with
  | nil => simpa [PySem.Spec.same, PySem.Spec.sameAll] using h
  | cons c r => simpa [PySem.Spec.same, PySem.Spec.sameAll] using h
end
end Mine
namespace Mine
open PySem PySem.W PySem.Spec PySem.Calls PyProof.Rows
/-- the law's word for a sign that is no letter of its names -/
def other (c : Nat) : Bool := (Builtin.Str.occurrences (Str.ofString "abx1") ⟨#[c]⟩ 0 (Str.ofString "abx1").length 1).isEmpty
theorem line_small {n : Nat} (h : n ≤ 200) : n ≤ sizeLine := by rw [sizeLine_eq]; omega
abbrev semis (x : PySem.Str) (a : Int) : List Int := (rangeKs a (x.length - a).toNat).foldl (fun l k => if (Txt.item x k == Str.ofString ";") = true then l ++ [k] else l) []
/-- e is the first place from a on that holds a semicolon -/
def SemiAt (x : PySem.Str) (a e : Int) : Prop := a ≤ e ∧ e < x.length ∧ (∀ i, a ≤ i → i < e → (Txt.item x i == Str.ofString ";") = false) ∧ (Txt.item x e == Str.ofString ";") = true
def NoSemi (x : PySem.Str) (a : Int) : Prop := ∀ i, a ≤ i → i < x.length → (Txt.item x i == Str.ofString ";") = false
theorem semis_eq (x : PySem.Str) (a : Int) : semis x a = (rangeKs a (x.length - a).toNat).filter fun k => Txt.item x k == Str.ofString ";" :=
  fold_filter (fun k => Txt.item x k == Str.ofString ";") (rangeKs a (x.length - a).toNat) []
theorem semi_none {x : PySem.Str} {a : Int} (h : a ≤ x.length) (e : decide (semis x a = []) = true) : NoSemi x a := by
  have e := of_decide_eq_true e
  rw [semis_eq] at e
  rcases filter_first (fun k => Txt.item x k == Str.ofString ";") (x.length - a).toNat a with ⟨h1, _⟩ | ⟨e', r, h1, _⟩
  · exact fun i k1 k2 => h1 i k1 (by omega)
  · rw [e] at h1; cases h1
theorem semi_some {x : PySem.Str} {a e : Int} {r : List Int} (h : a ≤ x.length) (q : semis x a = e :: r) : SemiAt x a e := by
  rw [semis_eq] at q
  rcases filter_first (fun k => Txt.item x k == Str.ofString ";") (x.length - a).toNat a with ⟨_, h1⟩ | ⟨e', r', h1, h2, h3, h4, h5⟩
  · rw [q] at h1; cases h1
  · rw [q] at h1; cases h1
    exact ⟨h2, by omega, h4, h5⟩
theorem run_pos {x : PySem.Str} {a e : Int} {r : List Int} (h : 0 ≤ a ∧ a ≤ x.length) (q : semis x a = e :: r) : 0 ≤ e := by
  have := (semi_some h.2 q).1
  omega
theorem signs_ok {x : PySem.Str} {p : Nat → Bool} (h : Plain x) : ∀ y ∈ (x.cps.toList.filter p).map (fun c => (⟨#[c]⟩ : PySem.Str)), PyData.strOk y = true := by
  intro y hy
  obtain ⟨c, hc, rfl⟩ := List.mem_map.mp hy
  have := h c (List.mem_filter.mp hc).1
  simp only [signs, List.mem_cons, List.not_mem_nil, or_false] at this
  rcases this with rfl | rfl | rfl | rfl | rfl | rfl | rfl | rfl | rfl | rfl | rfl <;> decide +kernel
theorem plain_empty : Plain (Str.ofString "") := by
  rw [empty_is]; intro c hc; simp at hc
abbrev wordAt (x : PySem.Str) (a e : Int) : PySem.Str := Txt.slice x (some (a + 1)) (some e)
def hashed (y : PySem.Str) : Bool := Txt.slice y none (some 1) == Str.ofString "#"
/-- the law's own word for a name -/
def lawName (y : PySem.Str) : Bool := (y != Str.ofString "") && ((Txt.item y 0 != Str.ofString "1") && (y.cps.toList.filter other).isEmpty)
def LawWord (x : PySem.Str) (a : Int) (v : Value) : Prop := (NoSemi x a ∧ v = .none) ∨ ∃ e, SemiAt x a e ∧ ((hashed (wordAt x a e) || lawName (wordAt x a e)) = true ∧ (∃ t, v = .str (wordAt x a e) t) ∨ (hashed (wordAt x a e) || lawName (wordAt x a e)) = false ∧ v = .none)
section
variable {x : PySem.Str} {a e : Int} {r : List Int} {t : Tok}
theorem lw_no (h : a ≤ x.length) (q : decide (semis x a = []) = true) : LawWord x a .none := .inl ⟨semi_none h q, rfl⟩
theorem lw_hash (h : a ≤ x.length) (q : semis x a = e :: r) (k : (Txt.slice (wordAt x a e) none (some 1) == Str.ofString "#") = true) : LawWord x a (.str (wordAt x a e) t) :=
  .inr ⟨e, semi_some h q, .inl ⟨by unfold hashed; rw [k]; rfl, t, rfl⟩⟩
theorem lw_name (h : a ≤ x.length) (q : semis x a = e :: r) (k2 : (wordAt x a e != Str.ofString "") = true) (k3 : (Txt.item (wordAt x a e) 0 != Str.ofString "1") = true)
    (k4 : ((wordAt x a e).cps.toList.filter other).map (fun c => (⟨#[c]⟩ : PySem.Str)) = []) : LawWord x a (.str (wordAt x a e) t) :=
  .inr ⟨e, semi_some h q, .inl ⟨by unfold lawName; rw [k2, k3, List.map_eq_nil_iff.mp k4]; simp, t, rfl⟩⟩
theorem lw_not (h : a ≤ x.length) (q : semis x a = e :: r) (k : (Txt.slice (wordAt x a e) none (some 1) == Str.ofString "#") = false)
    (k4 : (wordAt x a e != Str.ofString "") = false ∨ (Txt.item (wordAt x a e) 0 != Str.ofString "1") = false ∨ ¬ ((wordAt x a e).cps.toList.filter other).map (fun c => (⟨#[c]⟩ : PySem.Str)) = []) : LawWord x a .none := by
  refine .inr ⟨e, semi_some h q, .inr ⟨?_, rfl⟩⟩
  unfold hashed lawName
  rw [k]
  rcases k4 with k4 | k4 | k4
  · rw [k4]; rfl
  · rw [k4]; simp
  · have : ((wordAt x a e).cps.toList.filter other).isEmpty = false := by
      cases hq : (wordAt x a e).cps.toList.filter other with
      | nil => rw [hq] at k4; exact absurd rfl k4
      | cons => rfl
    rw [this]; simp
end
theorem lword_ans : ∀ (w : World) (x : PySem.Str) (tx : Tok) (a : Int) (ta : Tok) (news : Led), Plain x → x.length ≤ 200 → 0 ≤ a → a ≤ x.length →
    Ans w 186 12 news [.str x tx, .int a ta] (fun K => ∀ v, LawWord x a v → K v news) := by
  intro w x tx a₀ ta news hpl hlen ha0 ha1
  unfold Ans
  k_fill
  intro mean mg mb dp un gd cn cs a ccd cl outer A₀ base h₀ L m s Q E B F X N T hk hd hu hret
  refine wpAny_call ?_
  k_dflt (refine' code_defC ?k1 ?k2 ?k3 ?k4 ?k5 ?kA ?kF ?kK ?k6 ?k7 ?k8 ?k9 ?kB ?kD ?_ ?c2 ?c3 ?c4; (case kA => exact rfl); (case kF => exact rfl); (case kK => assumption); (case k1 => k_asm); (case k2 => k_asm); (case k3 => k_asm); (case k4 => k_asm); (case k5 => k_asm); (case k6 => k_is); (case k7 => k_is); (case k8 => k_room); (case k9 => first | exact BindsTo.of_eq rfl | exact binds_K (by k_in) rfl (by k_is) rfl rfl rfl | fail "k_enter: no rule for these arguments"); (case kB => exact rfl); (case kD => decide +kernel); (case c2 => exact rfl); (case c3 => exact rfl); (case c4 => exact rfl); k_whole; intro g' L' h' tk' cells' FG' F' N' Y' B' X' T' l1; k_cells Y'; (try simp only [List.cons_append, List.nil_append] at N'); (try dsimp only); (try k_lift B'); (try k_fold))
  iterate 1 (first | (k_unfold; (try dsimp only)) | walk1 | (dsimp only; walk1))
  k_dflt (refine LCt.Assign_ListComp_T (F₀ := by k_asm) (by rfl) (by with_unfolding_all rfl) (by with_unfolding_all rfl) (by decide) (by rfl) (by decide) (by rfl) (by rfl) (by rfl) ?_)
  iterate 15 (first | walk1 | (dsimp only; walk1))
  k_dflt (refine LCt.CompSrcT.range (by rfl) (by k_asm) (by k_asm) (by assumption) (small_one (by omega) (by omega) (by omega) (by omega)) (rangeSize_nat _ _) (by rw [PySem.sizeLine_eq]; omega) ?_)
  intro g2
  k_dflt (refine' kci_range (fun l k => if (Txt.item x k == Str.ofString ";") = true then l ++ [k] else l) (fun k' t' I' oI' C' oC' D' m' ys' l' hh' tk' E' hlo' hhi' hI' hC' hx' F' N' off' ne' => ?_) ?_ ?_)
  all_goals (try (have off2 := off'))
  all_goals (try (simp only [LCg.Off3, and_true] at off'))
  all_goals (try ((show KPfMark → _); intro hMark'))
  · have hk2 : k' < x.length := by omega
    (repeat' (first | (k_unfold; (try dsimp only)) | (k_end; wrow_close) | ((with_reducible show wpAny _ _ (compareOp CmpOp.Eq (Value.ref _) (Value.ref _)) _ _ _); (k_here; k_dflt (refine' eq_strs_nil ?N ?a ?b ?i ?k ?u ?_; (case N => k_asm); (case a => k_mem); (case b => k_mem); (case i => with_reducible assumption); (case k => first | exact signs_ok plain_empty | exact signs_ok (slice_plain (by omega) (run_pos ⟨by omega, by assumption⟩ (by assumption)) (by assumption))); (case u => ktr_units)))) | ((with_reducible show wpAny _ _ (exec (Stmt.Assign [_] (PySem.Expr.ListComp _ _ _ _) _) _) _ _ _); (k_here; k_dflt (refine assign_signs (_F₀ := by k_asm) ⟨by with_unfolding_all rfl, by decide, by rfl, by decide, by rfl⟩ (by rfl) (by with_unfolding_all rfl) (by rfl) (by rfl) ?_))) | ((with_reducible show wpAny _ _ (subscriptTail _ _ (Value.ref _) (Value.int 0 _)) _ _ _); k_dflt (refine' item_first ?N ?m ?i ?n ?_; (case N => k_asm); (case m => k_mem); (case i => with_reducible assumption); (case n => with_reducible assumption)); (intro e' r' t' he')) | ((with_reducible show wpAny _ _ (subscriptTail _ _ (Value.str _ _) (Value.int _ _)) _ _ _); k_dflt (refine' item_str ?r ?a ?b ?_; (case r => exact fits_small (by omega) (by omega)); (case a => omega); (case b => omega)); (intro lItem)) | walk1 | (dsimp only; walk1) | (leave1; walk_say "STEP leave1"; try dsimp only) | fail "no step"))
    · refine LCg.CompEnd.intro (by assumption) (by assumption) (_ :: news) (fun p hp => hp) off2 trivial (kci_el ?_ rfl rfl)
      rw [if_pos (by assumption)]
    · refine LCg.CompEnd.intro (by assumption) (by assumption) (_ :: news) (fun p hp => hp) off2 trivial (kci_no ?_ rfl)
      rw [if_neg (by simp_all)]
  · show (∀ ys, _)
    intro ys hys hlen2
    (repeat' (first | (k_unfold; (try dsimp only)) | (k_end; wrow_close) | ((with_reducible show wpAny _ _ (compareOp CmpOp.Eq (Value.ref _) (Value.ref _)) _ _ _); (k_here; k_dflt (refine' eq_strs_nil ?N ?a ?b ?i ?k ?u ?_; (case N => k_asm); (case a => k_mem); (case b => k_mem); (case i => with_reducible assumption); (case k => first | exact signs_ok plain_empty | exact signs_ok (slice_plain (by omega) (run_pos ⟨by omega, by assumption⟩ (by assumption)) (by assumption))); (case u => ktr_units)))) | ((with_reducible show wpAny _ _ (exec (Stmt.Assign [_] (PySem.Expr.ListComp _ _ _ _) _) _) _ _ _); (k_here; k_dflt (refine assign_signs (_F₀ := by k_asm) ⟨by with_unfolding_all rfl, by decide, by rfl, by decide, by rfl⟩ (by rfl) (by with_unfolding_all rfl) (by rfl) (by rfl) ?_))) | ((with_reducible show wpAny _ _ (subscriptTail _ _ (Value.ref _) (Value.int 0 _)) _ _ _); k_dflt (refine' item_first ?N ?m ?i ?n ?_; (case N => k_asm); (case m => k_mem); (case i => with_reducible assumption); (case n => with_reducible assumption)); (intro e' r' t' he')) | ((with_reducible show wpAny _ _ (subscriptTail _ _ (Value.str _ _) (Value.int _ _)) _ _ _); k_dflt (refine' item_str ?r ?a ?b ?_; (case r => exact fits_small (by omega) (by omega)); (case a => omega); (case b => omega)); (intro lItem)) | walk1 | (dsimp only; walk1) | (leave1; walk_say "STEP leave1"; try dsimp only) | fail "no step"))
    · refine SignSrc.mk (by rfl) (by k_asm) (by k_asm) (by decide +kernel) (line_small (by decide +kernel)) ?_
      intro g3
      k_dflt (refine signs_rest other (fun c' u' I' oI' C' oC' D' m' ys' hh' tk' E' hc' hC' hx' F' N' off' ne' => ?_) ?_)
      · exact absurd hc' (by rw [empty_is]; simp)
      · intro ys' hys'
        (repeat' (first | (k_unfold; (try dsimp only)) | (k_end; wrow_close) | ((with_reducible show wpAny _ _ (compareOp CmpOp.Eq (Value.ref _) (Value.ref _)) _ _ _); (k_here; k_dflt (refine' eq_strs_nil ?N ?a ?b ?i ?k ?u ?_; (case N => k_asm); (case a => k_mem); (case b => k_mem); (case i => with_reducible assumption); (case k => first | exact signs_ok plain_empty | exact signs_ok (slice_plain (by omega) (run_pos ⟨by omega, by assumption⟩ (by assumption)) (by assumption))); (case u => ktr_units)))) | ((with_reducible show wpAny _ _ (exec (Stmt.Assign [_] (PySem.Expr.ListComp _ _ _ _) _) _) _ _ _); (k_here; k_dflt (refine assign_signs (_F₀ := by k_asm) ⟨by with_unfolding_all rfl, by decide, by rfl, by decide, by rfl⟩ (by rfl) (by with_unfolding_all rfl) (by rfl) (by rfl) ?_))) | ((with_reducible show wpAny _ _ (subscriptTail _ _ (Value.ref _) (Value.int 0 _)) _ _ _); k_dflt (refine' item_first ?N ?m ?i ?n ?_; (case N => k_asm); (case m => k_mem); (case i => with_reducible assumption); (case n => with_reducible assumption)); (intro e' r' t' he')) | ((with_reducible show wpAny _ _ (subscriptTail _ _ (Value.str _ _) (Value.int _ _)) _ _ _); k_dflt (refine' item_str ?r ?a ?b ?_; (case r => exact fits_small (by omega) (by omega)); (case a => omega); (case b => omega)); (intro lItem)) | walk1 | (dsimp only; walk1) | (leave1; walk_say "STEP leave1"; try dsimp only) | fail "no step"))
        exact hret _ (lw_no ha1 (by with_reducible assumption)) _ _ (by k_asm) (KStt.news_of (by with_reducible assumption) (by intro p hp; kst_mem))
    · exact hret _ (lw_hash ha1 (by with_reducible assumption) (by with_reducible assumption)) _ _ (by k_asm) (KStt.news_of (by with_reducible assumption) (by intro p hp; kst_mem))
    · refine SignSrc.mk (by rfl) (by k_asm) (by k_asm) (plain_low (slice_plain (by omega) (run_pos ⟨by omega, by assumption⟩ (by assumption)) hpl)) (line_small (Nat.le_trans (by assumption) hlen)) ?_
      intro g3
      k_dflt (refine signs_rest other (fun c' u' I' oI' C' oC' D' m' ys' hh' tk' E' hc' hC' hx' F' N' off' ne' => ?_) ?_)
      · have off2 := off'
        simp only [LCg.Off3, and_true] at off'
        (repeat' (first | (k_unfold; (try dsimp only)) | (k_end; wrow_close) | ((with_reducible show wpAny _ _ (compareOp CmpOp.Eq (Value.ref _) (Value.ref _)) _ _ _); (k_here; k_dflt (refine' eq_strs_nil ?N ?a ?b ?i ?k ?u ?_; (case N => k_asm); (case a => k_mem); (case b => k_mem); (case i => with_reducible assumption); (case k => first | exact signs_ok plain_empty | exact signs_ok (slice_plain (by omega) (run_pos ⟨by omega, by assumption⟩ (by assumption)) (by assumption))); (case u => ktr_units)))) | ((with_reducible show wpAny _ _ (exec (Stmt.Assign [_] (PySem.Expr.ListComp _ _ _ _) _) _) _ _ _); (k_here; k_dflt (refine assign_signs (_F₀ := by k_asm) ⟨by with_unfolding_all rfl, by decide, by rfl, by decide, by rfl⟩ (by rfl) (by with_unfolding_all rfl) (by rfl) (by rfl) ?_))) | ((with_reducible show wpAny _ _ (subscriptTail _ _ (Value.ref _) (Value.int 0 _)) _ _ _); k_dflt (refine' item_first ?N ?m ?i ?n ?_; (case N => k_asm); (case m => k_mem); (case i => with_reducible assumption); (case n => with_reducible assumption)); (intro e' r' t' he')) | ((with_reducible show wpAny _ _ (subscriptTail _ _ (Value.str _ _) (Value.int _ _)) _ _ _); k_dflt (refine' item_str ?r ?a ?b ?_; (case r => exact fits_small (by omega) (by omega)); (case a => omega); (case b => omega)); (intro lItem)) | walk1 | (dsimp only; walk1) | (leave1; walk_say "STEP leave1"; try dsimp only) | fail "no step"))
        · refine LCg.CompEnd.intro (by assumption) (by assumption) (_ :: _ :: _ :: news) (fun p hp => hp) off2 trivial ⟨rfl, by assumption, _, rfl⟩
        · refine LCg.CompEnd.intro (by assumption) (by assumption) (_ :: _ :: _ :: news) (fun p hp => hp) off2 trivial ⟨rfl, by assumption⟩
      · intro ys' hys'
        (repeat' (first | (k_unfold; (try dsimp only)) | (k_end; wrow_close) | ((with_reducible show wpAny _ _ (compareOp CmpOp.Eq (Value.ref _) (Value.ref _)) _ _ _); (k_here; k_dflt (refine' eq_strs_nil ?N ?a ?b ?i ?k ?u ?_; (case N => k_asm); (case a => k_mem); (case b => k_mem); (case i => with_reducible assumption); (case k => first | exact signs_ok plain_empty | exact signs_ok (slice_plain (by omega) (run_pos ⟨by omega, by assumption⟩ (by assumption)) (by assumption))); (case u => ktr_units)))) | ((with_reducible show wpAny _ _ (exec (Stmt.Assign [_] (PySem.Expr.ListComp _ _ _ _) _) _) _ _ _); (k_here; k_dflt (refine assign_signs (_F₀ := by k_asm) ⟨by with_unfolding_all rfl, by decide, by rfl, by decide, by rfl⟩ (by rfl) (by with_unfolding_all rfl) (by rfl) (by rfl) ?_))) | ((with_reducible show wpAny _ _ (subscriptTail _ _ (Value.ref _) (Value.int 0 _)) _ _ _); k_dflt (refine' item_first ?N ?m ?i ?n ?_; (case N => k_asm); (case m => k_mem); (case i => with_reducible assumption); (case n => with_reducible assumption)); (intro e' r' t' he')) | ((with_reducible show wpAny _ _ (subscriptTail _ _ (Value.str _ _) (Value.int _ _)) _ _ _); k_dflt (refine' item_str ?r ?a ?b ?_; (case r => exact fits_small (by omega) (by omega)); (case a => omega); (case b => omega)); (intro lItem)) | walk1 | (dsimp only; walk1) | (leave1; walk_say "STEP leave1"; try dsimp only) | fail "no step"))
        · exact hret _ (lw_name ha1 (by with_reducible assumption) (by with_reducible assumption) (by with_reducible assumption) (by with_reducible assumption)) _ _ (by k_asm) (KStt.news_of (by with_reducible assumption) (by intro p hp; kst_mem))
        · exact hret _ (lw_not ha1 (by with_reducible assumption) (by with_reducible assumption) (.inr (.inr (by with_reducible assumption)))) _ _ (by k_asm) (KStt.news_of (by with_reducible assumption) (by intro p hp; kst_mem))
        · exact hret _ (lw_not ha1 (by with_reducible assumption) (by with_reducible assumption) (.inr (.inl (by with_reducible assumption)))) _ _ (by k_asm) (KStt.news_of (by with_reducible assumption) (by intro p hp; kst_mem))
        · exact hret _ (lw_not ha1 (by with_reducible assumption) (by with_reducible assumption) (.inl (by with_reducible assumption))) _ _ (by k_asm) (KStt.news_of (by with_reducible assumption) (by intro p hp; kst_mem))
  · intro l k
    dsimp only
    split <;> simp
end Mine
namespace Mine
open PySem PySem.W PySem.Spec PySem.Calls PyProof.Rows
theorem pool_pos (z : Int) (b : Bool) : 0 ≤ (if -1 - z > z then -1 - z else z) * (if b = true then 1 else 0 : Int) := by
  refine Int.mul_nonneg ?_ ?_
  · split <;> omega
  · split <;> decide
theorem pool_ans : ∀ (w : World) (l : Addr) (vs : List Value) (ns : List Int) (tk : Tok) (news : Led), IntsAre vs ns → ns.length < 2 ^ 62 →
  ∀ (mean : ExcName → Option Value) (mg mb : PySem.Str → Option Value) (dp un : Nat) (gd : Option (List Code)) (cn : PySem.Str) (cs : Scope) (a : Addr) (ccd : Value) (cl : List (PySem.Str × Addr)) (outer : List Env) (A₀ : Around) (base h₀ : Heap) (L : Addr) (m : PySem.Str → Option Value) (s : Shared) (Q E : Value → Shared → Prop),
    Below A₀ base outer h₀ → base.IsList l vs.toArray → Fr h₀ L s.heap m → (topH.heap_39 w.params).In h₀ → News h₀ L s.heap news → Top topH.view_39 LO mean mg mb h₀ → cs.kind = .function → dp + 12 < recursionLimit → un + 96 < cLine →
    (∀ (S : Addr) (x y : Int) (t1 t2 : Tok), 0 ≤ x → (∀ p ∈ news, p.1 < S) → Go h₀ L m s Q (.ref S) ((S, listOf #[.int x t1, .int y t2] 0) :: news)) →
    wpAny (model PySem.Challenge.rw_xm0655_01.row.prog w) (ktrTop dp un gd cn cs L a ccd cl outer) (call (.ref 162) [.ref l, .int 0 tk]) Q E s := by
  intro w l vs ns tk news hi hn
  k_fill
  intro mean mg mb dp un gd cn cs a ccd cl outer A₀ base h₀ L m s Q E B hl F X N T hk hd hu hret
  refine wpAny_call ?_
  k_dflt cell_enter
  k_steps
  all_goals exact hret _ _ _ _ _ (pool_pos _ _) (by with_reducible assumption) _ _ (by k_asm) (by k_asm)
end Mine
namespace Mine
open PySem PySem.W PySem.Spec PySem.Calls PyProof.Rows
abbrev excObj (t : Addr) (dx : Option Addr) : Obj := { cls := .ref 111, dict := dx, data := .fields #[.ref t, .none, .none, .none, .bool false, .none] }
abbrev tupOf (vs : List Value) : Obj := { cls := .type "tuple", data := .seq vs.toArray }
abbrev faultCls : Obj := excClassObj (Str.ofString "SyntaxFault") (Str.ofString "SyntaxFault") 111 110 [Value.ref 90] [Value.ref 90, Value.type "Exception", Value.type "BaseException", Value.type "object"] true [] [] false none none
  (some (Value.ref 94)) none (some (Value.str (Str.ofString "SyntaxFault") 300)) (some (Value.str (Str.ofString "SyntaxFault") 308)) (some (Value.bool true)) "Exception.__new__"
/-- the class's order -/
abbrev kin : List Value := [.ref 111, .ref 90, .type "Exception", .type "BaseException", .type "object"]
/-- what the class of the law's exception shows to whoever makes one -/
structure Born (M : Model) (h : Heap) : Prop where
  obj : h.get? 111 = some faultCls
  typ : Looks M h (isType (.ref 111)) true
  line : Looks M h (mroOf (.ref 111)) kin
  under : ∀ T, Looks M h (isSubtype (.ref 111) T) (kin.contains T)
  made : Looks M h (Bind.madeBy (.ref 111)) (some "Exception.__new__")
  base : Looks M h (Bind.staticBase (.ref 111)) (.ref 111)
  here : Looks M h (Bind.madeHere "BaseException.__new__" (.ref 111)) ()
  call : Looks M h (specialOf (.ref 111) "__call__") (some (.builtin "type.__call__"))
theorem born {M : Model} {h : Heap} (hC : h.get? 111 = some faultCls) : Born M h where
  obj := hC
  typ := (Looks.ld hC).andThen .now
  line := fun _ _ _ _ k q => wpAny_mroOf_exc (k _ _ hC) q
  under := fun _ _ _ _ _ k q => wpAny_isSubtype_exc (k _ _ hC) q
  made := fun _ _ _ _ k q => wpAny_madeBy_exc (k _ _ hC) q
  base := fun _ _ _ _ k q => wpAny_staticBase_exc (k _ _ hC) q
  here := fun _ _ _ _ k q => wpAny_madeHere_exc PySem.F.excBase_Exception.canon (k _ _ hC) q
  call := Looks.andThen (a := .type "type") ((Looks.ld hC).andThen .now) (.of_pure tc_lookup)
section
variable {prog : Program} {w : World} {A : Around} {E : Value → Shared → Prop} {R : Result → Shared → Prop} {h : Heap} {g : Array GenState} {d : Drawn} {t : Nat} {os : OsState} {rest : List Value}
/-- the heap in which the tuple of the arguments and the exception have been laid down -/
abbrev laid (h : Heap) (rest : List Value) : Heap := (h.push (tupOf rest)).push (excObj h.objs.size none)
theorem new_X (Y : Born (model prog w) h) (hr : rest.length ≤ sizeLine) (hq : R (.ok (.ret (.ref (h.objs.size + 1)))) ⟨laid h rest, g, d, t, os⟩) :
    codeAny (model prog w) A (.call (.builtin "Exception.__new__") ⟨.ref 111 :: rest, []⟩) R ⟨h, g, d, t, os⟩ := by
  have F := PySem.F.excBase_Exception
  obtain ⟨obj, typ, line, under, made, base, here, call⟩ := Y
  have u0 : Looks (model prog w) h (isSubtype (.ref 111) (.type "Exception")) true := under _
  have u1 : Looks (model prog w) h (isSubtype (.ref 111) (.type "AttributeError")) false := under _
  have u2 : Looks (model prog w) h (isSubtype (.ref 111) (.type "NameError")) false := under _
  refine codeAny_call_builtin_code (Code.quiet_builtin _ F.quiet) ?_
  unfold checkBuiltinCall
  rw [F.newKind, F.newSplit, F.newRow]
  repeat lk
  refine codeAny_builtinAt F.entry ?_
  unfold Builtin.«BaseException.__new__»
  refine PySem.wpAt_bind (PySem.wpAt_bind (m := stack) (PySem.wpAt_stack fun p below => PySem.wpAt_of_wpAny ?_))
  dsimp only
  rw [if_pos F.ends, F.owner]
  refine wpAny_pure (PySem.wpAt_of_wpAny ?_)
  repeat lk
  rw [if_neg (by rw [List.size_toArray]; exact Nat.not_lt.mpr hr)]
  repeat lk
  rw [Heap.size_push]
  exact wpAny_load (Heap.get?_push_of_some _ (Heap.get?_push_of_some _ obj)) (wpAny_pure (wpAny_pure (wpAny_pure hq)))
/-- a call of that class: the exception is laid down, and its `__init__` is called -/
theorem made_X {fI : Addr} {oI : Obj} {Q : Value → Shared → Prop} (Y : Born (model prog w) h) (hi : Looks (model prog w) h (typeLookup (.ref 111) "__init__") (some (.ref fI))) (hf : h.get? fI = some oI) (hfc : oI.cls = .type "function")
    (hr : rest.length ≤ sizeLine) (hq : wpAny (model prog w) (A.under (.builtin "type.__call__" ⟨.ref 111 :: rest, []⟩)) (call (.ref fI) (.ref (h.objs.size + 1) :: rest)) (fun r s' => r = .none ∧ Q (.ref (h.objs.size + 1)) s') E ⟨laid h rest, g, d, t, os⟩) :
    wpAny (model prog w) A (call (.ref 111) rest) Q E ⟨h, g, d, t, os⟩ := by
  have call := Y.call
  have f2 : Looks (model prog w) h (bindSpecial (.builtin "type.__call__") (.ref 111)) (.builtin "type.__call__", [.ref 111]) := .of_pure (tc_bind _)
  have obj := Y.obj
  refine wpAny_call (codeAny_of_tree ?_)
  repeat lk
  refine ⟨rfl, codeAny_call_builtin_at (Code.quiet_builtin _ (by decide +kernel)) entry_typeCall (wpAny_check_type_call_sub obj ?_)⟩
  have line := Y.line
  have made := Y.made
  unfold Builtin.«type.__call__»
  repeat (first | with_reducible refine wpAny_call ?_ | lk)
  refine new_X (rest := rest) Y hr ?_
  have up : ∀ b o, h.get? b = some o → (laid h rest).get? b = some o := fun b o e => Heap.get?_push_of_some _ (Heap.get?_push_of_some _ e)
  have new : (laid h rest).get? (h.objs.size + 1) = some (excObj h.objs.size none) := Heap.get?_push_at (by rw [Heap.size_push]) rfl
  have own : Looks (model prog w) (laid h rest) (typeOf (.ref (h.objs.size + 1))) (.ref 111) := (Looks.ld new).andThen .now
  have inst : Looks (model prog w) (laid h rest) (isInstance (.ref (h.objs.size + 1)) (.ref 111)) true := own.andThen ((Y.under (.ref 111)).keeps up)
  have bound : Looks (model prog w) (laid h rest) (bindSpecial (.ref fI) (.ref (h.objs.size + 1))) (.ref fI, [.ref (h.objs.size + 1)]) :=
    Looks.andThen (a := .type "function") (hfc ▸ (Looks.ld (up _ _ hf)).andThen .now) .now
  have init := hi.keeps up
  unfold callSpecial? specialOf
  repeat (first | (with_reducible show wpAny _ _ (PySem.call (.ref fI) _ _) _ _ _); refine wpAny_mono hq (fun r s' z => ?_) fun _ _ z => z | lk)
  obtain ⟨rfl, z⟩ := z
  repeat lk
  exact z
end
end Mine
namespace Mine
open PySem PySem.W PySem.Spec PySem.Calls PyProof.Rows Builtin Builtin.ObjectAttr
section
variable {prog : Program} {w : World} {A : Around} {E : Value → Shared → Prop} {s : Shared} {h₀ : Heap} {L : Addr} {m : Str → Option Value} {news news' : Led} {K : Frag} {e t : Addr}
theorem exc_make {rest : List Value} {Q : Value → Shared → Prop} {fI : Addr} {oI : Obj} (F : Fr h₀ L s.heap m) (N : News h₀ L s.heap news) (X : K.In h₀) (hl : K.lookup 111 = some faultCls)
    (hi : findIn K (.ref 111) "__init__" = some (some (.ref fI))) (hf : K.lookup fI = some oI) (hfc : oI.cls = .type "function") (hr : rest.length ≤ sizeLine)
    (h : ∀ e t h', Fr h₀ L h' m → News h₀ L h' ((e, excObj t none) :: (t, tupOf rest) :: news) → (∀ p ∈ news, p.1 < t) → t < e →
      codeAny (model prog w) (A.under (.builtin "type.__call__" ⟨.ref 111 :: rest, []⟩)) (.call (.ref fI) ⟨.ref e :: rest, []⟩) (InitBack e fun r s' => match r with | .ok (.ret v) => Q v s' | .ok _ => False | .error e => E e s') { s with heap := h' }) :
    wpAny (model prog w) A (call (.ref 111) rest) Q E s := by
  have X' := X.keeps F.keep
  have fin := h (s.heap.objs.size + 1) s.heap.objs.size _ ((F.push (tupOf rest)).push (excObj s.heap.objs.size none)) (by have := (N.push F (tupOf rest)).push (F.push _) (excObj s.heap.objs.size none); rwa [Heap.size_push] at this)
    (fun p hp => Heap.lt_size (N p hp).1) (Nat.lt_succ_self _)
  obtain ⟨hh, g, d, tk, os⟩ := s
  refine made_X (born (X' _ _ hl)) (looks_findIn X' hi) (X' _ _ hf) hfc hr ?_
  refine wpAny_call (codeAny_mono fin fun r s' z => ?_)
  rcases r with e | (v | _ | _ | _) <;> first | exact z | exact z.elim
theorem init_sig (a b : String) (n : Nat) (xs : List (Str × Value)) (hx : xs = []) : Bind.check ⟨.positional, "*", "Exception", .self, [⟨"args", .varPos, false⟩]⟩ a b n (List.map (fun x => x.fst) xs) = pure () := by
  subst hx; exact check_star_args _ _ _ _ _ _
theorem exc_init {rest : List Value} {Q : Value → Shared → Prop} {dx : Option Addr} {g : Obj → Led} (F : Fr h₀ L s.heap m) (N : News h₀ L s.heap news) (X : K.In h₀) (hl : K.lookup 111 = some faultCls) (U : UpdF e (excObj t dx) news g) (hr : rest.length ≤ sizeLine)
    (h : ∀ t' h', Fr h₀ L h' m → News h₀ L h' ((t', tupOf rest) :: g (excObj t' dx)) → (∀ p ∈ news, p.1 < t') → Q .none { s with heap := h' }) :
    wpAny (model prog w) A (call (.builtin "Exception.__init__") (.ref e :: rest)) Q E s := by
  obtain ⟨pre, post, rfl, eg, a, b⟩ := U.split
  have X' := X.keeps F.keep
  have hC := X' _ _ hl
  have he : s.heap.get? e = some (excObj t dx) := (N (e, excObj t dx) (by simp)).1
  have F₁ := F.push (tupOf rest)
  have N₁ := N.push F (tupOf rest)
  have ne : s.heap.objs.size ≠ e := Nat.ne_of_gt (Heap.lt_size he)
  obtain ⟨U1, U2⟩ := news_upd (pre := (s.heap.objs.size, tupOf rest) :: pre) (f := Obj.mapFields (·.setIfInBounds 0 (Value.ref s.heap.objs.size))) F₁ N₁ (fun p hp => by rcases List.mem_cons.mp hp with rfl | hp; exact ne; exact a p hp) b (o' := excObj s.heap.objs.size dx) rfl rfl
  have fin := h _ _ U1 (by rw [eg]; exact U2) fun p hp => Heap.lt_size (N p hp).1
  obtain ⟨hh, gg, d, tk, os⟩ := s
  have B := PySem.F.excBase_Exception
  have hcB : ([Value.ref 111, Value.ref 90, Value.type "Exception", Value.type "BaseException", Value.type "object"] : List Value).contains (.type "Exception") = true := by decide +kernel
  refine wpAny_call (codeAny_call_builtin B.init.plain B.initEntry ?_)
  simp only [checkBuiltinCall, B.initKind, B.initSplit, B.initRow]
  repeat (first | with_reducible refine wpAny_loadPart_at he ?_ | with_reducible refine wpAny_loadPart_at hC ?_ | (with_reducible refine wpAny_isSubtype_exc hC ?_; rw [hcB]) | wp_step)
  refine wpAny_onRaise ?_
  rw [init_sig _ _ _ _ rfl]
  refine wpAny_pure ?_
  wp_walk
  exact fin
end
end Mine
namespace Mine
open PySem PySem.W PySem.Spec PySem.Calls PyProof.Rows Builtin Builtin.ObjectAttr
section
variable {prog : Program} {w : World} {A : Around} {E : Value → Shared → Prop} {s : Shared} {h₀ : Heap} {L : Addr} {m : Str → Option Value} {news news' : Led} {K : Frag} {e t : Addr}
theorem key_clear {es : List DictEntry} {name : PySem.Str} (hl : (getL name es).isSome = true) : (!es.any (·.key.isStr name) && es.any (·.refKey)) = false := by
  cases k : es.any (·.refKey) with
  | false => exact Bool.and_false _
  | true =>
    cases f : es.find? (·.key.isStr name) with
    | none => simp [getL, f, k] at hl
    | some e => simp [← List.find?_isSome, f]
theorem dict_store {Q : Fin → Shared → Prop} {name : PySem.Str} {tk : Tok} {v : Value} {dx : Addr} {pre post : Led} {es es' : List DictEntry} {n n' : Nat} (F : Fr h₀ L s.heap m) (N : News h₀ L s.heap (pre ++ (dx, dictOf es n) :: post))
    (hl : (getL name es).isSome = true) (h1 : ∀ p ∈ pre, p.1 ≠ dx) (h2 : ∀ p ∈ post, p.1 ≠ dx) (he : (putL name (PyData.keyHash w.params name) (.str name s.toks) v es, putN name es n) = (es', n')) (hz : es'.length ≤ 1000)
    (h : ∀ h', Fr h₀ L h' m → News h₀ L h' (pre ++ (dx, dictOf es' n') :: post) → Q (.done (.ret .none)) { s with heap := h', toks := s.toks + 1 }) :
    wpAny (model prog w) A (storeInDict dx (.str name tk) name v) Q E s := by
  have put : Obj.putName name (PyData.keyHash w.params name) (.str name s.toks) v (dictOf es n) = dictOf es' n' := by rw [putName_dict, (Prod.mk.inj he).1, (Prod.mk.inj he).2]
  have now := (N (dx, dictOf es n) (by simp)).1
  obtain ⟨F', N'⟩ := news_upd F N h1 h2 put rfl
  obtain ⟨hp, g, d, t, os⟩ := s
  unfold storeInDict nsSet
  repeat lk
  rw [aRefKeyMayBeTheName_at, ← Array.any_toList, ← Array.any_toList, List.toList_toArray, key_clear hl]
  exact wpAny_updatePart now (wpAny_bind (wpAny_lookBehind (N' _ (List.mem_append_right _ (.head _))).1 (pastItsLine_dict (by rw [List.size_toArray, sizeLine_eq]; omega)) (wpAny_pure (h _ F' N'))))
/-- what a class of one's own must show for a store into its instance's own dict: `object` stores, and it holds nothing of that name -/
structure Stores (K : Frag) (C : Addr) (name : PySem.Str) : Prop where
  cd : ∃ cd, clsIn K C = some cd ∧ cd.hasDict = true ∧ ∀ self, refuseLoop self "__setattr__" cd.mro = pure ()
  top : mroIn K C (.type "object") = some true
  set : findIn K (.ref C) "__setattr__" = some (some (.builtin "object.__setattr__"))
  new : findIn K (.ref C) name = some none
theorem exc_store {Q : Unit → Shared → Prop} {ox : Obj} {od : Option Obj} {x C : Addr} {name : PySem.Str} {v : Value} (S : Stores K C name) (X : K.In s.heap) (I : InstAt s.heap x ox C od)
    (h : ∀ A' b, wpAny (model prog w) A' (storeInOwnDict (.ref x) (.ref C) (.str name s.toks) name v b) (fun fin s' => match fin with | .done (.ret _) => Q () s' | _ => False) E { s with toks := s.toks + 1 }) :
    wpAny (model prog w) A (setAttr (.ref x) name v) Q E s := by
  obtain ⟨hp, g, d, t, os⟩ := s
  have slot := PySem.F.store_object
  have ty := I.type (M := model prog w)
  have whose : Looks (model prog w) hp (isInstance (.ref x) (.type "object")) true := ty.andThen (looks_mroIn X S.top)
  have held := looks_findIn (M := model prog w) X S.new
  have free : Looks (model prog w) hp (refuseIfOverridden (.ref x) "__setattr__") () := by
    obtain ⟨cd, hc, _, hr⟩ := S.cd
    have line : Looks (model prog w) hp (mroOf (.ref C)) cd.mro := (looks_clsIn X hc).andThen .now
    exact ty.andThen (line.andThen (.of_pure (hr _)))
  have ok := slot.args (.ref x) (.str name t) v
  refine set_plain X I S.set (codeAny_call_builtin slot.slot.plain slot.entry (check_slot (M := model prog w) (s := ⟨hp, g, d, t + 1, os⟩) (i := "object.__setattr__") (owner := "object") (n := "__setattr__") (self := .ref x) (rest := [.str name t, v]) (kw := []) slot.kind slot.split whose ok ?_))
  rw [osa_eq]
  repeat (first | (with_reducible show wpAny _ _ (storeInOwnDict _ _ _ _ _ _) _ _ _); refine wpAny_mono (h _ _) (fun fin s' z => ?_) fun _ _ z => z | lk)
  rcases fin with (v | _ | _ | _) | _ <;> first | exact z.elim | exact z
end
end Mine
namespace Mine
open PySem PySem.W PySem.Spec PySem.Calls PyProof.Rows Builtin Builtin.ObjectAttr
section
variable {prog : Program} {w : World} {A : Around} {E : Value → Shared → Prop} {s : Shared} {h₀ : Heap} {L : Addr} {m : Str → Option Value} {news news' : Led} {K : Frag} {e t dx : Addr} {name : PySem.Str} {v : Value}
theorem exc_set2 {Q : Unit → Shared → Prop} {es es' : List DictEntry} {n n' : Nat} (F : Fr h₀ L s.heap m) (X : K.In h₀) (N : News h₀ L s.heap news) (S : Stores K 111 name) (he : (e, excObj t (some dx)) ∈ news) (_hd : (dx, dictOf es n) ∈ news) (hl : (getL name es).isSome = true)
    (q : (putL name (PyData.keyHash w.params name) (.str name (s.toks + 1)) v es, putN name es n) = (es', n')) (U : Upd dx (dictOf es n) (dictOf es' n') news news') (hz : es'.length ≤ 1000)
    (h : ∀ h', Fr h₀ L h' m → News h₀ L h' news' → Q () { s with heap := h', toks := s.toks + 2 }) :
    wpAny (model prog w) A (setAttr (.ref e) name v) Q E s := by
  obtain ⟨pre, post, rfl, rfl, a, b⟩ := U.split
  have X' := X.keeps F.keep
  have hx := (N _ he).1
  have hd : s.heap.get? dx = some (dictOf es n) := (N (dx, dictOf es n) (by simp)).1
  refine exc_store S X' (ox := excObj t (some dx)) (od := some (dictOf es n)) ⟨hx, rfl, rfl, hd⟩ fun A' b' => ?_
  obtain ⟨cd, hc, hD, _⟩ := S.cd
  refine wpAny_bind (wpAny_pure (wpAny_bind (wpAny_bind (wpAny_loadPart (s := { s with toks := s.toks + 1 }) hx (wpAny_bind ((looks_clsIn X' hc).here (s := { s with toks := s.toks + 1 }) ?_))))))
  rw [hD]
  refine wpAny_pure (a := some dx) ?_
  exact dict_store (s := { s with toks := s.toks + 1 }) F N hl a b q hz h
theorem exc_set1 {Q : Unit → Shared → Prop} {g : Obj → Led} (F : Fr h₀ L s.heap m) (X : K.In h₀) (N : News h₀ L s.heap news) (S : Stores K 111 name) (U : UpdF e (excObj t none) news g)
    (h : ∀ dx h', Fr h₀ L h' m → News h₀ L h' ((dx, dictOf [⟨PyData.keyHash w.params name, .str name (s.toks + 1), v⟩] 1) :: g (excObj t (some dx))) → (∀ p ∈ news, p.1 < dx) → Q () { s with heap := h', toks := s.toks + 2 }) :
    wpAny (model prog w) A (setAttr (.ref e) name v) Q E s := by
  obtain ⟨pre, post, rfl, eg, a, b⟩ := U.split
  have X' := X.keeps F.keep
  have hx : s.heap.get? e = some (excObj t none) := (N (e, excObj t none) (by simp)).1
  refine exc_store S X' (ox := excObj t none) (od := none) ⟨hx, rfl, rfl, trivial⟩ fun A' b' => ?_
  obtain ⟨cd, hc, hD, _⟩ := S.cd
  have X₂ := X'.keeps (h' := s.heap.push (dictOf [] 0)) fun _ _ q => Heap.get?_push_of_some _ q
  have F₁ := F.push (dictOf [] 0)
  have N₁ := N.push F (dictOf [] 0)
  have ne : s.heap.objs.size ≠ e := Nat.ne_of_gt (Heap.lt_size hx)
  obtain ⟨U1, U2⟩ := news_upd (pre := (s.heap.objs.size, dictOf [] 0) :: pre) (f := fun o => { o with dict := some s.heap.objs.size }) F₁ N₁ (fun p hp => by rcases List.mem_cons.mp hp with rfl | hp; exact ne; exact a p hp) b (o' := excObj t (some s.heap.objs.size)) rfl rfl
  refine wpAny_bind (wpAny_pure (wpAny_bind (wpAny_bind (wpAny_loadPart (s := { s with toks := s.toks + 1 }) hx (wpAny_bind ((looks_clsIn X' hc).here (s := { s with toks := s.toks + 1 }) ?_))))))
  rw [hD]
  show wpAny (model prog w) A' (alloc (dictOf [] 0) >>= fun d => update e (fun o => { o with dict := some d }) >>= fun _ => dictMade (.ref 111) e d) _ _ _
  refine wpAny_bind (wpAny_alloc (wpAny_bind (wpAny_update (o := excObj t none) (Heap.get?_push_of_some _ hx) ?_)))
  refine wpAny_pure (a := some s.heap.objs.size) ?_
  refine dict_store (s := { s with heap := (s.heap.push (dictOf [] 0)).update e (fun o => { o with dict := some s.heap.objs.size }), toks := s.toks + 1 }) (pre := []) (es := []) (n := 0) (dx := s.heap.objs.size) U1 U2 rfl (fun _ h => nomatch h) (fun p hp => ?_) rfl (Nat.le_of_ble_eq_true rfl) fun h' F' N' => h _ _ F' (by rw [eg]; exact N') fun p hp => Heap.lt_size (N p hp).1
  rcases List.mem_append.mp hp with q | q
  · exact Nat.ne_of_lt (Heap.lt_size (N p (List.mem_append_left _ q)).1)
  · rcases List.mem_cons.mp q with rfl | q
    · exact Ne.symm ne
    · exact Nat.ne_of_lt (Heap.lt_size (N p (List.mem_append_right _ (.tail _ q))).1)
end
end Mine
namespace Mine
open PySem PySem.W PySem.Spec PySem.Calls PyProof.Rows
/-- whatever stands keeps the address of its dict -/
def Dicts (h h' : Heap) : Prop := ∀ b o, h.get? b = some o → ∃ o', h'.get? b = some o' ∧ o'.dict = o.dict
theorem Dicts.refl (h : Heap) : Dicts h h := fun _ o e => ⟨o, e, rfl⟩
theorem Dicts.trans {h₁ h₂ h₃ : Heap} (x : Dicts h₁ h₂) (y : Dicts h₂ h₃) : Dicts h₁ h₃ := fun b o e => by
  obtain ⟨o₂, e₂, q₂⟩ := x b o e
  obtain ⟨o₃, e₃, q₃⟩ := y b o₂ e₂
  exact ⟨o₃, e₃, q₃.trans q₂⟩
/-- a change of an object that neither frees it nor turns its dict -/
def Mild (f : Obj → Obj) : Prop := ∀ o, o.isFreed = false → (f o).isFreed = false ∧ (f o).dict = o.dict
theorem Dicts.update {h : Heap} {a : Addr} {f : Obj → Obj} (m : Mild f) : Dicts h (h.update a f) := fun b o e => by
  by_cases q : b = a
  · subst q
    have z : o.isFreed = false := by
      cases k : o.isFreed with
      | false => rfl
      | true =>
        obtain ⟨c, d, dt, sl⟩ := o
        cases dt <;> first | cases k | skip
        unfold Heap.get? at e
        split at e
        · cases e
        · rename_i no
          exact absurd e (no _ _ _)
    exact ⟨_, Heap.get?_update_self f e (m o z).1, (m o z).2⟩
  · exact ⟨o, (Heap.get?_update_other h f (Ne.symm q)).trans e, rfl⟩
/-- a tree that calls nothing, wakes nothing, and turns no object's dict -/
noncomputable def Calm {α : Type} : Sem α → Prop
  | .pure _ | .raise _ | .unsupported _ | .finish _ => True
  | .rule _ k | .at _ k | .point _ k => Calm (k ())
  | .load _ _ k => ∀ o, Calm (k o)
  | .loadIfAlive _ k => ∀ o, Calm (k o)
  | .update _ _ f k => Mild f ∧ Calm (k ())
  | .alloc _ k => ∀ a, Calm (k a)
  | .stack k => ∀ l, Calm (k l)
  | _ => False
theorem Calm.bind {α β : Type} {t : Sem α} {f : α → Sem β} (c : Calm t) (d : ∀ a, Calm (f a)) : Calm (t >>= f) := by
  show Calm (t.bind f)
  induction t with
  | pure a => exact d a
  | raise | unsupported | finish => trivial
  | rule _ k ih | «at» _ k ih | point _ k ih => exact ih () c
  | load _ _ k ih | loadIfAlive _ k ih | alloc _ k ih | stack k ih => exact fun o => ih o (c o)
  | update _ _ g k ih => exact ⟨c.1, ih () c.2⟩
  | _ => exact c.elim
theorem Calm.ite {α : Type} {p : Prop} [Decidable p] {t u : Sem α} (c : Calm t) (d : Calm u) : Calm (if p then t else u) := by split <;> assumption
/-- what a calm tree is shown to end in, it ends in with all dicts where they were -/
theorem wp_calm {α : Type} {M : Model} {Γ : PySem.Ctx} {Q : α → Pos → Shared → Prop} {E : Value → Pos → Shared → Prop} (t : Sem α) (c : Calm t) (p : Pos) (s : Shared) (h : Sem.wp M Γ t Q E p s) :
    Sem.wp M Γ t (fun a p' s' => Q a p' s' ∧ Dicts s.heap s'.heap) (fun e p' s' => E e p' s' ∧ Dicts s.heap s'.heap) p s := by
  induction t generalizing p s with
  | pure a => exact ⟨h, .refl _⟩
  | raise e => exact ⟨h, .refl _⟩
  | unsupported | finish => exact h
  | rule _ k ih | «at» _ k ih | point _ k ih => exact ih () c _ s h
  | load a _ k ih => obtain ⟨o, e, z⟩ := h; exact ⟨o, e, ih o (c o) p s z⟩
  | loadIfAlive a k ih => exact ih _ (c _) p s h
  | stack k ih => exact ih _ (c _) p s h
  | alloc o k ih => exact Sem.wp_mono M Γ _ (fun _ _ _ z => ⟨z.1, .trans (fun b x e => ⟨x, Heap.get?_push_of_some _ e, rfl⟩) z.2⟩) (fun _ _ _ z => ⟨z.1, .trans (fun b x e => ⟨x, Heap.get?_push_of_some _ e, rfl⟩) z.2⟩) p _ (ih _ (c _) p _ h)
  | update a _ f k ih => exact ⟨h.1, Sem.wp_mono M Γ _ (fun _ _ _ z => ⟨z.1, .trans (.update c.1) z.2⟩) (fun _ _ _ z => ⟨z.1, .trans (.update c.1) z.2⟩) p _ (ih () c.2 p _ h.2)⟩
  | _ => exact c.elim
theorem wpAny_calm {α : Type} {M : Model} {A : Around} {t : Sem α} {Q : α → Shared → Prop} {E : Value → Shared → Prop} {s : Shared} (c : Calm t) (h : wpAny M A t (fun a s' => Dicts s.heap s'.heap → Q a s') E s) : wpAny M A t Q E s :=
  fun Γ p i => Sem.wp_mono M Γ t (fun _ _ _ z => z.1 z.2) (fun _ _ _ z => z.1) p s (wp_calm t c p s (h Γ p i))
theorem Mild.fields (g : Array Value → Array Value) : Mild (Obj.mapFields g) := fun o z => by
  obtain ⟨c, d, dt, sl⟩ := o
  cases dt <;> first | exact ⟨rfl, rfl⟩ | exact ⟨z, rfl⟩
theorem calm_field (v : Value) (i : Nat) : Calm (field v i) := by
  unfold field fieldsOf
  refine .bind ?_ fun vs => ?_
  · cases v <;> first | trivial | (refine .bind (t := load _) (fun _ => trivial) fun o => ?_; split <;> trivial)
  · split <;> trivial
theorem calm_setField (v : Value) (i : Nat) (x : Value) : Calm (setField v i x) := by
  unfold setField updateField
  cases v with
  | ref a =>
    refine .bind (t := load _) (fun _ => trivial) fun o => ?_
    split
    · split
      · exact ⟨.fields _, trivial⟩
      · trivial
    · trivial
  | _ => trivial
theorem calm_setFlight (e : Value) (f : Option Addr) : Calm (setFlight e f) := by
  unfold setFlight
  refine .bind (calm_field e 1) fun t => ?_
  split
  · exact calm_setField _ _ _
  · trivial
theorem calm_ready : ∀ l : List Env, Calm (readyFrames l)
  | [] => trivial
  | env :: outer => by
    unfold readyFrames
    have back : ∀ i, Calm (keptBack env i outer) := fun i => by
      unfold keptBack underTheClaimsCaller
      split
      · split
        · trivial
        · exact fun _ => trivial
      · trivial
    have imp : Calm (behindIsImport env outer) := by
      unfold behindIsImport
      split
      · trivial
      · split
        · trivial
        · exact .bind (calm_field _ _) fun _ => trivial
    split
    · rename_i f hf
      refine .bind (t := load _) (fun _ => trivial) fun o => ?_
      split
      · trivial
      · refine .bind imp fun i => .bind (back i) fun b => .bind (t := update _ _) ⟨fun o z => ⟨?_, rfl⟩, trivial⟩ fun _ => calm_ready outer
        obtain ⟨c, d, dt, sl⟩ := o
        cases dt <;> first | rfl | cases z
    · trivial
theorem calm_frameOf (env : Env) : Calm (PySem.frameOf env) := by
  unfold PySem.frameOf frameEnvs frameObject
  refine .bind (.bind (t := stack) (fun _ => trivial) fun _ => trivial) fun l => .bind ?_ fun r => ?_
  · split
    · trivial
    · exact .bind (calm_ready _) fun _ => trivial
  · split <;> trivial
theorem calm_note (e : Value) (env : Env) : Calm (noteFrame e env) := by
  have last : ∀ head f, Calm (do setField e 1 (← EntryCells.newEntry head (← PySem.frameOf env) .none (rawInt f) .none (← entryPlaceOf f (head != .none)))) := fun head f => by
    refine .bind (calm_frameOf env) fun a => .bind ?_ fun pl => .bind ?_ fun b => calm_setField _ _ _
    · unfold entryPlaceOf
      refine .bind (t := stack) (fun _ => trivial) fun l => ?_
      dsimp only
      split <;> trivial
    · unfold EntryCells.newEntry newFields newObj newObjAsIs
      dsimp only
      exact .ite trivial fun _ => trivial
  unfold noteFrame
  split
  · refine .bind (calm_field e 1) fun head => ?_
    split
    · refine .bind (calm_field head 3) fun x => ?_
      split
      · trivial
      · exact .bind (calm_setField _ _ _) fun _ => last _ _
    · exact last _ _
  · trivial
theorem calm_leaving (env : Env) (e : Value) : Calm (leaving env e) := by
  unfold leaving
  exact .bind (calm_note e env) fun _ => calm_setFlight _ _
end Mine
namespace Mine
open PySem PySem.W PySem.Spec PySem.Calls PyProof.Rows
/-- the exception e, noted in the frame fl, and the address of its dict -/
def TracedX (h base : Heap) (e : Addr) (dx : Addr) (fl : Value) : Prop := (∃ a0, h.TracedAtW base e (.ref 111) a0 fl) ∧ ∃ o, h.get? e = some o ∧ o.dict = some dx
def NotedX (base : Heap) (l : List Env) (e dx : Addr) (fl : Value) (h h' : Heap) : Prop :=
  base.StaysIn h' ∧ h'.FunFrames base l ∧ TracedX h' base e dx fl ∧ h.UpToSlots h'
/-- the exception itself, as it stands on its way -/
theorem TracedX.obj {h base : Heap} {e dx : Addr} {fl : Value} (x : TracedX h base e dx fl) : ∃ o vs, h.get? e = some o ∧ o.cls = .ref 111 ∧ o.dict = some dx ∧ o.data = .fields vs := by
  obtain ⟨⟨a0, oe, vs, _, _, _, he, hc, hd, _⟩, o, ho, hx⟩ := x
  obtain rfl : o = oe := Option.some.inj (ho.symm.trans he)
  exact ⟨o, vs, ho, hc.1, hx, hd⟩
theorem dict_on {h h' : Heap} {e dx : Addr} (D : Dicts h h') (x : ∃ o, h.get? e = some o ∧ o.dict = some dx) : ∃ o, h'.get? e = some o ∧ o.dict = some dx := by
  obtain ⟨o, e₁, q⟩ := x
  obtain ⟨o', e₂, r⟩ := D _ _ e₁
  exact ⟨o', e₂, r.trans q⟩
section
variable {M : Model} {A : Around} {E : Value → Shared → Prop} {s : Shared} {base : Heap} {env : Env} {outer : List Env} {L e dx : Addr} {Q : Unit → Shared → Prop}
/-- it leaves the frame in which it was raised -/
theorem leaves_X {t : Addr} (hfr : A.frames = some (env :: outer)) (hl : s.heap.FunFrames base (env :: outer)) (hf : env.frame = some L)
    (he : s.heap.get? e = some (excObj t (some dx))) (hkb : base.StaysIn s.heap) (hen : base.get? e = none)
    (h : ∀ h', NotedX base (env :: outer) e dx .none s.heap h' → Q () { s with heap := h' }) : wpAny M A (leaving env (.ref e)) Q E s :=
  wpAny_calm (calm_leaving env (.ref e)) (wpAny_leaving_firstW hfr hl hf he hkb hen rfl rfl rfl fun h' z D => h h' ⟨z.1, z.2.1, ⟨⟨_, z.2.2.1⟩, dict_on D ⟨_, he, rfl⟩⟩, z.2.2.2⟩)
/-- a further frame notes it -/
theorem noted_X (hfr : A.frames = some (env :: outer)) (hl : s.heap.FunFrames base (env :: outer)) (hf : env.frame = some L) (ht : TracedX s.heap base e dx .none) (hkb : base.StaysIn s.heap) (hen : base.get? e = none)
    (h : ∀ h', NotedX base (env :: outer) e dx (rawInt L) s.heap h' → Q () { s with heap := h' }) : wpAny M A (noteFrame (.ref e) env) Q E s :=
  wpAny_calm (calm_note (.ref e) env) (wpAny_noteFrame_onW hfr hl hf ht.1.choose_spec hkb hen fun h' z D => h h' ⟨z.1, z.2.1, ⟨⟨_, z.2.2.1⟩, dict_on D ht.2⟩, z.2.2.2⟩)
/-- its flight is at an end -/
theorem lands_X {l : List Env} {fl : Value} (hkb : base.StaysIn s.heap) (hl : s.heap.FunFrames base l) (ht : TracedX s.heap base e dx fl)
    (h : ∀ h', NotedX base l e dx .none s.heap h' → Q () { s with heap := h' }) : wpAny M A (setFlight (.ref e) none) Q E s :=
  wpAny_calm (calm_setFlight (.ref e) none) (wpAny_setFlight_noneW hkb hl ht.1.choose_spec fun h' z1 z2 z3 z4 D => h h' ⟨z1, z2, ⟨⟨_, z3⟩, dict_on D ht.2⟩, fun b o i n => ⟨o.slots, z4 b o i n⟩⟩)
end
section
variable {M : Model} {A : Around} {E : Value → Shared → Prop} {s : Shared} {env : Env}
/-- what a raise of an exception of one's own asks of it -/
def RaisableX (E : Value → Shared → Prop) (v : Value) (s₁ : Shared) : Prop :=
  ∃ e t dx, v = .ref e ∧ s₁.heap.get? 111 = some faultCls ∧ s₁.heap.get? e = some (excObj t (some dx)) ∧ E (.ref e) s₁
/-- what the machine asks of such an exception ahead of its flight -/
structure Thrown (M : Model) (h : Heap) (e : Addr) : Prop where
  sound : ∀ m, Looks M h (excFromValue (.ref e) m) (.ref e)
  one : Looks M h (isType (.ref e)) false
  own : Looks M h (raisedInstance (.ref e)) (.ref e)
theorem thrown_of {h : Heap} {e t dx : Addr} (hC : h.get? 111 = some faultCls) (he : h.get? e = some (excObj t (some dx))) : Thrown M h e := by
  have ty : Looks M h (typeOf (.ref e)) (.ref 111) := (Looks.ld he).andThen .now
  have mt : Looks M h (typeOf (.ref 111)) (.type "type") := (Looks.ld hC).andThen .now
  have one : Looks M h (isType (.ref e)) false := (Looks.ld he).andThen .now
  have base : Looks M h (isSubtype (.ref 111) (.type "BaseException")) true := fun _ _ _ _ k q => wpAny_isSubtype_exc (k _ _ hC) q
  exact ⟨fun m => Looks.andThen (a := false) (one.andThen .now) ((ty.andThen base).andThen .now), one, ty.andThen (mt.andThen .now)⟩
theorem Raise_X {e : Expr} {pos : Pos} {Q : Flow → Shared → Prop} (hh : A.handled = none)
    (h : wpAny M A (eval e env) (RaisableX E) E s) : wpAny M A (exec (.Raise (some e) none pos) env) Q E s := by
  rw [arm_exec_Raise]
  refine wpAny_bind (wpAny_standAt ?_)
  have told : wpAny M A (do let v ← eval e env; standAt pos; pure v) (RaisableX E) E s := wpAny_bind (wpAny_mono h (fun _ _ z => wpAny_bind (wpAny_standAt (wpAny_pure z))) fun _ _ z => z)
  refine wpAny_bind (wpAny_mono told (fun v s₁ z => ?_) fun _ _ z => z)
  obtain ⟨x, t, dx, rfl, hC, he, hE⟩ := z
  have T := thrown_of (M := M) hC he
  refine wpAny_bind (wpAny_pure (wpAny_bind (wpAny_holding ((T.sound _).here (wpAny_bind (T.one.here (wpAny_bind (T.own.here (wpAny_bind ?_)))))))))
  exact wpAny_bind (wpAny_field he rfl rfl (wpAny_pure (wpAny_raiseNew_none hh hE)))
end
end Mine
namespace Mine
open PySem PySem.W PySem.Spec PySem.Calls PyProof.Rows
theorem gone {h : Heap} {b : Addr} {o : Obj} (x : h.get? b = none) (y : h.get? b = some o) : False := by rw [x] at y; cases y
/-- B holds what an exception on its way leaves alone: the base, the ground G but for the frames fs, the ledger; not the exception -/
structure Kept (base G B : Heap) (fs : List Addr) (e : Addr) (news : Led) : Prop where
  low : base.StaysIn B
  over : ∀ b o, G.get? b = some o → b ∉ fs → B.get? b = some o
  led : ∀ q ∈ news, B.get? q.1 = some q.2 ∧ G.get? q.1 = none ∧ base.get? q.1 = none
  exc : B.get? e = none ∧ G.get? e = none
/-- an exception of one's own on its way -/
def RaisedX (base G : Heap) (l : List Env) (e dx : Addr) (news : Led) (h : Heap) : Prop := ∃ B, Kept base G B (l.filterMap (·.frame)) e news ∧ B.StaysIn h ∧ h.FunFrames B l ∧ TracedX h B e dx .none
section
variable {M : Model} {A A₀ : Around} {E : Value → Shared → Prop} {s : Shared} {base g G B : Heap} {outer : List Env} {L a e t dx : Addr} {m : Str → Option Value} {name : Str} {scope : Scope} {cd : Value} {Q : Unit → Shared → Prop} {news : Led}
theorem leave_X (K : Below A base outer g) (F : Fr g L s.heap m) (N : News g L s.heap ((e, excObj t (some dx)) :: news)) (hne : ∀ p ∈ news, p.1 ≠ e)
    (hQ : ∀ h', RaisedX base g outer e dx news h' → g.UpToSlots h' → Q () { s with heap := h' }) (hk : scope.kind = .function := by rfl) :
    wpAny M (A.deeper (envOf name scope L a cd)) (leaving (envOf name scope L a cd) (.ref e)) Q E s := by
  have K' := K.push (name := name) (a := a) (cd := cd) F hk
  have fresh := (N _ (.head _)).2.2
  have away : ∀ b ∈ e :: (envOf name scope L a cd :: outer).filterMap (·.frame), base.get? b = none ∧ (g.get? b = none ∨ b ∈ outer.filterMap (·.frame)) := fun b hb => by
    cases hb with
    | head => exact ⟨fresh_of_stays K.stays fresh, .inl fresh⟩
    | tail _ hb => exact ⟨(K'.frames.mem hb).1, (kts_mem hb).elim (fun z => .inl (by rw [z]; exact kts_self F)) .inr⟩
  have clear : ∀ q ∈ news, q.1 ∉ e :: (envOf name scope L a cd :: outer).filterMap (·.frame) := fun q hq hm => by
    obtain ⟨_, n1, n2⟩ := N q (.tail _ hq)
    cases hm with
    | head => exact hne q hq rfl
    | tail _ hm => exact (kts_mem hm).elim n1 fun z => gone n2 (K.frames.mem z).2.choose_spec.1
  have kept : Kept base g (hideAll s.heap (e :: (envOf name scope L a cd :: outer).filterMap (·.frame))) (outer.filterMap (·.frame)) e news :=
    { low := fun b o q => hideAll_get _ (K'.stays b o q) fun z => gone (away b z).1 q
      over := fun b o q z => hideAll_get _ (F.keep b o q) fun y => (away b y).2.elim (gone · q) z
      led := fun q hq => have y := N q (.tail _ hq); ⟨hideAll_get _ y.1 (clear q hq), y.2.2, fresh_of_stays K.stays y.2.2⟩
      exc := ⟨hideAll_none _ (.head _), fresh⟩ }
  exact leaves_X K'.stack (funFrames_hide K'.frames fun v hv b hb => .tail _ (List.mem_filterMap.mpr ⟨v, hv, hb⟩)) rfl (N _ (.head _)).1 (fun b o => of_hideAll _) kept.exc.1
    fun h' z => hQ h' ⟨_, kept, z.1, z.2.1.2.2, z.2.2.1⟩ ((Heap.UpToSlots.of_keeps F.keep).trans z.2.2.2)
/-- a ground is found again below the frame that catches -/
theorem Kept.regain {h : Heap} (Z : Kept base G B ((envOf name scope L a cd :: outer).filterMap (·.frame)) e news) (F : Fr g L G m) (K : Below A₀ base outer g) (stay : B.StaysIn h) (fr : h.FunFrames B (envOf name scope L a cd :: outer)) (up : G.UpToSlots h) :
    ∃ g', KtsTurn (outer.filterMap (·.frame)) g g' ∧ Fr g' L h m ∧ Below A₀ base outer g' ∧ g'.get? e = none ∧ News g' L h news := by
  obtain ⟨g', T, F', K'⟩ := kts_ground K F Z.over stay up
  have low : ∀ b, G.get? b = none → g'.get? b = none := fun b z => T.none_ b (kts_none F.keep z)
  refine ⟨g', T, F', K', low _ Z.exc.2, fun q hq => ?_⟩
  obtain ⟨q1, q2, _⟩ := Z.led q hq
  refine ⟨stay _ _ q1, fun z => ?_, low _ q2⟩
  obtain ⟨L', _, i, j, _⟩ := fr.2.1
  exact gone j ((Option.some.inj i : L = L') ▸ z ▸ q1)
end
/-- the suite of `except .. as n`, to be run with the exception in hand -/
abbrev SuiteX (M : Model) (A : Around) (v : Env) (e : Addr) (n : Str) (pos : Pos) (body : List Stmt) (Q : Flow → Shared → Prop) (E : Value → Shared → Prop) (s : Shared) : Prop :=
  wpAny M (A.mark (some (.ref e))) (execs body v) (fun f s' => wpAny M A (do bindName v n .none; unbindBehindTheSuite v n pos) (fun _ s'' => Q f s'') E s')
    (AsSuiteRaised M (A.mark (some (.ref e))) v n pos (notedBy M (A.mark (some (.ref e))) v (cameBackBy M A v E))) s
section
variable {prog : Program} {w : World} {A₀ : Around} {E : Value → Shared → Prop} {s : Shared} {base g G : Heap} {outer : List Env} {L a e dx : Addr} {m : Str → Option Value} {name : Str} {scope : Scope} {cd : Value}
  {n : Str} {b₀ : Stmt} {suite : List Stmt} {pos np : Pos} {rest : List ExceptHandler} {Q : Flow → Shared → Prop} {news : Led} {KF : Frag}
  {p : Program} {loose : List Str} {mean : ExcName → Option Value} {mg mb : Str → Option Value} {x : Str}
theorem caught_X (R : RaisedX base G (envOf name scope L a cd :: outer) e dx news s.heap) (F : Fr g L G m) (K : Below A₀ base outer g) (hsm : G.UpToSlots s.heap) (XB : KF.In base) (TB : Top p loose mean mg mb base)
    (hl : KF.lookup 111 = some faultCls) (ex : nsIn KF mainGlobals x = some (some (.ref 111)))
    (k : ∀ h' g' tk oe, KtsTurn (outer.filterMap (·.frame)) g g' → Fr g' L h' (fun y => if y = n then some (.ref e) else m y) → News g' L h' ((e, oe) :: news) → (oe.cls = .ref 111 ∧ oe.dict = some dx ∧ notCls oe = true) → Below A₀ base outer g' → KF.In g' → Top p loose mean mg mb g' →
      SuiteX (model prog w) (A₀.deeper (envOf name scope L a cd)) (envOf name scope L a cd) e n pos (b₀ :: suite) Q E { s with heap := h', toks := tk })
    (hk : scope.kind = .function := by rfl) (hlo : (envOf name scope L a cd).kindOf n = some .local := by rfl) (hx : (envOf name scope L a cd).kindOf x = some .globalImplicit := by rfl) (hd : (x == ("__debug__" : Str)) = false := by decide) :
    wpAny (model prog w) (A₀.deeper (envOf name scope L a cd)) (noteFrame (.ref e) (envOf name scope L a cd)) (fun _ s' => wpAny (model prog w) (A₀.deeper (envOf name scope L a cd)) (setFlight (.ref e) none)
      (fun _ s'' => wpAny (model prog w) (A₀.deeper (envOf name scope L a cd)) (handleBy (.ref e) (envOf name scope L a cd) (.ExceptHandler (some (.Name x np)) (some n) (b₀ :: suite) pos :: rest)) Q E s'') E s') E s := by
  obtain ⟨B, Z, stay, fr, tr⟩ := R
  refine noted_X (Around.frames_deeper K.stack) fr rfl tr stay Z.exc.1 fun h₁ z₁ => lands_X z₁.1 z₁.2.1 z₁.2.2.1 fun h₂ z₂ => ?_
  have up₂ := hsm.trans (z₁.2.2.2.trans z₂.2.2.2)
  obtain ⟨g₂, _, F₂, K₂, _⟩ := Z.regain F K z₂.1 z₂.2.1 up₂
  obtain ⟨o₂, _, i₂, c₂, _⟩ := z₂.2.2.1.obj
  have X₂ := XB.keeps K₂.stays
  refine wpAny_handleBy_cons (codeAny_handlers_test (name_K F₂ X₂ (topRead_of (TB.keeps K₂.stays)) ex (wpAny_excMatches_sub_self (F₂.keep _ _ (X₂ _ _ hl)) i₂ c₂ (by decide +kernel) (codeAny_handlers_suite_as ?_)) hk hx hd)) nofun
  refine lands_X (s := { s with heap := h₂ }) z₂.1 z₂.2.1 z₂.2.2.1 fun h₃ z₃ => ?_
  obtain ⟨g₃, T₃, F₃, K₃, new, N₃⟩ := Z.regain F K z₃.1 z₃.2.1 (up₂.trans z₃.2.2.2)
  obtain ⟨o₃, vs, i₃, c₃, d₃, f₃⟩ := z₃.2.2.1.obj
  exact stN F₃ (News.more F₃ N₃ i₃ (fun _ _ q => by rw [f₃] at q; cases q) new) (fun h₄ F₄ N₄ => k h₄ g₃ _ o₃ T₃ F₄ N₄ ⟨c₃, d₃, by unfold notCls; rw [f₃]⟩ K₃ (XB.keeps K₃.stays) (TB.keeps K₃.stays)) hk hlo
end
/-- what a def hands back above a ground that has turned in the one frame L stands above the ground that it was called on -/
theorem turned_back {h₀ h g g' : Heap} {L L' : Addr} {m m' : Str → Option Value} {news : Led} (Fg : Fr h₀ L g m) (T : KtsTurn [L] g g') (F : Fr g' L' h m') (N : News g' L' h news) : Fr h₀ L h m ∧ News h₀ L h news := by
  obtain ⟨o, es, n, ho, hd, rest⟩ := Fg.ns
  obtain ⟨sl, hs⟩ := T.frame L o ho (.head _)
  have apart : ∀ b o, h₀.get? b = some o → b ∉ [L] := fun b o q z => gone (kts_self Fg) (List.mem_singleton.mp z ▸ q)
  have stays : ∀ b o, h₀.get? b = some o → g'.get? b = some o := fun b o q => T.other b o (Fg.keep b o q) (apart b o q)
  refine ⟨⟨⟨_, es, n, F.keep _ _ hs, hd, rest⟩, fun b o q => F.keep b o (stays b o q), Fg.above⟩, fun q hq => ?_⟩
  obtain ⟨n1, _, n3⟩ := N q hq
  refine ⟨n1, fun z => gone n3 (z ▸ hs), ?_⟩
  cases z : h₀.get? q.1 with
  | none => rfl
  | some o => exact (gone n3 (stays _ o z)).elim
section
variable {prog : Program} {w : World} {A₀ A : Around} {s : Shared} {base h₀ : Heap} {L : Addr} {m : Str → Option Value} {env : Env} {news : Led} {K : Frag} {p : Program} {loose : List Str} {mean : ExcName → Option Value} {mg mb : Str → Option Value}
  {R : Result → Shared → Prop} {name qual : Str} {params : Arguments} {body : List Stmt} {scope : Scope} {dV kV doc pm cdv ct oc : Value} {an od : Option Addr} {osl : Array (Option Value)} {f : Addr} {args : Args} {binds : List (Str × Value)}
/-- a def entered from the outermost frame, whose ground may turn by an exception caught in it -/
theorem code_defX (B : Below A₀ base [] h₀) (F : Fr h₀ L s.heap m) (X₀ : K.In h₀) (N : News h₀ L s.heap news) (T : Top p loose mean mg mb h₀) (hA : A.frames = some [env]) (hf : env.frame = some L) (hke : env.scope.kind = .function)
    (ho : K.lookup f = some ⟨oc, od, .func (fnOf name qual params body scope dV kV doc pm an cdv ct), osl⟩) (hcd : codeIn K cdv qual = true) (hroom : A.depth < recursionLimit)
    (hbind : BindsTo s (fnOf name qual params body scope dV kV doc pm an cdv ct) args binds) (hloc : ∀ y ∈ binds, scope.names.lookup y.1 = some .local)
    (h : ∀ g L' h₁, Fr h₀ L g m → Fr g L' h₁ (fun y => binds.reverse.lookup y) → News g L' h₁ news → Below A base [env] g → K.In g → Top p loose mean mg mb g →
      wpAny (model prog w) (A.deeper (envOf qual scope L' f cdv)) (execs body (envOf qual scope L' f cdv))
        (fun fl s' => LeaveS0 [L] h₀ L m g R (match fl with | .ret v => v | _ => .none) s')
        (fun e s' => wpAny (model prog w) (A.deeper (envOf qual scope L' f cdv)) (leaving (envOf qual scope L' f cdv) e) (fun _ s'' => R (.error e) s'') (fun e' s'' => R (.error e') s'') s')
        { s with heap := h₁, toks := s.toks + binds.length })
    (hco : scope.isCoroutine = false) (hgen : scope.isGenerator = false) (hk : scope.kind = .function)
    (hcell : ∀ x ∈ scope.names, x.2 ≠ .cell) : codeAny (model prog w) A (.call (.ref f) args) R s := by
  obtain ⟨Fg, Bg, st, _⟩ := groundX (R := R) B F N hA hf hke
  refine codeAny_call_def (fd := fnOf name qual params body scope dV kV doc pm an cdv ct) (binds := binds) hroom (F.keep _ _ (X₀ _ _ ho)) rfl (T.nolimit.keeps F.keep) (codeRec_of (X₀.keeps F.keep) hcd) rfl hbind hcell hloc (fun h₁ ns up => ?_) hco hgen hk
  have F₁ : Fr (hideAll s.heap (news.map (·.1))) s.heap.objs.size h₁ (fun y => binds.reverse.lookup y) := ⟨ns, fun b o q => up b o (of_hideAll _ q), by rw [hideAll_size]; exact Nat.le_refl _⟩
  have N₁ : News (hideAll s.heap (news.map (·.1))) s.heap.objs.size h₁ news := fun q hq => ⟨up _ _ (N q hq).1, fun z => Nat.lt_irrefl _ (z ▸ Heap.lt_size (N q hq).1), hideAll_none _ (List.mem_map_of_mem hq)⟩
  refine wpAny_mono (h _ _ h₁ Fg F₁ N₁ Bg (X₀.keeps st) (T.keeps st)) (fun fl s' z => ?_) fun _ _ z => z
  obtain ⟨g', L', m', news', T', F', N', back⟩ := z
  have y := turned_back Fg T' F' N'
  exact back y.1 y.2
end
end Mine
namespace Mine
open PySem PySem.W PySem.Spec PySem.Calls PyProof.Rows
theorem stores_message (w : World) : Stores (topH.heap_39 w.params) 111 (Str.ofString "message") :=
  ⟨⟨_, rfl, rfl, fun self => by dsimp only; rw [refuseLoop_ref, refuseLoop_ref]; exact PySem.F.store_Exception.passes self⟩, by kernel_rfl, by kernel_rfl, by kernel_rfl⟩
theorem stores_place (w : World) : Stores (topH.heap_39 w.params) 111 (Str.ofString "place") :=
  ⟨⟨_, rfl, rfl, fun self => by dsimp only; rw [refuseLoop_ref, refuseLoop_ref]; exact PySem.F.store_Exception.passes self⟩, by kernel_rfl, by kernel_rfl, by kernel_rfl⟩
theorem fault_in (w : World) : (topH.heap_39 w.params).lookup 111 = some faultCls := by kernel_rfl
theorem exc_typ : typeOf (.type "Exception") = pure (.type "type") := by kernel_rfl
theorem exc_whole : Manifest.isStub "Exception" = false := by kernel_rfl
theorem exc_has (w : World) : findCls (topH.heap_39 w.params) (.type "Exception") (.type "type") (Str.ofString "__init__") = some (.val (.builtin "Exception.__init__")) := by kernel_rfl
theorem offs2 {d d' : Addr} {l : Led} (h : ∀ p ∈ l, p.1 < d) (k : @LT.lt Nat _ d d') : OwnOff l [d', d] := fun p hp b hb => by
  have := h p hp
  simp only [List.mem_cons, List.not_mem_nil, or_false] at hb
  rcases hb with rfl | rfl
  · exact Nat.ne_of_lt (Nat.lt_trans this k)
  · exact Nat.ne_of_lt this
theorem offs3 {d : Addr} {a b c : Addr × Obj} {l : Led} (h : ∀ p ∈ a :: b :: c :: l, p.1 < d) : OwnOff l [d] := fun p hp q hq => by
  simp only [List.mem_cons, List.not_mem_nil, or_false] at hq
  subst hq
  exact Nat.ne_of_lt (h p (by simp [hp]))
end Mine
namespace Mine
open PySem PySem.W PySem.Spec PySem.Calls PyProof.Rows
/-- the attributes of a SyntaxFault -/
abbrev faultD (w : World) (k1 k2 : Tok) (msg : PySem.Str) (t1 : Tok) (pl : Int) (tp : Tok) : List DictEntry :=
  [{ hash := PyData.keyHash w.params (Str.ofString "message"), key := .str (Str.ofString "message") k1, val := .str msg t1 },
   { hash := PyData.keyHash w.params (Str.ofString "place"), key := .str (Str.ofString "place") k2, val := .int pl tp }]
theorem offs_pair {e d t : Addr} {l : Led} (h : OwnOff l [e, d]) (k : OwnOff l [t]) : OwnOff l [e, t] := fun p hp b hb => by
  simp only [List.mem_cons, List.not_mem_nil, or_false] at hb
  rcases hb with rfl | rfl
  · exact h p hp _ (by simp)
  · exact k p hp _ (by simp)
theorem fault_ans : ∀ (w : World) (msg : PySem.Str) (t1 : Tok) (pl : Int) (tp : Tok) (news : Led),
    Ans w 111 4 news [.str msg t1, .int pl tp] (fun K => ∀ (e t dx : Addr) (k1 k2 : Tok), OwnOff news [e, dx] → @LT.lt Nat _ e dx → K (.ref e) ((e, excObj t (some dx)) :: (dx, dictOf (faultD w k1 k2 msg t1 pl tp) 2) :: news)) := by
  intro w msg t1 pl tp news
  unfold Ans
  k_fill
  intro mean mg mb dp un gd cn cs a ccd cl outer A₀ base h₀ L m s Q E B F X N T hk hd hu hret
  k_dflt (refine' exc_make ?k1 ?k2 ?k3 (fault_in _) ?k4 ?k5 ?k6 ?k7 ?_; (case k1 => k_asm); (case k2 => k_asm); (case k3 => k_asm); (case k4 => k_is); (case k5 => k_is); (case k6 => exact rfl); (case k7 => size_fits); k_whole; intro x' d' h' F' N' l1 l2; (try k_lt2 l2))
  have o0 := offs2 l1 l2
  k_dflt (refine' code_def ?k1 ?k2 ?k3 ?k4 ?k5 ?kA ?kF ?kK ?k6 ?k7 ?k8 ?k9 ?kB ?_ ?c2 ?c3 ?c4 ?c5; (case kA => exact rfl); (case kF => exact rfl); (case kK => assumption); (case k1 => k_asm); (case k2 => k_asm); (case k3 => k_asm); (case k4 => k_asm); (case k5 => k_asm); (case k6 => k_is); (case k7 => k_is); (case k8 => ktr_room); (case k9 => exact binds_K (by k_in) rfl (by k_is) rfl rfl rfl); (case c5 => decide); (case kB => exact locs rfl); (case c2 => exact rfl); (case c3 => exact rfl); (case c4 => exact rfl); k_whole; intro g' L' h' FG' F' N' B' X' T'; (try dsimp only); (try k_lift B'); (try k_fold))
  (repeat' (first | (k_unfold; (try dsimp only)) | (k_end; wrow_close) | ((with_reducible show wpAny _ _ (setAttr (Value.ref _) _ _) _ _ _); (k_here; k_dflt (refine' exc_set2 ?k1 ?k2 ?k3 (stores_place _) ?k5 ?k5' ?k6 ?k7 ?k8 ?k9 ?_; (case k1 => k_asm); (case k2 => k_asm); (case k3 => k_asm); (case k5 => k_mem); (case k5' => k_mem); (case k6 => k_get); (case k7 => k_put); (case k8 => k_upd); (case k9 => exact Nat.le_of_ble_eq_true rfl); k_whole; intro h' F' N'; (try k_sweep)))) | ((with_reducible show wpAny _ _ (setAttr (Value.ref _) _ _) _ _ _); (k_here; k_dflt (refine' exc_set1 ?k1 ?k2 ?k3 (stores_message _) ?k5 ?_; (case k1 => k_asm); (case k2 => k_asm); (case k3 => k_asm); (case k5 => k_updF); k_whole; intro d' h' F' N' l1; (have o1 := offs3 l1); (try dsimp only at N'); (try k_lt l1); (try k_sweep)))) | ((with_reducible show wpAny _ _ (getMethod (Value.type "Exception") _ _) _ _ _); (k_here; k_dflt (refine' method_type ?F ?X exc_typ exc_whole (exc_has _) rfl ?_; (case F => k_asm); (case X => k_asm); k_whole))) | ((with_reducible show wpAny _ _ (call (Value.ref _) _) _ _ _); (k_here; (with_reducible show wpAny _ _ (call (Value.ref 111) _) _ _ _); k_dflt (refine' exc_make ?k1 ?k2 ?k3 (fault_in _) ?k4 ?k5 ?k6 ?k7 ?_; (case k1 => k_asm); (case k2 => k_asm); (case k3 => k_asm); (case k4 => k_is); (case k5 => k_is); (case k6 => exact rfl); (case k7 => size_fits); k_whole; intro x' d' h' F' N' l1 l2; (try k_lt l1); (try k_lt2 l2); (try k_sweep); k_enter))) | walk1 | (dsimp only; walk1) | (leave1; walk_say "STEP leave1"; try dsimp only) | fail "no step"))
  k_dflt (refine' exc_init ?k1 ?k2 ?k3 (fault_in _) ?k5 ?k6 ?_; (case k1 => k_asm); (case k2 => k_asm); (case k3 => k_asm); (case k5 => k_updF); (case k6 => size_fits); k_whole; intro t' h' F' N' l1; (try dsimp only at N'); (try k_lt l1); (try k_sweep))
  (repeat' (first | (k_unfold; (try dsimp only)) | (k_end; wrow_close) | ((with_reducible show wpAny _ _ (setAttr (Value.ref _) _ _) _ _ _); (k_here; k_dflt (refine' exc_set2 ?k1 ?k2 ?k3 (stores_place _) ?k5 ?k5' ?k6 ?k7 ?k8 ?k9 ?_; (case k1 => k_asm); (case k2 => k_asm); (case k3 => k_asm); (case k5 => k_mem); (case k5' => k_mem); (case k6 => k_get); (case k7 => k_put); (case k8 => k_upd); (case k9 => exact Nat.le_of_ble_eq_true rfl); k_whole; intro h' F' N'; (try k_sweep)))) | ((with_reducible show wpAny _ _ (setAttr (Value.ref _) _ _) _ _ _); (k_here; k_dflt (refine' exc_set1 ?k1 ?k2 ?k3 (stores_message _) ?k5 ?_; (case k1 => k_asm); (case k2 => k_asm); (case k3 => k_asm); (case k5 => k_updF); k_whole; intro d' h' F' N' l1; (have o1 := offs3 l1); (try dsimp only at N'); (try k_lt l1); (try k_sweep)))) | ((with_reducible show wpAny _ _ (getMethod (Value.type "Exception") _ _) _ _ _); (k_here; k_dflt (refine' method_type ?F ?X exc_typ exc_whole (exc_has _) rfl ?_; (case F => k_asm); (case X => k_asm); k_whole))) | ((with_reducible show wpAny _ _ (call (Value.ref _) _) _ _ _); (k_here; (with_reducible show wpAny _ _ (call (Value.ref 111) _) _ _ _); k_dflt (refine' exc_make ?k1 ?k2 ?k3 (fault_in _) ?k4 ?k5 ?k6 ?k7 ?_; (case k1 => k_asm); (case k2 => k_asm); (case k3 => k_asm); (case k4 => k_is); (case k5 => k_is); (case k6 => exact rfl); (case k7 => size_fits); k_whole; intro x' d' h' F' N' l1 l2; (try k_lt l1); (try k_lt2 l2); (try k_sweep); k_enter))) | walk1 | (dsimp only; walk1) | (leave1; walk_say "STEP leave1"; try dsimp only) | fail "no step"))
  exact hret _ _ _ _ _ (offs_pair (by with_reducible assumption) (by with_reducible assumption)) (by omega) _ _ (by k_asm) (KStt.news_of (by with_reducible assumption) (by intro p hp; rcases List.mem_cons.mp hp with rfl | hp; (exact .tail _ (.tail _ (.head _))); rcases List.mem_cons.mp hp with rfl | hp; (exact .head _); exact .tail _ (.tail _ (.tail _ (.tail _ hp)))))
end Mine
namespace Mine
open PySem PySem.W PySem.Spec PySem.Calls PyProof.Rows Builtin Builtin.ObjectAttr
section
variable {prog : Program} {w : World} {A : Around} {E : Value → Shared → Prop} {R : Result → Shared → Prop} {h : Heap} {g : Array GenState} {d : Drawn} {t : Nat} {os : OsState} {K : Frag} {x C : Addr} {ox : Obj} {od : Option Obj} {name : PySem.Str} {v : Value}
/-- an attribute of an exception of one's own that its dict holds -/
theorem exc_get {expr : Bool} {Q : Value → Shared → Prop} (X : K.In h) (I : InstAt h x ox C od) (hga : findIn K (.ref C) "__getattribute__" = some (some (.builtin "BaseException.__getattribute__"))) (hgh : findIn K (.ref C) "__getattr__" = some none)
    (hbase : mroIn K C (.type "BaseException") = some true) (hf : findObj K C od name = some (.value v)) (hh : handedIn v = true) (hq : Q v ⟨h, g, d, t + 1, os⟩) : wpAny (model prog w) A (getAttr (.ref x) name expr) Q E ⟨h, g, d, t, os⟩ := by
  have ty := I.type (M := model prog w)
  have reader := looks_findIn (M := model prog w) X hga
  have fallback := looks_findIn (M := model prog w) X hgh
  have read := looks_find (M := model prog w) X I hf
  have bound : Looks (model prog w) h (bindSpecial (.builtin "BaseException.__getattribute__") (.ref x)) (.builtin "BaseException.__getattribute__", [.ref x]) := .of_pure (PySem.F.attrBase_Exception.ga.bind _)
  have out : Looks (model prog w) h (handedOut v) v := .of_pure (handedOut_of hh)
  have whose : Looks (model prog w) h (isInstance (.ref x) (.type "BaseException")) true := ty.andThen (looks_mroIn X hbase)
  have kind : builtinKind "BaseException.__getattribute__" = some .slot := by decide +kernel
  have split : splitId "BaseException.__getattribute__" = some ("BaseException", "__getattribute__") := by decide +kernel
  have ok := PySem.F.args_bexc_ga (.ref x) (.str name t)
  unfold getAttr
  cases expr <;>
  · repeat (first | with_reducible refine wpAny_attempt ?_ | with_reducible refine wpAny_call ?_ | lk)
    refine codeAny_call_builtin PySem.F.attrBase_Exception.ga.plain PySem.F.entry_bexc_ga (check_slot (i := "BaseException.__getattribute__") (M := model prog w) (s := ⟨h, g, d, t + 1, os⟩) (owner := "BaseException") (n := "__getattribute__") (self := .ref x) (rest := [.str name t]) (kw := []) (kind) (split) whose ok ?_)
    exact wpAny_bind (wpAny_pure (wpAny_bind (wpAny_pure (wpAny_bind (ty.at (wpAny_bind (read.at (wpAny_pure (out.at hq)))))))))
end
/-- a call of the def at f from the outermost frame -/
def Ans1 (w : World) (f : Addr) (dep : Nat) (news : Led) (vs : List Value) (Post : (Value → Led → Prop) → Prop) : Prop :=
  ∀ (mean : ExcName → Option Value) (mg mb : PySem.Str → Option Value) (dp un : Nat) (gd : Option (List Code)) (cn : PySem.Str) (cs : Scope) (a : Addr) (ccd : Value) (cl : List (PySem.Str × Addr)) (A₀ : Around) (h₀ : Heap) (L : Addr) (m : PySem.Str → Option Value) (s : Shared) (Q E : Value → Shared → Prop),
    Below A₀ h₀ [] h₀ → Fr h₀ L s.heap m → (topH.heap_39 w.params).In h₀ → News h₀ L s.heap news → Top topH.view_39 LO mean mg mb h₀ → cs.kind = .function → dp + dep < recursionLimit → un + 8 * dep < cLine →
    Post (Go h₀ L m s Q) →
    wpAny (model PySem.Challenge.rw_xm0655_01.row.prog w) (ktrTop dp un gd cn cs L a ccd cl []) (call (.ref f) vs) Q E s
theorem offs_ne {e dx : Addr} {o : Obj} {l : Led} (h : OwnOff l [e, dx]) (k : @LT.lt Nat _ e dx) : ∀ q ∈ (dx, o) :: l, q.1 ≠ e := fun q hq => by
  rcases List.mem_cons.mp hq with rfl | hq
  · exact Nat.ne_of_gt k
  · exact h q hq _ (by simp)
section
variable {prog : Program} {w : World} {A : Around} {E : Value → Shared → Prop} {s : Shared} {h₀ : Heap} {L : Addr} {m : PySem.Str → Option Value} {news : Led} {K : Frag} {e t dx : Addr}
theorem raisable_X (X : K.In h₀) (hl : K.lookup 111 = some faultCls) (F : Fr h₀ L s.heap m) (N : News h₀ L s.heap ((e, excObj t (some dx)) :: news)) (h : E (.ref e) s) : RaisableX E (.ref e) s :=
  ⟨e, t, dx, rfl, (X.keeps F.keep) _ _ hl, (N _ (.head _)).1, h⟩
theorem fault_find (w : World) (k1 k2 t1 tp : Tok) (msg : PySem.Str) (pl : Int) : findObj (topH.heap_39 w.params) 111 (some (dictOf (faultD w k1 k2 msg t1 pl tp) 2)) (PySem.Str.ofString "place") = some (.value (.int pl tp)) := by kernel_rfl
theorem fault_ga (w : World) : findIn (topH.heap_39 w.params) (.ref 111) "__getattribute__" = some (some (.builtin "BaseException.__getattribute__")) := by kernel_rfl
theorem fault_gh (w : World) : findIn (topH.heap_39 w.params) (.ref 111) "__getattr__" = some none := by kernel_rfl
theorem fault_base (w : World) : mroIn (topH.heap_39 w.params) 111 (.type "BaseException") = some true := by kernel_rfl
theorem get_place {oe : Obj} {k1 k2 t1 tp : Tok} {msg : PySem.Str} {pl : Int} {expr : Bool} {Q : Value → Shared → Prop} (F : Fr h₀ L s.heap m) (X : (topH.heap_39 w.params).In h₀) (N : News h₀ L s.heap ((e, oe) :: (dx, dictOf (faultD w k1 k2 msg t1 pl tp) 2) :: news))
    (O : oe.cls = .ref 111 ∧ oe.dict = some dx ∧ notCls oe = true) (h : Q (.int pl tp) { s with toks := s.toks + 1 }) :
    wpAny (model prog w) A (getAttr (.ref e) (PySem.Str.ofString "place") expr) Q E s := by
  have X' := X.keeps F.keep
  have I : InstAt s.heap e oe 111 (some (dictOf (faultD w k1 k2 msg t1 pl tp) 2)) := ⟨(N _ (.head _)).1, O.1, O.2.2, by rw [O.2.1]; exact (N _ (.tail _ (.head _))).1⟩
  obtain ⟨hh, g, d, tk, os⟩ := s
  exact exc_get X' I (fault_ga w) (fault_gh w) (fault_base w) (fault_find w k1 k2 t1 tp msg pl) rfl h
end
end Mine
namespace Mine
open PySem PySem.W PySem.Spec PySem.Calls PyProof.Rows
theorem semi_is : (Str.ofString ";" : PySem.Str) = ⟨#[59]⟩ := by decide +kernel
theorem char_at {x : PySem.Str} {i : Int} (h0 : 0 ≤ i) (h1 : i < x.length) : (Txt.charAt x i).getD 0 = x.cps.getD i.toNat 0 := by
  unfold Txt.charAt seqIndex?
  have e : ¬ i < 0 := by omega
  simp only [e, if_false]
  have e2 : i.toNat < x.length := by omega
  rw [if_pos (by simp; omega)]
  show ((x.cps[i.toNat]?)).getD 0 = _
  rw [Array.getD_eq_getD_getElem?]
theorem semi_item {x : PySem.Str} {i : Int} (h0 : 0 ≤ i) (h1 : i < x.length) : (Txt.item x i == Str.ofString ";") = decide (x.cps.getD i.toNat 0 = 59) := by
  have : Txt.item x i = ⟨#[x.cps.getD i.toNat 0]⟩ := by show (⟨#[(Txt.charAt x i).getD 0]⟩ : PySem.Str) = _; rw [char_at h0 h1]
  rw [this, semi_is]
  by_cases h : x.cps.getD i.toNat 0 = 59
  · rw [h]; rfl
  · rw [decide_eq_false h]
    apply Bool.eq_false_iff.mpr
    intro q
    have := eq_of_beq q
    injection this with this
    injection this with this
    injection this with this
    exact h this
theorem find_semi {x : PySem.Str} {a : Int} (h0 : 0 ≤ a) (h1 : a ≤ x.length) : (Txt.find3 x (Str.ofString ";") a < 0 ∧ NoSemi x a) ∨ (¬ Txt.find3 x (Str.ofString ";") a < 0 ∧ SemiAt x a (Txt.find3 x (Str.ofString ";") a)) := by
  have hf : fromIndex x.length a = a.toNat := by
    unfold fromIndex
    rw [if_neg (by omega)]; omega
  rw [semi_is]
  rcases StrLaws.find3_spec x 59 a with ⟨h, hn⟩ | ⟨k, h, hlo, hk, hc, hn⟩
  · refine .inl ⟨by rw [h]; decide, fun i i0 i1 => ?_⟩
    rw [semi_item (by omega) i1, decide_eq_false (hn _ (by omega) (by omega))]
  · rw [h]
    refine .inr ⟨by omega, by omega, by omega, fun i i0 i1 => ?_, ?_⟩
    · rw [semi_item (by omega) (by omega), decide_eq_false (hn _ (by omega) (by omega))]
    · rw [semi_item (by omega) (by omega)]
      exact decide_eq_true (by simpa using hc)
theorem SemiAt.unique {x : PySem.Str} {a e e' : Int} (h : SemiAt x a e) (h' : SemiAt x a e') : e = e' := by
  obtain ⟨h1, h2, h3, h4⟩ := h
  obtain ⟨k1, k2, k3, k4⟩ := h'
  rcases Int.lt_trichotomy e e' with q | q | q
  · have := k3 e h1 q; rw [h4] at this; cases this
  · exact q
  · have := h3 e' k1 q; rw [k4] at this; cases this
theorem SemiAt.no {x : PySem.Str} {a e : Int} (h : SemiAt x a e) (h' : NoSemi x a) : False := by
  obtain ⟨h1, h2, h3, h4⟩ := h
  have := h' e h1 h2; rw [h4] at this; cases this
/-- what the guarded call of Pending.reference answers, and where it leaves the place -/
def Refd (x : PySem.Str) (a pl : Int) (v : Value) (a' : Int) : Prop :=
  (∃ e t, SemiAt x a e ∧ (hashed (wordAt x a e) || nameOk (wordAt x a e)) = true ∧ v = .str (wordAt x a e) t ∧ a' = e + 1) ∨
  ((NoSemi x a ∨ ∃ e, SemiAt x a e ∧ (hashed (wordAt x a e) || nameOk (wordAt x a e)) = false) ∧ (∃ t, v = .int pl t) ∧ a' = a)
section
variable {x : PySem.Str} {a pl : Int} {t tp : Tok}
theorem rd_none (h0 : 0 ≤ a) (h1 : a ≤ x.length) (q : Txt.find3 x (Str.ofString ";") a < 0) : Refd x a pl (.int pl tp) a := by
  rcases find_semi h0 h1 with ⟨_, h⟩ | ⟨h, _⟩
  · exact .inr ⟨.inl h, ⟨tp, rfl⟩, rfl⟩
  · exact absurd q h
theorem rd_at (h0 : 0 ≤ a) (h1 : a ≤ x.length) (q : ¬ Txt.find3 x (Str.ofString ";") a < 0) :
    ∃ e, SemiAt x a e ∧ e = Txt.find3 x (Str.ofString ";") a ∧ Txt.slice x (some (a + 1)) (some (if a > Txt.find3 x (Str.ofString ";") a then a else Txt.find3 x (Str.ofString ";") a)) = wordAt x a e := by
  rcases find_semi h0 h1 with ⟨h, _⟩ | ⟨_, h⟩
  · exact absurd h q
  · refine ⟨_, h, rfl, ?_⟩
    rw [if_neg (by have := h.1; omega)]
theorem rd_name (h0 : 0 ≤ a) (h1 : a ≤ x.length) (q : ¬ Txt.find3 x (Str.ofString ";") a < 0)
    (k : nameOk (Txt.slice x (some (a + 1)) (some (if a > Txt.find3 x (Str.ofString ";") a then a else Txt.find3 x (Str.ofString ";") a))) = true) :
    Refd x a pl (.str (Txt.slice x (some (a + 1)) (some (if a > Txt.find3 x (Str.ofString ";") a then a else Txt.find3 x (Str.ofString ";") a))) t) (Txt.find3 x (Str.ofString ";") a + 1) := by
  obtain ⟨e, h, he, hw⟩ := rd_at h0 h1 q
  rw [hw] at k ⊢
  exact .inl ⟨e, t, h, by rw [k, Bool.or_true], rfl, by rw [he]⟩
theorem rd_hash (h0 : 0 ≤ a) (h1 : a ≤ x.length) (q : ¬ Txt.find3 x (Str.ofString ";") a < 0)
    (k : (Txt.slice (Txt.slice x (some (a + 1)) (some (if a > Txt.find3 x (Str.ofString ";") a then a else Txt.find3 x (Str.ofString ";") a))) none (some 1) != Str.ofString "#") = false) :
    Refd x a pl (.str (Txt.slice x (some (a + 1)) (some (if a > Txt.find3 x (Str.ofString ";") a then a else Txt.find3 x (Str.ofString ";") a))) t) (Txt.find3 x (Str.ofString ";") a + 1) := by
  obtain ⟨e, h, he, hw⟩ := rd_at h0 h1 q
  rw [hw] at k ⊢
  have : hashed (wordAt x a e) = true := by unfold hashed; simpa using k
  exact .inl ⟨e, t, h, by rw [this, Bool.true_or], rfl, by rw [he]⟩
theorem rd_not (h0 : 0 ≤ a) (h1 : a ≤ x.length) (q : ¬ Txt.find3 x (Str.ofString ";") a < 0)
    (k : (Txt.slice (Txt.slice x (some (a + 1)) (some (if a > Txt.find3 x (Str.ofString ";") a then a else Txt.find3 x (Str.ofString ";") a))) none (some 1) != Str.ofString "#") = true)
    (k2 : nameOk (Txt.slice x (some (a + 1)) (some (if a > Txt.find3 x (Str.ofString ";") a then a else Txt.find3 x (Str.ofString ";") a))) = false) : Refd x a pl (.int pl tp) a := by
  obtain ⟨e, h, he, hw⟩ := rd_at h0 h1 q
  rw [hw] at k k2
  have : hashed (wordAt x a e) = false := by unfold hashed; simpa using k
  exact .inr ⟨.inr ⟨e, h, by rw [this, k2]; rfl⟩, ⟨tp, rfl⟩, rfl⟩
end
end Mine
namespace Mine
open PySem PySem.W PySem.Spec PySem.Calls PyProof.Rows
theorem refd_ans : ∀ (w : World) (p d : Addr) (k1 k2 k3 : Tok) (x : PySem.Str) (tx : Tok) (nm : Value) (a : Int) (ta : Tok) (own : Led) (pl : Int) (tp : Tok), @LT.lt Nat _ d p → OwnOff own [p, d] → Plain x → x.length ≤ 200 → 0 ≤ a → a ≤ x.length →
    Ans1 w 193 12 ((p, instObj 151 d) :: (d, dictOf (pend w k1 k2 k3 x tx nm a ta) 3) :: own) [.ref p, .int pl tp] (fun K => ∀ (v : Value) (a' : Int) (t' : Tok), Refd x a pl v a' → K v ((p, instObj 151 d) :: (d, dictOf (pend w k1 k2 k3 x tx nm a' t') 3) :: own)) := by
  intro w p d k1 k2 k3 x tx nm a₀ ta own pl tp hpd hoff hpl hlen ha0 ha1
  unfold Ans1
  k_fill
  intro mean mg mb dp un gd cn cs a ccd cl A₀ h₀ L m s Q E B F X N T hk hd hu hret
  refine wpAny_call ?_
  k_dflt (refine' code_defX ?k1 ?k2 ?k3 ?k4 ?k5 ?kA ?kF ?kK ?k6 ?k7 ?k8 ?k9 ?kB ?_ ?c2 ?c3 ?c4 ?c5; (case kA => exact rfl); (case kF => exact rfl); (case kK => assumption); (case k1 => k_asm); (case k2 => k_asm); (case k3 => k_asm); (case k4 => k_asm); (case k5 => k_asm); (case k6 => k_is); (case k7 => k_is); (case k8 => ktr_room); (case k9 => exact BindsTo.of_eq rfl); (case c5 => decide); (case kB => exact locs rfl); (case c2 => exact rfl); (case c3 => exact rfl); (case c4 => exact rfl); k_whole; intro g' L' h' FG' F' N' B' X' T'; (try dsimp only); (try k_lift B'); (try k_fold))
  (repeat' (first | (k_unfold; (try dsimp only)) | (k_end; wrow_close) | (k_here; (with_reducible show wpAny _ _ (getAttr (Value.ref _) (PySem.Str.ofString "place") _) _ _ _); k_dflt (refine' get_place ?F ?X ?N ?O ?_; (case N => with_reducible assumption); (case O => with_reducible assumption); (case F => k_asm); (case X => k_asm); k_whole)) | ((with_reducible show wpAny _ _ (noteFrame (Value.ref _) _) _ _ _); (k_here; k_dflt (refine' caught_X ?R ?F ?K ?U ?XB ?TB (fault_in _) ?ex ?_; (case R => with_reducible assumption); (case F => with_reducible assumption); (case K => with_reducible assumption); (case U => with_reducible assumption); (case XB => with_reducible assumption); (case TB => with_reducible assumption); (case ex => k_is); k_whole); intro h' g' tk' oe' T' F' N' O' B' X' P'; (try k_sweep))) | ((with_reducible show wpAny _ _ (leaving _ (Value.ref _)) _ _ _); (k_here; k_dflt (refine' leave_X ?k1 ?k2 ?k3 ?k4 ?_; (case k3 => with_reducible assumption); (case k1 => k_asm); (case k2 => k_asm); (case k4 => exact offs_ne (by with_reducible assumption) (by with_reducible assumption)); k_whole); intro h' R' U')) | ((with_reducible show wpAny _ _ (exec (Stmt.Raise (some _) none _) _) _ _ _); (k_here; k_dflt (refine' Raise_X ?h ?_; (case h => exact rfl)))) | ((with_reducible show wpAny _ _ (call (Value.ref _) _) _ _ _); (k_here; k_dflt (refine' Ans.goN (C := fault_ans _ _ _ _ _ _) (hret := ?_); intro e' t' d' k1' k2' off' lt' h' tk' F' N'); (try dsimp only); (try k_fold))) | ((with_reducible show wpAny _ _ (call (Value.ref _) _) _ _ _); (k_here; k_dflt (refine' Ans.goN (C := name_ans _ _ _ _ (by exact slice_plain (by omega) (by omega) (by assumption))) (hret := ?_); intro h' tk' F' N'); (try dsimp only); (try k_fold))) | walk1 | (dsimp only; walk1) | (leave1; walk_say "STEP leave1"; try dsimp only) | fail "no step"))
  any_goals ((with_reducible show RaisableX _ _ _); refine' raisable_X ?rxa (fault_in _) ?rxb ?rxc ?_; (case rxc => with_reducible assumption); (case rxa => k_asm); (case rxb => k_asm); (repeat' (first | (k_unfold; (try dsimp only)) | (k_end; wrow_close) | (k_here; (with_reducible show wpAny _ _ (getAttr (Value.ref _) (PySem.Str.ofString "place") _) _ _ _); k_dflt (refine' get_place ?F ?X ?N ?O ?_; (case N => with_reducible assumption); (case O => with_reducible assumption); (case F => k_asm); (case X => k_asm); k_whole)) | ((with_reducible show wpAny _ _ (noteFrame (Value.ref _) _) _ _ _); (k_here; k_dflt (refine' caught_X ?R ?F ?K ?U ?XB ?TB (fault_in _) ?ex ?_; (case R => with_reducible assumption); (case F => with_reducible assumption); (case K => with_reducible assumption); (case U => with_reducible assumption); (case XB => with_reducible assumption); (case TB => with_reducible assumption); (case ex => k_is); k_whole); intro h' g' tk' oe' T' F' N' O' B' X' P'; (try k_sweep))) | ((with_reducible show wpAny _ _ (leaving _ (Value.ref _)) _ _ _); (k_here; k_dflt (refine' leave_X ?k1 ?k2 ?k3 ?k4 ?_; (case k3 => with_reducible assumption); (case k1 => k_asm); (case k2 => k_asm); (case k4 => exact offs_ne (by with_reducible assumption) (by with_reducible assumption)); k_whole); intro h' R' U')) | ((with_reducible show wpAny _ _ (exec (Stmt.Raise (some _) none _) _) _ _ _); (k_here; k_dflt (refine' Raise_X ?h ?_; (case h => exact rfl)))) | ((with_reducible show wpAny _ _ (call (Value.ref _) _) _ _ _); (k_here; k_dflt (refine' Ans.goN (C := fault_ans _ _ _ _ _ _) (hret := ?_); intro e' t' d' k1' k2' off' lt' h' tk' F' N'); (try dsimp only); (try k_fold))) | ((with_reducible show wpAny _ _ (call (Value.ref _) _) _ _ _); (k_here; k_dflt (refine' Ans.goN (C := name_ans _ _ _ _ (by exact slice_plain (by omega) (by omega) (by assumption))) (hret := ?_); intro h' tk' F' N'); (try dsimp only); (try k_fold))) | walk1 | (dsimp only; walk1) | (leave1; walk_say "STEP leave1"; try dsimp only) | fail "no step")))
  all_goals first
    | exact hret _ _ _ (rd_none ha0 ha1 (by with_reducible assumption)) _ _ (by k_asm) (KStt.news_of (by with_reducible assumption) (by intro p hp; exact .tail _ (.tail _ hp)))
    | exact hret _ _ _ (rd_not ha0 ha1 (by with_reducible assumption) (by with_reducible assumption) (by with_reducible assumption)) _ _ (by k_asm) (KStt.news_of (by with_reducible assumption) (by intro p hp; exact .tail _ (.tail _ hp)))
    | exact hret _ _ _ (rd_name ha0 ha1 (by with_reducible assumption) (by with_reducible assumption)) _ _ (by k_asm) (by k_asm)
    | exact hret _ _ _ (rd_hash ha0 ha1 (by with_reducible assumption) (by with_reducible assumption)) _ _ (by k_asm) (by k_asm)
end Mine
namespace Mine
open PySem PySem.W PySem.Spec PySem.Calls PyProof.Rows
theorem no_raise1 {P : Prop} {x : PySem.Str} {a e : Int} (h0 : 0 ≤ a) (h1 : a ≤ x.length) (hs : SemiAt x a e) (q : Txt.find3 x (Str.ofString ";") a < 0) : P := by
  rcases find_semi h0 h1 with ⟨_, h⟩ | ⟨h, _⟩
  · exact (hs.no h).elim
  · exact absurd q h
theorem no_raise2 {P : Prop} {x : PySem.Str} {a e : Int} (h0 : 0 ≤ a) (h1 : a ≤ x.length) (hs : SemiAt x a e) (hw : (hashed (wordAt x a e) || nameOk (wordAt x a e)) = true) (q : ¬ Txt.find3 x (Str.ofString ";") a < 0)
    (k : (Txt.slice (Txt.slice x (some (a + 1)) (some (if a > Txt.find3 x (Str.ofString ";") a then a else Txt.find3 x (Str.ofString ";") a))) none (some 1) != Str.ofString "#") = true)
    (k2 : nameOk (Txt.slice x (some (a + 1)) (some (if a > Txt.find3 x (Str.ofString ";") a then a else Txt.find3 x (Str.ofString ";") a))) = false) : P := by
  obtain ⟨e', h, he, hw'⟩ := rd_at h0 h1 q
  rw [hw'] at k k2
  rw [hs.unique h] at hw
  have : hashed (wordAt x a e') = false := by unfold hashed; simpa using k
  rw [this, k2] at hw
  cases hw
theorem ref_ans : ∀ (w : World) (p d : Addr) (k1 k2 k3 : Tok) (x : PySem.Str) (tx : Tok) (nm : Value) (a : Int) (ta : Tok) (own : Led) (pl : Int) (tp : Tok) (e : Int), @LT.lt Nat _ d p → OwnOff own [p, d] → Plain x → x.length ≤ 200 → 0 ≤ a → a ≤ x.length →
    SemiAt x a e → (hashed (wordAt x a e) || nameOk (wordAt x a e)) = true →
    Ans w 148 12 ((p, instObj 151 d) :: (d, dictOf (pend w k1 k2 k3 x tx nm a ta) 3) :: own) [.ref p, .int pl tp] (fun K => ∀ t t', K (.str (wordAt x a e) t) ((p, instObj 151 d) :: (d, dictOf (pend w k1 k2 k3 x tx nm (e + 1) t') 3) :: own)) := by
  intro w p d k1 k2 k3 x tx nm a₀ ta own pl tp e hpd hoff hpl hlen ha0 ha1 hs hw
  unfold Ans
  k_fill
  intro mean mg mb dp un gd cn cs a ccd cl outer A₀ base h₀ L m s Q E B F X N T hk hd hu hret
  refine wpAny_call ?_
  k_dflt cell_enter
  (repeat' (first | (k_unfold; (try dsimp only)) | (k_end; wrow_close) | ((with_reducible show wpAny _ _ (exec (Stmt.Raise (some _) none _) _) _ _ _); (k_here; first | exact no_raise1 (by with_reducible assumption) (by with_reducible assumption) (by with_reducible assumption) (by with_reducible assumption) | exact no_raise2 (by with_reducible assumption) (by with_reducible assumption) (by with_reducible assumption) (by with_reducible assumption) (by with_reducible assumption) (by with_reducible assumption) (by with_reducible assumption))) | ((with_reducible show wpAny _ _ (call (Value.ref _) _) _ _ _); (k_here; k_dflt (refine' Ans.goN (C := name_ans _ _ _ _ (by exact slice_plain (by omega) (by omega) (by assumption))) (hret := ?_); intro h' tk' F' N'); (try dsimp only); (try k_fold))) | walk1 | (dsimp only; walk1) | (leave1; walk_say "STEP leave1"; try dsimp only) | fail "no step"))
  all_goals
    obtain ⟨e', h, he, hw'⟩ := rd_at ha0 ha1 (by with_reducible assumption)
    obtain rfl := hs.unique h
    rw [hw']
    subst he
    exact hret _ _ _ _ (by k_asm) (by k_asm)
theorem told_semi : SemiAt (Str.ofString "&a;b") 0 2 := by
  refine ⟨by decide, by decide +kernel, fun i h0 h1 => ?_, by decide +kernel⟩
  have : i = 0 ∨ i = 1 := by omega
  rcases this with rfl | rfl <;> decide +kernel
theorem told_word : wordAt (Str.ofString "&a;b") 0 2 = Str.ofString "a" := by decide +kernel
theorem told_ok : (hashed (wordAt (Str.ofString "&a;b") 0 2) || nameOk (wordAt (Str.ofString "&a;b") 0 2)) = true := by rw [told_word]; decide +kernel
theorem told_plain : Plain (Str.ofString "&a;b") := by
  have e : (Str.ofString "&a;b").cps.toList = [38, 97, 59, 98] := by decide +kernel
  intro c hc
  rw [e] at hc
  exact (by decide +kernel : ∀ c ∈ [38, 97, 59, 98], c ∈ signs) c hc
theorem told_ref : ∀ (w : World) (p d : Addr) (k1 k2 k3 : Tok) (tx : Tok) (nm : Value) (ta : Tok) (own : Led) (pl : Int) (tp : Tok), @LT.lt Nat _ d p → OwnOff own [p, d] →
    Ans w 148 12 ((p, instObj 151 d) :: (d, dictOf (pend w k1 k2 k3 (Str.ofString "&a;b") tx nm 0 ta) 3) :: own) [.ref p, .int pl tp] (fun K => ∀ t t', K (.str (Str.ofString "a") t) ((p, instObj 151 d) :: (d, dictOf (pend w k1 k2 k3 (Str.ofString "&a;b") tx nm 3 t') 3) :: own)) := by
  intro w p d k1 k2 k3 tx nm ta own pl tp h1 h2
  have := ref_ans w p d k1 k2 k3 (Str.ofString "&a;b") tx nm 0 ta own pl tp 2 h1 h2 told_plain (by decide +kernel) (by decide) (by decide +kernel) told_semi told_ok
  rw [told_word] at this
  exact this
theorem told_to {e : Int} (h : RunTo (Str.ofString "&a;b") (Str.ofString "&") 3 e) : e = 4 := by
  refine h.unique ⟨by decide, by decide +kernel, fun i h0 h1 => ?_, fun q => absurd q (by decide +kernel)⟩
  have : i = 3 := by omega
  subst this; decide +kernel
theorem told_run : ∀ (w : World) (p d : Addr) (k1 k2 k3 : Tok) (tx : Tok) (nm : Value) (ta : Tok) (own : Led) (tm : Tok), @LT.lt Nat _ d p → OwnOff own [p, d] →
    Ans w 141 1 ((p, instObj 151 d) :: (d, dictOf (pend w k1 k2 k3 (Str.ofString "&a;b") tx nm 3 ta) 3) :: own) [.ref p, .str (Str.ofString "&") tm] (fun K => ∀ t t', K (.str (Str.ofString "b") t) ((p, instObj 151 d) :: (d, dictOf (pend w k1 k2 k3 (Str.ofString "&a;b") tx nm 4 t') 3) :: own)) := by
  intro w p d k1 k2 k3 tx nm ta own tm h1 h2
  have := run_ans w p d k1 k2 k3 (Str.ofString "&a;b") tx nm 3 ta own (Str.ofString "&") tm h1 h2 (by decide +kernel) (by decide) (by decide +kernel)
  intro mean mg mb dp un gd cn cs a ccd cl outer A₀ base h₀ L m s Q E B F X N T hk hd hu hret
  refine this mean mg mb dp un gd cn cs a ccd cl outer A₀ base h₀ L m s Q E B F X N T hk hd hu ?_
  intro e t t' he
  obtain rfl := told_to he
  have : Txt.slice (Str.ofString "&a;b") (some 3) (some 4) = Str.ofString "b" := by decide +kernel
  rw [this]
  exact hret t t'
end Mine
namespace Mine
open PySem PySem.W PySem.Spec PySem.Calls PyProof.Rows
/-- the pieces of the law's texts -/
def pool : List PySem.Str := [Str.ofString "a", Str.ofString "&b;", Str.ofString "&", Str.ofString ";", Str.ofString "#", Str.ofString "x1", Str.ofString "%", Str.ofString "<", Str.ofString "&#65;", Str.ofString "1"]
/-- only signs of the law's; a 6 behind a # alone, a 5 behind a 6 alone -/
noncomputable def nice : Nat → List Nat → Bool
  | _, [] => true
  | q, c :: r => signs.contains c && (c != 54 || q == 35) && (c != 53 || q == 54) && nice c r
theorem pool_codes : ∀ p ∈ pool, p.cps.toList ∈ ([[97], [38, 98, 59], [38], [59], [35], [120, 49], [37], [60], [38, 35, 54, 53, 59], [49]] : List (List Nat)) := by decide +kernel
theorem piece_nice {p : PySem.Str} (hp : p ∈ pool) (q : Nat) {r : List Nat} (hr : ∀ q', nice q' r = true) : nice q (p.cps.toList ++ r) = true := by
  have := pool_codes p hp
  simp only [List.mem_cons, List.not_mem_nil, or_false] at this
  rcases this with h | h | h | h | h | h | h | h | h | h <;> rw [h] <;> simp [nice, signs, hr]
theorem piece_len {p : PySem.Str} (hp : p ∈ pool) : p.length ≤ 5 := by
  have : ∀ p ∈ pool, p.length ≤ 5 := by decide +kernel
  exact this p hp
theorem join_codes : ∀ us : List PySem.Str, (Str.join (Str.ofString "") us).cps.toList = (us.map fun u => u.cps.toList).flatten
  | [] => rfl
  | [x] => by simp [join_one]
  | x :: y :: r => by
    rw [join_cons_cons, cps_toList_append, cps_toList_append, join_codes (y :: r), signs_ofString]
    simp
theorem nice_flat : ∀ (us : List PySem.Str), (∀ u ∈ us, u ∈ pool) → ∀ q, nice q (us.map fun u => u.cps.toList).flatten = true
  | [], _, _ => rfl
  | u :: r, h, q => by
    rw [List.map_cons, List.flatten_cons]
    exact piece_nice (h u (.head _)) q (nice_flat r fun v hv => h v (.tail _ hv))
theorem flat_len : ∀ (us : List PySem.Str), (∀ u ∈ us, u ∈ pool) → (us.map fun u => u.cps.toList).flatten.length ≤ 5 * us.length
  | [], _ => Nat.le_refl _
  | u :: r, h => by
    have h1 := piece_len (h u (.head _))
    have h2 := flat_len r fun v hv => h v (.tail _ hv)
    rw [List.map_cons, List.flatten_cons, List.length_append, List.length_cons]
    have h3 : u.cps.toList.length = u.length := by rw [Array.length_toList]; rfl
    omega
theorem nice_signs : ∀ {l : List Nat} {q : Nat}, nice q l = true → ∀ c ∈ l, c ∈ signs
  | c :: r, q, h, d, hd => by
    simp only [nice, Bool.and_eq_true] at h
    rcases List.mem_cons.mp hd with rfl | hd
    · simpa using h.1.1.1
    · exact nice_signs h.2 d hd
theorem nice_take : ∀ {l : List Nat} {q : Nat} (j : Nat), nice q l = true → nice q (l.take j) = true
  | [], _, _, _ => by simp [nice]
  | c :: r, q, 0, _ => by simp [nice]
  | c :: r, q, j + 1, h => by
    simp only [nice, Bool.and_eq_true] at h
    simp only [List.take_succ_cons, nice, Bool.and_eq_true]
    exact ⟨h.1, nice_take j h.2⟩
theorem nice_drop : ∀ {l : List Nat} {q : Nat} (i : Nat), nice q l = true → ∃ q', nice q' (l.drop i) = true
  | l, q, 0, h => ⟨q, by simpa using h⟩
  | [], q, i + 1, _ => ⟨q, by simp [nice]⟩
  | c :: r, q, i + 1, h => by
    simp only [nice, Bool.and_eq_true] at h
    simpa using nice_drop i h.2
def base4 (c : Nat) : Bool := c == 97 || c == 98 || c == 120 || c == 49
theorem chars_base : ∀ {l : List Nat} {q : Nat}, nice q l = true → q ≠ 35 → q ≠ 54 → l.all charOk = true → l.all base4 = true
  | [], _, _, _, _, _ => rfl
  | c :: r, q, h, h1, h2, h3 => by
    simp only [nice, Bool.and_eq_true, Bool.or_eq_true, bne_iff_ne, beq_iff_eq] at h
    obtain ⟨⟨⟨_, k1⟩, k2⟩, k3⟩ := h
    simp only [List.all_cons, Bool.and_eq_true] at h3 ⊢
    have c1 : c ≠ 54 := fun z => k1.elim (fun y => y z) h1
    have c2 : c ≠ 53 := fun z => k2.elim (fun y => y z) h2
    have hc := h3.1
    simp only [charOk, Bool.or_eq_true, beq_iff_eq] at hc
    have n1 : c ≠ 35 := by rintro rfl; exact absurd h3.1 (by decide)
    refine ⟨?_, chars_base k3 n1 c1 h3.2⟩
    clear n1 k1 k2 k3 h3
    rcases hc with ((((rfl | rfl) | rfl) | rfl) | rfl) | rfl <;> first | rfl | exact absurd rfl c1 | exact absurd rfl c2
theorem base_chars {l : List Nat} (h : l.all base4 = true) : l.all charOk = true := by
  rw [List.all_eq_true] at h ⊢
  intro c hc
  have := h c hc
  clear h hc
  simp only [base4, Bool.or_eq_true, beq_iff_eq] at this
  rcases this with ((rfl | rfl) | rfl) | rfl <;> rfl
theorem other_is (c : Nat) : other c = !base4 c := by
  have h := StrLaws.found_one (Str.ofString "abx1") c
  have hl : (Str.ofString "abx1").cps.toList = [97, 98, 120, 49] := by decide +kernel
  rw [hl] at h
  unfold other
  have e : (Builtin.Str.occurrences (Str.ofString "abx1") ⟨#[c]⟩ 0 (Str.ofString "abx1").length 1).isEmpty = !(decide (c ∈ [97, 98, 120, 49])) := by rw [← h, Bool.not_not]
  rw [e]
  unfold base4
  by_cases h1 : c = 97 <;> by_cases h2 : c = 98 <;> by_cases h3 : c = 120 <;> by_cases h4 : c = 49 <;> simp [h1, h2, h3, h4]
theorem item_first' {w : PySem.Str} {c : Nat} {r : List Nat} (h : w.cps.toList = c :: r) : Txt.item w 0 = ⟨#[c]⟩ := by
  have hl : w.length = r.length + 1 := by
    have : w.cps.toList.length = w.length := by rw [Array.length_toList]; rfl
    rw [← this, h, List.length_cons]
  show (⟨#[(Txt.charAt w 0).getD 0]⟩ : PySem.Str) = _
  rw [char_at (by decide) (by omega)]
  have : w.cps.getD 0 0 = c := by
    rw [Array.getD_eq_getD_getElem?, ← Array.getElem?_toList, h]; rfl
  rw [show (0 : Int).toNat = 0 from rfl, this]
theorem one_is : (Str.ofString "1" : PySem.Str) = ⟨#[49]⟩ := by decide +kernel
theorem name_law {w : PySem.Str} {q : Nat} (hn : nice q w.cps.toList = true) : nameOk w = lawName w := by
  cases hw : w.cps.toList with
  | nil =>
    have : w = Str.ofString "" := str_eq (by rw [hw, signs_ofString]; rfl)
    rw [this, empty_is]; decide +kernel
  | cons c r =>
    rw [hw] at hn
    have h1 : (w != Str.ofString "") = true := by
      rw [bne_iff_ne]; intro z; rw [z, signs_ofString] at hw; cases hw
    have h2 : nameOk w = (startOk c && (c :: r).all charOk) := by unfold nameOk; rw [hw]
    have h3 : (Txt.item w 0 != Str.ofString "1") = (c != 49) := by
      rw [item_first' hw, one_is]
      by_cases h : c = 49
      · subst h; rfl
      · have e : (c != 49) = true := by simpa using h
        rw [e, bne_iff_ne]
        intro z
        injection z with z
        injection z with z
        injection z with z
        exact h z
    have h4 : ((c :: r).filter other).isEmpty = (c :: r).all base4 := by
      rw [Bool.eq_iff_iff, List.isEmpty_iff, List.filter_eq_nil_iff, List.all_eq_true]
      constructor
      · intro h d hd; have := h d hd; rw [other_is] at this; simpa using this
      · intro h d hd; rw [other_is, h d hd]; decide
    have h5 : lawName w = ((c != 49) && (c :: r).all base4) := by
      unfold lawName; rw [hw, h1, h3, h4]; rfl
    rw [h2, h5, Bool.eq_iff_iff, Bool.and_eq_true, Bool.and_eq_true]
    simp only [nice, Bool.and_eq_true] at hn
    constructor
    · rintro ⟨k1, k2⟩
      simp only [List.all_cons, Bool.and_eq_true] at k2 ⊢
      simp only [startOk, Bool.or_eq_true, beq_iff_eq] at k1
      refine ⟨by rw [bne_iff_ne]; omega, by simp only [base4, Bool.or_eq_true, beq_iff_eq]; omega, chars_base hn.2 (by omega) (by omega) k2.2⟩
    · rintro ⟨k1, k2⟩
      refine ⟨?_, base_chars k2⟩
      simp only [List.all_cons, Bool.and_eq_true] at k2
      have := k2.1
      rw [bne_iff_ne] at k1
      simp only [base4, Bool.or_eq_true, beq_iff_eq] at this
      simp only [startOk, Bool.or_eq_true, beq_iff_eq]
      omega
/-- a text as the law makes it -/
structure Nice (x : PySem.Str) : Prop where
  nice : nice 0 x.cps.toList = true
  len : x.length ≤ 90
theorem Nice.plain {x : PySem.Str} (h : Nice x) : Plain x := nice_signs h.nice
theorem Nice.join {us : List PySem.Str} (h : ∀ u ∈ us, u ∈ pool) (hl : us.length ≤ 18) : Nice (Str.join (Str.ofString "") us) := by
  refine ⟨by rw [join_codes]; exact nice_flat us h 0, ?_⟩
  have h1 : (Str.join (Str.ofString "") us).cps.toList.length = (Str.join (Str.ofString "") us).length := by rw [Array.length_toList]; rfl
  have h2 := flat_len us h
  rw [← join_codes, h1] at h2
  omega
theorem Nice.word {x : PySem.Str} (h : Nice x) {a e : Int} (h0 : 0 ≤ a) (h1 : 0 ≤ e) : (hashed (wordAt x a e) || nameOk (wordAt x a e)) = (hashed (wordAt x a e) || lawName (wordAt x a e)) := by
  have hs := slice_list (x := x) (i := a + 1) (j := e) (by omega) h1
  obtain ⟨q, hq⟩ := nice_drop (a + 1).toNat (nice_take e.toNat h.nice)
  rw [← hs] at hq
  rw [name_law hq]
end Mine
namespace Mine
open PySem PySem.W PySem.Spec PySem.Calls PyProof.Rows
theorem off_nil {l : List Addr} : OwnOff [] l := fun _ h => nomatch h
theorem off_cons {q : Addr × Obj} {a b : Addr} {r : Led} (h1 : q.1 ≠ a) (h2 : q.1 ≠ b) (h : OwnOff r [a, b]) : OwnOff (q :: r) [a, b] := fun p hp c hc => by
  rcases List.mem_cons.mp hp with rfl | hp
  · simp only [List.mem_cons, List.not_mem_nil, or_false] at hc
    rcases hc with rfl | rfl <;> assumption
  · exact h p hp c hc
/-- no word stands at the place, as the law's own code sees it -/
def NoWord (x : PySem.Str) (a : Int) : Prop := NoSemi x a ∨ ∃ e, SemiAt x a e ∧ (hashed (wordAt x a e) || lawName (wordAt x a e)) = false
def IsWord (x : PySem.Str) (a e : Int) : Prop := SemiAt x a e ∧ (hashed (wordAt x a e) || lawName (wordAt x a e)) = true
theorem lw_two {x : PySem.Str} {a : Int} {K : Value → Prop} (h1 : NoWord x a → K .none) (h2 : ∀ e t, IsWord x a e → K (.str (wordAt x a e) t)) : ∀ v, LawWord x a v → K v := by
  rintro v (⟨h, rfl⟩ | ⟨e, h, ⟨k, t, rfl⟩ | ⟨k, rfl⟩⟩)
  · exact h1 (.inl h)
  · exact h2 e t ⟨h, k⟩
  · exact h1 (.inr ⟨e, h, k⟩)
theorem refd_no : ∀ (w : World) (p d : Addr) (k1 k2 k3 : Tok) (x : PySem.Str) (tx : Tok) (nm : Value) (a : Int) (ta : Tok) (own : Led) (pl : Int) (tp : Tok), @LT.lt Nat _ d p → OwnOff own [p, d] → Nice x → 0 ≤ a → a ≤ x.length → NoWord x a →
    Ans1 w 193 12 ((p, instObj 151 d) :: (d, dictOf (pend w k1 k2 k3 x tx nm a ta) 3) :: own) [.ref p, .int pl tp] (fun K => ∀ (t t' : Tok), K (.int pl t) ((p, instObj 151 d) :: (d, dictOf (pend w k1 k2 k3 x tx nm a t') 3) :: own)) := by
  intro w p d k1 k2 k3 x tx nm a₀ ta own pl tp hpd hoff hn ha0 ha1 hw mean mg mb dp un gd cn cs a ccd cl A₀ h₀ L m s Q E B F X N T hk hd hu hret
  have hl := hn.len
  refine refd_ans w p d k1 k2 k3 x tx nm a₀ ta own pl tp hpd hoff hn.plain (by omega) ha0 ha1 mean mg mb dp un gd cn cs a ccd cl A₀ h₀ L m s Q E B F X N T hk hd hu ?_
  rintro v a' t' (⟨e, t, hs, k, rfl, rfl⟩ | ⟨_, ⟨t, rfl⟩, rfl⟩)
  · have he := hs.1
    rw [hn.word ha0 (by omega)] at k
    rcases hw with hw | ⟨e', hs', k'⟩
    · exact (hs.no hw).elim
    · rw [hs.unique hs', k'] at k; cases k
  · exact hret t t'
theorem refd_is : ∀ (w : World) (p d : Addr) (k1 k2 k3 : Tok) (x : PySem.Str) (tx : Tok) (nm : Value) (a : Int) (ta : Tok) (own : Led) (pl : Int) (tp : Tok) (e : Int), @LT.lt Nat _ d p → OwnOff own [p, d] → Nice x → 0 ≤ a → a ≤ x.length → IsWord x a e →
    Ans1 w 193 12 ((p, instObj 151 d) :: (d, dictOf (pend w k1 k2 k3 x tx nm a ta) 3) :: own) [.ref p, .int pl tp] (fun K => ∀ (t t' : Tok), K (.str (wordAt x a e) t) ((p, instObj 151 d) :: (d, dictOf (pend w k1 k2 k3 x tx nm (e + 1) t') 3) :: own)) := by
  intro w p d k1 k2 k3 x tx nm a₀ ta own pl tp e hpd hoff hn ha0 ha1 hw mean mg mb dp un gd cn cs a ccd cl A₀ h₀ L m s Q E B F X N T hk hd hu hret
  have hl := hn.len
  obtain ⟨hs, k⟩ := hw
  have he := hs.1
  rw [← hn.word ha0 (by omega)] at k
  refine refd_ans w p d k1 k2 k3 x tx nm a₀ ta own pl tp hpd hoff hn.plain (by omega) ha0 ha1 mean mg mb dp un gd cn cs a ccd cl A₀ h₀ L m s Q E B F X N T hk hd hu ?_
  rintro v a' t' (⟨e', t, hs', k', rfl, rfl⟩ | ⟨h, ⟨t, rfl⟩, rfl⟩)
  · obtain rfl := hs.unique hs'
    exact hret t t'
  · rcases h with h | ⟨e', hs', k'⟩
    · exact (hs.no h).elim
    · rw [← hs.unique hs', k] at k'; cases k'
theorem Ans1.use {w : World} {f : Addr} {dep : Nat} {news : Led} {vs : List Value} {Post : (Value → Led → Prop) → Prop} (C : Ans1 w f dep news vs Post)
    {mean : ExcName → Option Value} {mg mb : PySem.Str → Option Value} {dp un : Nat} {gd : Option (List Code)} {cn : PySem.Str} {cs : Scope} {a : Addr} {ccd : Value} {cl : List (PySem.Str × Addr)} {A₀ : Around} {h₀ : Heap} {L : Addr} {m : PySem.Str → Option Value} {s : Shared} {Q E : Value → Shared → Prop}
    (B : Below A₀ h₀ [] h₀) (F : Fr h₀ L s.heap m) (X : (topH.heap_39 w.params).In h₀) (N : News h₀ L s.heap news) (T : Top topH.view_39 LO mean mg mb h₀) (hk : cs.kind = .function) (hd : dp + dep < recursionLimit) (hu : un + 8 * dep < cLine)
    (hret : Post (Go h₀ L m s Q)) :
    wpAny (model PySem.Challenge.rw_xm0655_01.row.prog w) (ktrTop dp un gd cn cs L a ccd cl []) (call (.ref f) vs) Q E s :=
  C mean mg mb dp un gd cn cs a ccd cl A₀ h₀ L m s Q E B F X N T hk hd hu hret
theorem news_pick {h₀ h : Heap} {L : Addr} {t p d D l S i e c1 c2 : Addr × Obj} (N : News h₀ L h [t, p, d, D, l, S, i, e, c1, c2]) : News h₀ L h [p, d, S, c1, c2] := fun q hq => N q (by
  simp only [List.mem_cons, List.not_mem_nil, or_false] at hq ⊢
  rcases hq with rfl | rfl | rfl | rfl | rfl <;> simp)
theorem off_two {l : Led} {a b : Addr} {r : List Addr} (h : OwnOff l (a :: b :: r)) : OwnOff l [a, b] := fun p hp c hc => h p hp c (by
  simp only [List.mem_cons, List.not_mem_nil, or_false] at hc ⊢
  rcases hc with rfl | rfl <;> simp)
theorem run_is : ∀ (w : World) (p d : Addr) (k1 k2 k3 : Tok) (x : PySem.Str) (tx : Tok) (nm : Value) (a : Int) (ta : Tok) (own : Led) (mk : PySem.Str) (tm : Tok) (e : Int), @LT.lt Nat _ d p → OwnOff own [p, d] → x.length ≤ 200 → 0 ≤ a → a ≤ x.length → RunTo x mk a e →
    Ans w 141 1 ((p, instObj 151 d) :: (d, dictOf (pend w k1 k2 k3 x tx nm a ta) 3) :: own) [.ref p, .str mk tm] (fun K => ∀ (t t' : Tok), K (.str (Txt.slice x (some a) (some e)) t) ((p, instObj 151 d) :: (d, dictOf (pend w k1 k2 k3 x tx nm e t') 3) :: own)) := by
  intro w p d k1 k2 k3 x tx nm a₀ ta own mk tm e h1 h2 h3 h4 h5 he mean mg mb dp un gd cn cs a ccd cl outer A₀ base h₀ L m s Q E B F X N T hk hd hu hret
  refine run_ans w p d k1 k2 k3 x tx nm a₀ ta own mk tm h1 h2 h3 h4 h5 mean mg mb dp un gd cn cs a ccd cl outer A₀ base h₀ L m s Q E B F X N T hk hd hu ?_
  intro e' t t' he'
  obtain rfl := he.unique he'
  exact hret t t'
theorem pool_get {n : Nat} (h : n < 10) : pool.getD n PySem.Str.empty ∈ pool := by
  rw [List.getD_eq_getElem?_getD, List.getElem?_eq_getElem (by exact h)]
  exact List.getElem_mem _
theorem lt_ite {v : Int} {c : Bool} (h : v < if c = true then 19 else 8) : v < 19 := by
  cases c
  · simp only [Bool.false_eq_true, if_false] at h; omega
  · simpa using h
section
variable {prog : Program} {w : World} {A : Around} {E : Value → Shared → Prop} {s : Shared} {env : Env} {h₀ : Heap} {L : Addr} {m : PySem.Str → Option Value} {news : Led}
theorem ifexp_const {test : PySem.Expr} {a b : Int} {ka kb : Nat} {pa pb pos : Pos} {Q : Value → Shared → Prop}
    (h : wpAny (model prog w) A (isTrue test env (eval test env)) (fun c s' => Q (.int (if c = true then a else b) s'.toks) { s' with toks := s'.toks + 1 }) E s) :
    wpAny (model prog w) A (eval (.IfExp test (.Constant (.int a) ka pa) (.Constant (.int b) kb pb) pos) env) Q E s := by
  refine IfExp_ (wpAny_mono h (fun c s' hq => ?_) fun _ _ e => e)
  cases c
  · exact wpAny_Constant_int hq
  · exact wpAny_Constant_int hq
/-- a number below top was drawn, or none -/
def Drawn (h₀ : Heap) (L : Addr) (m : PySem.Str → Option Value) (g : Obj → Led) (s : Shared) (top : Int) (v : Value) (s' : Shared) : Prop :=
  ∃ (n x y : Int) (t t1 t2 : Tok) (h' : Heap) (tk : Nat), v = .int n t ∧ 0 ≤ n ∧ n < top ∧ 0 ≤ x ∧ s' = { s with heap := h', toks := tk } ∧ Fr h₀ L h' m ∧ News h₀ L h' (g (listOf #[.int x t1, .int y t2] 0))
theorem join_drawn {e : PySem.Expr} {S : Addr} {x y : Int} {tx ty : Tok} {g : Obj → Led} (top : Int) {Q : Value → Shared → Prop} (_F : Fr h₀ L s.heap m) (_N : News h₀ L s.heap news) (_U : UpdF S (listOf #[.int x tx, .int y ty] 0) news g)
    (h : wpAny (model prog w) A (eval e env) (Drawn h₀ L m g s top) E s)
    (k : ∀ (n x y : Int) (t t1 t2 : Tok) (h' : Heap) (tk : Nat), 0 ≤ n → n < top → 0 ≤ x → Fr h₀ L h' m → News h₀ L h' (g (listOf #[.int x t1, .int y t2] 0)) → Q (.int n t) { s with heap := h', toks := tk }) :
    wpAny (model prog w) A (eval e env) Q E s := by
  refine wpAny_mono h (fun v s' hq => ?_) fun _ _ e => e
  obtain ⟨n, x, y, t, t1, t2, h', tk, rfl, a1, a2, a3, rfl, F', N'⟩ := hq
  exact k n x y t t1 t2 h' tk a1 a2 a3 F' N'
theorem Drawn.mk {g : Obj → Led} {top n x y : Int} {t t1 t2 : Tok} {h' : Heap} {tk : Nat} (F : Fr h₀ L h' m) (N : News h₀ L h' (g (listOf #[.int x t1, .int y t2] 0))) (h1 : 0 ≤ n) (h2 : n < top) (h3 : 0 ≤ x) :
    Drawn h₀ L m g s top (.int n t) { s with heap := h', toks := tk } := ⟨n, x, y, t, t1, t2, h', tk, rfl, h1, h2, h3, rfl, F, N⟩
/-- a comprehension without a test whose turns may turn the ledger -/
theorem comp_each {elt : PySem.Expr} {x : PySem.Str} {scope : Scope} {cl : List (PySem.Str × Addr)} {S : Led → Prop} {P : Nat → Value → Prop} {Fin : List Value → Led → Prop} {σ : Type} (mk : σ → Led) (ok : σ → Prop) (good : PySem.Str → Prop) (n : Nat) (c₀ : σ) (h0 : ok c₀)
    (turn : ∀ c ys I oI C oC D m₂ h tk (E' : Value → Shared → Prop), ok c → LCg.NsObj oC m₂ → Fr h₀ L h m → News h₀ L h ((I, oI) :: (C, oC) :: (D, LCg.lst ys) :: mk c) → LCg.Off3 I C D (mk c) → ((@Ne Nat I C) ∧ (@Ne Nat I D) ∧ (@Ne Nat C D)) →
      wpAny (model prog w) A (eval elt (compEnvC scope cl C env)) (LCg.CompEnd h₀ L m { s with heap := h, toks := tk } I oI C oC D (LCg.lst ys) S (fun y news' => ∃ c' u t, news' = mk c' ∧ ok c' ∧ good u ∧ y = .str u t)) E' { s with heap := h, toks := tk })
    (fin : ∀ c ys us, ok c → StrsAre ys us → us.length = n → (∀ u ∈ us, good u) → Fin ys (mk c)) :
    LCg.CompRest prog w A h₀ L m env elt x scope cl s S P Fin n 0 [] (mk c₀) := by
  have key : ∀ (j i : Nat) (ys : List Value) (us : List PySem.Str) (c : σ), us.length + j = n → ok c → StrsAre ys us → (∀ u ∈ us, good u) → LCg.CompRest prog w A h₀ L m env elt x scope cl s S P Fin j i ys (mk c) := by
    intro j
    induction j with
    | zero => intro i ys us c hn hc hy hg; exact LCg.CompRest.zero (fin c ys us hc hy (by omega) hg)
    | succ j ih =>
      intro i ys us c hn hc hy hg
      refine LCg.CompRest.succ ?_
      intro v I oI C oC D m₂ h tk E' _ hC _ F N off ne
      refine wpAny_mono (turn c ys I oI C oC D m₂ h tk E' hc hC F N off ne) (fun y s₃ hr => ?_) fun _ _ e => e
      obtain ⟨h', tk', nw, e, F', N', off', hS, c', u, t, hn', hc', hu, rfl⟩ := hr
      subst hn'
      refine ⟨h', tk', mk c', e, F', N', off', hS, ih (i + 1) _ (us ++ [u]) c' (by rw [List.length_append, List.length_singleton]; omega) hc' (StrsAre.append' hy (.cons _ t .nil)) ?_⟩
      intro z hz
      rcases List.mem_append.mp hz with hz | hz
      · exact hg z hz
      · rw [List.mem_singleton.mp hz]; exact hu
  exact key n 0 [] [] c₀ (by simp) h0 .nil (fun _ h => nomatch h)
theorem comp_drawn {elt : PySem.Expr} {x : PySem.Str} {scope : Scope} {cl : List (PySem.Str × Addr)} {S : Led → Prop} {P : Nat → Value → Prop} {Fin : List Value → Led → Prop} (good : PySem.Str → Prop) {n : Nat} {src : Addr} {x₀ y₀ : Int} {tx ty : Tok} {g : Obj → Led}
    (U : UpdF src (listOf #[.int x₀ tx, .int y₀ ty] 0) news g) (h0 : 0 ≤ x₀)
    (turn : ∀ (x₁ y₁ : Int) (t1 t2 : Tok) ys I oI C oC D m₂ h tk (E' : Value → Shared → Prop), 0 ≤ x₁ → LCg.NsObj oC m₂ → Fr h₀ L h m → News h₀ L h ((I, oI) :: (C, oC) :: (D, LCg.lst ys) :: g (listOf #[.int x₁ t1, .int y₁ t2] 0)) → LCg.Off3 I C D (g (listOf #[.int x₁ t1, .int y₁ t2] 0)) → ((@Ne Nat I C) ∧ (@Ne Nat I D) ∧ (@Ne Nat C D)) →
      wpAny (model prog w) A (eval elt (compEnvC scope cl C env)) (LCg.CompEnd h₀ L m { s with heap := h, toks := tk } I oI C oC D (LCg.lst ys) S (fun y news' => ∃ (x' y' : Int) (t1' t2' : Tok) (u : PySem.Str) (t : Tok), news' = g (listOf #[.int x' t1', .int y' t2'] 0) ∧ 0 ≤ x' ∧ good u ∧ y = .str u t)) E' { s with heap := h, toks := tk })
    (fin : ∀ (x₁ y₁ : Int) (t1 t2 : Tok) ys us, 0 ≤ x₁ → StrsAre ys us → us.length = n → (∀ u ∈ us, good u) → Fin ys (g (listOf #[.int x₁ t1, .int y₁ t2] 0))) :
    LCg.CompRest prog w A h₀ L m env elt x scope cl s S P Fin n 0 [] news := by
  obtain ⟨pre, post, rfl, hg, _, _⟩ := U.split
  have e : pre ++ (src, listOf #[.int x₀ tx, .int y₀ ty] 0) :: post = (fun c : Int × Int × Tok × Tok => g (listOf #[.int c.1 c.2.2.1, .int c.2.1 c.2.2.2] 0)) (x₀, y₀, tx, ty) := (hg _).symm
  rw [e]
  refine comp_each (fun c : Int × Int × Tok × Tok => g (listOf #[.int c.1 c.2.2.1, .int c.2.1 c.2.2.2] 0)) (fun c => 0 ≤ c.1) good n (x₀, y₀, tx, ty) h0 (fun c ys I oI C oC D m₂ h tk E' hc hC F N off ne => ?_) (fun c ys us hc hy hl hu => fin _ _ _ _ ys us hc hy hl hu)
  refine wpAny_mono (turn c.1 c.2.1 c.2.2.1 c.2.2.2 ys I oI C oC D m₂ h tk E' hc hC F N off ne) (fun y s₃ hr => ?_) fun _ _ e => e
  obtain ⟨h', tk', nw, e', F', N', off', hS, x', y', t1', t2', u, t, hn', hc', hu, hy'⟩ := hr
  exact ⟨h', tk', nw, e', F', N', off', hS, (x', y', t1', t2'), u, t, hn', hc', hu, hy'⟩
theorem sum_len : ∀ (us : List PySem.Str), (∀ u ∈ us, u ∈ pool) → (us.map (·.length)).sum ≤ 5 * us.length
  | [], _ => Nat.le_refl _
  | u :: r, h => by
    have h1 := piece_len (h u (.head _))
    have h2 := sum_len r fun v hv => h v (.tail _ hv)
    rw [List.map_cons, List.sum_cons, List.length_cons]
    omega
theorem join_nice {D : Addr} {ys : List Value} {us : List PySem.Str} {t : Tok} {Q : Value → Shared → Prop} (N : News h₀ L s.heap news) (hm : (D, LCg.lst ys) ∈ news) (hi : StrsAre ys us) (hu : ∀ u ∈ us, u ∈ pool) (hl : us.length ≤ 18)
    (h : ∀ x t' k, Nice x → Q (.str x t') { s with toks := k }) : wpAny (model prog w) A (call (.builtin "str.join") [.str (Str.ofString "") t, .ref D]) Q E s :=
  join_list (items := ys.toArray) ⟨_, (N _ hm).1, rfl, ys.length, rfl⟩ hi (by
    have h1 := sum_len us hu
    have h2 : (Str.ofString "" : PySem.Str).length = 0 := by decide +kernel
    rw [h2]; omega) fun t' k => h _ t' k (by rw [eq_of_beq (join_plain_closes (Str.ofString "") us)]; exact Nice.join hu hl)
end
abbrev LawSt : Type := Int × Int × Tok × Tok × Int × Tok × Tok
abbrev lawLed (w : World) (p d S c1 c2 : Addr) (o1 o2 : Obj) (k1 k2 k3 : Tok) (x : PySem.Str) (tx : Tok) (nm : Value) (c : LawSt) : Led :=
  [(p, instObj 151 d), (d, dictOf (pend w k1 k2 k3 x tx nm c.2.2.2.2.1 c.2.2.2.2.2.1) 3), (S, listOf #[.int c.1 c.2.2.1, .int c.2.1 c.2.2.2.1] 0), (c1, o1), (c2, o2)]
abbrev lawPs (c : LawSt) : List (PySem.Str × Value) := [(Str.ofString "at", .int c.2.2.2.2.1 c.2.2.2.2.2.2)]
abbrev lawFacts (x : PySem.Str) (c : LawSt) : Prop := 0 ≤ c.1 ∧ 0 ≤ c.2.2.2.2.1 ∧ c.2.2.2.2.1 ≤ x.length
abbrev lawStored : List PySem.Str := [Str.ofString "marks", Str.ofString "end", Str.ofString "word"]
section
variable {prog : Program} {w : World} {A : Around} {E : Value → Shared → Prop} {s : Shared} {env : Env} {h₀ : Heap} {m₀ : PySem.Str → Option Value} {body : List Stmt} {Q : Flow → Shared → Prop}
theorem law_loop {r : Addr} {b₀ : Int} {t₀ u₀ v₀ : Tok} {p d S c1 c2 : Addr} {o1 o2 : Obj} {k1 k2 k3 : Tok} {x : PySem.Str} {tx : Tok} {nm : Value} {x₀ y₀ a₀ : Int} {t1 t2 ta tl : Tok}
    (hh : A.handled = none) (hr : IsRange s.heap r 0 b₀ 1 t₀ u₀ v₀) (hb0 : 0 ≤ b₀) (hb1 : b₀ ≤ 100) (F : Fr h₀ env.locals s.heap m₀)
    (N : News h₀ env.locals s.heap [(p, instObj 151 d), (d, dictOf (pend w k1 k2 k3 x tx nm a₀ ta) 3), (S, listOf #[.int x₀ t1, .int y₀ t2] 0), (c1, o1), (c2, o2)])
    (hx0 : 0 ≤ x₀) (ha0 : 0 ≤ a₀) (ha1 : a₀ ≤ x.length) (hk : m₀ (Str.ofString "at") = some (.int a₀ tl))
    (turn : ∀ (pre : List Int) (x₁ y₁ : Int) (t1 t2 : Tok) (a : Int) (ta tl : Tok) (k : Int) (t : Tok) (u : PySem.Str → Option Value) (h : Heap) (tk : Tok) (own : Led), 0 ≤ k → k < 100 → OwnOff own [p, d, S, c1, c2] → 0 ≤ x₁ → 0 ≤ a → a ≤ x.length →
      Fr h₀ env.locals h (fun y => if y = Str.ofString "turn" then some (.int k t) else kstB (fun z => if lawStored.contains z then u z else m₀ z) [(Str.ofString "at", .int a tl)] y) →
      News h₀ env.locals h ((p, instObj 151 d) :: (d, dictOf (pend w k1 k2 k3 x tx nm a ta) 3) :: (S, listOf #[.int x₁ t1, .int y₁ t2] 0) :: (c1, o1) :: (c2, o2) :: own) →
      wpAny (model prog w) A (execs body env) (InvPostN h₀ env.locals (KstS (lawLed w p d S c1 c2 o1 o2 k1 k2 k3 x tx nm) lawPs (lawFacts x) (Str.ofString "turn") lawStored m₀ (fun _ _ => True) (pre ++ [k])) own [p, d, S, c1, c2] { s with heap := h, toks := tk } Q) E { s with heap := h, toks := tk })
    (done : ∀ (h : Heap) (tk : Tok) (m : PySem.Str → Option Value), Fr h₀ env.locals h m → News h₀ env.locals h [(c1, o1), (c2, o2)] → Q .next { s with heap := h, toks := tk }) :
    wpAny (model prog w) A (pyIter (.ref r)) (fun it s₂ => LoopAtV prog w A h₀ env (Str.ofString "turn") body Q E it s₂) E s := by
  refine kst_range (n := (b₀ - 0).toNat) (lawLed w p d S c1 c2 o1 o2 k1 k2 k3 x tx nm) lawPs (lawFacts x) lawStored (fun _ _ => True) (x₀, y₀, t1, t2, a₀, ta, tl) hh hr (small_one (by omega) (by omega) (by omega) (by omega)) (rangeSize_nat _ _) F N ⟨hx0, ha0, ha1⟩ ?_ trivial ?_ ?_
  · intro q hq
    rw [List.mem_singleton.mp hq]
    exact hk
  · intro c pre k t u h tk own hk1 hk2 off hf _ F' N'
    exact turn pre c.1 c.2.1 c.2.2.1 c.2.2.2.1 c.2.2.2.2.1 c.2.2.2.2.2.1 c.2.2.2.2.2.2 k t u h tk own (by omega) (by omega) off hf.1 hf.2.1 hf.2.2 F' N'
  · intro c u h tk hf _ F' N'
    exact done h tk _ F' (fun q hq => N' q (by
      rcases List.mem_cons.mp hq with rfl | hq
      · simp
      · rw [List.mem_singleton.mp hq]; simp))
end
end Mine
namespace Mine
open PySem PySem.W PySem.Spec PySem.Calls PyProof.Rows
open PySem.SeqAt
theorem plain_ok {x : PySem.Str} (h : Plain x) : PyData.strOk x = true := by
  unfold PyData.strOk
  rw [← Array.all_toList, List.all_eq_true]
  intro c hc
  have := h c hc
  simp only [signs, List.mem_cons, List.not_mem_nil, or_false] at this
  simp only [decide_eq_true_eq]
  omega
section
variable {prog : Program} {w : World} {A : Around} {E : Value → Shared → Prop} {s : Shared} {h₀ : Heap} {L : Addr} {news : Led}
theorem ne_texts {a b : Addr} {x : PySem.Str} {t1 t2 t3 t4 : Tok} {Q : Value → Shared → Prop} (N : News h₀ L s.heap news)
    (ha : (a, ({ cls := .type "tuple", data := .seq #[.str x t1, .str (Str.ofString "n") t2] } : Obj)) ∈ news) (hb : (b, ({ cls := .type "tuple", data := .seq #[.str x t3, .str (Str.ofString "n") t4] } : Obj)) ∈ news) (hx : Plain x) (hu : A.units + 64 < cLine) (h : Q (.bool false) s) :
    wpAny (model prog w) A (compareOp .NotEq (.ref a) (.ref b)) Q E s := by
  have hs : shaped (.tuple [.str x, .str (Str.ofString "n")]) = true := by
    have h1 := plain_ok hx
    have h2 : PyData.strOk (Str.ofString "n") = true := by decide +kernel
    show (PyData.canLay0 _ && decide (PyData.depth _ ≤ 64)) = true
    simp [PyData.canLay0, PyData.canLayAll0, PyData.depth, PyData.depthAll, h1, h2]
  refine ne_dataH_same (Reads.tuple (N _ ha).1 rfl rfl (.cons (.str x t1) (.cons (.str _ t2) .nil))) (Reads.tuple (N _ hb).1 rfl rfl (.cons (.str x t3) (.cons (.str _ t4) .nil))) hs hs hu (by simp [noMix, noMixAll]) ?_
  simpa [PySem.Spec.same, PySem.Spec.sameAll] using h
end
theorem word_len {x : PySem.Str} {a e : Int} (h0 : 0 ≤ a) (hw : IsWord x a e) : ((wordAt x a e).length : Int) = e - (a + 1) ∧ a + 1 ≤ e ∧ e < x.length := by
  obtain ⟨⟨h1, h2, h3, h4⟩, k⟩ := hw
  have h5 : a + 1 ≤ e := by
    by_cases q : a + 1 ≤ e
    · exact q
    · exfalso
      have e1 : e = a := by omega
      have hl := slice_list (x := x) (i := a + 1) (j := e) (by omega) (by omega)
      have : wordAt x a e = Str.ofString "" := by
        refine str_eq ?_
        rw [hl, signs_ofString]
        have : (x.cps.toList.take e.toNat).drop (a + 1).toNat = [] := List.drop_eq_nil_of_le (by rw [List.length_take]; omega)
        rw [this]; rfl
      rw [this] at k
      exact absurd k (by decide +kernel)
  exact ⟨slice_len (by omega) h5 (by omega), h5, h2⟩
theorem lw_two2 {x : PySem.Str} {a : Int} {K : Value → Prop} (h0 : 0 ≤ a) (h1 : NoWord x a → K .none) (h2 : ∀ e t, IsWord x a e → ((wordAt x a e).length : Int) = e - (a + 1) → a + 1 ≤ e → e < x.length → K (.str (wordAt x a e) t)) : ∀ v, LawWord x a v → K v :=
  lw_two h1 fun e t hw => let h := word_len h0 hw; h2 e t hw h.1 h.2.1 h.2.2
theorem law_end {w : World} {p d S c1 c2 : Addr} {o1 o2 : Obj} {k1 k2 k3 : Tok} {x : PySem.Str} {tx : Tok} {nm : Value} {x₁ y₁ a b : Int} {t1 t2 ta tl tk : Tok} {h₀ h' : Heap} {L : Addr} {m₀ m' : PySem.Str → Option Value} {news' own : Led} {s₁ : Shared} {pre : List Int}
    (F : Fr h₀ L h' m') (N : News h₀ L h' news') (hp : (p, instObj 151 d) ∈ news') (hd : (d, dictOf (pend w k1 k2 k3 x tx nm a ta) 3) ∈ news') (hS : (S, listOf #[.int x₁ t1, .int y₁ t2] 0) ∈ news') (hc1 : (c1, o1) ∈ news') (hc2 : (c2, o2) ∈ news') (ho : ∀ q ∈ own, q ∈ news')
    (hk : m' (Str.ofString "at") = some (.int b tl)) (hx : 0 ≤ x₁) (hab : b = a) (ha0 : 0 ≤ a) (ha1 : a ≤ x.length) (hr : ∀ z, z ≠ Str.ofString "turn" → z ≠ Str.ofString "at" → lawStored.contains z = false → m' z = m₀ z) :
    InvEndN h₀ L (KstS (lawLed w p d S c1 c2 o1 o2 k1 k2 k3 x tx nm) lawPs (lawFacts x) (Str.ofString "turn") lawStored m₀ (fun _ _ => True) pre) own [p, d, S, c1, c2] s₁ { s₁ with heap := h', toks := tk } := by
  subst hab
  refine kst_end (x₁, y₁, t1, t2, b, ta, tl) F N ?_ ho rfl ⟨hx, ha0, ha1⟩ ?_ ?_ trivial
  · intro q hq
    simp only [lawLed, List.mem_cons, List.not_mem_nil, or_false] at hq
    rcases hq with rfl | rfl | rfl | rfl | rfl <;> assumption
  · intro q hq
    rw [List.mem_singleton.mp hq]; exact hk
  · intro z h1 h2 h3
    exact hr z h1 (h2 _ (.head _)) h3
/-- the texts among the values -/
noncomputable def textsOf : List Value → List PySem.Str
  | [] => []
  | .str x _ :: r => x :: textsOf r
  | _ :: r => textsOf r
theorem one_text {w : World} {src th : Addr} {x y : Int} {tx ty : Tok} {n n2 : Nat} {news : Led} {g : Obj → Led} {vs : List Value} (U : UpdF src (listOf #[.int x tx, .int y ty] n) news g) (hm : (th, listOf vs.toArray n2) ∈ news) (hne : th ≠ src) (hvs : StrsAre vs (textsOf vs)) (h1 : Nat.ble 1 vs.length = true) (h2 : Nat.ble vs.length 100 = true) (hx : 0 ≤ x) :
    Ans w 176 2 news [.ref src, .ref th] (fun K => ∀ (y₀ : PySem.Str) (x' y' : Int) (t t1 t2 : Tok), y₀ ∈ textsOf vs → 0 ≤ x' → K (.str y₀ t) (g (listOf #[.int x' t1, .int y' t2] n))) :=
  one_at U hm hne hvs (Nat.le_of_ble_eq_true h1) (Nat.le_of_ble_eq_true h2) hx
theorem Ans1.goN {w : World} {f : Addr} {dep : Nat} {news : Led} {vs : List Value} {Post : (Value → Led → Prop) → Prop}
    {mean : ExcName → Option Value} {mg mb : PySem.Str → Option Value} {dp un : Nat} {gd : Option (List Code)} {cn : PySem.Str} {cs : Scope} {a : Addr} {ccd : Value} {cl : List (PySem.Str × Addr)} {A₀ : Around} {h₀ : Heap} {L : Addr} {m : PySem.Str → Option Value} {s : Shared} {Q E : Value → Shared → Prop}
    (N : News h₀ L s.heap news := by first | k_asm | exact News.tail' (by k_asm)) (C : Ans1 w f dep news vs Post) (hret : Post (Go h₀ L m s Q))
    (B : Below A₀ h₀ [] h₀ := by k_asm) (F : Fr h₀ L s.heap m := by k_asm) (X : (topH.heap_39 w.params).In h₀ := by k_asm) (T : Top topH.view_39 LO mean mg mb h₀ := by k_asm) (hk : cs.kind = .function := by first | exact rfl | assumption) (hd : dp + dep < recursionLimit := by ktr_room) (hu : un + 8 * dep < cLine := by ktr_units) :
    wpAny (model PySem.Challenge.rw_xm0655_01.row.prog w) (ktrTop dp un gd cn cs L a ccd cl []) (call (.ref f) vs) Q E s := Ans1.use C B F X N T hk hd hu hret
end Mine
namespace Mine
open PySem PySem.W PySem.Spec PySem.Calls PyProof.Rows
theorem bne_no {α : Type} [BEq α] [ReflBEq α] {x : α} (h : (x != x) = true) : False := by
  have e : (x == x) = true := ReflBEq.rfl
  rw [bne, e] at h
  cases h
theorem ne_no {x : Int} (h : x ≠ x) : False := h rfl
theorem word_no {a e n : Int} (h : e + 1 ≠ a + 1 + n + 1) (k : n = e - (a + 1)) : False := by omega
theorem bool_no {a b l : Int} (h : ((a == l) != (b == l)) = true) (e : a = b) : False := by subst e; exact bne_no h
theorem skip_if {α : Type} {p : Prop} {i : Decidable p} {a b c : α} (h : ¬ p) (e : b = c) : (if p then a else b) = c := by rw [if_neg h]; exact e
theorem skip_kst {rest : PySem.Str → Option Value} {p : PySem.Str × Value} {z : PySem.Str} {c : Option Value} (h : z ≠ p.1) (e : rest z = c) : kstB rest [p] z = c := by
  show (if z = p.1 then some p.2 else rest z) = c
  exact skip_if h e
theorem off_stored {z : PySem.Str} (h : lawStored.contains z = false) : z ≠ Str.ofString "marks" ∧ z ≠ Str.ofString "end" ∧ z ≠ Str.ofString "word" := by
  refine ⟨?_, ?_, ?_⟩ <;> (rintro rfl; exact absurd h (by decide +kernel))
theorem skip_stored {z : PySem.Str} {a b : Option Value} (h : lawStored.contains z = false) : (if lawStored.contains z = true then a else b) = b := by rw [h]; rfl
local macro_rules | `(tactic| k_ne) => `(tactic| (refine neN ?_; first | with_reducible assumption | (refine Ne.symm ?_; with_reducible assumption) | ((try dsimp only); omega)))
local macro_rules | `(tactic| k_all) => `(tactic| first | exact List.forall_mem_nil _ | (refine' List.forall_mem_cons.mpr ⟨?q5a, ?q5b⟩; (case q5a => k_ne); (case q5b => k_all)) | exact OwnOff.ne (by with_reducible assumption) (by k_memK))
theorem law_go : PySem.Challenge.rw_xm0655_01.Holds := Mine.topH (by
  k_go0
  repeat' (first | ((fail_if_success (with_reducible show LCg.CompSrc _ _ _ _ _ _ _ _ _ _ _ _ _ _)); first | (k_unfold; (try dsimp only)) | (k_end; wrow_close) | (k_here; (with_reducible show wpAny _ _ (call (Value.builtin _) [Value.str (wordAt _ _ _) _]) _ _ _); k_dflt (refine len_str (by omega) ?_)) | ((with_reducible show wpAny _ _ (compareOp CmpOp.NotEq (Value.ref _) (Value.ref _)) _ _ _); (k_here; k_dflt (refine' ne_texts ?q9sN ?q9sa ?q9sb ?q9sx ?q9su ?_; (case q9sN => k_asm); (case q9sa => k_mem); (case q9sb => k_mem); (case q9sx => with_reducible assumption); (case q9su => ktr_units)))) | ((with_reducible show wpAny _ _ (subscriptTail _ _ (Value.ref _) (Value.int _ _)) _ _ _); k_dflt (refine' item_text ?q9sN ?q9sm ?q9ss ?q9s0 ?q9s1 ?q9s2 ?_; (case q9sN => k_asm); (case q9sm => exact List.Mem.head _); (case q9ss => repeat (first | exact StrsAre.nil | refine StrsAre.cons _ _ ?_)); (case q9s0 => with_reducible assumption); (case q9s1 => first | omega | (simp only [List.length_cons, List.length_nil]; omega)); (case q9s2 => exact Nat.le_of_ble_eq_true rfl)); (intro y' t' hy')) | ((with_reducible show Drawn _ _ _ _ _ _ _ _); k_dflt (exact Drawn.mk (by k_asm) (by k_asm) (by omega) (by omega) (by with_reducible assumption))) | (k_here; (with_reducible show wpAny _ _ (eval (PySem.Expr.IfExp _ (PySem.Expr.Call _ _ _ _) (PySem.Expr.Constant (Const.int _) _ _) _) _) _ _ _); (fail_if_success (with_reducible show wpAny _ _ _ (Drawn _ _ _ _ _ _) _ _)); k_dflt ((refine' join_drawn 6 ?q9F ?q9N ?q9U ?_ ?_; (case q9N => k_asm); (case q9F => k_asm); (case q9U => (refine UpdF.tail ?_ (UpdF.tail ?_ (UpdF.tail ?_ (UpdF.tail ?_ (UpdF.tail ?_ (UpdF.head ?_)))))); (iterate 5 (· k_ne)); (· k_all))))) | ((with_reducible show wpAny _ _ (call (Value.builtin "str.join") _) _ _ _); (k_here; k_dflt ((refine' join_nice ?q9N ?q9m ?q9i ?q9u ?q9l ?_; (case q9N => k_asm); (case q9m => k_mem); (case q9i => with_reducible assumption); (case q9u => with_reducible assumption); (case q9l => omega)); intro x' t' k' hN'))) | ((with_reducible show wpAny _ _ (eval (PySem.Expr.ListComp _ _ _ _) _) _ _ _); (k_here; k_dflt (refine LCg.ListComp_U (F₀ := by k_asm) (by rfl) (by decide) (by rfl) (by decide) (by rfl) ?_))) | (k_here; (with_reducible show wpAny _ _ (eval (PySem.Expr.IfExp _ (PySem.Expr.Constant (Const.int _) _ _) (PySem.Expr.Constant (Const.int _) _ _) _) _) _ _ _); k_dflt (refine ifexp_const ?_)) | ((with_reducible show wpAny _ _ (call (Value.ref _) _) _ _ _); (k_here; k_dflt (first | (refine' Ans.goN (C := run_is _ _ _ _ _ _ _ _ _ _ _ _ _ _ _ (by (try dsimp only); omega) (by (repeat' (first | exact off_nil | exact off_two (by with_reducible assumption) | refine off_cons ?_ ?_ ?_ | k_ne))) (by with_reducible assumption) (by with_reducible assumption) (by with_reducible assumption) (by with_reducible assumption)) (hret := ?_); intro t' t2' h' tk' F' N') | (refine' Ans1.goN (C := refd_no _ _ _ _ _ _ _ _ _ _ _ _ _ _ (by (try dsimp only); omega) (by (repeat' (first | exact off_nil | exact off_two (by with_reducible assumption) | refine off_cons ?_ ?_ ?_ | k_ne))) (by with_reducible assumption) (by with_reducible assumption) (by with_reducible assumption) (by with_reducible assumption)) (hret := ?_); intro t' t2' h' tk' F' N') | (refine' Ans1.goN (C := refd_is _ _ _ _ _ _ _ _ _ _ _ _ _ _ _ (by (try dsimp only); omega) (by (repeat' (first | exact off_nil | exact off_two (by with_reducible assumption) | refine off_cons ?_ ?_ ?_ | k_ne))) (by with_reducible assumption) (by with_reducible assumption) (by with_reducible assumption) (by with_reducible assumption)) (hret := ?_); intro t' t2' h' tk' F' N') | (refine' Ans.goN (C := lword_ans _ _ _ _ _ _ (by with_reducible assumption) (by with_reducible assumption) (by with_reducible assumption) (by with_reducible assumption)) (hret := lw_two2 (by with_reducible assumption) (fun hw h' tk' F' N' => ?_) (fun e' t' hw hl1 hl2 hl3 h' tk' F' N' => ?_))) | (refine' Ans.goN (C := lrun_ans _ _ _ _ _ _ _ _ (by with_reducible assumption) (by with_reducible assumption) (by with_reducible assumption)) (hret := ?_); intro e' t' he' h' tk' F' N'; have hE0 := he'.1; have hE1 := he'.2.1) | (refine' Ans.goN (C := one_text (by k_updF) (by k_mem) (by k_ne) (by (repeat (first | exact StrsAre.nil | refine StrsAre.cons _ _ ?_))) (by exact rfl) (by exact rfl) (by assumption)) (hret := ?_); intro y' x' z' t' t1' t2' hy' hx' h' tk' F' N'; (try dsimp only at N')) | (refine' Ans.goN (C := take_at (by k_updF) (by first | omega | (split <;> omega)) (by first | omega | (split <;> omega)) (by assumption)) (hret := ?_); intro v' x' y' t' t1' t2' hv0 hv1 hx' h' tk' F' N'; (try replace hv1 := lt_ite hv1); (try dsimp only at N')) | (refine' pool_ans _ _ _ _ _ _ ?q9ki ?q9kn _ _ _ _ _ _ _ _ _ _ _ _ _ _ _ _ _ _ _ _ ?q9k1 ?q9kl ?q9k2 ?q9k3 ?q9k4 ?q9k5 ?q9kK ?q9kd ?q9ku ?_; (case q9k1 => k_asm); (case q9k2 => k_asm); (case q9k3 => k_asm); (case q9k4 => k_asm); (case q9k5 => k_asm); (case q9kl => assumption); (case q9ki => assumption); (case q9kn => size_fits); (case q9kK => first | exact rfl | assumption); (case q9kd => ktr_room); (case q9ku => ktr_units); intro S' x' y' t1' t2' hx' l1 h' tk' F' N'; (try k_lt l1)) | (refine' Ans.goN (C := told_run _ _ _ _ _ _ _ _ _ _ _ (by (try dsimp only); omega) (by (repeat' (first | exact off_nil | exact off_two (by with_reducible assumption) | refine off_cons ?_ ?_ ?_ | k_ne)))) (hret := ?_); intro t1' t2' h' tk' F' N') | (refine' Ans.goN (C := told_ref _ _ _ _ _ _ _ _ _ _ _ _ (by (try dsimp only); omega) (by (repeat' (first | exact off_nil | exact off_two (by with_reducible assumption) | refine off_cons ?_ ?_ ?_ | k_ne)))) (hret := ?_); intro t1' t2' h' tk' F' N')); (try dsimp only); (try k_fold))) | walk1 | (dsimp only; walk1) | (leave1; walk_say "STEP leave1"; try dsimp only) | fail "no step"))
  k_dflt (refine LCg.CompSrc.range (by rfl) (by k_asm) (by k_asm) (by with_reducible assumption) (small_one (by omega) (by omega) (by omega) (by omega)) (rangeSize_nat _ _) (by rw [PySem.sizeLine_eq]; omega) ?_)
  intro g2
  exact (by
  k_dflt ((refine' comp_drawn (fun u => u ∈ pool) ?q7U ?q7x ?_ ?_; (case q7U => (refine UpdF.tail ?_ (UpdF.head ?_)); (· k_ne); (· k_all)); (case q7x => with_reducible assumption)))
  · intro x₁ y₁ t1 t2 ys I oI C oC D m₂ h tk E' hx hC F' N' off ne
    try dsimp only at N' off
    simp only [LCg.Off3, and_true] at off
    obtain ⟨⟨oA1, oA2, oA3⟩, ⟨oB1, oB2, oB3⟩, ⟨oC1, oC2, oC3⟩, ⟨oD1, oD2, oD3⟩, ⟨oE1, oE2, oE3⟩, oF1, oF2, oF3⟩ := off
    repeat' (first | (k_unfold; (try dsimp only)) | (k_end; wrow_close) | (k_here; (with_reducible show wpAny _ _ (call (Value.builtin _) [Value.str (wordAt _ _ _) _]) _ _ _); k_dflt (refine len_str (by omega) ?_)) | ((with_reducible show wpAny _ _ (compareOp CmpOp.NotEq (Value.ref _) (Value.ref _)) _ _ _); (k_here; k_dflt (refine' ne_texts ?q9sN ?q9sa ?q9sb ?q9sx ?q9su ?_; (case q9sN => k_asm); (case q9sa => k_mem); (case q9sb => k_mem); (case q9sx => with_reducible assumption); (case q9su => ktr_units)))) | ((with_reducible show wpAny _ _ (subscriptTail _ _ (Value.ref _) (Value.int _ _)) _ _ _); k_dflt (refine' item_text ?q9sN ?q9sm ?q9ss ?q9s0 ?q9s1 ?q9s2 ?_; (case q9sN => k_asm); (case q9sm => exact List.Mem.head _); (case q9ss => repeat (first | exact StrsAre.nil | refine StrsAre.cons _ _ ?_)); (case q9s0 => with_reducible assumption); (case q9s1 => first | omega | (simp only [List.length_cons, List.length_nil]; omega)); (case q9s2 => exact Nat.le_of_ble_eq_true rfl)); (intro y' t' hy')) | ((with_reducible show Drawn _ _ _ _ _ _ _ _); k_dflt (exact Drawn.mk (by k_asm) (by k_asm) (by omega) (by omega) (by with_reducible assumption))) | (k_here; (with_reducible show wpAny _ _ (eval (PySem.Expr.IfExp _ (PySem.Expr.Call _ _ _ _) (PySem.Expr.Constant (Const.int _) _ _) _) _) _ _ _); (fail_if_success (with_reducible show wpAny _ _ _ (Drawn _ _ _ _ _ _) _ _)); k_dflt ((refine' join_drawn 6 ?q9F ?q9N ?q9U ?_ ?_; (case q9N => k_asm); (case q9F => k_asm); (case q9U => (refine UpdF.tail ?_ (UpdF.tail ?_ (UpdF.tail ?_ (UpdF.tail ?_ (UpdF.tail ?_ (UpdF.head ?_)))))); (iterate 5 (· k_ne)); (· k_all))))) | ((with_reducible show wpAny _ _ (call (Value.builtin "str.join") _) _ _ _); (k_here; k_dflt ((refine' join_nice ?q9N ?q9m ?q9i ?q9u ?q9l ?_; (case q9N => k_asm); (case q9m => k_mem); (case q9i => with_reducible assumption); (case q9u => with_reducible assumption); (case q9l => omega)); intro x' t' k' hN'))) | ((with_reducible show wpAny _ _ (eval (PySem.Expr.ListComp _ _ _ _) _) _ _ _); (k_here; k_dflt (refine LCg.ListComp_U (F₀ := by k_asm) (by rfl) (by decide) (by rfl) (by decide) (by rfl) ?_))) | (k_here; (with_reducible show wpAny _ _ (eval (PySem.Expr.IfExp _ (PySem.Expr.Constant (Const.int _) _ _) (PySem.Expr.Constant (Const.int _) _ _) _) _) _ _ _); k_dflt (refine ifexp_const ?_)) | ((with_reducible show wpAny _ _ (call (Value.ref _) _) _ _ _); (k_here; k_dflt (first | (refine' Ans.goN (C := run_is _ _ _ _ _ _ _ _ _ _ _ _ _ _ _ (by (try dsimp only); omega) (by (repeat' (first | exact off_nil | exact off_two (by with_reducible assumption) | refine off_cons ?_ ?_ ?_ | k_ne))) (by with_reducible assumption) (by with_reducible assumption) (by with_reducible assumption) (by with_reducible assumption)) (hret := ?_); intro t' t2' h' tk' F' N') | (refine' Ans1.goN (C := refd_no _ _ _ _ _ _ _ _ _ _ _ _ _ _ (by (try dsimp only); omega) (by (repeat' (first | exact off_nil | exact off_two (by with_reducible assumption) | refine off_cons ?_ ?_ ?_ | k_ne))) (by with_reducible assumption) (by with_reducible assumption) (by with_reducible assumption) (by with_reducible assumption)) (hret := ?_); intro t' t2' h' tk' F' N') | (refine' Ans1.goN (C := refd_is _ _ _ _ _ _ _ _ _ _ _ _ _ _ _ (by (try dsimp only); omega) (by (repeat' (first | exact off_nil | exact off_two (by with_reducible assumption) | refine off_cons ?_ ?_ ?_ | k_ne))) (by with_reducible assumption) (by with_reducible assumption) (by with_reducible assumption) (by with_reducible assumption)) (hret := ?_); intro t' t2' h' tk' F' N') | (refine' Ans.goN (C := lword_ans _ _ _ _ _ _ (by with_reducible assumption) (by with_reducible assumption) (by with_reducible assumption) (by with_reducible assumption)) (hret := lw_two2 (by with_reducible assumption) (fun hw h' tk' F' N' => ?_) (fun e' t' hw hl1 hl2 hl3 h' tk' F' N' => ?_))) | (refine' Ans.goN (C := lrun_ans _ _ _ _ _ _ _ _ (by with_reducible assumption) (by with_reducible assumption) (by with_reducible assumption)) (hret := ?_); intro e' t' he' h' tk' F' N'; have hE0 := he'.1; have hE1 := he'.2.1) | (refine' Ans.goN (C := one_text (by k_updF) (by k_mem) (by k_ne) (by (repeat (first | exact StrsAre.nil | refine StrsAre.cons _ _ ?_))) (by exact rfl) (by exact rfl) (by assumption)) (hret := ?_); intro y' x' z' t' t1' t2' hy' hx' h' tk' F' N'; (try dsimp only at N')) | (refine' Ans.goN (C := take_at (by k_updF) (by first | omega | (split <;> omega)) (by first | omega | (split <;> omega)) (by assumption)) (hret := ?_); intro v' x' y' t' t1' t2' hv0 hv1 hx' h' tk' F' N'; (try replace hv1 := lt_ite hv1); (try dsimp only at N')) | (refine' pool_ans _ _ _ _ _ _ ?q9ki ?q9kn _ _ _ _ _ _ _ _ _ _ _ _ _ _ _ _ _ _ _ _ ?q9k1 ?q9kl ?q9k2 ?q9k3 ?q9k4 ?q9k5 ?q9kK ?q9kd ?q9ku ?_; (case q9k1 => k_asm); (case q9k2 => k_asm); (case q9k3 => k_asm); (case q9k4 => k_asm); (case q9k5 => k_asm); (case q9kl => assumption); (case q9ki => assumption); (case q9kn => size_fits); (case q9kK => first | exact rfl | assumption); (case q9kd => ktr_room); (case q9ku => ktr_units); intro S' x' y' t1' t2' hx' l1 h' tk' F' N'; (try k_lt l1)) | (refine' Ans.goN (C := told_run _ _ _ _ _ _ _ _ _ _ _ (by (try dsimp only); omega) (by (repeat' (first | exact off_nil | exact off_two (by with_reducible assumption) | refine off_cons ?_ ?_ ?_ | k_ne)))) (hret := ?_); intro t1' t2' h' tk' F' N') | (refine' Ans.goN (C := told_ref _ _ _ _ _ _ _ _ _ _ _ _ (by (try dsimp only); omega) (by (repeat' (first | exact off_nil | exact off_two (by with_reducible assumption) | refine off_cons ?_ ?_ ?_ | k_ne)))) (hret := ?_); intro t1' t2' h' tk' F' N')); (try dsimp only); (try k_fold))) | walk1 | (dsimp only; walk1) | (leave1; walk_say "STEP leave1"; try dsimp only) | fail "no step")
    first | exact pool_get (by omega) | assumption
  · intro x₁ y₁ t1 t2 ys us hx hy hl hu
    dsimp only
    exact (by
    repeat' (first | ((fail_if_success (with_reducible show wpAny _ _ (pyIter _) _ _ _)); first | (k_unfold; (try dsimp only)) | (k_end; wrow_close) | (k_here; (with_reducible show wpAny _ _ (call (Value.builtin _) [Value.str (wordAt _ _ _) _]) _ _ _); k_dflt (refine len_str (by omega) ?_)) | ((with_reducible show wpAny _ _ (compareOp CmpOp.NotEq (Value.ref _) (Value.ref _)) _ _ _); (k_here; k_dflt (refine' ne_texts ?q9sN ?q9sa ?q9sb ?q9sx ?q9su ?_; (case q9sN => k_asm); (case q9sa => k_mem); (case q9sb => k_mem); (case q9sx => with_reducible assumption); (case q9su => ktr_units)))) | ((with_reducible show wpAny _ _ (subscriptTail _ _ (Value.ref _) (Value.int _ _)) _ _ _); k_dflt (refine' item_text ?q9sN ?q9sm ?q9ss ?q9s0 ?q9s1 ?q9s2 ?_; (case q9sN => k_asm); (case q9sm => exact List.Mem.head _); (case q9ss => repeat (first | exact StrsAre.nil | refine StrsAre.cons _ _ ?_)); (case q9s0 => with_reducible assumption); (case q9s1 => first | omega | (simp only [List.length_cons, List.length_nil]; omega)); (case q9s2 => exact Nat.le_of_ble_eq_true rfl)); (intro y' t' hy')) | ((with_reducible show Drawn _ _ _ _ _ _ _ _); k_dflt (exact Drawn.mk (by k_asm) (by k_asm) (by omega) (by omega) (by with_reducible assumption))) | (k_here; (with_reducible show wpAny _ _ (eval (PySem.Expr.IfExp _ (PySem.Expr.Call _ _ _ _) (PySem.Expr.Constant (Const.int _) _ _) _) _) _ _ _); (fail_if_success (with_reducible show wpAny _ _ _ (Drawn _ _ _ _ _ _) _ _)); k_dflt ((refine' join_drawn 6 ?q9F ?q9N ?q9U ?_ ?_; (case q9N => k_asm); (case q9F => k_asm); (case q9U => (refine UpdF.tail ?_ (UpdF.tail ?_ (UpdF.tail ?_ (UpdF.tail ?_ (UpdF.tail ?_ (UpdF.head ?_)))))); (iterate 5 (· k_ne)); (· k_all))))) | ((with_reducible show wpAny _ _ (call (Value.builtin "str.join") _) _ _ _); (k_here; k_dflt ((refine' join_nice ?q9N ?q9m ?q9i ?q9u ?q9l ?_; (case q9N => k_asm); (case q9m => k_mem); (case q9i => with_reducible assumption); (case q9u => with_reducible assumption); (case q9l => omega)); intro x' t' k' hN'))) | ((with_reducible show wpAny _ _ (eval (PySem.Expr.ListComp _ _ _ _) _) _ _ _); (k_here; k_dflt (refine LCg.ListComp_U (F₀ := by k_asm) (by rfl) (by decide) (by rfl) (by decide) (by rfl) ?_))) | (k_here; (with_reducible show wpAny _ _ (eval (PySem.Expr.IfExp _ (PySem.Expr.Constant (Const.int _) _ _) (PySem.Expr.Constant (Const.int _) _ _) _) _) _ _ _); k_dflt (refine ifexp_const ?_)) | ((with_reducible show wpAny _ _ (call (Value.ref _) _) _ _ _); (k_here; k_dflt (first | (refine' Ans.goN (C := run_is _ _ _ _ _ _ _ _ _ _ _ _ _ _ _ (by (try dsimp only); omega) (by (repeat' (first | exact off_nil | exact off_two (by with_reducible assumption) | refine off_cons ?_ ?_ ?_ | k_ne))) (by with_reducible assumption) (by with_reducible assumption) (by with_reducible assumption) (by with_reducible assumption)) (hret := ?_); intro t' t2' h' tk' F' N') | (refine' Ans1.goN (C := refd_no _ _ _ _ _ _ _ _ _ _ _ _ _ _ (by (try dsimp only); omega) (by (repeat' (first | exact off_nil | exact off_two (by with_reducible assumption) | refine off_cons ?_ ?_ ?_ | k_ne))) (by with_reducible assumption) (by with_reducible assumption) (by with_reducible assumption) (by with_reducible assumption)) (hret := ?_); intro t' t2' h' tk' F' N') | (refine' Ans1.goN (C := refd_is _ _ _ _ _ _ _ _ _ _ _ _ _ _ _ (by (try dsimp only); omega) (by (repeat' (first | exact off_nil | exact off_two (by with_reducible assumption) | refine off_cons ?_ ?_ ?_ | k_ne))) (by with_reducible assumption) (by with_reducible assumption) (by with_reducible assumption) (by with_reducible assumption)) (hret := ?_); intro t' t2' h' tk' F' N') | (refine' Ans.goN (C := lword_ans _ _ _ _ _ _ (by with_reducible assumption) (by with_reducible assumption) (by with_reducible assumption) (by with_reducible assumption)) (hret := lw_two2 (by with_reducible assumption) (fun hw h' tk' F' N' => ?_) (fun e' t' hw hl1 hl2 hl3 h' tk' F' N' => ?_))) | (refine' Ans.goN (C := lrun_ans _ _ _ _ _ _ _ _ (by with_reducible assumption) (by with_reducible assumption) (by with_reducible assumption)) (hret := ?_); intro e' t' he' h' tk' F' N'; have hE0 := he'.1; have hE1 := he'.2.1) | (refine' Ans.goN (C := one_text (by k_updF) (by k_mem) (by k_ne) (by (repeat (first | exact StrsAre.nil | refine StrsAre.cons _ _ ?_))) (by exact rfl) (by exact rfl) (by assumption)) (hret := ?_); intro y' x' z' t' t1' t2' hy' hx' h' tk' F' N'; (try dsimp only at N')) | (refine' Ans.goN (C := take_at (by k_updF) (by first | omega | (split <;> omega)) (by first | omega | (split <;> omega)) (by assumption)) (hret := ?_); intro v' x' y' t' t1' t2' hv0 hv1 hx' h' tk' F' N'; (try replace hv1 := lt_ite hv1); (try dsimp only at N')) | (refine' pool_ans _ _ _ _ _ _ ?q9ki ?q9kn _ _ _ _ _ _ _ _ _ _ _ _ _ _ _ _ _ _ _ _ ?q9k1 ?q9kl ?q9k2 ?q9k3 ?q9k4 ?q9k5 ?q9kK ?q9kd ?q9ku ?_; (case q9k1 => k_asm); (case q9k2 => k_asm); (case q9k3 => k_asm); (case q9k4 => k_asm); (case q9k5 => k_asm); (case q9kl => assumption); (case q9ki => assumption); (case q9kn => size_fits); (case q9kK => first | exact rfl | assumption); (case q9kd => ktr_room); (case q9ku => ktr_units); intro S' x' y' t1' t2' hx' l1 h' tk' F' N'; (try k_lt l1)) | (refine' Ans.goN (C := told_run _ _ _ _ _ _ _ _ _ _ _ (by (try dsimp only); omega) (by (repeat' (first | exact off_nil | exact off_two (by with_reducible assumption) | refine off_cons ?_ ?_ ?_ | k_ne)))) (hret := ?_); intro t1' t2' h' tk' F' N') | (refine' Ans.goN (C := told_ref _ _ _ _ _ _ _ _ _ _ _ _ (by (try dsimp only); omega) (by (repeat' (first | exact off_nil | exact off_two (by with_reducible assumption) | refine off_cons ?_ ?_ ?_ | k_ne)))) (hret := ?_); intro t1' t2' h' tk' F' N')); (try dsimp only); (try k_fold))) | walk1 | (dsimp only; walk1) | (leave1; walk_say "STEP leave1"; try dsimp only) | fail "no step"))
    exact (by
    k_dflt (refine' law_loop ?q6h ?q6r ?q6b ?q6c ?q6F ?q6N ?q6x ?q6d ?q6e ?q6k ?_ ?_; (case q6h => exact rfl); (case q6r => with_reducible assumption); (case q6F => k_asm); (case q6N => exact news_pick (by k_asm)); (case q6b => omega); (case q6c => omega); (case q6x => with_reducible assumption); (case q6d => exact Int.le_refl 0); (case q6e => omega); (case q6k => exact rfl))
    · intro pre x₁ y₁ t1 t2 a ta tl k t u h tk own hk0 hk1 off hx1 ha0 ha1 F' N'
      rename Nice _ => hnice
      have hlen := Nat.le_trans hnice.len (by decide : 90 ≤ 200)
      have hplain := hnice.plain
      exact (by
      repeat' (first | ((fail_if_success (with_reducible show InvEndN _ _ _ _ _ _ _)); (first | ((with_reducible show GoodW _ _ _ _ _ _ _); exfalso; first | exact bne_no (by with_reducible assumption) | exact ne_no (by with_reducible assumption) | exact word_no (by with_reducible assumption) (by with_reducible assumption) | exact bool_no (by with_reducible assumption) (by with_reducible assumption)) | first | (k_unfold; (try dsimp only)) | (k_end; wrow_close) | (k_here; (with_reducible show wpAny _ _ (call (Value.builtin _) [Value.str (wordAt _ _ _) _]) _ _ _); k_dflt (refine len_str (by omega) ?_)) | ((with_reducible show wpAny _ _ (compareOp CmpOp.NotEq (Value.ref _) (Value.ref _)) _ _ _); (k_here; k_dflt (refine' ne_texts ?q9sN ?q9sa ?q9sb ?q9sx ?q9su ?_; (case q9sN => k_asm); (case q9sa => k_mem); (case q9sb => k_mem); (case q9sx => with_reducible assumption); (case q9su => ktr_units)))) | ((with_reducible show wpAny _ _ (subscriptTail _ _ (Value.ref _) (Value.int _ _)) _ _ _); k_dflt (refine' item_text ?q9sN ?q9sm ?q9ss ?q9s0 ?q9s1 ?q9s2 ?_; (case q9sN => k_asm); (case q9sm => exact List.Mem.head _); (case q9ss => repeat (first | exact StrsAre.nil | refine StrsAre.cons _ _ ?_)); (case q9s0 => with_reducible assumption); (case q9s1 => first | omega | (simp only [List.length_cons, List.length_nil]; omega)); (case q9s2 => exact Nat.le_of_ble_eq_true rfl)); (intro y' t' hy')) | ((with_reducible show Drawn _ _ _ _ _ _ _ _); k_dflt (exact Drawn.mk (by k_asm) (by k_asm) (by omega) (by omega) (by with_reducible assumption))) | (k_here; (with_reducible show wpAny _ _ (eval (PySem.Expr.IfExp _ (PySem.Expr.Call _ _ _ _) (PySem.Expr.Constant (Const.int _) _ _) _) _) _ _ _); (fail_if_success (with_reducible show wpAny _ _ _ (Drawn _ _ _ _ _ _) _ _)); k_dflt ((refine' join_drawn 6 ?q9F ?q9N ?q9U ?_ ?_; (case q9N => k_asm); (case q9F => k_asm); (case q9U => (refine UpdF.tail ?_ (UpdF.tail ?_ (UpdF.tail ?_ (UpdF.tail ?_ (UpdF.tail ?_ (UpdF.head ?_)))))); (iterate 5 (· k_ne)); (· k_all))))) | ((with_reducible show wpAny _ _ (call (Value.builtin "str.join") _) _ _ _); (k_here; k_dflt ((refine' join_nice ?q9N ?q9m ?q9i ?q9u ?q9l ?_; (case q9N => k_asm); (case q9m => k_mem); (case q9i => with_reducible assumption); (case q9u => with_reducible assumption); (case q9l => omega)); intro x' t' k' hN'))) | ((with_reducible show wpAny _ _ (eval (PySem.Expr.ListComp _ _ _ _) _) _ _ _); (k_here; k_dflt (refine LCg.ListComp_U (F₀ := by k_asm) (by rfl) (by decide) (by rfl) (by decide) (by rfl) ?_))) | (k_here; (with_reducible show wpAny _ _ (eval (PySem.Expr.IfExp _ (PySem.Expr.Constant (Const.int _) _ _) (PySem.Expr.Constant (Const.int _) _ _) _) _) _ _ _); k_dflt (refine ifexp_const ?_)) | ((with_reducible show wpAny _ _ (call (Value.ref _) _) _ _ _); (k_here; k_dflt (first | (refine' Ans.goN (C := run_is _ _ _ _ _ _ _ _ _ _ _ _ _ _ _ (by (try dsimp only); omega) (by (repeat' (first | exact off_nil | exact off_two (by with_reducible assumption) | refine off_cons ?_ ?_ ?_ | k_ne))) (by with_reducible assumption) (by with_reducible assumption) (by with_reducible assumption) (by with_reducible assumption)) (hret := ?_); intro t' t2' h' tk' F' N') | (refine' Ans1.goN (C := refd_no _ _ _ _ _ _ _ _ _ _ _ _ _ _ (by (try dsimp only); omega) (by (repeat' (first | exact off_nil | exact off_two (by with_reducible assumption) | refine off_cons ?_ ?_ ?_ | k_ne))) (by with_reducible assumption) (by with_reducible assumption) (by with_reducible assumption) (by with_reducible assumption)) (hret := ?_); intro t' t2' h' tk' F' N') | (refine' Ans1.goN (C := refd_is _ _ _ _ _ _ _ _ _ _ _ _ _ _ _ (by (try dsimp only); omega) (by (repeat' (first | exact off_nil | exact off_two (by with_reducible assumption) | refine off_cons ?_ ?_ ?_ | k_ne))) (by with_reducible assumption) (by with_reducible assumption) (by with_reducible assumption) (by with_reducible assumption)) (hret := ?_); intro t' t2' h' tk' F' N') | (refine' Ans.goN (C := lword_ans _ _ _ _ _ _ (by with_reducible assumption) (by with_reducible assumption) (by with_reducible assumption) (by with_reducible assumption)) (hret := lw_two2 (by with_reducible assumption) (fun hw h' tk' F' N' => ?_) (fun e' t' hw hl1 hl2 hl3 h' tk' F' N' => ?_))) | (refine' Ans.goN (C := lrun_ans _ _ _ _ _ _ _ _ (by with_reducible assumption) (by with_reducible assumption) (by with_reducible assumption)) (hret := ?_); intro e' t' he' h' tk' F' N'; have hE0 := he'.1; have hE1 := he'.2.1) | (refine' Ans.goN (C := one_text (by k_updF) (by k_mem) (by k_ne) (by (repeat (first | exact StrsAre.nil | refine StrsAre.cons _ _ ?_))) (by exact rfl) (by exact rfl) (by assumption)) (hret := ?_); intro y' x' z' t' t1' t2' hy' hx' h' tk' F' N'; (try dsimp only at N')) | (refine' Ans.goN (C := take_at (by k_updF) (by first | omega | (split <;> omega)) (by first | omega | (split <;> omega)) (by assumption)) (hret := ?_); intro v' x' y' t' t1' t2' hv0 hv1 hx' h' tk' F' N'; (try replace hv1 := lt_ite hv1); (try dsimp only at N')) | (refine' pool_ans _ _ _ _ _ _ ?q9ki ?q9kn _ _ _ _ _ _ _ _ _ _ _ _ _ _ _ _ _ _ _ _ ?q9k1 ?q9kl ?q9k2 ?q9k3 ?q9k4 ?q9k5 ?q9kK ?q9kd ?q9ku ?_; (case q9k1 => k_asm); (case q9k2 => k_asm); (case q9k3 => k_asm); (case q9k4 => k_asm); (case q9k5 => k_asm); (case q9kl => assumption); (case q9ki => assumption); (case q9kn => size_fits); (case q9kK => first | exact rfl | assumption); (case q9kd => ktr_room); (case q9ku => ktr_units); intro S' x' y' t1' t2' hx' l1 h' tk' F' N'; (try k_lt l1)) | (refine' Ans.goN (C := told_run _ _ _ _ _ _ _ _ _ _ _ (by (try dsimp only); omega) (by (repeat' (first | exact off_nil | exact off_two (by with_reducible assumption) | refine off_cons ?_ ?_ ?_ | k_ne)))) (hret := ?_); intro t1' t2' h' tk' F' N') | (refine' Ans.goN (C := told_ref _ _ _ _ _ _ _ _ _ _ _ _ (by (try dsimp only); omega) (by (repeat' (first | exact off_nil | exact off_two (by with_reducible assumption) | refine off_cons ?_ ?_ ?_ | k_ne)))) (hret := ?_); intro t1' t2' h' tk' F' N')); (try dsimp only); (try k_fold))) | walk1 | (dsimp only; walk1) | (leave1; walk_say "STEP leave1"; try dsimp only) | fail "no step")))
      all_goals
        refine' law_end ?q8F ?q8N ?q8p ?q8d ?q8S ?q8c ?q8e ?q8o ?q8k ?q8x ?q8ab ?q80 ?q81 ?q8r
        case q8N => k_asm
        case q8F => k_asm
        case q8p => k_mem
        case q8d => k_mem
        case q8S => k_mem
        case q8c => k_mem
        case q8e => k_mem
        case q8o => (intro p hp; kst_mem)
        case q8k => exact rfl
        case q8x => with_reducible assumption
        case q8ab => first | rfl | omega
        case q80 => omega
        case q81 => omega
        case q8r =>
          intro z h1 h2 h3
          have h4 := off_stored h3
          obtain ⟨h4, h5, h6⟩ := h4
          repeat (refine skip_if (by with_reducible assumption) ?_)
          first | exact skip_stored h3 | exact skip_kst h2 (skip_stored h3))
    · intro h tk m F' N'
      repeat' (first | (k_unfold; (try dsimp only)) | (k_end; wrow_close) | (k_here; (with_reducible show wpAny _ _ (call (Value.builtin _) [Value.str (wordAt _ _ _) _]) _ _ _); k_dflt (refine len_str (by omega) ?_)) | ((with_reducible show wpAny _ _ (compareOp CmpOp.NotEq (Value.ref _) (Value.ref _)) _ _ _); (k_here; k_dflt (refine' ne_texts ?q9sN ?q9sa ?q9sb ?q9sx ?q9su ?_; (case q9sN => k_asm); (case q9sa => k_mem); (case q9sb => k_mem); (case q9sx => with_reducible assumption); (case q9su => ktr_units)))) | ((with_reducible show wpAny _ _ (subscriptTail _ _ (Value.ref _) (Value.int _ _)) _ _ _); k_dflt (refine' item_text ?q9sN ?q9sm ?q9ss ?q9s0 ?q9s1 ?q9s2 ?_; (case q9sN => k_asm); (case q9sm => exact List.Mem.head _); (case q9ss => repeat (first | exact StrsAre.nil | refine StrsAre.cons _ _ ?_)); (case q9s0 => with_reducible assumption); (case q9s1 => first | omega | (simp only [List.length_cons, List.length_nil]; omega)); (case q9s2 => exact Nat.le_of_ble_eq_true rfl)); (intro y' t' hy')) | ((with_reducible show Drawn _ _ _ _ _ _ _ _); k_dflt (exact Drawn.mk (by k_asm) (by k_asm) (by omega) (by omega) (by with_reducible assumption))) | (k_here; (with_reducible show wpAny _ _ (eval (PySem.Expr.IfExp _ (PySem.Expr.Call _ _ _ _) (PySem.Expr.Constant (Const.int _) _ _) _) _) _ _ _); (fail_if_success (with_reducible show wpAny _ _ _ (Drawn _ _ _ _ _ _) _ _)); k_dflt ((refine' join_drawn 6 ?q9F ?q9N ?q9U ?_ ?_; (case q9N => k_asm); (case q9F => k_asm); (case q9U => (refine UpdF.tail ?_ (UpdF.tail ?_ (UpdF.tail ?_ (UpdF.tail ?_ (UpdF.tail ?_ (UpdF.head ?_)))))); (iterate 5 (· k_ne)); (· k_all))))) | ((with_reducible show wpAny _ _ (call (Value.builtin "str.join") _) _ _ _); (k_here; k_dflt ((refine' join_nice ?q9N ?q9m ?q9i ?q9u ?q9l ?_; (case q9N => k_asm); (case q9m => k_mem); (case q9i => with_reducible assumption); (case q9u => with_reducible assumption); (case q9l => omega)); intro x' t' k' hN'))) | ((with_reducible show wpAny _ _ (eval (PySem.Expr.ListComp _ _ _ _) _) _ _ _); (k_here; k_dflt (refine LCg.ListComp_U (F₀ := by k_asm) (by rfl) (by decide) (by rfl) (by decide) (by rfl) ?_))) | (k_here; (with_reducible show wpAny _ _ (eval (PySem.Expr.IfExp _ (PySem.Expr.Constant (Const.int _) _ _) (PySem.Expr.Constant (Const.int _) _ _) _) _) _ _ _); k_dflt (refine ifexp_const ?_)) | ((with_reducible show wpAny _ _ (call (Value.ref _) _) _ _ _); (k_here; k_dflt (first | (refine' Ans.goN (C := run_is _ _ _ _ _ _ _ _ _ _ _ _ _ _ _ (by (try dsimp only); omega) (by (repeat' (first | exact off_nil | exact off_two (by with_reducible assumption) | refine off_cons ?_ ?_ ?_ | k_ne))) (by with_reducible assumption) (by with_reducible assumption) (by with_reducible assumption) (by with_reducible assumption)) (hret := ?_); intro t' t2' h' tk' F' N') | (refine' Ans1.goN (C := refd_no _ _ _ _ _ _ _ _ _ _ _ _ _ _ (by (try dsimp only); omega) (by (repeat' (first | exact off_nil | exact off_two (by with_reducible assumption) | refine off_cons ?_ ?_ ?_ | k_ne))) (by with_reducible assumption) (by with_reducible assumption) (by with_reducible assumption) (by with_reducible assumption)) (hret := ?_); intro t' t2' h' tk' F' N') | (refine' Ans1.goN (C := refd_is _ _ _ _ _ _ _ _ _ _ _ _ _ _ _ (by (try dsimp only); omega) (by (repeat' (first | exact off_nil | exact off_two (by with_reducible assumption) | refine off_cons ?_ ?_ ?_ | k_ne))) (by with_reducible assumption) (by with_reducible assumption) (by with_reducible assumption) (by with_reducible assumption)) (hret := ?_); intro t' t2' h' tk' F' N') | (refine' Ans.goN (C := lword_ans _ _ _ _ _ _ (by with_reducible assumption) (by with_reducible assumption) (by with_reducible assumption) (by with_reducible assumption)) (hret := lw_two2 (by with_reducible assumption) (fun hw h' tk' F' N' => ?_) (fun e' t' hw hl1 hl2 hl3 h' tk' F' N' => ?_))) | (refine' Ans.goN (C := lrun_ans _ _ _ _ _ _ _ _ (by with_reducible assumption) (by with_reducible assumption) (by with_reducible assumption)) (hret := ?_); intro e' t' he' h' tk' F' N'; have hE0 := he'.1; have hE1 := he'.2.1) | (refine' Ans.goN (C := one_text (by k_updF) (by k_mem) (by k_ne) (by (repeat (first | exact StrsAre.nil | refine StrsAre.cons _ _ ?_))) (by exact rfl) (by exact rfl) (by assumption)) (hret := ?_); intro y' x' z' t' t1' t2' hy' hx' h' tk' F' N'; (try dsimp only at N')) | (refine' Ans.goN (C := take_at (by k_updF) (by first | omega | (split <;> omega)) (by first | omega | (split <;> omega)) (by assumption)) (hret := ?_); intro v' x' y' t' t1' t2' hv0 hv1 hx' h' tk' F' N'; (try replace hv1 := lt_ite hv1); (try dsimp only at N')) | (refine' pool_ans _ _ _ _ _ _ ?q9ki ?q9kn _ _ _ _ _ _ _ _ _ _ _ _ _ _ _ _ _ _ _ _ ?q9k1 ?q9kl ?q9k2 ?q9k3 ?q9k4 ?q9k5 ?q9kK ?q9kd ?q9ku ?_; (case q9k1 => k_asm); (case q9k2 => k_asm); (case q9k3 => k_asm); (case q9k4 => k_asm); (case q9k5 => k_asm); (case q9kl => assumption); (case q9ki => assumption); (case q9kn => size_fits); (case q9kK => first | exact rfl | assumption); (case q9kd => ktr_room); (case q9ku => ktr_units); intro S' x' y' t1' t2' hx' l1 h' tk' F' N'; (try k_lt l1)) | (refine' Ans.goN (C := told_run _ _ _ _ _ _ _ _ _ _ _ (by (try dsimp only); omega) (by (repeat' (first | exact off_nil | exact off_two (by with_reducible assumption) | refine off_cons ?_ ?_ ?_ | k_ne)))) (hret := ?_); intro t1' t2' h' tk' F' N') | (refine' Ans.goN (C := told_ref _ _ _ _ _ _ _ _ _ _ _ _ (by (try dsimp only); omega) (by (repeat' (first | exact off_nil | exact off_two (by with_reducible assumption) | refine off_cons ?_ ?_ ?_ | k_ne)))) (hret := ?_); intro t1' t2' h' tk' F' N')); (try dsimp only); (try k_fold))) | walk1 | (dsimp only; walk1) | (leave1; walk_say "STEP leave1"; try dsimp only) | fail "no step")))))
end Mine
theorem PySem.Challenge.cw_xm0655_01_holds : PySem.Challenge.rw_xm0655_01.Holds := by
  exact Mine.law_go
