import PyProof.Rows.All
import Wide.All
import OpenK.AllK
import Wide.FinOn
import PySem.Challenge.RW_pf0070_01
open PySem PySem.W PyProof.Rows
set_option Elab.async false
set_option maxRecDepth 100000
set_option maxHeartbeats 8000000
set_option rowWalk.seconds 0

section
namespace Mine
def viewQ : Program := { PySem.Challenge.rw_pf0070_01.row.prog with main := { PySem.Challenge.rw_pf0070_01.row.prog.main with body := (List.range 25).filterMap fun i => if [0, 3, 9, 11].contains i then none else PySem.Challenge.rw_pf0070_01.row.prog.main.body[i]? } }
end Mine
local macro_rules | `(tactic| o_head $H) => `(tactic| (
  refine holds_open (q := Mine.viewQ) (loose := [Str.ofString "ChanError"]) (Xt := fun s => xlAt Mine.viewQ [] s && recOk (RowW.records PySem.Challenge.rw_pf0070_01.row.toRowW) s) (XP := XL Mine.viewQ []) (Yf := Hook.obs $H) (Ya := Hook.val $H) (YP := Hook.says $H) (N := 4038) ?hl (Hook.of $H) (Hook.keeps $H) (fun s e => xl_of s (Bool.and_eq_true_iff.mp e).1) XL.keeps (by rfl) (by rfl) (by rfl) (fun s e => recFacts_of (Bool.and_eq_true_iff.mp e).2) (by first | rfl | fail "open_line: no head takes a call that writes beside a table") (by first | assumption | decide +kernel) (by decide +kernel) ⟨rfl, rfl, rfl, rfl, rfl, by decide +kernel⟩ ?hw ?hc
  case hl => (intro w9; kernel_rfl)))
namespace Mine
open_top hd for PySem.Challenge.rw_pf0070_01
end Mine
end

local macro_rules | `(tactic| walk_at $s:str) => do
  let t : Lean.TSyntax `str := Lean.quote (s.getString ++ "#")
  `(tactic| k_extra $t)

/- Mk -/
namespace Mine
theorem off_lt {d : Addr} : ∀ {l : List (Addr × Obj)}, AllLt d l → ∀ p ∈ l, p.1 ≠ d
  | [], _, _, h => nomatch h
  | _ :: _, h, _, hp => by
    rcases List.mem_cons.mp hp with rfl | hp
    · exact Nat.ne_of_lt h.1
    · exact off_lt h.2 _ hp
theorem off_mem {d : Addr} {l : List (Addr × Obj)} (h : d ∉ l.map (·.1)) : ∀ p ∈ l, p.1 ≠ d := fun p hp e => h (e ▸ List.mem_map_of_mem hp)
section
variable {prog : Program} {w : World} {A : Around} {E : Value → Shared → Prop} {s : Shared} {h₀ : Heap} {L l : Addr} {m : Str → Option Value} {news : List (Addr × Obj)} {its : Array Value} {n : Nat} {k : Int} {u : Tok} {v : Value}
/-- xs[k], a list of the ledger, the item known -/
theorem m_sub {value slice : PySem.Expr} {Q : Value → Shared → Prop} (N : News h₀ L s.heap news) (hm : (l, listOf its n) ∈ news) (h0 : 0 ≤ k) (hhi : k < 2 ^ 63) (hx : its.toList[k.toNat]? = some v) (h : Q v s)
    (hs : subscripted slice false (.ref l) (.int k u) = operate [.ref l, .int k u] (getItem (.ref l) (.int k u)) := by with_unfolding_all rfl) :
    wpAny (model prog w) A (subscriptTail value slice (.ref l) (.int k u)) Q E s :=
  have hL : s.heap.IsList l its := ⟨_, N.get hm, rfl, n, rfl⟩
  tail_any hL.typeIs slot_list_getitem.lookup (wpAny_getItem_list hL h0 hhi (by simpa using hx) h) hs
theorem m_mul {a b : Int} {t u : Tok} {Q : Value → Shared → Prop} (h1 : -(2 ^ 64) < a) (h2 : a < 2 ^ 64) (h : Q (.int (a * b) s.toks) { s with toks := s.toks + 1 }) : wpAny (model prog w) A (binaryOp .Mult (.int a t) (.int b u)) Q E s :=
  mul_int h (IntMulOk.of_left (intBits_le_64 h1 h2))
end
section
open LCg LCt
variable {prog : Program} {w : World} {A : Around} {h₀ : Heap} {L : Addr} {m : Str → Option Value} {env : Env}
theorem compEnd_mono {s₁ s₂ : Shared} {I C D : Addr} {oI oC oD : Obj} {S : List (Addr × Obj) → Prop} {r r' : Value → List (Addr × Obj) → Prop} {y : Value} (h : CompEnd h₀ L m s₁ I oI C oC D oD S r y s₂) (k : ∀ y n, r y n → r' y n) : CompEnd h₀ L m s₁ I oI C oC D oD S r' y s₂ :=
  let ⟨h', tk, n, a, b, c, d, e, f⟩ := h; ⟨h', tk, n, a, b, c, d, e, k _ _ f⟩
/-- a comprehension with a test, by what holds of its turns -/
theorem compT_ind {ct elt : PySem.Expr} {x : Str} {scope : Scope} {cl : List (Str × Addr)} {s : Shared} {S : List (Addr × Obj) → Prop} {P : Nat → Value → Prop} {Fin : List Value → List (Addr × Obj) → Prop} {n : Nat}
    (Inv : Nat → List Value → List (Addr × Obj) → Prop)
    (step : ∀ i ys news v I oI C oC D m₂ h tk (E' : Value → Shared → Prop), i < n → Inv i ys news → P i v → NsObj oC m₂ → m₂ x = some v → Fr h₀ L h m → News h₀ L h ((I, oI) :: (C, oC) :: (D, lst ys) :: news) → Off3 I C D news → ((@Ne Nat I C) ∧ (@Ne Nat I D) ∧ (@Ne Nat C D)) →
      wpAny (model prog w) A (isTrue ct (compEnvC scope cl C env) (eval ct (compEnvC scope cl C env))) (fun ok s' => if ok = true then
        wpAny (model prog w) A (eval elt (compEnvC scope cl C env)) (CompEnd h₀ L m { s with heap := h, toks := tk } I oI C oC D (lst ys) S (fun y news' => Inv (i + 1) (ys ++ [y]) news')) E' s'
        else CompEnd h₀ L m { s with heap := h, toks := tk } I oI C oC D (lst ys) S (fun _ news' => Inv (i + 1) ys news') Value.none s') E' { s with heap := h, toks := tk })
    (fin : ∀ ys news, Inv n ys news → Fin ys news) : ∀ k i ys news, i + k = n → Inv i ys news → CompRestT prog w A h₀ L m env ct elt x scope cl s S P Fin k i ys news := by
  intro k
  induction k with
  | zero => intro i ys news e hi; have e' : i = n := e; subst e'; exact fin ys news hi
  | succ k ih =>
    intro i ys news e hi
    refine CompRestT.succ fun v I oI C oC D m₂ h tk E' hv hC hx F N off ne => ?_
    refine wpAny_mono (step i ys news v I oI C oC D m₂ h tk E' (by omega) hi hv hC hx F N off ne) (fun ok s' hs => ?_) fun _ _ x => x
    cases ok with
    | true =>
      simp only [if_true] at hs ⊢
      exact wpAny_mono hs (fun y s₂ hy => compEnd_mono hy fun y n' hn => ih (i + 1) _ _ (by omega) hn) fun _ _ x => x
    | false =>
      simp only [Bool.false_eq_true, if_false] at hs ⊢
      exact compEnd_mono hs fun y n' hn => ih (i + 1) _ _ (by omega) hn
theorem comp_ind {elt : PySem.Expr} {x : Str} {scope : Scope} {cl : List (Str × Addr)} {s : Shared} {S : List (Addr × Obj) → Prop} {P : Nat → Value → Prop} {Fin : List Value → List (Addr × Obj) → Prop} {n : Nat}
    (Inv : Nat → List Value → List (Addr × Obj) → Prop)
    (step : ∀ i ys news v I oI C oC D m₂ h tk (E' : Value → Shared → Prop), i < n → Inv i ys news → P i v → NsObj oC m₂ → m₂ x = some v → Fr h₀ L h m → News h₀ L h ((I, oI) :: (C, oC) :: (D, lst ys) :: news) → Off3 I C D news → ((@Ne Nat I C) ∧ (@Ne Nat I D) ∧ (@Ne Nat C D)) →
      wpAny (model prog w) A (eval elt (compEnvC scope cl C env)) (CompEnd h₀ L m { s with heap := h, toks := tk } I oI C oC D (lst ys) S (fun y news' => Inv (i + 1) (ys ++ [y]) news')) E' { s with heap := h, toks := tk })
    (fin : ∀ ys news, Inv n ys news → Fin ys news) : ∀ k i ys news, i + k = n → Inv i ys news → CompRest prog w A h₀ L m env elt x scope cl s S P Fin k i ys news := by
  intro k
  induction k with
  | zero => intro i ys news e hi; have e' : i = n := e; subst e'; exact fin ys news hi
  | succ k ih =>
    intro i ys news e hi
    refine CompRest.succ fun v I oI C oC D m₂ h tk E' hv hC hx F N off ne => ?_
    exact wpAny_mono (step i ys news v I oI C oC D m₂ h tk E' (by omega) hi hv hC hx F N off ne) (fun y s' hs => compEnd_mono hs fun y n' hn => ih (i + 1) _ _ (by omega) hn) fun _ _ x => x
end

/-- a place: the row's list and the goroutine -/
structure Cell where
  ra : Addr
  rn : Nat
  rt : Tok
  rst : Str
  rwf : Value
  ran : Value
  g : Addr
  d : Addr
  f : Addr
  k1 : Tok
  k2 : Tok
  k3 : Tok
  k4 : Tok
  k5 : Tok
  i : Int
  it : Tok
  gst : Str
  gt : Tok
  gwf : Value
  gan : Value
  fo : Obj

abbrev gdict (w : World) (c : Cell) : Obj := dictOf
  [⟨PyData.keyHash w.params (Str.ofString "number"), .str (Str.ofString "number") c.k1, .int c.i c.it⟩,
   ⟨PyData.keyHash w.params (Str.ofString "state"), .str (Str.ofString "state") c.k2, .str c.gst c.gt⟩,
   ⟨PyData.keyHash w.params (Str.ofString "waits_for"), .str (Str.ofString "waits_for") c.k3, c.gwf⟩,
   ⟨PyData.keyHash w.params (Str.ofString "frames"), .str (Str.ofString "frames") c.k4, .ref c.f⟩,
   ⟨PyData.keyHash w.params (Str.ofString "answer"), .str (Str.ofString "answer") c.k5, c.gan⟩] 5
abbrev rowObj (c : Cell) : Obj := listOf #[.str c.rst c.rt, c.rwf, c.ran] c.rn
abbrev sdict (w : World) (k1 k2 k3 : Tok) (C all : Addr) (here : Value) : Obj := dictOf
  [⟨PyData.keyHash w.params (Str.ofString "choices"), .str (Str.ofString "choices") k1, .ref C⟩,
   ⟨PyData.keyHash w.params (Str.ofString "all"), .str (Str.ofString "all") k2, .ref all⟩,
   ⟨PyData.keyHash w.params (Str.ofString "here"), .str (Str.ofString "here") k3, here⟩] 3
end Mine
local macro_rules | `(tactic| k_all) => `(tactic| first | assumption | exact Mine.off_lt (by assumption) | exact Mine.off_mem (by assumption))
theorem Mine.word1 : True := by
  k_with "m:sub#" => first | ((k_here; (with_reducible show wpAny _ _ (subscriptTail _ _ (Value.ref _) (Value.int _ _)) _ _ _); k_dflt (refine' Mine.m_sub ?Nw ?mw ?aw ?bw ?xw ?_; (case Nw => k_asm); (case mw => k_mem); (case aw => decide); (case bw => decide); (case xw => rfl); k_whole))) | fail "no"
  k_with "subscriptTail Name Constant ref int#" => first | (walk_at "m:sub") | fail "no"
  k_with "m:compT#" => first | ((k_here; lct_look; k_dflt (refine LCt.ListComp_T (F₀ := by k_asm) (by with_unfolding_all rfl) (by decide) (by rfl) (by decide) (by rfl) ?_))) | fail "no"
  k_with "m:comp#" => first | ((k_here; k_dflt (refine LCg.ListComp_U (F₀ := by k_asm) (by with_unfolding_all rfl) (by decide) (by rfl) (by decide) (by rfl) ?_))) | fail "no"
  k_with "eval ListComp Name cons#" => first | (first | walk_at "m:compT" | walk_at "m:comp") | fail "no"
  k_with "eval ListComp Tuple cons#" => first | (first | walk_at "m:compT" | walk_at "m:comp") | fail "no"
  k_with "eval ListComp List cons#" => first | (first | walk_at "m:compT" | walk_at "m:comp") | fail "no"
  k_with "eval ListComp Attribute cons#" => first | (first | walk_at "m:compT" | walk_at "m:comp") | fail "no"
  k_with "CompSrcT#" => first | ((k_here; k_dflt (refine LCt.CompSrcT.ledger (by rfl) (by k_asm) (by k_asm) (by k_mem) (by first | size_fits | (simp only [List.size_toArray, List.length_map]; rw [sizeLine_eq]; omega)) ?_); intro _)) | fail "no"
  k_with "CompSrc#" => first | ((k_here; k_dflt (refine LCg.CompSrc.ledger (by rfl) (by k_asm) (by k_asm) (by k_mem) (by first | size_fits | (simp only [List.size_toArray, List.length_map]; rw [sizeLine_eq]; omega)) ?_); intro _)) | fail "no"
  trivial
namespace Mine
theorem get_map {α : Type} {f : α → Value} {cs : List α} {i : Nat} {v : Value} (h : (cs.map f).toArray[i]? = some v) : ∃ c, cs[i]? = some c ∧ c ∈ cs ∧ v = f c := by
  have h' : (cs.map f)[i]? = some v := by simpa using h
  rw [List.getElem?_map] at h'
  cases e : cs[i]? with
  | none => rw [e] at h'; cases h'
  | some c => rw [e] at h'; exact ⟨c, rfl, List.mem_of_getElem? e, (Option.some.inj h').symm⟩
theorem take_get {α : Type} {cs : List α} {i : Nat} {c : α} (h : cs[i]? = some c) : cs.take (i + 1) = cs.take i ++ [c] := by rw [List.take_add_one, h]; rfl
theorem take_yes {α β : Type} {p : α → Bool} {f : α → β} {cs : List α} {i : Nat} {c : α} (h : cs[i]? = some c) (hp : p c = true) : ((cs.take i).filter p).map f ++ [f c] = ((cs.take (i + 1)).filter p).map f := by
  rw [take_get h, List.filter_append, List.map_append]; simp [hp]
theorem take_no {α β : Type} {p : α → Bool} {f : α → β} {cs : List α} {i : Nat} {c : α} (h : cs[i]? = some c) (hp : p c = false) : ((cs.take i).filter p).map f = ((cs.take (i + 1)).filter p).map f := by
  rw [take_get h, List.filter_append, List.map_append]; simp [hp]
end Mine
theorem Mine.word2 : True := by
  k_with "m:in#" => first | (first | assumption | ((with_reducible refine List.mem_cons_of_mem _ ?_); walk_at "m:in") | ((with_reducible refine List.mem_append_right _ ?_); walk_at "m:in") | ((with_reducible refine List.mem_append_left _ ?_); walk_at "m:in")) | fail "no"
  k_with "m:tail#" => first | ((intro _ _; walk_at "m:in")) | fail "no"
  trivial
namespace Mine
theorem mem_back {α : Type} {a : α} {l : List α} (h : a ∈ l) : List.Mem a l := h
end Mine
local macro_rules | `(tactic| k_mem) => `(tactic| (refine Mine.mem_back ?_; (with_reducible refine List.mem_append_right _ ?_); k_mem))
local macro_rules | `(tactic| k_mem) => `(tactic| (refine Mine.mem_back ?_; ktr_member))
theorem Mine.word3 : True := by
  k_with "m:src#" => first | (exact Or.inr ⟨_, by k_mem, rfl, _, rfl⟩) | fail "no"
  trivial
namespace Mine
section
open SeqAt
variable {prog : Program} {w : World} {A : Around} {E : Value → Shared → Prop} {s : Shared} {h₀ : Heap} {L a b : Addr} {news : List (Addr × Obj)} {xs ys : Array Value} {n k : Nat} {Q : Value → Shared → Prop}
theorem isList_of (N : News h₀ L s.heap news) (h : (a, ({ cls := .type "list", data := .seq xs n } : Obj)) ∈ news) : s.heap.IsList a xs := ⟨_, N.get h, rfl, n, rfl⟩
theorem isTup_of (N : News h₀ L s.heap news) (h : (a, ({ cls := .type "tuple", data := .seq xs n } : Obj)) ∈ news) : s.heap.IsTuple a xs := ⟨_, N.get h, rfl, n, rfl⟩
theorem m_eq_nil (N : News h₀ L s.heap news) (ha : (a, ({ cls := .type "list", data := .seq xs n } : Obj)) ∈ news) (hb : (b, ({ cls := .type "list", data := .seq #[] k } : Obj)) ∈ news) (hu : A.units < cLine) (h : Q (.bool xs.isEmpty) s) :
    wpAny (model prog w) A (compareOp .Eq (.ref a) (.ref b)) Q E s := by
  have la := isList_of N ha
  have lb := isList_of N hb
  by_cases hx : xs.size = 0
  · have e : xs = #[] := Array.eq_empty_of_size_eq_zero hx
    subst e
    exact RcAt.lists (e := fun _ => true) la lb rfl hu (fun j h1 _ => absurd h1 (Nat.not_lt_zero _)) prog w E Q (by simpa using h)
  · refine RcAt.lists_lengths la lb (by simpa using hx) hu prog w E Q ?_
    have e : xs.isEmpty = false := by simpa [Array.isEmpty] using hx
    rw [e] at h; exact h
theorem m_ne_nil (N : News h₀ L s.heap news) (ha : (a, ({ cls := .type "list", data := .seq xs n } : Obj)) ∈ news) (hb : (b, ({ cls := .type "list", data := .seq #[] k } : Obj)) ∈ news) (hu : A.units < cLine) (h : Q (.bool (!xs.isEmpty)) s) :
    wpAny (model prog w) A (compareOp .NotEq (.ref a) (.ref b)) Q E s := by
  have la := isList_of N ha
  have lb := isList_of N hb
  by_cases hx : xs.size = 0
  · have e : xs = #[] := Array.eq_empty_of_size_eq_zero hx
    subst e
    exact RcNeAt.lists (e := fun _ => true) la lb rfl hu (fun j h1 _ => absurd h1 (Nat.not_lt_zero _)) prog w E Q (by simpa using h)
  · refine RcNeAt.lists_lengths la lb (by simpa using hx) hu prog w E Q ?_
    have e : xs.isEmpty = false := by simpa [Array.isEmpty] using hx
    rw [e] at h; exact h
/-- two rows of values, equal pair by pair -/
def AllEq (A : Around) (s : Shared) (xs ys : Array Value) : Prop := xs.size = ys.size ∧ ∀ j (h1 : j < xs.size) (h2 : j < ys.size), EqAt A.in1 s xs[j] ys[j] true
/-- two lists whose items are equal, pair by pair -/
theorem m_ne_same (N : News h₀ L s.heap news) (ha : (a, ({ cls := .type "list", data := .seq xs n } : Obj)) ∈ news) (hb : (b, ({ cls := .type "list", data := .seq ys k } : Obj)) ∈ news) (hu : A.units < cLine) (he : AllEq A s xs ys) (h : Q (.bool false) s) :
    wpAny (model prog w) A (compareOp .NotEq (.ref a) (.ref b)) Q E s :=
  RcNeAt.lists (e := fun _ => true) (isList_of N ha) (isList_of N hb) he.1 hu he.2 prog w E Q (by
    have e : (!(List.range xs.size).all (fun _ => true)) = false := by simp
    exact e.symm ▸ h)
theorem eqAt_lists (N : News h₀ L s.heap news) (ha : (a, ({ cls := .type "list", data := .seq xs n } : Obj)) ∈ news) (hb : (b, ({ cls := .type "list", data := .seq ys k } : Obj)) ∈ news) (hu : A.units < cLine) (hsz : xs.size = ys.size)
    (he : ∀ j (h1 : j < xs.size) (h2 : j < ys.size), EqAt A.in1 s xs[j] ys[j] true) : EqAt A s (.ref a) (.ref b) true := by
  have r := RcAt.lists (e := fun _ => true) (isList_of N ha) (isList_of N hb) hsz hu he
  have e : (List.range xs.size).all (fun _ => true) = true := by simp
  rw [e] at r
  by_cases hab : a = b
  · subst hab; exact EqAt.same _
  · exact EqAt.of_refs hab r
theorem eqAt_tuples (N : News h₀ L s.heap news) (ha : (a, ({ cls := .type "tuple", data := .seq xs n } : Obj)) ∈ news) (hb : (b, ({ cls := .type "tuple", data := .seq ys k } : Obj)) ∈ news) (hu : A.units < cLine) (hsz : xs.size = ys.size)
    (he : ∀ j (h1 : j < xs.size) (h2 : j < ys.size), EqAt A.in1 s xs[j] ys[j] true) : EqAt A s (.ref a) (.ref b) true := by
  have r := RcAt.tuples (e := fun _ => true) (isTup_of N ha) (isTup_of N hb) hu he
  have e : ((List.range (min xs.size ys.size)).all (fun _ => true) && xs.size == ys.size) = true := by simp [hsz]
  rw [e] at r
  by_cases hab : a = b
  · subst hab; exact EqAt.same _
  · exact EqAt.of_refs hab r
end
end Mine
theorem Mine.word4 : True := by
  k_with "m:units#" => first | (first | ktr_units | (have hcL9 := cLine_is; (simp only [units_in1, units_deeper, Around.mark_units] at *); (try dsimp only [ktrTop] at *); omega)) | fail "no"
  k_with "m:eqnil#" => first | ((k_here; (with_reducible show wpAny _ _ (compareOp CmpOp.Eq (Value.ref _) (Value.ref _)) _ _ _); k_dflt (refine' Mine.m_eq_nil ?Nw ?aw ?bw ?uw ?_; (case Nw => k_asm); (case bw => k_mem); (case aw => k_mem); (case uw => walk_at "m:units"); k_whole))) | fail "no"
  k_with "m:nenil#" => first | ((k_here; (with_reducible show wpAny _ _ (compareOp CmpOp.NotEq (Value.ref _) (Value.ref _)) _ _ _); k_dflt (refine' Mine.m_ne_nil ?Nw ?aw ?bw ?uw ?_; (case Nw => k_asm); (case bw => k_mem); (case aw => k_mem); (case uw => walk_at "m:units"); k_whole))) | fail "no"
  k_with "compareOp Eq ref ref#" => first | (walk_at "m:eqnil") | fail "no"
  k_with "m:nesame#" => first | ((k_here; (with_reducible show wpAny _ _ (compareOp CmpOp.NotEq (Value.ref _) (Value.ref _)) _ _ _); k_dflt (refine' Mine.m_ne_same ?Nw ?aw ?bw ?uw ?_ ?_; (case Nw => k_asm); (case aw => k_mem); (case bw => k_mem); (case uw => walk_at "m:units")))) | fail "no"
  k_with "compareOp NotEq ref ref#" => first | (first | walk_at "m:nenil" | walk_at "m:nesame") | fail "no"
  trivial
namespace Mine
section
open LCg LCt
variable {prog : Program} {w : World} {A : Around} {h₀ : Heap} {L : Addr} {m : Str → Option Value} {env : Env}
/-- a comprehension with a test that leaves the ledger as it was -/
theorem compT_const {ct elt : PySem.Expr} {x : Str} {scope : Scope} {cl : List (Str × Addr)} {s : Shared} {S : List (Addr × Obj) → Prop} {P : Nat → Value → Prop} {Fin : List Value → List (Addr × Obj) → Prop} {n : Nat} {news : List (Addr × Obj)}
    (Inv : Nat → List Value → Prop)
    (step : ∀ i ys v I oI C oC D m₂ h tk (E' : Value → Shared → Prop), i < n → Inv i ys → P i v → NsObj oC m₂ → m₂ x = some v → Fr h₀ L h m → News h₀ L h ((I, oI) :: (C, oC) :: (D, lst ys) :: news) → Off3 I C D news → ((@Ne Nat I C) ∧ (@Ne Nat I D) ∧ (@Ne Nat C D)) →
      wpAny (model prog w) A (isTrue ct (compEnvC scope cl C env) (eval ct (compEnvC scope cl C env))) (fun ok s' => if ok = true then
        wpAny (model prog w) A (eval elt (compEnvC scope cl C env)) (CompEnd h₀ L m { s with heap := h, toks := tk } I oI C oC D (lst ys) S (fun y news' => news' = news ∧ Inv (i + 1) (ys ++ [y]))) E' s'
        else CompEnd h₀ L m { s with heap := h, toks := tk } I oI C oC D (lst ys) S (fun _ news' => news' = news ∧ Inv (i + 1) ys) Value.none s') E' { s with heap := h, toks := tk })
    (fin : ∀ ys, Inv n ys → Fin ys news) (h0 : Inv 0 []) : CompRestT prog w A h₀ L m env ct elt x scope cl s S P Fin n 0 [] news := by
  refine compT_ind (fun i ys n' => n' = news ∧ Inv i ys) ?_ ?_ _ 0 [] news (Nat.zero_add _) ⟨rfl, h0⟩
  · rintro i ys n' v I oI C oC D m₂ h tk E' hi ⟨rfl, hI⟩ hv hC hx F N off ne
    exact step i ys v I oI C oC D m₂ h tk E' hi hI hv hC hx F N off ne
  · rintro ys n' ⟨rfl, hI⟩
    exact fin ys hI
theorem comp_const {elt : PySem.Expr} {x : Str} {scope : Scope} {cl : List (Str × Addr)} {s : Shared} {S : List (Addr × Obj) → Prop} {P : Nat → Value → Prop} {Fin : List Value → List (Addr × Obj) → Prop} {n : Nat} {news : List (Addr × Obj)}
    (Inv : Nat → List Value → Prop)
    (step : ∀ i ys v I oI C oC D m₂ h tk (E' : Value → Shared → Prop), i < n → Inv i ys → P i v → NsObj oC m₂ → m₂ x = some v → Fr h₀ L h m → News h₀ L h ((I, oI) :: (C, oC) :: (D, lst ys) :: news) → Off3 I C D news → ((@Ne Nat I C) ∧ (@Ne Nat I D) ∧ (@Ne Nat C D)) →
      wpAny (model prog w) A (eval elt (compEnvC scope cl C env)) (CompEnd h₀ L m { s with heap := h, toks := tk } I oI C oC D (lst ys) S (fun y news' => news' = news ∧ Inv (i + 1) (ys ++ [y]))) E' { s with heap := h, toks := tk })
    (fin : ∀ ys, Inv n ys → Fin ys news) (h0 : Inv 0 []) : CompRest prog w A h₀ L m env elt x scope cl s S P Fin n 0 [] news := by
  refine comp_ind (fun i ys n' => n' = news ∧ Inv i ys) ?_ ?_ _ 0 [] news (Nat.zero_add _) ⟨rfl, h0⟩
  · rintro i ys n' v I oI C oC D m₂ h tk E' hi ⟨rfl, hI⟩ hv hC hx F N off ne
    exact step i ys v I oI C oC D m₂ h tk E' hi hI hv hC hx F N off ne
  · rintro ys n' ⟨rfl, hI⟩
    exact fin ys hI
end
theorem take_all {α β : Type} {p : α → Bool} {f : α → β} {g : α → Value} {cs : List α} : ((cs.take (cs.map g).toArray.size).filter p).map f = (cs.filter p).map f := by simp
end Mine
theorem Mine.word5 : True := by
  k_with "m:cend#" => first | (refine LCg.CompEnd.intro (by k_asm) (by k_asm) _ (by walk_at "m:tail") (by assumption) (by walk_at "m:src") ⟨rfl, ?_⟩) | fail "no"
  trivial
namespace Mine
theorem emp {α : Type} {l : List α} {f : α → Value} : (l.map f).toArray.isEmpty = l.isEmpty := by cases l <;> simp
end Mine
theorem Mine.word6 : True := by
  k_with "m:back#" => first | ((rename News _ _ _ _ => kN9; exact fun p9 hp9 => kN9 p9 (by walk_at "m:in"))) | fail "no"
  trivial
namespace Mine
/-- the values name lists or tuples of these items, that stand in the ledger -/
inductive Seqs (k : String) : List Value → List (List Value) → List (Addr × Obj) → Prop
  | nil {add} : Seqs k [] [] add
  | cons {a : Addr} {n : Nat} {ys : List Value} {x : List Value} {xs : List (List Value)} {add : List (Addr × Obj)} : (a, ({ cls := .type k, data := .seq x.toArray n } : Obj)) ∈ add → Seqs k ys xs add → Seqs k (.ref a :: ys) (x :: xs) add
/-- the values name pairs, a number and a value -/
inductive Pairs : List Value → List (Int × Value) → List (Addr × Obj) → Prop
  | nil {add} : Pairs [] [] add
  | cons {a : Addr} {n : Nat} {ys : List Value} {i : Int} {t : Tok} {v : Value} {xs : List (Int × Value)} {add : List (Addr × Obj)} : (a, ({ cls := .type "tuple", data := .seq #[.int i t, v] n } : Obj)) ∈ add → Pairs ys xs add → Pairs (.ref a :: ys) ((i, v) :: xs) add
end Mine
namespace Mine
theorem q_eq {Q : Value → Shared → Prop} {v v' : Value} {s : Shared} (h : Q v' s) (e : v = v') : Q v s := e ▸ h
end Mine
theorem Mine.word7 : True := by
  k_with "m:perm#" => first | ((intro _ hp9w; simp only [List.mem_cons, List.mem_append, List.cons_append, List.append_assoc, List.nil_append, List.not_mem_nil, or_false, false_or] at hp9w ⊢; (repeat' ((with_reducible refine Or.elim hp9w (fun hq9 => ?_) (fun hq9 => ?_)); clear hp9w; rename_i hp9w)) <;> simp only [hp9w, true_or, or_true])) | fail "no"
  trivial
local macro_rules | `(tactic| k_handed) => `(tactic| assumption)
namespace Mine
section
open LCg
theorem cend_new {h₀ : Heap} {L I C D D' : Addr} {m : Str → Option Value} {s₁ : Shared} {oI oC oD o : Obj} {S : List (Addr × Obj) → Prop} {rest : Value → List (Addr × Obj) → Prop} {y : Value} {h' : Heap} {tk : Nat} {nw : List (Addr × Obj)}
    (F : Fr h₀ L h' m) (N : News h₀ L h' ((D', o) :: (I, oI) :: (C, oC) :: (D, oD) :: nw)) (l1 : I < D' ∧ C < D' ∧ D < D' ∧ AllLt D' nw) (off : Off3 I C D nw) (hS : S ((D', o) :: nw)) (r : rest y ((D', o) :: nw)) :
    CompEnd h₀ L m s₁ I oI C oC D oD S rest y { s₁ with heap := h', toks := tk } :=
  CompEnd.intro F N ((D', o) :: nw) (fun p hp => by
    rcases List.mem_cons.mp hp with rfl | hp
    · exact .tail _ (.head _)
    rcases List.mem_cons.mp hp with rfl | hp
    · exact .tail _ (.tail _ (.head _))
    rcases List.mem_cons.mp hp with rfl | hp
    · exact .tail _ (.tail _ (.tail _ (.head _)))
    rcases List.mem_cons.mp hp with rfl | hp
    · exact .head _
    · exact .tail _ (.tail _ (.tail _ (.tail _ hp)))) ⟨⟨Nat.ne_of_gt l1.1, Nat.ne_of_gt l1.2.1, Nat.ne_of_gt l1.2.2.1⟩, off⟩ hS r
end
theorem Seqs.mono {k : String} {ys : List Value} {xs : List (List Value)} {add add' : List (Addr × Obj)} (h : Seqs k ys xs add) (s : ∀ p ∈ add, p ∈ add') : Seqs k ys xs add' := by
  induction h with
  | nil => exact .nil
  | cons h _ ih => exact .cons (s _ h) (ih s)
theorem Seqs.snoc {k : String} {ys : List Value} {xs : List (List Value)} {add : List (Addr × Obj)} (h : Seqs k ys xs add) {a : Addr} {n : Nat} {x : List Value} : Seqs k (ys ++ [.ref a]) (xs ++ [x]) ((a, ({ cls := .type k, data := .seq x.toArray n } : Obj)) :: add) := by
  induction h with
  | nil => exact .cons List.mem_cons_self .nil
  | cons h _ ih => exact .cons (List.mem_cons_of_mem _ h) ih
theorem Seqs.length {k : String} {ys : List Value} {xs : List (List Value)} {add : List (Addr × Obj)} (h : Seqs k ys xs add) : ys.length = xs.length := by
  induction h with
  | nil => rfl
  | cons _ _ ih => simp [ih]
theorem Seqs.get {k : String} {ys : List Value} {xs : List (List Value)} {add : List (Addr × Obj)} (h : Seqs k ys xs add) : ∀ (j : Nat) (x : List Value), xs[j]? = some x → ∃ a n, ys[j]? = some (.ref a) ∧ (a, ({ cls := .type k, data := .seq x.toArray n } : Obj)) ∈ add := by
  induction h with
  | nil => intro j x e; simp at e
  | cons h _ ih =>
    intro j x e
    cases j with
    | zero => simp at e; subst e; exact ⟨_, _, rfl, h⟩
    | succ j => simpa using ih j x (by simpa using e)
theorem Pairs.mono {ys : List Value} {xs : List (Int × Value)} {add add' : List (Addr × Obj)} (h : Pairs ys xs add) (s : ∀ p ∈ add, p ∈ add') : Pairs ys xs add' := by
  induction h with
  | nil => exact .nil
  | cons h _ ih => exact .cons (s _ h) (ih s)
theorem Pairs.snoc {ys : List Value} {xs : List (Int × Value)} {add : List (Addr × Obj)} (h : Pairs ys xs add) {a : Addr} {n : Nat} {i : Int} {t : Tok} {v : Value} : Pairs (ys ++ [.ref a]) (xs ++ [(i, v)]) ((a, ({ cls := .type "tuple", data := .seq #[.int i t, v] n } : Obj)) :: add) := by
  induction h with
  | nil => exact .cons List.mem_cons_self .nil
  | cons h _ ih => exact .cons (List.mem_cons_of_mem _ h) ih
theorem Pairs.length {ys : List Value} {xs : List (Int × Value)} {add : List (Addr × Obj)} (h : Pairs ys xs add) : ys.length = xs.length := by
  induction h with
  | nil => rfl
  | cons _ _ ih => simp [ih]
theorem Pairs.get {ys : List Value} {xs : List (Int × Value)} {add : List (Addr × Obj)} (h : Pairs ys xs add) : ∀ (j : Nat) (x : Int × Value), xs[j]? = some x → ∃ a n t, ys[j]? = some (.ref a) ∧ (a, ({ cls := .type "tuple", data := .seq #[.int x.1 t, x.2] n } : Obj)) ∈ add := by
  induction h with
  | nil => intro j x e; simp at e
  | cons h _ ih =>
    intro j x e
    cases j with
    | zero => simp at e; subst e; exact ⟨_, _, _, rfl, h⟩
    | succ j => simpa using ih j x (by simpa using e)
theorem ints_snoc {vs : List Value} {ns : List Int} (h : IntsAre vs ns) (i : Int) (t : Tok) : IntsAre (vs ++ [.int i t]) (ns ++ [i]) := by
  induction h with
  | nil => exact .cons i t .nil
  | cons j u _ ih => exact .cons j u ih
structure Sees (w : World) (news : List (Addr × Obj)) (S Sd all C : Addr) (here : Value) (k1 k2 k3 : Tok) (an : Nat) (cs : List Cell) : Prop where
  s : (S, instObj 157 Sd) ∈ news
  d : (Sd, sdict w k1 k2 k3 C all here) ∈ news
  a : (all, listOf (cs.map fun c => Value.ref c.g).toArray an) ∈ news
  g : ∀ c ∈ cs, (c.g, instObj 71 c.d) ∈ news ∧ (c.d, gdict w c) ∈ news
theorem Sees.mono {w : World} {news news' : List (Addr × Obj)} {S Sd all C : Addr} {here : Value} {k1 k2 k3 : Tok} {an : Nat} {cs : List Cell} (h : Sees w news S Sd all C here k1 k2 k3 an cs) (k : ∀ p ∈ news, p ∈ news') : Sees w news' S Sd all C here k1 k2 k3 an cs :=
  ⟨k _ h.s, k _ h.d, k _ h.a, fun c hc => ⟨k _ (h.g c hc).1, k _ (h.g c hc).2⟩⟩
/-- the rows' list and its rows -/
structure Rows (news : List (Addr × Obj)) (R : Addr) (rn : Nat) (cs : List Cell) : Prop where
  l : (R, listOf (cs.map fun c => Value.ref c.ra).toArray rn) ∈ news
  r : ∀ c ∈ cs, (c.ra, rowObj c) ∈ news
theorem Rows.mono {news news' : List (Addr × Obj)} {R : Addr} {rn : Nat} {cs : List Cell} (h : Rows news R rn cs) (k : ∀ p ∈ news, p ∈ news') : Rows news' R rn cs :=
  ⟨k _ h.l, fun c hc => k _ (h.r c hc)⟩
/-- the goroutines are as the rows say -/
structure Sync (cs : List Cell) : Prop where
  len : cs.length ≤ 5
  idx : ∀ (i : Nat) c, cs[i]? = some c → c.i = (i : Int)
  same : ∀ c ∈ cs, c.rst = c.gst ∧ c.rwf = c.gwf ∧ c.ran = c.gan
  hand : ∀ c ∈ cs, handedIn c.gwf = true ∧ handedIn c.gan = true
end Mine
theorem Mine.word8 : True := by
  k_with "m:sees#" => first | (first | assumption | exact Mine.Sees.mono (by assumption) (by walk_at "m:tail")) | fail "no"
  k_with "m:rows#" => first | (first | assumption | exact Mine.Rows.mono (by assumption) (by walk_at "m:tail")) | fail "no"
  trivial
namespace Mine
theorem take_map {α β : Type} {f : α → β} {cs : List α} {i : Nat} {c : α} (h : cs[i]? = some c) : (cs.take i).map f ++ [f c] = (cs.take (i + 1)).map f := by rw [take_get h, List.map_append]; rfl
theorem take_allm {α β : Type} {f : α → β} {g : α → Value} {cs : List α} : (cs.take (cs.map g).toArray.size).map f = cs.map f := by simp
end Mine
namespace Mine
section
open SeqAt
variable {A : Around} {s : Shared} {h₀ : Heap} {L : Addr} {news add : List (Addr × Obj)} {ys : List Value} {cs : List Cell}
theorem allEq_of {A : Around} {s : Shared} {xs ys : List Value} (hl : xs.length = ys.length) (h : ∀ (j : Nat) x y, xs[j]? = some x → ys[j]? = some y → EqAt A.in1 s x y true) : AllEq A s xs.toArray ys.toArray := by
  refine ⟨by simpa using hl, fun j h1 h2 => h j _ _ ?_ ?_⟩
  · simp
  · simp
theorem eq3 {A : Around} {s : Shared} {a b c a' b' c' : Value} (h1 : EqAt A s a a' true) (h2 : EqAt A s b b' true) (h3 : EqAt A s c c' true) : ∀ j (h1 : j < #[a, b, c].size) (h2 : j < #[a', b', c'].size), EqAt A s #[a, b, c][j] #[a', b', c'][j] true := by
  intro j x y
  match j, x, y with
  | 0, _, _ => exact h1
  | 1, _, _ => exact h2
  | 2, _, _ => exact h3
  | j + 3, x, _ => exact absurd x (by simp)
theorem eq2 {A : Around} {s : Shared} {a b a' b' : Value} (h1 : EqAt A s a a' true) (h2 : EqAt A s b b' true) : ∀ j (h1 : j < #[a, b].size) (h2 : j < #[a', b'].size), EqAt A s #[a, b][j] #[a', b'][j] true := by
  intro j x y
  match j, x, y with
  | 0, _, _ => exact h1
  | 1, _, _ => exact h2
  | j + 2, x, _ => exact absurd x (by simp)
theorem eq_strs {x y : Str} {t u : Tok} (h : x = y) : EqAt A s (.str x t) (.str y u) true := by
  have q := EqAt.str_str (A := A) (s := s) x t y u
  rw [h] at q ⊢
  simpa using q
theorem eq_ints {x y : Int} {t u : Tok} (h : x = y) : EqAt A s (.int x t) (.int y u) true := by
  have q := EqAt.int_int (A := A) (s := s) x t y u
  rw [h] at q ⊢
  simpa using q
/-- what is told of the goroutines is what the rows say -/
theorem told_rows (N : News h₀ L s.heap news) (ht : Seqs "list" ys (cs.map fun c => [Value.str c.gst c.gt, c.gwf, c.gan]) add) (ha : ∀ p ∈ add, p ∈ news) (hr : ∀ c ∈ cs, (c.ra, rowObj c) ∈ news) (Y : Sync cs) (hu : A.units + 8 < cLine) :
    AllEq A s ys.toArray (cs.map fun c => Value.ref c.ra).toArray := by
  refine allEq_of (by rw [ht.length]; simp) fun j x y hx hy => ?_
  rw [List.getElem?_map] at hy
  cases hc : cs[j]? with
  | none => rw [hc] at hy; cases hy
  | some c =>
    rw [hc] at hy
    cases hy
    have hm := List.mem_of_getElem? hc
    obtain ⟨a, n, e, hmem⟩ := ht.get j [Value.str c.gst c.gt, c.gwf, c.gan] (by rw [List.getElem?_map, hc]; rfl)
    rw [hx] at e
    cases e
    obtain ⟨e1, e2, e3⟩ := Y.same c hm
    refine eqAt_lists N (ha _ hmem) (hr c hm) (by simp only [Around.in1_units]; omega) rfl (eq3 (eq_strs e1.symm) ?_ ?_)
    · rw [e2]; exact EqAt.same _
    · rw [e3]; exact EqAt.same _
theorem ints_all {xs : List Value} {ns : List Int} {us : List (Int × Tok)} (h : IntsAre ys ns) (hu : us.map (·.1) = ns) : AllEq A s (us.map fun u => Value.int u.1 u.2).toArray ys.toArray := by
  refine allEq_of (by rw [h.length, ← hu]; simp) fun j x y hx hy => ?_
  rw [List.getElem?_map] at hx
  cases hc : us[j]? with
  | none => rw [hc] at hx; cases hx
  | some u =>
    rw [hc] at hx
    cases hx
    obtain ⟨t, e⟩ := h.get j u.1 (by rw [← hu, List.getElem?_map, hc]; rfl)
    rw [hy] at e
    cases e
    exact eq_ints rfl
theorem ints_cells {p : Cell → Bool} (h : IntsAre ys ((cs.filter p).map fun c => c.i)) : AllEq A s ((cs.filter p).map fun c => Value.int c.i c.it).toArray ys.toArray := by
  have q := ints_all (A := A) (s := s) (xs := []) (us := (cs.filter p).map fun c => (c.i, c.it)) h (by rw [List.map_map]; rfl)
  rw [List.map_map] at q
  exact q
theorem wait_pairs {ys' : List Value} {add' : List (Addr × Obj)} (N : News h₀ L s.heap news) {p : Cell → Bool} (ht : Seqs "tuple" ys ((cs.filter p).map fun c => [Value.int c.i c.it, c.gwf]) add) (ha : ∀ q ∈ add, q ∈ news)
    (hp : Pairs ys' ((cs.filter p).map fun c => (c.i, c.gwf)) add') (ha' : ∀ q ∈ add', q ∈ news) (hu : A.units + 8 < cLine) : AllEq A s ys.toArray ys'.toArray := by
  refine allEq_of (by rw [ht.length, hp.length]; simp) fun j x y hx hy => ?_
  cases hc : (cs.filter p)[j]? with
  | none =>
    have : ys.length ≤ j := by rw [ht.length, List.length_map]; exact List.getElem?_eq_none_iff.mp hc
    rw [List.getElem?_eq_none_iff.mpr this] at hx; cases hx
  | some c =>
    obtain ⟨a, n, e, hmem⟩ := ht.get j [Value.int c.i c.it, c.gwf] (by rw [List.getElem?_map, hc]; rfl)
    obtain ⟨a', n', t', e', hmem'⟩ := hp.get j (c.i, c.gwf) (by rw [List.getElem?_map, hc]; rfl)
    rw [hx] at e; cases e
    rw [hy] at e'; cases e'
    exact eqAt_tuples N (ha _ hmem) (ha' _ hmem') (by simp only [Around.in1_units]; omega) rfl (eq2 (eq_ints rfl) (EqAt.same _))
end
end Mine
namespace Mine
theorem arr_emp {l : List Value} : l.toArray.isEmpty = l.isEmpty := by cases l <;> rfl
theorem emp_len {α β : Type} {l : List α} {k : List β} (h : l.length = k.length) : l.isEmpty = k.isEmpty := by
  cases l <;> cases k <;> simp_all
theorem ints_emp {α : Type} {ys : List Value} {l : List α} {f : α → Int} (h : IntsAre ys (l.map f)) : ys.toArray.isEmpty = l.isEmpty := by
  rw [arr_emp]; exact emp_len (by rw [h.length, List.length_map])
theorem pairs_emp {α : Type} {ys : List Value} {l : List α} {f : α → Int × Value} {add : List (Addr × Obj)} (h : Pairs ys (l.map f) add) : ys.toArray.isEmpty = l.isEmpty := by
  rw [arr_emp]; exact emp_len (by rw [h.length, List.length_map])
end Mine
theorem Mine.word9 : True := by
  k_with "m:off#" => first | (first | assumption | exact Mine.off_lt (by assumption) | (k_all)) | fail "no"
  trivial
namespace Mine
section
variable {prog : Program} {w : World} {A : Around} {E : Value → Shared → Prop} {s : Shared} {h₀ : Heap} {L l : Addr} {m : Str → Option Value} {news : List (Addr × Obj)} {its : Array Value} {n : Nat} {k : Int} {u : Tok} {v : Value}
theorem m_len {Q : Value → Shared → Prop} (N : News h₀ L s.heap news) (hm : (l, listOf its n) ∈ news) (hz : its.size < 1000) (h : ∀ t tk, Q (.int (its.size : Int) t) { s with toks := tk }) : wpAny (model prog w) A (call (.builtin "len") [.ref l]) Q E s :=
  len_list ⟨_, N.get hm, rfl, n, rfl⟩ (by omega) (h _ _)
/-- xs[k], a list of the ledger, k within it -/
theorem m_subS {value slice : PySem.Expr} {Q : Value → Shared → Prop} (N : News h₀ L s.heap news) (hm : (l, listOf its n) ∈ news) (h0 : 0 ≤ k) (h1 : k < (its.size : Int)) (hz : its.size < 1000) (h : ∀ v, its.toList[k.toNat]? = some v → Q v s)
    (hs : subscripted slice false (.ref l) (.int k u) = operate [.ref l, .int k u] (getItem (.ref l) (.int k u)) := by with_unfolding_all rfl) :
    wpAny (model prog w) A (subscriptTail value slice (.ref l) (.int k u)) Q E s := by
  have hj : k.toNat < its.toList.length := by rw [Array.length_toList]; omega
  exact m_sub N hm h0 (by omega) (List.getElem?_eq_getElem hj) (h _ (List.getElem?_eq_getElem hj)) hs
end
end Mine
theorem Mine.word10 : True := by
  k_with "m:small#" => first | (first | assumption | decide | (simp only [List.size_toArray, List.length_map, List.length_cons, List.length_nil]; omega) | (simp only [List.size_toArray, List.length_map, List.length_cons, List.length_nil] at *; omega)) | fail "no"
  k_with "call builtin:len cons nil#" => first | ((k_here; (with_reducible show wpAny _ _ (call (Value.builtin _) [Value.ref _]) _ _ _); k_dflt (refine' Mine.m_len ?Nw ?mw ?zw ?_; (case Nw => k_asm); (case mw => k_mem); (case zw => walk_at "m:small"); k_whole); intro _ _)) | fail "no"
  k_with "m:subS#" => first | ((k_here; (with_reducible show wpAny _ _ (subscriptTail _ _ (Value.ref _) (Value.int _ _)) _ _ _); k_dflt (refine' Mine.m_subS ?Nw ?mw ?aw ?bw ?zw ?_; (case Nw => k_asm); (case mw => k_mem); (case aw => first | assumption | omega); (case bw => first | assumption | omega); (case zw => walk_at "m:small"); k_whole); intro _ _)) | fail "no"
  k_with "subscriptTail Name Call ref int#" => first | (walk_at "m:subS") | fail "no"
  trivial
namespace Mine
/-- what holds of the pool's two numbers -/
structure SrcOk (a b : Int) : Prop where
  pa : 0 ≤ a
  pb : 0 ≤ b
  pc : b < 2147483647
/-- a plain value: no object of the machine's own -/
def Plain (v : Value) : Prop := v = .none ∨ (∃ a, v = .ref a) ∨ (∃ i t, v = .int i t) ∨ ∃ x t, v = .str x t
theorem Plain.hand {v : Value} (h : Plain v) : handedIn v = true := by
  rcases h with rfl | ⟨a, rfl⟩ | ⟨i, t, rfl⟩ | ⟨x, t, rfl⟩ <;> rfl
end Mine
namespace Mine
theorem news_front {h₀ h : Heap} {L : Addr} {pre post : List (Addr × Obj)} {p : Addr × Obj} (N : News h₀ L h (pre ++ p :: post)) : News h₀ L h (p :: (pre ++ post)) := fun q hq => N q (by
  rcases List.mem_cons.mp hq with rfl | hq
  · exact List.mem_append_right _ List.mem_cons_self
  · rcases List.mem_append.mp hq with hq | hq
    · exact List.mem_append_left _ hq
    · exact List.mem_append_right _ (List.mem_cons_of_mem _ hq))
theorem news_back {h₀ h : Heap} {L : Addr} {pre post : List (Addr × Obj)} {p : Addr × Obj} (N : News h₀ L h (p :: (pre ++ post))) : News h₀ L h (pre ++ p :: post) := fun q hq => N q (by
  rcases List.mem_append.mp hq with hq | hq
  · exact List.mem_cons_of_mem _ (List.mem_append_left _ hq)
  · rcases List.mem_cons.mp hq with rfl | hq
    · exact List.mem_cons_self
    · exact List.mem_cons_of_mem _ (List.mem_append_right _ hq))
theorem off_both {d : Addr} {pre post : List (Addr × Obj)} (h1 : ∀ p ∈ pre, p.1 ≠ d) (h2 : ∀ p ∈ post, p.1 ≠ d) : ∀ p ∈ pre ++ post, p.1 ≠ d := fun p hp => (List.mem_append.mp hp).elim (h1 p) (h2 p)
theorem mem_off {a d : Addr} {o o' : Obj} {pre post : List (Addr × Obj)} (h : (a, o) ∈ pre ++ (d, o') :: post) (ne : a ≠ d) : (a, o) ∈ pre ++ post := by
  rcases List.mem_append.mp h with h | h
  · exact List.mem_append_left _ h
  · rcases List.mem_cons.mp h with h | h
    · exact absurd (congrArg Prod.fst h) ne
    · exact List.mem_append_right _ h
end Mine
theorem Mine.word11 : True := by
  k_with "m:size#" => first | (first | assumption | decide | (simp only [List.size_toArray, List.length_cons, List.length_nil]; omega) | (simp; done)) | fail "no"
  k_with "m:split#" => first | (repeat (rename _ ∧ _ => hx9; have hy9 := And.left hx9; have hz9 := And.right hx9; clear hx9)) | fail "no"
  k_with "m:dis#" => first | ((simp only [List.map_cons, List.nodup_cons, List.mem_cons, not_or, List.cons_append, List.nil_append] at *; walk_at "m:split")) | fail "no"
  trivial
namespace Mine
/-- no address stands twice -/
abbrev Dis (l : List (Addr × Obj)) : Prop := (l.map (·.1)).Nodup
theorem Dis.perm {l l' : List (Addr × Obj)} (h : Dis l) (p : l.Perm l') : Dis l' := (p.map _).nodup_iff.mp h
theorem Dis.cons {l : List (Addr × Obj)} {p : Addr × Obj} (h : Dis l) (k : AllLt p.1 l) : Dis (p :: l) := List.nodup_cons.mpr ⟨fun hm => by
  obtain ⟨q, hq, e⟩ := List.mem_map.mp hm
  exact off_lt k q hq e, h⟩
theorem Dis.off {l : List (Addr × Obj)} {p : Addr × Obj} (h : Dis (p :: l)) : ∀ q ∈ l, q.1 ≠ p.1 := off_mem (List.nodup_cons.mp h).1
theorem allLt_append {d : Addr} : ∀ {l k : List (Addr × Obj)}, AllLt d (l ++ k) ↔ AllLt d l ∧ AllLt d k
  | [], k => by simp [AllLt]
  | p :: l, k => by simp [AllLt, allLt_append (l := l) (k := k), and_assoc]
theorem allLt_perm {d : Addr} {l l' : List (Addr × Obj)} (h : AllLt d l) (p : l.Perm l') : AllLt d l' := allLt_of fun q hq => by
  have hq' := p.mem_iff.mpr hq
  have : ∀ {l : List (Addr × Obj)}, AllLt d l → ∀ q ∈ l, q.1 < d := by
    intro l
    induction l with
    | nil => intro _ q hq; cases hq
    | cons x l ih =>
      intro h q hq
      rcases List.mem_cons.mp hq with rfl | hq
      · exact h.1
      · exact ih h.2 q hq
  exact this h q hq'
theorem news_perm {h₀ h : Heap} {L : Addr} {l l' : List (Addr × Obj)} (N : News h₀ L h l) (p : l.Perm l') : News h₀ L h l' := fun q hq => N q (p.mem_iff.mpr hq)
theorem news_sub {h₀ h : Heap} {L : Addr} {l l' : List (Addr × Obj)} (N : News h₀ L h l) (p : ∀ q ∈ l', q ∈ l) : News h₀ L h l' := fun q hq => N q (p q hq)
/-- the same addresses, other objects: still no address twice -/
theorem Dis.same {l l' : List (Addr × Obj)} (h : Dis l) (e : l'.map (·.1) = l.map (·.1)) : Dis l' := by unfold Dis; rw [e]; exact h
end Mine

local macro_rules | `(tactic| k_room) => `(tactic| ktr_room)
local macro_rules | `(tactic| k_units) => `(tactic| walk_at "m:units")
local macro_rules | `(tactic| ke_room) => `(tactic| ktr_units)
local macro_rules | `(tactic| cb_units) => `(tactic| walk_at "m:units")
namespace Mine
theorem Dis.le {l l' : List (Addr × Obj)} (h : Dis l) (e : ∀ a : Nat, (l'.map (·.1)).count a ≤ (l.map (·.1)).count a) : Dis l' := List.nodup_iff_count.mpr fun a => Nat.le_trans (e a) (List.nodup_iff_count.mp h a)
abbrev o0 : Obj := listOf #[] 0
/-- a goroutine's three objects -/
abbrev cell3 (w : World) (c : Cell) : List (Addr × Obj) := [(c.g, instObj 71 c.d), (c.d, gdict w c), (c.f, c.fo)]
abbrev cell4 (w : World) (c : Cell) : List (Addr × Obj) := [(c.ra, rowObj c), (c.g, instObj 71 c.d), (c.d, gdict w c), (c.f, c.fo)]
def cells3 (w : World) (cs : List Cell) : List (Addr × Obj) := cs.flatMap (cell3 w)
def cells (w : World) (cs : List Cell) : List (Addr × Obj) := cs.flatMap (cell4 w)
def rowsOf (cs : List Cell) : List (Addr × Obj) := cs.map fun c => (c.ra, rowObj c)
abbrev cdict (w : World) (j1 j2 : Tok) (dig : Value) (taken : Int) (tt : Tok) : Obj := dictOf
  [⟨PyData.keyHash w.params (Str.ofString "row"), .str (Str.ofString "row") j1, dig⟩,
   ⟨PyData.keyHash w.params (Str.ofString "taken"), .str (Str.ofString "taken") j2, .int taken tt⟩] 2
theorem cells3_snoc {w : World} {cs : List Cell} {c : Cell} : cells3 w (cs ++ [c]) = cells3 w cs ++ cell3 w c := by simp [cells3]
theorem cells_mid {w : World} {p q : List Cell} {c : Cell} : cells w (p ++ c :: q) = cells w p ++ (cell4 w c ++ cells w q) := by simp [cells]
theorem rowsOf_mid {p q : List Cell} {c : Cell} : rowsOf (p ++ c :: q) = rowsOf p ++ ((c.ra, rowObj c) :: rowsOf q) := by simp [rowsOf]
end Mine
/- addresses once, by counting -/
theorem Mine.word12 : True := by
  k_with "m:count#" => first | ((intro _; (try simp only [Mine.cells3_snoc, Mine.cells_mid, Mine.rowsOf_mid]); (try simp only [List.map_append, List.map_cons, List.map_nil, List.count_append, List.count_cons, List.count_nil, List.nil_append, List.cons_append]); omega)) | fail "no"
  k_with "m:dis9#" => first | (first | assumption | exact Mine.Dis.le (by assumption) (by walk_at "m:count")) | fail "no"
  trivial

namespace Mine
abbrev Cell.row (c : Cell) : Addr × Nat × Tok × Str × Value × Value := (c.ra, c.rn, c.rt, c.rst, c.rwf, c.ran)
theorem rowsOf_row : ∀ {cs cs' : List Cell}, cs.map Cell.row = cs'.map Cell.row → rowsOf cs = rowsOf cs'
  | [], [], _ => rfl
  | [], _ :: _, h => by simp at h
  | _ :: _, [], h => by simp at h
  | c :: cs, c' :: cs', h => by
    simp only [List.map_cons, List.cons.injEq, Prod.mk.injEq] at h
    obtain ⟨⟨e1, e2, e3, e4, e5, e6⟩, h⟩ := h
    show (c.ra, rowObj c) :: rowsOf cs = (c'.ra, rowObj c') :: rowsOf cs'
    rw [rowsOf_row h]; simp only [rowObj, e1, e2, e3, e4, e5, e6]
theorem ras_row : ∀ {cs cs' : List Cell}, cs.map Cell.row = cs'.map Cell.row → (cs.map fun c => Value.ref c.ra) = cs'.map fun c => Value.ref c.ra
  | [], [], _ => rfl
  | [], _ :: _, h => by simp at h
  | _ :: _, [], h => by simp at h
  | c :: cs, c' :: cs', h => by
    simp only [List.map_cons, List.cons.injEq, Prod.mk.injEq] at h ⊢
    exact ⟨congrArg Value.ref h.1.1, ras_row h.2⟩
/-- just made: each place ready, in its place -/
structure Fresh (cs : List Cell) : Prop where
  idx : ∀ (i : Nat) c, cs[i]? = some c → c.i = (i : Int)
  new : ∀ c ∈ cs, c.gst = Str.ofString "ready" ∧ c.gwf = .none ∧ c.gan = .none ∧ c.fo = listOf #[] 0
theorem Fresh.nil : Fresh [] := ⟨fun i c h => by simp at h, fun c h => by cases h⟩
theorem Fresh.snoc {cs : List Cell} {c : Cell} (h : Fresh cs) (e : c.i = (cs.length : Int)) (k : c.gst = Str.ofString "ready" ∧ c.gwf = .none ∧ c.gan = .none ∧ c.fo = listOf #[] 0) : Fresh (cs ++ [c]) := by
  refine ⟨fun i c' h' => ?_, fun c' h' => ?_⟩
  · by_cases hi : i < cs.length
    · rw [List.getElem?_append_left hi] at h'; exact h.idx i c' h'
    · rw [List.getElem?_append_right (by omega)] at h'
      have : i - cs.length = 0 := by
        cases e9 : i - cs.length with
        | zero => rfl
        | succ k => rw [e9] at h'; simp at h'
      rw [this] at h'
      have e2 : c = c' := by simpa using h'
      subst e2; rw [e]; omega
  · rcases List.mem_append.mp h' with h' | h'
    · exact h.new c' h'
    · rw [List.mem_singleton.mp h']; exact k
end Mine

namespace Mine
theorem Cell.row_len {p cs : List Cell} (h : cs.map Cell.row = p.map Cell.row) : cs.length = p.length := by simpa using congrArg List.length h
end Mine

namespace Mine
theorem allLt_le {d e : Addr} (k : d ≤ e) : ∀ {l : List (Addr × Obj)}, AllLt d l → AllLt e l
  | [], _ => trivial
  | _ :: _, h => ⟨Nat.lt_of_lt_of_le h.1 k, allLt_le k h.2⟩
end Mine
theorem Mine.word13 : True := by
  k_with "m:lt#" => first | (first | assumption | exact True.intro | ((with_reducible refine Mine.allLt_le ?_ ?_) ; (first | (omega) | skip); assumption) | (refine And.intro ?_ ?_; (try dsimp only); omega; walk_at "m:lt") | (refine Mine.allLt_le (Nat.le_of_lt ?_) ?_; rotate_left; assumption; omega)) | fail "no"
  trivial

theorem Mine.word14 : True := by
  k_with "m:mem9#" => first | (first | exact List.mem_cons_self | (refine List.mem_cons_of_mem _ ?_; walk_at "m:mem9") | (refine List.mem_append_left _ ?_; walk_at "m:mem9") | (refine List.mem_append_right _ ?_; walk_at "m:mem9")) | fail "no"
  k_with "m:in9#" => first | (first | assumption | (refine List.mem_cons_of_mem _ ?_; walk_at "m:in9") | (refine List.mem_append_left _ ?_; walk_at "m:in9") | (refine List.mem_append_right _ ?_; walk_at "m:in9")) | fail "no"
  k_with "m:sub9#" => first | (first | (refine List.forall_mem_cons.mpr ⟨?_, ?_⟩; walk_at "m:mem9"; walk_at "m:sub9") | (refine List.forall_mem_append.mpr ⟨?_, ?_⟩; walk_at "m:sub9"; walk_at "m:sub9") | (intro _ hp9w; exact absurd hp9w List.not_mem_nil) | (intro _ hp9w; walk_at "m:in9")) | fail "no"
  trivial

namespace Mine
theorem st1 {α : Type} {x z : Str} {a b c : α} {i1 : Decidable (z = x)} {i2 : Decidable ([x].contains z = true)} (h : [x].contains z = false) : (@ite α (z = x) i1 a (@ite α ([x].contains z = true) i2 b c)) = c := by
  have hn : ¬ z = x := by intro e; subst e; simp at h
  rw [if_neg hn, if_neg (by rw [h]; decide)]
theorem st2 {α : Type} {x y z : Str} {a b c d : α} {i1 : Decidable (z = y)} {i2 : Decidable (z = x)} {i3 : Decidable ([x, y].contains z = true)} (h : [x, y].contains z = false) : (@ite α (z = y) i1 a (@ite α (z = x) i2 b (@ite α ([x, y].contains z = true) i3 c d))) = d := by
  have hn : ¬ z = x := by intro e; subst e; simp at h
  have hm : ¬ z = y := by intro e; subst e; simp at h
  rw [if_neg hm, if_neg hn, if_neg (by rw [h]; decide)]
end Mine

namespace Mine
theorem m_isnot {M : Model} {A : Around} {E : Value → Shared → Prop} {s : Shared} {v : Value} {Q : Value → Shared → Prop} (p : Plain v) (h : v ≠ .none) (q : Q (.bool true) s) : wpAny M A (compareOp .IsNot v .none) Q E s :=
  wpAny_isNot_other (by rcases p with rfl | ⟨a, rfl⟩ | ⟨i, t, rfl⟩ | ⟨x, t, rfl⟩ <;> rfl) h q
end Mine
theorem Mine.word15 : True := by
  k_with "compareOp IsNot none#" => first | ((k_here; k_dflt (refine Mine.m_isnot (by assumption) (by assumption) ?_))) | fail "no"
  trivial
namespace Mine
/-- what a row may hold -/
structure RowOk (st : Str) (wv av : Value) : Prop where
  kind : st = Str.ofString "ready" ∨ st = Str.ofString "blocked" ∨ st = Str.ofString "ended"
  pw : Plain wv
  pa : Plain av
  pn : (st == Str.ofString "blocked") = false → wv = .none
/-- the state as it stands -/
structure StOk (cs : List Cell) : Prop where
  len1 : 0 < cs.length
  len5 : cs.length ≤ 5
  idx : ∀ (i : Nat) c, cs[i]? = some c → c.i = (i : Int)
  same : ∀ c ∈ cs, c.rst = c.gst ∧ c.rwf = c.gwf ∧ c.ran = c.gan
  ends : ∀ c ∈ cs, c.gst = Str.ofString "ended" → c.fo = listOf #[] 0
  ok : ∀ c ∈ cs, RowOk c.rst c.rwf c.ran
theorem StOk.sync {cs : List Cell} (h : StOk cs) : Sync cs := ⟨h.len5, h.idx, h.same, fun c hc => by
  obtain ⟨e1, e2, e3⟩ := h.same c hc
  have k := h.ok c hc
  rw [← e2, ← e3]
  exact ⟨k.pw.hand, k.pa.hand⟩⟩
/-- the scheduler's and the choices' objects, and the rows' list -/
abbrev core (w : World) (S Sd all C Cd Rl : Addr) (an rn : Nat) (k1 k2 k3 j1 j2 tt : Tok) (here dig : Value) (taken : Int) (cs : List Cell) : List (Addr × Obj) :=
  [(all, listOf (cs.map fun c => Value.ref c.g).toArray an), (S, instObj 157 Sd), (Sd, sdict w k1 k2 k3 C all here), (C, instObj 185 Cd), (Cd, cdict w j1 j2 dig taken tt), (Rl, listOf (cs.map fun c => Value.ref c.ra).toArray rn)]
end Mine

theorem Mine.word16 : True := by
  k_with "m:subA#" => first | ((k_here; (with_reducible show wpAny _ _ (subscriptTail _ _ (Value.ref _) (Value.int _ _)) _ _ _); k_dflt (refine' Mine.m_sub ?Nw ?mw ?aw ?bw ?xw ?_; (case Nw => k_asm); (case mw => k_mem); (case xw => assumption); (case aw => first | assumption | omega); (case bw => first | decide | omega); k_whole))) | fail "no"
  k_with "subscriptTail Name Name ref int#" => first | (first | walk_at "m:subA" | walk_at "m:subS") | fail "no"
  k_with "subscriptTail Attribute Name Name ref int#" => first | (first | walk_at "m:subA" | walk_at "m:subS") | fail "no"
  trivial
local macro_rules | `(tactic| k_ne) => `(tactic| (refine neN ?_; (try dsimp only); first | (with_reducible assumption) | (with_reducible exact Ne.symm (by assumption)) | omega))
namespace Mine
theorem wake_binds {s : Shared} {K : Frag} {T : Addr} {o : Obj} {dv : Value} {n : Nat} {name qual : Str} {p1 p2 p3 : Pos} {dflt : PySem.Expr} {body : List Stmt} {scope : Scope} {kV doc pm cdv ct : Value} {an : Option Addr} {a b c : Value}
    (X : K.In s.heap) (ho : K.lookup T = some o) (hs : o.data = .seq #[dv] n) :
    BindsTo s (fnOf name qual { posonlyargs := [], args := [⟨Str.ofString "self", none, p1⟩, ⟨Str.ofString "number", none, p2⟩, ⟨Str.ofString "answer", none, p3⟩], vararg := none, kwonlyargs := [], kw_defaults := [], kwarg := none, defaults := [dflt] } body scope (.ref T) kV doc pm an cdv ct) ⟨[a, b, c], []⟩ [(Str.ofString "self", a), (Str.ofString "number", b), (Str.ofString "answer", c)] :=
  BindsTo.of_defaults rfl (X _ _ ho) hs rfl rfl
end Mine
theorem Mine.word17 : True := by
  k_with "m:enterD#" => first | ((refine' code_def ?k1w ?k2w ?k3w ?k4w ?k5w ?kAw ?kFw ?kKw ?k6w ?k7w ?k8w ?k9w ?kBw ?_ ?c2w ?c3w ?c4w ?c5w; (case kAw => exact rfl); (case kFw => exact rfl); (case kKw => first | exact rfl | assumption); (case k1w => k_asm); (case k2w => k_asm); (case k3w => k_asm); (case k4w => k_asm); (case k5w => k_asm); (case k6w => k_is); (case k7w => k_is); (case k8w => k_room); (case k9w => exact Mine.wake_binds (Frag.In.keeps (by k_asm) (Fr.keep (by k_asm))) (by k_is) rfl); (case c5w => decide); (case kBw => exact locs rfl); (case c2w => exact rfl); (case c3w => exact rfl); (case c4w => exact rfl); k_whole; intro _ _ _ _ _ _ B'w _ _; (try dsimp only); (try k_lift B'w); (try k_fold))) | fail "no"
  k_with "call ref cons nil#" => first | (((try dsimp only [List.nil_append, List.cons_append]); (with_reducible show wpAny _ _ (call (Value.ref 123) [Value.ref _, Value.int _ _, _]) _ _ _); (refine wpAny_call ?_); k_dflt (walk_at "m:enterD"))) | fail "no"
  trivial
local macro_rules | `(tactic| k_in) => `(tactic| exact Frag.In.keeps (by k_asm) (Fr.keep (by k_asm)))

namespace Mine
/-- no address stands twice, of the addresses alone -/
structure Once (as : List Addr) : Prop where
  out : as.Nodup
theorem upd_at {x : Addr} {o : Obj} : ∀ (pre : List (Addr × Obj)) {r : List (Addr × Obj)}, ((pre ++ (x, o) :: r).map (·.1)).Nodup → UpdF x o (pre ++ (x, o) :: r) (fun o' => pre ++ (x, o') :: r)
  | [], _, D => .head (off_mem (List.nodup_cons.mp D).1)
  | p :: pre, r, D => .tail (fun e => (List.nodup_cons.mp D).1 (List.mem_map.mpr ⟨(x, o), List.mem_append_right _ List.mem_cons_self, e.symm⟩)) (upd_at pre (List.nodup_cons.mp D).2)
theorem updO_at {x : Addr} {o o' : Obj} : ∀ (pre : List (Addr × Obj)) {r : List (Addr × Obj)}, ((pre ++ (x, o) :: r).map (·.1)).Nodup → Upd x o o' (pre ++ (x, o) :: r) (pre ++ (x, o') :: r)
  | [], _, D => .head (off_mem (List.nodup_cons.mp D).1)
  | p :: pre, r, D => .tail (fun e => (List.nodup_cons.mp D).1 (List.mem_map.mpr ⟨(x, o), List.mem_append_right _ List.mem_cons_self, e.symm⟩)) (updO_at pre (List.nodup_cons.mp D).2)
theorem u0 {as : List Addr} {x : Addr} {o : Obj} {r : List (Addr × Obj)} (h : Once as) (e : as = ((x, o) :: r).map (·.1)) : UpdF x o ((x, o) :: r) (fun o' => (x, o') :: r) := upd_at [] (e ▸ h.out)
theorem v0 {as : List Addr} {x : Addr} {o o' : Obj} {r : List (Addr × Obj)} (h : Once as) (e : as = ((x, o) :: r).map (·.1)) : Upd x o o' ((x, o) :: r) ((x, o') :: r) := updO_at [] (e ▸ h.out)
theorem u1 {as : List Addr} {p0 : Addr × Obj} {x : Addr} {o : Obj} {r : List (Addr × Obj)} (h : Once as) (e : as = (p0 :: (x, o) :: r).map (·.1)) : UpdF x o (p0 :: (x, o) :: r) (fun o' => p0 :: (x, o') :: r) := upd_at [p0] (e ▸ h.out)
theorem v1 {as : List Addr} {p0 : Addr × Obj} {x : Addr} {o o' : Obj} {r : List (Addr × Obj)} (h : Once as) (e : as = (p0 :: (x, o) :: r).map (·.1)) : Upd x o o' (p0 :: (x, o) :: r) (p0 :: (x, o') :: r) := updO_at [p0] (e ▸ h.out)
theorem u2 {as : List Addr} {p0 p1 : Addr × Obj} {x : Addr} {o : Obj} {r : List (Addr × Obj)} (h : Once as) (e : as = (p0 :: p1 :: (x, o) :: r).map (·.1)) : UpdF x o (p0 :: p1 :: (x, o) :: r) (fun o' => p0 :: p1 :: (x, o') :: r) := upd_at [p0, p1] (e ▸ h.out)
theorem v2 {as : List Addr} {p0 p1 : Addr × Obj} {x : Addr} {o o' : Obj} {r : List (Addr × Obj)} (h : Once as) (e : as = (p0 :: p1 :: (x, o) :: r).map (·.1)) : Upd x o o' (p0 :: p1 :: (x, o) :: r) (p0 :: p1 :: (x, o') :: r) := updO_at [p0, p1] (e ▸ h.out)
theorem u3 {as : List Addr} {p0 p1 p2 : Addr × Obj} {x : Addr} {o : Obj} {r : List (Addr × Obj)} (h : Once as) (e : as = (p0 :: p1 :: p2 :: (x, o) :: r).map (·.1)) : UpdF x o (p0 :: p1 :: p2 :: (x, o) :: r) (fun o' => p0 :: p1 :: p2 :: (x, o') :: r) := upd_at [p0, p1, p2] (e ▸ h.out)
theorem v3 {as : List Addr} {p0 p1 p2 : Addr × Obj} {x : Addr} {o o' : Obj} {r : List (Addr × Obj)} (h : Once as) (e : as = (p0 :: p1 :: p2 :: (x, o) :: r).map (·.1)) : Upd x o o' (p0 :: p1 :: p2 :: (x, o) :: r) (p0 :: p1 :: p2 :: (x, o') :: r) := updO_at [p0, p1, p2] (e ▸ h.out)
theorem u4 {as : List Addr} {p0 p1 p2 p3 : Addr × Obj} {x : Addr} {o : Obj} {r : List (Addr × Obj)} (h : Once as) (e : as = (p0 :: p1 :: p2 :: p3 :: (x, o) :: r).map (·.1)) : UpdF x o (p0 :: p1 :: p2 :: p3 :: (x, o) :: r) (fun o' => p0 :: p1 :: p2 :: p3 :: (x, o') :: r) := upd_at [p0, p1, p2, p3] (e ▸ h.out)
theorem v4 {as : List Addr} {p0 p1 p2 p3 : Addr × Obj} {x : Addr} {o o' : Obj} {r : List (Addr × Obj)} (h : Once as) (e : as = (p0 :: p1 :: p2 :: p3 :: (x, o) :: r).map (·.1)) : Upd x o o' (p0 :: p1 :: p2 :: p3 :: (x, o) :: r) (p0 :: p1 :: p2 :: p3 :: (x, o') :: r) := updO_at [p0, p1, p2, p3] (e ▸ h.out)
theorem u5 {as : List Addr} {p0 p1 p2 p3 p4 : Addr × Obj} {x : Addr} {o : Obj} {r : List (Addr × Obj)} (h : Once as) (e : as = (p0 :: p1 :: p2 :: p3 :: p4 :: (x, o) :: r).map (·.1)) : UpdF x o (p0 :: p1 :: p2 :: p3 :: p4 :: (x, o) :: r) (fun o' => p0 :: p1 :: p2 :: p3 :: p4 :: (x, o') :: r) := upd_at [p0, p1, p2, p3, p4] (e ▸ h.out)
theorem v5 {as : List Addr} {p0 p1 p2 p3 p4 : Addr × Obj} {x : Addr} {o o' : Obj} {r : List (Addr × Obj)} (h : Once as) (e : as = (p0 :: p1 :: p2 :: p3 :: p4 :: (x, o) :: r).map (·.1)) : Upd x o o' (p0 :: p1 :: p2 :: p3 :: p4 :: (x, o) :: r) (p0 :: p1 :: p2 :: p3 :: p4 :: (x, o') :: r) := updO_at [p0, p1, p2, p3, p4] (e ▸ h.out)
theorem u6 {as : List Addr} {p0 p1 p2 p3 p4 p5 : Addr × Obj} {x : Addr} {o : Obj} {r : List (Addr × Obj)} (h : Once as) (e : as = (p0 :: p1 :: p2 :: p3 :: p4 :: p5 :: (x, o) :: r).map (·.1)) : UpdF x o (p0 :: p1 :: p2 :: p3 :: p4 :: p5 :: (x, o) :: r) (fun o' => p0 :: p1 :: p2 :: p3 :: p4 :: p5 :: (x, o') :: r) := upd_at [p0, p1, p2, p3, p4, p5] (e ▸ h.out)
theorem v6 {as : List Addr} {p0 p1 p2 p3 p4 p5 : Addr × Obj} {x : Addr} {o o' : Obj} {r : List (Addr × Obj)} (h : Once as) (e : as = (p0 :: p1 :: p2 :: p3 :: p4 :: p5 :: (x, o) :: r).map (·.1)) : Upd x o o' (p0 :: p1 :: p2 :: p3 :: p4 :: p5 :: (x, o) :: r) (p0 :: p1 :: p2 :: p3 :: p4 :: p5 :: (x, o') :: r) := updO_at [p0, p1, p2, p3, p4, p5] (e ▸ h.out)
theorem u7 {as : List Addr} {p0 p1 p2 p3 p4 p5 p6 : Addr × Obj} {x : Addr} {o : Obj} {r : List (Addr × Obj)} (h : Once as) (e : as = (p0 :: p1 :: p2 :: p3 :: p4 :: p5 :: p6 :: (x, o) :: r).map (·.1)) : UpdF x o (p0 :: p1 :: p2 :: p3 :: p4 :: p5 :: p6 :: (x, o) :: r) (fun o' => p0 :: p1 :: p2 :: p3 :: p4 :: p5 :: p6 :: (x, o') :: r) := upd_at [p0, p1, p2, p3, p4, p5, p6] (e ▸ h.out)
theorem v7 {as : List Addr} {p0 p1 p2 p3 p4 p5 p6 : Addr × Obj} {x : Addr} {o o' : Obj} {r : List (Addr × Obj)} (h : Once as) (e : as = (p0 :: p1 :: p2 :: p3 :: p4 :: p5 :: p6 :: (x, o) :: r).map (·.1)) : Upd x o o' (p0 :: p1 :: p2 :: p3 :: p4 :: p5 :: p6 :: (x, o) :: r) (p0 :: p1 :: p2 :: p3 :: p4 :: p5 :: p6 :: (x, o') :: r) := updO_at [p0, p1, p2, p3, p4, p5, p6] (e ▸ h.out)
theorem u8 {as : List Addr} {p0 p1 p2 p3 p4 p5 p6 p7 : Addr × Obj} {x : Addr} {o : Obj} {r : List (Addr × Obj)} (h : Once as) (e : as = (p0 :: p1 :: p2 :: p3 :: p4 :: p5 :: p6 :: p7 :: (x, o) :: r).map (·.1)) : UpdF x o (p0 :: p1 :: p2 :: p3 :: p4 :: p5 :: p6 :: p7 :: (x, o) :: r) (fun o' => p0 :: p1 :: p2 :: p3 :: p4 :: p5 :: p6 :: p7 :: (x, o') :: r) := upd_at [p0, p1, p2, p3, p4, p5, p6, p7] (e ▸ h.out)
theorem v8 {as : List Addr} {p0 p1 p2 p3 p4 p5 p6 p7 : Addr × Obj} {x : Addr} {o o' : Obj} {r : List (Addr × Obj)} (h : Once as) (e : as = (p0 :: p1 :: p2 :: p3 :: p4 :: p5 :: p6 :: p7 :: (x, o) :: r).map (·.1)) : Upd x o o' (p0 :: p1 :: p2 :: p3 :: p4 :: p5 :: p6 :: p7 :: (x, o) :: r) (p0 :: p1 :: p2 :: p3 :: p4 :: p5 :: p6 :: p7 :: (x, o') :: r) := updO_at [p0, p1, p2, p3, p4, p5, p6, p7] (e ▸ h.out)
theorem u9 {as : List Addr} {p0 p1 p2 p3 p4 p5 p6 p7 p8 : Addr × Obj} {x : Addr} {o : Obj} {r : List (Addr × Obj)} (h : Once as) (e : as = (p0 :: p1 :: p2 :: p3 :: p4 :: p5 :: p6 :: p7 :: p8 :: (x, o) :: r).map (·.1)) : UpdF x o (p0 :: p1 :: p2 :: p3 :: p4 :: p5 :: p6 :: p7 :: p8 :: (x, o) :: r) (fun o' => p0 :: p1 :: p2 :: p3 :: p4 :: p5 :: p6 :: p7 :: p8 :: (x, o') :: r) := upd_at [p0, p1, p2, p3, p4, p5, p6, p7, p8] (e ▸ h.out)
theorem v9 {as : List Addr} {p0 p1 p2 p3 p4 p5 p6 p7 p8 : Addr × Obj} {x : Addr} {o o' : Obj} {r : List (Addr × Obj)} (h : Once as) (e : as = (p0 :: p1 :: p2 :: p3 :: p4 :: p5 :: p6 :: p7 :: p8 :: (x, o) :: r).map (·.1)) : Upd x o o' (p0 :: p1 :: p2 :: p3 :: p4 :: p5 :: p6 :: p7 :: p8 :: (x, o) :: r) (p0 :: p1 :: p2 :: p3 :: p4 :: p5 :: p6 :: p7 :: p8 :: (x, o') :: r) := updO_at [p0, p1, p2, p3, p4, p5, p6, p7, p8] (e ▸ h.out)
theorem u10 {as : List Addr} {p0 p1 p2 p3 p4 p5 p6 p7 p8 p9 : Addr × Obj} {x : Addr} {o : Obj} {r : List (Addr × Obj)} (h : Once as) (e : as = (p0 :: p1 :: p2 :: p3 :: p4 :: p5 :: p6 :: p7 :: p8 :: p9 :: (x, o) :: r).map (·.1)) : UpdF x o (p0 :: p1 :: p2 :: p3 :: p4 :: p5 :: p6 :: p7 :: p8 :: p9 :: (x, o) :: r) (fun o' => p0 :: p1 :: p2 :: p3 :: p4 :: p5 :: p6 :: p7 :: p8 :: p9 :: (x, o') :: r) := upd_at [p0, p1, p2, p3, p4, p5, p6, p7, p8, p9] (e ▸ h.out)
theorem v10 {as : List Addr} {p0 p1 p2 p3 p4 p5 p6 p7 p8 p9 : Addr × Obj} {x : Addr} {o o' : Obj} {r : List (Addr × Obj)} (h : Once as) (e : as = (p0 :: p1 :: p2 :: p3 :: p4 :: p5 :: p6 :: p7 :: p8 :: p9 :: (x, o) :: r).map (·.1)) : Upd x o o' (p0 :: p1 :: p2 :: p3 :: p4 :: p5 :: p6 :: p7 :: p8 :: p9 :: (x, o) :: r) (p0 :: p1 :: p2 :: p3 :: p4 :: p5 :: p6 :: p7 :: p8 :: p9 :: (x, o') :: r) := updO_at [p0, p1, p2, p3, p4, p5, p6, p7, p8, p9] (e ▸ h.out)
theorem u11 {as : List Addr} {p0 p1 p2 p3 p4 p5 p6 p7 p8 p9 p10 : Addr × Obj} {x : Addr} {o : Obj} {r : List (Addr × Obj)} (h : Once as) (e : as = (p0 :: p1 :: p2 :: p3 :: p4 :: p5 :: p6 :: p7 :: p8 :: p9 :: p10 :: (x, o) :: r).map (·.1)) : UpdF x o (p0 :: p1 :: p2 :: p3 :: p4 :: p5 :: p6 :: p7 :: p8 :: p9 :: p10 :: (x, o) :: r) (fun o' => p0 :: p1 :: p2 :: p3 :: p4 :: p5 :: p6 :: p7 :: p8 :: p9 :: p10 :: (x, o') :: r) := upd_at [p0, p1, p2, p3, p4, p5, p6, p7, p8, p9, p10] (e ▸ h.out)
theorem v11 {as : List Addr} {p0 p1 p2 p3 p4 p5 p6 p7 p8 p9 p10 : Addr × Obj} {x : Addr} {o o' : Obj} {r : List (Addr × Obj)} (h : Once as) (e : as = (p0 :: p1 :: p2 :: p3 :: p4 :: p5 :: p6 :: p7 :: p8 :: p9 :: p10 :: (x, o) :: r).map (·.1)) : Upd x o o' (p0 :: p1 :: p2 :: p3 :: p4 :: p5 :: p6 :: p7 :: p8 :: p9 :: p10 :: (x, o) :: r) (p0 :: p1 :: p2 :: p3 :: p4 :: p5 :: p6 :: p7 :: p8 :: p9 :: p10 :: (x, o') :: r) := updO_at [p0, p1, p2, p3, p4, p5, p6, p7, p8, p9, p10] (e ▸ h.out)
theorem u12 {as : List Addr} {p0 p1 p2 p3 p4 p5 p6 p7 p8 p9 p10 p11 : Addr × Obj} {x : Addr} {o : Obj} {r : List (Addr × Obj)} (h : Once as) (e : as = (p0 :: p1 :: p2 :: p3 :: p4 :: p5 :: p6 :: p7 :: p8 :: p9 :: p10 :: p11 :: (x, o) :: r).map (·.1)) : UpdF x o (p0 :: p1 :: p2 :: p3 :: p4 :: p5 :: p6 :: p7 :: p8 :: p9 :: p10 :: p11 :: (x, o) :: r) (fun o' => p0 :: p1 :: p2 :: p3 :: p4 :: p5 :: p6 :: p7 :: p8 :: p9 :: p10 :: p11 :: (x, o') :: r) := upd_at [p0, p1, p2, p3, p4, p5, p6, p7, p8, p9, p10, p11] (e ▸ h.out)
theorem v12 {as : List Addr} {p0 p1 p2 p3 p4 p5 p6 p7 p8 p9 p10 p11 : Addr × Obj} {x : Addr} {o o' : Obj} {r : List (Addr × Obj)} (h : Once as) (e : as = (p0 :: p1 :: p2 :: p3 :: p4 :: p5 :: p6 :: p7 :: p8 :: p9 :: p10 :: p11 :: (x, o) :: r).map (·.1)) : Upd x o o' (p0 :: p1 :: p2 :: p3 :: p4 :: p5 :: p6 :: p7 :: p8 :: p9 :: p10 :: p11 :: (x, o) :: r) (p0 :: p1 :: p2 :: p3 :: p4 :: p5 :: p6 :: p7 :: p8 :: p9 :: p10 :: p11 :: (x, o') :: r) := updO_at [p0, p1, p2, p3, p4, p5, p6, p7, p8, p9, p10, p11] (e ▸ h.out)
theorem u13 {as : List Addr} {p0 p1 p2 p3 p4 p5 p6 p7 p8 p9 p10 p11 p12 : Addr × Obj} {x : Addr} {o : Obj} {r : List (Addr × Obj)} (h : Once as) (e : as = (p0 :: p1 :: p2 :: p3 :: p4 :: p5 :: p6 :: p7 :: p8 :: p9 :: p10 :: p11 :: p12 :: (x, o) :: r).map (·.1)) : UpdF x o (p0 :: p1 :: p2 :: p3 :: p4 :: p5 :: p6 :: p7 :: p8 :: p9 :: p10 :: p11 :: p12 :: (x, o) :: r) (fun o' => p0 :: p1 :: p2 :: p3 :: p4 :: p5 :: p6 :: p7 :: p8 :: p9 :: p10 :: p11 :: p12 :: (x, o') :: r) := upd_at [p0, p1, p2, p3, p4, p5, p6, p7, p8, p9, p10, p11, p12] (e ▸ h.out)
theorem v13 {as : List Addr} {p0 p1 p2 p3 p4 p5 p6 p7 p8 p9 p10 p11 p12 : Addr × Obj} {x : Addr} {o o' : Obj} {r : List (Addr × Obj)} (h : Once as) (e : as = (p0 :: p1 :: p2 :: p3 :: p4 :: p5 :: p6 :: p7 :: p8 :: p9 :: p10 :: p11 :: p12 :: (x, o) :: r).map (·.1)) : Upd x o o' (p0 :: p1 :: p2 :: p3 :: p4 :: p5 :: p6 :: p7 :: p8 :: p9 :: p10 :: p11 :: p12 :: (x, o) :: r) (p0 :: p1 :: p2 :: p3 :: p4 :: p5 :: p6 :: p7 :: p8 :: p9 :: p10 :: p11 :: p12 :: (x, o') :: r) := updO_at [p0, p1, p2, p3, p4, p5, p6, p7, p8, p9, p10, p11, p12] (e ▸ h.out)
end Mine
local macro_rules | `(tactic| k_updF) => `(tactic| first | exact Mine.u0 (by assumption) rfl | exact Mine.u1 (by assumption) rfl | exact Mine.u2 (by assumption) rfl | exact Mine.u3 (by assumption) rfl | exact Mine.u4 (by assumption) rfl | exact Mine.u5 (by assumption) rfl | exact Mine.u6 (by assumption) rfl | exact Mine.u7 (by assumption) rfl | exact Mine.u8 (by assumption) rfl | exact Mine.u9 (by assumption) rfl | exact Mine.u10 (by assumption) rfl | exact Mine.u11 (by assumption) rfl | exact Mine.u12 (by assumption) rfl | exact Mine.u13 (by assumption) rfl)
local macro_rules | `(tactic| k_upd) => `(tactic| first | exact Mine.v0 (by assumption) rfl | exact Mine.v1 (by assumption) rfl | exact Mine.v2 (by assumption) rfl | exact Mine.v3 (by assumption) rfl | exact Mine.v4 (by assumption) rfl | exact Mine.v5 (by assumption) rfl | exact Mine.v6 (by assumption) rfl | exact Mine.v7 (by assumption) rfl | exact Mine.v8 (by assumption) rfl | exact Mine.v9 (by assumption) rfl | exact Mine.v10 (by assumption) rfl | exact Mine.v11 (by assumption) rfl | exact Mine.v12 (by assumption) rfl | exact Mine.v13 (by assumption) rfl)
namespace Mine
theorem fr_put {g h : Heap} {L : Addr} {m : Str → Option Value} {x : Str} {v : Value} (F : Fr g L h m) (e : m x = some v) : Fr g L h (fun z => if z = x then some v else m z) := by
  have q : m = fun z => if z = x then some v else m z := by
    funext z
    by_cases e' : z = x
    · rw [if_pos e', e', e]
    · rw [if_neg e']
  exact q ▸ F
theorem if_neg_or {m : Str → Option Value} {x z : Str} {v u : Value} (e : m x = some v) (k : m z = some u) : (if z = x then some v else m z) = some u := by
  by_cases h : z = x
  · rw [if_pos h, ← e, ← h, k]
  · rw [if_neg h, k]
theorem fr_hide3 {g h : Heap} {L : Addr} {m : Str → Option Value} {x1 x2 x3 : Str} {v1 v2 v3 : Value} (F : Fr g L h m) (e1 : m x1 = some v1) (e2 : m x2 = some v2) (e3 : m x3 = some v3) :
    ∃ m0 : Str → Option Value, Fr g L h (fun z => if z = x3 then some v3 else if z = x2 then some v2 else if z = x1 then some v1 else m0 z) :=
  ⟨m, fr_put (fr_put (fr_put F e1) (if_neg_or e1 e2)) (if_neg_or (m := fun z => if z = x1 then some v1 else m z) (if_neg_or e1 e2) (if_neg_or e1 e3))⟩
theorem fr_hide2 {g h : Heap} {L : Addr} {m : Str → Option Value} {x1 x2 : Str} {v1 v2 : Value} (F : Fr g L h m) (e1 : m x1 = some v1) (e2 : m x2 = some v2) :
    ∃ m0 : Str → Option Value, Fr g L h (fun z => if z = x2 then some v2 else if z = x1 then some v1 else m0 z) := ⟨m, fr_put (fr_put F e1) (if_neg_or e1 e2)⟩
theorem fr_hide0 {g h : Heap} {L : Addr} {m : Str → Option Value} (F : Fr g L h m) : ∃ m0 : Str → Option Value, Fr g L h m0 := ⟨m, F⟩
theorem fr_hide1 {g h : Heap} {L : Addr} {m : Str → Option Value} {x1 : Str} {v1 : Value} (F : Fr g L h m) (e1 : m x1 = some v1) : ∃ m0 : Str → Option Value, Fr g L h (fun z => if z = x1 then some v1 else m0 z) := ⟨m, fr_put F e1⟩
theorem fr_hide4 {g h : Heap} {L : Addr} {m : Str → Option Value} {x1 x2 x3 x4 : Str} {v1 v2 v3 v4 : Value} (F : Fr g L h m) (e1 : m x1 = some v1) (e2 : m x2 = some v2) (e3 : m x3 = some v3) (e4 : m x4 = some v4) :
    ∃ m0 : Str → Option Value, Fr g L h (fun z => if z = x4 then some v4 else if z = x3 then some v3 else if z = x2 then some v2 else if z = x1 then some v1 else m0 z) := by
  obtain ⟨m0, F'⟩ : ∃ m0, m0 = m := ⟨m, rfl⟩
  have F3 := fr_put (fr_put (fr_put F e1) (if_neg_or e1 e2)) (if_neg_or (m := fun z => if z = x1 then some v1 else m z) (if_neg_or e1 e2) (if_neg_or e1 e3))
  exact ⟨m, fr_put F3 (if_neg_or (m := fun z => if z = x2 then some v2 else if z = x1 then some v1 else m z) (if_neg_or (m := fun z => if z = x1 then some v1 else m z) (if_neg_or e1 e2) (if_neg_or e1 e3)) (if_neg_or (m := fun z => if z = x1 then some v1 else m z) (if_neg_or e1 e2) (if_neg_or e1 e4)))⟩
end Mine

/- M1 -/

namespace Mine
theorem take_spec {pg : Program} {ls : List Str} {w : World} {mean : ExcName → Option Value} {mg mb : Str → Option Value} {A₀ : Around} {dp un : Nat} {gd : Option (List Code)} {base h₀ : Heap} {outer : List Env} {L : Addr} {m : Str → Option Value} {cn : Str} {cs : Scope} {ca : Addr} {ccd : Value} {cl : List (Str × Addr)} {s : Shared} {Q E : Value → Shared → Prop} {src : Addr} {a b : Int} {ta tb tt : Tok} {n : Nat} {top : Int} {R : List (Addr × Obj)}
    (B : Below A₀ base outer h₀) (F : Fr h₀ L s.heap m) (X : Frag.In (hd.heap_39 w.params) h₀) (N : News h₀ L s.heap ((src, listOf #[.int a ta, .int b tb] n) :: R)) (T : Top pg ls mean mg mb h₀) (hk : cs.kind = .function) (hdp : dp + 10 < recursionLimit) (hun : un + 40 * 10 < cLine)
    (off : ∀ p ∈ R, p.1 ≠ src) (hs : SrcOk a b) (ht : 0 < top) (ht2 : top < 100)
    (h : ∀ r tr a' ta' b' tb' h' tk', 0 ≤ r → r < top → SrcOk a' b' → Fr h₀ L h' m → News h₀ L h' ((src, listOf #[.int a' ta', .int b' tb'] n) :: R) →
      Q (.int r tr) { s with heap := h', toks := tk' }) :
    wpAny (model PySem.Challenge.rw_pf0070_01.row.prog w) (ktrTop dp un gd cn cs L ca ccd cl outer) (call (.ref 203) [.ref src, .int top tt]) Q E s := by
  w_top off
  refine wpAny_call ?_
  k_dflt ktr_enter
  (rename Fr _ _ _ _ => F0h); obtain ⟨m0h, F1h⟩ := Mine.fr_hide2 (x1 := Str.ofString "source") (v1 := .ref src) (x2 := Str.ofString "top") (v2 := .int top tt) F0h rfl rfl; clear F0h
  k_steps
  · refine h _ _ _ _ _ _ _ _ (Int.fmod_nonneg_of_pos _ ht) (Int.fmod_lt_of_pos _ ht) ⟨?_, hs.pb, hs.pc⟩ (by k_asm) (by k_asm)
    rw [Int.fdiv_eq_ediv_of_nonneg _ (Int.le_of_lt ht)]; exact Int.ediv_nonneg hs.pa (Int.le_of_lt ht)
  · exact h _ _ _ _ _ _ _ _ (Int.fmod_nonneg_of_pos _ ht) (Int.fmod_lt_of_pos _ ht) ⟨hs.pa, Int.fmod_nonneg_of_pos _ (by decide), Int.fmod_lt_of_pos _ (by decide)⟩ (by k_asm) (by k_asm)
end Mine

/- M5 -/

namespace Mine
theorem takeU {pg : Program} {ls : List Str} {w : World} {mean : ExcName → Option Value} {mg mb : Str → Option Value} {A₀ : Around} {dp un : Nat} {gd : Option (List Code)} {base h₀ : Heap} {outer : List Env} {L : Addr} {m : Str → Option Value} {cn : Str} {cs : Scope} {ca : Addr} {ccd : Value} {cl : List (Str × Addr)} {s : Shared} {Q E : Value → Shared → Prop} {src : Addr} {a b : Int} {ta tb tt : Tok} {n : Nat} {top : Int} {news : List (Addr × Obj)} {g : Obj → List (Addr × Obj)}
    (B : Below A₀ base outer h₀) (F : Fr h₀ L s.heap m) (X : Frag.In (hd.heap_39 w.params) h₀) (N : News h₀ L s.heap (news)) (T : Top pg ls mean mg mb h₀) (hk : cs.kind = .function) (hdp : dp + 10 < recursionLimit) (hun : un + 40 * 10 < cLine)
    (U : UpdF src (listOf #[.int a ta, .int b tb] n) news g) (hs : SrcOk a b) (ht : 0 < top) (ht2 : top < 100)
    (h : ∀ r tr a' ta' b' tb' h' tk', 0 ≤ r → r < top → SrcOk a' b' → Fr h₀ L h' m → News h₀ L h' (g (listOf #[.int a' ta', .int b' tb'] n)) → Q (.int r tr) { s with heap := h', toks := tk' }) :
    wpAny (model PySem.Challenge.rw_pf0070_01.row.prog w) (ktrTop dp un gd cn cs L ca ccd cl outer) (call (.ref 203) [.ref src, .int top tt]) Q E s := by
  obtain ⟨pre, post, rfl, hg, h1, h2⟩ := U.split
  exact take_spec B F X (news_front N) T hk hdp hun (off_both h1 h2) hs ht ht2 fun r tr a' ta' b' tb' h' tk' q1 q2 q3 F' N' => h r tr a' ta' b' tb' h' tk' q1 q2 q3 F' (hg _ ▸ news_back N')
end Mine
theorem Mine.word18 : True := by
  k_with "call ref nil#" => first | (((try dsimp only [List.nil_append, List.cons_append]); (with_reducible show wpAny _ _ (call (Value.ref 203) [Value.ref _, Value.int _ _]) _ _ _); k_dflt (refine' Mine.takeU ?Bw ?Fw ?Xw ?Nw ?Tw ?kw ?dw ?uw ?ow ?aw ?tw ?t2w ?_; (case Bw => k_asm); (case Fw => k_asm); (case Xw => k_asm); (case Nw => k_asm); (case Tw => k_asm); (case kw => first | exact rfl | assumption); (case dw => ktr_room); (case uw => ktr_units); (case ow => k_updF); (case aw => assumption); (case tw => first | decide | assumption | omega); (case t2w => first | decide | assumption | omega)); intro _ _ _ _ _ _ _ _ _ _ _ _ N9w; (try dsimp only at N9w))) | fail "no"
  k_with "call ref cons nil#" => first | (((try dsimp only [List.nil_append, List.cons_append]); (with_reducible show wpAny _ _ (call (Value.ref 203) [Value.ref _, Value.int _ _]) _ _ _); k_dflt (refine' Mine.takeU ?Bw ?Fw ?Xw ?Nw ?Tw ?kw ?dw ?uw ?ow ?aw ?tw ?t2w ?_; (case Bw => k_asm); (case Fw => k_asm); (case Xw => k_asm); (case Nw => k_asm); (case Tw => k_asm); (case kw => first | exact rfl | assumption); (case dw => ktr_room); (case uw => ktr_units); (case ow => k_updF); (case aw => assumption); (case tw => first | decide | assumption | omega); (case t2w => first | decide | assumption | omega)); intro _ _ _ _ _ _ _ _ _ _ _ _ N9w; (try dsimp only at N9w))) | fail "no"
  trivial

namespace Mine
theorem one_spec {pg : Program} {ls : List Str} {w : World} {mean : ExcName → Option Value} {mg mb : Str → Option Value} {A₀ : Around} {dp un : Nat} {gd : Option (List Code)} {base h₀ : Heap} {outer : List Env} {L : Addr} {m : Str → Option Value} {cn : Str} {cs : Scope} {ca : Addr} {ccd : Value} {cl : List (Str × Addr)} {s : Shared} {Q E : Value → Shared → Prop} {src : Addr} {a b : Int} {ta tb : Tok} {n : Nat} {T' : Addr} {its : Array Value} {k : Nat} {R : List (Addr × Obj)}
    (B : Below A₀ base outer h₀) (F : Fr h₀ L s.heap m) (X : Frag.In (hd.heap_39 w.params) h₀) (N : News h₀ L s.heap ((src, listOf #[.int a ta, .int b tb] n) :: R)) (T : Top pg ls mean mg mb h₀) (hk : cs.kind = .function) (hdp : dp + 20 < recursionLimit) (hun : un + 40 * 20 < cLine)
    (hT : (T', listOf its k) ∈ R) (hs0 : 0 < (its.size : Int)) (hs1 : (its.size : Int) < 100) (off : ∀ p ∈ R, p.1 ≠ src) (hs : SrcOk a b)
    (h : ∀ v a' ta' b' tb' h' tk', v ∈ its.toList → SrcOk a' b' → Fr h₀ L h' m → News h₀ L h' ((src, listOf #[.int a' ta', .int b' tb'] n) :: R) → Q v { s with heap := h', toks := tk' }) :
    wpAny (model PySem.Challenge.rw_pf0070_01.row.prog w) (ktrTop dp un gd cn cs L ca ccd cl outer) (call (.ref 210) [.ref src, .ref T']) Q E s := by
  w_top off
  have hsz : its.size < 1000 := by omega
  refine wpAny_call ?_
  k_dflt ktr_enter
  k_steps
  exact h _ _ _ _ _ _ _ (List.mem_of_getElem? (by assumption)) (by assumption) (by k_asm) (by k_asm)
theorem oneU {pg : Program} {ls : List Str} {w : World} {mean : ExcName → Option Value} {mg mb : Str → Option Value} {A₀ : Around} {dp un : Nat} {gd : Option (List Code)} {base h₀ : Heap} {outer : List Env} {L : Addr} {m : Str → Option Value} {cn : Str} {cs : Scope} {ca : Addr} {ccd : Value} {cl : List (Str × Addr)} {s : Shared} {Q E : Value → Shared → Prop} {src : Addr} {a b : Int} {ta tb : Tok} {n : Nat} {T' : Addr} {its : Array Value} {k : Nat} {news : List (Addr × Obj)} {g : Obj → List (Addr × Obj)}
    (B : Below A₀ base outer h₀) (F : Fr h₀ L s.heap m) (X : Frag.In (hd.heap_39 w.params) h₀) (N : News h₀ L s.heap (news)) (T : Top pg ls mean mg mb h₀) (hk : cs.kind = .function) (hdp : dp + 20 < recursionLimit) (hun : un + 40 * 20 < cLine)
    (U : UpdF src (listOf #[.int a ta, .int b tb] n) news g) (hT : (T', listOf its k) ∈ news) (ne : T' ≠ src) (hs0 : 0 < (its.size : Int)) (hs1 : (its.size : Int) < 100) (hs : SrcOk a b)
    (h : ∀ v a' ta' b' tb' h' tk', v ∈ its.toList → SrcOk a' b' → Fr h₀ L h' m → News h₀ L h' (g (listOf #[.int a' ta', .int b' tb'] n)) → Q v { s with heap := h', toks := tk' }) :
    wpAny (model PySem.Challenge.rw_pf0070_01.row.prog w) (ktrTop dp un gd cn cs L ca ccd cl outer) (call (.ref 210) [.ref src, .ref T']) Q E s := by
  obtain ⟨pre, post, rfl, hg, h1, h2⟩ := U.split
  exact one_spec B F X (news_front N) T hk hdp hun (mem_off hT ne) hs0 hs1 (off_both h1 h2) hs fun v a' ta' b' tb' h' tk' q1 q3 F' N' => h v a' ta' b' tb' h' tk' q1 q3 F' (hg _ ▸ news_back N')
end Mine

/- M6 -/

theorem Mine.word19 : True := by
  k_with "call ref nil#" => first | (((try dsimp only [List.nil_append, List.cons_append]); (with_reducible show wpAny _ _ (call (Value.ref 210) [Value.ref _, Value.ref _]) _ _ _); k_dflt (refine' Mine.oneU ?Bw ?Fw ?Xw ?Nw ?Tw ?kw ?dw ?uw ?ow ?tw ?ew ?s0w ?s1w ?aw ?_; (case Bw => k_asm); (case Fw => k_asm); (case Xw => k_asm); (case Nw => k_asm); (case Tw => k_asm); (case kw => first | exact rfl | assumption); (case dw => ktr_room); (case uw => ktr_units); (case ow => k_updF); (case tw => k_mem); (case ew => k_ne); (case s0w => walk_at "m:size"); (case s1w => walk_at "m:size"); (case aw => assumption)); intro _ _ _ _ _ _ _ _ _ _ N9w; (try dsimp only at N9w))) | fail "no"
  k_with "call ref cons nil#" => first | (((try dsimp only [List.nil_append, List.cons_append]); (with_reducible show wpAny _ _ (call (Value.ref 210) [Value.ref _, Value.ref _]) _ _ _); k_dflt (refine' Mine.oneU ?Bw ?Fw ?Xw ?Nw ?Tw ?kw ?dw ?uw ?ow ?tw ?ew ?s0w ?s1w ?aw ?_; (case Bw => k_asm); (case Fw => k_asm); (case Xw => k_asm); (case Nw => k_asm); (case Tw => k_asm); (case kw => first | exact rfl | assumption); (case dw => ktr_room); (case uw => ktr_units); (case ow => k_updF); (case tw => k_mem); (case ew => k_ne); (case s0w => walk_at "m:size"); (case s1w => walk_at "m:size"); (case aw => assumption)); intro _ _ _ _ _ _ _ _ _ _ N9w; (try dsimp only at N9w))) | fail "no"
  trivial

namespace Mine
theorem st_mem {v : Value} {t1 t2 t3 t4 : Tok} (h : v ∈ #[Value.str (Str.ofString "ready") t1, Value.str (Str.ofString "blocked") t2, Value.str (Str.ofString "blocked") t3, Value.str (Str.ofString "ended") t4].toList) :
    ∃ x t, v = .str x t ∧ (x = Str.ofString "ready" ∨ x = Str.ofString "blocked" ∨ x = Str.ofString "ended") := by
  simp only [List.mem_cons, List.not_mem_nil, or_false] at h
  rcases h with rfl | rfl | rfl | rfl
  · exact ⟨_, _, rfl, .inl rfl⟩
  · exact ⟨_, _, rfl, .inr (.inl rfl)⟩
  · exact ⟨_, _, rfl, .inr (.inl rfl)⟩
  · exact ⟨_, _, rfl, .inr (.inr rfl)⟩
theorem plainA {v : Value} {D : Addr} {i : Int} {t : Tok} (h : v ∈ #[Value.none, Value.none, Value.ref D, Value.int i t].toList) : Plain v := by
  simp only [List.mem_cons, List.not_mem_nil, or_false] at h
  rcases h with rfl | rfl | rfl | rfl
  · exact .inl rfl
  · exact .inl rfl
  · exact .inr (.inl ⟨_, rfl⟩)
  · exact .inr (.inr (.inl ⟨_, _, rfl⟩))
theorem plainB {v : Value} {D : Addr} {x : Str} {t : Tok} (h : v ∈ #[Value.ref D, Value.none, Value.str x t].toList) : Plain v := by
  simp only [List.mem_cons, List.not_mem_nil, or_false] at h
  rcases h with rfl | rfl | rfl
  · exact .inr (.inl ⟨_, rfl⟩)
  · exact .inl rfl
  · exact .inr (.inr (.inr ⟨_, _, rfl⟩))
theorem row_spec {pg : Program} {ls : List Str} {w : World} {mean : ExcName → Option Value} {mg mb : Str → Option Value} {A₀ : Around} {dp un : Nat} {gd : Option (List Code)} {base h₀ : Heap} {outer : List Env} {L : Addr} {m : Str → Option Value} {cn : Str} {cs : Scope} {ca : Addr} {ccd : Value} {cl : List (Str × Addr)} {s : Shared} {Q E : Value → Shared → Prop} {src : Addr} {a b : Int} {ta tb : Tok} {n : Nat} {R : List (Addr × Obj)}
    (B : Below A₀ base outer h₀) (F : Fr h₀ L s.heap m) (X : Frag.In (hd.heap_39 w.params) h₀) (N : News h₀ L s.heap ((src, listOf #[.int a ta, .int b tb] n) :: R)) (T : Top pg ls mean mg mb h₀) (hk : cs.kind = .function) (hdp : dp + 30 < recursionLimit) (hun : un + 40 * 30 < cLine)
    (off : ∀ p ∈ R, p.1 ≠ src) (hs : SrcOk a b)
    (h : ∀ ra st t wv av a' ta' b' tb' h' tk', RowOk st wv av → SrcOk a' b' → AllLt ra R → src < ra → Fr h₀ L h' m → News h₀ L h' ((ra, listOf #[.str st t, wv, av] 0) :: (src, listOf #[.int a' ta', .int b' tb'] n) :: R) → Q (.ref ra) { s with heap := h', toks := tk' }) :
    wpAny (model PySem.Challenge.rw_pf0070_01.row.prog w) (ktrTop dp un gd cn cs L ca ccd cl outer) (call (.ref 224) [.ref src]) Q E s := by
  w_top off
  refine wpAny_call ?_
  k_dflt ktr_enter
  (rename Fr _ _ _ _ => F0h); obtain ⟨m0h, F1h⟩ := Mine.fr_hide1 (x1 := Str.ofString "source") (v1 := .ref src) F0h rfl; clear F0h
  k_steps
  rename _ ∈ Array.toList _ => hv
  obtain ⟨x, t, rfl, hx⟩ := st_mem hv
  k_steps
  · rename News _ _ _ _ => kN9
    refine' h _ x t _ _ _ _ _ _ _ _ ?ok ?s ?l1 ?l2 (by k_asm) ?N
    case N => exact fun p hp => kN9 p ((List.forall_mem_cons.mpr ⟨by k_mem, List.forall_mem_cons.mpr ⟨by k_mem, by walk_at "m:tail"⟩⟩) p hp)
    case s => assumption
    case ok => exact ⟨hx, plainB (by assumption), plainA (by assumption), fun e9 => by
      exfalso
      revert e9
      rename (x == Str.ofString "blocked") = true => hb9
      rw [hb9]; exact fun e => nomatch e⟩
    case l1 => (rename _ ∧ _ => q1; exact by simp only [q1])
    case l2 => (rename _ ∧ _ => q1; exact by simp only [q1])
  · rename News _ _ _ _ => kN9
    refine' h _ x t _ _ _ _ _ _ _ _ ?ok ?s ?l1 ?l2 (by k_asm) ?N
    case N => exact fun p hp => kN9 p ((List.forall_mem_cons.mpr ⟨by k_mem, List.forall_mem_cons.mpr ⟨by k_mem, by walk_at "m:tail"⟩⟩) p hp)
    case s => assumption
    case ok => exact ⟨hx, .inl rfl, plainA (by assumption), fun _ => rfl⟩
    case l1 => (rename _ ∧ _ => q1; exact by simp only [q1])
    case l2 => (rename _ ∧ _ => q1; exact by simp only [q1])
end Mine

/- Lp -/

namespace Mine
section
variable {prog : Program} {w : World} {A : Around} {E : Value → Shared → Prop} {s : Shared} {h₀ : Heap} {env : Env} {target : PySem.Expr} {body : List Stmt} {Q : Flow → Shared → Prop}
theorem allObj_of : ∀ {ws : List (Addr × String)} {k : List (Addr × Obj) → Prop}, (∀ its, Objs ws its → k its) → AllObj ws k
  | [], _, h => AllObj.nil (h [] trivial)
  | w :: ws, k, h => AllObj.cons fun o hc => allObj_of (ws := ws) (k := fun its => k ((w.1, o) :: its)) fun its hi => h ((w.1, o) :: its) ⟨⟨rfl, hc⟩, hi⟩
/-- a loop over items, by what holds between its turns; it stores the names `stored` alone -/
theorem items_ind {ws : List (Addr × String)} {keep : List (Addr × Obj)} {m₀ : Str → Option Value} (stored : List Str) (I : List Itm → List (Addr × Obj) → Prop)
    (done : ∀ (u : Str → Option Value) news h tk, I [] news → Fr h₀ env.locals h (fun z => if stored.contains z then u z else m₀ z) → News h₀ env.locals h news → Q .next { s with heap := h, toks := tk })
    (turn : ∀ a r (u : Str → Option Value) news v h tk its, I (a :: r) news → a.Is v h → Objs ws its → Fr h₀ env.locals h (fun z => if stored.contains z then u z else m₀ z) → News h₀ env.locals h (its ++ news) → ∀ Q' : Flow → Shared → Prop,
      (∀ s₃, UnrEndW h₀ env.locals { s with heap := h, toks := tk } its (fun m' n' => SubL keep n' ∧ (∀ z, stored.contains z = false → m' z = m₀ z) ∧ I r n') s₃ → Q' .next s₃) →
      wpAny (model prog w) A (assign target env v) (fun _ s₂ => wpAny (model prog w) A (execs body env) Q' E s₂) E { s with heap := h, toks := tk }) :
    ∀ xs m news, (∀ z, stored.contains z = false → m z = m₀ z) → I xs news → ItemsRest prog w A E h₀ env target body Q s ws keep xs m news := by
  have map : ∀ m : Str → Option Value, (∀ z, stored.contains z = false → m z = m₀ z) → m = fun z => if stored.contains z then m z else m₀ z := by
    intro m hm
    funext z
    cases e : stored.contains z with
    | true => rfl
    | false => exact hm z e
  intro xs
  induction xs with
  | nil =>
    intro m news hm hI h tk F N
    exact done m news h tk hI (map m hm ▸ F) N
  | cons a r ih =>
    intro m news hm hI v h tk ha F
    refine allObj_of fun its hits N => ?_
    refine wpAny_mono (turn a r m news v h tk its hI ha hits (map m hm ▸ F) N (UnrPostW h₀ env.locals { s with heap := h, toks := tk } its (fun m' n' => SubL keep n' ∧ (∀ z, stored.contains z = false → m' z = m₀ z) ∧ I r n') Q) fun s₃ h₃ => h₃) (fun _ s₂ h₂ => wpAny_mono h₂ (fun f s₃ hf => ?_) fun _ _ x => x) fun _ _ x => x
    have next : UnrEndW h₀ env.locals { s with heap := h, toks := tk } its (fun m' n' => SubL keep n' ∧ (∀ z, stored.contains z = false → m' z = m₀ z) ∧ I r n') s₃ →
        UnrEndW h₀ env.locals { s with heap := h, toks := tk } its (fun m' n' => SubL keep n' ∧ ItemsRest prog w A E h₀ env target body Q s ws keep r m' n') s₃ := by
      rintro ⟨h', tk', m', n', e, F', N', o, k, hm', hi'⟩
      exact ⟨h', tk', m', n', e, F', N', o, k, ih m' n' hm' hi'⟩
    cases f with
    | ret v => exact hf
    | brk => exact hf
    | next => exact next hf
    | cont => exact next hf
end
end Mine
theorem Mine.word20 : True := by
  k_with "m:for#" => first | ((k_here; (rename Fr _ _ _ _ => lF'); (with_unfolding_all refine' For_turns lF' ?_; k_whole))) | fail "no"
  k_with "exec For Name Name cons nil#" => first | (walk_at "m:for") | fail "no"
  k_with "exec For Tuple Call cons nil#" => first | (walk_at "m:for") | fail "no"
  trivial

/- L1 -/
theorem Mine.word21 : True := by
  k_with_none
  k_with "m:sub#" => first | ((k_here; (with_reducible show wpAny _ _ (subscriptTail _ _ (Value.ref _) (Value.int _ _)) _ _ _); k_dflt (refine' Mine.m_sub ?Nw ?mw ?aw ?bw ?xw ?_; (case Nw => k_asm); (case mw => k_mem); (case aw => decide); (case bw => decide); (case xw => rfl); k_whole))) | fail "no"
  k_with "subscriptTail Name Constant ref int#" => first | (walk_at "m:sub") | fail "no"
  k_with "m:compT#" => first | ((k_here; lct_look; k_dflt (refine LCt.ListComp_T (F₀ := by k_asm) (by with_unfolding_all rfl) (by decide) (by rfl) (by decide) (by rfl) ?_))) | fail "no"
  k_with "m:comp#" => first | ((k_here; k_dflt (refine LCg.ListComp_U (F₀ := by k_asm) (by with_unfolding_all rfl) (by decide) (by rfl) (by decide) (by rfl) ?_))) | fail "no"
  k_with "eval ListComp Name cons#" => first | (first | walk_at "m:compT" | walk_at "m:comp") | fail "no"
  k_with "eval ListComp Tuple cons#" => first | (first | walk_at "m:compT" | walk_at "m:comp") | fail "no"
  k_with "eval ListComp List cons#" => first | (first | walk_at "m:compT" | walk_at "m:comp") | fail "no"
  k_with "eval ListComp Attribute cons#" => first | (first | walk_at "m:compT" | walk_at "m:comp") | fail "no"
  k_with "CompSrcT#" => first | ((k_here; k_dflt (refine LCt.CompSrcT.ledger (by rfl) (by k_asm) (by k_asm) (by k_mem) (by first | size_fits | (simp only [List.size_toArray, List.length_map]; rw [sizeLine_eq]; omega)) ?_); intro _)) | fail "no"
  k_with "CompSrc#" => first | ((k_here; k_dflt (refine LCg.CompSrc.ledger (by rfl) (by k_asm) (by k_asm) (by k_mem) (by first | size_fits | (simp only [List.size_toArray, List.length_map]; rw [sizeLine_eq]; omega)) ?_); intro _)) | fail "no"
  k_with "m:in#" => first | (first | assumption | ((with_reducible refine List.mem_cons_of_mem _ ?_); walk_at "m:in") | ((with_reducible refine List.mem_append_right _ ?_); walk_at "m:in") | ((with_reducible refine List.mem_append_left _ ?_); walk_at "m:in")) | fail "no"
  k_with "m:tail#" => first | ((intro _ _; walk_at "m:in")) | fail "no"
  k_with "m:src#" => first | (exact Or.inr ⟨_, by k_mem, rfl, _, rfl⟩) | fail "no"
  k_with "m:units#" => first | (first | ktr_units | (have hcL9 := cLine_is; (simp only [units_in1, units_deeper, Around.mark_units] at *); (try dsimp only [ktrTop] at *); omega)) | fail "no"
  k_with "m:eqnil#" => first | ((k_here; (with_reducible show wpAny _ _ (compareOp CmpOp.Eq (Value.ref _) (Value.ref _)) _ _ _); k_dflt (refine' Mine.m_eq_nil ?Nw ?aw ?bw ?uw ?_; (case Nw => k_asm); (case bw => k_mem); (case aw => k_mem); (case uw => walk_at "m:units"); k_whole))) | fail "no"
  k_with "m:nenil#" => first | ((k_here; (with_reducible show wpAny _ _ (compareOp CmpOp.NotEq (Value.ref _) (Value.ref _)) _ _ _); k_dflt (refine' Mine.m_ne_nil ?Nw ?aw ?bw ?uw ?_; (case Nw => k_asm); (case bw => k_mem); (case aw => k_mem); (case uw => walk_at "m:units"); k_whole))) | fail "no"
  k_with "compareOp Eq ref ref#" => first | (walk_at "m:eqnil") | fail "no"
  k_with "m:nesame#" => first | ((k_here; (with_reducible show wpAny _ _ (compareOp CmpOp.NotEq (Value.ref _) (Value.ref _)) _ _ _); k_dflt (refine' Mine.m_ne_same ?Nw ?aw ?bw ?uw ?_ ?_; (case Nw => k_asm); (case aw => k_mem); (case bw => k_mem); (case uw => walk_at "m:units")))) | fail "no"
  k_with "compareOp NotEq ref ref#" => first | (first | walk_at "m:nenil" | walk_at "m:nesame") | fail "no"
  k_with "m:cend#" => first | (refine LCg.CompEnd.intro (by k_asm) (by k_asm) _ (by walk_at "m:tail") (by assumption) (by walk_at "m:src") ⟨rfl, ?_⟩) | fail "no"
  k_with "m:back#" => first | ((rename News _ _ _ _ => kN9; exact fun p9 hp9 => kN9 p9 (by walk_at "m:in"))) | fail "no"
  k_with "m:perm#" => first | ((intro _ hp9w; simp only [List.mem_cons, List.mem_append, List.cons_append, List.append_assoc, List.nil_append, List.not_mem_nil, or_false, false_or] at hp9w ⊢; (repeat' ((with_reducible refine Or.elim hp9w (fun hq9 => ?_) (fun hq9 => ?_)); clear hp9w; rename_i hp9w)) <;> simp only [hp9w, true_or, or_true])) | fail "no"
  k_with "m:sees#" => first | (first | assumption | exact Mine.Sees.mono (by assumption) (by walk_at "m:tail")) | fail "no"
  k_with "m:rows#" => first | (first | assumption | exact Mine.Rows.mono (by assumption) (by walk_at "m:tail")) | fail "no"
  k_with "m:off#" => first | (first | assumption | exact Mine.off_lt (by assumption) | (k_all)) | fail "no"
  k_with "m:small#" => first | (first | assumption | decide | (simp only [List.size_toArray, List.length_map, List.length_cons, List.length_nil]; omega) | (simp only [List.size_toArray, List.length_map, List.length_cons, List.length_nil] at *; omega)) | fail "no"
  k_with "call builtin:len cons nil#" => first | ((k_here; (with_reducible show wpAny _ _ (call (Value.builtin _) [Value.ref _]) _ _ _); k_dflt (refine' Mine.m_len ?Nw ?mw ?zw ?_; (case Nw => k_asm); (case mw => k_mem); (case zw => walk_at "m:small"); k_whole); intro _ _)) | fail "no"
  k_with "m:subS#" => first | ((k_here; (with_reducible show wpAny _ _ (subscriptTail _ _ (Value.ref _) (Value.int _ _)) _ _ _); k_dflt (refine' Mine.m_subS ?Nw ?mw ?aw ?bw ?zw ?_; (case Nw => k_asm); (case mw => k_mem); (case aw => first | assumption | omega); (case bw => first | assumption | omega); (case zw => walk_at "m:small"); k_whole); intro _ _)) | fail "no"
  k_with "subscriptTail Name Call ref int#" => first | (walk_at "m:subS") | fail "no"
  k_with "m:size#" => first | (first | assumption | decide | (simp only [List.size_toArray, List.length_cons, List.length_nil]; omega) | (simp; done)) | fail "no"
  k_with "m:split#" => first | (repeat (rename _ ∧ _ => hx9; have hy9 := And.left hx9; have hz9 := And.right hx9; clear hx9)) | fail "no"
  k_with "m:dis#" => first | ((simp only [List.map_cons, List.nodup_cons, List.mem_cons, not_or, List.cons_append, List.nil_append] at *; walk_at "m:split")) | fail "no"
  k_with "m:count#" => first | ((intro _; (try simp only [Mine.cells3_snoc, Mine.cells_mid, Mine.rowsOf_mid]); (try simp only [List.map_append, List.map_cons, List.map_nil, List.count_append, List.count_cons, List.count_nil, List.nil_append, List.cons_append]); omega)) | fail "no"
  k_with "m:dis9#" => first | (first | assumption | exact Mine.Dis.le (by assumption) (by walk_at "m:count")) | fail "no"
  k_with "m:lt#" => first | (first | assumption | exact True.intro | ((with_reducible refine Mine.allLt_le ?_ ?_) ; (first | (omega) | skip); assumption) | (refine And.intro ?_ ?_; (try dsimp only); omega; walk_at "m:lt") | (refine Mine.allLt_le (Nat.le_of_lt ?_) ?_; rotate_left; assumption; omega)) | fail "no"
  k_with "m:mem9#" => first | (first | exact List.mem_cons_self | (refine List.mem_cons_of_mem _ ?_; walk_at "m:mem9") | (refine List.mem_append_left _ ?_; walk_at "m:mem9") | (refine List.mem_append_right _ ?_; walk_at "m:mem9")) | fail "no"
  k_with "m:in9#" => first | (first | assumption | (refine List.mem_cons_of_mem _ ?_; walk_at "m:in9") | (refine List.mem_append_left _ ?_; walk_at "m:in9") | (refine List.mem_append_right _ ?_; walk_at "m:in9")) | fail "no"
  k_with "m:sub9#" => first | (first | (refine List.forall_mem_cons.mpr ⟨?_, ?_⟩; walk_at "m:mem9"; walk_at "m:sub9") | (refine List.forall_mem_append.mpr ⟨?_, ?_⟩; walk_at "m:sub9"; walk_at "m:sub9") | (intro _ hp9w; exact absurd hp9w List.not_mem_nil) | (intro _ hp9w; walk_at "m:in9")) | fail "no"
  k_with "compareOp IsNot none#" => first | ((k_here; k_dflt (refine Mine.m_isnot (by assumption) (by assumption) ?_))) | fail "no"
  k_with "m:subA#" => first | ((k_here; (with_reducible show wpAny _ _ (subscriptTail _ _ (Value.ref _) (Value.int _ _)) _ _ _); k_dflt (refine' Mine.m_sub ?Nw ?mw ?aw ?bw ?xw ?_; (case Nw => k_asm); (case mw => k_mem); (case xw => assumption); (case aw => first | assumption | omega); (case bw => first | decide | omega); k_whole))) | fail "no"
  k_with "subscriptTail Name Name ref int#" => first | (first | walk_at "m:subA" | walk_at "m:subS") | fail "no"
  k_with "subscriptTail Attribute Name Name ref int#" => first | (first | walk_at "m:subA" | walk_at "m:subS") | fail "no"
  k_with "m:enterD#" => first | ((refine' code_def ?k1w ?k2w ?k3w ?k4w ?k5w ?kAw ?kFw ?kKw ?k6w ?k7w ?k8w ?k9w ?kBw ?_ ?c2w ?c3w ?c4w ?c5w; (case kAw => exact rfl); (case kFw => exact rfl); (case kKw => first | exact rfl | assumption); (case k1w => k_asm); (case k2w => k_asm); (case k3w => k_asm); (case k4w => k_asm); (case k5w => k_asm); (case k6w => k_is); (case k7w => k_is); (case k8w => k_room); (case k9w => exact Mine.wake_binds (Frag.In.keeps (by k_asm) (Fr.keep (by k_asm))) (by k_is) rfl); (case c5w => decide); (case kBw => exact locs rfl); (case c2w => exact rfl); (case c3w => exact rfl); (case c4w => exact rfl); k_whole; intro _ _ _ _ _ _ B'w _ _; (try dsimp only); (try k_lift B'w); (try k_fold))) | fail "no"
  k_with "call ref cons nil#" => first | (((try dsimp only [List.nil_append, List.cons_append]); (with_reducible show wpAny _ _ (call (Value.ref 123) [Value.ref _, Value.int _ _, _]) _ _ _); (refine wpAny_call ?_); k_dflt (walk_at "m:enterD"))) | fail "no"
  k_with "m:for#" => first | ((k_here; (rename Fr _ _ _ _ => lF'); (with_unfolding_all refine' For_turns lF' ?_; k_whole))) | fail "no"
  k_with "exec For Name Name cons nil#" => first | (walk_at "m:for") | fail "no"
  k_with "exec For Tuple Call cons nil#" => first | (walk_at "m:for") | fail "no"
  trivial

namespace Mine
def L1Inv (w : World) (I : Addr) (rs : List Cell) (R : List (Addr × Obj)) (src : Addr) (so : Obj) (S Sd all C Cd Rl : Addr) (rn : Nat) (k1 k2 k3 : Tok) (co : Obj) (items : List Itm) (news : List (Addr × Obj)) : Prop :=
  ∃ p q cs here an, rs = p ++ q ∧ items = q.map (fun c => .val (.ref c.ra)) ∧ cs.map Cell.row = p.map Cell.row ∧ Fresh cs ∧ ((cs = [] ∧ here = .none) ∨ ∃ g, here = .ref g) ∧
    news = (all, listOf (cs.map fun c => Value.ref c.g).toArray an) :: (S, instObj 157 Sd) :: (Sd, sdict w k1 k2 k3 C all here) :: (C, instObj 185 Cd) :: (Cd, co) :: (src, so) :: (Rl, listOf (rs.map fun c => Value.ref c.ra).toArray rn) :: (cells3 w cs ++ (rowsOf rs ++ R)) ∧
    Dis ((I, o0) :: news)
theorem l1_gen {w : World} {h₀ h' : Heap} {L : Addr} {s₁ : Shared} {tk : Nat} {m' : Str → Option Value} {M : (Str → Option Value) → Prop} {I : Addr} {oI : Obj} {rs p q cs : List Cell} {c : Cell} {R : List (Addr × Obj)} {src S Sd all C Cd Rl : Addr} {so co : Obj} {rn an an' : Nat} {k1 k2 k3 : Tok} {here here' : Value}
    {c' : Cell}
    (F : Fr h₀ L h' m')
    (N : News h₀ L h' ((c'.f, c'.fo) :: (c'.g, instObj 71 c'.d) :: (c'.d, gdict w c') :: (I, oI) ::
      (all, listOf ((cs ++ [c']).map fun c => Value.ref c.g).toArray an') :: (S, instObj 157 Sd) :: (Sd, sdict w k1 k2 k3 C all here') :: (C, instObj 185 Cd) :: (Cd, co) :: (src, so) :: (Rl, listOf (rs.map fun c => Value.ref c.ra).toArray rn) :: (cells3 w cs ++ (rowsOf rs ++ R))))
    (hm : M m') (hrow : c'.row = c.row) (hi : c'.i = (cs.length : Int)) (hf : c'.gst = Str.ofString "ready" ∧ c'.gwf = .none ∧ c'.gan = .none ∧ c'.fo = listOf #[] 0) (hh : ∃ g, here' = .ref g)
    (hD : Dis ((I, oI) :: (all, listOf (cs.map fun c => Value.ref c.g).toArray an) :: (S, instObj 157 Sd) :: (Sd, sdict w k1 k2 k3 C all here) :: (C, instObj 185 Cd) :: (Cd, co) :: (src, so) :: (Rl, listOf (rs.map fun c => Value.ref c.ra).toArray rn) :: (cells3 w cs ++ (rowsOf rs ++ R))))
    (l1 : I < c'.d ∧ all < c'.d ∧ S < c'.d ∧ Sd < c'.d ∧ C < c'.d ∧ Cd < c'.d ∧ src < c'.d ∧ Rl < c'.d ∧ AllLt c'.d (cells3 w cs ++ (rowsOf rs ++ R))) (l2 : c'.d < c'.g) (l3 : c'.g < c'.f)
    (e1 : rs = p ++ c :: q) (e3 : cs.map Cell.row = p.map Cell.row) (e4 : Fresh cs) :
    UnrEndW h₀ L s₁ [(I, oI)] (fun m' n' => SubL [(Rl, listOf (rs.map fun c => Value.ref c.ra).toArray rn)] n' ∧ M m' ∧ L1Inv w I rs R src so S Sd all C Cd Rl rn k1 k2 k3 co (q.map fun c => .val (.ref c.ra)) n') { s₁ with heap := h', toks := tk } := by
  have hd : AllLt c'.d ((I, oI) :: (all, listOf (cs.map fun c => Value.ref c.g).toArray an) :: (S, instObj 157 Sd) :: (Sd, sdict w k1 k2 k3 C all here) :: (C, instObj 185 Cd) :: (Cd, co) :: (src, so) :: (Rl, listOf (rs.map fun c => Value.ref c.ra).toArray rn) :: (cells3 w cs ++ (rowsOf rs ++ R))) := l1
  have D1 := hD.cons (p := (c'.d, gdict w c')) hd
  have D2 := D1.cons (p := (c'.g, instObj 71 c'.d)) ⟨l2, allLt_le (Nat.le_of_lt l2) hd⟩
  have D3 := D2.cons (p := (c'.f, c'.fo)) ⟨l3, Nat.lt_trans l2 l3, allLt_le (Nat.le_of_lt (Nat.lt_trans l2 l3)) hd⟩
  clear D1 D2 hD hd
  have D4 : Dis ((I, oI) :: (all, listOf ((cs ++ [c']).map fun c => Value.ref c.g).toArray an') :: (S, instObj 157 Sd) :: (Sd, sdict w k1 k2 k3 C all here') :: (C, instObj 185 Cd) :: (Cd, co) :: (src, so) :: (Rl, listOf (rs.map fun c => Value.ref c.ra).toArray rn) :: (cells3 w (cs ++ [c']) ++ (rowsOf rs ++ R))) := by
    refine D3.le ?_
    walk_at "m:count"
  have N4 : News h₀ L h' ((I, oI) :: (all, listOf ((cs ++ [c']).map fun c => Value.ref c.g).toArray an') :: (S, instObj 157 Sd) :: (Sd, sdict w k1 k2 k3 C all here') :: (C, instObj 185 Cd) :: (Cd, co) :: (src, so) :: (Rl, listOf (rs.map fun c => Value.ref c.ra).toArray rn) :: (cells3 w (cs ++ [c']) ++ (rowsOf rs ++ R))) := by
    refine news_sub N ?_
    rw [cells3_snoc]
    walk_at "m:sub9"
  refine ⟨h', tk, m', _, rfl, F, N4, fun p hp q hq => ?_, ⟨by walk_at "m:mem9", trivial⟩, hm, ?_⟩
  · rw [List.mem_singleton.mp hq]; exact D4.off p hp
  · exact ⟨p ++ [c], q, cs ++ [c'], here', an', by simp [e1], rfl, by simp only [List.map_append, e3, List.map_cons, hrow, List.map_nil], e4.snoc hi hf, .inr hh, rfl, D4⟩
theorem l1_end {w : World} {h₀ h' : Heap} {L : Addr} {s₁ : Shared} {tk : Nat} {m' : Str → Option Value} {M : (Str → Option Value) → Prop} {I : Addr} {oI : Obj} {rs p q cs : List Cell} {c : Cell} {R : List (Addr × Obj)} {src S Sd all C Cd Rl : Addr} {so co : Obj} {rn an : Nat} {k1 k2 k3 : Tok} {here here' : Value}
    {f g d : Addr} {n1 n2 n3 n4 n5 : Tok} {i : Int} {it gt : Tok}
    (F : Fr h₀ L h' m')
    (N : News h₀ L h' ((f, listOf #[] 0) :: (g, instObj 71 d) :: (d, dictOf
      [⟨PyData.keyHash w.params (Str.ofString "number"), .str (Str.ofString "number") n1, .int i it⟩,
       ⟨PyData.keyHash w.params (Str.ofString "state"), .str (Str.ofString "state") n2, .str (Str.ofString "ready") gt⟩,
       ⟨PyData.keyHash w.params (Str.ofString "waits_for"), .str (Str.ofString "waits_for") n3, .none⟩,
       ⟨PyData.keyHash w.params (Str.ofString "frames"), .str (Str.ofString "frames") n4, .ref f⟩,
       ⟨PyData.keyHash w.params (Str.ofString "answer"), .str (Str.ofString "answer") n5, .none⟩] 5) :: (I, oI) ::
      (all, listOf ((cs.map fun c => Value.ref c.g).toArray.push (.ref g)) (an + 1)) :: (S, instObj 157 Sd) :: (Sd, sdict w k1 k2 k3 C all here') :: (C, instObj 185 Cd) :: (Cd, co) :: (src, so) :: (Rl, listOf (rs.map fun c => Value.ref c.ra).toArray rn) :: (cells3 w cs ++ (rowsOf rs ++ R))))
    (hm : M m') (hi : i = (cs.length : Int)) (hh : ∃ g, here' = .ref g)
    (hD : Dis ((I, oI) :: (all, listOf (cs.map fun c => Value.ref c.g).toArray an) :: (S, instObj 157 Sd) :: (Sd, sdict w k1 k2 k3 C all here) :: (C, instObj 185 Cd) :: (Cd, co) :: (src, so) :: (Rl, listOf (rs.map fun c => Value.ref c.ra).toArray rn) :: (cells3 w cs ++ (rowsOf rs ++ R))))
    (l1 : I < d ∧ all < d ∧ S < d ∧ Sd < d ∧ C < d ∧ Cd < d ∧ src < d ∧ Rl < d ∧ AllLt d (cells3 w cs ++ (rowsOf rs ++ R))) (l2 : d < g) (l3 : g < f)
    (e1 : rs = p ++ c :: q) (e3 : cs.map Cell.row = p.map Cell.row) (e4 : Fresh cs) :
    UnrEndW h₀ L s₁ [(I, oI)] (fun m' n' => SubL [(Rl, listOf (rs.map fun c => Value.ref c.ra).toArray rn)] n' ∧ M m' ∧ L1Inv w I rs R src so S Sd all C Cd Rl rn k1 k2 k3 co (q.map fun c => .val (.ref c.ra)) n') { s₁ with heap := h', toks := tk } := by
  refine l1_gen (c := c) (c' := ⟨c.ra, c.rn, c.rt, c.rst, c.rwf, c.ran, g, d, f, n1, n2, n3, n4, n5, i, it, Str.ofString "ready", gt, .none, .none, listOf #[] 0⟩) (an' := an + 1) F ?_ hm rfl hi ⟨rfl, rfl, rfl, rfl⟩ hh hD l1 l2 l3 e1 e3 e4
  have e : ∀ c' : Cell, c'.g = g → (cs.map fun c => Value.ref c.g).toArray.push (.ref g) = ((cs ++ [c']).map fun c => Value.ref c.g).toArray := by intro c' h; simp [h]
  rw [← e _ rfl]
  exact N
theorem l1_start {T : List (Addr × Obj)} {src Rl Cd C Sd S all I : Addr} {o1 o2 o3 o4 o5 o6 o7 o8 : Obj} (D0 : Dis ((src, o1) :: (Rl, o2) :: T)) (a1 : src < Cd ∧ Rl < Cd ∧ AllLt Cd T) (a2 : Cd < C) (a3 : C < Sd ∧ Cd < Sd ∧ src < Sd ∧ Rl < Sd ∧ AllLt Sd T) (a4 : Sd < S)
    (a5 : S < all ∧ Sd < all ∧ C < all ∧ Cd < all ∧ src < all ∧ Rl < all ∧ AllLt all T) (a6 : ∀ p ∈ (all, o7) :: (S, o6) :: (Sd, o5) :: (C, o4) :: (Cd, o3) :: (src, o1) :: (Rl, o2) :: T, p.1 < I) :
    Dis ((I, o8) :: (all, o7) :: (S, o6) :: (Sd, o5) :: (C, o4) :: (Cd, o3) :: (src, o1) :: (Rl, o2) :: T) :=
  ((((((D0.cons (p := (Cd, o3)) a1).cons (p := (C, o4)) ⟨a2, allLt_le (Nat.le_of_lt a2) (l := (src, o1) :: (Rl, o2) :: T) a1⟩).cons (p := (Sd, o5)) a3).cons (p := (S, o6)) ⟨a4, allLt_le (Nat.le_of_lt a4) (l := (C, o4) :: (Cd, o3) :: (src, o1) :: (Rl, o2) :: T) a3⟩).cons (p := (all, o7)) a5).cons (p := (I, o8)) (allLt_of a6))
end Mine

/- L2 -/

namespace Mine
theorem enum_mid {p : Nat} {c : Cell} {q : List Cell} : enumItems p ((c :: q).map fun c => Value.ref c.ra) = .pair (fun t => .int (p : Int) t) (.ref c.ra) :: enumItems (p + 1) (q.map fun c => Value.ref c.ra) := rfl
theorem ras_same {p q : List Cell} {c c' : Cell} (h : c'.row = c.row) : ((p ++ c' :: q).map Cell.row) = (p ++ c :: q).map Cell.row := by simp only [List.map_append, List.map_cons, h]
theorem gs_same {p q : List Cell} {c c' : Cell} (h : c'.g = c.g) : ((p ++ c' :: q).map fun c => Value.ref c.g) = (p ++ c :: q).map fun c => Value.ref c.g := by simp only [List.map_append, List.map_cons, h]
def L2Inv (w : World) (I : Addr) (rs : List Cell) (R : List (Addr × Obj)) (src : Addr) (so : Obj) (S Sd all C Cd Rl : Addr) (an rn : Nat) (k1 k2 k3 : Tok) (co : Obj) (gs : List Value) (items : List Itm) (news : List (Addr × Obj)) : Prop :=
  ∃ p q hg, items = enumItems p.length (q.map fun c => Value.ref c.ra) ∧ (p ++ q).map Cell.row = rs.map Cell.row ∧ ((p ++ q).map fun c => Value.ref c.g) = gs ∧ (∀ (i : Nat) c, (p ++ q)[i]? = some c → c.i = (i : Int)) ∧
    (∀ c ∈ p, (c.rst = c.gst ∧ c.rwf = c.gwf ∧ c.ran = c.gan) ∧ (c.gst = Str.ofString "ended" → c.fo = listOf #[] 0)) ∧
    (∀ c ∈ q, c.gst = Str.ofString "ready" ∧ c.gwf = .none ∧ c.gan = .none ∧ c.fo = listOf #[] 0) ∧
    news = (all, listOf gs.toArray an) :: (S, instObj 157 Sd) :: (Sd, sdict w k1 k2 k3 C all (.ref hg)) :: (C, instObj 185 Cd) :: (Cd, co) :: (src, so) :: (Rl, listOf (rs.map fun c => Value.ref c.ra).toArray rn) :: (cells w (p ++ q) ++ R) ∧
    Dis ((I + 1, o0) :: (I, o0) :: news)
theorem dis_swap {pre post : List (Addr × Obj)} {f f2 : Addr} {o o2 : Obj} (D : Dis (pre ++ (f, o) :: post)) (h : AllLt f2 (pre ++ (f, o) :: post)) : Dis (pre ++ (f2, o2) :: post) :=
  (D.cons (p := (f2, o2)) h).le fun a => by
    simp only [List.map_append, List.map_cons, List.count_append, List.count_cons]
    omega
theorem l2_end {w : World} {h₀ h' : Heap} {L : Addr} {s₁ : Shared} {tk : Nat} {m' : Str → Option Value} {M : (Str → Option Value) → Prop} {I : Addr} {oe oI : Obj} {rs p q : List Cell} {c c' : Cell} {R : List (Addr × Obj)} {src S Sd all C Cd Rl : Addr} {so co : Obj} {rn an : Nat} {k1 k2 k3 : Tok} {hg : Addr} {gs : List Value}
    (F : Fr h₀ L h' m')
    (N : News h₀ L h' ((I + 1, oe) :: (I, oI) :: (all, listOf gs.toArray an) :: (S, instObj 157 Sd) :: (Sd, sdict w k1 k2 k3 C all (.ref hg)) :: (C, instObj 185 Cd) :: (Cd, co) :: (src, so) :: (Rl, listOf (rs.map fun c => Value.ref c.ra).toArray rn) ::
      (c'.ra, rowObj c') :: (c'.g, instObj 71 c'.d) :: (c'.d, gdict w c') :: (c'.f, c'.fo) :: (cells w p ++ (cells w q ++ R))))
    (D : Dis ((I + 1, oe) :: (I, oI) :: (all, listOf gs.toArray an) :: (S, instObj 157 Sd) :: (Sd, sdict w k1 k2 k3 C all (.ref hg)) :: (C, instObj 185 Cd) :: (Cd, co) :: (src, so) :: (Rl, listOf (rs.map fun c => Value.ref c.ra).toArray rn) ::
      (c'.ra, rowObj c') :: (c'.g, instObj 71 c'.d) :: (c'.d, gdict w c') :: (c'.f, c'.fo) :: (cells w p ++ (cells w q ++ R))))
    (hm : M m') (hrow : c'.row = c.row) (hgg : c'.g = c.g) (hi : c'.i = c.i)
    (e2 : (p ++ c :: q).map Cell.row = rs.map Cell.row) (e3 : ((p ++ c :: q).map fun c => Value.ref c.g) = gs) (e4 : ∀ (i : Nat) x, (p ++ c :: q)[i]? = some x → x.i = (i : Int))
    (e5 : ∀ c ∈ p, (c.rst = c.gst ∧ c.rwf = c.gwf ∧ c.ran = c.gan) ∧ (c.gst = Str.ofString "ended" → c.fo = listOf #[] 0)) (e5' : (c'.rst = c'.gst ∧ c'.rwf = c'.gwf ∧ c'.ran = c'.gan) ∧ (c'.gst = Str.ofString "ended" → c'.fo = listOf #[] 0))
    (e6 : ∀ x ∈ c :: q, x.gst = Str.ofString "ready" ∧ x.gwf = .none ∧ x.gan = .none ∧ x.fo = listOf #[] 0) :
    UnrEndW h₀ L s₁ [(I + 1, oe), (I, oI)] (fun m' n' => SubL [(Rl, listOf (rs.map fun c => Value.ref c.ra).toArray rn)] n' ∧ M m' ∧ L2Inv w I rs R src so S Sd all C Cd Rl an rn k1 k2 k3 co gs (enumItems (p.length + 1) (q.map fun c => Value.ref c.ra)) n') { s₁ with heap := h', toks := tk } := by
  have D4 : Dis ((I + 1, oe) :: (I, oI) :: (all, listOf gs.toArray an) :: (S, instObj 157 Sd) :: (Sd, sdict w k1 k2 k3 C all (.ref hg)) :: (C, instObj 185 Cd) :: (Cd, co) :: (src, so) :: (Rl, listOf (rs.map fun c => Value.ref c.ra).toArray rn) :: (cells w (p ++ c' :: q) ++ R)) := by
    refine D.le ?_
    walk_at "m:count"
  have N4 : News h₀ L h' ([(I + 1, oe), (I, oI)] ++ ((all, listOf gs.toArray an) :: (S, instObj 157 Sd) :: (Sd, sdict w k1 k2 k3 C all (.ref hg)) :: (C, instObj 185 Cd) :: (Cd, co) :: (src, so) :: (Rl, listOf (rs.map fun c => Value.ref c.ra).toArray rn) :: (cells w (p ++ c' :: q) ++ R))) := by
    refine news_sub N ?_
    rw [cells_mid]
    simp only [List.cons_append, List.nil_append]
    walk_at "m:sub9"
  refine ⟨h', tk, m', _, rfl, F, N4, fun x hx y hy => ?_, ⟨by walk_at "m:mem9", trivial⟩, hm, ?_⟩
  · have D5 := (List.nodup_cons.mp D4)
    rcases List.mem_cons.mp hy with rfl | hy
    · exact off_mem (fun hm => D5.1 (List.mem_cons_of_mem _ hm)) x hx
    · rw [List.mem_singleton.mp hy]; exact off_mem (List.nodup_cons.mp D5.2).1 x hx
  · have a1 : ∀ {z : Cell}, (p ++ [c']) ++ q = p ++ c' :: q := by simp
    refine ⟨p ++ [c'], q, hg, by rw [List.length_append]; rfl, ?_, ?_, ?_, ?_, fun x hx => e6 x (List.mem_cons_of_mem _ hx), ?_, ?_⟩
    · rw [List.append_assoc]; show (p ++ c' :: q).map _ = _; rw [ras_same hrow, e2]
    · rw [List.append_assoc]; show ((p ++ c' :: q).map _) = _; rw [gs_same hgg, e3]
    · rw [List.append_assoc]
      show ∀ (i : Nat) x, (p ++ c' :: q)[i]? = some x → x.i = (i : Int)
      intro i x hx
      by_cases hp : i < p.length
      · rw [List.getElem?_append_left hp] at hx
        exact e4 i x (by rw [List.getElem?_append_left hp]; exact hx)
      · rw [List.getElem?_append_right (by omega)] at hx
        cases hk : i - p.length with
        | zero =>
          rw [hk] at hx
          have hx' : c' = x := by simpa using hx
          rw [← hx', hi]
          exact e4 i c (by rw [List.getElem?_append_right (by omega), hk]; rfl)
        | succ k =>
          rw [hk] at hx
          exact e4 i x (by rw [List.getElem?_append_right (by omega), hk]; exact hx)
    · intro x hx
      rcases List.mem_append.mp hx with hx | hx
      · exact e5 x hx
      · rw [List.mem_singleton.mp hx]; exact e5'
    · rw [List.append_assoc]; rfl
    · exact D4
theorem l2_fin {w : World} {h₀ h' : Heap} {L : Addr} {s₁ : Shared} {tk : Nat} {m' : Str → Option Value} {M : (Str → Option Value) → Prop} {I : Addr} {oe oI : Obj} {rs p q : List Cell} {c : Cell} {R : List (Addr × Obj)} {src S Sd all C Cd Rl : Addr} {so co : Obj} {rn an : Nat} {k1 k2 k3 : Tok} {hg : Addr} {gs : List Value}
    {f : Addr} {rst gst : Str} {rwf ran gwf gan : Value} {k1' k2' k3' k4' k5' it' gt' rt' : Tok} {fo : Obj}
    (F : Fr h₀ L h' m')
    (N : News h₀ L h' ((I + 1, oe) :: (I, oI) :: (all, listOf gs.toArray an) :: (S, instObj 157 Sd) :: (Sd, sdict w k1 k2 k3 C all (.ref hg)) :: (C, instObj 185 Cd) :: (Cd, co) :: (src, so) :: (Rl, listOf (rs.map fun c => Value.ref c.ra).toArray rn) ::
      (c.ra, listOf #[.str rst rt', rwf, ran] c.rn) :: (c.g, instObj 71 c.d) :: (c.d, dictOf
  [⟨PyData.keyHash w.params (Str.ofString "number"), .str (Str.ofString "number") k1', .int c.i it'⟩,
   ⟨PyData.keyHash w.params (Str.ofString "state"), .str (Str.ofString "state") k2', .str gst gt'⟩,
   ⟨PyData.keyHash w.params (Str.ofString "waits_for"), .str (Str.ofString "waits_for") k3', gwf⟩,
   ⟨PyData.keyHash w.params (Str.ofString "frames"), .str (Str.ofString "frames") k4', .ref f⟩,
   ⟨PyData.keyHash w.params (Str.ofString "answer"), .str (Str.ofString "answer") k5', gan⟩] 5) :: (f, fo) :: (cells w p ++ (cells w q ++ R))))
    (D : Dis ((I + 1, oe) :: (I, oI) :: (all, listOf gs.toArray an) :: (S, instObj 157 Sd) :: (Sd, sdict w k1 k2 k3 C all (.ref hg)) :: (C, instObj 185 Cd) :: (Cd, co) :: (src, so) :: (Rl, listOf (rs.map fun c => Value.ref c.ra).toArray rn) ::
      (c.ra, o0) :: (c.g, o0) :: (c.d, o0) :: (f, o0) :: (cells w p ++ (cells w q ++ R))))
    (hm : M m') (hrt : rt' = c.rt) (h1 : rst = c.rst) (h2 : rwf = c.rwf) (h3 : ran = c.ran)
    (e2 : (p ++ c :: q).map Cell.row = rs.map Cell.row) (e3 : ((p ++ c :: q).map fun c => Value.ref c.g) = gs) (e4 : ∀ (i : Nat) x, (p ++ c :: q)[i]? = some x → x.i = (i : Int))
    (e5 : ∀ c ∈ p, (c.rst = c.gst ∧ c.rwf = c.gwf ∧ c.ran = c.gan) ∧ (c.gst = Str.ofString "ended" → c.fo = listOf #[] 0)) (h4 : rst = gst) (h5 : rwf = gwf) (h6 : ran = gan) (h7 : gst = Str.ofString "ended" → fo = listOf #[] 0)
    (e6 : ∀ x ∈ c :: q, x.gst = Str.ofString "ready" ∧ x.gwf = .none ∧ x.gan = .none ∧ x.fo = listOf #[] 0) :
    UnrEndW h₀ L s₁ [(I + 1, oe), (I, oI)] (fun m' n' => SubL [(Rl, listOf (rs.map fun c => Value.ref c.ra).toArray rn)] n' ∧ M m' ∧ L2Inv w I rs R src so S Sd all C Cd Rl an rn k1 k2 k3 co gs (enumItems (p.length + 1) (q.map fun c => Value.ref c.ra)) n') { s₁ with heap := h', toks := tk } := by
  subst hrt
  exact l2_end (c := c) (c' := ⟨c.ra, c.rn, c.rt, rst, rwf, ran, c.g, c.d, f, k1', k2', k3', k4', k5', c.i, it', gst, gt', gwf, gan, fo⟩) F N (D.same rfl) hm (by simp only [Cell.row, h1, h2, h3]) rfl rfl e2 e3 e4 e5 ⟨⟨h4, h5, h6⟩, h7⟩ e6
theorem l2_finE {w : World} {h₀ h' : Heap} {L : Addr} {s₁ : Shared} {tk : Nat} {m' : Str → Option Value} {M : (Str → Option Value) → Prop} {I : Addr} {oe oI : Obj} {rs p q : List Cell} {c : Cell} {R : List (Addr × Obj)} {src S Sd all C Cd Rl : Addr} {so co : Obj} {rn an : Nat} {k1 k2 k3 : Tok} {hg : Addr} {gs : List Value}
    {f f0 : Addr} {fx : Obj} {rst gst : Str} {rwf ran gwf gan : Value} {k1' k2' k3' k4' k5' it' gt' rt' : Tok} {fo : Obj}
    (F : Fr h₀ L h' m')
    (N : News h₀ L h' ((f, fo) :: (I + 1, oe) :: (I, oI) :: (all, listOf gs.toArray an) :: (S, instObj 157 Sd) :: (Sd, sdict w k1 k2 k3 C all (.ref hg)) :: (C, instObj 185 Cd) :: (Cd, co) :: (src, so) :: (Rl, listOf (rs.map fun c => Value.ref c.ra).toArray rn) ::
      (c.ra, listOf #[.str rst rt', rwf, ran] c.rn) :: (c.g, instObj 71 c.d) :: (c.d, dictOf
  [⟨PyData.keyHash w.params (Str.ofString "number"), .str (Str.ofString "number") k1', .int c.i it'⟩,
   ⟨PyData.keyHash w.params (Str.ofString "state"), .str (Str.ofString "state") k2', .str gst gt'⟩,
   ⟨PyData.keyHash w.params (Str.ofString "waits_for"), .str (Str.ofString "waits_for") k3', gwf⟩,
   ⟨PyData.keyHash w.params (Str.ofString "frames"), .str (Str.ofString "frames") k4', .ref f⟩,
   ⟨PyData.keyHash w.params (Str.ofString "answer"), .str (Str.ofString "answer") k5', gan⟩] 5) :: (f0, fx) :: (cells w p ++ (cells w q ++ R))))
    (D : Dis ((I + 1, oe) :: (I, oI) :: (all, listOf gs.toArray an) :: (S, instObj 157 Sd) :: (Sd, sdict w k1 k2 k3 C all (.ref hg)) :: (C, instObj 185 Cd) :: (Cd, co) :: (src, so) :: (Rl, listOf (rs.map fun c => Value.ref c.ra).toArray rn) ::
      (c.ra, o0) :: (c.g, o0) :: (c.d, o0) :: (f0, o0) :: (cells w p ++ (cells w q ++ R))))
    (hlt : AllLt f ((I + 1, oe) :: (I, oI) :: (all, listOf gs.toArray an) :: (S, instObj 157 Sd) :: (Sd, sdict w k1 k2 k3 C all (.ref hg)) :: (C, instObj 185 Cd) :: (Cd, co) :: (src, so) :: (Rl, listOf (rs.map fun c => Value.ref c.ra).toArray rn) ::
      (c.ra, o0) :: (c.g, o0) :: (c.d, o0) :: (f0, o0) :: (cells w p ++ (cells w q ++ R))))
    (hm : M m') (hrt : rt' = c.rt) (h1 : rst = c.rst) (h2 : rwf = c.rwf) (h3 : ran = c.ran)
    (e2 : (p ++ c :: q).map Cell.row = rs.map Cell.row) (e3 : ((p ++ c :: q).map fun c => Value.ref c.g) = gs) (e4 : ∀ (i : Nat) x, (p ++ c :: q)[i]? = some x → x.i = (i : Int))
    (e5 : ∀ c ∈ p, (c.rst = c.gst ∧ c.rwf = c.gwf ∧ c.ran = c.gan) ∧ (c.gst = Str.ofString "ended" → c.fo = listOf #[] 0)) (h4 : rst = gst) (h5 : rwf = gwf) (h6 : ran = gan) (h7 : gst = Str.ofString "ended" → fo = listOf #[] 0)
    (e6 : ∀ x ∈ c :: q, x.gst = Str.ofString "ready" ∧ x.gwf = .none ∧ x.gan = .none ∧ x.fo = listOf #[] 0) :
    UnrEndW h₀ L s₁ [(I + 1, oe), (I, oI)] (fun m' n' => SubL [(Rl, listOf (rs.map fun c => Value.ref c.ra).toArray rn)] n' ∧ M m' ∧ L2Inv w I rs R src so S Sd all C Cd Rl an rn k1 k2 k3 co gs (enumItems (p.length + 1) (q.map fun c => Value.ref c.ra)) n') { s₁ with heap := h', toks := tk } := by
  refine l2_fin (c := c) (rt' := rt') (f := f) (k1' := k1') (k2' := k2') (k3' := k3') (k4' := k4') (k5' := k5') (it' := it') (gt' := gt') (fo := fo) F (news_sub N ?_) (dis_swap (pre := [_, _, _, _, _, _, _, _, _, _, _, _]) D hlt) hm hrt h1 h2 h3 e2 e3 e4 e5 h4 h5 h6 h7 e6
  walk_at "m:sub9"
theorem cells_count {w : World} : ∀ (cs : List Cell) (a : Nat), ((cells w cs).map (·.1)).count a = ((cells3 w cs).map (·.1)).count a + ((rowsOf cs).map (·.1)).count a
  | [], _ => rfl
  | c :: cs, a => by
    have q := cells_count (w := w) cs a
    have e1 : cells w (c :: cs) = cell4 w c ++ cells w cs := rfl
    have e2 : cells3 w (c :: cs) = cell3 w c ++ cells3 w cs := rfl
    have e3 : rowsOf (c :: cs) = (c.ra, rowObj c) :: rowsOf cs := rfl
    rw [e1, e2, e3]
    simp only [List.map_append, List.map_cons, List.map_nil, List.count_append, List.count_cons, List.count_nil]
    omega
theorem cells_mem {w : World} : ∀ (cs : List Cell), ∀ x ∈ cells w cs, x ∈ cells3 w cs ++ rowsOf cs
  | [], _, h => nomatch h
  | c :: cs, x, h => by
    have e1 : cells w (c :: cs) = cell4 w c ++ cells w cs := rfl
    have e2 : cells3 w (c :: cs) = cell3 w c ++ cells3 w cs := rfl
    have e3 : rowsOf (c :: cs) = (c.ra, rowObj c) :: rowsOf cs := rfl
    rw [e1] at h
    rw [e2, e3]
    rcases List.mem_append.mp h with h | h
    · simp only [List.mem_cons, List.not_mem_nil, or_false] at h
      simp only [List.mem_append, List.mem_cons, List.not_mem_nil, or_false]
      rcases h with h | h | h | h
      · exact .inr (.inl h)
      · exact .inl (.inl (.inl h))
      · exact .inl (.inl (.inr (.inl h)))
      · exact .inl (.inl (.inr (.inr h)))
    · rcases List.mem_append.mp (cells_mem cs x h) with h | h
      · exact List.mem_append_left _ (List.mem_append_right _ h)
      · exact List.mem_append_right _ (List.mem_cons_of_mem _ h)
/-- between the loops: the places with their rows -/
theorem l2_start {w : World} {h₀ h' : Heap} {L : Addr} {I : Addr} {oI : Obj} {rs cs : List Cell} {R P : List (Addr × Obj)} (e3 : cs.map Cell.row = rs.map Cell.row) (N : News h₀ L h' (P ++ (cells3 w cs ++ (rowsOf rs ++ R)))) (D : Dis ((I, oI) :: (P ++ (cells3 w cs ++ (rowsOf rs ++ R))))) :
    News h₀ L h' (P ++ (cells w cs ++ R)) ∧ Dis (P ++ (cells w cs ++ R)) := by
  rw [← rowsOf_row e3] at N D
  constructor
  · refine news_sub N fun x hx => ?_
    rcases List.mem_append.mp hx with hx | hx
    · exact List.mem_append_left _ hx
    · refine List.mem_append_right _ ?_
      rcases List.mem_append.mp hx with hx | hx
      · rcases List.mem_append.mp (cells_mem cs x hx) with h | h
        · exact List.mem_append_left _ h
        · exact List.mem_append_right _ (List.mem_append_left _ h)
      · exact List.mem_append_right _ (List.mem_append_right _ hx)
  · refine D.le fun a => ?_
    have q := cells_count (w := w) cs a
    simp only [List.map_append, List.map_cons, List.count_append, List.count_cons]
    omega
theorem rows_ok {cs rs : List Cell} (e : cs.map Cell.row = rs.map Cell.row) (h : ∀ c ∈ rs, RowOk c.rst c.rwf c.ran) : ∀ c ∈ cs, RowOk c.rst c.rwf c.ran := by
  intro c hc
  have hm : c.row ∈ rs.map Cell.row := e ▸ List.mem_map_of_mem hc
  obtain ⟨c', hc', e'⟩ := List.mem_map.mp hm
  have k := h c' hc'
  simp only [Cell.row, Prod.mk.injEq] at e'
  obtain ⟨_, _, _, e1, e2, e3⟩ := e'
  rw [← e1, ← e2, ← e3]; exact k
/-- a turn's ledger, the place at hand written out -/
theorem l2_open {w : World} {h₀ h' : Heap} {L : Addr} {I : Addr} {oe oI : Obj} {p q : List Cell} {c : Cell} {R P : List (Addr × Obj)} (N : News h₀ L h' ([(I + 1, oe), (I, oI)] ++ (P ++ (cells w (p ++ c :: q) ++ R)))) (D : Dis ((I + 1, o0) :: (I, o0) :: (P ++ (cells w (p ++ c :: q) ++ R))))
    (e6 : c.gst = Str.ofString "ready" ∧ c.gwf = .none ∧ c.gan = .none ∧ c.fo = listOf #[] 0) :
    News h₀ L h' ((I + 1, oe) :: (I, oI) :: (P ++ ((c.ra, listOf #[.str c.rst c.rt, c.rwf, c.ran] c.rn) :: (c.g, instObj 71 c.d) :: (c.d, dictOf
  [⟨PyData.keyHash w.params (Str.ofString "number"), .str (Str.ofString "number") c.k1, .int c.i c.it⟩,
   ⟨PyData.keyHash w.params (Str.ofString "state"), .str (Str.ofString "state") c.k2, .str (Str.ofString "ready") c.gt⟩,
   ⟨PyData.keyHash w.params (Str.ofString "waits_for"), .str (Str.ofString "waits_for") c.k3, .none⟩,
   ⟨PyData.keyHash w.params (Str.ofString "frames"), .str (Str.ofString "frames") c.k4, .ref c.f⟩,
   ⟨PyData.keyHash w.params (Str.ofString "answer"), .str (Str.ofString "answer") c.k5, .none⟩] 5) :: (c.f, listOf #[] 0) :: (cells w p ++ (cells w q ++ R))))) ∧
    Dis ((I + 1, oe) :: (I, oI) :: (P ++ ((c.ra, listOf #[.str c.rst c.rt, c.rwf, c.ran] c.rn) :: (c.g, instObj 71 c.d) :: (c.d, dictOf
  [⟨PyData.keyHash w.params (Str.ofString "number"), .str (Str.ofString "number") c.k1, .int c.i c.it⟩,
   ⟨PyData.keyHash w.params (Str.ofString "state"), .str (Str.ofString "state") c.k2, .str (Str.ofString "ready") c.gt⟩,
   ⟨PyData.keyHash w.params (Str.ofString "waits_for"), .str (Str.ofString "waits_for") c.k3, .none⟩,
   ⟨PyData.keyHash w.params (Str.ofString "frames"), .str (Str.ofString "frames") c.k4, .ref c.f⟩,
   ⟨PyData.keyHash w.params (Str.ofString "answer"), .str (Str.ofString "answer") c.k5, .none⟩] 5) :: (c.f, listOf #[] 0) :: (cells w p ++ (cells w q ++ R))))) := by
  obtain ⟨ra, rn, rt, rst, rwf, ran, g, d, f, k1, k2, k3, k4, k5, i, it, gst, gt, gwf, gan, fo⟩ := c
  obtain ⟨rfl, rfl, rfl, rfl⟩ := e6
  constructor
  · refine news_sub N ?_
    rw [cells_mid]
    simp only [List.cons_append, List.nil_append]
    refine List.forall_mem_cons.mpr ⟨by walk_at "m:mem9", List.forall_mem_cons.mpr ⟨by walk_at "m:mem9", List.forall_mem_append.mpr ⟨fun x hx => List.mem_cons_of_mem _ (List.mem_cons_of_mem _ (List.mem_append_left _ hx)), ?_⟩⟩⟩
    refine List.forall_mem_cons.mpr ⟨by walk_at "m:mem9", List.forall_mem_cons.mpr ⟨by walk_at "m:mem9", List.forall_mem_cons.mpr ⟨by walk_at "m:mem9", List.forall_mem_cons.mpr ⟨by walk_at "m:mem9", ?_⟩⟩⟩⟩
    walk_at "m:sub9"
  · refine D.le fun a => ?_
    rw [cells_mid]
    simp only [List.map_append, List.map_cons, List.map_nil, List.count_append, List.count_cons, List.count_nil]
    omega
theorem made_end {w : World} {h₀ h' : Heap} {L : Addr} {rs p : List Cell} {R : List (Addr × Obj)} {x y src S Sd all C Cd Rl : Addr} {o1 o2 o3 so so' : Obj} {rn an : Nat} {k1 k2 k3 j1 j2 tt : Tok} {hv dv : Value} {tk : Int} {gs : List Value}
    (e2 : p.map Cell.row = rs.map Cell.row)
    (N : News h₀ L h' ((all, listOf (p.map fun c => Value.ref c.g).toArray an) :: (S, instObj 157 Sd) :: (Sd, sdict w k1 k2 k3 C all hv) :: (C, instObj 185 Cd) :: (Cd, cdict w j1 j2 dv tk tt) :: (src, so) :: (Rl, listOf (rs.map fun c => Value.ref c.ra).toArray rn) :: (cells w p ++ R)))
    (D : Dis ((x, o1) :: (y, o2) :: (all, listOf gs.toArray an) :: (S, instObj 157 Sd) :: (Sd, o3) :: (C, instObj 185 Cd) :: (Cd, cdict w j1 j2 dv tk tt) :: (src, so') :: (Rl, listOf (rs.map fun c => Value.ref c.ra).toArray rn) :: (cells w p ++ R))) :
    News h₀ L h' ((src, so) :: (core w S Sd all C Cd Rl an rn k1 k2 k3 j1 j2 tt hv dv tk p ++ (cells w p ++ R))) ∧ Dis ((src, so) :: (core w S Sd all C Cd Rl an rn k1 k2 k3 j1 j2 tt hv dv tk p ++ (cells w p ++ R))) := by
  rw [← ras_row e2] at N D
  constructor
  · refine news_sub N ?_
    walk_at "m:sub9"
  · refine D.le ?_
    walk_at "m:count"
end Mine

/- Of -/
theorem Mine.word22 : True := by
  k_with_none
  k_with "m:sub#" => first | ((k_here; (with_reducible show wpAny _ _ (subscriptTail _ _ (Value.ref _) (Value.int _ _)) _ _ _); k_dflt (refine' Mine.m_sub ?Nw ?mw ?aw ?bw ?xw ?_; (case Nw => k_asm); (case mw => k_mem); (case aw => decide); (case bw => decide); (case xw => rfl); k_whole))) | fail "no"
  k_with "subscriptTail Name Constant ref int#" => first | (walk_at "m:sub") | fail "no"
  k_with "m:compT#" => first | ((k_here; lct_look; k_dflt (refine LCt.ListComp_T (F₀ := by k_asm) (by with_unfolding_all rfl) (by decide) (by rfl) (by decide) (by rfl) ?_))) | fail "no"
  k_with "m:comp#" => first | ((k_here; k_dflt (refine LCg.ListComp_U (F₀ := by k_asm) (by with_unfolding_all rfl) (by decide) (by rfl) (by decide) (by rfl) ?_))) | fail "no"
  k_with "eval ListComp Name cons#" => first | (first | walk_at "m:compT" | walk_at "m:comp") | fail "no"
  k_with "eval ListComp Tuple cons#" => first | (first | walk_at "m:compT" | walk_at "m:comp") | fail "no"
  k_with "eval ListComp List cons#" => first | (first | walk_at "m:compT" | walk_at "m:comp") | fail "no"
  k_with "eval ListComp Attribute cons#" => first | (first | walk_at "m:compT" | walk_at "m:comp") | fail "no"
  k_with "CompSrcT#" => first | ((k_here; k_dflt (refine LCt.CompSrcT.ledger (by rfl) (by k_asm) (by k_asm) (by k_mem) (by first | size_fits | (simp only [List.size_toArray, List.length_map]; rw [sizeLine_eq]; omega)) ?_); intro _)) | fail "no"
  k_with "CompSrc#" => first | ((k_here; k_dflt (refine LCg.CompSrc.ledger (by rfl) (by k_asm) (by k_asm) (by k_mem) (by first | size_fits | (simp only [List.size_toArray, List.length_map]; rw [sizeLine_eq]; omega)) ?_); intro _)) | fail "no"
  k_with "m:in#" => first | (first | assumption | ((with_reducible refine List.mem_cons_of_mem _ ?_); walk_at "m:in") | ((with_reducible refine List.mem_append_right _ ?_); walk_at "m:in") | ((with_reducible refine List.mem_append_left _ ?_); walk_at "m:in")) | fail "no"
  k_with "m:tail#" => first | ((intro _ _; walk_at "m:in")) | fail "no"
  k_with "m:src#" => first | (exact Or.inr ⟨_, by k_mem, rfl, _, rfl⟩) | fail "no"
  k_with "m:units#" => first | (first | ktr_units | (have hcL9 := cLine_is; (simp only [units_in1, units_deeper, Around.mark_units] at *); (try dsimp only [ktrTop] at *); omega)) | fail "no"
  k_with "m:eqnil#" => first | ((k_here; (with_reducible show wpAny _ _ (compareOp CmpOp.Eq (Value.ref _) (Value.ref _)) _ _ _); k_dflt (refine' Mine.m_eq_nil ?Nw ?aw ?bw ?uw ?_; (case Nw => k_asm); (case bw => k_mem); (case aw => k_mem); (case uw => walk_at "m:units"); k_whole))) | fail "no"
  k_with "m:nenil#" => first | ((k_here; (with_reducible show wpAny _ _ (compareOp CmpOp.NotEq (Value.ref _) (Value.ref _)) _ _ _); k_dflt (refine' Mine.m_ne_nil ?Nw ?aw ?bw ?uw ?_; (case Nw => k_asm); (case bw => k_mem); (case aw => k_mem); (case uw => walk_at "m:units"); k_whole))) | fail "no"
  k_with "compareOp Eq ref ref#" => first | (walk_at "m:eqnil") | fail "no"
  k_with "m:nesame#" => first | ((k_here; (with_reducible show wpAny _ _ (compareOp CmpOp.NotEq (Value.ref _) (Value.ref _)) _ _ _); k_dflt (refine' Mine.m_ne_same ?Nw ?aw ?bw ?uw ?_ ?_; (case Nw => k_asm); (case aw => k_mem); (case bw => k_mem); (case uw => walk_at "m:units")))) | fail "no"
  k_with "compareOp NotEq ref ref#" => first | (first | walk_at "m:nenil" | walk_at "m:nesame") | fail "no"
  k_with "m:cend#" => first | (refine LCg.CompEnd.intro (by k_asm) (by k_asm) _ (by walk_at "m:tail") (by assumption) (by walk_at "m:src") ⟨rfl, ?_⟩) | fail "no"
  k_with "m:back#" => first | ((rename News _ _ _ _ => kN9; exact fun p9 hp9 => kN9 p9 (by walk_at "m:in"))) | fail "no"
  k_with "m:perm#" => first | ((intro _ hp9w; simp only [List.mem_cons, List.mem_append, List.cons_append, List.append_assoc, List.nil_append, List.not_mem_nil, or_false, false_or] at hp9w ⊢; (repeat' ((with_reducible refine Or.elim hp9w (fun hq9 => ?_) (fun hq9 => ?_)); clear hp9w; rename_i hp9w)) <;> simp only [hp9w, true_or, or_true])) | fail "no"
  k_with "m:sees#" => first | (first | assumption | exact Mine.Sees.mono (by assumption) (by walk_at "m:tail")) | fail "no"
  k_with "m:rows#" => first | (first | assumption | exact Mine.Rows.mono (by assumption) (by walk_at "m:tail")) | fail "no"
  k_with "m:off#" => first | (first | assumption | exact Mine.off_lt (by assumption) | (k_all)) | fail "no"
  k_with "m:small#" => first | (first | assumption | decide | (simp only [List.size_toArray, List.length_map, List.length_cons, List.length_nil]; omega) | (simp only [List.size_toArray, List.length_map, List.length_cons, List.length_nil] at *; omega)) | fail "no"
  k_with "call builtin:len cons nil#" => first | ((k_here; (with_reducible show wpAny _ _ (call (Value.builtin _) [Value.ref _]) _ _ _); k_dflt (refine' Mine.m_len ?Nw ?mw ?zw ?_; (case Nw => k_asm); (case mw => k_mem); (case zw => walk_at "m:small"); k_whole); intro _ _)) | fail "no"
  k_with "m:subS#" => first | ((k_here; (with_reducible show wpAny _ _ (subscriptTail _ _ (Value.ref _) (Value.int _ _)) _ _ _); k_dflt (refine' Mine.m_subS ?Nw ?mw ?aw ?bw ?zw ?_; (case Nw => k_asm); (case mw => k_mem); (case aw => first | assumption | omega); (case bw => first | assumption | omega); (case zw => walk_at "m:small"); k_whole); intro _ _)) | fail "no"
  k_with "subscriptTail Name Call ref int#" => first | (walk_at "m:subS") | fail "no"
  k_with "m:size#" => first | (first | assumption | decide | (simp only [List.size_toArray, List.length_cons, List.length_nil]; omega) | (simp; done)) | fail "no"
  k_with "m:split#" => first | (repeat (rename _ ∧ _ => hx9; have hy9 := And.left hx9; have hz9 := And.right hx9; clear hx9)) | fail "no"
  k_with "m:dis#" => first | ((simp only [List.map_cons, List.nodup_cons, List.mem_cons, not_or, List.cons_append, List.nil_append] at *; walk_at "m:split")) | fail "no"
  k_with "m:count#" => first | ((intro _; (try simp only [Mine.cells3_snoc, Mine.cells_mid, Mine.rowsOf_mid]); (try simp only [List.map_append, List.map_cons, List.map_nil, List.count_append, List.count_cons, List.count_nil, List.nil_append, List.cons_append]); omega)) | fail "no"
  k_with "m:dis9#" => first | (first | assumption | exact Mine.Dis.le (by assumption) (by walk_at "m:count")) | fail "no"
  k_with "m:lt#" => first | (first | assumption | exact True.intro | ((with_reducible refine Mine.allLt_le ?_ ?_) ; (first | (omega) | skip); assumption) | (refine And.intro ?_ ?_; (try dsimp only); omega; walk_at "m:lt") | (refine Mine.allLt_le (Nat.le_of_lt ?_) ?_; rotate_left; assumption; omega)) | fail "no"
  k_with "m:mem9#" => first | (first | exact List.mem_cons_self | (refine List.mem_cons_of_mem _ ?_; walk_at "m:mem9") | (refine List.mem_append_left _ ?_; walk_at "m:mem9") | (refine List.mem_append_right _ ?_; walk_at "m:mem9")) | fail "no"
  k_with "m:in9#" => first | (first | assumption | (refine List.mem_cons_of_mem _ ?_; walk_at "m:in9") | (refine List.mem_append_left _ ?_; walk_at "m:in9") | (refine List.mem_append_right _ ?_; walk_at "m:in9")) | fail "no"
  k_with "m:sub9#" => first | (first | (refine List.forall_mem_cons.mpr ⟨?_, ?_⟩; walk_at "m:mem9"; walk_at "m:sub9") | (refine List.forall_mem_append.mpr ⟨?_, ?_⟩; walk_at "m:sub9"; walk_at "m:sub9") | (intro _ hp9w; exact absurd hp9w List.not_mem_nil) | (intro _ hp9w; walk_at "m:in9")) | fail "no"
  k_with "compareOp IsNot none#" => first | ((k_here; k_dflt (refine Mine.m_isnot (by assumption) (by assumption) ?_))) | fail "no"
  k_with "m:subA#" => first | ((k_here; (with_reducible show wpAny _ _ (subscriptTail _ _ (Value.ref _) (Value.int _ _)) _ _ _); k_dflt (refine' Mine.m_sub ?Nw ?mw ?aw ?bw ?xw ?_; (case Nw => k_asm); (case mw => k_mem); (case xw => assumption); (case aw => first | assumption | omega); (case bw => first | decide | omega); k_whole))) | fail "no"
  k_with "subscriptTail Name Name ref int#" => first | (first | walk_at "m:subA" | walk_at "m:subS") | fail "no"
  k_with "subscriptTail Attribute Name Name ref int#" => first | (first | walk_at "m:subA" | walk_at "m:subS") | fail "no"
  k_with "m:enterD#" => first | ((refine' code_def ?k1w ?k2w ?k3w ?k4w ?k5w ?kAw ?kFw ?kKw ?k6w ?k7w ?k8w ?k9w ?kBw ?_ ?c2w ?c3w ?c4w ?c5w; (case kAw => exact rfl); (case kFw => exact rfl); (case kKw => first | exact rfl | assumption); (case k1w => k_asm); (case k2w => k_asm); (case k3w => k_asm); (case k4w => k_asm); (case k5w => k_asm); (case k6w => k_is); (case k7w => k_is); (case k8w => k_room); (case k9w => exact Mine.wake_binds (Frag.In.keeps (by k_asm) (Fr.keep (by k_asm))) (by k_is) rfl); (case c5w => decide); (case kBw => exact locs rfl); (case c2w => exact rfl); (case c3w => exact rfl); (case c4w => exact rfl); k_whole; intro _ _ _ _ _ _ B'w _ _; (try dsimp only); (try k_lift B'w); (try k_fold))) | fail "no"
  k_with "call ref cons nil#" => first | (((try dsimp only [List.nil_append, List.cons_append]); (with_reducible show wpAny _ _ (call (Value.ref 123) [Value.ref _, Value.int _ _, _]) _ _ _); (refine wpAny_call ?_); k_dflt (walk_at "m:enterD"))) | fail "no"
  trivial

namespace Mine
theorem of_spec {pg : Program} {ls : List Str} {w : World} {mean : ExcName → Option Value} {mg mb : Str → Option Value} {A₀ : Around} {dp un : Nat} {gd : Option (List Code)} {base h₀ : Heap} {outer : List Env} {L : Addr} {m : Str → Option Value} {cn : Str} {cs : Scope} {ca : Addr} {ccd : Value} {cl : List (Str × Addr)} {s : Shared} {Q E : Value → Shared → Prop} {S Sd all : Addr} {C : Addr} {here : Value} {k1 k2 k3 : Tok} {its : Array Value} {an : Nat} {j : Int} {jt : Tok} {v : Value} {news : List (Addr × Obj)}
    (B : Below A₀ base outer h₀) (F : Fr h₀ L s.heap m) (X : Frag.In (hd.heap_39 w.params) h₀) (N : News h₀ L s.heap (news)) (T : Top pg ls mean mg mb h₀) (hk : cs.kind = .function) (hdp : dp + 10 < recursionLimit) (hun : un + 40 * 10 < cLine)
    (hS : (S, instObj 157 Sd) ∈ news) (hSd : (Sd, sdict w k1 k2 k3 C all here) ∈ news) (hall : (all, listOf its an) ∈ news) (hz : its.size < 1000) (h0 : 0 ≤ j) (hj : its.toList[j.toNat]? = some v)
    (h : ∀ h' tk', Fr h₀ L h' m → News h₀ L h' news → Q v { s with heap := h', toks := tk' }) :
    wpAny (model PySem.Challenge.rw_pf0070_01.row.prog w) (ktrTop dp un gd cn cs L ca ccd cl outer) (call (.ref 103) [.ref S, .int j jt]) Q E s := by
  w_top off
  have hj2 : j.toNat < its.toList.length := (List.getElem?_eq_some_iff.mp hj).1
  have hj1 : j < (its.size : Int) := by rw [Array.length_toList] at hj2; omega
  refine wpAny_call ?_
  k_dflt ktr_enter
  k_steps
  exact h _ _ (by k_asm) (by walk_at "m:back")
theorem of_spec2 {pg : Program} {ls : List Str} {w : World} {mean : ExcName → Option Value} {mg mb : Str → Option Value} {A₀ : Around} {dp un : Nat} {gd : Option (List Code)} {base h₀ : Heap} {outer : List Env} {L : Addr} {m : Str → Option Value} {cn : Str} {cs : Scope} {ca : Addr} {ccd : Value} {cl : List (Str × Addr)} {s : Shared} {Q E : Value → Shared → Prop} {S Sd all : Addr} {C : Addr} {here : Value} {k1 k2 k3 : Tok} {cs' : List Cell} {an : Nat} {j : Int} {jt : Tok} {news : List (Addr × Obj)}
    (B : Below A₀ base outer h₀) (F : Fr h₀ L s.heap m) (X : Frag.In (hd.heap_39 w.params) h₀) (N : News h₀ L s.heap (news)) (T : Top pg ls mean mg mb h₀) (hk : cs.kind = .function) (hdp : dp + 10 < recursionLimit) (hun : un + 40 * 10 < cLine)
    (hS : (S, instObj 157 Sd) ∈ news) (hSd : (Sd, sdict w k1 k2 k3 C all here) ∈ news) (hall : (all, listOf (cs'.map fun c => Value.ref c.g).toArray an) ∈ news) (hz : (cs'.map fun c => Value.ref c.g).toArray.size < 1000) (h0 : 0 ≤ j) (hj : j < (cs'.length : Int))
    (h : ∀ c h' tk', cs'[j.toNat]? = some c → Fr h₀ L h' m → News h₀ L h' news → Q (.ref c.g) { s with heap := h', toks := tk' }) :
    wpAny (model PySem.Challenge.rw_pf0070_01.row.prog w) (ktrTop dp un gd cn cs L ca ccd cl outer) (call (.ref 103) [.ref S, .int j jt]) Q E s := by
  have hj2 : j.toNat < cs'.length := by omega
  have e := List.getElem?_eq_getElem hj2
  exact of_spec (v := .ref cs'[j.toNat].g) B F X N T hk hdp hun hS hSd hall hz h0 (by simp [e]) fun h' tk' F' N' => h _ h' tk' e F' N'
end Mine

/- Ob -/

theorem Mine.word23 : True := by
  k_with "call ref nil#" => first | (((try dsimp only [List.nil_append, List.cons_append]); (with_reducible show wpAny _ _ (call (Value.ref 103) [Value.ref _, Value.int _ _]) _ _ _); k_dflt (refine' Mine.of_spec ?Bw ?Fw ?Xw ?Nw ?Tw ?kw ?dw ?uw ?m1w ?m2w ?m3w ?zw ?j0w ?j1w ?_; (case Bw => k_asm); (case Fw => k_asm); (case Xw => k_asm); (case Nw => k_asm); (case Tw => k_asm); (case kw => first | exact rfl | assumption); (case dw => ktr_room); (case uw => ktr_units); (case m1w => k_mem); (case m2w => k_mem); (case m3w => k_mem); (case zw => assumption); (case j0w => assumption); (case j1w => assumption)); intro _ _ _ _)) | fail "no"
  k_with "call ref cons nil#" => first | (((try dsimp only [List.nil_append, List.cons_append]); (with_reducible show wpAny _ _ (call (Value.ref 103) [Value.ref _, Value.int _ _]) _ _ _); k_dflt (refine' Mine.of_spec ?Bw ?Fw ?Xw ?Nw ?Tw ?kw ?dw ?uw ?m1w ?m2w ?m3w ?zw ?j0w ?j1w ?_; (case Bw => k_asm); (case Fw => k_asm); (case Xw => k_asm); (case Nw => k_asm); (case Tw => k_asm); (case kw => first | exact rfl | assumption); (case dw => ktr_room); (case uw => ktr_units); (case m1w => k_mem); (case m2w => k_mem); (case m3w => k_mem); (case zw => assumption); (case j0w => assumption); (case j1w => assumption)); intro _ _ _ _)) | fail "no"
  trivial

namespace Mine
/-- stops the walk -/
def Hold (p : Prop) : Prop := p
/-- bids the walk stop at a place -/
def Mark (_ : Nat) : Prop := True
theorem Hold.out {p : Prop} (h : Hold p) : p := h
theorem hold_if {p : Prop} (n : Nat) (_ : Mark n) (h : Hold p) : p := h
theorem wakeI_spec {pg : Program} {ls : List Str} {w : World} {mean : ExcName → Option Value} {mg mb : Str → Option Value} {A₀ : Around} {dp un : Nat} {gd : Option (List Code)} {base h₀ : Heap} {outer : List Env} {L : Addr} {m : Str → Option Value} {cn : Str} {cs : Scope} {ca : Addr} {ccd : Value} {cl : List (Str × Addr)} {s : Shared} {Q E : Value → Shared → Prop} {S Sd all : Addr} {C : Addr} {here : Value} {k1 k2 k3 : Tok} {its : Array Value} {an : Nat} {c : Cell} {j : Int} {jt : Tok} {v : Value} {R : List (Addr × Obj)}
    (B : Below A₀ base outer h₀) (F : Fr h₀ L s.heap m) (X : Frag.In (hd.heap_39 w.params) h₀) (N : News h₀ L s.heap ((c.d, gdict w c) :: R)) (T : Top pg ls mean mg mb h₀) (hk : cs.kind = .function) (hdp : dp + 20 < recursionLimit) (hun : un + 40 * 20 < cLine)
    (off : ∀ p ∈ R, p.1 ≠ c.d) (hS : (S, instObj 157 Sd) ∈ R) (hSd : (Sd, sdict w k1 k2 k3 C all here) ∈ R) (hall : (all, listOf its an) ∈ R) (hg : (c.g, instObj 71 c.d) ∈ R) (hz9 : its.size < 1000) (hj0 : 0 ≤ j) (hj1 : its.toList[j.toNat]? = some (.ref c.g)) (hst : (c.gst == Str.ofString "blocked") = true)
    (hQ : ∀ h' tk', Fr h₀ L h' m → News h₀ L h' ((c.d, gdict w { c with gst := Str.ofString "ready", gt := 249, gwf := .none, gan := v }) :: R) → Q .none { s with heap := h', toks := tk' }) :
    wpAny (model PySem.Challenge.rw_pf0070_01.row.prog w) (ktrTop dp un gd cn cs L ca ccd cl outer) (call (.ref 123) [.ref S, .int j jt, v]) Q E s := by
  w_top off
  have hst' : (c.gst != Str.ofString "blocked") = false := by rw [bne, hst]; rfl
  refine wpAny_call ?_
  k_dflt (walk_at "m:enterD")
  k_steps
  exact hQ _ _ (by k_asm) (by k_asm)
def osz (o : Obj) : Nat := match o.data with | .dict es _ => es.size | .seq _ _ => 100 | _ => 200
theorem ne_gd {w : World} {c : Cell} {pre post : List (Addr × Obj)} (h1 : ∀ p ∈ pre, p.1 ≠ c.d) (h2 : ∀ p ∈ post, p.1 ≠ c.d) {a : Addr} {o : Obj} (hm : (a, o) ∈ pre ++ (c.d, gdict w c) :: post) (hn : osz o ≠ 5) : (a, o) ∈ pre ++ post := mem_off hm fun e => by
  subst e
  rcases List.mem_append.mp hm with hm | hm
  · exact h1 _ hm rfl
  · rcases List.mem_cons.mp hm with hm | hm
    · exact hn (congrArg (fun p => osz p.2) hm)
    · exact h2 _ hm rfl
theorem wakeIU {pg : Program} {ls : List Str} {w : World} {mean : ExcName → Option Value} {mg mb : Str → Option Value} {A₀ : Around} {dp un : Nat} {gd : Option (List Code)} {base h₀ : Heap} {outer : List Env} {L : Addr} {m : Str → Option Value} {cn : Str} {cs : Scope} {ca : Addr} {ccd : Value} {cl : List (Str × Addr)} {s : Shared} {Q E : Value → Shared → Prop} {S Sd all : Addr} {C : Addr} {here : Value} {k1 k2 k3 : Tok} {its : Array Value} {an : Nat} {c : Cell} {j : Int} {jt : Tok} {v : Value} {news : List (Addr × Obj)} {g : Obj → List (Addr × Obj)}
    (B : Below A₀ base outer h₀) (F : Fr h₀ L s.heap m) (X : Frag.In (hd.heap_39 w.params) h₀) (N : News h₀ L s.heap (news)) (T : Top pg ls mean mg mb h₀) (hk : cs.kind = .function) (hdp : dp + 20 < recursionLimit) (hun : un + 40 * 20 < cLine)
    (U : UpdF c.d (gdict w c) news g) (hS : (S, instObj 157 Sd) ∈ news) (hSd : (Sd, sdict w k1 k2 k3 C all here) ∈ news) (hall : (all, listOf its an) ∈ news) (hg : (c.g, instObj 71 c.d) ∈ news) (hz9 : its.size < 1000) (hj0 : 0 ≤ j) (hj1 : its.toList[j.toNat]? = some (.ref c.g)) (hst : (c.gst == Str.ofString "blocked") = true)
    (hQ : ∀ h' tk', Fr h₀ L h' m → News h₀ L h' (g (gdict w { c with gst := Str.ofString "ready", gt := 249, gwf := .none, gan := v })) → Q .none { s with heap := h', toks := tk' }) :
    wpAny (model PySem.Challenge.rw_pf0070_01.row.prog w) (ktrTop dp un gd cn cs L ca ccd cl outer) (call (.ref 123) [.ref S, .int j jt, v]) Q E s := by
  obtain ⟨pre, post, rfl, hgg, h1, h2⟩ := U.split
  exact wakeI_spec B F X (news_front N) T hk hdp hun (off_both h1 h2) (ne_gd h1 h2 hS (show (200 : Nat) ≠ 5 by decide)) (ne_gd h1 h2 hSd (show (3 : Nat) ≠ 5 by decide)) (ne_gd h1 h2 hall (show (100 : Nat) ≠ 5 by decide)) (ne_gd h1 h2 hg (show (200 : Nat) ≠ 5 by decide)) hz9 hj0 hj1 hst fun h' tk' F' N' => hQ h' tk' F' (hgg _ ▸ news_back N')
theorem wakeU {pg : Program} {ls : List Str} {w : World} {mean : ExcName → Option Value} {mg mb : Str → Option Value} {A₀ : Around} {dp un : Nat} {gd : Option (List Code)} {base h₀ : Heap} {outer : List Env} {L : Addr} {m : Str → Option Value} {cn : Str} {cs : Scope} {ca : Addr} {ccd : Value} {cl : List (Str × Addr)} {s : Shared} {Q E : Value → Shared → Prop} {S Sd all : Addr} {C : Addr} {here : Value} {k1 k2 k3 : Tok} {cs' : List Cell} {an : Nat} {c : Cell} {j : Int} {jt : Tok} {v : Value} {news : List (Addr × Obj)} {g : Obj → List (Addr × Obj)}
    (B : Below A₀ base outer h₀) (F : Fr h₀ L s.heap m) (X : Frag.In (hd.heap_39 w.params) h₀) (N : News h₀ L s.heap (news)) (T : Top pg ls mean mg mb h₀) (hk : cs.kind = .function) (hdp : dp + 20 < recursionLimit) (hun : un + 40 * 20 < cLine)
    (U : UpdF c.d (gdict w c) news g) (D : Dis news) (hS : (S, instObj 157 Sd) ∈ news) (hSd : (Sd, sdict w k1 k2 k3 C all here) ∈ news) (hall : (all, listOf (cs'.map fun c => Value.ref c.g).toArray an) ∈ news) (hg : (c.g, instObj 71 c.d) ∈ news) (hlen : cs'.length ≤ 5) (hj0 : 0 ≤ j) (hc : cs'[j.toNat]? = some c) (hst : (c.gst == Str.ofString "blocked") = true)
    (hQ : ∀ h' tk', Fr h₀ L h' m → News h₀ L h' (g (gdict w { c with gst := Str.ofString "ready", gt := 249, gwf := .none, gan := v })) → Q .none { s with heap := h', toks := tk' }) :
    wpAny (model PySem.Challenge.rw_pf0070_01.row.prog w) (ktrTop dp un gd cn cs L ca ccd cl outer) (call (.ref 123) [.ref S, .int j jt, v]) Q E s :=
  wakeIU B F X N T hk hdp hun U hS hSd hall hg (by simp; omega) hj0 (by simp [hc]) hst hQ
theorem block_spec {pg : Program} {ls : List Str} {w : World} {mean : ExcName → Option Value} {mg mb : Str → Option Value} {A₀ : Around} {dp un : Nat} {gd : Option (List Code)} {base h₀ : Heap} {outer : List Env} {L : Addr} {m : Str → Option Value} {cn : Str} {cs : Scope} {ca : Addr} {ccd : Value} {cl : List (Str × Addr)} {s : Shared} {Q E : Value → Shared → Prop} {S Sd all : Addr} {C : Addr} {k1 k2 k3 : Tok} {c : Cell} {v : Value} {R : List (Addr × Obj)}
    (B : Below A₀ base outer h₀) (F : Fr h₀ L s.heap m) (X : Frag.In (hd.heap_39 w.params) h₀) (N : News h₀ L s.heap ((c.d, gdict w c) :: R)) (T : Top pg ls mean mg mb h₀) (hk : cs.kind = .function) (hdp : dp + 20 < recursionLimit) (hun : un + 40 * 20 < cLine)
    (off : ∀ p ∈ R, p.1 ≠ c.d) (hS : (S, instObj 157 Sd) ∈ R) (hSd : (Sd, sdict w k1 k2 k3 C all (.ref c.g)) ∈ R) (hg : (c.g, instObj 71 c.d) ∈ R) (hst : (c.gst == Str.ofString "ready") = true)
    (hQ : ∀ gt' h' tk', Fr h₀ L h' m → News h₀ L h' ((c.d, gdict w { c with gst := Str.ofString "blocked", gt := gt', gwf := v }) :: R) → Q .none { s with heap := h', toks := tk' }) :
    wpAny (model PySem.Challenge.rw_pf0070_01.row.prog w) (ktrTop dp un gd cn cs L ca ccd cl outer) (call (.ref 115) [.ref S, v]) Q E s := by
  w_top off
  have hst' : (c.gst != Str.ofString "ready") = false := by rw [bne, hst]; rfl
  refine wpAny_call ?_
  k_dflt ktr_enter
  k_steps
  exact hQ _ _ _ (by k_asm) (by k_asm)
theorem blockU {pg : Program} {ls : List Str} {w : World} {mean : ExcName → Option Value} {mg mb : Str → Option Value} {A₀ : Around} {dp un : Nat} {gd : Option (List Code)} {base h₀ : Heap} {outer : List Env} {L : Addr} {m : Str → Option Value} {cn : Str} {cs : Scope} {ca : Addr} {ccd : Value} {cl : List (Str × Addr)} {s : Shared} {Q E : Value → Shared → Prop} {S Sd all : Addr} {C : Addr} {k1 k2 k3 : Tok} {c : Cell} {v : Value} {news : List (Addr × Obj)} {g : Obj → List (Addr × Obj)}
    (B : Below A₀ base outer h₀) (F : Fr h₀ L s.heap m) (X : Frag.In (hd.heap_39 w.params) h₀) (N : News h₀ L s.heap (news)) (T : Top pg ls mean mg mb h₀) (hk : cs.kind = .function) (hdp : dp + 20 < recursionLimit) (hun : un + 40 * 20 < cLine)
    (U : UpdF c.d (gdict w c) news g) (hS : (S, instObj 157 Sd) ∈ news) (hSd : (Sd, sdict w k1 k2 k3 C all (.ref c.g)) ∈ news) (hg : (c.g, instObj 71 c.d) ∈ news) (hst : (c.gst == Str.ofString "ready") = true)
    (hQ : ∀ gt' h' tk', Fr h₀ L h' m → News h₀ L h' (g (gdict w { c with gst := Str.ofString "blocked", gt := gt', gwf := v })) → Q .none { s with heap := h', toks := tk' }) :
    wpAny (model PySem.Challenge.rw_pf0070_01.row.prog w) (ktrTop dp un gd cn cs L ca ccd cl outer) (call (.ref 115) [.ref S, v]) Q E s := by
  obtain ⟨pre, post, rfl, hgg, h1, h2⟩ := U.split
  exact block_spec B F X (news_front N) T hk hdp hun (off_both h1 h2) (ne_gd h1 h2 hS (show (200 : Nat) ≠ 5 by decide)) (ne_gd h1 h2 hSd (show (3 : Nat) ≠ 5 by decide)) (ne_gd h1 h2 hg (show (200 : Nat) ≠ 5 by decide)) hst fun gt' h' tk' F' N' => hQ gt' h' tk' F' (hgg _ ▸ news_back N')
/-- a goroutine's dict has turned, all else stands -/
def GdP (w : World) (a1 a2 a3 a4 a5 a6 a7 a8 a9 b1 b2 : Addr × Obj) (c : Cell) (T : List (Addr × Obj)) (st : Str) (wf an : Value) (f : Flow) (nw : List (Addr × Obj)) : Prop :=
  f = .next ∧ ∃ gt', nw = a1 :: a2 :: a3 :: a4 :: a5 :: a6 :: a7 :: a8 :: a9 :: b1 :: b2 :: (c.d, gdict w { c with gst := st, gt := gt', gwf := wf, gan := an }) :: T
/-- a value of a kind is there, the ledger of a kind -/
def CutN {α : Type} (P : α → List (Addr × Obj) → Prop) (g : Heap) (L : Addr) (m : Str → Option Value) (s : Shared) (v : α) (s' : Shared) : Prop := ∃ h' tk' nw, P v nw ∧ s' = { s with heap := h', toks := tk' } ∧ Fr g L h' m ∧ News g L h' nw
theorem CutN.mk {α : Type} {P : α → List (Addr × Obj) → Prop} {g h' : Heap} {L : Addr} {m : Str → Option Value} {nw : List (Addr × Obj)} {s : Shared} {v : α} {tk' : Nat} (F : Fr g L h' m) (N : News g L h' nw) (e : P v nw) : CutN P g L m s v { s with heap := h', toks := tk' } := ⟨h', tk', nw, e, rfl, F, N⟩
theorem cut_news {α : Type} {M : Model} {A : Around} {E : Value → Shared → Prop} {s : Shared} {t : Sem α} {Q : α → Shared → Prop} {g h : Heap} {L : Addr} {m : Str → Option Value} (P : α → List (Addr × Obj) → Prop) (_F : Fr g L h m)
    (h1 : wpAny M A t (CutN P g L m s) E s)
    (h2 : ∀ v h' tk' nw, P v nw → Fr g L h' m → News g L h' nw → Q v { s with heap := h', toks := tk' }) : wpAny M A t Q E s :=
  wpAny_mono h1 (fun v s' ⟨h', tk', nw, e1, e2, F', N'⟩ => by subst e2; exact h2 v h' tk' nw e1 F' N') fun _ _ x => x
theorem cut_gd {M : Model} {A : Around} {E : Value → Shared → Prop} {s : Shared} {t : Sem Flow} {Q : Flow → Shared → Prop} {g h : Heap} {L : Addr} {m : Str → Option Value} {w : World} {a1 a2 a3 a4 a5 a6 a7 a8 a9 b1 b2 : Addr × Obj} {c : Cell} {T : List (Addr × Obj)} (st : Str) (wf an : Value)
    (F : Fr g L h m) (_N : News g L h (a1 :: a2 :: a3 :: a4 :: a5 :: a6 :: a7 :: a8 :: a9 :: b1 :: b2 :: (c.d, gdict w c) :: T))
    (h1 : wpAny M A t (CutN (GdP w a1 a2 a3 a4 a5 a6 a7 a8 a9 b1 b2 c T st wf an) g L m s) E s)
    (h2 : ∀ h' tk' gt', Fr g L h' m → News g L h' (a1 :: a2 :: a3 :: a4 :: a5 :: a6 :: a7 :: a8 :: a9 :: b1 :: b2 :: (c.d, gdict w { c with gst := st, gt := gt', gwf := wf, gan := an }) :: T) → Q .next { s with heap := h', toks := tk' }) : wpAny M A t Q E s :=
  cut_news _ F h1 fun v h' tk' nw ⟨e1, gt', e2⟩ F' N' => by subst e1 e2; exact h2 h' tk' gt' F' N'
theorem cut_gd_end {s : Shared} {g h' : Heap} {L : Addr} {m : Str → Option Value} {w : World} {a1 a2 a3 a4 a5 a6 a7 a8 a9 b1 b2 : Addr × Obj} {c : Cell} {T : List (Addr × Obj)} {st : Str} {wf an : Value} {gt' : Tok} {tk' : Nat} 
    (F : Fr g L h' m) (N : News g L h' (a1 :: a2 :: a3 :: a4 :: a5 :: a6 :: a7 :: a8 :: a9 :: b1 :: b2 :: (c.d, gdict w { c with gst := st, gt := gt', gwf := wf, gan := an }) :: T)) :
    CutN (GdP w a1 a2 a3 a4 a5 a6 a7 a8 a9 b1 b2 c T st wf an) g L m s .next { s with heap := h', toks := tk' } := .mk F N ⟨rfl, gt', rfl⟩
end Mine

/- M7 -/
theorem Mine.word24 : True := by
  k_with_none
  k_with "m:sub#" => first | ((k_here; (with_reducible show wpAny _ _ (subscriptTail _ _ (Value.ref _) (Value.int _ _)) _ _ _); k_dflt (refine' Mine.m_sub ?Nw ?mw ?aw ?bw ?xw ?_; (case Nw => k_asm); (case mw => k_mem); (case aw => decide); (case bw => decide); (case xw => rfl); k_whole))) | fail "no"
  k_with "subscriptTail Name Constant ref int#" => first | (walk_at "m:sub") | fail "no"
  k_with "m:compT#" => first | ((k_here; lct_look; k_dflt (refine LCt.ListComp_T (F₀ := by k_asm) (by with_unfolding_all rfl) (by decide) (by rfl) (by decide) (by rfl) ?_))) | fail "no"
  k_with "m:comp#" => first | ((k_here; k_dflt (refine LCg.ListComp_U (F₀ := by k_asm) (by with_unfolding_all rfl) (by decide) (by rfl) (by decide) (by rfl) ?_))) | fail "no"
  k_with "eval ListComp Name cons#" => first | (first | walk_at "m:compT" | walk_at "m:comp") | fail "no"
  k_with "eval ListComp Tuple cons#" => first | (first | walk_at "m:compT" | walk_at "m:comp") | fail "no"
  k_with "eval ListComp List cons#" => first | (first | walk_at "m:compT" | walk_at "m:comp") | fail "no"
  k_with "eval ListComp Attribute cons#" => first | (first | walk_at "m:compT" | walk_at "m:comp") | fail "no"
  k_with "CompSrcT#" => first | ((k_here; k_dflt (refine LCt.CompSrcT.ledger (by rfl) (by k_asm) (by k_asm) (by k_mem) (by first | size_fits | (simp only [List.size_toArray, List.length_map]; rw [sizeLine_eq]; omega)) ?_); intro _)) | fail "no"
  k_with "CompSrc#" => first | ((k_here; k_dflt (refine LCg.CompSrc.ledger (by rfl) (by k_asm) (by k_asm) (by k_mem) (by first | size_fits | (simp only [List.size_toArray, List.length_map]; rw [sizeLine_eq]; omega)) ?_); intro _)) | fail "no"
  k_with "m:in#" => first | (first | assumption | ((with_reducible refine List.mem_cons_of_mem _ ?_); walk_at "m:in") | ((with_reducible refine List.mem_append_right _ ?_); walk_at "m:in") | ((with_reducible refine List.mem_append_left _ ?_); walk_at "m:in")) | fail "no"
  k_with "m:tail#" => first | ((intro _ _; walk_at "m:in")) | fail "no"
  k_with "m:src#" => first | (exact Or.inr ⟨_, by k_mem, rfl, _, rfl⟩) | fail "no"
  k_with "m:units#" => first | (first | ktr_units | (have hcL9 := cLine_is; (simp only [units_in1, units_deeper, Around.mark_units] at *); (try dsimp only [ktrTop] at *); omega)) | fail "no"
  k_with "m:eqnil#" => first | ((k_here; (with_reducible show wpAny _ _ (compareOp CmpOp.Eq (Value.ref _) (Value.ref _)) _ _ _); k_dflt (refine' Mine.m_eq_nil ?Nw ?aw ?bw ?uw ?_; (case Nw => k_asm); (case bw => k_mem); (case aw => k_mem); (case uw => walk_at "m:units"); k_whole))) | fail "no"
  k_with "m:nenil#" => first | ((k_here; (with_reducible show wpAny _ _ (compareOp CmpOp.NotEq (Value.ref _) (Value.ref _)) _ _ _); k_dflt (refine' Mine.m_ne_nil ?Nw ?aw ?bw ?uw ?_; (case Nw => k_asm); (case bw => k_mem); (case aw => k_mem); (case uw => walk_at "m:units"); k_whole))) | fail "no"
  k_with "compareOp Eq ref ref#" => first | (walk_at "m:eqnil") | fail "no"
  k_with "m:nesame#" => first | ((k_here; (with_reducible show wpAny _ _ (compareOp CmpOp.NotEq (Value.ref _) (Value.ref _)) _ _ _); k_dflt (refine' Mine.m_ne_same ?Nw ?aw ?bw ?uw ?_ ?_; (case Nw => k_asm); (case aw => k_mem); (case bw => k_mem); (case uw => walk_at "m:units")))) | fail "no"
  k_with "compareOp NotEq ref ref#" => first | (first | walk_at "m:nenil" | walk_at "m:nesame") | fail "no"
  k_with "m:cend#" => first | (refine LCg.CompEnd.intro (by k_asm) (by k_asm) _ (by walk_at "m:tail") (by assumption) (by walk_at "m:src") ⟨rfl, ?_⟩) | fail "no"
  k_with "m:back#" => first | ((rename News _ _ _ _ => kN9; exact fun p9 hp9 => kN9 p9 (by walk_at "m:in"))) | fail "no"
  k_with "m:perm#" => first | ((intro _ hp9w; simp only [List.mem_cons, List.mem_append, List.cons_append, List.append_assoc, List.nil_append, List.not_mem_nil, or_false, false_or] at hp9w ⊢; (repeat' ((with_reducible refine Or.elim hp9w (fun hq9 => ?_) (fun hq9 => ?_)); clear hp9w; rename_i hp9w)) <;> simp only [hp9w, true_or, or_true])) | fail "no"
  k_with "m:sees#" => first | (first | assumption | exact Mine.Sees.mono (by assumption) (by walk_at "m:tail")) | fail "no"
  k_with "m:rows#" => first | (first | assumption | exact Mine.Rows.mono (by assumption) (by walk_at "m:tail")) | fail "no"
  k_with "m:off#" => first | (first | assumption | exact Mine.off_lt (by assumption) | (k_all)) | fail "no"
  k_with "m:small#" => first | (first | assumption | decide | (simp only [List.size_toArray, List.length_map, List.length_cons, List.length_nil]; omega) | (simp only [List.size_toArray, List.length_map, List.length_cons, List.length_nil] at *; omega)) | fail "no"
  k_with "call builtin:len cons nil#" => first | ((k_here; (with_reducible show wpAny _ _ (call (Value.builtin _) [Value.ref _]) _ _ _); k_dflt (refine' Mine.m_len ?Nw ?mw ?zw ?_; (case Nw => k_asm); (case mw => k_mem); (case zw => walk_at "m:small"); k_whole); intro _ _)) | fail "no"
  k_with "m:subS#" => first | ((k_here; (with_reducible show wpAny _ _ (subscriptTail _ _ (Value.ref _) (Value.int _ _)) _ _ _); k_dflt (refine' Mine.m_subS ?Nw ?mw ?aw ?bw ?zw ?_; (case Nw => k_asm); (case mw => k_mem); (case aw => first | assumption | omega); (case bw => first | assumption | omega); (case zw => walk_at "m:small"); k_whole); intro _ _)) | fail "no"
  k_with "subscriptTail Name Call ref int#" => first | (walk_at "m:subS") | fail "no"
  k_with "m:size#" => first | (first | assumption | decide | (simp only [List.size_toArray, List.length_cons, List.length_nil]; omega) | (simp; done)) | fail "no"
  k_with "m:split#" => first | (repeat (rename _ ∧ _ => hx9; have hy9 := And.left hx9; have hz9 := And.right hx9; clear hx9)) | fail "no"
  k_with "m:dis#" => first | ((simp only [List.map_cons, List.nodup_cons, List.mem_cons, not_or, List.cons_append, List.nil_append] at *; walk_at "m:split")) | fail "no"
  k_with "m:count#" => first | ((intro _; (try simp only [Mine.cells3_snoc, Mine.cells_mid, Mine.rowsOf_mid]); (try simp only [List.map_append, List.map_cons, List.map_nil, List.count_append, List.count_cons, List.count_nil, List.nil_append, List.cons_append]); omega)) | fail "no"
  k_with "m:dis9#" => first | (first | assumption | exact Mine.Dis.le (by assumption) (by walk_at "m:count")) | fail "no"
  k_with "m:lt#" => first | (first | assumption | exact True.intro | ((with_reducible refine Mine.allLt_le ?_ ?_) ; (first | (omega) | skip); assumption) | (refine And.intro ?_ ?_; (try dsimp only); omega; walk_at "m:lt") | (refine Mine.allLt_le (Nat.le_of_lt ?_) ?_; rotate_left; assumption; omega)) | fail "no"
  k_with "m:mem9#" => first | (first | exact List.mem_cons_self | (refine List.mem_cons_of_mem _ ?_; walk_at "m:mem9") | (refine List.mem_append_left _ ?_; walk_at "m:mem9") | (refine List.mem_append_right _ ?_; walk_at "m:mem9")) | fail "no"
  k_with "m:in9#" => first | (first | assumption | (refine List.mem_cons_of_mem _ ?_; walk_at "m:in9") | (refine List.mem_append_left _ ?_; walk_at "m:in9") | (refine List.mem_append_right _ ?_; walk_at "m:in9")) | fail "no"
  k_with "m:sub9#" => first | (first | (refine List.forall_mem_cons.mpr ⟨?_, ?_⟩; walk_at "m:mem9"; walk_at "m:sub9") | (refine List.forall_mem_append.mpr ⟨?_, ?_⟩; walk_at "m:sub9"; walk_at "m:sub9") | (intro _ hp9w; exact absurd hp9w List.not_mem_nil) | (intro _ hp9w; walk_at "m:in9")) | fail "no"
  k_with "compareOp IsNot none#" => first | ((k_here; k_dflt (refine Mine.m_isnot (by assumption) (by assumption) ?_))) | fail "no"
  k_with "m:subA#" => first | ((k_here; (with_reducible show wpAny _ _ (subscriptTail _ _ (Value.ref _) (Value.int _ _)) _ _ _); k_dflt (refine' Mine.m_sub ?Nw ?mw ?aw ?bw ?xw ?_; (case Nw => k_asm); (case mw => k_mem); (case xw => assumption); (case aw => first | assumption | omega); (case bw => first | decide | omega); k_whole))) | fail "no"
  k_with "subscriptTail Name Name ref int#" => first | (first | walk_at "m:subA" | walk_at "m:subS") | fail "no"
  k_with "subscriptTail Attribute Name Name ref int#" => first | (first | walk_at "m:subA" | walk_at "m:subS") | fail "no"
  k_with "m:enterD#" => first | ((refine' code_def ?k1w ?k2w ?k3w ?k4w ?k5w ?kAw ?kFw ?kKw ?k6w ?k7w ?k8w ?k9w ?kBw ?_ ?c2w ?c3w ?c4w ?c5w; (case kAw => exact rfl); (case kFw => exact rfl); (case kKw => first | exact rfl | assumption); (case k1w => k_asm); (case k2w => k_asm); (case k3w => k_asm); (case k4w => k_asm); (case k5w => k_asm); (case k6w => k_is); (case k7w => k_is); (case k8w => k_room); (case k9w => exact Mine.wake_binds (Frag.In.keeps (by k_asm) (Fr.keep (by k_asm))) (by k_is) rfl); (case c5w => decide); (case kBw => exact locs rfl); (case c2w => exact rfl); (case c3w => exact rfl); (case c4w => exact rfl); k_whole; intro _ _ _ _ _ _ B'w _ _; (try dsimp only); (try k_lift B'w); (try k_fold))) | fail "no"
  k_with "call ref cons nil#" => first | (((try dsimp only [List.nil_append, List.cons_append]); (with_reducible show wpAny _ _ (call (Value.ref 123) [Value.ref _, Value.int _ _, _]) _ _ _); (refine wpAny_call ?_); k_dflt (walk_at "m:enterD"))) | fail "no"
  k_with "call ref nil#" => first | (((try dsimp only [List.nil_append, List.cons_append]); (with_reducible show wpAny _ _ (call (Value.ref 203) [Value.ref _, Value.int _ _]) _ _ _); k_dflt (refine' Mine.takeU ?Bw ?Fw ?Xw ?Nw ?Tw ?kw ?dw ?uw ?ow ?aw ?tw ?t2w ?_; (case Bw => k_asm); (case Fw => k_asm); (case Xw => k_asm); (case Nw => k_asm); (case Tw => k_asm); (case kw => first | exact rfl | assumption); (case dw => ktr_room); (case uw => ktr_units); (case ow => k_updF); (case aw => assumption); (case tw => first | decide | assumption | omega); (case t2w => first | decide | assumption | omega)); intro _ _ _ _ _ _ _ _ _ _ _ _ N9w; (try dsimp only at N9w))) | fail "no"
  k_with "call ref cons nil#" => first | (((try dsimp only [List.nil_append, List.cons_append]); (with_reducible show wpAny _ _ (call (Value.ref 203) [Value.ref _, Value.int _ _]) _ _ _); k_dflt (refine' Mine.takeU ?Bw ?Fw ?Xw ?Nw ?Tw ?kw ?dw ?uw ?ow ?aw ?tw ?t2w ?_; (case Bw => k_asm); (case Fw => k_asm); (case Xw => k_asm); (case Nw => k_asm); (case Tw => k_asm); (case kw => first | exact rfl | assumption); (case dw => ktr_room); (case uw => ktr_units); (case ow => k_updF); (case aw => assumption); (case tw => first | decide | assumption | omega); (case t2w => first | decide | assumption | omega)); intro _ _ _ _ _ _ _ _ _ _ _ _ N9w; (try dsimp only at N9w))) | fail "no"
  k_with "call ref nil#" => first | (((try dsimp only [List.nil_append, List.cons_append]); (with_reducible show wpAny _ _ (call (Value.ref 210) [Value.ref _, Value.ref _]) _ _ _); k_dflt (refine' Mine.oneU ?Bw ?Fw ?Xw ?Nw ?Tw ?kw ?dw ?uw ?ow ?tw ?ew ?s0w ?s1w ?aw ?_; (case Bw => k_asm); (case Fw => k_asm); (case Xw => k_asm); (case Nw => k_asm); (case Tw => k_asm); (case kw => first | exact rfl | assumption); (case dw => ktr_room); (case uw => ktr_units); (case ow => k_updF); (case tw => k_mem); (case ew => k_ne); (case s0w => walk_at "m:size"); (case s1w => walk_at "m:size"); (case aw => assumption)); intro _ _ _ _ _ _ _ _ _ _ N9w; (try dsimp only at N9w))) | fail "no"
  k_with "call ref cons nil#" => first | (((try dsimp only [List.nil_append, List.cons_append]); (with_reducible show wpAny _ _ (call (Value.ref 210) [Value.ref _, Value.ref _]) _ _ _); k_dflt (refine' Mine.oneU ?Bw ?Fw ?Xw ?Nw ?Tw ?kw ?dw ?uw ?ow ?tw ?ew ?s0w ?s1w ?aw ?_; (case Bw => k_asm); (case Fw => k_asm); (case Xw => k_asm); (case Nw => k_asm); (case Tw => k_asm); (case kw => first | exact rfl | assumption); (case dw => ktr_room); (case uw => ktr_units); (case ow => k_updF); (case tw => k_mem); (case ew => k_ne); (case s0w => walk_at "m:size"); (case s1w => walk_at "m:size"); (case aw => assumption)); intro _ _ _ _ _ _ _ _ _ _ N9w; (try dsimp only at N9w))) | fail "no"
  k_with "m:for#" => first | ((k_here; (rename Fr _ _ _ _ => lF'); (with_unfolding_all refine' For_turns lF' ?_; k_whole))) | fail "no"
  k_with "exec For Name Name cons nil#" => first | (walk_at "m:for") | fail "no"
  k_with "exec For Tuple Call cons nil#" => first | (walk_at "m:for") | fail "no"
  k_with "call ref nil#" => first | (((try dsimp only [List.nil_append, List.cons_append]); (with_reducible show wpAny _ _ (call (Value.ref 103) [Value.ref _, Value.int _ _]) _ _ _); k_dflt (refine' Mine.of_spec ?Bw ?Fw ?Xw ?Nw ?Tw ?kw ?dw ?uw ?m1w ?m2w ?m3w ?zw ?j0w ?j1w ?_; (case Bw => k_asm); (case Fw => k_asm); (case Xw => k_asm); (case Nw => k_asm); (case Tw => k_asm); (case kw => first | exact rfl | assumption); (case dw => ktr_room); (case uw => ktr_units); (case m1w => k_mem); (case m2w => k_mem); (case m3w => k_mem); (case zw => assumption); (case j0w => assumption); (case j1w => assumption)); intro _ _ _ _)) | fail "no"
  k_with "call ref cons nil#" => first | (((try dsimp only [List.nil_append, List.cons_append]); (with_reducible show wpAny _ _ (call (Value.ref 103) [Value.ref _, Value.int _ _]) _ _ _); k_dflt (refine' Mine.of_spec ?Bw ?Fw ?Xw ?Nw ?Tw ?kw ?dw ?uw ?m1w ?m2w ?m3w ?zw ?j0w ?j1w ?_; (case Bw => k_asm); (case Fw => k_asm); (case Xw => k_asm); (case Nw => k_asm); (case Tw => k_asm); (case kw => first | exact rfl | assumption); (case dw => ktr_room); (case uw => ktr_units); (case m1w => k_mem); (case m2w => k_mem); (case m3w => k_mem); (case zw => assumption); (case j0w => assumption); (case j1w => assumption)); intro _ _ _ _)) | fail "no"
  trivial

theorem Mine.word25 : True := by
  k_with "call ref nil#" => first | (((try dsimp only [List.nil_append, List.cons_append]); (with_reducible show wpAny _ _ (call (Value.ref 103) [Value.ref _, Value.int _ _]) _ _ _); k_dflt (refine' Mine.of_spec2 ?Bw ?Fw ?Xw ?Nw ?Tw ?kw ?dw ?uw ?m1w ?m2w ?m3w ?zw ?j0w ?j1w ?_; (case Bw => k_asm); (case Fw => k_asm); (case Xw => k_asm); (case Nw => k_asm); (case Tw => k_asm); (case kw => first | exact rfl | assumption); (case dw => ktr_room); (case uw => ktr_units); (case m1w => k_mem); (case m2w => k_mem); (case m3w => k_mem); (case zw => assumption); (case j0w => assumption); (case j1w => first | assumption | (rename (@LT.lt Int _ _ _) => q9; simp only [List.size_toArray, List.length_map] at q9; omega))); intro _ _ _ _ _ _)) | fail "no"
  k_with "call ref cons nil#" => first | (((try dsimp only [List.nil_append, List.cons_append]); (with_reducible show wpAny _ _ (call (Value.ref 103) [Value.ref _, Value.int _ _]) _ _ _); k_dflt (refine' Mine.of_spec2 ?Bw ?Fw ?Xw ?Nw ?Tw ?kw ?dw ?uw ?m1w ?m2w ?m3w ?zw ?j0w ?j1w ?_; (case Bw => k_asm); (case Fw => k_asm); (case Xw => k_asm); (case Nw => k_asm); (case Tw => k_asm); (case kw => first | exact rfl | assumption); (case dw => ktr_room); (case uw => ktr_units); (case m1w => k_mem); (case m2w => k_mem); (case m3w => k_mem); (case zw => assumption); (case j0w => assumption); (case j1w => first | assumption | (rename (@LT.lt Int _ _ _) => q9; simp only [List.size_toArray, List.length_map] at q9; omega))); intro _ _ _ _ _ _)) | fail "no"
  trivial

theorem Mine.word26 : True := by
  k_with "call ref nil#" => first | (((try dsimp only [List.nil_append, List.cons_append]); (with_reducible show wpAny _ _ (call (Value.ref 103) [Value.ref _, Value.int _ _]) _ _ _); k_dflt (refine' Mine.of_spec ?Bw ?Fw ?Xw ?Nw ?Tw ?kw ?dw ?uw ?m1w ?m2w ?m3w ?zw ?j0w ?j1w ?_; (case Bw => k_asm); (case Fw => k_asm); (case Xw => k_asm); (case Nw => k_asm); (case Tw => k_asm); (case kw => first | exact rfl | assumption); (case dw => ktr_room); (case uw => ktr_units); (case m1w => k_mem); (case m2w => k_mem); (case m3w => k_mem); (case zw => assumption); (case j0w => assumption); (case j1w => assumption)); intro _ _ _ _)) | fail "no"
  k_with "call ref cons nil#" => first | (((try dsimp only [List.nil_append, List.cons_append]); (with_reducible show wpAny _ _ (call (Value.ref 103) [Value.ref _, Value.int _ _]) _ _ _); k_dflt (refine' Mine.of_spec ?Bw ?Fw ?Xw ?Nw ?Tw ?kw ?dw ?uw ?m1w ?m2w ?m3w ?zw ?j0w ?j1w ?_; (case Bw => k_asm); (case Fw => k_asm); (case Xw => k_asm); (case Nw => k_asm); (case Tw => k_asm); (case kw => first | exact rfl | assumption); (case dw => ktr_room); (case uw => ktr_units); (case m1w => k_mem); (case m2w => k_mem); (case m3w => k_mem); (case zw => assumption); (case j0w => assumption); (case j1w => assumption)); intro _ _ _ _)) | fail "no"
  trivial

theorem Mine.word27 : True := by
  k_with "call ref nil#" => first | (((try dsimp only [List.nil_append, List.cons_append]); (with_reducible show wpAny _ _ (call (Value.ref 115) [Value.ref _, _]) _ _ _); refine Mine.Hold.out ?_)) | fail "no"
  k_with "call ref cons nil#" => first | (((try dsimp only [List.nil_append, List.cons_append]); (with_reducible show wpAny _ _ (call (Value.ref 115) [Value.ref _, _]) _ _ _); refine Mine.Hold.out ?_)) | fail "no"
  trivial

theorem Mine.word28 : True := by
  k_with "call ref nil#" => first | (((try dsimp only [List.nil_append, List.cons_append]); (with_reducible show wpAny _ _ (call (Value.ref 123) [Value.ref _, Value.int _ _, _]) _ _ _); refine Mine.Hold.out ?_)) | fail "no"
  k_with "call ref cons nil#" => first | (((try dsimp only [List.nil_append, List.cons_append]); (with_reducible show wpAny _ _ (call (Value.ref 123) [Value.ref _, Value.int _ _, _]) _ _ _); refine Mine.Hold.out ?_)) | fail "no"
  trivial

theorem Mine.word29 : True := by
  k_with "exec If#" => first | (refine Mine.hold_if 8 (by assumption) ?_) | fail "no"
  trivial
namespace Mine
theorem kind_cond {x : Str} (h : x = Str.ofString "ready" ∨ x = Str.ofString "blocked" ∨ x = Str.ofString "ended") (e : (x == Str.ofString "ended") = false) : x = cond (x == Str.ofString "blocked") (Str.ofString "blocked") (Str.ofString "ready") := by
  rcases h with rfl | rfl | rfl
  · decide
  · decide
  · exact absurd (e.symm.trans (beq_self_eq_true _)) (by decide)
theorem made_spec {pg : Program} {ls : List Str} {w : World} {mean : ExcName → Option Value} {mg mb : Str → Option Value} {A₀ : Around} {dp un : Nat} {gd : Option (List Code)} {base h₀ : Heap} {outer : List Env} {L : Addr} {m : Str → Option Value} {cn : Str} {cs : Scope} {ca : Addr} {ccd : Value} {cl : List (Str × Addr)} {s : Shared} {Q E : Value → Shared → Prop} {src : Addr} {a b : Int} {ta tb : Tok} {n : Nat} {Rl : Addr} {rn : Nat} {rs : List Cell} {dig : Addr} {R : List (Addr × Obj)}
    (B : Below A₀ base outer h₀) (F : Fr h₀ L s.heap m) (X : Frag.In (hd.heap_39 w.params) h₀) (N : News h₀ L s.heap ((src, listOf #[.int a ta, .int b tb] n) :: (Rl, listOf (rs.map fun c => Value.ref c.ra).toArray rn) :: (rowsOf rs ++ R))) (T : Top pg ls mean mg mb h₀) (hk : cs.kind = .function) (hdp : dp + 40 < recursionLimit) (hun : un + 40 * 40 < cLine)
    (D0 : Dis ((src, listOf #[.int a ta, .int b tb] n) :: (Rl, listOf (rs.map fun c => Value.ref c.ra).toArray rn) :: (rowsOf rs ++ R))) (hs : SrcOk a b)
    (hr : ∀ c ∈ rs, RowOk c.rst c.rwf c.ran) (hl0 : 0 < rs.length) (hl1 : rs.length ≤ 5)
    (hQ : ∀ cs S Sd all C Cd an k1 k2 k3 j1 j2 tt hg a' ta' b' tb' h' tk', StOk cs → cs.map Cell.row = rs.map Cell.row → SrcOk a' b' → (∃ c ∈ cs, hg = c.g) → Fr h₀ L h' m →
      News h₀ L h' ((src, listOf #[.int a' ta', .int b' tb'] n) :: (core w S Sd all C Cd Rl an rn k1 k2 k3 j1 j2 tt (.ref hg) (.ref dig) 0 cs ++ (cells w cs ++ R))) →
      Dis ((src, listOf #[.int a' ta', .int b' tb'] n) :: (core w S Sd all C Cd Rl an rn k1 k2 k3 j1 j2 tt (.ref hg) (.ref dig) 0 cs ++ (cells w cs ++ R))) → Q (.ref S) { s with heap := h', toks := tk' }) :
    wpAny (model PySem.Challenge.rw_pf0070_01.row.prog w) (ktrTop dp un gd cn cs L ca ccd cl outer) (call (.ref 217) [.ref src, .ref Rl, .ref dig]) Q E s := by
  w_top off
  refine wpAny_call ?_
  k_dflt ktr_enter
  rename Fr _ _ _ _ => F9
  obtain ⟨m0, F8⟩ := fr_hide3 (x1 := Str.ofString "source") (v1 := .ref src) (x2 := Str.ofString "rows") (v2 := .ref Rl) (x3 := Str.ofString "digits") (v3 := .ref dig) F9 rfl rfl rfl
  clear F9
  k_steps
  refine iter_listTurns (lo := listOf (rs.map fun c => Value.ref c.ra).toArray rn) (vs := rs.map fun c => Value.ref c.ra) (by rfl) (by k_asm) (by k_asm) (by k_mem) rfl rfl ?_
  intro I hI
  refine items_ind [Str.ofString "row"] (L1Inv w I rs R src (listOf #[.int a ta, .int b tb] n) _ _ _ _ _ Rl rn _ _ _ _) ?done ?turn _ _ _ (fun _ _ => rfl) ⟨[], rs, [], .none, 0, rfl, by rw [List.map_map]; rfl, rfl, .nil, .inl ⟨rfl, rfl⟩, rfl, ?h0⟩
  case h0 => exact l1_start D0 (by assumption) (by assumption) (by assumption) (by assumption) (by assumption) hI
  case turn =>
    rintro it r u news v h tk its ⟨p, q, cs, here, an, e1, e2, e3, e4, e5, rfl, hD⟩ hv ho F N Q' fin'
    cases q with
    | nil => cases e2
    | cons c q =>
      cases e2
      cases hv
      have hc5 : p.length + 1 + q.length ≤ 5 := by rw [e1] at hl1; simp at hl1; omega
      have hc6 := Cell.row_len e3
      clear hI
      have hD1 : Once _ := ⟨hD⟩
      (try dsimp only [List.map_cons] at hD1)
      rcases its with _ | ⟨⟨I', oI⟩, _ | ⟨y, its⟩⟩
      · exact ho.elim
      · obtain ⟨⟨rfl, hcI⟩, _⟩ := ho
        simp only [List.cons_append, List.nil_append] at N
        rcases e5 with ⟨rfl, rfl⟩ | ⟨g, rfl⟩
        · k_steps
          exact fin' _ <| l1_end (by k_asm) (by k_asm) (by intro z hz; exact st1 hz) (by simp) ⟨_, rfl⟩ hD (by assumption) (by assumption) (by rename _ ∧ _ => q9; exact q9.1) e1 e3 e4
        · k_steps
          exact fin' _ <| l1_end (by k_asm) (by k_asm) (by intro z hz; exact st1 hz) (by simp) ⟨_, rfl⟩ hD (by assumption) (by assumption) (by rename _ ∧ _ => q9; exact q9.1) e1 e3 e4
      · exact ho.2.elim
  case done =>
    rintro u news h tk ⟨p, q, cs, here, an, e1, e2, e3, e4, e5, rfl, hD⟩ F N
    cases q with
    | cons c q => cases e2
    | nil =>
    rw [List.append_nil] at e1
    subst e1
    clear hI
    obtain ⟨hg, rfl⟩ : ∃ g, here = .ref g := by
      rcases e5 with ⟨rfl, _⟩ | e5
      · have := Cell.row_len e3; simp at this; omega
      · exact e5
    obtain ⟨N2, D2⟩ := l2_start (P := _ :: _ :: _ :: _ :: _ :: _ :: _ :: []) e3 N hD
    clear N hD
    simp only [List.cons_append, List.nil_append] at N2 D2
    dsimp only
    have hrs := e3
    k_steps
    refine ktu_enum (lo := listOf (rs.map fun c => Value.ref c.ra).toArray rn) (vs := rs.map fun c => Value.ref c.ra) (by rfl) (by k_asm) (by k_asm) (by k_mem) rfl rfl rfl ?_
    intro I2 hI2
    refine items_ind [Str.ofString "number", Str.ofString "row"] (L2Inv w I2 rs R src (listOf #[.int a ta, .int b tb] n) _ _ _ _ _ Rl _ rn _ _ _ _ (cs.map fun c => Value.ref c.g)) ?done2 ?turn2 _ _ _ (fun _ _ => rfl) ⟨[], cs, hg, by rw [← ras_row e3]; rfl, e3, rfl, e4.idx, (fun c hc => nomatch hc), e4.new, rfl, ?h2⟩
    case h2 => exact (D2.cons (p := (I2, o0)) (allLt_of hI2)).cons (p := (I2 + 1, o0)) ⟨Nat.lt_succ_self _, allLt_le (Nat.le_succ _) (allLt_of hI2)⟩
    case turn2 =>
      rintro it r u news v h tk its ⟨p, q, hg, e1, e2, e3, e4, e5, e6, rfl, hD⟩ hv ho F N Q' fin'
      cases q with
      | nil => cases e1
      | cons c q =>
      rw [enum_mid] at e1
      cases e1
      obtain ⟨T9, t9, rfl, hT9⟩ := hv
      rcases its with _ | ⟨⟨I3, oe⟩, _ | ⟨⟨I4, oI⟩, _ | ⟨y, its⟩⟩⟩
      · exact ho.elim
      · exact ho.2.elim
      · obtain ⟨⟨rfl, hc1⟩, ⟨rfl, hc2⟩, _⟩ := ho
        have hc9 := e6 c List.mem_cons_self
        have hci := e4 p.length c (by simp)
        have hok := rows_ok e2 hr c (by simp)
        obtain ⟨N3, D3⟩ := l2_open (P := _ :: _ :: _ :: _ :: _ :: _ :: _ :: []) N hD hc9
        clear N hD hI2 D2
        simp only [List.cons_append, List.nil_append] at N3 D3
        have hD1 : Once _ := ⟨D3⟩
        (try dsimp only [List.map_cons] at hD1)
        have hj0 : (0 : Int) ≤ (p.length : Int) := by omega
        have hj1 : (cs.map fun c => Value.ref c.g).toArray.toList[((p.length : Nat) : Int).toNat]? = some (.ref c.g) := by rw [← e3]; simp
        have hz9 : (cs.map fun c => Value.ref c.g).toArray.size < 1000 := by
          have := Cell.row_len hrs
          simp only [List.size_toArray, List.length_map]; omega
        have hp9 := hok.pa
        have mk8 : Mark 8 := trivial
        k_steps
        dsimp only [Hold]
        rename News _ _ _ (_ :: _ :: _) => N9
        rename Fr _ _ _ _ => F9
        refine cut_gd (c := { c with gst := Str.ofString "ready", gwf := .none, gan := .none }) (Str.ofString "ready") .none c.ran F9 N9 ?i1 ?_
        case i1 =>
          clear mk8
          by_cases hn : c.ran = .none
          · rw [hn] at N9
            k_steps
            rename News _ _ _ (_ :: _ :: _) => N8
            exact cut_gd_end (gt' := c.gt) (by k_asm) (by rw [hn]; exact N8)
          · k_steps
            dsimp only [Hold]
            rename News _ _ _ (_ :: _ :: _) => N8
            k_dflt refine' blockU (c := { c with gst := Str.ofString "ready", gwf := .none, gan := .none }) ?B ?F ?X N8 ?T ?k ?d ?u ?U ?m1 ?m2 ?m3 rfl ?_; (case B => k_asm); (case F => k_asm); (case X => k_asm); (case T => k_asm); (case k => first | exact rfl | assumption); (case d => ktr_room); (case u => ktr_units); (case U => k_updF); (case m1 => k_mem); (case m2 => k_mem); (case m3 => k_mem)
            clear N8
            (try clear N9)
            (try clear F9)
            intro gt1 h9 tk9 F9 N9
            dsimp only at N9
            k_steps
            dsimp only [Hold]
            rename News _ _ _ (_ :: _ :: _) => N8
            k_dflt refine' wakeIU (c := { c with gst := Str.ofString "blocked", gt := gt1, gwf := .str (Str.ofString "ahead") tk, gan := .none }) (its := (cs.map fun c => Value.ref c.g).toArray) ?B ?F ?X N8 ?T ?k ?d ?u ?U ?m1 ?m2 ?m4 ?m3 hz9 hj0 hj1 rfl ?_; (case B => k_asm); (case F => k_asm); (case X => k_asm); (case T => k_asm); (case k => first | exact rfl | assumption); (case d => ktr_room); (case u => ktr_units); (case U => k_updF); (case m1 => k_mem); (case m2 => k_mem); (case m3 => k_mem); (case m4 => k_mem)
            clear N8
            (try clear N9)
            (try clear F9)
            intro h9 tk9 F9 N9
            dsimp only at N9
            k_steps
            rename News _ _ _ (_ :: _ :: _) => N8
            exact cut_gd_end (by k_asm) N8
        (try clear N9)
        (try clear F9)
        intro h9 tk9 gt9 F9 N9
        dsimp only at N9
        dsimp only
        k_steps
        dsimp only [Hold]
        refine cut_gd (c := { c with gst := Str.ofString "ready", gt := gt9, gwf := .none, gan := c.ran }) (cond (c.rst == Str.ofString "blocked") (Str.ofString "blocked") (Str.ofString "ready")) c.rwf c.ran F9 N9 ?i2 ?_
        case i2 =>
          clear mk8
          cases hb : (c.rst == Str.ofString "blocked") with
          | false =>
            have hw := hok.pn hb
            k_steps
            rename News _ _ _ (_ :: _ :: _) => N8
            exact cut_gd_end (gt' := gt9) (by k_asm) (by have q := N8; rw [hw] at q ⊢; exact q)
          | true =>
            k_steps
            dsimp only [Hold]
            rename News _ _ _ (_ :: _ :: _) => N8
            k_dflt refine' blockU (c := { c with gst := Str.ofString "ready", gt := gt9, gwf := .none, gan := c.ran }) ?B ?F ?X N8 ?T ?k ?d ?u ?U ?m1 ?m2 ?m3 rfl ?_; (case B => k_asm); (case F => k_asm); (case X => k_asm); (case T => k_asm); (case k => first | exact rfl | assumption); (case d => ktr_room); (case u => ktr_units); (case U => k_updF); (case m1 => k_mem); (case m2 => k_mem); (case m3 => k_mem)
            clear N8
            (try clear N9)
            (try clear F9)
            intro gt1 h9 tk9 F9 N9
            dsimp only at N9
            k_steps
            rename News _ _ _ (_ :: _ :: _) => N8
            exact cut_gd_end (by k_asm) N8
        (try clear N9)
        (try clear F9)
        intro h9 tk9 gt8 F9 N9
        dsimp only at N9
        dsimp only
        clear mk8
        cases he : (c.rst == Str.ofString "ended") with
        | true =>
          k_steps
          rename News _ _ _ _ => N9
          exact fin' _ <| l2_finE (by k_asm) N9 (D3.same rfl) (by rename _ ∧ _ => q9; exact q9) (by intro z hz; exact st2 hz) rfl rfl rfl rfl e2 e3 e4 e5 (eq_of_beq he) rfl rfl (fun _ => rfl) e6
        | false =>
          k_steps
          rename News _ _ _ _ => N9
          exact fin' _ <| l2_fin (by k_asm) N9 (D3.same rfl) (by intro z hz; exact st2 hz) rfl rfl rfl rfl e2 e3 e4 e5 (kind_cond hok.kind he) rfl rfl (fun _ => rfl) e6
      · exact ho.2.2.elim
    case done2 =>
      rintro u news h tk ⟨p, q, hg, e1, e2, e3, e4, e5, e6, rfl, hD⟩ F N
      cases q with
      | cons c q => cases e1
      | nil =>
      rw [List.append_nil] at e2 e3 e4 hD N
      clear hI2 N2 D2
      have hps := Cell.row_len e2
      have hz9 : (cs.map fun c => Value.ref c.g).toArray.size < 1000 := by rw [← e3]; simp; omega
      have ht0 : 0 < ((rs.map fun c => Value.ref c.ra).toArray.size : Int) := by simp; omega
      have ht1 : ((rs.map fun c => Value.ref c.ra).toArray.size : Int) < 100 := by simp; omega
      rw [← e3] at N hD
      rw [← e3] at hz9
      dsimp only
      have hD1 : Once _ := ⟨(List.nodup_cons.mp (List.nodup_cons.mp hD).2).2⟩
      (try dsimp only [List.map_cons] at hD1)
      k_steps
      rename News _ _ _ _ => N8
      rename SrcOk _ _ => hs8
      rename _[_]? = some _ => hc8
      have z8 := made_end e2 N8 hD
      exact hQ p _ _ _ _ _ an _ _ _ _ _ _ _ _ _ _ _ _ _ ⟨by omega, by omega, e4, fun c hc => (e5 c hc).1, fun c hc => (e5 c hc).2, rows_ok e2 hr⟩ e2 hs8 ⟨_, List.mem_of_getElem? hc8, rfl⟩ (by k_asm) z8.1 z8.2
end Mine

/- M2 -/
theorem Mine.word30 : True := by
  k_with_none
  k_with "m:sub#" => first | ((k_here; (with_reducible show wpAny _ _ (subscriptTail _ _ (Value.ref _) (Value.int _ _)) _ _ _); k_dflt (refine' Mine.m_sub ?Nw ?mw ?aw ?bw ?xw ?_; (case Nw => k_asm); (case mw => k_mem); (case aw => decide); (case bw => decide); (case xw => rfl); k_whole))) | fail "no"
  k_with "subscriptTail Name Constant ref int#" => first | (walk_at "m:sub") | fail "no"
  k_with "m:compT#" => first | ((k_here; lct_look; k_dflt (refine LCt.ListComp_T (F₀ := by k_asm) (by with_unfolding_all rfl) (by decide) (by rfl) (by decide) (by rfl) ?_))) | fail "no"
  k_with "m:comp#" => first | ((k_here; k_dflt (refine LCg.ListComp_U (F₀ := by k_asm) (by with_unfolding_all rfl) (by decide) (by rfl) (by decide) (by rfl) ?_))) | fail "no"
  k_with "eval ListComp Name cons#" => first | (first | walk_at "m:compT" | walk_at "m:comp") | fail "no"
  k_with "eval ListComp Tuple cons#" => first | (first | walk_at "m:compT" | walk_at "m:comp") | fail "no"
  k_with "eval ListComp List cons#" => first | (first | walk_at "m:compT" | walk_at "m:comp") | fail "no"
  k_with "eval ListComp Attribute cons#" => first | (first | walk_at "m:compT" | walk_at "m:comp") | fail "no"
  k_with "CompSrcT#" => first | ((k_here; k_dflt (refine LCt.CompSrcT.ledger (by rfl) (by k_asm) (by k_asm) (by k_mem) (by first | size_fits | (simp only [List.size_toArray, List.length_map]; rw [sizeLine_eq]; omega)) ?_); intro _)) | fail "no"
  k_with "CompSrc#" => first | ((k_here; k_dflt (refine LCg.CompSrc.ledger (by rfl) (by k_asm) (by k_asm) (by k_mem) (by first | size_fits | (simp only [List.size_toArray, List.length_map]; rw [sizeLine_eq]; omega)) ?_); intro _)) | fail "no"
  k_with "m:in#" => first | (first | assumption | ((with_reducible refine List.mem_cons_of_mem _ ?_); walk_at "m:in") | ((with_reducible refine List.mem_append_right _ ?_); walk_at "m:in") | ((with_reducible refine List.mem_append_left _ ?_); walk_at "m:in")) | fail "no"
  k_with "m:tail#" => first | ((intro _ _; walk_at "m:in")) | fail "no"
  k_with "m:src#" => first | (exact Or.inr ⟨_, by k_mem, rfl, _, rfl⟩) | fail "no"
  k_with "m:units#" => first | (first | ktr_units | (have hcL9 := cLine_is; (simp only [units_in1, units_deeper, Around.mark_units] at *); (try dsimp only [ktrTop] at *); omega)) | fail "no"
  k_with "m:eqnil#" => first | ((k_here; (with_reducible show wpAny _ _ (compareOp CmpOp.Eq (Value.ref _) (Value.ref _)) _ _ _); k_dflt (refine' Mine.m_eq_nil ?Nw ?aw ?bw ?uw ?_; (case Nw => k_asm); (case bw => k_mem); (case aw => k_mem); (case uw => walk_at "m:units"); k_whole))) | fail "no"
  k_with "m:nenil#" => first | ((k_here; (with_reducible show wpAny _ _ (compareOp CmpOp.NotEq (Value.ref _) (Value.ref _)) _ _ _); k_dflt (refine' Mine.m_ne_nil ?Nw ?aw ?bw ?uw ?_; (case Nw => k_asm); (case bw => k_mem); (case aw => k_mem); (case uw => walk_at "m:units"); k_whole))) | fail "no"
  k_with "compareOp Eq ref ref#" => first | (walk_at "m:eqnil") | fail "no"
  k_with "m:nesame#" => first | ((k_here; (with_reducible show wpAny _ _ (compareOp CmpOp.NotEq (Value.ref _) (Value.ref _)) _ _ _); k_dflt (refine' Mine.m_ne_same ?Nw ?aw ?bw ?uw ?_ ?_; (case Nw => k_asm); (case aw => k_mem); (case bw => k_mem); (case uw => walk_at "m:units")))) | fail "no"
  k_with "compareOp NotEq ref ref#" => first | (first | walk_at "m:nenil" | walk_at "m:nesame") | fail "no"
  k_with "m:cend#" => first | (refine LCg.CompEnd.intro (by k_asm) (by k_asm) _ (by walk_at "m:tail") (by assumption) (by walk_at "m:src") ⟨rfl, ?_⟩) | fail "no"
  k_with "m:back#" => first | ((rename News _ _ _ _ => kN9; exact fun p9 hp9 => kN9 p9 (by walk_at "m:in"))) | fail "no"
  k_with "m:perm#" => first | ((intro _ hp9w; simp only [List.mem_cons, List.mem_append, List.cons_append, List.append_assoc, List.nil_append, List.not_mem_nil, or_false, false_or] at hp9w ⊢; (repeat' ((with_reducible refine Or.elim hp9w (fun hq9 => ?_) (fun hq9 => ?_)); clear hp9w; rename_i hp9w)) <;> simp only [hp9w, true_or, or_true])) | fail "no"
  k_with "m:sees#" => first | (first | assumption | exact Mine.Sees.mono (by assumption) (by walk_at "m:tail")) | fail "no"
  k_with "m:rows#" => first | (first | assumption | exact Mine.Rows.mono (by assumption) (by walk_at "m:tail")) | fail "no"
  k_with "m:off#" => first | (first | assumption | exact Mine.off_lt (by assumption) | (k_all)) | fail "no"
  k_with "m:small#" => first | (first | assumption | decide | (simp only [List.size_toArray, List.length_map, List.length_cons, List.length_nil]; omega) | (simp only [List.size_toArray, List.length_map, List.length_cons, List.length_nil] at *; omega)) | fail "no"
  k_with "call builtin:len cons nil#" => first | ((k_here; (with_reducible show wpAny _ _ (call (Value.builtin _) [Value.ref _]) _ _ _); k_dflt (refine' Mine.m_len ?Nw ?mw ?zw ?_; (case Nw => k_asm); (case mw => k_mem); (case zw => walk_at "m:small"); k_whole); intro _ _)) | fail "no"
  k_with "m:subS#" => first | ((k_here; (with_reducible show wpAny _ _ (subscriptTail _ _ (Value.ref _) (Value.int _ _)) _ _ _); k_dflt (refine' Mine.m_subS ?Nw ?mw ?aw ?bw ?zw ?_; (case Nw => k_asm); (case mw => k_mem); (case aw => first | assumption | omega); (case bw => first | assumption | omega); (case zw => walk_at "m:small"); k_whole); intro _ _)) | fail "no"
  k_with "subscriptTail Name Call ref int#" => first | (walk_at "m:subS") | fail "no"
  k_with "m:size#" => first | (first | assumption | decide | (simp only [List.size_toArray, List.length_cons, List.length_nil]; omega) | (simp; done)) | fail "no"
  k_with "m:split#" => first | (repeat (rename _ ∧ _ => hx9; have hy9 := And.left hx9; have hz9 := And.right hx9; clear hx9)) | fail "no"
  k_with "m:dis#" => first | ((simp only [List.map_cons, List.nodup_cons, List.mem_cons, not_or, List.cons_append, List.nil_append] at *; walk_at "m:split")) | fail "no"
  k_with "m:count#" => first | ((intro _; (try simp only [Mine.cells3_snoc, Mine.cells_mid, Mine.rowsOf_mid]); (try simp only [List.map_append, List.map_cons, List.map_nil, List.count_append, List.count_cons, List.count_nil, List.nil_append, List.cons_append]); omega)) | fail "no"
  k_with "m:dis9#" => first | (first | assumption | exact Mine.Dis.le (by assumption) (by walk_at "m:count")) | fail "no"
  k_with "m:lt#" => first | (first | assumption | exact True.intro | ((with_reducible refine Mine.allLt_le ?_ ?_) ; (first | (omega) | skip); assumption) | (refine And.intro ?_ ?_; (try dsimp only); omega; walk_at "m:lt") | (refine Mine.allLt_le (Nat.le_of_lt ?_) ?_; rotate_left; assumption; omega)) | fail "no"
  k_with "m:mem9#" => first | (first | exact List.mem_cons_self | (refine List.mem_cons_of_mem _ ?_; walk_at "m:mem9") | (refine List.mem_append_left _ ?_; walk_at "m:mem9") | (refine List.mem_append_right _ ?_; walk_at "m:mem9")) | fail "no"
  k_with "m:in9#" => first | (first | assumption | (refine List.mem_cons_of_mem _ ?_; walk_at "m:in9") | (refine List.mem_append_left _ ?_; walk_at "m:in9") | (refine List.mem_append_right _ ?_; walk_at "m:in9")) | fail "no"
  k_with "m:sub9#" => first | (first | (refine List.forall_mem_cons.mpr ⟨?_, ?_⟩; walk_at "m:mem9"; walk_at "m:sub9") | (refine List.forall_mem_append.mpr ⟨?_, ?_⟩; walk_at "m:sub9"; walk_at "m:sub9") | (intro _ hp9w; exact absurd hp9w List.not_mem_nil) | (intro _ hp9w; walk_at "m:in9")) | fail "no"
  k_with "compareOp IsNot none#" => first | ((k_here; k_dflt (refine Mine.m_isnot (by assumption) (by assumption) ?_))) | fail "no"
  k_with "m:subA#" => first | ((k_here; (with_reducible show wpAny _ _ (subscriptTail _ _ (Value.ref _) (Value.int _ _)) _ _ _); k_dflt (refine' Mine.m_sub ?Nw ?mw ?aw ?bw ?xw ?_; (case Nw => k_asm); (case mw => k_mem); (case xw => assumption); (case aw => first | assumption | omega); (case bw => first | decide | omega); k_whole))) | fail "no"
  k_with "subscriptTail Name Name ref int#" => first | (first | walk_at "m:subA" | walk_at "m:subS") | fail "no"
  k_with "subscriptTail Attribute Name Name ref int#" => first | (first | walk_at "m:subA" | walk_at "m:subS") | fail "no"
  k_with "m:enterD#" => first | ((refine' code_def ?k1w ?k2w ?k3w ?k4w ?k5w ?kAw ?kFw ?kKw ?k6w ?k7w ?k8w ?k9w ?kBw ?_ ?c2w ?c3w ?c4w ?c5w; (case kAw => exact rfl); (case kFw => exact rfl); (case kKw => first | exact rfl | assumption); (case k1w => k_asm); (case k2w => k_asm); (case k3w => k_asm); (case k4w => k_asm); (case k5w => k_asm); (case k6w => k_is); (case k7w => k_is); (case k8w => k_room); (case k9w => exact Mine.wake_binds (Frag.In.keeps (by k_asm) (Fr.keep (by k_asm))) (by k_is) rfl); (case c5w => decide); (case kBw => exact locs rfl); (case c2w => exact rfl); (case c3w => exact rfl); (case c4w => exact rfl); k_whole; intro _ _ _ _ _ _ B'w _ _; (try dsimp only); (try k_lift B'w); (try k_fold))) | fail "no"
  k_with "call ref cons nil#" => first | (((try dsimp only [List.nil_append, List.cons_append]); (with_reducible show wpAny _ _ (call (Value.ref 123) [Value.ref _, Value.int _ _, _]) _ _ _); (refine wpAny_call ?_); k_dflt (walk_at "m:enterD"))) | fail "no"
  trivial

namespace Mine
theorem ready_spec {pg : Program} {ls : List Str} {w : World} {mean : ExcName → Option Value} {mg mb : Str → Option Value} {A₀ : Around} {dp un : Nat} {gd : Option (List Code)} {base h₀ : Heap} {outer : List Env} {L : Addr} {m : Str → Option Value} {cn : Str} {cs : Scope} {ca : Addr} {ccd : Value} {cl : List (Str × Addr)} {s : Shared} {Q E : Value → Shared → Prop} {S Sd all : Addr} {C : Addr} {here : Value} {k1 k2 k3 : Tok} {cs' : List Cell} {an : Nat} {news : List (Addr × Obj)}
    (B : Below A₀ base outer h₀) (F : Fr h₀ L s.heap m) (X : Frag.In (hd.heap_39 w.params) h₀) (N : News h₀ L s.heap (news)) (T : Top pg ls mean mg mb h₀) (hk : cs.kind = .function) (hdp : dp + 20 < recursionLimit) (hun : un + 40 * 20 < cLine)
    (V : Sees w news S Sd all C here k1 k2 k3 an cs') (hlen : cs'.length ≤ 5)
    (h : ∀ D h' tk', Fr h₀ L h' m → News h₀ L h' ((D, LCg.lst ((cs'.filter fun c => c.gst == Str.ofString "ready").map fun c => Value.ref c.g)) :: news) → LCg.Off1 D news → Q (.ref D) { s with heap := h', toks := tk' }) :
    wpAny (model PySem.Challenge.rw_pf0070_01.row.prog w) (ktrTop dp un gd cn cs L ca ccd cl outer) (call (.ref 108) [.ref S]) Q E s := by
  w_top off
  have hS := V.s
  have hSd := V.d
  have hall := V.a
  have hc := V.g
  refine wpAny_call ?_
  k_dflt ktr_enter
  k_steps
  refine compT_const (fun i ys => ys = ((cs'.take i).filter fun c => c.gst == Str.ofString "ready").map fun c => Value.ref c.g) ?_ ?_ rfl
  · rintro i ys v I oI C oC D m₂ h tk E' hi rfl hv hC hx F' N' off ne
    obtain ⟨c, hi', hm, rfl⟩ := get_map hv
    have hcg := (hc c hm).1
    have hcd := (hc c hm).2
    k_steps
    · walk_at "m:cend"; exact take_yes hi' (by assumption)
    · walk_at "m:cend"; exact take_no hi' (by assumption)
  · rintro ys rfl
    rw [take_all]
    k_steps
    exact h _ _ _ (by k_asm) (by k_asm) (by assumption)
end Mine

/- M3 -/

theorem Mine.word31 : True := by
  k_with "call ref nil#" => first | (((try dsimp only [List.nil_append, List.cons_append]); (with_reducible show wpAny _ _ (call (Value.ref 108) [Value.ref _]) _ _ _); k_dflt (refine' Mine.ready_spec ?Bw ?Fw ?Xw ?Nw ?Tw ?kw ?dw ?uw ?vw ?lw ?_; (case Bw => k_asm); (case Fw => k_asm); (case Xw => k_asm); (case Nw => k_asm); (case Tw => k_asm); (case kw => first | exact rfl | assumption); (case dw => ktr_room); (case uw => ktr_units); (case vw => walk_at "m:sees"); (case lw => assumption); k_whole); intro _ _ _ _ _ _)) | fail "no"
  k_with "call ref cons nil#" => first | (((try dsimp only [List.nil_append, List.cons_append]); (with_reducible show wpAny _ _ (call (Value.ref 108) [Value.ref _]) _ _ _); k_dflt (refine' Mine.ready_spec ?Bw ?Fw ?Xw ?Nw ?Tw ?kw ?dw ?uw ?vw ?lw ?_; (case Bw => k_asm); (case Fw => k_asm); (case Xw => k_asm); (case Nw => k_asm); (case Tw => k_asm); (case kw => first | exact rfl | assumption); (case dw => ktr_room); (case uw => ktr_units); (case vw => walk_at "m:sees"); (case lw => assumption); k_whole); intro _ _ _ _ _ _)) | fail "no"
  trivial

namespace Mine
theorem dead_spec {pg : Program} {ls : List Str} {w : World} {mean : ExcName → Option Value} {mg mb : Str → Option Value} {A₀ : Around} {dp un : Nat} {gd : Option (List Code)} {base h₀ : Heap} {outer : List Env} {L : Addr} {m : Str → Option Value} {cn : Str} {cs : Scope} {ca : Addr} {ccd : Value} {cl : List (Str × Addr)} {s : Shared} {Q E : Value → Shared → Prop} {S Sd all : Addr} {C : Addr} {here : Value} {k1 k2 k3 : Tok} {cs' : List Cell} {an : Nat} {news : List (Addr × Obj)}
    (B : Below A₀ base outer h₀) (F : Fr h₀ L s.heap m) (X : Frag.In (hd.heap_39 w.params) h₀) (N : News h₀ L s.heap (news)) (T : Top pg ls mean mg mb h₀) (hk : cs.kind = .function) (hdp : dp + 25 < recursionLimit) (hun : un + 40 * 25 < cLine)
    (V : Sees w news S Sd all C here k1 k2 k3 an cs') (hlen : cs'.length ≤ 5)
    (h : ∀ h' tk', Fr h₀ L h' m → News h₀ L h' news → Q (.bool ((cs'.filter fun c => c.gst == Str.ofString "ready").isEmpty && !(cs'.filter fun c => c.gst == Str.ofString "blocked").isEmpty)) { s with heap := h', toks := tk' }) :
    wpAny (model PySem.Challenge.rw_pf0070_01.row.prog w) (ktrTop dp un gd cn cs L ca ccd cl outer) (call (.ref 149) [.ref S]) Q E s := by
  w_top off
  have hS := V.s
  have hSd := V.d
  have hall := V.a
  have hc := V.g
  refine wpAny_call ?_
  k_dflt ktr_enter
  k_steps
  · refine compT_const (fun i ys => ys = ((cs'.take i).filter fun c => c.gst == Str.ofString "blocked").map fun c => Value.ref c.g) ?_ ?_ rfl
    · rintro i ys v I oI C oC D m₂ h tk E' hi rfl hv hC hx F' N' off ne
      obtain ⟨c, hi', hm, rfl⟩ := get_map hv
      have hcg := (hc c hm).1
      have hcd := (hc c hm).2
      k_steps
      · walk_at "m:cend"; exact take_yes hi' (by assumption)
      · walk_at "m:cend"; exact take_no hi' (by assumption)
    · rintro ys rfl
      rw [take_all]
      k_steps
      have e1 : ((cs'.filter fun c => c.gst == Str.ofString "ready").map fun c => Value.ref c.g).toArray.isEmpty = true := by assumption
      refine q_eq (h _ _ (by k_asm) (by walk_at "m:back")) ?_
      rw [emp] at e1 ⊢
      rw [e1]; rfl
  · have e1 : ((cs'.filter fun c => c.gst == Str.ofString "ready").map fun c => Value.ref c.g).toArray.isEmpty = false := by assumption
    refine q_eq (h _ _ (by k_asm) (by walk_at "m:back")) ?_
    rw [emp] at e1 ⊢
    rw [e1]; rfl

theorem wait_spec {pg : Program} {ls : List Str} {w : World} {mean : ExcName → Option Value} {mg mb : Str → Option Value} {A₀ : Around} {dp un : Nat} {gd : Option (List Code)} {base h₀ : Heap} {outer : List Env} {L : Addr} {m : Str → Option Value} {cn : Str} {cs : Scope} {ca : Addr} {ccd : Value} {cl : List (Str × Addr)} {s : Shared} {Q E : Value → Shared → Prop} {S Sd all : Addr} {C : Addr} {here : Value} {k1 k2 k3 : Tok} {cs' : List Cell} {an : Nat} {news : List (Addr × Obj)}
    (B : Below A₀ base outer h₀) (F : Fr h₀ L s.heap m) (X : Frag.In (hd.heap_39 w.params) h₀) (N : News h₀ L s.heap (news)) (T : Top pg ls mean mg mb h₀) (hk : cs.kind = .function) (hdp : dp + 20 < recursionLimit) (hun : un + 40 * 20 < cLine)
    (V : Sees w news S Sd all C here k1 k2 k3 an cs') (hlen : cs'.length ≤ 5) (hh : ∀ c ∈ cs', handedIn c.gwf = true)
    (h : ∀ D ys add h' tk', Fr h₀ L h' m → News h₀ L h' ((D, LCg.lst ys) :: add ++ news) → Seqs "tuple" ys ((cs'.filter fun c => c.gst == Str.ofString "blocked").map fun c => [Value.int c.i c.it, c.gwf]) add → Q (.ref D) { s with heap := h', toks := tk' }) :
    wpAny (model PySem.Challenge.rw_pf0070_01.row.prog w) (ktrTop dp un gd cn cs L ca ccd cl outer) (call (.ref 154) [.ref S]) Q E s := by
  w_top off
  have hS := V.s
  have hSd := V.d
  have hall := V.a
  have hc := V.g
  refine wpAny_call ?_
  k_dflt ktr_enter
  k_steps
  refine compT_ind (fun i ys n => ∃ add, n = add ++ news ∧ Seqs "tuple" ys (((cs'.take i).filter fun c => c.gst == Str.ofString "blocked").map fun c => [Value.int c.i c.it, c.gwf]) add) ?_ ?_ _ 0 [] news (Nat.zero_add _) ⟨[], rfl, Seqs.nil⟩
  · rintro i ys n9 v I oI C oC D m₂ h tk E' hi ⟨add, rfl, ht⟩ hv hC hx F' N' off ne
    obtain ⟨c, hi', hm, rfl⟩ := get_map hv
    have hcg := List.mem_append_right add (hc c hm).1
    have hcd := List.mem_append_right add (hc c hm).2
    have hall := List.mem_append_right add hall
    have hhw := hh c hm
    k_steps
    · refine cend_new (by k_asm) (by k_asm) (by assumption) off (by walk_at "m:src") ⟨_ :: add, rfl, ?_⟩
      rw [← take_yes hi' (by assumption)]; exact ht.snoc
    · refine LCg.CompEnd.intro (by k_asm) (by k_asm) _ (by walk_at "m:tail") off (by walk_at "m:src") ⟨add, rfl, ?_⟩
      rw [← take_no hi' (by assumption)]; exact ht
  · rintro ys n9 ⟨add, rfl, ht⟩
    rw [take_all] at ht
    k_steps
    exact h _ _ add _ _ (by k_asm) (by k_asm) ht
end Mine

/- En -/

namespace Mine
open PySem.Calls PyProof.V PySem.Spec PyProof.Rows.LCg
def Off4 (e it C D : Addr) (nw : List (Addr × Obj)) : Prop := ∀ p ∈ nw, p.1 ≠ e ∧ p.1 ≠ it ∧ p.1 ≠ C ∧ p.1 ≠ D
def EndE (h₀ : Heap) (L : Addr) (m : Str → Option Value) (s₁ : Shared) (e : Addr) (oe : Obj) (it : Addr) (oi : Obj) (C : Addr) (oC : Obj) (D : Addr) (oD : Obj) (rest : Value → List (Addr × Obj) → Prop) (y : Value) (s₂ : Shared) : Prop :=
  ∃ h' tk nw', s₂ = { s₁ with heap := h', toks := tk } ∧ Fr h₀ L h' m ∧ News h₀ L h' ((e, oe) :: (it, oi) :: (C, oC) :: (D, oD) :: nw') ∧ Off4 e it C D nw' ∧ rest y nw'
theorem EndE.intro {h₀ : Heap} {L e it C D : Addr} {m : Str → Option Value} {s₁ : Shared} {oe oi oC oD : Obj} {rest : Value → List (Addr × Obj) → Prop} {y : Value} {h' : Heap} {tk : Nat} {all nw' : List (Addr × Obj)}
    (F : Fr h₀ L h' m) (N : News h₀ L h' all) (sub : ∀ p ∈ (e, oe) :: (it, oi) :: (C, oC) :: (D, oD) :: nw', p ∈ all) (off : Off4 e it C D nw') (r : rest y nw') :
    EndE h₀ L m s₁ e oe it oi C oC D oD rest y { s₁ with heap := h', toks := tk } := ⟨h', tk, nw', rfl, F, fun p hp => N p (sub p hp), off, r⟩
theorem EndE.new {h₀ : Heap} {L e it C D D' : Addr} {m : Str → Option Value} {s₁ : Shared} {oe oi oC oD o : Obj} {rest : Value → List (Addr × Obj) → Prop} {y : Value} {h' : Heap} {tk : Nat} {nw : List (Addr × Obj)}
    (F : Fr h₀ L h' m) (N : News h₀ L h' ((D', o) :: (e, oe) :: (it, oi) :: (C, oC) :: (D, oD) :: nw)) (l1 : e < D' ∧ it < D' ∧ C < D' ∧ D < D' ∧ AllLt D' nw) (off : Off4 e it C D nw) (r : rest y ((D', o) :: nw)) :
    EndE h₀ L m s₁ e oe it oi C oC D oD rest y { s₁ with heap := h', toks := tk } :=
  EndE.intro F N (fun p hp => by
    rcases List.mem_cons.mp hp with rfl | hp
    · exact .tail _ (.head _)
    rcases List.mem_cons.mp hp with rfl | hp
    · exact .tail _ (.tail _ (.head _))
    rcases List.mem_cons.mp hp with rfl | hp
    · exact .tail _ (.tail _ (.tail _ (.head _)))
    rcases List.mem_cons.mp hp with rfl | hp
    · exact .tail _ (.tail _ (.tail _ (.tail _ (.head _))))
    rcases List.mem_cons.mp hp with rfl | hp
    · exact .head _
    · exact .tail _ (.tail _ (.tail _ (.tail _ (.tail _ hp))))) (fun p hp => by
    rcases List.mem_cons.mp hp with rfl | hp
    · exact ⟨Nat.ne_of_gt l1.1, Nat.ne_of_gt l1.2.1, Nat.ne_of_gt l1.2.2.1, Nat.ne_of_gt l1.2.2.2.1⟩
    · exact off p hp) r

section
variable {prog : Program} {w : World} {A : Around} {E : Value → Shared → Prop} {s : Shared} {h₀ : Heap} {L : Addr} {m : Str → Option Value} {env : Env}
/-- [elt for a, b in enumerate(l) if c] -/
theorem enum_block {elt iter c : PySem.Expr} {a b : Str} {pa pb tp : Pos} {kk : Nat} {scope : Scope} {cl : List (Str × Addr)} {pos : Pos} {s₂ : Shared} {e it l : Addr} {lo : Obj} {items : Array Value} {ln : Nat} {news : List (Addr × Obj)}
    {Fin : List Value → List (Addr × Obj) → Prop} {RR : Value → Addr → Result → Shared → Prop} (Inv : Nat → List Value → List (Addr × Obj) → Prop)
    (hh : A.handled = none) (hei : e ≠ it) (hle : l ≠ e) (hli : l ≠ it) (hlo : lo = listOf items ln) (hsz : items.size ≤ sizeLine)
    (hE : IsEnum s₂.heap e it 0 .none) (hI : s₂.heap.IsListIter it l 0)
    (hcell : ∀ y ∈ scope.names, y.2 ≠ .cell) (hkind : scope.kind = .function) (hxa : scope.names.lookup a = some .local) (hxb : scope.names.lookup b = some .local) (hab : ¬ a = b)
    (F : Fr h₀ L s₂.heap m) (N : News h₀ L s₂.heap news) (heL : L ≠ e) (hitL : L ≠ it) (he₀ : h₀.get? e = none) (hit₀ : h₀.get? it = none) (off : ∀ p ∈ news, p.1 ≠ e ∧ p.1 ≠ it)
    (hinv : Inv 0 [] news) (keep : ∀ i ys nw, Inv i ys nw → (l, lo) ∈ nw)
    (step : ∀ i ys nw v (t : Tok) oe oi C oC D m₂ h tk (E' : Value → Shared → Prop), items[i]? = some v → Inv i ys nw → NsObj oC m₂ → m₂ a = some (.int i t) → m₂ b = some v → Fr h₀ L h m → News h₀ L h ((e, oe) :: (it, oi) :: (C, oC) :: (D, lst ys) :: nw) → Off4 e it C D nw →
      (@Ne Nat e it ∧ @Ne Nat e C ∧ @Ne Nat e D ∧ @Ne Nat it C ∧ @Ne Nat it D ∧ @Ne Nat C D) →
      wpAny (model prog w) A (isTrue c (compEnvC scope cl C env) (eval c (compEnvC scope cl C env))) (fun okb s₃ => if okb = true then
        wpAny (model prog w) A (eval elt (compEnvC scope cl C env)) (EndE h₀ L m { s₂ with heap := h, toks := tk } e oe it oi C oC D (lst ys) (fun y nw' => Inv (i + 1) (ys ++ [y]) nw')) E' s₃
        else EndE h₀ L m { s₂ with heap := h, toks := tk } e oe it oi C oC D (lst ys) (fun _ nw' => Inv (i + 1) ys nw') .none s₃) E' { s₂ with heap := h, toks := tk })
    (fin : ∀ ys nw, Inv items.size ys nw → Fin ys nw)
    (hRR : ∀ D C h tk m' ys news', Fr h₀ L h m → News h₀ L h ((D, lst ys) :: news') → Off1 D news' → h.Ns C m' → h₀.get? C = none → h₀.get? D = none → C ≠ L → D ≠ L → C ≠ D → (∀ p ∈ news', p.1 ≠ C) → Fin ys news' → RR (.ref D) C (.ok .next) { s₂ with heap := h, toks := tk }) :
    wpAny (model prog w) A (newList []) (fun acc s₃ => wpAny (model prog w) A (newFunctionEnv scope env.globals cl [] env.qual none .none (some env)) (fun cenv s₄ =>
      codeAny (model prog w) A (.compStart (.ListComp elt [⟨.Tuple [.Name a pa, .Name b pb] kk tp, iter, [c], 0⟩] scope pos) 0 (.ref e) acc { cenv with scope := relabel scope env }) (RR acc cenv.locals) s₄) E s₃) E s₂ := by
  subst hlo
  refine wpAny_newObj_type (wpAny_newFunctionEnv hcell (by intro y hy; simp at hy) (fun h₁ hns₁ hsb₁ => ?_) hkind)
  dsimp only at hns₁ hsb₁ ⊢
  generalize hH2 : s₂.heap.push { cls := .type "list", dict := none, data := .seq ([] : List Value).toArray } = H2 at hns₁ hsb₁ ⊢
  have hC : H2.objs.size = s₂.heap.objs.size + 1 := by rw [← hH2, Heap.size_push]
  have hDC : s₂.heap.objs.size ≠ H2.objs.size := by rw [hC]; exact Nat.ne_of_lt (Nat.lt_succ_self _)
  have below : ∀ b, b < s₂.heap.objs.size → b ≠ H2.objs.size ∧ b ≠ s₂.heap.objs.size := fun b hb => ⟨by rw [hC]; exact Nat.ne_of_lt (Nat.lt_succ_of_lt hb), Nat.ne_of_lt hb⟩
  have helt : e < s₂.heap.objs.size := Heap.lt_size hE
  have hilt : it < s₂.heap.objs.size := by obtain ⟨_, x, _⟩ := hI; exact Heap.lt_size x
  have old : ∀ b o, s₂.heap.get? b = some o → h₁.get? b = some o := fun b o e => hsb₁.extBut b o (below b (Heap.lt_size e)).1 (Heap.get?_push_of_some _ (hH2 ▸ Heap.get?_push_of_some _ e))
  have hacc : h₁.get? s₂.heap.objs.size = some (lst []) := hsb₁.extBut _ _ hDC (Heap.get?_push_of_some _ (hH2 ▸ Heap.get?_push_size _ rfl))
  have hE₁ : IsEnum h₁ e it 0 .none := old _ _ hE
  have hI₁ : h₁.IsListIter it l 0 := hI.at fun o x => old _ o x
  have fresh : ∀ a, s₂.heap.objs.size ≤ a → s₂.heap.get? a = none := fun a ha => by
    cases e : s₂.heap.get? a with
    | none => rfl
    | some o' => exact absurd (Heap.lt_size e) (Nat.not_lt.mpr ha)
  have fresh₀ : ∀ a, s₂.heap.objs.size ≤ a → h₀.get? a = none := fun a ha => by
    cases e : h₀.get? a with
    | none => rfl
    | some o' => have := F.keep a o' e; rw [fresh a ha] at this; cases this
  have hD₀ : h₀.get? s₂.heap.objs.size = none := fresh₀ _ (Nat.le_refl _)
  have hC₀ : h₀.get? H2.objs.size = none := fresh₀ _ (by rw [hC]; exact Nat.le_succ _)
  have hLlt : L < s₂.heap.objs.size := F.ns.lt
  have hDL : s₂.heap.objs.size ≠ L := Ne.symm (below L hLlt).2
  have hCL : H2.objs.size ≠ L := Ne.symm (below L hLlt).1
  have hCe : e ≠ H2.objs.size := (below e helt).1
  have hDe : e ≠ s₂.heap.objs.size := (below e helt).2
  have hCi : it ≠ H2.objs.size := (below it hilt).1
  have hDi : it ≠ s₂.heap.objs.size := (below it hilt).2
  have off₀ : Off4 e it H2.objs.size s₂.heap.objs.size news := fun p hp => ⟨(off p hp).1, (off p hp).2, (below _ (Heap.lt_size (N p hp).1)).1, (below _ (Heap.lt_size (N p hp).1)).2⟩
  have W := WalksT.enumerate (prog := prog) (w := w) hh e it l hei hle hli items
  have loop : ∀ s₃ : Shared, s₃ = { s₂ with heap := h₁, toks := s₂.toks + ([] : List (Str × Value)).length } →
      codeAny (model prog w) A (.compLoop (.ListComp elt [⟨.Tuple [.Name a pa, .Name b pb] kk tp, iter, [c], 0⟩] scope pos) 0 (.ref e) (.ref s₂.heap.objs.size) (compEnvC scope cl H2.objs.size env))
        (RR (.ref s₂.heap.objs.size) H2.objs.size) s₃ := by
    rintro s₃ rfl
    refine kct_loop
      (fun k s' => ∃ h' tk i ys m' nw, s' = { s₂ with heap := h', toks := tk } ∧ i ≤ items.size ∧ k = items.size + 1 - i ∧ ys.length ≤ i ∧ (∃ ov, IsEnum h' e it (i : Int) ov) ∧ h'.IsListIter it l i ∧ Fr h₀ L h' m ∧ h'.Ns H2.objs.size m' ∧
        News h₀ L h' ((s₂.heap.objs.size, lst ys) :: nw) ∧ Off4 e it H2.objs.size s₂.heap.objs.size nw ∧ Inv i ys nw) ?_ (items.size + 1)
      ⟨h₁, _, 0, [], _, news, rfl, Nat.zero_le _, rfl, Nat.le_refl _, ⟨_, hE₁⟩, hI₁, F.keeps old, hns₁, fun p hp => ?_, off₀, hinv⟩
    · rintro k s' ⟨h', tk, i, ys, m', nw, rfl, hi, rfl, hyl, hen, hli', F', hn', N', off', hI'⟩
      have hkl := keep _ _ _ hI'
      have hL' : h'.IsList l items := ⟨_, (N' _ (List.mem_cons_of_mem _ hkl)).1, rfl, ln, rfl⟩
      by_cases hlt : i < items.size
      · refine W.item i _ _ _ hlt ⟨hen, hli', hL'⟩ fun T vals h₂ tk₂ hP hTs hT hMd hk₂ => ?_
        obtain ⟨t, v, hv, rfl⟩ := hP
        refine W.go _ _ _ i T _ _ _ hMd fun h₃ hst₃ hk₃ => ?_
        have hTe : T ∉ [e, it] := W.apart i T _ hMd
        have hT₃ : h₃.IsTuple T #[.int i t, v] := hT.at fun o x => hk₃ T o hTe x
        have up₃ : ∀ c o, c ≠ e → c ≠ it → h'.get? c = some o → h₃.get? c = some o := fun c o h1 h2 x => hk₃ c o (by simp [h1, h2]) (hk₂ c o (by simp [h1, h2]) x)
        refine kcp_assign (env := compEnvC scope cl H2.objs.size env) hh hT₃ (lookup_relabel_local hxa) (lookup_relabel_local hxb) (by simp [compEnvC, relabel, hkind]) (hn'.at' fun o x => up₃ _ o (Ne.symm hCe) (Ne.symm hCi) x) fun h₄ tk₄ hn₄ hs₄ => ?_
        have up : ∀ c o, c ≠ e → c ≠ it → c ≠ H2.objs.size → h'.get? c = some o → h₄.get? c = some o := fun c o h1 h2 h3 x => hs₄ c o h3 (up₃ c o h1 h2 x)
        obtain ⟨⟨ov, hE₃⟩, hI₃, _⟩ := hst₃
        have hE₄ : IsEnum h₄ e it ((i + 1 : Nat) : Int) ov := hs₄ e _ hCe hE₃
        have hI₄ : h₄.IsListIter it l (i + 1) := hI₃.at fun o x => hs₄ it o hCi x
        obtain ⟨oe, heoe, hoe⟩ : ∃ oe : Obj, h₄.get? e = some oe ∧ ∀ h : Heap, h.get? e = some oe → ∃ ov, IsEnum h e it ((i + 1 : Nat) : Int) ov := ⟨_, hE₄, fun _ x => ⟨_, x⟩⟩
        obtain ⟨oi, heoi, hoi⟩ : ∃ oi : Obj, h₄.get? it = some oi ∧ ∀ h : Heap, h.get? it = some oi → h.IsListIter it l (i + 1) := by
          obtain ⟨oi, x, r⟩ := id hI₄
          exact ⟨oi, x, fun h y => ⟨oi, y, r⟩⟩
        obtain ⟨oC, heC, hoC⟩ := ns_obj hn₄
        have F₄ : Fr h₀ L h₄ m := ⟨F'.ns.at' fun o x => up _ o heL hitL (Ne.symm hCL) x, fun c o x => up c o (fun q => by rw [q, he₀] at x; cases x) (fun q => by rw [q, hit₀] at x; cases x) (fun q => by rw [q, hC₀] at x; cases x) (F'.keep c o x), F'.above⟩
        have N₄ : News h₀ L h₄ ((e, oe) :: (it, oi) :: (H2.objs.size, oC) :: (s₂.heap.objs.size, lst ys) :: nw) := fun q hq => by
          rcases List.mem_cons.mp hq with rfl | hq
          · exact ⟨heoe, Ne.symm heL, he₀⟩
          · rcases List.mem_cons.mp hq with rfl | hq
            · exact ⟨heoi, Ne.symm hitL, hit₀⟩
            · rcases List.mem_cons.mp hq with rfl | hq
              · exact ⟨heC, hCL, hC₀⟩
              · have z := N' q hq
                rcases List.mem_cons.mp hq with rfl | hq
                · exact ⟨up _ _ (Ne.symm hDe) (Ne.symm hDi) hDC z.1, z.2⟩
                · have o4 := off' q hq
                  exact ⟨up _ _ o4.1 o4.2.1 o4.2.2.1 z.1, z.2⟩
        have next : ∀ (ys' : List Value) (h₅ : Heap) (tk₅ : Nat) (nw₅ : List (Addr × Obj)), ys'.length ≤ i + 1 → Fr h₀ L h₅ m → News h₀ L h₅ ((e, oe) :: (it, oi) :: (H2.objs.size, oC) :: (s₂.heap.objs.size, lst ys') :: nw₅) → Off4 e it H2.objs.size s₂.heap.objs.size nw₅ → Inv (i + 1) ys' nw₅ →
            ∃ q', q' < items.size + 1 - i ∧ (∃ h' tk i ys m' nw, ({ s₂ with heap := h₅, toks := tk₅ } : Shared) = { s₂ with heap := h', toks := tk } ∧ i ≤ items.size ∧ q' = items.size + 1 - i ∧ ys.length ≤ i ∧ (∃ ov, IsEnum h' e it (i : Int) ov) ∧ h'.IsListIter it l i ∧ Fr h₀ L h' m ∧ h'.Ns H2.objs.size m' ∧
        News h₀ L h' ((s₂.heap.objs.size, lst ys) :: nw) ∧ Off4 e it H2.objs.size s₂.heap.objs.size nw ∧ Inv i ys nw) := by
          intro ys' h₅ tk₅ nw₅ hl F₅ N₅ off₅ I₅
          have ze := (N₅ (e, oe) List.mem_cons_self).1
          have zi := (N₅ (it, oi) (List.mem_cons_of_mem _ List.mem_cons_self)).1
          have zC := (N₅ (H2.objs.size, oC) (List.mem_cons_of_mem _ (List.mem_cons_of_mem _ List.mem_cons_self))).1
          exact ⟨items.size + 1 - (i + 1), by omega, h₅, tk₅, i + 1, ys', _, nw₅, rfl, hlt, rfl, hl, hoe h₅ ze, hoi h₅ zi, F₅, hoC.ns zC, fun q hq => N₅ q (List.mem_cons_of_mem _ (List.mem_cons_of_mem _ (List.mem_cons_of_mem _ hq))), off₅, I₅⟩
        refine wpAny_mono (step i ys nw v t oe oi H2.objs.size oC s₂.heap.objs.size _ h₄ _ _ hv hI' hoC (by simp [hab]) (by simp) F₄ N₄ off' ⟨hei, hCe, hDe, hCi, hDi, Ne.symm hDC⟩) (fun okb s₅ h₅ => ?_) fun _ _ e => e
        cases okb with
        | false =>
          simp only [Bool.false_eq_true, if_false] at h₅ ⊢
          obtain ⟨h₅, tk₅, nw₅, rfl, F₅, N₅, off₅, I₅⟩ := h₅
          exact next ys h₅ tk₅ nw₅ (Nat.le_succ_of_le hyl) F₅ N₅ off₅ I₅
        | true =>
          simp only [if_true] at h₅ ⊢
          refine wpAny_mono h₅ (fun y s₆ h₆ => ?_) fun _ _ e => e
          obtain ⟨h₅, tk₅, nw₅, rfl, F₅, N₅, off₅, I₅⟩ := h₆
          have ze := (N₅ (e, oe) List.mem_cons_self).1
          have zi := (N₅ (it, oi) (List.mem_cons_of_mem _ List.mem_cons_self)).1
          have zC := (N₅ (H2.objs.size, oC) (List.mem_cons_of_mem _ (List.mem_cons_of_mem _ List.mem_cons_self))).1
          have zD := (N₅ (s₂.heap.objs.size, lst ys) (List.mem_cons_of_mem _ (List.mem_cons_of_mem _ (List.mem_cons_of_mem _ List.mem_cons_self)))).1
          have N₅' : News h₀ L h₅ nw₅ := fun q hq => N₅ q (List.mem_cons_of_mem _ (List.mem_cons_of_mem _ (List.mem_cons_of_mem _ (List.mem_cons_of_mem _ hq))))
          refine append_at (hsz := by show ys.toArray.size ≤ sizeLine; rw [List.size_toArray]; exact Nat.le_trans hyl (Nat.le_trans hi hsz)) zD fun h₆ hs₆ hD₆ => ?_
          refine next (ys ++ [y]) h₆ _ nw₅ (by rw [List.length_append, List.length_singleton]; exact Nat.succ_le_succ hyl) (F₅.change hs₆ hDL hD₀) (fun q hq => ?_) off₅ I₅
          rcases List.mem_cons.mp hq with rfl | hq
          · exact ⟨hs₆.extBut e oe hDe ze, Ne.symm heL, he₀⟩
          rcases List.mem_cons.mp hq with rfl | hq
          · exact ⟨hs₆.extBut it oi hDi zi, Ne.symm hitL, hit₀⟩
          rcases List.mem_cons.mp hq with rfl | hq
          · exact ⟨hs₆.extBut _ oC (Ne.symm hDC) zC, hCL, hC₀⟩
          rcases List.mem_cons.mp hq with rfl | hq
          · exact ⟨hD₆.trans (congrArg some (lst_snoc ys y)), hDL, hD₀⟩
          · exact ⟨hs₆.extBut _ _ (off₅ q hq).2.2.2 (N₅' q hq).1, (N₅' q hq).2⟩
      · have hin : i = items.size := Nat.le_antisymm hi (Nat.not_lt.mp hlt)
        subst hin
        refine W.done _ _ _ ⟨hen, hli', hL'⟩ fun h₂ tk₂ hk₂ => ?_
        have up : ∀ c o, c ≠ e → c ≠ it → h'.get? c = some o → h₂.get? c = some o := fun c o h1 h2 x => hk₂ c o (by simp [h1, h2]) x
        refine hRR _ _ h₂ tk₂ _ ys nw ⟨F'.ns.at' fun o x => up _ o heL hitL x, fun c o x => up c o (fun q => by rw [q, he₀] at x; cases x) (fun q => by rw [q, hit₀] at x; cases x) (F'.keep c o x), F'.above⟩ (fun q hq => ?_) ?_ (hn'.at' fun o x => up _ o (Ne.symm hCe) (Ne.symm hCi) x) hC₀ hD₀ hCL hDL (Ne.symm hDC) (fun p hp => (off' p hp).2.2.1) (fin ys nw hI')
        · have z := N' q hq
          rcases List.mem_cons.mp hq with rfl | hq
          · exact ⟨up _ _ (Ne.symm hDe) (Ne.symm hDi) z.1, z.2⟩
          · exact ⟨up _ _ (off' q hq).1 (off' q hq).2.1 z.1, z.2⟩
        · exact Off3.one (I := e) (C := H2.objs.size) (Off3.of fun p hp => ⟨(off' p hp).1, (off' p hp).2.2.1, (off' p hp).2.2.2⟩)
    · rcases List.mem_cons.mp hp with rfl | hp
      · exact ⟨hacc, hDL, hD₀⟩
      · exact ⟨old _ _ (N p hp).1, (N p hp).2⟩
  exact codeAny_compStart_list (loop _ rfl) (wpAny_pyIter_enum hE₁ (loop _ rfl))

def StepE (prog : Program) (w : World) (A : Around) (h₀ : Heap) (L : Addr) (m : Str → Option Value) (env : Env) (c elt : PySem.Expr) (a b : Str) (scope : Scope) (cl : List (Str × Addr)) (s : Shared) (items : Array Value) (Inv : Nat → List Value → List (Addr × Obj) → Prop) (e it : Addr) : Prop :=
  ∀ i ys nw v (t : Tok) oe oi C oC D m₂ h tk (E' : Value → Shared → Prop), items[i]? = some v → Inv i ys nw → NsObj oC m₂ → m₂ a = some (.int i t) → m₂ b = some v → Fr h₀ L h m → News h₀ L h ((e, oe) :: (it, oi) :: (C, oC) :: (D, lst ys) :: nw) → Off4 e it C D nw →
      (@Ne Nat e it ∧ @Ne Nat e C ∧ @Ne Nat e D ∧ @Ne Nat it C ∧ @Ne Nat it D ∧ @Ne Nat C D) →
      wpAny (model prog w) A (isTrue c (compEnvC scope cl C env) (eval c (compEnvC scope cl C env))) (fun okb s₃ => if okb = true then
        wpAny (model prog w) A (eval elt (compEnvC scope cl C env)) (EndE h₀ L m { s with heap := h, toks := tk } e oe it oi C oC D (lst ys) (fun y nw' => Inv (i + 1) (ys ++ [y]) nw')) E' s₃
        else EndE h₀ L m { s with heap := h, toks := tk } e oe it oi C oC D (lst ys) (fun _ nw' => Inv (i + 1) ys nw') .none s₃) E' { s with heap := h, toks := tk }
def SrcE (prog : Program) (w : World) (A : Around) (h₀ : Heap) (L : Addr) (m : Str → Option Value) (env : Env) (c elt : PySem.Expr) (a b : Str) (scope : Scope) (cl : List (Str × Addr)) (Fin : Shared → List Value → List (Addr × Obj) → Prop) (xv : Value) (s₁ : Shared) : Prop :=
  ∃ (e it l : Addr) (items : Array Value) (ln : Nat) (news : List (Addr × Obj)) (Inv : Nat → List Value → List (Addr × Obj) → Prop), xv = .ref e ∧ A.handled = none ∧ e ≠ it ∧ l ≠ e ∧ l ≠ it ∧ items.size ≤ sizeLine ∧ IsEnum s₁.heap e it 0 .none ∧ s₁.heap.IsListIter it l 0 ∧ Fr h₀ L s₁.heap m ∧ News h₀ L s₁.heap news ∧
    L ≠ e ∧ L ≠ it ∧ h₀.get? e = none ∧ h₀.get? it = none ∧ (∀ p ∈ news, p.1 ≠ e ∧ p.1 ≠ it) ∧ Inv 0 [] news ∧ (∀ i ys nw, Inv i ys nw → (l, listOf items ln) ∈ nw) ∧ StepE prog w A h₀ L m env c elt a b scope cl s₁ items Inv e it ∧ (∀ ys nw, Inv items.size ys nw → Fin s₁ ys nw)
theorem enum_call {c elt : PySem.Expr} {a b : Str} {scope : Scope} {cl : List (Str × Addr)} {Fin : Shared → List Value → List (Addr × Obj) → Prop} {l : Addr} {items : Array Value} {ln : Nat} {news : List (Addr × Obj)} (Inv : Nat → List Value → List (Addr × Obj) → Prop)
    (hh : A.handled = none) (F : Fr h₀ L s.heap m) (N : News h₀ L s.heap news) (hl : (l, listOf items ln) ∈ news) (hsz : items.size ≤ sizeLine) (h0 : Inv 0 [] news) (keep : ∀ i ys nw, Inv i ys nw → (l, listOf items ln) ∈ nw)
    (step : ∀ e it, (∀ p ∈ news, p.1 < e ∧ p.1 < it) → StepE prog w A h₀ L m env c elt a b scope cl s items Inv e it) (fin : ∀ g ys nw, Inv items.size ys nw → Fin { s with heap := g } ys nw) :
    wpAny (model prog w) A (call (.type "enumerate") [.ref l]) (SrcE prog w A h₀ L m env c elt a b scope cl Fin) E s := by
  have hL : s.heap.IsList l items := ⟨_, N.get hl, rfl, ln, rfl⟩
  have hlt : l < s.heap.objs.size := Heap.lt_size (N.get hl)
  have hLs : L < s.heap.objs.size := F.ns.lt
  refine call_enumerate_list hL fun h' hE hI hsz' hk => ?_
  exact ⟨s.heap.objs.size + 1, s.heap.objs.size, l, items, ln, news, Inv, rfl, hh, Nat.succ_ne_self _, ktu_ne 1 hlt, Nat.ne_of_lt hlt, hsz, hE, hI, F.keeps hk, N.grown hk, ktu_ne 1 hLs, Nat.ne_of_lt hLs, ktu_new F (Nat.le_add_right _ _), ktu_new F (Nat.le_refl _),
    fun p hp => ⟨ktu_ne 1 (Heap.lt_size (N p hp).1), Nat.ne_of_lt (Heap.lt_size (N p hp).1)⟩, h0, keep, step _ _ (fun p hp => ⟨Nat.lt_succ_of_lt (Heap.lt_size (N p hp).1), Heap.lt_size (N p hp).1⟩), fin h'⟩

theorem enum_Assign {elt iter c : PySem.Expr} {a b y : Str} {pa pb tp py : Pos} {kk : Nat} {scope : Scope} {cl : List (Str × Addr)} {pos spos : Pos} {Q : Flow → Shared → Prop} (F₀ : Fr h₀ L s.heap m) (hLe : env.locals = L)
    (hsw : swapsWith (.ListComp elt [⟨.Tuple [.Name a pa, .Name b pb] kk tp, iter, [c], 0⟩] scope pos) (some (.Name y py)) spos.line env = pure true)
    (hclos : closureFor scope env = pure cl) (hcell : ∀ z ∈ scope.names, z.2 ≠ .cell) (hkind : scope.kind = .function)
    (hnames : ∀ z ∈ scope.names, z.2 = .local → scope.names.lookup z.1 = some .local) (hxa : scope.names.lookup a = some .local) (hxb : scope.names.lookup b = some .local) (hab : ¬ a = b)
    (hy : env.kindOf y = some .local) (hp : (env.scope.kind == .class || (env.scope.kind == .module && env.locals != env.globals)) = false)
    (h : wpAny (model prog w) A (eval iter env) (SrcE prog w A h₀ L m env c elt a b scope cl (fun s₂ => FinA h₀ L m s₂ y Q)) E s)
    (hs : ∀ x, foldedSetIterable iter env x = pure x := by intro _; rfl) :
    wpAny (model prog w) A (exec (.Assign [.Name y py] (.ListComp elt [⟨.Tuple [.Name a pa, .Name b pb] kk tp, iter, [c], 0⟩] scope pos) spos) env) Q E s := by
  subst hLe
  rw [exec_Assign_Name_used _ _ _ _ hsw]
  refine wpAny_bind (wpAny_standAt (wpAny_bind ?_))
  show wpAny _ A (do let _ ← comprehension (.ListComp elt [⟨.Tuple [.Name a pa, .Name b pb] kk tp, iter, [c], 0⟩] scope pos) scope env _ (newList []) false (eval iter env) (some (assign (.Name y py) env))) _ _ s
  refine wpAny_bind (wpAny_mono (wpAny_comprehension_free (use := some (assign (.Name y py) env)) (Q := fun _ s' => Q .next s') rfl hs hclos hkind hnames
    (wpAny_mono h (fun xv s₁ h₁ => ?_) fun _ _ e => e)) (fun _ s' hq => wpAny_pure (wpAny_pure hq)) fun _ _ e => e)
  obtain ⟨e, it, l, items, ln, news, Inv, rfl, hh, hei, hle, hli, hsz, hE, hI, F, N, heL, hitL, he₀, hit₀, off, h0, keep, step, fin⟩ := h₁
  refine wpAny_pyIter_enum hE ?_
  refine enum_block Inv hh hei hle hli rfl hsz hE hI hcell hkind hxa hxb hab F N heL hitL he₀ hit₀ off h0 keep step fin ?_
  intro D C h' tk m' ys news' F' N' o1 hn hC₀ hD₀ hCL hDL hCD offC fin
  show wpAny _ A (assign (.Name y py) env (.ref D)) _ _ _
  refine wpAny_assign_Name (wpAny_storeName_local hy F'.ns (fun h₂ hn₂ hs₂ => ?_) hp)
  have hL₀ : h₀.get? env.locals = none := Heap.get?_none_of_le F'.above
  have F₂ : Fr h₀ env.locals h₂ (fun z => if z = y then some (.ref D) else m z) := ⟨hn₂, fun b o e => hs₂.extBut b o (fun q => by rw [q, hL₀] at e; cases e) (F'.keep b o e), F'.above⟩
  refine ⟨m', hn.sameBut hs₂ hCL, fun h'' hs'' => fin D h'' _ (F₂.change hs'' hCL hC₀) (fun p hp => ?_) o1⟩
  have z : h₂.get? p.1 = some p.2 := hs₂.extBut _ _ (N' p hp).2.1 (N' p hp).1
  refine ⟨hs''.extBut _ _ ?_ z, (N' p hp).2⟩
  rcases List.mem_cons.mp hp with rfl | hp
  · exact Ne.symm hCD
  · exact offC p hp
theorem enum_callC {c elt : PySem.Expr} {a b : Str} {scope : Scope} {cl : List (Str × Addr)} {Fin : Shared → List Value → List (Addr × Obj) → Prop} {l : Addr} {items : Array Value} {ln : Nat} {news : List (Addr × Obj)} (Inv : Nat → List Value → Prop)
    (hh : A.handled = none) (F : Fr h₀ L s.heap m) (N : News h₀ L s.heap news) (hl : (l, listOf items ln) ∈ news) (hsz : items.size ≤ sizeLine) (h0 : Inv 0 [])
    (step : ∀ e it, (∀ p ∈ news, p.1 < e ∧ p.1 < it) → StepE prog w A h₀ L m env c elt a b scope cl s items (fun i ys nw => nw = news ∧ Inv i ys) e it) (fin : ∀ g ys, Inv items.size ys → Fin { s with heap := g } ys news) :
    wpAny (model prog w) A (call (.type "enumerate") [.ref l]) (SrcE prog w A h₀ L m env c elt a b scope cl Fin) E s :=
  enum_call (fun i ys nw => nw = news ∧ Inv i ys) hh F N hl hsz ⟨rfl, h0⟩ (fun _ _ _ h => h.1 ▸ hl) step fun g ys nw h => h.1 ▸ fin g ys h.2
theorem enum_callA {c elt : PySem.Expr} {a b : Str} {scope : Scope} {cl : List (Str × Addr)} {Fin : Shared → List Value → List (Addr × Obj) → Prop} {l : Addr} {items : Array Value} {ln : Nat} {news : List (Addr × Obj)} (Inv : Nat → List Value → List (Addr × Obj) → Prop)
    (hh : A.handled = none) (F : Fr h₀ L s.heap m) (N : News h₀ L s.heap news) (hl : (l, listOf items ln) ∈ news) (hsz : items.size ≤ sizeLine) (h0 : Inv 0 [] [])
    (step : ∀ e it, (∀ p ∈ news, p.1 < e ∧ p.1 < it) → StepE prog w A h₀ L m env c elt a b scope cl s items (fun i ys nw => ∃ add, nw = add ++ news ∧ Inv i ys add) e it) (fin : ∀ g ys add, Inv items.size ys add → Fin { s with heap := g } ys (add ++ news)) :
    wpAny (model prog w) A (call (.type "enumerate") [.ref l]) (SrcE prog w A h₀ L m env c elt a b scope cl Fin) E s :=
  enum_call (fun i ys nw => ∃ add, nw = add ++ news ∧ Inv i ys add) hh F N hl hsz ⟨[], rfl, h0⟩ (fun _ _ _ ⟨_, e, _⟩ => e ▸ List.mem_append_right _ hl) step fun g ys nw ⟨add, e, h⟩ => e ▸ fin g ys add h
end
end Mine

/- M4 -/

theorem Mine.word32 : True := by
  k_with "call ref nil#" => first | (((try dsimp only [List.nil_append, List.cons_append]); (with_reducible show wpAny _ _ (call (Value.ref 149) [Value.ref _]) _ _ _); k_dflt (refine' Mine.dead_spec ?Bw ?Fw ?Xw ?Nw ?Tw ?kw ?dw ?uw ?vw ?lw ?_; (case Bw => k_asm); (case Fw => k_asm); (case Xw => k_asm); (case Nw => k_asm); (case Tw => k_asm); (case kw => first | exact rfl | assumption); (case dw => ktr_room); (case uw => ktr_units); (case vw => walk_at "m:sees"); (case lw => assumption); k_whole); intro _ _ _ _)) | fail "no"
  k_with "call ref cons nil#" => first | (((try dsimp only [List.nil_append, List.cons_append]); (with_reducible show wpAny _ _ (call (Value.ref 149) [Value.ref _]) _ _ _); k_dflt (refine' Mine.dead_spec ?Bw ?Fw ?Xw ?Nw ?Tw ?kw ?dw ?uw ?vw ?lw ?_; (case Bw => k_asm); (case Fw => k_asm); (case Xw => k_asm); (case Nw => k_asm); (case Tw => k_asm); (case kw => first | exact rfl | assumption); (case dw => ktr_room); (case uw => ktr_units); (case vw => walk_at "m:sees"); (case lw => assumption); k_whole); intro _ _ _ _)) | fail "no"
  trivial

theorem Mine.word33 : True := by
  k_with "call ref nil#" => first | (((try dsimp only [List.nil_append, List.cons_append]); (with_reducible show wpAny _ _ (call (Value.ref 154) [Value.ref _]) _ _ _); k_dflt (refine' Mine.wait_spec ?Bw ?Fw ?Xw ?Nw ?Tw ?kw ?dw ?uw ?vw ?lw ?hhw ?_; (case Bw => k_asm); (case Fw => k_asm); (case Xw => k_asm); (case Nw => k_asm); (case Tw => k_asm); (case kw => first | exact rfl | assumption); (case dw => ktr_room); (case uw => ktr_units); (case vw => walk_at "m:sees"); (case lw => assumption); (case hhw => assumption); k_whole); intro _ _ _ _ _ _ _ _)) | fail "no"
  k_with "call ref cons nil#" => first | (((try dsimp only [List.nil_append, List.cons_append]); (with_reducible show wpAny _ _ (call (Value.ref 154) [Value.ref _]) _ _ _); k_dflt (refine' Mine.wait_spec ?Bw ?Fw ?Xw ?Nw ?Tw ?kw ?dw ?uw ?vw ?lw ?hhw ?_; (case Bw => k_asm); (case Fw => k_asm); (case Xw => k_asm); (case Nw => k_asm); (case Tw => k_asm); (case kw => first | exact rfl | assumption); (case dw => ktr_room); (case uw => ktr_units); (case vw => walk_at "m:sees"); (case lw => assumption); (case hhw => assumption); k_whole); intro _ _ _ _ _ _ _ _)) | fail "no"
  trivial

theorem Mine.word34 : True := by
  k_with "exec Assign cons ListComp#" => first | ((k_here; (with_reducible show wpAny _ _ (exec (Stmt.Assign [Expr.Name _ _] (Expr.ListComp _ [⟨Expr.Name _ _, _, [], _⟩] _ _) _) _) _ _ _); k_dflt (refine LCg.Assign_ListComp_U (F₀ := by k_asm) (by rfl) (by with_unfolding_all rfl) (by with_unfolding_all rfl) (by decide) (by rfl) (by decide) (by rfl) (by rfl) (by rfl) ?_))) | fail "no"
  k_with "exec Assign cons ListComp#" => first | ((k_here; (with_reducible show wpAny _ _ (exec (Stmt.Assign [Expr.Name _ _] (Expr.ListComp _ [⟨Expr.Tuple _ _ _, _, [_], _⟩] _ _) _) _) _ _ _); k_dflt (refine Mine.enum_Assign (F₀ := by k_asm) (by rfl) (by with_unfolding_all rfl) (by with_unfolding_all rfl) (by decide) (by rfl) (by decide) (by rfl) (by rfl) (by decide) (by rfl) (by rfl) ?_))) | fail "no"
  trivial
namespace Mine
theorem stands_spec {pg : Program} {ls : List Str} {w : World} {mean : ExcName → Option Value} {mg mb : Str → Option Value} {A₀ : Around} {dp un : Nat} {gd : Option (List Code)} {base h₀ : Heap} {outer : List Env} {L : Addr} {m : Str → Option Value} {cn : Str} {cs : Scope} {ca : Addr} {ccd : Value} {cl : List (Str × Addr)} {s : Shared} {Q E : Value → Shared → Prop} {S Sd all : Addr} {C : Addr} {here : Value} {k1 k2 k3 : Tok} {cs' : List Cell} {an : Nat} {R : Addr} {rn : Nat} {news : List (Addr × Obj)}
    (B : Below A₀ base outer h₀) (F : Fr h₀ L s.heap m) (X : Frag.In (hd.heap_39 w.params) h₀) (N : News h₀ L s.heap (news)) (T : Top pg ls mean mg mb h₀) (hk : cs.kind = .function) (hdp : dp + 30 < recursionLimit) (hun : un + 40 * 30 < cLine)
    (V : Sees w news S Sd all C here k1 k2 k3 an cs') (W : Rows news R rn cs') (Y : Sync cs')
    (h : ∀ h' tk', Fr h₀ L h' m → News h₀ L h' news → Q (.bool true) { s with heap := h', toks := tk' }) :
    wpAny (model PySem.Challenge.rw_pf0070_01.row.prog w) (ktrTop dp un gd cn cs L ca ccd cl outer) (call (.ref 229) [.ref S, .ref R]) Q E s := by
  w_top off
  have hS := V.s
  have hSd := V.d
  have hall := V.a
  have hlen := Y.len
  have hhw : ∀ c ∈ cs', handedIn c.gwf = true := fun c hc => (Y.hand c hc).1
  refine wpAny_call ?_
  k_dflt ktr_enter
  (rename Fr _ _ _ _ => F0h); obtain ⟨m0h, F1h⟩ := Mine.fr_hide2 (x1 := Str.ofString "scheduler") (v1 := .ref S) (x2 := Str.ofString "rows") (v2 := .ref R) F0h rfl rfl; clear F0h
  k_steps
  refine comp_ind (fun i ys n => ∃ add, n = add ++ news ∧ Seqs "list" ys ((cs'.take i).map fun c => [Value.str c.gst c.gt, c.gwf, c.gan]) add) ?_ ?_ _ 0 [] news (Nat.zero_add _) ⟨[], rfl, Seqs.nil⟩
  · rintro i ys n9 v I oI C oC D m₂ h tk E' hi ⟨add, rfl, ht⟩ hv hC hx F' N' off ne
    obtain ⟨c, hi', hm, rfl⟩ := get_map hv
    have hcg := List.mem_append_right add (V.g c hm).1
    have hcd := List.mem_append_right add (V.g c hm).2
    have hall := List.mem_append_right add hall
    have hhw := (Y.hand c hm).1
    have hhn := (Y.hand c hm).2
    k_steps
    refine cend_new (by k_asm) (by k_asm) (by assumption) off (by walk_at "m:src") ⟨_ :: add, rfl, ?_⟩
    rw [← take_map hi']; exact ht.snoc
  · rintro ys n9 ⟨add, rfl, ht⟩
    rw [take_allm] at ht
    have V1 : Sees w (add ++ news) S Sd all C here k1 k2 k3 an cs' := V.mono fun p hp => List.mem_append_right _ hp
    have W1 : Rows (add ++ news) R rn cs' := W.mono fun p hp => List.mem_append_right _ hp
    have hR1 := W1.l
    k_steps
    refine enum_callC (fun i ys => IntsAre ys (((cs'.take i).filter fun c => c.gst == Str.ofString "ready").map fun c => c.i)) (by rfl) (by k_asm) (by k_asm) (by k_mem) (by simp only [List.size_toArray, List.length_map]; rw [sizeLine_eq]; omega) .nil ?_ ?_
    · intro e it _ i ys nw v t oe oi C oC D m₂ h tk E' hv hI hC ha hb F' N' off ne
      obtain ⟨rfl, hI⟩ := hI
      obtain ⟨c, hi', hm, rfl⟩ := get_map hv
      have hcr := W1.r c hm
      have hse := (Y.same c hm).1
      k_steps
      · exact EndE.intro (by k_asm) (by k_asm) (by walk_at "m:tail") off ⟨rfl, by rw [← take_yes hi' (by rw [← hse]; assumption), (Y.idx _ _ hi')]; exact ints_snoc hI _ _⟩
      · exact EndE.intro (by k_asm) (by k_asm) (by walk_at "m:tail") off ⟨rfl, by rw [← take_no hi' (by rw [← hse]; assumption)]; exact hI⟩
    · intro g ys2 hI2
      rw [take_all] at hI2
      k_steps
      refine enum_callA (fun i ys add => Pairs ys (((cs'.take i).filter fun c => c.gst == Str.ofString "blocked").map fun c => (c.i, c.gwf)) add) (by rfl) (by k_asm) (by k_asm) (by k_mem) (by simp only [List.size_toArray, List.length_map]; rw [sizeLine_eq]; omega) .nil ?_ ?_
      · intro e it _ i ys nw v t oe oi C oC D m₂ h tk E' hv hI hC ha hb F' N' off ne
        obtain ⟨add3, rfl, hI⟩ := hI
        obtain ⟨c, hi', hm, rfl⟩ := get_map hv
        have hcr := W1.r c hm
        have hse := (Y.same c hm).1
        have hse2 := (Y.same c hm).2.1
        k_steps
        · refine EndE.new (by k_asm) (by k_asm) (by assumption) off ⟨_ :: add3, rfl, ?_⟩
          rw [← take_yes hi' (by rw [← hse]; assumption), hse2, Y.idx _ _ hi']; exact hI.snoc
        · exact EndE.intro (by k_asm) (by k_asm) (by walk_at "m:tail") off ⟨add3, rfl, by rw [← take_no hi' (by rw [← hse]; assumption)]; exact hI⟩
      · intro g ys3 add3 hI3
        rw [take_all] at hI3
        k_steps
        · exact told_rows (by k_asm) ht (fun p hp => List.mem_cons_of_mem _ (List.mem_append_right _ (List.mem_cons_of_mem _ (List.mem_cons_of_mem _ (List.mem_append_left _ hp))))) (fun c hc => by have := W1.r c hc; k_mem) Y (by ktr_units)
        · refine comp_const (fun i ys => ys = (((cs'.filter fun c => c.gst == Str.ofString "ready").take i).map fun c => Value.int c.i c.it)) ?_ ?_ rfl
          · rintro i ys v I oI C oC D m₂ h tk E' hi rfl hv hC hx F' N' off ne
            obtain ⟨c, hi', hm, rfl⟩ := get_map hv
            have hm2 := (List.mem_filter.mp hm).1
            have hcg := (V1.g c hm2).1
            have hcd := (V1.g c hm2).2
            k_steps
            walk_at "m:cend"
            exact take_map hi'
          · rintro ys rfl
            rw [take_allm]
            k_steps
            · exact ints_cells hI2
            · exact wait_pairs (by k_asm) (by assumption) (by walk_at "m:tail") hI3 (by walk_at "m:tail") (by ktr_units)
            · have e1 := ints_emp hI2
              have e2 := pairs_emp hI3
              have e3 : ys2.toArray.isEmpty = true := by assumption
              refine q_eq (h _ _ (by k_asm) (by walk_at "m:back")) ?_
              rw [e2, ← e1, e3]
              simp
            · have e1 := ints_emp hI2
              have e3 : ys2.toArray.isEmpty = false := by assumption
              refine q_eq (h _ _ (by k_asm) (by walk_at "m:back")) ?_
              rw [← e1, e3]
              simp
end Mine

/- Mk2 -/

theorem Mine.word35 : True := by
  k_with "m:enterC#" => first | ((refine' code_defC ?k1w ?k2w ?k3w ?k4w ?k5w ?kAw ?kFw ?kKw ?k6w ?k7w ?k8w ?k9w ?kBw ?kDw ?_ ?c2w ?c3w ?c4w; (case kAw => exact rfl); (case kFw => exact rfl); (case kKw => first | exact rfl | assumption); (case k1w => k_asm); (case k2w => k_asm); (case k3w => k_asm); (case k4w => k_asm); (case k5w => k_asm); (case k6w => k_is); (case k7w => k_is); (case k8w => ktr_room); (case k9w => exact BindsTo.of_eq rfl); (case kBw => exact rfl); (case kDw => decide +kernel); (case c2w => exact rfl); (case c3w => exact rfl); (case c4w => exact rfl); k_whole; intro _ _ _ _ _ _ _ N'w Y'w B'w _ _ l1w; (try k_lt l1w); k_cells Y'w; (try simp only [List.cons_append, List.nil_append] at N'w); (try dsimp only); (try k_lift B'w); (try k_fold))) | fail "no"
  k_with "m:lt9#" => first | (first | assumption | exact True.intro | (refine And.intro (by (try dsimp only); omega) ?_; walk_at "m:lt9") | exact Mine.allLt_le (Nat.le_succ _) (by assumption) | (refine Mine.allLt_le (Nat.le_of_lt ?_) ?_; rotate_left; assumption; omega)) | fail "no"
  k_with "m:dcons#" => first | (first | assumption | (refine Mine.Dis.cons ?h9w ?k9w; (case k9w => ((try dsimp only); walk_at "m:lt9")); (case h9w => walk_at "m:dcons"))) | fail "no"
  trivial
namespace Mine
abbrev PL := List (Addr × Obj)
theorem pc (P A B : PL) : (P ++ (A ++ B)).Perm (A ++ (P ++ B)) := List.perm_append_comm_assoc P A B
theorem al (A : PL) {B C : PL} (p : B.Perm C) : (A ++ B).Perm (A ++ C) := List.Perm.append_left A p
/-- through one, through two lists -/
theorem pc2 (P X Y Z : PL) : (P ++ (X ++ (Y ++ Z))).Perm (X ++ (Y ++ (P ++ Z))) := (pc P X _).trans (al X (pc P Y Z))
theorem pc3 (P W X Y Z : PL) : (P ++ (W ++ (X ++ (Y ++ Z)))).Perm (W ++ (X ++ (Y ++ (P ++ Z)))) := (pc P W _).trans (al W (pc2 P X Y Z))
theorem pc4 (P V W X Y Z : PL) : (P ++ (V ++ (W ++ (X ++ (Y ++ Z))))).Perm (V ++ (W ++ (X ++ (Y ++ (P ++ Z))))) := (pc P V _).trans (al V (pc3 P W X Y Z))
theorem both {h₀ h : Heap} {L : Addr} {l l' : PL} (N : News h₀ L h l) (D : Dis l) (p : l.Perm l') : News h₀ L h l' ∧ Dis l' := ⟨news_perm N p, D.perm p⟩
end Mine
namespace Mine
theorem shuf {h₀ h : Heap} {L : Addr} {P X R : List (Addr × Obj)} (E' : List (Addr × Obj)) (N : News h₀ L h (P ++ (X ++ (E' ++ R)))) (D : Dis (P ++ (X ++ (E' ++ R)))) : News h₀ L h (P ++ (E' ++ (X ++ R))) ∧ Dis (P ++ (E' ++ (X ++ R))) := both N D (al P (pc X E' R))
theorem cells_get {w : World} : ∀ {cs : List Cell}, ∀ c ∈ cs, ((c.ra, rowObj c) ∈ cells w cs) ∧ ((c.g, instObj 71 c.d) ∈ cells w cs) ∧ ((c.d, gdict w c) ∈ cells w cs) ∧ ((c.f, c.fo) ∈ cells w cs) := by
  intro cs c hc
  unfold cells
  simp only [List.mem_flatMap]
  exact ⟨⟨c, hc, by simp⟩, ⟨c, hc, by simp⟩, ⟨c, hc, by simp⟩, ⟨c, hc, by simp⟩⟩
theorem sees_of {w : World} {news : List (Addr × Obj)} {S Sd all C : Addr} {here : Value} {k1 k2 k3 : Tok} {an : Nat} {cs : List Cell} (h1 : (S, instObj 157 Sd) ∈ news) (h2 : (Sd, sdict w k1 k2 k3 C all here) ∈ news) (h3 : (all, listOf (cs.map fun c => Value.ref c.g).toArray an) ∈ news) (h : ∀ p ∈ cells w cs, p ∈ news) :
    Sees w news S Sd all C here k1 k2 k3 an cs := ⟨h1, h2, h3, fun c hc => ⟨h _ (cells_get c hc).2.1, h _ (cells_get c hc).2.2.1⟩⟩
theorem rows_of {w : World} {news : List (Addr × Obj)} {R : Addr} {rn : Nat} {cs : List Cell} (h1 : (R, listOf (cs.map fun c => Value.ref c.ra).toArray rn) ∈ news) (h : ∀ p ∈ cells w cs, p ∈ news) : Rows news R rn cs := ⟨h1, fun c hc => h _ (cells_get c hc).1⟩
end Mine
theorem Mine.word36 : True := by
  k_with "m:sees#" => first | (exact Mine.sees_of (by k_mem) (by k_mem) (by k_mem) (by walk_at "m:tail")) | fail "no"
  k_with "m:rows#" => first | (exact Mine.rows_of (by k_mem) (by walk_at "m:tail")) | fail "no"
  k_with "m:facts#" => first | ((simp only [Mine.Dis, List.map_cons, List.nodup_cons, List.mem_cons, not_or] at *; walk_at "m:split")) | fail "no"
  trivial

/- Cm -/
namespace Mine
/-- a tree that calls nothing and leaves each object's class and dict -/
def Calm {α : Type} : Sem α → Prop
  | .pure _ => True
  | .raise _ => True
  | .unsupported _ => True
  | .finish _ => True
  | .rule _ k => Calm (k ())
  | .at _ k => Calm (k ())
  | .load _ _ k => ∀ o, Calm (k o)
  | .update _ _ f k => (∀ o : Obj, (f o).cls = o.cls ∧ (f o).dict = o.dict ∧ (f o).isFreed = o.isFreed) ∧ Calm (k ())
  | .alloc _ k => ∀ a, Calm (k a)
  | .loadIfAlive _ k => ∀ o, Calm (k o)
  | .point _ k => Calm (k ())
  | .fresh k => ∀ t, Calm (k t)
  | .ask k => ∀ x, Calm (k x)
  | .stack k => ∀ x, Calm (k x)
  | .handled _ k => ∀ x, Calm (k x)
  | _ => False
def Kept (h h' : Heap) : Prop := ∀ b o, h.get? b = some o → ∃ o', h'.get? b = some o' ∧ o'.cls = o.cls ∧ o'.dict = o.dict
theorem Kept.refl (h : Heap) : Kept h h := fun _ o e => ⟨o, e, rfl, rfl⟩
theorem Kept.trans {h₁ h₂ h₃ : Heap} (x : Kept h₁ h₂) (y : Kept h₂ h₃) : Kept h₁ h₃ := fun b o e => by
  obtain ⟨o₂, e₂, c₂, d₂⟩ := x b o e
  obtain ⟨o₃, e₃, c₃, d₃⟩ := y b o₂ e₂
  exact ⟨o₃, e₃, c₃.trans c₂, d₃.trans d₂⟩
theorem Kept.push {h : Heap} (o : Obj) : Kept h (h.push o) := fun _ o' e => ⟨o', Heap.get?_push_of_some _ e, rfl, rfl⟩
theorem Kept.update {h : Heap} {a : Addr} {f : Obj → Obj} (hf : ∀ o : Obj, (f o).cls = o.cls ∧ (f o).dict = o.dict ∧ (f o).isFreed = o.isFreed) : Kept h (h.update a f) := fun b o e => by
  by_cases q : a = b
  · subst q
    exact ⟨f o, Heap.get?_update_self f e ((hf o).2.2.trans (Heap.get?_some_iff.mp e).2), (hf o).1, (hf o).2.1⟩
  · exact ⟨o, (Heap.get?_update_other _ _ q).trans e, rfl, rfl⟩
theorem calm_wp {α : Type} {M : Model} {Γ : Ctx} {h₀ : Heap} (t : Sem α) : ∀ {Q : α → Pos → Shared → Prop} {E : Value → Pos → Shared → Prop} {p : Pos} {s : Shared}, Calm t → Kept h₀ s.heap → Sem.wp M Γ t Q E p s →
    Sem.wp M Γ t (fun a p' s' => Q a p' s' ∧ Kept h₀ s'.heap) (fun e p' s' => E e p' s' ∧ Kept h₀ s'.heap) p s := by
  induction t with
  | pure a => intro Q E p s _ k h; rw [Sem.wp] at h ⊢; exact ⟨h, k⟩
  | raise e => intro Q E p s _ k h; rw [Sem.wp] at h ⊢; exact ⟨h, k⟩
  | unsupported w => intro Q E p s _ k h; rw [Sem.wp] at h; exact h.elim
  | finish e => intro Q E p s _ k h; rw [Sem.wp] at h; exact h.elim
  | rule t k ih => intro Q E p s c kp h; rw [Sem.wp] at h ⊢; exact ih () c kp h
  | «at» p k ih => intro Q E p s c kp h; rw [Sem.wp] at h ⊢; exact ih () c kp h
  | load a b k ih => intro Q E p s c kp h; rw [Sem.wp] at h ⊢; obtain ⟨o, e, h⟩ := h; exact ⟨o, e, ih o (c o) kp h⟩
  | update a b f k ih => intro Q E p s c kp h; rw [Sem.wp] at h ⊢; exact ⟨h.1, ih () c.2 (kp.trans (Kept.update c.1)) h.2⟩
  | alloc o k ih => intro Q E p s c kp h; rw [Sem.wp] at h ⊢; exact ih _ (c _) (kp.trans (Kept.push o)) h
  | loadIfAlive a k ih => intro Q E p s c kp h; rw [Sem.wp] at h ⊢; exact ih _ (c _) kp h
  | point l k ih => intro Q E p s c kp h; rw [Sem.wp] at h ⊢; exact ih () c kp h
  | fresh k ih => intro Q E p s c kp h; rw [Sem.wp] at h ⊢; exact ih _ (c _) kp h
  | ask k ih => intro Q E p s c kp h; rw [Sem.wp] at h ⊢; exact ih _ (c _) kp h
  | stack k ih => intro Q E p s c kp h; rw [Sem.wp] at h ⊢; exact ih _ (c _) kp h
  | handled o k ih => intro Q E p s c kp h; rw [Sem.wp] at h ⊢; exact ih _ (c _) kp h
  | _ => intro Q E p s c; exact c.elim
theorem calm_any {α : Type} {M : Model} {A : Around} {t : Sem α} {Q : α → Shared → Prop} {E : Value → Shared → Prop} {s : Shared} (c : Calm t) (h : wpAny M A t Q E s) :
    wpAny M A t (fun a s' => Q a s' ∧ Kept s.heap s'.heap) E s := fun Γ p hΓ =>
  Sem.wp_mono M Γ t (fun _ _ _ x => x) (fun _ _ _ x => x.1) _ _ (calm_wp t c (Kept.refl _) (h Γ p hΓ))
theorem calm_bind {α β : Type} {t : Sem α} {f : α → Sem β} (c : Calm t) (k : ∀ a, Calm (f a)) : Calm (t >>= f) := by
  show Calm (t.bind f)
  induction t with
  | pure a => exact k a
  | raise e => trivial
  | unsupported w => trivial
  | finish e => trivial
  | rule t k' ih => exact ih () c
  | «at» p k' ih => exact ih () c
  | load a b k' ih => exact fun o => ih o (c o)
  | update a b f' k' ih => exact ⟨c.1, ih () c.2⟩
  | alloc o k' ih => exact fun o => ih o (c o)
  | loadIfAlive a k' ih => exact fun o => ih o (c o)
  | point l k' ih => exact ih () c
  | fresh k' ih => exact fun o => ih o (c o)
  | ask k' ih => exact fun o => ih o (c o)
  | stack k' ih => exact fun o => ih o (c o)
  | handled o k' ih => exact fun o => ih o (c o)
  | _ => exact c.elim
theorem mapFields_calm (f : Array Value → Array Value) (o : Obj) : (o.mapFields f).cls = o.cls ∧ (o.mapFields f).dict = o.dict ∧ (o.mapFields f).isFreed = o.isFreed := by
  obtain ⟨c, d, dt, sl⟩ := o
  cases dt <;> exact ⟨rfl, rfl, rfl⟩
theorem calm_load {α : Type} {a : Addr} {k : Obj → Sem α} (h : ∀ o, Calm (k o)) : Calm (load a >>= k) := calm_bind (show Calm (Sem.load a none Sem.pure) from fun _ => trivial) h
theorem calm_fieldsOf (v : Value) : Calm (fieldsOf v) := by
  unfold fieldsOf
  cases v <;> first | trivial | (refine calm_load fun o => ?_; split <;> trivial)
theorem calm_field (v : Value) (i : Nat) : Calm (field v i) := by
  unfold field
  refine calm_bind (calm_fieldsOf v) fun vs => ?_
  split <;> trivial
theorem calm_setField (v : Value) (i : Nat) (x : Value) : Calm (setField v i x) := by
  unfold setField
  cases v <;> first | trivial | skip
  unfold updateField
  refine calm_load fun o => ?_
  split
  · split
    · exact ⟨fun o => mapFields_calm _ o, trivial⟩
    · trivial
  · trivial
theorem calm_stack {α : Type} {k : List (Code × Pos) → Sem α} (h : ∀ o, Calm (k o)) : Calm (stack >>= k) := calm_bind (show Calm (Sem.stack Sem.pure) from fun _ => trivial) h
theorem calm_setFlight (e : Value) (f : Option Addr) : Calm (setFlight e f) := by
  unfold setFlight
  refine calm_bind (calm_field _ _) fun tb => ?_
  split
  · exact calm_setField _ _ _
  · trivial
theorem calm_readyFrames : ∀ l : List Env, Calm (readyFrames l)
  | [] => trivial
  | env :: outer => by
    unfold readyFrames
    split
    · refine calm_load fun o => ?_
      split
      · trivial
      · refine calm_bind ?_ fun imp => calm_bind ?_ fun back => ?_
        · unfold behindIsImport
          split
          · trivial
          · split
            · trivial
            · exact calm_bind (calm_field _ _) fun _ => trivial
        · cases outer with
          | nil =>
            simp only [keptBack]
            split
            · trivial
            · refine calm_bind ?_ fun _ => trivial
              unfold underTheClaimsCaller
              exact calm_stack fun _ => trivial
          | cons _ _ => trivial
        · exact calm_bind (show Calm (Sem.update _ none _ Sem.pure) from ⟨fun o => by obtain ⟨c, d, dt, sl⟩ := o; cases dt <;> exact ⟨rfl, rfl, rfl⟩, trivial⟩) fun _ => calm_readyFrames outer
    · trivial
theorem calm_frameOf (env : Env) : Calm (PySem.frameOf env) := by
  unfold PySem.frameOf
  refine calm_bind ?_ fun l => calm_bind ?_ fun f => ?_
  · unfold frameEnvs
    exact calm_stack fun _ => trivial
  · unfold frameObject
    split
    · trivial
    · exact calm_bind (calm_readyFrames _) fun _ => trivial
  · split <;> trivial
theorem calm_newEntry (a b c d e : Value) (l : List Value) : Calm (EntryCells.newEntry a b c d e l) := by
  unfold EntryCells.newEntry newFields newObj
  dsimp only
  generalize ([a, b, c, d, e] ++ if l.isEmpty = true then List.replicate 6 Value.none else l).toArray = xs
  have h : Calm (newObjAsIs (Value.type "traceback") (Data.fields xs)) := by
    unfold newObjAsIs
    exact calm_bind (show Calm (Sem.alloc _ Sem.pure) from fun _ => trivial) fun _ => trivial
  split
  · trivial
  · exact h
theorem calm_noteFrame (e : Value) (env : Env) : Calm (noteFrame e env) := by
  have last : ∀ head f, Calm (do setField e 1 (← EntryCells.newEntry head (← PySem.frameOf env) .none (rawInt f) .none (← entryPlaceOf f (head != .none)))) := fun head f =>
    calm_bind (calm_frameOf env) fun _ => calm_bind (by
      unfold entryPlaceOf
      refine calm_stack fun _ => ?_
      split <;> trivial) fun _ => calm_bind (calm_newEntry _ _ _ _ _ _) fun _ => calm_setField _ _ _
  unfold noteFrame
  split
  · refine calm_bind (calm_field _ _) fun head => ?_
    split
    · refine calm_bind (calm_field _ _) fun x => ?_
      split
      · trivial
      · exact calm_bind (calm_setField _ _ _) fun _ => last _ _
    · exact last _ _
  · trivial
theorem calm_leaving (env : Env) (e : Value) : Calm (leaving env e) := by
  unfold leaving
  exact calm_bind (calm_noteFrame _ _) fun _ => calm_setFlight _ _
end Mine

/- S1 -/
namespace Mine
open PySem.Spec PySem.Calls
def DictAt (h : Heap) (e d : Addr) : Prop := ∃ o, h.get? e = some o ∧ o.dict = some d
theorem DictAt.kept {h h' : Heap} {e d : Addr} (x : DictAt h e d) (k : Kept h h') : DictAt h' e d := by
  obtain ⟨o, ho, hd⟩ := x
  obtain ⟨o', ho', _, hd'⟩ := k e o ho
  exact ⟨o', ho', hd'.trans hd⟩
/-- an own exception in flight: its dict, and what the call has made -/
def RaisedD (base G : Heap) (l : List Env) (e C d t : Addr) (vs : List Value) (news : List (Addr × Obj)) (h : Heap) : Prop := RaisedS base G l e (.ref C) t vs news h ∧ DictAt h e d
abbrev excO (C d t : Addr) : Obj := { cls := .ref C, dict := some d, data := .fields #[.ref t, .none, .none, .none, .bool false, .none] }
abbrev tupO (vs : List Value) : Obj := { cls := .type "tuple", data := .seq vs.toArray }
theorem mem_fr {env : Env} {outer : List Env} {b L : Addr} (hf : env.frame = some L) (hm : b ∈ (env :: outer).filterMap (·.frame)) : b = L ∨ b ∈ outer.filterMap (·.frame) := by
  rw [List.filterMap_cons, hf] at hm
  exact List.mem_cons.mp hm
section
variable {M : Model} {A : Around} {E : Value → Shared → Prop} {s' : Shared} {base g g₂ : Heap} {env : Env} {outer : List Env} {L e C d t : Addr} {m : Str → Option Value} {Q : Unit → Shared → Prop} {news : List (Addr × Obj)} {vs : List Value}
theorem leaveD_first (K : Below A base outer g) (F : Fr g L s'.heap m) (hf : env.frame = some L) (hk : env.scope.kind = .function) (N : News g L s'.heap ((e, excO C d t) :: (t, tupO vs) :: news)) (off : ∀ q ∈ news, q.1 ≠ e ∧ q.1 ≠ t)
    (hQ : ∀ h', RaisedD base g outer e C d t vs news h' → g.UpToSlots h' → Q () { s' with heap := h' }) : wpAny M (A.deeper env) (leaving env (.ref e)) Q E s' := by
  have K' := pushX K F hf hk
  have ne := N _ List.mem_cons_self
  have nt := N _ (List.mem_cons_of_mem _ List.mem_cons_self)
  have gL : g.get? L = none := kts_self F
  have hB : ∃ B, B = hideAll s'.heap (e :: t :: (env :: outer).filterMap (·.frame)) := ⟨_, rfl⟩
  obtain ⟨B, eB⟩ := hB
  have inB : ∀ b o, s'.heap.get? b = some o → b ≠ e → b ≠ t → b ∉ (env :: outer).filterMap (·.frame) → B.get? b = some o := fun b o h h1 h2 h3 => by
    rw [eB]
    exact hideAll_get _ h fun hm => by
      rcases List.mem_cons.mp hm with q | hm
      · exact h1 q
      · rcases List.mem_cons.mp hm with q | hm
        · exact h2 q
        · exact h3 hm
  have noB : ∀ b ∈ e :: t :: (env :: outer).filterMap (·.frame), B.get? b = none := fun b hb => by rw [eB]; exact hideAll_none _ hb
  have Bs : B.StaysIn s'.heap := fun b o h => by rw [eB] at h; exact of_hideAll _ h
  have gne : ∀ b o, g.get? b = some o → b ≠ e ∧ b ≠ t := fun b o h => ⟨fun q => (by rw [q, ne.2.2] at h; cases h), fun q => (by rw [q, nt.2.2] at h; cases h)⟩
  have sg : ∀ b o, g.get? b = some o → b ∉ outer.filterMap (·.frame) → B.get? b = some o := fun b o h nm => inB b o (F.keep b o h) (gne b o h).1 (gne b o h).2 fun hm => by
    rcases mem_fr hf hm with z | z
    · rw [z, gL] at h; cases h
    · exact nm z
  have st : base.StaysIn B := fun b o h => inB b o (K'.stays b o h) (gne b o (K.stays b o h)).1 (gne b o (K.stays b o h)).2 fun hm => by rw [(K'.frames.mem hm).1] at h; cases h
  have hl : ∀ q ∈ news, B.get? q.1 = some q.2 ∧ g.get? q.1 = none ∧ base.get? q.1 = none := fun q hq => by
    have z := N q (List.mem_cons_of_mem _ (List.mem_cons_of_mem _ hq))
    refine ⟨inB _ _ z.1 (off q hq).1 (off q hq).2 fun hm => ?_, z.2.2, fresh_of_stays K.stays z.2.2⟩
    rcases mem_fr hf hm with y | y
    · exact z.2.1 y
    · obtain ⟨o, ho, _⟩ := (K.frames.mem y).2
      rw [z.2.2] at ho; cases ho
  have hF : s'.heap.FunFrames B (env :: outer) := by
    rw [eB]
    exact funFrames_hide K'.frames fun env' he a ha => List.mem_cons_of_mem _ (List.mem_cons_of_mem _ (List.mem_filterMap.mpr ⟨env', he, ha⟩))
  refine wpAny_mono (calm_any (calm_leaving env _) (wpAny_leaving_firstW (base := B) (oe := excO C d t) (a0 := .ref t) (Q := fun _ s'' => ∃ h', s'' = { s' with heap := h' } ∧ Heap.LeftW B (env :: outer) e (.ref C) (.ref t) s'.heap h') K'.stack hF hf ne.1 Bs (noB e List.mem_cons_self) rfl rfl rfl
    fun h' hL => ⟨h', rfl, hL⟩)) (fun _ s'' x => ?_) fun _ _ x => x
  obtain ⟨⟨h', rfl, k1, k2, k3, k4⟩, kp⟩ := x
  obtain ⟨_, _, k2⟩ := k2
  refine hQ h' ⟨⟨⟨B, st, sg, hl, ⟨k1, noB e List.mem_cons_self, k2, k3⟩, noB t (List.mem_cons_of_mem _ List.mem_cons_self)⟩, ?_⟩, DictAt.kept ⟨_, ne.1, rfl⟩ kp⟩ ((Heap.UpToSlots.of_keeps F.keep).trans k4)
  obtain ⟨sl, hs⟩ := k4 t _ nt.1 (fun ws q => by cases q)
  exact ⟨_, _, hs, rfl, rfl⟩
theorem leaveD_on (K : Below A base outer g) (F : Fr g L g₂ m) (hf : env.frame = some L) (R : RaisedD base g₂ (env :: outer) e C d t vs news s'.heap) (hsm : g₂.UpToSlots s'.heap)
    (hQ : ∀ h', RaisedD base g outer e C d t vs news h' → g.UpToSlots h' → Q () { s' with heap := h' }) : wpAny M (A.deeper env) (leaving env (.ref e)) Q E s' := by
  obtain ⟨⟨⟨B, hB, hBG, hl, hfl, hnew⟩, htup⟩, hdi⟩ := R
  refine wpAny_mono (calm_any (calm_leaving env _) (wpAny_leaves_onW (Q := fun _ s'' => ∃ h', s'' = { s' with heap := h' } ∧ Heap.FlyingW B outer e (.ref C) (.ref t) h' ∧ s'.heap.UpToSlots h') (Around.frames_deeper K.stack) hf hfl
    fun h' x1 x2 => ⟨h', rfl, x1, x2⟩)) (fun _ s'' x => ?_) fun _ _ x => x
  obtain ⟨⟨h', rfl, x1, x2⟩, kp⟩ := x
  refine hQ h' ⟨⟨⟨B, hB, fun b o q nm => hBG b o (F.keep b o q) (fun hm => ?_), fun q hq => ⟨(hl q hq).1, kts_none F.keep (hl q hq).2.1, (hl q hq).2.2⟩, x1, hnew⟩, htup.of_slots x2⟩, hdi.kept kp⟩ ((Heap.UpToSlots.of_keeps F.keep).trans (hsm.trans x2))
  rcases mem_fr hf hm with z | z
  · rw [z, kts_self F] at q; cases q
  · exact nm z
end
section
variable {prog : Program} {w : World} {A₀ : Around} {E : Value → Shared → Prop} {s' : Shared} {base g G : Heap} {outer : List Env} {L a e C d t : Addr} {m : Str → Option Value} {name : Str} {scope : Scope} {cd : Value}
  {vs : List Value} {n x : Str} {b₀ : Stmt} {suite : List Stmt} {pos np : Pos} {rest : List ExceptHandler} {Q : Flow → Shared → Prop} {news : List (Addr × Obj)} {KF : Frag} {p : Program} {loose : List Str} {mean : ExcName → Option Value} {mg mb : Str → Option Value}
/-- an own exception caught by its class's name, under a name: its dict is still at hand -/
theorem caughtD (R : RaisedD base G (envOf name scope L a cd :: outer) e C d t vs news s'.heap) (F : Fr g L G m) (K : Below A₀ base outer g) (hsm : G.UpToSlots s'.heap) (XB : KF.In base) (TB : Top p loose mean mg mb base)
    (D : KtsDicts (outer.filterMap (·.frame)) g) (ex : nsIn KF mainGlobals x = some (some (.ref C))) (q : ktsIn KF C "BaseException" = true)
    (k : ∀ h' g' oe tk, KtsTurn (outer.filterMap (·.frame)) g g' → Fr g' L h' (fun y => if y = n then some (.ref e) else m y) → News g' L h' ((e, oe) :: news) → oe.cls = .ref C → oe.dict = some d → (∃ ws, oe.data = .fields ws) → (∀ q ∈ news, q.1 ≠ e) →
      Below A₀ base outer g' → KF.In g' → Top p loose mean mg mb g' → KtsDicts (outer.filterMap (·.frame)) g' →
      wpAny (model prog w) ((A₀.deeper (envOf name scope L a cd)).mark (some (.ref e))) (execs (b₀ :: suite) (envOf name scope L a cd))
        (fun f s₄ => wpAny (model prog w) (A₀.deeper (envOf name scope L a cd)) (do bindName (envOf name scope L a cd) n .none; unbindBehindTheSuite (envOf name scope L a cd) n pos) (fun _ s₅ => Q f s₅) E s₄)
        (AsSuiteRaised (model prog w) ((A₀.deeper (envOf name scope L a cd)).mark (some (.ref e))) (envOf name scope L a cd) n pos (notedBy (model prog w) ((A₀.deeper (envOf name scope L a cd)).mark (some (.ref e))) (envOf name scope L a cd) (cameBackBy (model prog w) (A₀.deeper (envOf name scope L a cd)) (envOf name scope L a cd) E)))
        { s' with heap := h', toks := tk })
    (hk : scope.kind = .function := by rfl) (hlo : (envOf name scope L a cd).kindOf n = some .local := by rfl) (hx : (envOf name scope L a cd).kindOf x = some .globalImplicit := by rfl) (hd : (x == ("__debug__" : Str)) = false := by decide) :
    wpAny (model prog w) (A₀.deeper (envOf name scope L a cd)) (noteFrame (.ref e) (envOf name scope L a cd))
      (fun _ s₂ => wpAny (model prog w) (A₀.deeper (envOf name scope L a cd)) (setFlight (.ref e) none) (fun _ s₃ =>
        wpAny (model prog w) (A₀.deeper (envOf name scope L a cd)) (handleBy (.ref e) (envOf name scope L a cd) (.ExceptHandler (some (.Name x np)) (some n) (b₀ :: suite) pos :: rest)) Q E s₃) E s₂) E s' := by
  obtain ⟨⟨⟨B, hB, hBG, hl, hfl, hnew⟩, htup⟩, hdi⟩ := R
  have hL : B.get? L = none := by
    obtain ⟨_, ⟨L', _, hf, hn', _⟩, _⟩ := hfl.2.2.1
    obtain rfl : L = L' := Option.some.inj hf
    exact hn'
  refine wpAny_mono (calm_any (calm_noteFrame _ _) (wpAny_looks_onW (Q := fun _ s₂ => ∃ h₄, s₂ = { s' with heap := h₄ } ∧ Heap.HeldW B (envOf name scope L a cd :: outer) e (.ref C) (.ref t) L h₄ ∧ s'.heap.UpToSlots h₄) (E := E) (Around.frames_deeper K.stack) rfl hfl
    fun h₄ a b => ⟨h₄, rfl, a, b⟩)) (fun _ s₂ x₂ => ?_) fun _ _ y => y
  obtain ⟨⟨h₄, rfl, hheld₄, hsm₄⟩, kp₄⟩ := x₂
  have hd₄ := hdi.kept kp₄
  refine wpAny_mono (calm_any (calm_setFlight _ _) (wpAny_landsW (Q := fun _ s₃ => ∃ h₅, s₃ = { s' with heap := h₅ } ∧ Heap.FlyingW B (envOf name scope L a cd :: outer) e (.ref C) (.ref t) h₅ ∧ h₄.UpToSlots h₅) (E := E) hheld₄
    fun h₅ a b => ⟨h₅, rfl, a, b⟩)) (fun _ s₃ x₃ => ?_) fun _ _ y => y
  obtain ⟨⟨h₅, rfl, hfl₅, hsm₅'⟩, kp₅⟩ := x₃
  have hd₅ := hd₄.kept kp₅
  have hsm₅ := hsm₄.trans hsm₅'
  obtain ⟨g₅, T₅, F₅, K₅⟩ := kts_ground K F hBG hfl₅.1 (hsm.trans hsm₅)
  have X₅ : KF.In g₅ := XB.keeps K₅.stays
  have P₅ : TopRead p loose mg mb g₅ := topRead_of (TB.keeps K₅.stays)
  obtain ⟨ob, hob, hobc⟩ := hfl₅.there
  obtain ⟨nm, q', N, bs, bm, hdct, sn, sub, ab, col, dd, k0, k1, k2, k3, k5, newId, hC, hbase, hbT⟩ := kts_cls X₅ q
  refine wpAny_handleBy_cons (codeAny_handlers_test (name_K F₅ X₅ P₅ ex ?_ hk hx hd)) (by intro q; cases q)
  refine wpAny_excMatches_sub_self (F₅.keep _ _ hC) hob hobc hbase (codeAny_handlers_suite_as ?_)
  have rest' := fun (QQ : Unit → Shared → Prop) (EE : Value → Shared → Prop) (hQQ : ∀ h₆, Heap.FlyingW B (envOf name scope L a cd :: outer) e (.ref C) (.ref t) h₆ → h₅.UpToSlots h₆ → Kept h₅ h₆ → QQ () { s' with heap := h₆ }) =>
    (wpAny_mono (M := model prog w) (A := (A₀.deeper (envOf name scope L a cd)).mark (some (.ref e))) (calm_any (calm_setFlight (.ref e) none) (lands_againW (s := { s' with heap := h₅ }) (Q := fun _ s₃ => ∃ h₆, s₃ = { s' with heap := h₆ } ∧ Heap.FlyingW B (envOf name scope L a cd :: outer) e (.ref C) (.ref t) h₆ ∧ h₅.UpToSlots h₆) (E := EE) hfl₅
      fun h₆ a b => ⟨h₆, rfl, a, b⟩)) (fun _ s₃ x₃ => by obtain ⟨⟨h₆, rfl, a, b⟩, c⟩ := x₃; exact hQQ h₆ a b c) fun _ _ y => y : wpAny _ _ _ QQ EE _)
  refine rest' _ _ fun h₆ hfl₆ hsm₆ kp₆ => ?_
  have hd₆ := hd₅.kept kp₆
  obtain ⟨g₆, T₆, F₆, K₆⟩ := kts_ground K F hBG hfl₆.1 ((hsm.trans hsm₅).trans hsm₆)
  obtain ⟨oe, ws, hoe, hoec, hoed, hoe0⟩ := hfl₆.first
  have ne₆ : g₆.get? e = none := T₆.none_ _ (kts_fresh F hBG hfl₆.2.1 fun o ho m => by
    obtain ⟨_, o', ho', hd⟩ := K.frames.mem m
    rw [ho] at ho'
    cases ho'
    obtain ⟨sl, hs⟩ := ((hsm.trans hsm₅).trans hsm₆) _ _ (F.keep _ _ ho) hd
    rw [hoe] at hs
    cases hs
    exact hd _ hoed)
  have N₆ := News.more F₆ News.nil hoe (fun es n q => by rw [hoed] at q; cases q) ne₆
  have Nl : News g₆ L h₆ news := fun q hq => ⟨hfl₆.1 _ _ (hl q hq).1, (fun z => by have := (hl q hq).1; rw [z, hL] at this; cases this), T₆.none_ _ (kts_none F.keep (hl q hq).2.1)⟩
  have off : ∀ q ∈ news, q.1 ≠ e := fun q hq z => by have := (hl q hq).1; rw [z, hfl₆.2.1] at this; cases this
  have hod : oe.dict = some d := by
    obtain ⟨o', ho', hd'⟩ := hd₆
    rw [hoe] at ho'; cases ho'; exact hd'
  refine stN F₆ (news := (e, oe) :: news) (List.forall_mem_cons.mpr ⟨N₆ _ List.mem_cons_self, Nl⟩) (fun h₇ F₇ N₇ => ?_) hk hlo
  exact k h₇ g₆ oe _ T₆ F₇ N₇ hoec hod ⟨ws, hoed⟩ off K₆ (XB.keeps K₆.stays) (TB.keeps K₆.stays) (D.turn T₆)
end
end Mine

/- S2 -/
namespace Mine
open PySem.Spec PySem.Calls
section
variable {prog : Program} {w : World} {A₀ A : Around} {s : Shared} {base h₀ : Heap} {env : Env} {outer : List Env} {L : Addr} {m : Str → Option Value} {news : List (Addr × Obj)} {K : Frag} {p : Program} {loose : List Str} {mean : ExcName → Option Value} {mg mb : Str → Option Value}
  {R : Result → Shared → Prop} {name qual : Str} {params : Arguments} {body : List Stmt} {scope : Scope} {dV kV doc pm cdv ct oc : Value} {an od : Option Addr} {osl : Array (Option Value)} {f : Addr} {args : Args} {binds : List (Str × Value)}
/-- the ground of a call, and the way back though the frames above have turned -/
theorem groundS (B : Below A₀ base outer h₀) (F : Fr h₀ L s.heap m) (N : News h₀ L s.heap news) (X : K.In base) (T : Top p loose mean mg mb base) (D : KtsDicts (outer.filterMap (·.frame)) h₀) (hA : A.frames = some (env :: outer)) (hf : env.frame = some L) (hke : env.scope.kind = .function) :
    ∃ G, Fr h₀ L G m ∧ Below A base (env :: outer) G ∧ h₀.StaysIn G ∧ KtsDicts ((env :: outer).filterMap (·.frame)) G ∧ G.objs.size = s.heap.objs.size ∧ (∀ b o, G.get? b = some o → s.heap.get? b = some o) ∧ (∀ q ∈ news, G.get? q.1 = none) ∧
      ∀ v s', LeaveS ((env :: outer).filterMap (·.frame)) A₀ base outer K p loose mean mg mb h₀ h₀ L m G R v s' → R (.ok (.ret v)) s' := by
  obtain ⟨FG, BG, st, lv⟩ := groundX (R := R) B F N hA hf hke
  have nL₀ : h₀.get? L = none := kts_self F
  obtain ⟨oL, es, ep, hLG, hLd, hLk, hLf⟩ := id FG.ns
  refine ⟨_, FG, BG, st, fun b hb => ?_, hideAll_size _ _, fun b o e => of_hideAll _ e, fun q hq => hideAll_none _ (List.mem_map_of_mem hq), fun v s' hl => ?_⟩
  · rcases mem_fr hf hb with rfl | hb
    · exact ⟨oL, es, ep, hLG, hLd⟩
    · obtain ⟨o, es', n', ho, hd⟩ := D b hb
      exact ⟨o, es', n', st b o ho, hd⟩
  · rcases hl with ⟨L', m', news', F', N', k⟩ | ⟨g', L', m', news', T', F', N', k⟩
    · exact lv v s' ⟨L', m', news', F', N', k⟩
    · obtain ⟨sl, hs⟩ := T'.up hLG
      obtain ⟨T₁, S₁⟩ := kts_turn_at (h := s'.heap) (fs := outer.filterMap (·.frame)) (g := h₀)
        (fun b hb => by obtain ⟨_, o, ho', _⟩ := B.frames.mem hb; exact ⟨o, ho'⟩)
        (fun b o e nm => F'.keep b o (T'.other b o (st b o e) fun q => by
          rcases mem_fr hf q with z | z
          · rw [z, nL₀] at e; cases e
          · exact nm z))
        (fun b o e _ => by
          obtain ⟨sl', hs'⟩ := T'.up (st b o e)
          exact ⟨sl', F'.keep _ _ hs'⟩)
      have B₃ : Below A₀ base outer (ktsHeap s'.heap (outer.filterMap (·.frame)) h₀) := ⟨B.stack, fun b o e => T₁.other b o (B.stays b o e) (fun hm => by rw [(B.frames.mem hm).1] at e; cases e), B.frames.of_keeps fun b o e _ => by
        obtain ⟨sl', hs'⟩ := T₁.up e
        exact ⟨_, hs', rfl⟩⟩
      refine k _ T₁ ⟨⟨_, es, ep, F'.keep _ _ hs, hLd, hLk, hLf⟩, S₁, by rw [T₁.size]; exact F.above⟩ (fun q hq => ⟨(N' q hq).1, fun z => ?_, ?_⟩) B₃ (X.keeps B₃.stays) (T.keeps B₃.stays) (D.turn T₁)
      · have := (N' q hq).2.2; rw [z, hs] at this; cases this
      · refine T₁.none_ _ ?_
        cases z : h₀.get? q.1 with
        | none => rfl
        | some o =>
          obtain ⟨sl', hs'⟩ := T'.up (st _ _ z)
          have := (N' q hq).2.2
          rw [hs'] at this; cases this
/-- a plain def is entered, its frames above may turn -/
theorem enterS (B : Below A₀ base outer h₀) (F : Fr h₀ L s.heap m) (X₀ : K.In h₀) (N : News h₀ L s.heap news) (T : Top p loose mean mg mb h₀) (XB : K.In base) (TB : Top p loose mean mg mb base) (D : KtsDicts (outer.filterMap (·.frame)) h₀) (hA : A.frames = some (env :: outer)) (hf : env.frame = some L) (hke : env.scope.kind = .function)
    (ho : K.lookup f = some ⟨oc, od, .func (fnOf name qual params body scope dV kV doc pm an cdv ct), osl⟩) (hcd : codeIn K cdv qual = true) (hroom : A.depth < recursionLimit)
    (hbind : BindsTo s (fnOf name qual params body scope dV kV doc pm an cdv ct) args binds) (hloc : ∀ y ∈ binds, scope.names.lookup y.1 = some .local)
    (h : ∀ g L' h₁, Fr h₀ L g m → Fr g L' h₁ (fun y => binds.reverse.lookup y) → News g L' h₁ news → Below A base (env :: outer) g → K.In g → Top p loose mean mg mb g → KtsDicts ((env :: outer).filterMap (·.frame)) g →
      wpAny (model prog w) (A.deeper (envOf qual scope L' f cdv)) (execs body (envOf qual scope L' f cdv))
        (fun fl s' => LeaveS ((env :: outer).filterMap (·.frame)) A₀ base outer K p loose mean mg mb h₀ h₀ L m g R (match fl with | .ret v => v | _ => .none) s')
        (fun e s' => wpAny (model prog w) (A.deeper (envOf qual scope L' f cdv)) (leaving (envOf qual scope L' f cdv) e) (fun _ s'' => R (.error e) s'') (fun e' s'' => R (.error e') s'') s')
        { s with heap := h₁, toks := s.toks + binds.length })
    (hco : scope.isCoroutine = false) (hgen : scope.isGenerator = false) (hk : scope.kind = .function) (hcell : ∀ x ∈ scope.names, x.2 ≠ .cell) : codeAny (model prog w) A (.call (.ref f) args) R s := by
  obtain ⟨G, FG, BG, st, DG, hsz, hsub, hno, lv⟩ := groundS (R := R) B F N XB TB D hA hf hke
  have X := X₀.keeps F.keep
  refine codeAny_call_def (fd := fnOf name qual params body scope dV kV doc pm an cdv ct) (body := body) (binds := binds) hroom (X _ _ ho) rfl (T.nolimit.keeps F.keep) (codeRec_of X hcd) rfl hbind hcell hloc (fun h₁ hns hk₁ => ?_) hco hgen hk
  exact wpAny_mono (h G s.heap.objs.size h₁ FG ⟨hns, fun b o e => hk₁ b o (hsub b o e), Nat.le_of_eq hsz⟩
    (fun q hq => ⟨hk₁ _ _ (N q hq).1, Nat.ne_of_lt (Heap.lt_size (N q hq).1), hno q hq⟩) BG (X₀.keeps st) (T.keeps st) DG) (fun fl s' hl => lv _ _ hl) fun _ _ y => y
/-- a def with cells is entered -/
theorem enterSC (B : Below A₀ base outer h₀) (F : Fr h₀ L s.heap m) (X₀ : K.In h₀) (N : News h₀ L s.heap news) (T : Top p loose mean mg mb h₀) (XB : K.In base) (TB : Top p loose mean mg mb base) (D : KtsDicts (outer.filterMap (·.frame)) h₀) (hA : A.frames = some (env :: outer)) (hf : env.frame = some L) (hke : env.scope.kind = .function)
    (ho : K.lookup f = some ⟨oc, od, .func (fnOf name qual params body scope dV kV doc pm an cdv ct), osl⟩) (hcd : codeIn K cdv qual = true) (hroom : A.depth < recursionLimit)
    (hbind : BindsTo s (fnOf name qual params body scope dV kV doc pm an cdv ct) args binds) (hkind : (binds.all fun y => scope.names.lookup y.1 == some .local || scope.names.lookup y.1 == some .cell) = true)
    (hnd : ((cellsFrom 0 scope.names []).map (·.1)).Nodup)
    (h : ∀ g L' h₁ tk cells, Fr h₀ L g m → Fr g L' h₁ (bindL (envOfC qual scope L' f cdv).kindOf binds fun _ => none) → News g L' h₁ (cells ++ news) →
      CellsAre (bindC (envOfC qual scope L' f cdv).kindOf binds fun _ => none) (cellsFrom (L' + 1) scope.names []) cells → Below A base (env :: outer) g → K.In g → Top p loose mean mg mb g → KtsDicts ((env :: outer).filterMap (·.frame)) g → (∀ q ∈ news, q.1 < L') →
      wpAny (model prog w) (A.deeper (envOfC qual scope L' f cdv)) (execs body (envOfC qual scope L' f cdv))
        (fun fl s' => LeaveS ((env :: outer).filterMap (·.frame)) A₀ base outer K p loose mean mg mb h₀ h₀ L m g R (match fl with | .ret v => v | _ => .none) s')
        (fun e s' => wpAny (model prog w) (A.deeper (envOfC qual scope L' f cdv)) (leaving (envOfC qual scope L' f cdv) e) (fun _ s'' => R (.error e) s'') (fun e' s'' => R (.error e') s'') s')
        { s with heap := h₁, toks := tk })
    (hco : scope.isCoroutine = false) (hgen : scope.isGenerator = false) (hk : scope.kind = .function) : codeAny (model prog w) A (.call (.ref f) args) R s := by
  obtain ⟨G, FG, BG, st, DG, hsz, hsub, hno, lv⟩ := groundS (R := R) B F N XB TB D hA hf hke
  have X := X₀.keeps F.keep
  refine codeAny_call_function hroom (X _ _ ho) rfl hco hgen rfl (codeRec_of X hcd) (hbind _ _ _ _ ?_)
  refine wpAny_newFunctionEnv_cells hk (kindsX hkind _) fun env' he s' x => ?_
  subst he
  refine ⟨(T.nolimit.keeps F.keep).keeps x.toInCall.keep, codeAny_func ?_⟩
  obtain ⟨h₁, tk, rfl, _⟩ := x.done
  have hk₁ := x.toInCall.keep
  obtain ⟨cells, NC, Y⟩ := Cl.news (h₀ := s.heap) (Nat.le_refl _) fun n c hm => ⟨x.cell n c (lookup_of_mem_nodup (cellsFrom_names scope.names 0 (s.heap.objs.size + 1) [] [] rfl ▸ hnd) hm), x.above n c hm⟩
  refine wpAny_mono (h G s.heap.objs.size h₁ tk cells FG ⟨x.toInCall.ns, fun b o e => hk₁ b o (hsub b o e), Nat.le_of_eq hsz⟩ (fun q hq => ?_) Y BG (X₀.keeps st) (T.keeps st) DG (fun q hq => Heap.lt_size (N q hq).1)) (fun fl s' hl => lv _ _ hl) fun _ _ y => y
  rcases List.mem_append.mp hq with hq | hq
  · refine ⟨(NC q hq).1, (NC q hq).2.1, ?_⟩
    cases z : G.get? q.1 with
    | none => rfl
    | some o => have := hsub _ _ z; rw [(NC q hq).2.2] at this; cases this
  · exact ⟨hk₁ _ _ (N q hq).1, Nat.ne_of_lt (Heap.lt_size (N q hq).1), hno q hq⟩
end
end Mine

/- X1 -/
theorem Mine.word37 : True := by
  k_with_none
  k_with "m:sub#" => first | ((k_here; (with_reducible show wpAny _ _ (subscriptTail _ _ (Value.ref _) (Value.int _ _)) _ _ _); k_dflt (refine' Mine.m_sub ?Nw ?mw ?aw ?bw ?xw ?_; (case Nw => k_asm); (case mw => k_mem); (case aw => decide); (case bw => decide); (case xw => rfl); k_whole))) | fail "no"
  k_with "subscriptTail Name Constant ref int#" => first | (walk_at "m:sub") | fail "no"
  k_with "m:compT#" => first | ((k_here; lct_look; k_dflt (refine LCt.ListComp_T (F₀ := by k_asm) (by with_unfolding_all rfl) (by decide) (by rfl) (by decide) (by rfl) ?_))) | fail "no"
  k_with "m:comp#" => first | ((k_here; k_dflt (refine LCg.ListComp_U (F₀ := by k_asm) (by with_unfolding_all rfl) (by decide) (by rfl) (by decide) (by rfl) ?_))) | fail "no"
  k_with "eval ListComp Name cons#" => first | (first | walk_at "m:compT" | walk_at "m:comp") | fail "no"
  k_with "eval ListComp Tuple cons#" => first | (first | walk_at "m:compT" | walk_at "m:comp") | fail "no"
  k_with "eval ListComp List cons#" => first | (first | walk_at "m:compT" | walk_at "m:comp") | fail "no"
  k_with "eval ListComp Attribute cons#" => first | (first | walk_at "m:compT" | walk_at "m:comp") | fail "no"
  k_with "CompSrcT#" => first | ((k_here; k_dflt (refine LCt.CompSrcT.ledger (by rfl) (by k_asm) (by k_asm) (by k_mem) (by first | size_fits | (simp only [List.size_toArray, List.length_map]; rw [sizeLine_eq]; omega)) ?_); intro _)) | fail "no"
  k_with "CompSrc#" => first | ((k_here; k_dflt (refine LCg.CompSrc.ledger (by rfl) (by k_asm) (by k_asm) (by k_mem) (by first | size_fits | (simp only [List.size_toArray, List.length_map]; rw [sizeLine_eq]; omega)) ?_); intro _)) | fail "no"
  k_with "m:in#" => first | (first | assumption | ((with_reducible refine List.mem_cons_of_mem _ ?_); walk_at "m:in") | ((with_reducible refine List.mem_append_right _ ?_); walk_at "m:in") | ((with_reducible refine List.mem_append_left _ ?_); walk_at "m:in")) | fail "no"
  k_with "m:tail#" => first | ((intro _ _; walk_at "m:in")) | fail "no"
  k_with "m:src#" => first | (exact Or.inr ⟨_, by k_mem, rfl, _, rfl⟩) | fail "no"
  k_with "m:units#" => first | (first | ktr_units | (have hcL9 := cLine_is; (simp only [units_in1, units_deeper, Around.mark_units] at *); (try dsimp only [ktrTop] at *); omega)) | fail "no"
  k_with "m:eqnil#" => first | ((k_here; (with_reducible show wpAny _ _ (compareOp CmpOp.Eq (Value.ref _) (Value.ref _)) _ _ _); k_dflt (refine' Mine.m_eq_nil ?Nw ?aw ?bw ?uw ?_; (case Nw => k_asm); (case bw => k_mem); (case aw => k_mem); (case uw => walk_at "m:units"); k_whole))) | fail "no"
  k_with "m:nenil#" => first | ((k_here; (with_reducible show wpAny _ _ (compareOp CmpOp.NotEq (Value.ref _) (Value.ref _)) _ _ _); k_dflt (refine' Mine.m_ne_nil ?Nw ?aw ?bw ?uw ?_; (case Nw => k_asm); (case bw => k_mem); (case aw => k_mem); (case uw => walk_at "m:units"); k_whole))) | fail "no"
  k_with "compareOp Eq ref ref#" => first | (walk_at "m:eqnil") | fail "no"
  k_with "m:nesame#" => first | ((k_here; (with_reducible show wpAny _ _ (compareOp CmpOp.NotEq (Value.ref _) (Value.ref _)) _ _ _); k_dflt (refine' Mine.m_ne_same ?Nw ?aw ?bw ?uw ?_ ?_; (case Nw => k_asm); (case aw => k_mem); (case bw => k_mem); (case uw => walk_at "m:units")))) | fail "no"
  k_with "compareOp NotEq ref ref#" => first | (first | walk_at "m:nenil" | walk_at "m:nesame") | fail "no"
  k_with "m:cend#" => first | (refine LCg.CompEnd.intro (by k_asm) (by k_asm) _ (by walk_at "m:tail") (by assumption) (by walk_at "m:src") ⟨rfl, ?_⟩) | fail "no"
  k_with "m:back#" => first | ((rename News _ _ _ _ => kN9; exact fun p9 hp9 => kN9 p9 (by walk_at "m:in"))) | fail "no"
  k_with "m:perm#" => first | ((intro _ hp9w; simp only [List.mem_cons, List.mem_append, List.cons_append, List.append_assoc, List.nil_append, List.not_mem_nil, or_false, false_or] at hp9w ⊢; (repeat' ((with_reducible refine Or.elim hp9w (fun hq9 => ?_) (fun hq9 => ?_)); clear hp9w; rename_i hp9w)) <;> simp only [hp9w, true_or, or_true])) | fail "no"
  k_with "m:sees#" => first | (first | assumption | exact Mine.Sees.mono (by assumption) (by walk_at "m:tail")) | fail "no"
  k_with "m:rows#" => first | (first | assumption | exact Mine.Rows.mono (by assumption) (by walk_at "m:tail")) | fail "no"
  k_with "m:off#" => first | (first | assumption | exact Mine.off_lt (by assumption) | (k_all)) | fail "no"
  k_with "m:small#" => first | (first | assumption | decide | (simp only [List.size_toArray, List.length_map, List.length_cons, List.length_nil]; omega) | (simp only [List.size_toArray, List.length_map, List.length_cons, List.length_nil] at *; omega)) | fail "no"
  k_with "call builtin:len cons nil#" => first | ((k_here; (with_reducible show wpAny _ _ (call (Value.builtin _) [Value.ref _]) _ _ _); k_dflt (refine' Mine.m_len ?Nw ?mw ?zw ?_; (case Nw => k_asm); (case mw => k_mem); (case zw => walk_at "m:small"); k_whole); intro _ _)) | fail "no"
  k_with "m:subS#" => first | ((k_here; (with_reducible show wpAny _ _ (subscriptTail _ _ (Value.ref _) (Value.int _ _)) _ _ _); k_dflt (refine' Mine.m_subS ?Nw ?mw ?aw ?bw ?zw ?_; (case Nw => k_asm); (case mw => k_mem); (case aw => first | assumption | omega); (case bw => first | assumption | omega); (case zw => walk_at "m:small"); k_whole); intro _ _)) | fail "no"
  k_with "subscriptTail Name Call ref int#" => first | (walk_at "m:subS") | fail "no"
  k_with "m:size#" => first | (first | assumption | decide | (simp only [List.size_toArray, List.length_cons, List.length_nil]; omega) | (simp; done)) | fail "no"
  k_with "m:split#" => first | (repeat (rename _ ∧ _ => hx9; have hy9 := And.left hx9; have hz9 := And.right hx9; clear hx9)) | fail "no"
  k_with "m:dis#" => first | ((simp only [List.map_cons, List.nodup_cons, List.mem_cons, not_or, List.cons_append, List.nil_append] at *; walk_at "m:split")) | fail "no"
  k_with "m:count#" => first | ((intro _; (try simp only [Mine.cells3_snoc, Mine.cells_mid, Mine.rowsOf_mid]); (try simp only [List.map_append, List.map_cons, List.map_nil, List.count_append, List.count_cons, List.count_nil, List.nil_append, List.cons_append]); omega)) | fail "no"
  k_with "m:dis9#" => first | (first | assumption | exact Mine.Dis.le (by assumption) (by walk_at "m:count")) | fail "no"
  k_with "m:lt#" => first | (first | assumption | exact True.intro | ((with_reducible refine Mine.allLt_le ?_ ?_) ; (first | (omega) | skip); assumption) | (refine And.intro ?_ ?_; (try dsimp only); omega; walk_at "m:lt") | (refine Mine.allLt_le (Nat.le_of_lt ?_) ?_; rotate_left; assumption; omega)) | fail "no"
  k_with "m:mem9#" => first | (first | exact List.mem_cons_self | (refine List.mem_cons_of_mem _ ?_; walk_at "m:mem9") | (refine List.mem_append_left _ ?_; walk_at "m:mem9") | (refine List.mem_append_right _ ?_; walk_at "m:mem9")) | fail "no"
  k_with "m:in9#" => first | (first | assumption | (refine List.mem_cons_of_mem _ ?_; walk_at "m:in9") | (refine List.mem_append_left _ ?_; walk_at "m:in9") | (refine List.mem_append_right _ ?_; walk_at "m:in9")) | fail "no"
  k_with "m:sub9#" => first | (first | (refine List.forall_mem_cons.mpr ⟨?_, ?_⟩; walk_at "m:mem9"; walk_at "m:sub9") | (refine List.forall_mem_append.mpr ⟨?_, ?_⟩; walk_at "m:sub9"; walk_at "m:sub9") | (intro _ hp9w; exact absurd hp9w List.not_mem_nil) | (intro _ hp9w; walk_at "m:in9")) | fail "no"
  k_with "compareOp IsNot none#" => first | ((k_here; k_dflt (refine Mine.m_isnot (by assumption) (by assumption) ?_))) | fail "no"
  k_with "m:subA#" => first | ((k_here; (with_reducible show wpAny _ _ (subscriptTail _ _ (Value.ref _) (Value.int _ _)) _ _ _); k_dflt (refine' Mine.m_sub ?Nw ?mw ?aw ?bw ?xw ?_; (case Nw => k_asm); (case mw => k_mem); (case xw => assumption); (case aw => first | assumption | omega); (case bw => first | decide | omega); k_whole))) | fail "no"
  k_with "subscriptTail Name Name ref int#" => first | (first | walk_at "m:subA" | walk_at "m:subS") | fail "no"
  k_with "subscriptTail Attribute Name Name ref int#" => first | (first | walk_at "m:subA" | walk_at "m:subS") | fail "no"
  k_with "m:enterD#" => first | ((refine' code_def ?k1w ?k2w ?k3w ?k4w ?k5w ?kAw ?kFw ?kKw ?k6w ?k7w ?k8w ?k9w ?kBw ?_ ?c2w ?c3w ?c4w ?c5w; (case kAw => exact rfl); (case kFw => exact rfl); (case kKw => first | exact rfl | assumption); (case k1w => k_asm); (case k2w => k_asm); (case k3w => k_asm); (case k4w => k_asm); (case k5w => k_asm); (case k6w => k_is); (case k7w => k_is); (case k8w => k_room); (case k9w => exact Mine.wake_binds (Frag.In.keeps (by k_asm) (Fr.keep (by k_asm))) (by k_is) rfl); (case c5w => decide); (case kBw => exact locs rfl); (case c2w => exact rfl); (case c3w => exact rfl); (case c4w => exact rfl); k_whole; intro _ _ _ _ _ _ B'w _ _; (try dsimp only); (try k_lift B'w); (try k_fold))) | fail "no"
  k_with "call ref cons nil#" => first | (((try dsimp only [List.nil_append, List.cons_append]); (with_reducible show wpAny _ _ (call (Value.ref 123) [Value.ref _, Value.int _ _, _]) _ _ _); (refine wpAny_call ?_); k_dflt (walk_at "m:enterD"))) | fail "no"
  k_with "call ref nil#" => first | (((try dsimp only [List.nil_append, List.cons_append]); (with_reducible show wpAny _ _ (call (Value.ref 203) [Value.ref _, Value.int _ _]) _ _ _); k_dflt (refine' Mine.takeU ?Bw ?Fw ?Xw ?Nw ?Tw ?kw ?dw ?uw ?ow ?aw ?tw ?t2w ?_; (case Bw => k_asm); (case Fw => k_asm); (case Xw => k_asm); (case Nw => k_asm); (case Tw => k_asm); (case kw => first | exact rfl | assumption); (case dw => ktr_room); (case uw => ktr_units); (case ow => k_updF); (case aw => assumption); (case tw => first | decide | assumption | omega); (case t2w => first | decide | assumption | omega)); intro _ _ _ _ _ _ _ _ _ _ _ _ N9w; (try dsimp only at N9w))) | fail "no"
  k_with "call ref cons nil#" => first | (((try dsimp only [List.nil_append, List.cons_append]); (with_reducible show wpAny _ _ (call (Value.ref 203) [Value.ref _, Value.int _ _]) _ _ _); k_dflt (refine' Mine.takeU ?Bw ?Fw ?Xw ?Nw ?Tw ?kw ?dw ?uw ?ow ?aw ?tw ?t2w ?_; (case Bw => k_asm); (case Fw => k_asm); (case Xw => k_asm); (case Nw => k_asm); (case Tw => k_asm); (case kw => first | exact rfl | assumption); (case dw => ktr_room); (case uw => ktr_units); (case ow => k_updF); (case aw => assumption); (case tw => first | decide | assumption | omega); (case t2w => first | decide | assumption | omega)); intro _ _ _ _ _ _ _ _ _ _ _ _ N9w; (try dsimp only at N9w))) | fail "no"
  k_with "call ref nil#" => first | (((try dsimp only [List.nil_append, List.cons_append]); (with_reducible show wpAny _ _ (call (Value.ref 210) [Value.ref _, Value.ref _]) _ _ _); k_dflt (refine' Mine.oneU ?Bw ?Fw ?Xw ?Nw ?Tw ?kw ?dw ?uw ?ow ?tw ?ew ?s0w ?s1w ?aw ?_; (case Bw => k_asm); (case Fw => k_asm); (case Xw => k_asm); (case Nw => k_asm); (case Tw => k_asm); (case kw => first | exact rfl | assumption); (case dw => ktr_room); (case uw => ktr_units); (case ow => k_updF); (case tw => k_mem); (case ew => k_ne); (case s0w => walk_at "m:size"); (case s1w => walk_at "m:size"); (case aw => assumption)); intro _ _ _ _ _ _ _ _ _ _ N9w; (try dsimp only at N9w))) | fail "no"
  k_with "call ref cons nil#" => first | (((try dsimp only [List.nil_append, List.cons_append]); (with_reducible show wpAny _ _ (call (Value.ref 210) [Value.ref _, Value.ref _]) _ _ _); k_dflt (refine' Mine.oneU ?Bw ?Fw ?Xw ?Nw ?Tw ?kw ?dw ?uw ?ow ?tw ?ew ?s0w ?s1w ?aw ?_; (case Bw => k_asm); (case Fw => k_asm); (case Xw => k_asm); (case Nw => k_asm); (case Tw => k_asm); (case kw => first | exact rfl | assumption); (case dw => ktr_room); (case uw => ktr_units); (case ow => k_updF); (case tw => k_mem); (case ew => k_ne); (case s0w => walk_at "m:size"); (case s1w => walk_at "m:size"); (case aw => assumption)); intro _ _ _ _ _ _ _ _ _ _ N9w; (try dsimp only at N9w))) | fail "no"
  k_with "m:for#" => first | ((k_here; (rename Fr _ _ _ _ => lF'); (with_unfolding_all refine' For_turns lF' ?_; k_whole))) | fail "no"
  k_with "exec For Name Name cons nil#" => first | (walk_at "m:for") | fail "no"
  k_with "exec For Tuple Call cons nil#" => first | (walk_at "m:for") | fail "no"
  k_with "call ref nil#" => first | (((try dsimp only [List.nil_append, List.cons_append]); (with_reducible show wpAny _ _ (call (Value.ref 103) [Value.ref _, Value.int _ _]) _ _ _); k_dflt (refine' Mine.of_spec ?Bw ?Fw ?Xw ?Nw ?Tw ?kw ?dw ?uw ?m1w ?m2w ?m3w ?zw ?j0w ?j1w ?_; (case Bw => k_asm); (case Fw => k_asm); (case Xw => k_asm); (case Nw => k_asm); (case Tw => k_asm); (case kw => first | exact rfl | assumption); (case dw => ktr_room); (case uw => ktr_units); (case m1w => k_mem); (case m2w => k_mem); (case m3w => k_mem); (case zw => assumption); (case j0w => assumption); (case j1w => assumption)); intro _ _ _ _)) | fail "no"
  k_with "call ref cons nil#" => first | (((try dsimp only [List.nil_append, List.cons_append]); (with_reducible show wpAny _ _ (call (Value.ref 103) [Value.ref _, Value.int _ _]) _ _ _); k_dflt (refine' Mine.of_spec ?Bw ?Fw ?Xw ?Nw ?Tw ?kw ?dw ?uw ?m1w ?m2w ?m3w ?zw ?j0w ?j1w ?_; (case Bw => k_asm); (case Fw => k_asm); (case Xw => k_asm); (case Nw => k_asm); (case Tw => k_asm); (case kw => first | exact rfl | assumption); (case dw => ktr_room); (case uw => ktr_units); (case m1w => k_mem); (case m2w => k_mem); (case m3w => k_mem); (case zw => assumption); (case j0w => assumption); (case j1w => assumption)); intro _ _ _ _)) | fail "no"
  k_with "call ref nil#" => first | (((try dsimp only [List.nil_append, List.cons_append]); (with_reducible show wpAny _ _ (call (Value.ref 103) [Value.ref _, Value.int _ _]) _ _ _); k_dflt (refine' Mine.of_spec2 ?Bw ?Fw ?Xw ?Nw ?Tw ?kw ?dw ?uw ?m1w ?m2w ?m3w ?zw ?j0w ?j1w ?_; (case Bw => k_asm); (case Fw => k_asm); (case Xw => k_asm); (case Nw => k_asm); (case Tw => k_asm); (case kw => first | exact rfl | assumption); (case dw => ktr_room); (case uw => ktr_units); (case m1w => k_mem); (case m2w => k_mem); (case m3w => k_mem); (case zw => assumption); (case j0w => assumption); (case j1w => first | assumption | (rename (@LT.lt Int _ _ _) => q9; simp only [List.size_toArray, List.length_map] at q9; omega))); intro _ _ _ _ _ _)) | fail "no"
  k_with "call ref cons nil#" => first | (((try dsimp only [List.nil_append, List.cons_append]); (with_reducible show wpAny _ _ (call (Value.ref 103) [Value.ref _, Value.int _ _]) _ _ _); k_dflt (refine' Mine.of_spec2 ?Bw ?Fw ?Xw ?Nw ?Tw ?kw ?dw ?uw ?m1w ?m2w ?m3w ?zw ?j0w ?j1w ?_; (case Bw => k_asm); (case Fw => k_asm); (case Xw => k_asm); (case Nw => k_asm); (case Tw => k_asm); (case kw => first | exact rfl | assumption); (case dw => ktr_room); (case uw => ktr_units); (case m1w => k_mem); (case m2w => k_mem); (case m3w => k_mem); (case zw => assumption); (case j0w => assumption); (case j1w => first | assumption | (rename (@LT.lt Int _ _ _) => q9; simp only [List.size_toArray, List.length_map] at q9; omega))); intro _ _ _ _ _ _)) | fail "no"
  k_with "call ref nil#" => first | (((try dsimp only [List.nil_append, List.cons_append]); (with_reducible show wpAny _ _ (call (Value.ref 103) [Value.ref _, Value.int _ _]) _ _ _); k_dflt (refine' Mine.of_spec ?Bw ?Fw ?Xw ?Nw ?Tw ?kw ?dw ?uw ?m1w ?m2w ?m3w ?zw ?j0w ?j1w ?_; (case Bw => k_asm); (case Fw => k_asm); (case Xw => k_asm); (case Nw => k_asm); (case Tw => k_asm); (case kw => first | exact rfl | assumption); (case dw => ktr_room); (case uw => ktr_units); (case m1w => k_mem); (case m2w => k_mem); (case m3w => k_mem); (case zw => assumption); (case j0w => assumption); (case j1w => assumption)); intro _ _ _ _)) | fail "no"
  k_with "call ref cons nil#" => first | (((try dsimp only [List.nil_append, List.cons_append]); (with_reducible show wpAny _ _ (call (Value.ref 103) [Value.ref _, Value.int _ _]) _ _ _); k_dflt (refine' Mine.of_spec ?Bw ?Fw ?Xw ?Nw ?Tw ?kw ?dw ?uw ?m1w ?m2w ?m3w ?zw ?j0w ?j1w ?_; (case Bw => k_asm); (case Fw => k_asm); (case Xw => k_asm); (case Nw => k_asm); (case Tw => k_asm); (case kw => first | exact rfl | assumption); (case dw => ktr_room); (case uw => ktr_units); (case m1w => k_mem); (case m2w => k_mem); (case m3w => k_mem); (case zw => assumption); (case j0w => assumption); (case j1w => assumption)); intro _ _ _ _)) | fail "no"
  k_with "call ref nil#" => first | (((try dsimp only [List.nil_append, List.cons_append]); (with_reducible show wpAny _ _ (call (Value.ref 115) [Value.ref _, _]) _ _ _); refine Mine.Hold.out ?_)) | fail "no"
  k_with "call ref cons nil#" => first | (((try dsimp only [List.nil_append, List.cons_append]); (with_reducible show wpAny _ _ (call (Value.ref 115) [Value.ref _, _]) _ _ _); refine Mine.Hold.out ?_)) | fail "no"
  k_with "call ref nil#" => first | (((try dsimp only [List.nil_append, List.cons_append]); (with_reducible show wpAny _ _ (call (Value.ref 123) [Value.ref _, Value.int _ _, _]) _ _ _); refine Mine.Hold.out ?_)) | fail "no"
  k_with "call ref cons nil#" => first | (((try dsimp only [List.nil_append, List.cons_append]); (with_reducible show wpAny _ _ (call (Value.ref 123) [Value.ref _, Value.int _ _, _]) _ _ _); refine Mine.Hold.out ?_)) | fail "no"
  k_with "exec If#" => first | (refine Mine.hold_if 8 (by assumption) ?_) | fail "no"
  k_with "call ref nil#" => first | (((try dsimp only [List.nil_append, List.cons_append]); (with_reducible show wpAny _ _ (call (Value.ref 108) [Value.ref _]) _ _ _); k_dflt (refine' Mine.ready_spec ?Bw ?Fw ?Xw ?Nw ?Tw ?kw ?dw ?uw ?vw ?lw ?_; (case Bw => k_asm); (case Fw => k_asm); (case Xw => k_asm); (case Nw => k_asm); (case Tw => k_asm); (case kw => first | exact rfl | assumption); (case dw => ktr_room); (case uw => ktr_units); (case vw => walk_at "m:sees"); (case lw => assumption); k_whole); intro _ _ _ _ _ _)) | fail "no"
  k_with "call ref cons nil#" => first | (((try dsimp only [List.nil_append, List.cons_append]); (with_reducible show wpAny _ _ (call (Value.ref 108) [Value.ref _]) _ _ _); k_dflt (refine' Mine.ready_spec ?Bw ?Fw ?Xw ?Nw ?Tw ?kw ?dw ?uw ?vw ?lw ?_; (case Bw => k_asm); (case Fw => k_asm); (case Xw => k_asm); (case Nw => k_asm); (case Tw => k_asm); (case kw => first | exact rfl | assumption); (case dw => ktr_room); (case uw => ktr_units); (case vw => walk_at "m:sees"); (case lw => assumption); k_whole); intro _ _ _ _ _ _)) | fail "no"
  k_with "call ref nil#" => first | (((try dsimp only [List.nil_append, List.cons_append]); (with_reducible show wpAny _ _ (call (Value.ref 149) [Value.ref _]) _ _ _); k_dflt (refine' Mine.dead_spec ?Bw ?Fw ?Xw ?Nw ?Tw ?kw ?dw ?uw ?vw ?lw ?_; (case Bw => k_asm); (case Fw => k_asm); (case Xw => k_asm); (case Nw => k_asm); (case Tw => k_asm); (case kw => first | exact rfl | assumption); (case dw => ktr_room); (case uw => ktr_units); (case vw => walk_at "m:sees"); (case lw => assumption); k_whole); intro _ _ _ _)) | fail "no"
  k_with "call ref cons nil#" => first | (((try dsimp only [List.nil_append, List.cons_append]); (with_reducible show wpAny _ _ (call (Value.ref 149) [Value.ref _]) _ _ _); k_dflt (refine' Mine.dead_spec ?Bw ?Fw ?Xw ?Nw ?Tw ?kw ?dw ?uw ?vw ?lw ?_; (case Bw => k_asm); (case Fw => k_asm); (case Xw => k_asm); (case Nw => k_asm); (case Tw => k_asm); (case kw => first | exact rfl | assumption); (case dw => ktr_room); (case uw => ktr_units); (case vw => walk_at "m:sees"); (case lw => assumption); k_whole); intro _ _ _ _)) | fail "no"
  k_with "call ref nil#" => first | (((try dsimp only [List.nil_append, List.cons_append]); (with_reducible show wpAny _ _ (call (Value.ref 154) [Value.ref _]) _ _ _); k_dflt (refine' Mine.wait_spec ?Bw ?Fw ?Xw ?Nw ?Tw ?kw ?dw ?uw ?vw ?lw ?hhw ?_; (case Bw => k_asm); (case Fw => k_asm); (case Xw => k_asm); (case Nw => k_asm); (case Tw => k_asm); (case kw => first | exact rfl | assumption); (case dw => ktr_room); (case uw => ktr_units); (case vw => walk_at "m:sees"); (case lw => assumption); (case hhw => assumption); k_whole); intro _ _ _ _ _ _ _ _)) | fail "no"
  k_with "call ref cons nil#" => first | (((try dsimp only [List.nil_append, List.cons_append]); (with_reducible show wpAny _ _ (call (Value.ref 154) [Value.ref _]) _ _ _); k_dflt (refine' Mine.wait_spec ?Bw ?Fw ?Xw ?Nw ?Tw ?kw ?dw ?uw ?vw ?lw ?hhw ?_; (case Bw => k_asm); (case Fw => k_asm); (case Xw => k_asm); (case Nw => k_asm); (case Tw => k_asm); (case kw => first | exact rfl | assumption); (case dw => ktr_room); (case uw => ktr_units); (case vw => walk_at "m:sees"); (case lw => assumption); (case hhw => assumption); k_whole); intro _ _ _ _ _ _ _ _)) | fail "no"
  k_with "exec Assign cons ListComp#" => first | ((k_here; (with_reducible show wpAny _ _ (exec (Stmt.Assign [Expr.Name _ _] (Expr.ListComp _ [⟨Expr.Name _ _, _, [], _⟩] _ _) _) _) _ _ _); k_dflt (refine LCg.Assign_ListComp_U (F₀ := by k_asm) (by rfl) (by with_unfolding_all rfl) (by with_unfolding_all rfl) (by decide) (by rfl) (by decide) (by rfl) (by rfl) (by rfl) ?_))) | fail "no"
  k_with "exec Assign cons ListComp#" => first | ((k_here; (with_reducible show wpAny _ _ (exec (Stmt.Assign [Expr.Name _ _] (Expr.ListComp _ [⟨Expr.Tuple _ _ _, _, [_], _⟩] _ _) _) _) _ _ _); k_dflt (refine Mine.enum_Assign (F₀ := by k_asm) (by rfl) (by with_unfolding_all rfl) (by with_unfolding_all rfl) (by decide) (by rfl) (by decide) (by rfl) (by rfl) (by decide) (by rfl) (by rfl) ?_))) | fail "no"
  k_with "m:enterC#" => first | ((refine' code_defC ?k1w ?k2w ?k3w ?k4w ?k5w ?kAw ?kFw ?kKw ?k6w ?k7w ?k8w ?k9w ?kBw ?kDw ?_ ?c2w ?c3w ?c4w; (case kAw => exact rfl); (case kFw => exact rfl); (case kKw => first | exact rfl | assumption); (case k1w => k_asm); (case k2w => k_asm); (case k3w => k_asm); (case k4w => k_asm); (case k5w => k_asm); (case k6w => k_is); (case k7w => k_is); (case k8w => ktr_room); (case k9w => exact BindsTo.of_eq rfl); (case kBw => exact rfl); (case kDw => decide +kernel); (case c2w => exact rfl); (case c3w => exact rfl); (case c4w => exact rfl); k_whole; intro _ _ _ _ _ _ _ N'w Y'w B'w _ _ l1w; (try k_lt l1w); k_cells Y'w; (try simp only [List.cons_append, List.nil_append] at N'w); (try dsimp only); (try k_lift B'w); (try k_fold))) | fail "no"
  k_with "m:lt9#" => first | (first | assumption | exact True.intro | (refine And.intro (by (try dsimp only); omega) ?_; walk_at "m:lt9") | exact Mine.allLt_le (Nat.le_succ _) (by assumption) | (refine Mine.allLt_le (Nat.le_of_lt ?_) ?_; rotate_left; assumption; omega)) | fail "no"
  k_with "m:dcons#" => first | (first | assumption | (refine Mine.Dis.cons ?h9w ?k9w; (case k9w => ((try dsimp only); walk_at "m:lt9")); (case h9w => walk_at "m:dcons"))) | fail "no"
  k_with "m:sees#" => first | (exact Mine.sees_of (by k_mem) (by k_mem) (by k_mem) (by walk_at "m:tail")) | fail "no"
  k_with "m:rows#" => first | (exact Mine.rows_of (by k_mem) (by walk_at "m:tail")) | fail "no"
  k_with "m:facts#" => first | ((simp only [Mine.Dis, List.map_cons, List.nodup_cons, List.mem_cons, not_or] at *; walk_at "m:split")) | fail "no"
  trivial
namespace Mine
open PySem.Spec PySem.Calls
/-- what a class's order of search must hold of the built-in ones -/
structure MroOk (B : String) (bm : List Value) : Prop where
  b : bm.contains (.type B) = true
  e : bm.contains (.type "BaseException") = true
  a : bm.contains (.type "AttributeError") = false
  n : bm.contains (.type "NameError") = false
theorem MroOk.has {B : String} {bm : List Value} {C : Addr} (O : MroOk B bm) : (Value.ref C :: bm).contains (.type B) = true ∧ (Value.ref C :: bm).contains (.type "AttributeError") = false ∧ (Value.ref C :: bm).contains (.type "NameError") = false ∧ (Value.ref C :: bm).contains (.ref C) = true :=
  ⟨by rw [List.contains_cons, O.b, Bool.or_true], by rw [List.contains_cons, O.a]; rfl, by rw [List.contains_cons, O.n]; rfl, by simp⟩
section
variable {prog : Program} {w : World} {A : Around} {E : Value → Shared → Prop} {h : Heap} {g : Array GenState} {d : Drawn} {t : Nat} {os : OsState}
variable {nm q : Str} {C N : Addr} {bs bm bmB : List Value} {hdct : Bool} {sn : List Str} {sub : List Value} {ab : Bool} {col : Option Bool} {dd : Option Addr} {k0 k1 k2 k3 k5 : Option Value} {B newId initId : String}
/-- the built-in maker, called for an own class whose order of search holds own classes too -/
theorem own_new (F : ExcBaseFacts B newId initId bmB) (O : MroOk B bm) {R : Result → Shared → Prop} {rest : List Value} (hC : h.get? C = some (excClassObj nm q C N bs bm hdct sn sub ab col dd k0 k1 k2 k3 k5 newId))
    (hq : R (.ok (.ret (.ref (h.objs.size + 1)))) ⟨(h.push (tupO rest)).push { cls := .ref C, data := .fields #[.ref h.objs.size, .none, .none, .none, .bool false, .none] }, g, d, t, os⟩) (hrest : rest.length ≤ sizeLine) :
    codeAny (model prog w) A (.builtin newId ⟨.ref C :: rest, []⟩) R ⟨h, g, d, t, os⟩ := by
  obtain ⟨c1, c2, c3, _⟩ := O.has (C := C)
  have hends := F.ends
  refine codeAny_builtinAt F.entry ?_
  unfold Builtin.«BaseException.__new__»
  refine PySem.wpAt_bind ?_
  show PySem.wpAt _ _ _ (stack >>= _) _ _ _
  refine PySem.wpAt_bind (PySem.wpAt_stack fun p below => PySem.wpAt_of_wpAny ?_)
  wp_walk
  refine PySem.wpAt_of_wpAny ?_
  rw [F.owner]
  repeat (first | with_reducible refine wpAny_madeHere_exc F.canon hC ?_ | with_reducible refine wpAny_loadPart_at hC ?_ | (with_reducible refine wpAny_isSubtype_exc hC ?_; first | rw [c1] | rw [c2] | rw [c3]) | wp_step)
  show R _ _
  rw [Heap.size_push]
  exact hq
theorem own_check (F : ExcBaseFacts B newId initId bmB) (O : MroOk B bm) {M : Model} {rest : List Value} {Q : Unit → Shared → Prop} (hC : h.get? C = some (excClassObj nm q C N bs bm hdct sn sub ab col dd k0 k1 k2 k3 k5 newId)) (hq : Q () ⟨h, g, d, t, os⟩) :
    wpAny M A (checkBuiltinCall newId ⟨.ref C :: rest, []⟩) Q E ⟨h, g, d, t, os⟩ := by
  obtain ⟨c1, _, _, _⟩ := O.has (C := C)
  have hstar := F.noStar
  simp only [checkBuiltinCall, F.newKind, F.newSplit, F.newRow]
  repeat (first | refine wpAny_loadPart_at hC ?_ | (refine wpAny_isSubtype_exc hC ?_; rw [c1]) | refine wpAny_staticBase_exc hC ?_ | refine wpAny_madeBy_exc hC ?_ | simp only [bne_self_eq_false, Bool.false_eq_true, if_false] | wp_step)
  exact hq
/-- an own exception's class is called: a new object, then its own __init__ -/
theorem own_call (F : ExcBaseFacts B newId initId bmB) (O : MroOk B bm) {mN : Str → Option Value} {rest : List Value} {fI : Addr} {oI : Obj} {Q : Value → Shared → Prop}
    (hC : h.get? C = some (excClassObj nm q C N bs bm hdct sn sub ab col dd k0 k1 k2 k3 k5 newId)) (hn : h.Ns N mN) (hi : mN "__init__" = some (.ref fI)) (hfI : h.get? fI = some oI) (hfc : oI.cls = .type "function") (hrest : rest.length ≤ sizeLine)
    (hq : wpAny (model prog w) (A.under (.builtin "type.__call__" ⟨.ref C :: rest, []⟩)) (call (.ref fI) (.ref (h.objs.size + 1) :: rest)) (fun r s' => r = .none ∧ Q (.ref (h.objs.size + 1)) s') E
      ⟨(h.push (tupO rest)).push { cls := .ref C, data := .fields #[.ref h.objs.size, .none, .none, .none, .bool false, .none] }, g, d, t, os⟩) :
    wpAny (model prog w) A (call (.ref C) rest) Q E ⟨h, g, d, t, os⟩ := by
  obtain ⟨_, _, _, c4⟩ := O.has (C := C)
  have f1 := tc_lookup
  have f2 := tc_bind (.ref C)
  have hT : (⟨h, g, d, t, os⟩ : Shared).TypeIs (.ref C) "type" := ⟨_, hC, rfl⟩
  refine wpAny_call (codeAny_of_tree (show wpAny _ _ (callAny (.ref C) _) _ _ _ from ?_))
  repeat (any_goals (first | assumption | with_reducible refine wpAny_loadPart_at hC ?_ | wp_step))
  refine ⟨rfl, codeAny_call_builtin_at (Code.quiet_builtin _ (by decide +kernel)) entry_typeCall (wpAny_check_type_call_sub hC ?_)⟩
  repeat (first | with_reducible refine wpAny_loadPart_at hC ?_ | with_reducible refine wpAny_madeBy_exc hC ?_ | wp_step)
  refine codeAny_call_builtin_code (Code.quiet_builtin _ F.quiet) (own_check F O hC (own_new F O hC (show wpAny _ _ _ _ _ _ from ?_) hrest))
  have up : ∀ b o, h.get? b = some o → ((h.push (tupO rest)).push { cls := .ref C, data := .fields #[.ref h.objs.size, .none, .none, .none, .bool false, .none] }).get? b = some o := fun b o e => Heap.get?_push_of_some _ (Heap.get?_push_of_some _ e)
  have hget : ((h.push (tupO rest)).push { cls := .ref C, data := .fields #[.ref h.objs.size, .none, .none, .none, .bool false, .none] }).get? (h.objs.size + 1) = some { cls := .ref C, data := .fields #[.ref h.objs.size, .none, .none, .none, .bool false, .none] } := by heap_get
  have hC₁ := up _ _ hC
  unfold isInstance
  repeat (first | with_reducible refine wpAny_loadPart_at hget ?_ | (with_reducible refine wpAny_isSubtype_exc hC₁ ?_; rw [c4]) | wp_step)
  refine wpAny_isSubtype_exc hC₁ ?_
  rw [c4]
  repeat (first | with_reducible refine wpAny_loadPart_at hget ?_ | wp_step)
  show wpAny _ _ (typeLookup (.ref C) _) _ _ _
  rw [typeLookup_eq]
  refine wpAny_bind (wpAny_mroOf_exc hC₁ ?_)
  rw [lookupAlong_cons]
  refine wpAny_bind (wpAny_classOwn_exc hC₁ (hn.keeps up) ?_)
  rw [hi]
  refine wpAny_pure (wpAny_holding (wpAny_bind ?_))
  unfold bindSpecial
  refine wpAny_bind (wpAny_typeOf (T := "function") ⟨_, up _ _ hfI, hfc⟩ ?_)
  rw [if_pos (by decide)]
  refine wpAny_pure (wpAny_bind (wpAny_mono hq (fun r s' hr => ?_) fun _ _ x => x))
  obtain ⟨rfl, hQ⟩ := hr
  wp_walk
  exact hQ
end
end Mine

/- X2 -/
namespace Mine
open PySem.Spec PySem.Calls
section
variable {prog : Program} {w : World} {A : Around} {E : Value → Shared → Prop} {s : Shared} {K : Frag} {x C : Addr} {ox : Obj} {od : Option Obj} {name : Str} {v : Value} {expr : Bool}
theorem exc_get {Q : Value → Shared → Prop} (X : K.In s.heap) (I : InstAt s.heap x ox C od) (hga : findIn K (.ref C) "__getattribute__" = some (some (.builtin "BaseException.__getattribute__"))) (hgn : findIn K (.ref C) "__getattr__" = some none)
    (hb : mroIn K C (.type "BaseException") = some true) (hf : findObj K C od name = some (.value v)) (hh : handedIn v = true) (h : Q v { s with toks := s.toks + 1 }) : wpAny (model prog w) A (getAttr (.ref x) name expr) Q E s := by
  have L0 := I.type (M := model prog w)
  have L1 := looks_findIn (M := model prog w) X hga
  have L2 := looks_findIn (M := model prog w) X hgn
  have L3 := looks_find (M := model prog w) X I hf
  have L4 : Looks (model prog w) s.heap (isInstance (.ref x) (.type "BaseException")) true := I.type.andThen (looks_mroIn X hb)
  have hc : (onTheHeap (Value.ref C) && Value.builtin "BaseException.__getattribute__" == Value.builtin "object.__getattribute__") = false := by
    rw [show (Value.builtin "BaseException.__getattribute__" == Value.builtin "object.__getattribute__") = false by decide +kernel]; exact Bool.and_false _
  have hx0 : (expr && onTheHeap (Value.builtin "BaseException.__getattribute__")) = false := by cases expr <;> rfl
  have f3 := PySem.F.attrBase_Exception.ga.bind (.ref x)
  obtain ⟨hs, g, d, t, os⟩ := s
  unfold getAttr getAttrBy
  refine wpAny_bind (wpAny_mkText (wpAny_holding (wpAny_bind (L0.at (wpAny_bind (L1.at ?_))))))
  dsimp only
  rw [hc]
  simp only [Bool.false_eq_true, if_false]
  unfold getAttrByItsOwn hookBefore callGetattribute boundAndCalled
  rw [if_pos (show onTheHeap (Value.ref C) = true from rfl), hx0]
  simp only [Bool.false_eq_true, if_false]
  refine wpAny_bind (L2.at ?_)
  refine wpAny_bind ?_
  rw [f3]
  refine wpAny_attempt ?_
  refine wpAny_holding ?_
  refine wpAny_bind ?_
  refine wpAny_pure ?_
  dsimp only [List.cons_append, List.nil_append]
  refine wpAny_call ?_
  have hk : builtinKind "BaseException.__getattribute__" = some .slot := by decide +kernel
  have hsp : splitId "BaseException.__getattribute__" = some ("BaseException", "__getattribute__") := by decide +kernel
  have ha := PySem.F.args_bexc_ga (.ref x) (.str name t)
  refine codeAny_call_builtin (id := "BaseException.__getattribute__") (args := ⟨[.ref x, .str name t], []⟩) PySem.F.attrBase_Exception.ga.plain PySem.F.entry_bexc_ga ?_
  refine @check_slot (model prog w) _ _ _ "BaseException.__getattribute__" "BaseException" "__getattribute__" (.ref x) [.str name t] [] _ hk hsp L4 ha ?_
  unfold Builtin.«object.__getattribute__»
  refine wpAny_bind (show wpAny _ _ (pure (Value.ref x, [Value.str name t])) _ _ _ from wpAny_pure ?_)
  refine wpAny_bind (show wpAny _ _ (pure name) _ _ _ from wpAny_pure ?_)
  refine wpAny_bind (L0.at ?_)
  refine wpAny_bind (L3.at ?_)
  refine wpAny_pure ?_
  show wpAny _ _ (handedOut v) _ _ _
  rw [handedOut_of hh]; exact wpAny_pure h
end
end Mine

/- X3 -/
namespace Mine
open PySem.Spec PySem.Calls
abbrev eo (C : Addr) (dd : Option Addr) (t : Addr) : Obj := { cls := .ref C, dict := dd, data := .fields #[.ref t, .none, .none, .none, .bool false, .none] }
section
variable {prog : Program} {w : World} {A : Around} {E : Value → Shared → Prop} {s : Shared} {K : Frag} {C L : Addr} {h₀ : Heap} {m : Str → Option Value}
theorem own_init_check {h : Heap} {g : Array GenState} {d : Drawn} {t : Nat} {os : OsState} {nm q : Str} {N : Addr} {bs bm : List Value} {hdct : Bool} {sn : List Str} {sub : List Value} {ab : Bool} {col : Option Bool} {dd : Option Addr} {k0 k1 k2 k3 k5 : Option Value} {newId : String}
    {M : Model} {e : Addr} {oe : Obj} {rest : List Value} {Q : Unit → Shared → Prop} (O : MroOk "Exception" bm)
    (hC : h.get? C = some (excClassObj nm q C N bs bm hdct sn sub ab col dd k0 k1 k2 k3 k5 newId)) (he : h.get? e = some oe) (hcls : oe.cls = .ref C) (hq : Q () ⟨h, g, d, t, os⟩) :
    wpAny M A (checkBuiltinCall "Exception.__init__" ⟨.ref e :: rest, []⟩) Q E ⟨h, g, d, t, os⟩ := by
  obtain ⟨c1, _, _, _⟩ := O.has (C := C)
  have F := PySem.F.excBase_Exception
  have hshort := F.noStar
  simp only [checkBuiltinCall, F.initKind, F.initSplit, F.initRow]
  repeat (first | (with_reducible refine wpAny_loadPart_at he ?_; rw [hcls]) | with_reducible refine wpAny_loadPart_at hC ?_ | (with_reducible refine wpAny_isSubtype_exc hC ?_; rw [c1]) | wp_step)
  refine wpAny_onRaise ?_
  have z : ∀ (a b : String) (n : Nat), Bind.check ⟨.positional, "*", "Exception", .self, [⟨"args", .varPos, false⟩]⟩ a b n (List.map (fun x => x.fst) ({ pos := Value.ref e :: rest } : Args).kw) = pure () := fun a b n => check_star_args _ _ _ _ _ _
  rw [z]
  exact wpAny_pure hq
theorem exc_init {e t0 : Addr} {rest : List Value} {news : List (Addr × Obj)} {to : Obj} {Q : Value → Shared → Prop} (F : Fr h₀ L s.heap m) (N : News h₀ L s.heap ((e, eo C none t0) :: (t0, to) :: news)) (off : ∀ q ∈ news, q.1 ≠ e) {nm q : Str} {Nn : Addr} {bs bm : List Value} {hdct : Bool} {sn : List Str} {sub : List Value} {ab : Bool} {col : Option Bool} {dd : Option Addr} {k0 k1 k2 k3 k5 : Option Value} {newId : String} (O : MroOk "Exception" bm)
    (hC : s.heap.get? C = some (excClassObj nm q C Nn bs bm hdct sn sub ab col dd k0 k1 k2 k3 k5 newId)) (hrest : rest.length ≤ sizeLine)
    (h : ∀ t1 h', Fr h₀ L h' m → News h₀ L h' ((t1, tupO rest) :: (e, eo C none t1) :: news) → (∀ q ∈ (e, eo C none t0) :: news, q.1 < t1) → Q .none { s with heap := h' }) :
    wpAny (model prog w) A (call (.builtin "Exception.__init__") (.ref e :: rest)) Q E s := by
  have he := N _ List.mem_cons_self
  have lt : ∀ q ∈ (e, eo C none t0) :: news, q.1 < s.heap.objs.size := fun q hq => Heap.lt_size (N q (by
    rcases List.mem_cons.mp hq with rfl | hq
    · exact List.mem_cons_self
    · exact List.mem_cons_of_mem _ (List.mem_cons_of_mem _ hq))).1
  refine wpAny_call ?_
  refine codeAny_call_builtin (id := "Exception.__init__") (args := ⟨.ref e :: rest, []⟩) PySem.F.excBase_Exception.init.plain PySem.F.excBase_Exception.initEntry ?_
  obtain ⟨hs, g, d, tk, os⟩ := s
  refine own_init_check O hC he.1 rfl ?_
  unfold Builtin.«BaseException.__init__»
  dsimp only at he F N lt h ⊢
  refine wpAny_bind (newTuple_N F N (fun h' F' N' => ?_) hrest)
  have he' := (N' (e, eo C none t0) (List.mem_cons_of_mem _ List.mem_cons_self)).1
  refine wpAny_bind (show wpAny _ _ (do let old ← field (.ref e) 0; setField (.ref e) 0 (.ref hs.objs.size); if let .ref _ := old then letGo [old] []) _ _ _ from ?_)
  refine wpAny_bind (wpAny_field he' rfl (x := .ref t0) rfl (wpAny_bind (wpAny_setField he' rfl (by simp) ?_)))
  refine wpAny_bind (wpAny_holding (wpAny_point ?_))
  refine wpAny_pure (wpAny_pure ?_)
  have N2 : News h₀ L h' ([(hs.objs.size, tupO rest)] ++ (e, eo C none t0) :: news) := news_sub N' fun q hq => by
    rcases List.mem_cons.mp hq with rfl | hq
    · exact List.mem_cons_self
    · rcases List.mem_cons.mp hq with rfl | hq
      · exact List.mem_cons_of_mem _ List.mem_cons_self
      · exact List.mem_cons_of_mem _ (List.mem_cons_of_mem _ (List.mem_cons_of_mem _ hq))
  obtain ⟨U1, U2⟩ := news_upd (f := Obj.mapFields fun x => x.setIfInBounds 0 (Value.ref hs.objs.size)) (o' := eo C none hs.objs.size) F' N2 (fun q hq => by
    rw [List.mem_singleton.mp hq]; exact Nat.ne_of_gt (lt _ List.mem_cons_self)) off rfl rfl
  exact h _ _ U1 U2 lt
end
end Mine

/- X4 -/
namespace Mine
open PySem.Spec PySem.Calls
def excMro : List Value → Bool
  | .ref _ :: r => excMro r
  | l => l == [.type "Exception", .type "BaseException", .type "object"]
theorem excMro_ref {a : Addr} {r : List Value} (e : excMro (.ref a :: r) = true) : excMro r = true := by unfold excMro at e; exact e
theorem refuse_exc (self : Value) : ∀ {l : List Value}, excMro l = true → refuseLoop self "__setattr__" l = pure ()
  | [], e => by cases e
  | v :: r, e => by
    by_cases q : ∃ a, v = .ref a
    · obtain ⟨a, rfl⟩ := q
      rw [refuseLoop_ref]; exact refuse_exc self (excMro_ref e)
    · have e' : ((v :: r) == [.type "Exception", .type "BaseException", .type "object"]) = true := by
        unfold excMro at e
        split at e
        · rename_i z; cases z; exact absurd ⟨_, rfl⟩ q
        · exact e
      rw [beq_iff_eq.mp e']
      kernel_rfl
theorem exc_has : ∀ {l : List Value}, excMro l = true → l.contains (.type "object") = true
  | [], e => by cases e
  | v :: r, e => by
    by_cases q : ∃ a, v = .ref a
    · obtain ⟨a, rfl⟩ := q
      rw [List.contains_cons, exc_has (excMro_ref e), Bool.or_true]
    · have e' : ((v :: r) == [.type "Exception", .type "BaseException", .type "object"]) = true := by
        unfold excMro at e
        split at e
        · rename_i z; cases z; exact absurd ⟨_, rfl⟩ q
        · exact e
      rw [beq_iff_eq.mp e']
      rfl
def excOver (K : Frag) (C : Addr) : Bool := (clsIn K C).any fun cd => excMro cd.mro
section
variable {prog : Program} {w : World} {A : Around} {s : Shared} {K : Frag} {C x L : Addr} {h₀ : Heap} {m : Str → Option Value}
theorem exc_open {R : Result → Shared → Prop} {ox : Obj} {od : Option Obj} {name : Str} {tk : Tok} {v : Value} (X : K.In s.heap) (I : InstAt s.heap x ox C od) (hp : excOver K C = true) (ha : findIn K (.ref C) name = some none)
    (h : wpAny (model prog w) A.in1 (PySem.Builtin.ObjectAttr.storeInOwnDict (.ref x) (.ref C) (.str name tk) name v false)
      (fun fin s' => match fin with | .done f => R (.ok f) s' | .again c' => c'.quiet = true ∧ codeAny (model prog w) A c' R s') (fun e s' => R (.error e) s') s) :
    codeAny (model prog w) A (.call (.builtin "object.__setattr__") ⟨[.ref x, .str name tk, v], []⟩) R s := by
  have SF := PySem.F.store_object
  obtain ⟨cd, hc, ho⟩ := any_some hp
  have ne : cd.mro.isEmpty = false := by cases q : cd.mro with | nil => rw [q] at ho; cases ho | cons _ _ => rfl
  have sub : Looks (model prog w) s.heap (isInstance (.ref x) (.type "object")) true := I.type.andThen (looks_mroIn X (by unfold mroIn; rw [hc, Option.bind_some, if_neg (by rw [ne]; decide), exc_has ho]))
  have hm : Looks (model prog w) s.heap (mroOf (.ref C)) cd.mro := (looks_clsIn X hc).andThen .now
  refine codeAny_call_builtin SF.slot.plain SF.entry (@check_slot (model prog w) _ _ s "object.__setattr__" "object" "__setattr__" (.ref x) [.str name tk, v] [] _ SF.kind SF.split sub (SF.args (.ref x) (.str name tk) v) ?_)
  rw [osa_eq, refuse_eq]
  refine wpAny_bind (wpAny_bind (I.type.here (wpAny_bind (hm.here ?_))))
  rw [refuse_exc _ ho]
  exact wpAny_pure (wpAny_bind (I.type.here (wpAny_bind ((looks_findIn X ha).here (wpAny_bind (Looks.now.here h))))))
end
end Mine

/- X5 -/
namespace Mine
open PySem.Spec PySem.Calls
section
variable {prog : Program} {w : World} {A : Around} {s : Shared} {K : Frag} {C x L : Addr} {h₀ : Heap} {m : Str → Option Value} {R : Result → Shared → Prop}
theorem store_tail {d : Addr} {es es' : List DictEntry} {n n' : Nat} {name : Str} {tk : Tok} {v : Value} {pre post : List (Addr × Obj)} (F : Fr h₀ L s.heap m) (N : News h₀ L s.heap (pre ++ (d, dictOf es n) :: post)) (h1 : ∀ p ∈ pre, p.1 ≠ d) (h2 : ∀ p ∈ post, p.1 ≠ d)
    (hl : es.any (·.refKey) = false) (e : Obj.putName name (PyData.keyHash w.params name) (.str name s.toks) v (dictOf es n) = dictOf es' n') (hz : es'.length ≤ 1000)
    (h : ∀ h', Fr h₀ L h' m → News h₀ L h' (pre ++ (d, dictOf es' n') :: post) → R (.ok (.ret .none)) { s with heap := h', toks := s.toks + 1 }) :
    wpAny (model prog w) A.in1 (PySem.Builtin.ObjectAttr.storeInDict d (.str name tk) name v) (fun fin s' => match fin with | .done f => R (.ok f) s' | .again c' => c'.quiet = true ∧ codeAny (model prog w) A c' R s') (fun e s' => R (.error e) s') s := by
  obtain ⟨U1, U2⟩ := news_upd (f := Obj.putName name (PyData.keyHash w.params name) (.str name s.toks) v) F N h1 h2 e rfl
  have D := (N (d, dictOf es n) (by simp)).1
  have D' := (U2 (d, dictOf es' n') (by simp)).1
  unfold PySem.Builtin.ObjectAttr.storeInDict
  refine wpAny_bind (show wpAny _ _ (pure ()) _ _ _ from wpAny_pure ?_)
  refine wpAny_bind ?_
  unfold nsSet
  refine wpAny_bind (wpAny_bind (wpAny_askSetting (wpAny_pure (wpAny_bind (wpAny_mkText (wpAny_bind (wpAny_loadPart D ?_)))))))
  dsimp only
  have c : (!es.toArray.any (·.key.isStr name) && es.toArray.any (·.refKey)) = false := by
    rw [← Array.any_toList, ← Array.any_toList]
    show (_ && es.any _) = false
    rw [hl, Bool.and_false]
  rw [aRefKeyMayBeTheName_at, c]
  refine wpAny_updatePart D ?_
  refine wpAny_bind (wpAny_lookBehind D' (pastItsLine_dict (by rw [List.size_toArray, sizeLine_eq]; omega)) ?_)
  exact wpAny_pure (h _ U1 U2)
theorem exc_dict_old {ox : Obj} {dx : Addr} {es es' : List DictEntry} {n n' : Nat} {name : Str} {tk : Tok} {v : Value} {pre post : List (Addr × Obj)} (F : Fr h₀ L s.heap m) (N : News h₀ L s.heap (pre ++ (dx, dictOf es n) :: post)) (X : K.In s.heap)
    (I : InstAt s.heap x ox C (some (dictOf es n))) (hd : ox.dict = some dx) (hp : excOver K C = true) (ha : findIn K (.ref C) name = some none) (hh : hasDictIn K C = true)
    (h1 : ∀ p ∈ pre, p.1 ≠ dx) (h2 : ∀ p ∈ post, p.1 ≠ dx) (hl : es.any (·.refKey) = false) (e : Obj.putName name (PyData.keyHash w.params name) (.str name s.toks) v (dictOf es n) = dictOf es' n') (hz : es'.length ≤ 1000)
    (h : ∀ h', Fr h₀ L h' m → News h₀ L h' (pre ++ (dx, dictOf es' n') :: post) → R (.ok (.ret .none)) { s with heap := h', toks := s.toks + 1 }) :
    codeAny (model prog w) A (.call (.builtin "object.__setattr__") ⟨[.ref x, .str name tk, v], []⟩) R s := by
  refine exc_open X I hp ha ?_
  obtain ⟨cd, hc, hd'⟩ := any_some hh
  obtain ⟨hx, hcl, hn, -⟩ := id I
  obtain ⟨oc, odi, oda, osl⟩ := ox
  dsimp only at hcl hd
  subst hcl hd
  refine wpAny_bind (wpAny_pure (wpAny_bind (wpAny_bind (wpAny_loadPart hx (wpAny_bind ((looks_clsIn X hc).here ?_))))))
  rw [hd']
  have z := store_tail (prog := prog) (A := A) (R := R) (tk := tk) F N h1 h2 hl e hz h
  exact wpAny_pure (a := some dx) z
theorem exc_dict_new {t : Addr} {name : Str} {tk : Tok} {v : Value} {news : List (Addr × Obj)} (F : Fr h₀ L s.heap m) (N : News h₀ L s.heap ((x, eo C none t) :: news)) (X : K.In s.heap) (off : ∀ p ∈ news, p.1 ≠ x)
    (hp : excOver K C = true) (ha : findIn K (.ref C) name = some none) (hh : hasDictIn K C = true)
    (h : ∀ d h', Fr h₀ L h' m → News h₀ L h' ((d, dictOf [⟨PyData.keyHash w.params name, .str name s.toks, v⟩] 1) :: (x, eo C (some d) t) :: news) → (∀ p ∈ (x, eo C none t) :: news, p.1 < d) → R (.ok (.ret .none)) { s with heap := h', toks := s.toks + 1 }) :
    codeAny (model prog w) A (.call (.builtin "object.__setattr__") ⟨[.ref x, .str name tk, v], []⟩) R s := by
  have hx := (N _ List.mem_cons_self).1
  have I : InstAt s.heap x (eo C none t) C none := ⟨hx, rfl, rfl, trivial⟩
  have lt : ∀ p ∈ (x, eo C none t) :: news, p.1 < s.heap.objs.size := fun p hp => Heap.lt_size (N p hp).1
  refine exc_open X I hp ha ?_
  obtain ⟨cd, hc, hd'⟩ := any_some hh
  refine wpAny_bind (wpAny_pure (wpAny_bind (wpAny_bind (wpAny_loadPart hx (wpAny_bind ((looks_clsIn X hc).here ?_))))))
  rw [hd']
  dsimp only
  rw [if_neg (by decide), if_neg (by simp [typeHasDict])]
  refine wpAny_bind (wpAny_alloc ?_)
  have F1 := F.push (dictOf [] 0)
  have N1 := N.push F (dictOf [] 0)
  obtain ⟨U1, U2⟩ := news_upd (pre := [(s.heap.objs.size, dictOf [] 0)]) (f := fun o : Obj => { o with dict := some s.heap.objs.size }) (o' := eo C (some s.heap.objs.size) t) F1 N1 (fun p hp => by
    rw [List.mem_singleton.mp hp]; exact Nat.ne_of_gt (lt _ List.mem_cons_self)) off rfl rfl
  refine wpAny_bind (wpAny_update (N1 (x, eo C none t) (by simp)).1 ?_)
  refine wpAny_pure ?_
  refine store_tail (s := { s with heap := (s.heap.push (dictOf [] 0)).update x fun o => { o with dict := some s.heap.objs.size } }) (pre := []) (post := (x, eo C (some s.heap.objs.size) t) :: news) U1 U2 (fun _ h => nomatch h)
    (fun p hp => Nat.ne_of_lt ?_) rfl (by rw [putName_dict]; rfl) (by simp) fun h' F' N' => h _ h' F' N' lt
  rcases List.mem_cons.mp hp with rfl | hp
  · exact lt (x, eo C none t) List.mem_cons_self
  · exact lt p (List.mem_cons_of_mem _ hp)
/-- an exception's attribute is set: its dict stands -/
theorem exc_set_old {E : Value → Shared → Prop} {Q : Unit → Shared → Prop} {ox : Obj} {dx : Addr} {es es' : List DictEntry} {n n' : Nat} {name : Str} {v : Value} {pre post : List (Addr × Obj)} (F : Fr h₀ L s.heap m) (N : News h₀ L s.heap (pre ++ (dx, dictOf es n) :: post)) (X : K.In s.heap)
    (I : InstAt s.heap x ox C (some (dictOf es n))) (hd : ox.dict = some dx) (hs : findIn K (.ref C) "__setattr__" = some (some (.builtin "object.__setattr__"))) (hp : excOver K C = true) (ha : findIn K (.ref C) name = some none) (hh : hasDictIn K C = true)
    (h1 : ∀ p ∈ pre, p.1 ≠ dx) (h2 : ∀ p ∈ post, p.1 ≠ dx) (hl : es.any (·.refKey) = false) (e : Obj.putName name (PyData.keyHash w.params name) (.str name (s.toks + 1)) v (dictOf es n) = dictOf es' n') (hz : es'.length ≤ 1000)
    (h : ∀ h', Fr h₀ L h' m → News h₀ L h' (pre ++ (dx, dictOf es' n') :: post) → Q () { s with heap := h', toks := s.toks + 2 }) : wpAny (model prog w) A (setAttr (.ref x) name v) Q E s :=
  set_plain X I hs (exc_dict_old (s := { s with toks := s.toks + 1 }) F N X I hd hp ha hh h1 h2 hl e hz h)
/-- an exception's attribute is set: it gets its dict now -/
theorem exc_set_new {E : Value → Shared → Prop} {Q : Unit → Shared → Prop} {t : Addr} {name : Str} {v : Value} {news : List (Addr × Obj)} (F : Fr h₀ L s.heap m) (N : News h₀ L s.heap ((x, eo C none t) :: news)) (X : K.In s.heap) (off : ∀ p ∈ news, p.1 ≠ x)
    (hs : findIn K (.ref C) "__setattr__" = some (some (.builtin "object.__setattr__"))) (hp : excOver K C = true) (ha : findIn K (.ref C) name = some none) (hh : hasDictIn K C = true)
    (h : ∀ d h', Fr h₀ L h' m → News h₀ L h' ((d, dictOf [⟨PyData.keyHash w.params name, .str name (s.toks + 1), v⟩] 1) :: (x, eo C (some d) t) :: news) → (∀ p ∈ (x, eo C none t) :: news, p.1 < d) → Q () { s with heap := h', toks := s.toks + 2 }) : wpAny (model prog w) A (setAttr (.ref x) name v) Q E s :=
  set_plain X (ox := eo C none t) (od := none) ⟨(N _ List.mem_cons_self).1, rfl, rfl, trivial⟩ hs (exc_dict_new (s := { s with toks := s.toks + 1 }) F N X off hp ha hh h)
end
end Mine

/- F1 -/

namespace Mine
def initIn (K : Frag) (C fI : Addr) : Bool := match K.lookup C with
  | some ⟨.type "type", _, .cls cd, sl⟩ => (match cd.mro, sl.toList with
    | .ref C' :: bm, [_, _, _, _, some (.builtin n), _] => C' == C && n == "Exception.__new__" && !cd.hasDel && bm.contains (.type "Exception") && bm.contains (.type "BaseException") && !bm.contains (.type "AttributeError") && !bm.contains (.type "NameError") && nsOkIn K cd.ns && nsIn K cd.ns "__init__" == some (some (.ref fI))
    | _, _ => false)
  | _ => false
theorem ns_some {K : Frag} {h : Heap} {N : Addr} {mg : Str → Option Value} {n : Str} {v : Value} (X : K.In h) (G : h.Ns N mg) (e : nsIn K N n = some (some v)) : mg n = some v := by
  obtain ⟨o, es, ep, ho, hd, _, hf⟩ := G
  unfold nsIn at e
  split at e
  · rename_i c d es' n' sl q
    have := X _ _ q
    rw [ho] at this
    cases this
    cases hd
    split at e
    · rename_i x he
      have hv : x.val = v := Option.some.inj (Option.some.inj e)
      rw [← hf, ← hv]
      unfold nsFind findBy
      rw [← Array.find?_toList, he]
      rfl
    · split at e <;> cases e
  · cases e
theorem init_of {K : Frag} {h : Heap} {C fI : Addr} (X : K.In h) (q : initIn K C fI = true) : ∃ nm qn N bs bm hdct sn sub ab col dd k0 k1 k2 k3 k5 mN, h.get? C = some (excClassObj nm qn C N bs bm hdct sn sub ab col dd k0 k1 k2 k3 k5 "Exception.__new__") ∧ MroOk "Exception" bm ∧ h.Ns N mN ∧ mN "__init__" = some (.ref fI) := by
  unfold initIn at q
  split at q
  · rename_i dd cd sl ho
    split at q
    · rename_i C' bm k0 k1 k2 k3 n k5 hm hs
      simp only [Bool.and_eq_true, beq_iff_eq, Bool.not_eq_true'] at q
      obtain ⟨⟨⟨⟨⟨⟨⟨⟨rfl, rfl⟩, hdel⟩, hb⟩, he⟩, ha⟩, hnn⟩, hok⟩, hi⟩ := q
      obtain ⟨nm, bs, mro, ns, qn, hd, sn, sub, ab, col, del⟩ := cd
      dsimp only at hm hdel hok hi
      subst hm hdel
      have hsl : sl = #[k0, k1, k2, k3, some (.builtin "Exception.__new__"), k5] := by
        obtain ⟨l⟩ := sl
        simp only at hs
        rw [hs]
      subst hsl
      exact ⟨nm, qn, ns, bs, bm, hd, sn, sub, ab, col, dd, k0, k1, k2, k3, k5, _, X _ _ ho, ⟨hb, he, ha, hnn⟩, .of_isNs (isNs_of_in X hok), ns_some X (.of_isNs (isNs_of_in X hok)) hi⟩
    · cases q
  · cases q
theorem ty_Exc : typeOf (.type "Exception") = pure (.type "type") := by kernel_rfl
abbrev fdict (w : World) (n1 n2 n3 t0 : Tok) (msg k : Value) : Obj := dictOf [⟨PyData.keyHash w.params (Str.ofString "message"), .str (Str.ofString "message") n1, msg⟩, ⟨PyData.keyHash w.params (Str.ofString "spot"), .str (Str.ofString "spot") n2, .int 0 t0⟩, ⟨PyData.keyHash w.params (Str.ofString "kind"), .str (Str.ofString "kind") n3, k⟩] 3
theorem fault_spec {pg : Program} {ls : List Str} {w : World} {mean : ExcName → Option Value} {mg mb : Str → Option Value} {A₀ : Around} {dp un : Nat} {gd : Option (List Code)} {base h₀ : Heap} {outer : List Env} {L : Addr} {m : Str → Option Value} {cn : Str} {cs : Scope} {ca : Addr} {ccd : Value} {cl : List (Str × Addr)} {s : Shared} {Q E : Value → Shared → Prop} {k msg : Str} {tk tm : Tok} {news : List (Addr × Obj)}
    (B : Below A₀ base outer h₀) (F : Fr h₀ L s.heap m) (X : Frag.In (hd.heap_39 w.params) h₀) (N : News h₀ L s.heap (news)) (T : Top pg ls mean mg mb h₀) (hk : cs.kind = .function) (hdp : dp + 20 < recursionLimit) (hun : un + 40 * 20 < cLine)
    (hQ : ∀ e t d n1 n2 n3 t0 h' tk', Fr h₀ L h' m → News h₀ L h' ((e, excO 52 d t) :: (t, tupO [.str msg tm]) :: (d, fdict w n1 n2 n3 t0 (.str msg tm) (.str k tk)) :: news) → AllLt e news → e < t → t < d → Q (.ref e) { s with heap := h', toks := tk' }) :
    wpAny (model PySem.Challenge.rw_pf0070_01.row.prog w) (ktrTop dp un gd cn cs L ca ccd cl outer) (call (.ref 52) [.str k tk, .str msg tm]) Q E s := by
  w_top off
  obtain ⟨hs, gs, ds, ts, os⟩ := s
  dsimp only at F N hQ
  have X9 := X.keeps F.keep
  have hq9 : initIn (hd.heap_39 w.params) 52 49 = true := by kernel_rfl
  obtain ⟨nm, qn, N0, bs, bm, hdct, sn, sub, ab, col, dd, k0, k1, k2, k3, k5, mN, hC, hO, hN, hi⟩ := init_of X9 hq9
  have hfI : ∃ o, hs.get? 49 = some o ∧ o.cls = .type "function" := ⟨_, X9 49 _ (by k_is), rfl⟩
  obtain ⟨oI, hfI, hfc⟩ := hfI
  have F1 := (F.push (tupO [.str k tk, .str msg tm])).push { cls := .ref 52, data := .fields #[.ref hs.objs.size, .none, .none, .none, .bool false, .none] }
  have N1 := (News.push F N (tupO [.str k tk, .str msg tm])).push (F.push _) { cls := .ref 52, data := .fields #[.ref hs.objs.size, .none, .none, .none, .bool false, .none] }
  rw [Heap.size_push] at N1
  have a1 : AllLt hs.objs.size news := allLt_of fun q hq => Heap.lt_size (N q hq).1
  refine own_call PySem.F.excBase_Exception hO hC hN hi hfI hfc (by size_fits) ?_
  clear F N X9 hC hN hfI
  generalize ((hs.push (tupO [.str k tk, .str msg tm])).push { cls := .ref 52, data := .fields #[.ref hs.objs.size, .none, .none, .none, .bool false, .none] }) = h1 at F1 N1 ⊢
  have a2 : hs.objs.size < hs.objs.size + 1 := Nat.lt_succ_self _
  generalize hs.objs.size + 1 = e at *
  generalize hs.objs.size = t0 at *
  refine wpAny_call ?_
  k_dflt ktr_enter
  k_steps
  · k_dflt refine' method_type (T := "Exception") ?F ?X ty_Exc (by decide +kernel) ?e ?h ?_
    case F => k_asm
    case X => k_asm
    case e => k_is
    case h => rfl
    k_steps
    rename Fr _ _ _ _ => F2
    rename News _ _ _ _ => N2
    rename Frag.In _ _ => X2
    have offE : ∀ q ∈ news, q.1 ≠ e := off_lt (allLt_le (Nat.le_of_lt a2) a1)
    have hs9 : findIn (hd.heap_39 w.params) (.ref 52) "__setattr__" = some (some (.builtin "object.__setattr__")) := by k_dflt k_is
    have hp9 : excOver (hd.heap_39 w.params) 52 = true := by kernel_rfl
    have hh9 : hasDictIn (hd.heap_39 w.params) 52 = true := by kernel_rfl
    have hm9 : findIn (hd.heap_39 w.params) (.ref 52) "message" = some none := by k_dflt k_is
    have hsp9 : findIn (hd.heap_39 w.params) (.ref 52) "spot" = some none := by k_dflt k_is
    have hk9 : findIn (hd.heap_39 w.params) (.ref 52) "kind" = some none := by k_dflt k_is
    obtain ⟨nm', qn', N0', bs', bm', hdct', sn', sub', ab', col', dd', k0', k1', k2', k3', k5', mN', hC', hO', hN', hi'⟩ := init_of (X2.keeps F2.keep) hq9
    refine exc_init F2 N2 offE hO' hC' (by size_fits) fun t1 h3 F3 N3 lt1 => ?_
    k_steps
    have ltn : ∀ q ∈ news, q.1 < t1 := fun q hq => lt1 q (List.mem_cons_of_mem _ hq)
    have let1 : e < t1 := lt1 (e, eo 52 none t0) List.mem_cons_self
    have N4 := news_sub (l' := (e, eo 52 none t1) :: (t1, tupO [.str msg tm]) :: news) N3 (by walk_at "m:sub9")
    clear N3
    rename Fr _ _ h3 _ => F4
    refine exc_set_new F4 N4 (X2.keeps F4.keep) (List.forall_mem_cons.mpr ⟨Nat.ne_of_gt let1, offE⟩) hs9 hp9 hm9 hh9 fun d h4 F5 N5 lt5 => ?_
    clear F4 N4
    k_steps
    rename Fr _ _ h4 _ => F6
    have offD : ∀ q ∈ (e, eo 52 (some d) t1) :: (t1, tupO [.str msg tm]) :: news, q.1 ≠ d := List.forall_mem_cons.mpr ⟨Nat.ne_of_lt (lt5 (e, eo 52 none t1) List.mem_cons_self), fun q hq => Nat.ne_of_lt (lt5 q (List.mem_cons_of_mem _ hq))⟩
    refine exc_set_old (pre := []) F6 N5 (X2.keeps F6.keep) (ox := eo 52 (some d) t1) (es' := [⟨_, .str (Str.ofString "message") _, _⟩, ⟨PyData.keyHash w.params (Str.ofString "spot"), .str (Str.ofString "spot") _, _⟩]) (n' := 2) ⟨(N5 _ (List.mem_cons_of_mem _ List.mem_cons_self)).1, rfl, rfl, (N5 _ List.mem_cons_self).1⟩ rfl hs9 hp9 hsp9 hh9
      (fun _ h => nomatch h) offD rfl (by rw [putName_dict]; rfl) (by show 2 ≤ 1000; decide) fun h5 F7 N7 => ?_
    clear N5
    rw [List.nil_append] at N7
    k_steps
    rename Fr _ _ _ _ => F8
    rename News _ _ _ _ => N8
    refine exc_set_old (pre := []) F8 N8 (Frag.In.keeps (by assumption) F8.keep) (ox := eo 52 (some d) t1) (es' := [⟨_, .str (Str.ofString "message") _, _⟩, ⟨_, .str (Str.ofString "spot") _, _⟩, ⟨PyData.keyHash w.params (Str.ofString "kind"), .str (Str.ofString "kind") _, _⟩]) (n' := 3) ⟨(N8 _ (List.mem_cons_of_mem _ List.mem_cons_self)).1, rfl, rfl, (N8 _ List.mem_cons_self).1⟩ rfl hs9 hp9 hk9 hh9
      (fun _ h => nomatch h) offD rfl (by rw [putName_dict]; rfl) (by show 3 ≤ 1000; decide) fun h5 F7 N7 => ?_
    clear N8
    rw [List.nil_append] at N7
    k_steps
    rename News _ _ _ _ => N9
    refine' hQ e t1 d _ _ _ _ _ _ (by k_asm) (news_sub N9 ?n9) (allLt_le (Nat.le_of_lt a2) a1) let1 (lt5 (t1, tupO [.str msg tm]) (List.mem_cons_of_mem _ List.mem_cons_self))
    case n9 => walk_at "m:sub9"
end Mine

/- X6 -/
namespace Mine
open PySem.Spec PySem.Calls
/-- an own exception, its __init__ done, is raised -/
def RaisableO (K : Frag) (C : Addr) (E : Value → Shared → Prop) (v : Value) (s₁ : Shared) : Prop := ∃ e dd t, v = .ref e ∧ s₁.heap.get? e = some (eo C dd t) ∧ K.In s₁.heap ∧ E (.ref e) s₁
section
variable {M : Model} {A : Around} {E : Value → Shared → Prop} {s : Shared} {env : Env} {K : Frag} {C : Addr}
theorem raiseStmt_O {x : Sem Value} {Q : Flow → Shared → Prop} (hq : ktsIn K C "BaseException" = true) (hh : A.handled = none)
    (h : wpAny M A x (RaisableO K C E) E s) : wpAny M A (raiseStmt env (some x) none) Q E s := by
  unfold raiseStmt
  refine wpAny_bind (wpAny_mono h (fun v s₁ h₁ => ?_) fun _ _ x => x)
  obtain ⟨e, dd', t, rfl, he, X, hE⟩ := h₁
  obtain ⟨nm, q', N, bs, bm, hdct, sn, sub, ab, col, dd, k0, k1, k2, k3, k5, newId, hC, hbase, hbT⟩ := kts_cls X hq
  have hcB : (Value.ref C :: bm).contains (.type "BaseException") = true := by rw [List.contains_cons, hbase, Bool.or_true]
  obtain ⟨hp, g, d, tk, os⟩ := s₁
  repeat (first | with_reducible refine wpAny_loadPart_at he ?_ | with_reducible refine wpAny_loadPart_at hC ?_ | (with_reducible refine wpAny_isSubtype_exc hC ?_; rw [hcB]) | wp_step)
  exact wpAny_raiseNew_none hh hE
theorem Raise_O {e : Expr} {pos : Pos} {Q : Flow → Shared → Prop} {h₀ : Heap} (_X : K.In h₀) (hq : ktsIn K C "BaseException" = true) (hh : A.handled = none)
    (h : wpAny M A (eval e env) (RaisableO K C E) E s) : wpAny M A (exec (.Raise (some e) none pos) env) Q E s := by
  show wpAny M A (do standAt pos; raiseStmt env (some (do let v ← eval e env; standAt pos; pure v)) none) Q E s
  exact wpAny_bind (wpAny_standAt (raiseStmt_O hq hh (wpAny_bind (wpAny_mono h (fun v s₁ h₁ => wpAny_bind (wpAny_standAt (wpAny_pure h₁))) fun _ _ x => x))))
end
end Mine

/- R1 -/

theorem Mine.word38 : True := by
  k_with "call ref nil#" => first | (((try dsimp only [List.nil_append, List.cons_append]); (with_reducible show wpAny _ _ (call (Value.ref 52) [Value.str _ _, Value.str _ _]) _ _ _); k_dflt (refine' Mine.fault_spec ?Bw ?Fw ?Xw ?Nw ?Tw ?kw ?dw ?uw ?_; (case Bw => k_asm); (case Fw => k_asm); (case Xw => k_asm); (case Nw => k_asm); (case Tw => k_asm); (case kw => first | exact rfl | assumption); (case dw => ktr_room); (case uw => ktr_units)); intro _ _ _ _ _ _ _ _ _ _ _ _ _ _)) | fail "no"
  k_with "call ref cons nil#" => first | (((try dsimp only [List.nil_append, List.cons_append]); (with_reducible show wpAny _ _ (call (Value.ref 52) [Value.str _ _, Value.str _ _]) _ _ _); k_dflt (refine' Mine.fault_spec ?Bw ?Fw ?Xw ?Nw ?Tw ?kw ?dw ?uw ?_; (case Bw => k_asm); (case Fw => k_asm); (case Xw => k_asm); (case Nw => k_asm); (case Tw => k_asm); (case kw => first | exact rfl | assumption); (case dw => ktr_room); (case uw => ktr_units)); intro _ _ _ _ _ _ _ _ _ _ _ _ _ _)) | fail "no"
  trivial

theorem Mine.word39 : True := by
  k_with "exec Raise some none#" => first | ((k_here; (with_reducible show wpAny _ _ (exec (Stmt.Raise (some (Expr.Call (Expr.Name _ _) (_ :: _) [] _)) none _) _) _ _ _); k_dflt (refine' Mine.Raise_O (C := 52) ?X9w ?q9w ?h9w ?_; (case X9w => k_asm); (case q9w => kernel_rfl); (case h9w => exact rfl)))) | fail "no"
  k_with "RaisableO ref#" => first | ((rename News _ _ _ _ => N9; refine ⟨_, some _, _, rfl, (N9 _ List.mem_cons_self).1, (by k_in), ?_⟩; (try dsimp only))) | fail "no"
  trivial
namespace Mine
theorem off_two {news : List (Addr × Obj)} {e t d : Addr} {o : Obj} (h : AllLt e news) (l1 : e < t) (l2 : t < d) : ∀ q ∈ (d, o) :: news, q.1 ≠ e ∧ q.1 ≠ t := fun q hq => by
  rcases List.mem_cons.mp hq with rfl | hq
  · exact ⟨Nat.ne_of_gt (Nat.lt_trans l1 l2), Nat.ne_of_gt l2⟩
  · exact ⟨off_lt h q hq, off_lt (allLt_le (Nat.le_of_lt l1) h) q hq⟩
/-- what a caller's flight continues with: a MachineFault of the scheduler's kind, its dict at hand -/
def Faulted (w : World) (base h₀ : Heap) (L : Addr) (m : Str → Option Value) (env : Env) (outer : List Env) (news : List (Addr × Obj)) (s : Shared) (E : Value → Shared → Prop) : Prop :=
  ∀ G e t d n1 n2 n3 t0 vs msg tk h' tk', Fr h₀ L G m → RaisedD base G (env :: outer) e 52 d t vs ((d, fdict w n1 n2 n3 t0 msg (.str (Str.ofString "scheduler") tk)) :: news) h' → G.UpToSlots h' → E (.ref e) { s with heap := h', toks := tk' }
end Mine
theorem Mine.word40 : True := by
  k_with "m:leaveF#" => first | ((rename News _ _ _ _ => N9; (refine' Mine.leaveD_first ?K9w ?F9w ?hf9w ?hk9w N9 (Mine.off_two (by assumption) (by assumption) (by assumption)) ?_; (case K9w => k_asm); (case F9w => k_asm); (case hf9w => exact rfl); (case hk9w => exact rfl)); intro _ _ _)) | fail "no"
  trivial
namespace Mine
theorem of_fault {pg : Program} {ls : List Str} {w : World} {mean : ExcName → Option Value} {mg mb : Str → Option Value} {A₀ : Around} {dp un : Nat} {gd : Option (List Code)} {base h₀ : Heap} {outer : List Env} {L : Addr} {m : Str → Option Value} {cn : Str} {cs : Scope} {ca : Addr} {ccd : Value} {cl : List (Str × Addr)} {s : Shared} {Q E : Value → Shared → Prop} {S Sd all : Addr} {C : Addr} {here : Value} {k1 k2 k3 : Tok} {its : Array Value} {an : Nat} {j : Int} {jt : Tok} {news : List (Addr × Obj)}
    (B : Below A₀ base outer h₀) (F : Fr h₀ L s.heap m) (X : Frag.In (hd.heap_39 w.params) h₀) (N : News h₀ L s.heap (news)) (T : Top pg ls mean mg mb h₀) (hk : cs.kind = .function) (hdp : dp + 40 < recursionLimit) (hun : un + 40 * 40 < cLine)
    (hS : (S, instObj 157 Sd) ∈ news) (hSd : (Sd, sdict w k1 k2 k3 C all here) ∈ news) (hall : (all, listOf its an) ∈ news) (hz : its.size < 1000) (hj : j < 0 ∨ (its.size : Int) ≤ j) (hj1 : -1000 < j) (hj2 : j < 1000)
    (hE : Faulted w base h₀ L m (envX cn cs L ca ccd cl) outer news s E) :
    wpAny (model PySem.Challenge.rw_pf0070_01.row.prog w) (ktrTop dp un gd cn cs L ca ccd cl outer) (call (.ref 103) [.ref S, .int j jt]) Q E s := by
  w_top off
  refine wpAny_call ?_
  k_dflt ktr_enter
  k_steps
  · walk_at "m:leaveF"
    exact hE _ _ _ _ _ _ _ _ _ _ _ _ _ (by k_asm) (by assumption) (by assumption)
  · walk_at "m:leaveF"
    exact hE _ _ _ _ _ _ _ _ _ _ _ _ _ (by k_asm) (by assumption) (by assumption)
end Mine

/- Kd -/

namespace Mine
/-- the called one comes back: from any frame straight above the caller's, it leaves the ledger news' -/
def CallsOk (prog : Program) (w : World) (K : Frag) (pg : Program) (ls : List Str) (mean : ExcName → Option Value) (mg mb : Str → Option Value) (base : Heap) (env : Env) (outer : List Env) (f : Addr) (dp un : Nat) (news news' : List (Addr × Obj)) : Prop :=
  ∀ (dp' un' : Nat) (gd' : Option (List Code)) (cn' : Str) (cs' : Scope) (L' a' : Addr) (cd' : Value) (cl' : List (Str × Addr)) (A' : Around) (g : Heap) (m' : Str → Option Value) (s' : Shared) (Q' E' : Value → Shared → Prop),
    Below A' base (env :: outer) g → Fr g L' s'.heap m' → K.In g → News g L' s'.heap news → Top pg ls mean mg mb g → cs'.kind = .function → dp' ≤ dp + 1 → un' ≤ un + 10 →
    (∀ v h' tk', Fr g L' h' m' → News g L' h' news' → Q' v { s' with heap := h', toks := tk' }) →
    wpAny (model prog w) (ktrTop dp' un' gd' cn' cs' L' a' cd' cl' (env :: outer)) (call (.ref f) []) Q' E' s'
/-- the called one raises a MachineFault of the scheduler's kind -/
def CallsBad (prog : Program) (w : World) (K : Frag) (pg : Program) (ls : List Str) (mean : ExcName → Option Value) (mg mb : Str → Option Value) (base : Heap) (env : Env) (outer : List Env) (f : Addr) (dp un : Nat) (news : List (Addr × Obj)) : Prop :=
  ∀ (dp' un' : Nat) (gd' : Option (List Code)) (cn' : Str) (cs' : Scope) (L' a' : Addr) (cd' : Value) (cl' : List (Str × Addr)) (A' : Around) (g : Heap) (m' : Str → Option Value) (s' : Shared) (Q' E' : Value → Shared → Prop),
    Below A' base (env :: outer) g → Fr g L' s'.heap m' → K.In g → News g L' s'.heap news → Top pg ls mean mg mb g → cs'.kind = .function → dp' ≤ dp + 1 → un' ≤ un + 10 →
    Faulted w base g L' m' (envX cn' cs' L' a' cd' cl') (env :: outer) news s' E' →
    wpAny (model prog w) (ktrTop dp' un' gd' cn' cs' L' a' cd' cl' (env :: outer)) (call (.ref f) []) Q' E' s'
theorem kind_bad {pg : Program} {ls : List Str} {w : World} {mean : ExcName → Option Value} {mg mb : Str → Option Value} {A₀ : Around} {dp un : Nat} {gd : Option (List Code)} {base h₀ : Heap} {outer : List Env} {L : Addr} {m : Str → Option Value} {cn : Str} {cs : Scope} {ca : Addr} {ccd : Value} {cl : List (Str × Addr)} {s : Shared} {Q E : Value → Shared → Prop} {f : Addr} {foc : Value} {fod : Option Addr} {fd : FuncData} {fsl : Array (Option Value)} {news : List (Addr × Obj)}
    (B : Below A₀ base outer h₀) (F : Fr h₀ L s.heap m) (X : Frag.In (hd.heap_39 w.params) h₀) (N : News h₀ L s.heap (news)) (T : Top pg ls mean mg mb h₀) (hk : cs.kind = .function) (hdp : dp + 60 < recursionLimit) (hun : un + 40 * 60 < cLine)
    (XB : Frag.In (hd.heap_39 w.params) base) (TB : Top pg ls mean mg mb base) (KD : KtsDicts (outer.filterMap (·.frame)) h₀)
    (hf : (f, (⟨foc, fod, .func fd, fsl⟩ : Obj)) ∈ news)
    (hc : CallsBad PySem.Challenge.rw_pf0070_01.row.prog w (hd.heap_39 w.params) pg ls mean mg mb base (envX cn cs L ca ccd cl) outer f dp un news)
    (hQ : ∀ g tk h' tk', KtsTurn (outer.filterMap (·.frame)) h₀ g → Fr g L h' m → News g L h' news → Below A₀ base outer g → Frag.In (hd.heap_39 w.params) g → Top pg ls mean mg mb g → KtsDicts (outer.filterMap (·.frame)) g → Q (.str (Str.ofString "scheduler") tk) { s with heap := h', toks := tk' }) :
    wpAny (model PySem.Challenge.rw_pf0070_01.row.prog w) (ktrTop dp un gd cn cs L ca ccd cl outer) (call (.ref 236) [.ref f]) Q E s := by
  w_top off
  refine wpAny_call ?_
  k_dflt (refine' enterS ?k1 ?k2 ?k3 ?k4 ?k5 XB TB KD ?kA ?kF ?kK ?k6 ?k7 ?k8 ?k9 ?kB ?_ ?c2 ?c3 ?c4 ?c5; (case kA => exact rfl); (case kF => exact rfl); (case kK => first | exact rfl | assumption); (case k1 => k_asm); (case k2 => k_asm); (case k3 => k_asm); (case k4 => k_asm); (case k5 => k_asm); (case k6 => k_is); (case k7 => k_is); (case k8 => ktr_room); (case k9 => exact BindsTo.of_eq rfl); (case c5 => decide); (case kB => exact locs rfl); (case c2 => exact rfl); (case c3 => exact rfl); (case c4 => exact rfl); k_whole; intro g' L' h' FG' F' N' B' X' T' D'; (try dsimp only); (try k_lift B'); (try k_fold))
  k_steps
  refine callWith_F0 (FnAt.of (by k_asm) hf) ?_
  dsimp only [List.append_nil]
  k_dflt (refine' hc _ _ _ _ _ _ _ _ _ _ _ _ _ _ _ ?B ?F ?X ?N ?T ?k ?d ?u ?_; (case B => k_asm); (case F => k_asm); (case X => k_asm); (case N => k_asm); (case T => k_asm); (case k => exact rfl); (case d => exact Nat.le_refl _); (case u => exact Nat.add_le_add_left (by decide) _))
  intro G9 e9 t9 d9 n1 n2 n3 t0 vs9 msg9 tk0 h9 tk9 F9 R9 U9
  dsimp only
  k_dflt (refine' caughtD R9 ?F ?B U9 XB TB ?D ?ex ?q ?_ rfl rfl rfl (by decide); (case F => k_asm); (case B => k_asm); (case D => k_asm); (case ex => k_is); (case q => kernel_rfl))
  intro h9 g9 oe9 tk9 T9 F9 N9 c9 d9' w9 o9 B9 X9 T9' D9
  k_steps
  have I9 : InstAt h9 e9 oe9 52 (some (fdict w n1 n2 n3 t0 msg9 (.str (Str.ofString "scheduler") tk0))) := by
    have z1 := (N9 _ List.mem_cons_self).1
    have z2 := (N9 _ (List.mem_cons_of_mem _ List.mem_cons_self)).1
    obtain ⟨ws, w9⟩ := w9
    exact ⟨z1, c9, by unfold notCls; rw [w9], by rw [d9']; exact z2⟩
  refine exc_get (v := .str (Str.ofString "scheduler") tk0) (by k_in) I9 (by k_dflt k_is) (by k_dflt k_is) (by kernel_rfl) (by kernel_rfl) rfl ?_
  k_steps
  exact hQ _ _ _ _ (by assumption) (by k_asm) (by walk_at "m:back") (by k_asm) (by k_asm) (by k_asm) (by k_asm)
theorem kind_ok {pg : Program} {ls : List Str} {w : World} {mean : ExcName → Option Value} {mg mb : Str → Option Value} {A₀ : Around} {dp un : Nat} {gd : Option (List Code)} {base h₀ : Heap} {outer : List Env} {L : Addr} {m : Str → Option Value} {cn : Str} {cs : Scope} {ca : Addr} {ccd : Value} {cl : List (Str × Addr)} {s : Shared} {Q E : Value → Shared → Prop} {f : Addr} {foc : Value} {fod : Option Addr} {fd : FuncData} {fsl : Array (Option Value)} {news news' : List (Addr × Obj)}
    (B : Below A₀ base outer h₀) (F : Fr h₀ L s.heap m) (X : Frag.In (hd.heap_39 w.params) h₀) (N : News h₀ L s.heap (news)) (T : Top pg ls mean mg mb h₀) (hk : cs.kind = .function) (hdp : dp + 60 < recursionLimit) (hun : un + 40 * 60 < cLine)
    (XB : Frag.In (hd.heap_39 w.params) base) (TB : Top pg ls mean mg mb base) (KD : KtsDicts (outer.filterMap (·.frame)) h₀)
    (hf : (f, (⟨foc, fod, .func fd, fsl⟩ : Obj)) ∈ news)
    (hc : CallsOk PySem.Challenge.rw_pf0070_01.row.prog w (hd.heap_39 w.params) pg ls mean mg mb base (envX cn cs L ca ccd cl) outer f dp un news news')
    (hQ : ∀ h' tk', Fr h₀ L h' m → News h₀ L h' news' → Q .none { s with heap := h', toks := tk' }) :
    wpAny (model PySem.Challenge.rw_pf0070_01.row.prog w) (ktrTop dp un gd cn cs L ca ccd cl outer) (call (.ref 236) [.ref f]) Q E s := by
  w_top off
  refine wpAny_call ?_
  k_dflt (refine' enterS ?k1 ?k2 ?k3 ?k4 ?k5 XB TB KD ?kA ?kF ?kK ?k6 ?k7 ?k8 ?k9 ?kB ?_ ?c2 ?c3 ?c4 ?c5; (case kA => exact rfl); (case kF => exact rfl); (case kK => first | exact rfl | assumption); (case k1 => k_asm); (case k2 => k_asm); (case k3 => k_asm); (case k4 => k_asm); (case k5 => k_asm); (case k6 => k_is); (case k7 => k_is); (case k8 => ktr_room); (case k9 => exact BindsTo.of_eq rfl); (case c5 => decide); (case kB => exact locs rfl); (case c2 => exact rfl); (case c3 => exact rfl); (case c4 => exact rfl); k_whole; intro g' L' h' FG' F' N' B' X' T' D'; (try dsimp only); (try k_lift B'); (try k_fold))
  k_steps
  refine callWith_F0 (FnAt.of (by k_asm) hf) ?_
  dsimp only [List.append_nil]
  k_dflt (refine' hc _ _ _ _ _ _ _ _ _ _ _ _ _ _ _ ?B ?F ?X ?N ?T ?k ?d ?u ?_; (case B => k_asm); (case F => k_asm); (case X => k_asm); (case N => k_asm); (case T => k_asm); (case k => exact rfl); (case d => exact Nat.le_refl _); (case u => exact Nat.add_le_add_left (by decide) _))
  intro v9 h9 tk9 F9 N9
  clear hc N'
  k_steps
  exact hQ _ _ (by k_asm) (by k_asm)
end Mine

/- R2 -/

theorem Mine.word41 : True := by
  k_with "call ref nil#" => first | (((try dsimp only [List.nil_append, List.cons_append]); (with_reducible show wpAny _ _ (call (Value.ref 103) [Value.ref _, Value.int _ _]) _ _ _); k_dflt (refine' Mine.of_fault ?Bw ?Fw ?Xw ?Nw ?Tw ?kw ?dw ?uw ?m1w ?m2w ?m3w ?zw ?j0w ?j1w ?j2w ?_; (case Bw => k_asm); (case Fw => k_asm); (case Xw => k_asm); (case Nw => k_asm); (case Tw => k_asm); (case kw => first | exact rfl | assumption); (case dw => ktr_room); (case uw => ktr_units); (case m1w => k_mem); (case m2w => k_mem); (case m3w => k_mem); (case zw => assumption); (case j0w => assumption); (case j1w => assumption); (case j2w => assumption)); intro _ _ _ _ _ _ _ _ _ _ _ _ _ _ _ _)) | fail "no"
  k_with "call ref cons nil#" => first | (((try dsimp only [List.nil_append, List.cons_append]); (with_reducible show wpAny _ _ (call (Value.ref 103) [Value.ref _, Value.int _ _]) _ _ _); k_dflt (refine' Mine.of_fault ?Bw ?Fw ?Xw ?Nw ?Tw ?kw ?dw ?uw ?m1w ?m2w ?m3w ?zw ?j0w ?j1w ?j2w ?_; (case Bw => k_asm); (case Fw => k_asm); (case Xw => k_asm); (case Nw => k_asm); (case Tw => k_asm); (case kw => first | exact rfl | assumption); (case dw => ktr_room); (case uw => ktr_units); (case m1w => k_mem); (case m2w => k_mem); (case m3w => k_mem); (case zw => assumption); (case j0w => assumption); (case j1w => assumption); (case j2w => assumption)); intro _ _ _ _ _ _ _ _ _ _ _ _ _ _ _ _)) | fail "no"
  trivial

theorem Mine.word42 : True := by
  k_with "call ref nil#" => first | (((try dsimp only [List.nil_append, List.cons_append]); (with_reducible show wpAny _ _ (call (Value.ref 103) [Value.ref _, Value.int _ _]) _ _ _); k_dflt (refine' Mine.of_spec ?Bw ?Fw ?Xw ?Nw ?Tw ?kw ?dw ?uw ?m1w ?m2w ?m3w ?zw ?j0w ?j1w ?_; (case Bw => k_asm); (case Fw => k_asm); (case Xw => k_asm); (case Nw => k_asm); (case Tw => k_asm); (case kw => first | exact rfl | assumption); (case dw => ktr_room); (case uw => ktr_units); (case m1w => k_mem); (case m2w => k_mem); (case m3w => k_mem); (case zw => assumption); (case j0w => assumption); (case j1w => assumption)); intro _ _ _ _)) | fail "no"
  k_with "call ref cons nil#" => first | (((try dsimp only [List.nil_append, List.cons_append]); (with_reducible show wpAny _ _ (call (Value.ref 103) [Value.ref _, Value.int _ _]) _ _ _); k_dflt (refine' Mine.of_spec ?Bw ?Fw ?Xw ?Nw ?Tw ?kw ?dw ?uw ?m1w ?m2w ?m3w ?zw ?j0w ?j1w ?_; (case Bw => k_asm); (case Fw => k_asm); (case Xw => k_asm); (case Nw => k_asm); (case Tw => k_asm); (case kw => first | exact rfl | assumption); (case dw => ktr_room); (case uw => ktr_units); (case m1w => k_mem); (case m2w => k_mem); (case m3w => k_mem); (case zw => assumption); (case j0w => assumption); (case j1w => assumption)); intro _ _ _ _)) | fail "no"
  trivial

theorem Mine.word43 : True := by
  k_with "m:leaveO#" => first | (((refine' Mine.leaveD_on ?K9w ?F9w ?hf9w ?R9w ?U9w ?_; (case R9w => with_unfolding_all assumption); (case F9w => k_asm); (case K9w => k_asm); (case hf9w => exact rfl); (case U9w => assumption)); intro _ _ _)) | fail "no"
  trivial
namespace Mine
theorem block_fault {pg : Program} {ls : List Str} {w : World} {mean : ExcName → Option Value} {mg mb : Str → Option Value} {A₀ : Around} {dp un : Nat} {gd : Option (List Code)} {base h₀ : Heap} {outer : List Env} {L : Addr} {m : Str → Option Value} {cn : Str} {cs : Scope} {ca : Addr} {ccd : Value} {cl : List (Str × Addr)} {s : Shared} {Q E : Value → Shared → Prop} {S Sd all : Addr} {C : Addr} {k1 k2 k3 : Tok} {c : Cell} {v : Value} {news : List (Addr × Obj)}
    (B : Below A₀ base outer h₀) (F : Fr h₀ L s.heap m) (X : Frag.In (hd.heap_39 w.params) h₀) (N : News h₀ L s.heap (news)) (T : Top pg ls mean mg mb h₀) (hk : cs.kind = .function) (hdp : dp + 40 < recursionLimit) (hun : un + 40 * 40 < cLine)
    (hS : (S, instObj 157 Sd) ∈ news) (hSd : (Sd, sdict w k1 k2 k3 C all (.ref c.g)) ∈ news) (hg : (c.g, instObj 71 c.d) ∈ news) (hgd : (c.d, gdict w c) ∈ news) (hst : (c.gst == Str.ofString "ready") = false)
    (hE : Faulted w base h₀ L m (envX cn cs L ca ccd cl) outer news s E) :
    wpAny (model PySem.Challenge.rw_pf0070_01.row.prog w) (ktrTop dp un gd cn cs L ca ccd cl outer) (call (.ref 115) [.ref S, v]) Q E s := by
  w_top off
  have hst' : (c.gst != Str.ofString "ready") = true := by rw [bne, hst]; rfl
  refine wpAny_call ?_
  k_dflt ktr_enter
  k_steps
  · walk_at "m:leaveF"
    exact hE _ _ _ _ _ _ _ _ _ _ _ _ _ (by k_asm) (by assumption) (by assumption)
theorem wake_fault {pg : Program} {ls : List Str} {w : World} {mean : ExcName → Option Value} {mg mb : Str → Option Value} {A₀ : Around} {dp un : Nat} {gd : Option (List Code)} {base h₀ : Heap} {outer : List Env} {L : Addr} {m : Str → Option Value} {cn : Str} {cs : Scope} {ca : Addr} {ccd : Value} {cl : List (Str × Addr)} {s : Shared} {Q E : Value → Shared → Prop} {S Sd all : Addr} {C : Addr} {here : Value} {k1 k2 k3 : Tok} {cs' : List Cell} {an : Nat} {c : Cell} {j : Int} {jt : Tok} {v : Value} {news : List (Addr × Obj)}
    (B : Below A₀ base outer h₀) (F : Fr h₀ L s.heap m) (X : Frag.In (hd.heap_39 w.params) h₀) (N : News h₀ L s.heap (news)) (T : Top pg ls mean mg mb h₀) (hk : cs.kind = .function) (hdp : dp + 50 < recursionLimit) (hun : un + 40 * 50 < cLine)
    (V : Sees w news S Sd all C here k1 k2 k3 an cs') (hlen : cs'.length ≤ 5) (hj0 : 0 ≤ j) (hc : cs'[j.toNat]? = some c) (hst : (c.gst == Str.ofString "blocked") = false)
    (hE : Faulted w base h₀ L m (envX cn cs L ca ccd cl) outer news s E) :
    wpAny (model PySem.Challenge.rw_pf0070_01.row.prog w) (ktrTop dp un gd cn cs L ca ccd cl outer) (call (.ref 123) [.ref S, .int j jt, v]) Q E s := by
  w_top off
  have hst' : (c.gst != Str.ofString "blocked") = true := by rw [bne, hst]; rfl
  have hS := V.s
  have hSd := V.d
  have hall := V.a
  have hg := (V.g c (List.mem_of_getElem? hc)).1
  have hgd := (V.g c (List.mem_of_getElem? hc)).2
  have hz9 : (cs'.map fun c => Value.ref c.g).toArray.size < 1000 := by simp; omega
  have hj1 : (cs'.map fun c => Value.ref c.g).toArray.toList[j.toNat]? = some (.ref c.g) := by simp [hc]
  refine wpAny_call ?_
  k_dflt (walk_at "m:enterD")
  k_steps
  · walk_at "m:leaveF"
    exact hE _ _ _ _ _ _ _ _ _ _ _ _ _ (by k_asm) (by assumption) (by assumption)
theorem wake_of_fault {pg : Program} {ls : List Str} {w : World} {mean : ExcName → Option Value} {mg mb : Str → Option Value} {A₀ : Around} {dp un : Nat} {gd : Option (List Code)} {base h₀ : Heap} {outer : List Env} {L : Addr} {m : Str → Option Value} {cn : Str} {cs : Scope} {ca : Addr} {ccd : Value} {cl : List (Str × Addr)} {s : Shared} {Q E : Value → Shared → Prop} {S Sd all : Addr} {C : Addr} {here : Value} {k1 k2 k3 : Tok} {cs' : List Cell} {an : Nat} {j : Int} {jt : Tok} {v : Value} {news : List (Addr × Obj)}
    (B : Below A₀ base outer h₀) (F : Fr h₀ L s.heap m) (X : Frag.In (hd.heap_39 w.params) h₀) (N : News h₀ L s.heap (news)) (T : Top pg ls mean mg mb h₀) (hk : cs.kind = .function) (hdp : dp + 50 < recursionLimit) (hun : un + 40 * 50 < cLine)
    (V : Sees w news S Sd all C here k1 k2 k3 an cs') (hlen : cs'.length ≤ 5) (hj : j < 0 ∨ (cs'.length : Int) ≤ j) (hj1 : -1000 < j) (hj2 : j < 1000)
    (hE : Faulted w base h₀ L m (envX cn cs L ca ccd cl) outer news s E) :
    wpAny (model PySem.Challenge.rw_pf0070_01.row.prog w) (ktrTop dp un gd cn cs L ca ccd cl outer) (call (.ref 123) [.ref S, .int j jt, v]) Q E s := by
  w_top off
  have hS := V.s
  have hSd := V.d
  have hall := V.a
  have hz9 : (cs'.map fun c => Value.ref c.g).toArray.size < 1000 := by simp; omega
  have hj' : j < 0 ∨ ((cs'.map fun c => Value.ref c.g).toArray.size : Int) ≤ j := by simpa using hj
  refine wpAny_call ?_
  k_dflt (walk_at "m:enterD")
  k_steps
  walk_at "m:leaveO"
  exact hE _ _ _ _ _ _ _ _ _ _ _ _ _ (by k_asm) (by assumption) (by assumption)
end Mine

/- R3 -/

/- Lm -/

namespace Mine
/-- a def's table of inner codes: empty, or with its one lambda's code -/
def Tabd (pos : Pos) (qual : Str) (P : Addr) (l : List (Addr × Obj)) : Prop :=
  l = [(P, tabObj #[])] ∨ ∃ c' oc vs t, l = [(P, tabObj #[rawInt pos.line, rawInt pos.col, .ref c']), (c', oc)] ∧ oc.data = .fields vs ∧ vs[1]? = some (.str qual t)
section
variable {M : Model} {A : Around} {E : Value → Shared → Prop} {s : Shared} {h₀ : Heap} {L a c P : Addr} {m mg mb : Str → Option Value} {cn : Str} {cs : Scope} {ccd : Value} {cl : List (Str × Addr)} {tl R0 news : List (Addr × Obj)}
  {p : Program} {loose : List Str} {mean : ExcName → Option Value} {params : Arguments} {body : PySem.Expr} {scope : Scope} {pos : Pos} {clos : List (Str × Addr)} {Q : Value → Shared → Prop} {qual : Str}
/-- the lambda is made; its code now stands in the table -/
theorem lam_make (F : Fr h₀ L s.heap m) (N : News h₀ L s.heap news) (T : Top p loose mean mg mb h₀) (C : CodeHd h₀ c P) (hcd : ccd = .ref c) (hq : (envX cn cs L a ccd cl).qual ++ "<lambda>" = qual) (X : Tabd pos qual P tl) (hp : news.Perm (tl ++ R0)) (D : Dis (tl ++ R0))
    (hdef : defaultsOf params (envX cn cs L a ccd cl) = ([], []))
    (hcl : closureFor scope (envX cn cs L a ccd cl) = pure clos)
    (h : ∀ f c' oc vs t pm ctv h' tk, Fr h₀ L h' m →
      News h₀ L h' ((f, kla_obj "<lambda>" qual params body scope clos pm c' ctv) :: (P, tabObj #[rawInt pos.line, rawInt pos.col, .ref c']) :: (c', oc) :: R0) →
      Dis ((f, kla_obj "<lambda>" qual params body scope clos pm c' ctv) :: (P, tabObj #[rawInt pos.line, rawInt pos.col, .ref c']) :: (c', oc) :: R0) →
      oc.data = .fields vs → vs[1]? = some (.str qual t) → (∀ q ∈ R0, q.1 < f) → Q (.ref f) { s with heap := h', toks := tk }) :
    wpAny M A (eval (.Lambda params body scope pos) (envX cn cs L a ccd cl)) Q E s := by
  refine kla_eval hdef ?_
  rw [hq]
  have N1 := news_perm N hp
  rcases X with rfl | ⟨c', oc, vs, t, rfl, hd, hv⟩
  · have U : UpdF P (tabObj #[]) ((P, tabObj #[]) :: R0) (fun o => (P, o) :: R0) := .head D.off
    refine kla_nest F N1 T C hcd U (by first | exact True.intro | simp [TriplesOk]) (by first | rfl | simp [codeAmong]) hcl fun f c' oc vs t ctv h' tk F' N' d1 d2 l1 l2 => ?_
    have lt : AllLt c' ((P, tabObj #[rawInt pos.line, rawInt pos.col, .ref c']) :: R0) := ⟨l1 (P, tabObj #[]) List.mem_cons_self, allLt_of fun q hq => l1 q (List.mem_cons_of_mem _ hq)⟩
    have D1 : Dis ((P, tabObj #[rawInt pos.line, rawInt pos.col, .ref c']) :: R0) := D.same rfl
    have D2 := (D1.cons (p := (c', oc)) lt).cons (p := (f, kla_obj "<lambda>" qual params body scope clos ((mg "__name__").getD .none) c' ctv)) ⟨l2, allLt_le (Nat.le_of_lt l2) lt⟩
    refine h f c' oc vs t ((mg "__name__").getD .none) ctv h' tk F' (news_sub N' ?_) (D2.le ?_) d1 d2 fun q hq => Nat.lt_trans (l1 q (List.mem_cons_of_mem _ hq)) l2
    · have e : (#[] : Array Value) ++ #[rawInt pos.line, rawInt pos.col, .ref c'] = #[rawInt pos.line, rawInt pos.col, .ref c'] := rfl
      rw [e]
      walk_at "m:sub9"
    · walk_at "m:count"
  · refine kla_hit (c' := c') (ps := #[rawInt pos.line, rawInt pos.col, .ref c']) F N1 T C hcd (List.mem_cons_self) (by first | exact True.intro | simp [TriplesOk, rawInt]) (by show codeAmong pos [rawInt pos.line, rawInt pos.col, .ref c'] = _; simp [codeAmong, rawInt]) hcl fun f ctv h' tk F' N' l1 => ?_
    exact h f c' oc vs t _ ctv h' tk F' N' (D.cons (allLt_of l1)) hd hv fun q hq => l1 q (List.mem_append_right _ hq)
end
theorem perm3 {a b c : Addr × Obj} {tl R : List (Addr × Obj)} : (a :: b :: c :: (tl ++ R)).Perm (tl ++ (a :: b :: c :: R)) := List.perm_append_comm_assoc [a, b, c] tl R
/-- three cells above all else -/
theorem dis3 {L' : Addr} {o1 o2 o3 : Obj} {l : List (Addr × Obj)} (D : Dis l) (h : ∀ q ∈ l, q.1 < L') : Dis ((L' + 1 + 1 + 1, o1) :: (L' + 1 + 1, o2) :: (L' + 1, o3) :: l) := by
  have h0 : AllLt L' l := allLt_of h
  have a1 : L' ≤ L' + 1 := Nat.le_succ _
  have a2 : L' ≤ L' + 1 + 1 := Nat.le_trans a1 (Nat.le_succ _)
  have a3 : L' ≤ L' + 1 + 1 + 1 := Nat.le_trans a2 (Nat.le_succ _)
  exact ((D.cons (p := (L' + 1, o3)) (allLt_le a1 h0)).cons (p := (L' + 1 + 1, o2)) ⟨Nat.lt_succ_self _, allLt_le a2 h0⟩).cons (p := (L' + 1 + 1 + 1, o1)) ⟨Nat.lt_succ_self _, Nat.lt_succ_of_lt (Nat.lt_succ_self _), allLt_le a3 h0⟩
theorem dis3p {L' : Addr} {o1 o2 o3 : Obj} {tl R : List (Addr × Obj)} (D : Dis (tl ++ R)) (h : ∀ q ∈ tl ++ R, q.1 < L') : Dis (tl ++ ((L' + 1 + 1 + 1, o1) :: (L' + 1 + 1, o2) :: (L' + 1, o3) :: R)) := (dis3 D h).perm perm3
/-- a value is there, the ledger as said -/
def CutV (g : Heap) (L : Addr) (m : Str → Option Value) (news : List (Addr × Obj)) {α : Type} (s : Shared) (b v : α) (s' : Shared) : Prop := ∃ h' tk', v = b ∧ s' = { s with heap := h', toks := tk' } ∧ Fr g L h' m ∧ News g L h' news
theorem CutV.mk {α : Type} {g h' : Heap} {L : Addr} {m : Str → Option Value} {news : List (Addr × Obj)} {s : Shared} {b v : α} {tk' : Nat} (e : v = b) (F : Fr g L h' m) (N : News g L h' news) : CutV g L m news s b v { s with heap := h', toks := tk' } := ⟨h', tk', e, rfl, F, N⟩
theorem cut_val {α : Type} {M : Model} {A : Around} {E : Value → Shared → Prop} {s : Shared} {t : Sem α} {Q : α → Shared → Prop} {g h : Heap} {L : Addr} {m : Str → Option Value} {news : List (Addr × Obj)} (b : α) (_F : Fr g L h m) (_N : News g L h news)
    (h1 : wpAny M A t (CutV g L m news s b) E s)
    (h2 : ∀ h' tk', Fr g L h' m → News g L h' news → Q b { s with heap := h', toks := tk' }) : wpAny M A t Q E s :=
  wpAny_mono h1 (fun v s' ⟨h', tk', e1, e2, F', N'⟩ => by subst e1 e2; exact h2 h' tk' F' N') fun _ _ x => x
/-- a value of a kind is there, the ledger as said -/
def CutP {α : Type} (P : α → Prop) (g : Heap) (L : Addr) (m : Str → Option Value) (news : List (Addr × Obj)) (s : Shared) (v : α) (s' : Shared) : Prop := ∃ h' tk', P v ∧ s' = { s with heap := h', toks := tk' } ∧ Fr g L h' m ∧ News g L h' news
theorem CutP.mk {α : Type} {P : α → Prop} {g h' : Heap} {L : Addr} {m : Str → Option Value} {news : List (Addr × Obj)} {s : Shared} {v : α} {tk' : Nat} (e : P v) (F : Fr g L h' m) (N : News g L h' news) : CutP P g L m news s v { s with heap := h', toks := tk' } := ⟨h', tk', e, rfl, F, N⟩
theorem cut_pred {α : Type} {M : Model} {A : Around} {E : Value → Shared → Prop} {s : Shared} {t : Sem α} {Q : α → Shared → Prop} {g h : Heap} {L : Addr} {m : Str → Option Value} {news : List (Addr × Obj)} (P : α → Prop) (_F : Fr g L h m) (_N : News g L h news)
    (h1 : wpAny M A t (CutP P g L m news s) E s)
    (h2 : ∀ v h' tk', P v → Fr g L h' m → News g L h' news → Q v { s with heap := h', toks := tk' }) : wpAny M A t Q E s :=
  wpAny_mono h1 (fun v s' ⟨h', tk', e1, e2, F', N'⟩ => by subst e2; exact h2 v h' tk' e1 F' N') fun _ _ x => x
theorem updCons {p : Addr × Obj} {x : Addr} {o : Obj} {l : List (Addr × Obj)} {g : Obj → List (Addr × Obj)} (D : Dis (p :: l)) (h : (x, o) ∈ l) (U : Dis l → UpdF x o l g) : UpdF x o (p :: l) (fun o' => p :: g o') :=
  .tail (fun e => (List.nodup_cons.mp D).1 (List.mem_map.mpr ⟨(x, o), h, e.symm⟩)) (U (List.nodup_cons.mp D).2)
theorem upd6 {p1 p2 p3 p4 p5 p6 : Addr × Obj} {x : Addr} {o : Obj} {r : List (Addr × Obj)} (D : Dis (p1 :: p2 :: p3 :: p4 :: p5 :: p6 :: (x, o) :: r)) : UpdF x o (p1 :: p2 :: p3 :: p4 :: p5 :: p6 :: (x, o) :: r) (fun o' => p1 :: p2 :: p3 :: p4 :: p5 :: p6 :: (x, o') :: r) :=
  updCons D (by simp) fun D => updCons D (by simp) fun D => updCons D (by simp) fun D => updCons D (by simp) fun D => updCons D (by simp) fun D => updCons D (by simp) fun D => .head D.off
theorem kind_okU {pg : Program} {ls : List Str} {w : World} {mean : ExcName → Option Value} {mg mb : Str → Option Value} {A₀ : Around} {dp un : Nat} {gd : Option (List Code)} {base h₀ : Heap} {outer : List Env} {L : Addr} {m : Str → Option Value} {cn : Str} {cs : Scope} {ca : Addr} {ccd : Value} {cl : List (Str × Addr)} {s : Shared} {Q E : Value → Shared → Prop} {f : Addr} {foc : Value} {fod : Option Addr} {fd : FuncData} {fsl : Array (Option Value)} {news : List (Addr × Obj)} {x : Addr} {o o' : Obj} {g : Obj → List (Addr × Obj)}
    (B : Below A₀ base outer h₀) (F : Fr h₀ L s.heap m) (X : Frag.In (hd.heap_39 w.params) h₀) (N : News h₀ L s.heap (news)) (T : Top pg ls mean mg mb h₀) (hk : cs.kind = .function) (hdp : dp + 60 < recursionLimit) (hun : un + 40 * 60 < cLine)
    (_U : UpdF x o news g) (XB : Frag.In (hd.heap_39 w.params) base) (TB : Top pg ls mean mg mb base) (KD : KtsDicts (outer.filterMap (·.frame)) h₀)
    (hf : (f, (⟨foc, fod, .func fd, fsl⟩ : Obj)) ∈ news)
    (hc : CallsOk PySem.Challenge.rw_pf0070_01.row.prog w (hd.heap_39 w.params) pg ls mean mg mb base (envX cn cs L ca ccd cl) outer f dp un news (g o'))
    (hQ : ∀ h' tk', Fr h₀ L h' m → News h₀ L h' (g o') → Q .none { s with heap := h', toks := tk' }) :
    wpAny (model PySem.Challenge.rw_pf0070_01.row.prog w) (ktrTop dp un gd cn cs L ca ccd cl outer) (call (.ref 236) [.ref f]) Q E s := kind_ok B F X N T hk hdp hun XB TB KD hf hc hQ
theorem setL_mid {v x : Value} : ∀ (p q : List Value), ki_setL (p ++ x :: q) p.length v = some (p ++ v :: q)
  | [], _ => rfl
  | y :: p, q => by
    show (match ki_setL (p ++ x :: q) p.length v with | some q => some (y :: q) | none => none) = _
    rw [setL_mid p q]; rfl
theorem updC {p : Addr × Obj} {x : Addr} {o o' : Obj} {l l' : List (Addr × Obj)} (D : Dis (p :: l)) (h : (x, o) ∈ l) (U : Dis l → Upd x o o' l l') : Upd x o o' (p :: l) (p :: l') :=
  .tail (fun e => (List.nodup_cons.mp D).1 (List.mem_map.mpr ⟨(x, o), h, e.symm⟩)) (U (List.nodup_cons.mp D).2)
theorem updO8 {p1 p2 p3 p4 p5 p6 p7 p8 : Addr × Obj} {x : Addr} {o o' : Obj} {r : List (Addr × Obj)} (D : Dis (p1 :: p2 :: p3 :: p4 :: p5 :: p6 :: p7 :: p8 :: (x, o) :: r)) : Upd x o o' (p1 :: p2 :: p3 :: p4 :: p5 :: p6 :: p7 :: p8 :: (x, o) :: r) (p1 :: p2 :: p3 :: p4 :: p5 :: p6 :: p7 :: p8 :: (x, o') :: r) :=
  updC D (by simp) fun D => updC D (by simp) fun D => updC D (by simp) fun D => updC D (by simp) fun D => updC D (by simp) fun D => updC D (by simp) fun D => updC D (by simp) fun D => updC D (by simp) fun D => .head D.off
theorem get_mid {α : Type} {p q : List α} {x y : α} {i : Nat} {z : α} (h : (p ++ y :: q)[i]? = some z) : (i = p.length ∧ z = y) ∨ (p ++ x :: q)[i]? = some z := by
  by_cases hp : i < p.length
  · rw [List.getElem?_append_left hp] at h
    exact .inr (by rw [List.getElem?_append_left hp]; exact h)
  · rw [List.getElem?_append_right (by omega)] at h
    cases hk : i - p.length with
    | zero => rw [hk] at h; exact .inl ⟨by omega, (by simpa using h : y = z).symm⟩
    | succ k => rw [hk] at h; exact .inr (by rw [List.getElem?_append_right (by omega), hk]; exact h)
theorem mem_mid {α : Type} {p q : List α} {x y : α} (h : x ∈ p ++ y :: q) : x = y ∨ x ∈ p ++ q := by
  simp only [List.mem_append, List.mem_cons] at h ⊢
  rcases h with h | h | h
  · exact .inr (.inl h)
  · exact .inl h
  · exact .inr (.inr h)
theorem mid_mem {α : Type} {p q : List α} {x y : α} (h : x ∈ p ++ q) : x ∈ p ++ y :: q := by
  simp only [List.mem_append, List.mem_cons] at h ⊢
  rcases h with h | h
  · exact .inl h
  · exact .inr (.inr h)
theorem sync_set {p q : List Cell} {c c2 : Cell} (Y : Sync (p ++ c :: q)) (hi : c2.i = c.i) (hs : c2.rst = c2.gst ∧ c2.rwf = c2.gwf ∧ c2.ran = c2.gan) (hh : handedIn c2.gwf = true ∧ handedIn c2.gan = true) : Sync (p ++ c2 :: q) := by
  refine ⟨by simpa using Y.len, fun i x hx => ?_, fun x hx => ?_, fun x hx => ?_⟩
  · rcases get_mid (x := c) hx with ⟨e, rfl⟩ | hx
    · rw [hi]; exact Y.idx i c (by rw [e]; simp)
    · exact Y.idx i x hx
  · rcases mem_mid hx with rfl | hx
    · exact hs
    · exact Y.same x (mid_mem hx)
  · rcases mem_mid hx with rfl | hx
    · exact hh
    · exact Y.hand x (mid_mem hx)
end Mine

/- W1 -/

theorem Mine.word44 : True := by
  k_with "call ref nil#" => first | (((try dsimp only [List.nil_append, List.cons_append]); (with_reducible show wpAny _ _ (call (Value.ref 123) [Value.ref _, Value.int _ _, _]) _ _ _); refine Mine.Hold.out ?_)) | fail "no"
  k_with "call ref cons nil#" => first | (((try dsimp only [List.nil_append, List.cons_append]); (with_reducible show wpAny _ _ (call (Value.ref 123) [Value.ref _, Value.int _ _, _]) _ _ _); refine Mine.Hold.out ?_)) | fail "no"
  trivial

theorem Mine.word45 : True := by
  k_with "call ref nil#" => first | (((try dsimp only [List.nil_append, List.cons_append]); (with_reducible show wpAny _ _ (call (Value.ref 236) [Value.ref _]) _ _ _); refine Mine.Hold.out ?_)) | fail "no"
  k_with "call ref cons nil#" => first | (((try dsimp only [List.nil_append, List.cons_append]); (with_reducible show wpAny _ _ (call (Value.ref 236) [Value.ref _]) _ _ _); refine Mine.Hold.out ?_)) | fail "no"
  trivial

theorem Mine.word46 : True := by
  k_with "call ref nil#" => first | (((try dsimp only [List.nil_append, List.cons_append]); (with_reducible show wpAny _ _ (call (Value.ref 229) [Value.ref _, Value.ref _]) _ _ _); refine Mine.Hold.out ?_)) | fail "no"
  k_with "call ref cons nil#" => first | (((try dsimp only [List.nil_append, List.cons_append]); (with_reducible show wpAny _ _ (call (Value.ref 229) [Value.ref _, Value.ref _]) _ _ _); refine Mine.Hold.out ?_)) | fail "no"
  trivial

theorem Mine.word47 : True := by
  k_with "eval Lambda#" => first | (refine Mine.Hold.out ?_) | fail "no"
  k_with "eval BoolOp And#" => first | (refine Mine.hold_if 1 (by assumption) ?_) | fail "no"
  trivial
namespace Mine
abbrev posW : Pos := ⟨147, 17, 147, 55⟩
abbrev qualW : Str := Str.ofString "_law_wakes_right.<locals>.<lambda>"
def isBlk (cs : List Cell) (j : Int) : Bool := decide (0 ≤ j) && (match cs[j.toNat]? with | some c => c.rst == Str.ofString "blocked" | none => false)
theorem wakes_bad {pg : Program} {ls : List Str} {w : World} {mean : ExcName → Option Value} {mg mb : Str → Option Value} {A₀ : Around} {dp un : Nat} {gd : Option (List Code)} {base h₀ : Heap} {outer : List Env} {L : Addr} {m : Str → Option Value} {cn : Str} {cs : Scope} {ca : Addr} {ccd : Value} {cl : List (Str × Addr)} {s : Shared} {Q E : Value → Shared → Prop} {S Sd all Rl : Addr} {C : Addr} {here : Value} {k1 k2 k3 : Tok} {cs' : List Cell} {an rn : Nat} {j : Int} {jt : Tok} {v : Value} {tl R0 : List (Addr × Obj)} (C242 : CodeHd base 242 238)
    (B : Below A₀ base outer h₀) (F : Fr h₀ L s.heap m) (X : Frag.In (hd.heap_39 w.params) h₀) (N : News h₀ L s.heap (tl ++ R0)) (T : Top pg ls mean mg mb h₀) (hk : cs.kind = .function) (hdp : dp + 150 < recursionLimit) (hun : un + 40 * 150 < cLine)
    (XB : Frag.In (hd.heap_39 w.params) base) (TB : Top pg ls mean mg mb base) (KD : KtsDicts (outer.filterMap (·.frame)) h₀)
    (V : Sees w R0 S Sd all C here k1 k2 k3 an cs') (W : Rows R0 Rl rn cs') (Y : Sync cs') (hb : isBlk cs' j = false) (hj1 : -1000 < j) (hj2 : j < 1000)
    (D : Dis (tl ++ R0)) (TA : Tabd posW qualW 238 tl)
    (hQ : ∀ g tl' h' tk', Tabd posW qualW 238 tl' → Dis (tl' ++ R0) → KtsTurn (outer.filterMap (·.frame)) h₀ g → Fr g L h' m → News g L h' (tl' ++ R0) → Below A₀ base outer g → Frag.In (hd.heap_39 w.params) g → Top pg ls mean mg mb g → KtsDicts (outer.filterMap (·.frame)) g → Q (.bool true) { s with heap := h', toks := tk' }) :
    wpAny (model PySem.Challenge.rw_pf0070_01.row.prog w) (ktrTop dp un gd cn cs L ca ccd cl outer) (call (.ref 243) [.ref S, .ref Rl, .int j jt, v]) Q E s := by
  w_top off
  have mk1 : Mark 1 := trivial
  have hlen := Y.len
  have hS := V.s
  have hSd := V.d
  have hall := V.a
  have hRl := List.mem_append_right tl W.l
  refine wpAny_call ?_
  k_dflt (refine' enterSC ?k1 ?k2 ?k3 ?k4 ?k5 ?XB ?TB ?KD ?kA ?kF ?kK ?k6 ?k7 ?k8 ?k9 ?kB ?kD ?_ ?c2 ?c3 ?c4; (case XB => assumption); (case TB => assumption); (case KD => assumption); (case kA => exact rfl); (case kF => exact rfl); (case kK => first | exact rfl | assumption); (case k1 => k_asm); (case k2 => k_asm); (case k3 => k_asm); (case k4 => k_asm); (case k5 => k_asm); (case k6 => k_is); (case k7 => k_is); (case k8 => ktr_room); (case k9 => exact BindsTo.of_eq rfl); (case kB => exact rfl); (case kD => decide +kernel); (case c2 => exact rfl); (case c3 => exact rfl); (case c4 => exact rfl); k_whole; intro g' L' h' tk' cells' FG' F' N' Y' B' X' T' D' l1; (try k_lt l1); k_cells Y'; (try simp only [List.cons_append, List.nil_append] at N'); (try dsimp only); (try k_lift B'); (try k_fold))
  (rename Fr _ _ _ _ => F0h); obtain ⟨m0h, F1h⟩ := Mine.fr_hide1 (x1 := Str.ofString "rows") (v1 := .ref Rl) F0h rfl; clear F0h
  k_steps
  dsimp only [Hold]
  rename News _ _ _ (_ :: _ :: _ :: (_ ++ _)) => N9
  rename Fr _ L' _ _ => F9
  refine cut_val (.bool false) F9 N9 ?_ ?_
  · clear hQ mk1
    unfold isBlk at hb
    rcases Int.lt_or_le j 0 with hj | hj
    · have hjn : ¬ (0 ≤ j) := by omega
      k_steps
      exact CutV.mk (congrArg Value.bool (decide_eq_false hjn)) (by k_asm) (by k_asm)
    · rcases Nat.lt_or_ge j.toNat cs'.length with hl | hl
      · have hc := List.getElem?_eq_getElem hl
        have hm := List.getElem_mem hl
        generalize cs'[j.toNat] = c at hc hm
        have hj1 : (cs'.map fun c => Value.ref c.ra).toArray.toList[j.toNat]? = some (.ref c.ra) := by simp [hc]
        have hjs : j < ((cs'.map fun c => Value.ref c.ra).toArray.size : Int) := by simp; omega
        have hrow := List.mem_append_right tl (W.r c hm)
        have hst : (c.rst == Str.ofString "blocked") = false := by rw [hc] at hb; simpa [hj] using hb
        clear hb hm hc hl
        k_steps
        exact CutV.mk (congrArg Value.bool hst) (by k_asm) (by k_asm)
      · have hjs : ¬ j < ((cs'.map fun c => Value.ref c.ra).toArray.size : Int) := by simp; omega
        clear hb hl
        k_steps
        exact CutV.mk (congrArg Value.bool (decide_eq_false hjs)) (by k_asm) (by k_asm)
  · intro h9 tk9 F9 N9
    k_steps
    dsimp only [Hold]
    rename News _ _ _ (_ :: _ :: _ :: (_ ++ _)) => N9
    k_dflt refine' lam_make ?F N9 ?T ?C rfl (qual := qualW) ?q TA perm3 ?D rfl rfl ?_; (case F => k_asm); (case T => k_asm); (case C => kn_code); (case q => kernel_rfl); (case D => exact dis3p D (by assumption))
    clear N9
    intro f9 c9 oc9 vs9 t9 pm9 ctv9 h9 tk9 F9 N9 D9 d9 v9 l9
    k_steps
    dsimp only [Hold]
    k_dflt refine' kind_bad ?B ?F ?X N9 ?T ?k ?d ?u XB TB D' List.mem_cons_self ?hc ?_; (case B => k_asm); (case F => k_asm); (case X => k_asm); (case T => k_asm); (case k => first | exact rfl | assumption); (case d => ktr_room); (case u => ktr_units)
    case hc =>
      clear hQ F9 W D9 l9
      intro dp' un' gd' cn' cs2 L2 a2 cd2 cl2 A2 g2 m2 s2 Q2 E2 B2 F2 X2 N2 T2 hk2 hd2 hu2 hE2
      dsimp only [Around.deeper] at hd2 hu2
      refine wpAny_call ?_
      k_dflt (refine' kla_code ?k1 ?k2 ?k3 ?k4 ?k5 ?kA ?kF ?kK ?k6 ?k7 ?k8 ?k9 ?kB ?_ ?c2 ?c3 ?c4 ?c5; (case kA => exact rfl); (case kF => exact rfl); (case kK => first | exact rfl | assumption); (case k1 => k_asm); (case k2 => k_asm); (case k3 => k_asm); (case k4 => k_asm); (case k5 => k_asm); (case k6 => k_mem); (case k7 => exact codeRec_news (by k_asm) (by k_mem) (by assumption) (by assumption)); (case k8 => ktr_room); (case k9 => exact rfl); (case c5 => decide); (case kB => exact locs rfl); (case c2 => exact rfl); (case c3 => exact rfl); (case c4 => exact rfl); k_whole; intro g' L' h' FG' F' N' B' X' T'; (try dsimp only); (try k_lift B'); (try k_fold))
      k_steps
      dsimp only [Hold]
      rcases Int.lt_or_le j 0 with hj | hj
      · k_dflt refine' wake_of_fault ?B ?F ?X ?N ?T ?k ?d ?u ?v hlen (.inl hj) hj1 hj2 ?_; (case B => k_asm); (case F => k_asm); (case X => k_asm); (case N => k_asm); (case T => k_asm); (case k => first | exact rfl | assumption); (case d => ktr_room); (case u => ktr_units); (case v => exact V.mono (by walk_at "m:tail"))
        (intro G9 e9 t9 d9 n1 n2 n3 t0 vs9 msg9 tk0 h9 tk9 F9 R9 U9; (try dsimp only); k_steps; walk_at "m:leaveO"; exact hE2 _ _ _ _ _ _ _ _ _ _ _ _ _ (by k_asm) (by assumption) (by assumption))
      · rcases Nat.lt_or_ge j.toNat cs'.length with hl | hl
        · k_dflt refine' wake_fault ?B ?F ?X ?N ?T ?k ?d ?u ?v hlen hj (List.getElem?_eq_getElem hl) ?s ?_; (case B => k_asm); (case F => k_asm); (case X => k_asm); (case N => k_asm); (case T => k_asm); (case k => first | exact rfl | assumption); (case d => ktr_room); (case u => ktr_units); (case v => exact V.mono (by walk_at "m:tail")); (case s => rw [isBlk, List.getElem?_eq_getElem hl] at hb; rw [← (Y.same _ (List.getElem_mem hl)).1]; simpa [hj] using hb)
          (intro G9 e9 t9 d9 n1 n2 n3 t0 vs9 msg9 tk0 h9 tk9 F9 R9 U9; (try dsimp only); k_steps; walk_at "m:leaveO"; exact hE2 _ _ _ _ _ _ _ _ _ _ _ _ _ (by k_asm) (by assumption) (by assumption))
        · k_dflt refine' wake_of_fault ?B ?F ?X ?N ?T ?k ?d ?u ?v hlen (.inr (by omega)) hj1 hj2 ?_; (case B => k_asm); (case F => k_asm); (case X => k_asm); (case N => k_asm); (case T => k_asm); (case k => first | exact rfl | assumption); (case d => ktr_room); (case u => ktr_units); (case v => exact V.mono (by walk_at "m:tail"))
          (intro G9 e9 t9 d9 n1 n2 n3 t0 vs9 msg9 tk0 h9 tk9 F9 R9 U9; (try dsimp only); k_steps; walk_at "m:leaveO"; exact hE2 _ _ _ _ _ _ _ _ _ _ _ _ _ (by k_asm) (by assumption) (by assumption))
    intro g9 tkk h9 tk9 T9 F9' N9' B9 X9 TT9 D9'
    clear F9 N9
    k_steps
    dsimp only [Hold]
    k_dflt refine' stands_spec ?B ?F ?X N9' ?T ?k ?d ?u ?v ?w Y ?_; (case B => k_asm); (case F => k_asm); (case X => k_asm); (case T => k_asm); (case k => first | exact rfl | assumption); (case d => ktr_room); (case u => ktr_units); (case v => exact V.mono (by walk_at "m:tail")); (case w => exact W.mono (by walk_at "m:tail"))
    intro h9 tk9 F9 N9
    clear N9' F9'
    k_steps
    rename News _ _ _ _ => N8
    exact hQ _ [(238, tabObj #[rawInt posW.line, rawInt posW.col, .ref c9]), (c9, oc9)] _ _ (.inr ⟨c9, oc9, vs9, t9, rfl, d9, v9⟩) (D9.le (by walk_at "m:count")) (by assumption) (by k_asm) (news_sub N8 (by walk_at "m:sub9")) (by k_asm) (by k_asm) (by k_asm) (by k_asm)
end Mine

/- W2 -/

theorem Mine.word48 : True := by
  k_with "call ref nil#" => first | (((try dsimp only [List.nil_append, List.cons_append]); (with_reducible show wpAny _ _ (call (Value.ref 123) [Value.ref _, Value.int _ _, _]) _ _ _); refine Mine.Hold.out ?_)) | fail "no"
  k_with "call ref cons nil#" => first | (((try dsimp only [List.nil_append, List.cons_append]); (with_reducible show wpAny _ _ (call (Value.ref 123) [Value.ref _, Value.int _ _, _]) _ _ _); refine Mine.Hold.out ?_)) | fail "no"
  trivial

theorem Mine.word49 : True := by
  k_with "call ref nil#" => first | (((try dsimp only [List.nil_append, List.cons_append]); (with_reducible show wpAny _ _ (call (Value.ref 236) [Value.ref _]) _ _ _); refine Mine.Hold.out ?_)) | fail "no"
  k_with "call ref cons nil#" => first | (((try dsimp only [List.nil_append, List.cons_append]); (with_reducible show wpAny _ _ (call (Value.ref 236) [Value.ref _]) _ _ _); refine Mine.Hold.out ?_)) | fail "no"
  trivial

theorem Mine.word50 : True := by
  k_with "call ref nil#" => first | (((try dsimp only [List.nil_append, List.cons_append]); (with_reducible show wpAny _ _ (call (Value.ref 229) [Value.ref _, Value.ref _]) _ _ _); refine Mine.Hold.out ?_)) | fail "no"
  k_with "call ref cons nil#" => first | (((try dsimp only [List.nil_append, List.cons_append]); (with_reducible show wpAny _ _ (call (Value.ref 229) [Value.ref _, Value.ref _]) _ _ _); refine Mine.Hold.out ?_)) | fail "no"
  trivial

theorem Mine.word51 : True := by
  k_with "eval Lambda#" => first | (refine Mine.Hold.out ?_) | fail "no"
  trivial
namespace Mine
theorem wakes_ok {pg : Program} {ls : List Str} {w : World} {mean : ExcName → Option Value} {mg mb : Str → Option Value} {A₀ : Around} {dp un : Nat} {gd : Option (List Code)} {base h₀ : Heap} {outer : List Env} {L : Addr} {m : Str → Option Value} {cn : Str} {cs : Scope} {ca : Addr} {ccd : Value} {cl : List (Str × Addr)} {s : Shared} {Q E : Value → Shared → Prop} {S Sd all Rl : Addr} {C : Addr} {here : Value} {k1 k2 k3 : Tok} {cs1 cs2 : List Cell} {c : Cell} {an rn : Nat} {j : Int} {jt : Tok} {v : Value} {tl R1 : List (Addr × Obj)} (C242 : CodeHd base 242 238)
    (B : Below A₀ base outer h₀) (F : Fr h₀ L s.heap m) (X : Frag.In (hd.heap_39 w.params) h₀) (N : News h₀ L s.heap (tl ++ ((c.d, gdict w c) :: (Rl, listOf ((cs1 ++ c :: cs2).map fun c => Value.ref c.ra).toArray rn) :: R1))) (T : Top pg ls mean mg mb h₀) (hk : cs.kind = .function) (hdp : dp + 150 < recursionLimit) (hun : un + 40 * 150 < cLine)
    (XB : Frag.In (hd.heap_39 w.params) base) (TB : Top pg ls mean mg mb base) (KD : KtsDicts (outer.filterMap (·.frame)) h₀)
    (hS : (S, instObj 157 Sd) ∈ R1) (hSd : (Sd, sdict w k1 k2 k3 C all here) ∈ R1) (hall : (all, listOf ((cs1 ++ c :: cs2).map fun c => Value.ref c.g).toArray an) ∈ R1) (hg : (c.g, instObj 71 c.d) ∈ R1) (hrow : (c.ra, rowObj c) ∈ R1)
    (V : ∀ x ∈ cs1 ++ cs2, (x.g, instObj 71 x.d) ∈ R1 ∧ (x.d, gdict w x) ∈ R1 ∧ (x.ra, rowObj x) ∈ R1) (Y : Sync (cs1 ++ c :: cs2)) (hj : j = (cs1.length : Int)) (hst : c.rst = Str.ofString "blocked") (hv : Plain v)
    (D : Dis (tl ++ ((c.d, gdict w c) :: (Rl, listOf ((cs1 ++ c :: cs2).map fun c => Value.ref c.ra).toArray rn) :: R1))) (TA : Tabd posW qualW 238 tl)
    (hQ : ∀ tl' nr nn nt h' tk', Tabd posW qualW 238 tl' →
      Dis (tl' ++ ((c.d, gdict w { c with ra := nr, rn := nn, rt := nt, rst := Str.ofString "ready", rwf := .none, ran := v, gst := Str.ofString "ready", gt := 249, gwf := .none, gan := v }) :: (Rl, listOf ((cs1 ++ { c with ra := nr } :: cs2).map fun c => Value.ref c.ra).toArray rn) :: (nr, listOf #[.str (Str.ofString "ready") nt, .none, v] nn) :: R1)) →
      Fr h₀ L h' m →
      News h₀ L h' (tl' ++ ((c.d, gdict w { c with ra := nr, rn := nn, rt := nt, rst := Str.ofString "ready", rwf := .none, ran := v, gst := Str.ofString "ready", gt := 249, gwf := .none, gan := v }) :: (Rl, listOf ((cs1 ++ { c with ra := nr } :: cs2).map fun c => Value.ref c.ra).toArray rn) :: (nr, listOf #[.str (Str.ofString "ready") nt, .none, v] nn) :: R1)) → Q (.bool true) { s with heap := h', toks := tk' }) :
    wpAny (model PySem.Challenge.rw_pf0070_01.row.prog w) (ktrTop dp un gd cn cs L ca ccd cl outer) (call (.ref 243) [.ref S, .ref Rl, .int j jt, v]) Q E s := by
  w_top off
  have hlen := Y.len
  have hRl : (Rl, listOf ((cs1 ++ c :: cs2).map fun c => Value.ref c.ra).toArray rn) ∈ tl ++ ((c.d, gdict w c) :: (Rl, listOf ((cs1 ++ c :: cs2).map fun c => Value.ref c.ra).toArray rn) :: R1) := List.mem_append_right tl (List.mem_cons_of_mem _ List.mem_cons_self)
  have hrow' := List.mem_append_right tl (List.mem_cons_of_mem (c.d, gdict w c) (List.mem_cons_of_mem (Rl, listOf ((cs1 ++ c :: cs2).map fun c => Value.ref c.ra).toArray rn) hrow))
  have hj0 : 0 ≤ j := by omega
  have hj2 : j < 1000 := by have := hlen; simp at this; omega
  have hjt : j.toNat = cs1.length := by omega
  have hj1 : ((cs1 ++ c :: cs2).map fun c => Value.ref c.ra).toArray.toList[j.toNat]? = some (.ref c.ra) := by rw [hjt]; simp
  have hjs : j < (((cs1 ++ c :: cs2).map fun c => Value.ref c.ra).toArray.size : Int) := by simp; omega
  have hb : (c.rst == Str.ofString "blocked") = true := by rw [hst]; decide
  refine wpAny_call ?_
  k_dflt (refine' enterSC ?k1 ?k2 ?k3 ?k4 ?k5 ?XB ?TB ?KD ?kA ?kF ?kK ?k6 ?k7 ?k8 ?k9 ?kB ?kD ?_ ?c2 ?c3 ?c4; (case XB => assumption); (case TB => assumption); (case KD => assumption); (case kA => exact rfl); (case kF => exact rfl); (case kK => first | exact rfl | assumption); (case k1 => k_asm); (case k2 => k_asm); (case k3 => k_asm); (case k4 => k_asm); (case k5 => k_asm); (case k6 => k_is); (case k7 => k_is); (case k8 => ktr_room); (case k9 => exact BindsTo.of_eq rfl); (case kB => exact rfl); (case kD => decide +kernel); (case c2 => exact rfl); (case c3 => exact rfl); (case c4 => exact rfl); k_whole; intro g' L' h' tk' cells' FG' F' N' Y' B' X' T' D' l1; (try k_lt l1); k_cells Y'; (try simp only [List.cons_append, List.nil_append] at N'); (try dsimp only); (try k_lift B'); (try k_fold))
  (rename Fr _ _ _ _ => F0h); obtain ⟨m0h, F1h⟩ := Mine.fr_hide1 (x1 := Str.ofString "rows") (v1 := .ref Rl) F0h rfl; clear F0h
  k_steps
  dsimp only [Hold]
  rename News _ _ _ (_ :: _ :: _ :: (_ ++ _)) => N9
  k_dflt refine' lam_make ?F N9 ?T ?C rfl (qual := qualW) ?q TA perm3 ?D rfl rfl ?_; (case F => k_asm); (case T => k_asm); (case C => kn_code); (case q => kernel_rfl); (case D => exact dis3p D (by assumption))
  clear N9
  intro f9 c9 oc9 vs9 t9 pm9 ctv9 h9 tk9 F9 N9 D9 d9 v9 l9
  k_steps
  dsimp only [Hold]
  k_dflt refine' kind_okU (o' := gdict w { c with gst := Str.ofString "ready", gt := 249, gwf := .none, gan := v }) ?B ?F ?X N9 ?T ?k ?d ?u (upd6 D9) XB TB D' List.mem_cons_self ?hc ?_; (case B => k_asm); (case F => k_asm); (case X => k_asm); (case T => k_asm); (case k => first | exact rfl | assumption); (case d => ktr_room); (case u => ktr_units)
  case hc =>
    clear hQ F9 l9
    intro dp' un' gd' cn' cs2' L2 a2 cd2 cl2 A2 g2 m2 s2 Q2 E2 B2 F2 X2 N2 T2 hk2 hd2 hu2 hE2
    dsimp only [Around.deeper] at hd2 hu2
    refine wpAny_call ?_
    k_dflt (refine' kla_code ?k1 ?k2 ?k3 ?k4 ?k5 ?kA ?kF ?kK ?k6 ?k7 ?k8 ?k9 ?kB ?_ ?c2 ?c3 ?c4 ?c5; (case kA => exact rfl); (case kF => exact rfl); (case kK => first | exact rfl | assumption); (case k1 => k_asm); (case k2 => k_asm); (case k3 => k_asm); (case k4 => k_asm); (case k5 => k_asm); (case k6 => k_mem); (case k7 => exact codeRec_news (by k_asm) (by k_mem) (by assumption) (by assumption)); (case k8 => ktr_room); (case k9 => exact rfl); (case c5 => decide); (case kB => exact locs rfl); (case c2 => exact rfl); (case c3 => exact rfl); (case c4 => exact rfl); k_whole; intro g' L' h' FG' F' N' B' X' T'; (try dsimp only); (try k_lift B'); (try k_fold))
    k_steps
    dsimp only [Hold]
    have hc9 : (cs1 ++ c :: cs2)[j.toNat]? = some c := by rw [hjt]; simp
    k_dflt refine' wakeU ?B ?F ?X ?N ?T ?k ?d ?u (upd6 D9) D9 ?m1 ?m2 ?m3 ?m4 hlen hj0 hc9 ?st ?_; (case B => k_asm); (case F => k_asm); (case X => k_asm); (case N => k_asm); (case T => k_asm); (case k => first | exact rfl | assumption); (case d => ktr_room); (case u => ktr_units); (case m1 => walk_at "m:in"); (case m2 => walk_at "m:in"); (case m3 => walk_at "m:in"); (case m4 => walk_at "m:in"); (case st => rw [← (Y.same c (by simp)).1]; exact hb)
    intro h9 tk9 F9 N9
    dsimp only at N9
    k_steps
    exact hE2 _ _ _ (by k_asm) (by k_asm)
  intro h9 tk9 F9' N9'
  clear F9 N9
  dsimp only at N9'
  k_steps
  rename News _ _ _ (_ :: _ :: _ :: _ :: _ :: _ :: _ :: _ :: _ :: R1) => N7
  rename Addr => nr
  have D8 : Dis ((f9, o0) :: (238, o0) :: (c9, o0) :: (L' + 1 + 1 + 1, o0) :: (L' + 1 + 1, o0) :: (L' + 1, o0) :: (c.d, o0) :: (Rl, o0) :: R1) := D9.same rfl
  have D7 := D8.cons (p := (nr, o0)) (by assumption)
  k_dflt refine' ki_set (q := (cs1 ++ { c with ra := nr } :: cs2).map fun c => Value.ref c.ra) ?F N7 hj0 (by omega) ?e (updO8 (D7.same rfl)) ?_; (case F => k_asm); (case e => rw [hjt]; simp only [List.toList_toArray, List.map_append, List.map_cons]; have q9 := setL_mid (v := Value.ref nr) (x := Value.ref c.ra) (cs1.map fun c => Value.ref c.ra) (cs2.map fun c => Value.ref c.ra); rw [List.length_map] at q9; exact q9)
  intro h9 F9 N9
  clear N7
  k_steps
  dsimp only [Hold]
  have hra : ((cs1 ++ { c with ra := nr } :: cs2).map fun c => Value.ref c.ra) = (cs1 ++ { c with ra := nr, rn := 0, rt := tk9, rst := Str.ofString "ready", rwf := .none, ran := v, gst := Str.ofString "ready", gt := 249, gwf := .none, gan := v } :: cs2).map fun c => Value.ref c.ra := by simp only [List.map_append, List.map_cons]
  rw [hra] at N9
  k_dflt refine' stands_spec (cs' := cs1 ++ { c with ra := nr, rn := 0, rt := tk9, rst := Str.ofString "ready", rwf := .none, ran := v, gst := Str.ofString "ready", gt := 249, gwf := .none, gan := v } :: cs2) ?B ?F ?X N9 ?T ?k ?d ?u ?v ?w ?y ?_; (case B => k_asm); (case F => k_asm); (case X => k_asm); (case T => k_asm); (case k => first | exact rfl | assumption); (case d => ktr_room); (case u => ktr_units)
  case y => exact sync_set Y rfl ⟨rfl, rfl, rfl⟩ ⟨rfl, hv.hand⟩
  case v => exact ⟨by walk_at "m:in", by walk_at "m:in", by rw [gs_same (c := c) (c' := { c with ra := nr, rn := 0, rt := tk9, rst := Str.ofString "ready", rwf := .none, ran := v, gst := Str.ofString "ready", gt := 249, gwf := .none, gan := v }) rfl]; walk_at "m:in", fun x hx => by
      rcases mem_mid hx with rfl | hx
      · exact ⟨by walk_at "m:in", by walk_at "m:mem9"⟩
      · obtain ⟨x1, x2, x3⟩ := V x hx
        exact ⟨by walk_at "m:in", by walk_at "m:in"⟩⟩
  case w => exact ⟨by walk_at "m:mem9", fun x hx => by
      rcases mem_mid hx with rfl | hx
      · exact List.mem_cons_self
      · obtain ⟨x1, x2, x3⟩ := V x hx
        walk_at "m:in"⟩
  intro h8 tk8 F8 N8
  k_steps
  rename News _ _ _ _ => N7
  rw [← hra] at N7
  exact hQ [(238, tabObj #[rawInt posW.line, rawInt posW.col, .ref c9]), (c9, oc9)] nr 0 tk9 _ _ (.inr ⟨c9, oc9, vs9, t9, rfl, d9, v9⟩) (D7.le (by walk_at "m:count")) (by k_asm) (news_sub N7 (by walk_at "m:sub9"))
end Mine

/- W3 -/

namespace Mine
theorem split_at {α : Type} : ∀ {l : List α} {n : Nat} {x : α}, l[n]? = some x → ∃ p q, l = p ++ x :: q ∧ p.length = n
  | [], n, x, h => by simp at h
  | y :: l, 0, x, h => by
    have e : y = x := by simpa using h
    exact ⟨[], l, by rw [e]; rfl, rfl⟩
  | y :: l, n + 1, x, h => by
    obtain ⟨p, q, e, hl⟩ := split_at (l := l) (n := n) (by simpa using h)
    exact ⟨y :: p, q, by rw [e]; rfl, by rw [← hl]; rfl⟩
theorem stok_set {p q : List Cell} {c c2 : Cell} (h : StOk (p ++ c :: q)) (hi : c2.i = c.i) (hs : c2.rst = c2.gst ∧ c2.rwf = c2.gwf ∧ c2.ran = c2.gan) (he : c2.gst = Str.ofString "ended" → c2.fo = listOf #[] 0) (ho : RowOk c2.rst c2.rwf c2.ran) : StOk (p ++ c2 :: q) := by
  refine ⟨by simp; omega, by simpa using h.len5, fun i x hx => ?_, fun x hx => ?_, fun x hx => ?_, fun x hx => ?_⟩
  · rcases get_mid (x := c) hx with ⟨e, rfl⟩ | hx
    · rw [hi]; exact h.idx i c (by rw [e]; simp)
    · exact h.idx i x hx
  · rcases mem_mid hx with rfl | hx
    · exact hs
    · exact h.same x (mid_mem hx)
  · rcases mem_mid hx with rfl | hx
    · exact he
    · exact h.ends x (mid_mem hx)
  · rcases mem_mid hx with rfl | hx
    · exact ho
    · exact h.ok x (mid_mem hx)
theorem wk_shuf {a1 a2 a3 a4 a5 a6 c1 c2 c3 c4 : Addr × Obj} {tl cp cq R : PL} : (tl ++ ([a1, a2, a3, a4, a5, a6] ++ ((cp ++ ([c1, c2, c3, c4] ++ cq)) ++ R))).Perm (tl ++ (c3 :: a6 :: ([a1, a2, a3, a4, a5, c1, c2, c4] ++ (cp ++ (cq ++ R))))) := by
  rw [List.append_assoc cp, List.append_assoc [c1, c2, c3, c4]]
  refine al tl (((al [a1, a2, a3, a4, a5, a6] ((pc cp [c1, c2, c3, c4] _).trans (pc [c1, c2] [c3] _))).trans (pc [a1, a2, a3, a4, a5, a6] [c3] _)).trans (al [c3] ((pc [a1, a2, a3, a4, a5] [a6] _).trans (al [a6] (al [a1, a2, a3, a4, a5] (al [c1, c2] (.refl _))))))) 
theorem wk_fin {h₀ h : Heap} {L : Addr} {a1 a2 a3 a4 a5 a6 c1 c2 c3 c4 n1 : Addr × Obj} {tl cp cq R : PL} (N : News h₀ L h (tl ++ (c3 :: a6 :: n1 :: ([a1, a2, a3, a4, a5, c1, c2, c4] ++ (cp ++ (cq ++ R)))))) (D : Dis (tl ++ (c3 :: a6 :: n1 :: ([a1, a2, a3, a4, a5, c1, c2, c4] ++ (cp ++ (cq ++ R)))))) :
    News h₀ L h (tl ++ ([a1, a2, a3, a4, a5, a6] ++ ((cp ++ ([n1, c2, c3, c4] ++ cq)) ++ R))) ∧ Dis (tl ++ ([a1, a2, a3, a4, a5, a6] ++ ((cp ++ ([n1, c2, c3, c4] ++ cq)) ++ R))) := by
  have p : (tl ++ (c3 :: a6 :: n1 :: ([a1, a2, a3, a4, a5, c1, c2, c4] ++ (cp ++ (cq ++ R))))).Perm ([c1] ++ (tl ++ (c3 :: a6 :: ([a1, a2, a3, a4, a5, n1, c2, c4] ++ (cp ++ (cq ++ R)))))) :=
    (al tl (al [c3, a6] ((pc [n1] [a1, a2, a3, a4, a5] _).trans ((al [a1, a2, a3, a4, a5] (pc [n1] [c1] _)).trans (pc [a1, a2, a3, a4, a5] [c1] _))))).trans ((al tl (pc [c3, a6] [c1] _)).trans (pc tl [c1] _))
  have q := both N D p
  exact both (fun x hx => q.1 x (List.mem_cons_of_mem _ hx)) (List.nodup_cons.mp q.2).2 wk_shuf.symm
theorem wakes_spec {pg : Program} {ls : List Str} {w : World} {mean : ExcName → Option Value} {mg mb : Str → Option Value} {A₀ : Around} {dp un : Nat} {gd : Option (List Code)} {base h₀ : Heap} {outer : List Env} {L : Addr} {m : Str → Option Value} {cn : Str} {cs : Scope} {ca : Addr} {ccd : Value} {cl : List (Str × Addr)} {s : Shared} {Q E : Value → Shared → Prop} {S Sd all C Cd Rl : Addr} {an rn : Nat} {k1 k2 k3 j1 j2 tt : Tok} {here dig : Value} {taken : Int} {cs' : List Cell} {j : Int} {jt : Tok} {v : Value} {tl R : List (Addr × Obj)} (C242 : CodeHd base 242 238)
    (B : Below A₀ base outer h₀) (F : Fr h₀ L s.heap m) (X : Frag.In (hd.heap_39 w.params) h₀) (N : News h₀ L s.heap (tl ++ (core w S Sd all C Cd Rl an rn k1 k2 k3 j1 j2 tt here dig taken cs' ++ (cells w cs' ++ R)))) (T : Top pg ls mean mg mb h₀) (hk : cs.kind = .function) (hdp : dp + 150 < recursionLimit) (hun : un + 40 * 150 < cLine)
    (XB : Frag.In (hd.heap_39 w.params) base) (TB : Top pg ls mean mg mb base) (KD : KtsDicts (outer.filterMap (·.frame)) h₀)
    (st : StOk cs') (hj1 : -1000 < j) (hj2 : j < 1000) (hv : Plain v)
    (D : Dis (tl ++ (core w S Sd all C Cd Rl an rn k1 k2 k3 j1 j2 tt here dig taken cs' ++ (cells w cs' ++ R)))) (TA : Tabd posW qualW 238 tl)
    (hQ : ∀ g cs2 tl' h' tk', StOk cs2 → cs2.map (·.g) = cs'.map (·.g) → Tabd posW qualW 238 tl' → Dis (tl' ++ (core w S Sd all C Cd Rl an rn k1 k2 k3 j1 j2 tt here dig taken cs2 ++ (cells w cs2 ++ R))) → KtsTurn (outer.filterMap (·.frame)) h₀ g → Fr g L h' m →
      News g L h' (tl' ++ (core w S Sd all C Cd Rl an rn k1 k2 k3 j1 j2 tt here dig taken cs2 ++ (cells w cs2 ++ R))) → Below A₀ base outer g → Frag.In (hd.heap_39 w.params) g → Top pg ls mean mg mb g → KtsDicts (outer.filterMap (·.frame)) g → Q (.bool true) { s with heap := h', toks := tk' }) :
    wpAny (model PySem.Challenge.rw_pf0070_01.row.prog w) (ktrTop dp un gd cn cs L ca ccd cl outer) (call (.ref 243) [.ref S, .ref Rl, .int j jt, v]) Q E s := by
  cases hb : isBlk cs' j with
  | false =>
    refine wakes_bad (here := here) (C := C) (Sd := Sd) (all := all) (k1 := k1) (k2 := k2) (k3 := k3) (an := an) (rn := rn) C242 B F X N T hk hdp hun XB TB KD (sees_of ?_ ?_ ?_ fun p hp => ?_) (rows_of (w := w) ?_ fun p hp => ?_) st.sync hb hj1 hj2 D TA fun g tl' h' tk' TA' D' T' F' N' B' X' TT' K' => hQ g cs' tl' h' tk' st rfl TA' D' T' F' N' B' X' TT' K'
    · simp
    · simp
    · simp
    · exact List.mem_append_right _ (List.mem_append_left _ hp)
    · simp
    · exact List.mem_append_right _ (List.mem_append_left _ hp)
  | true =>
    unfold isBlk at hb
    rw [Bool.and_eq_true, decide_eq_true_eq] at hb
    obtain ⟨hj0, hb⟩ := hb
    cases hc : cs'[j.toNat]? with
    | none => rw [hc] at hb; cases hb
    | some c =>
    rw [hc] at hb
    obtain ⟨p, q, rfl, hl⟩ := split_at hc
    have hst : c.rst = Str.ofString "blocked" := by simpa using hb
    obtain ⟨N1, D1⟩ : News h₀ L s.heap (tl ++ ((c.d, gdict w c) :: (Rl, listOf ((p ++ c :: q).map fun c => Value.ref c.ra).toArray rn) :: ([(all, listOf ((p ++ c :: q).map fun c => Value.ref c.g).toArray an), (S, instObj 157 Sd), (Sd, sdict w k1 k2 k3 C all here), (C, instObj 185 Cd), (Cd, cdict w j1 j2 dig taken tt), (c.ra, rowObj c), (c.g, instObj 71 c.d), (c.f, c.fo)] ++ (cells w p ++ (cells w q ++ R))))) ∧
        Dis (tl ++ ((c.d, gdict w c) :: (Rl, listOf ((p ++ c :: q).map fun c => Value.ref c.ra).toArray rn) :: ([(all, listOf ((p ++ c :: q).map fun c => Value.ref c.g).toArray an), (S, instObj 157 Sd), (Sd, sdict w k1 k2 k3 C all here), (C, instObj 185 Cd), (Cd, cdict w j1 j2 dig taken tt), (c.ra, rowObj c), (c.g, instObj 71 c.d), (c.f, c.fo)] ++ (cells w p ++ (cells w q ++ R))))) := by
      rw [cells_mid] at N D
      exact both N D wk_shuf
    have hmc : ∀ x ∈ p ++ q, ∀ y ∈ cell4 w x, y ∈ cells w p ++ (cells w q ++ R) := fun x hx y hy => by
      rcases List.mem_append.mp hx with hx | hx
      · exact List.mem_append_left _ (List.mem_flatMap.mpr ⟨x, hx, hy⟩)
      · exact List.mem_append_right _ (List.mem_append_left _ (List.mem_flatMap.mpr ⟨x, hx, hy⟩))
    refine wakes_ok (c := c) (cs1 := p) (cs2 := q) (here := here) (C := C) (Sd := Sd) (all := all) (k1 := k1) (k2 := k2) (k3 := k3) (an := an) C242 B F X N1 T hk hdp hun XB TB KD (by simp) (by simp) (by simp) (by simp) (by simp)
      (fun x hx => ⟨List.mem_append_right _ (hmc x hx _ (by simp)), List.mem_append_right _ (hmc x hx _ (by simp)), List.mem_append_right _ (hmc x hx _ (by simp))⟩) st.sync (by omega) hst hv D1 TA ?_
    intro tl' nr nn nt h' tk' TA' D' F' N'
    have e1 : ((p ++ c :: q).map fun c => Value.ref c.g) = (p ++ { c with ra := nr, rn := nn, rt := nt, rst := Str.ofString "ready", rwf := .none, ran := v, gst := Str.ofString "ready", gt := 249, gwf := .none, gan := v } :: q).map fun c => Value.ref c.g := by rw [List.map_append, List.map_append]; rfl
    have e2 : ((p ++ { c with ra := nr } :: q).map fun c => Value.ref c.ra) = (p ++ { c with ra := nr, rn := nn, rt := nt, rst := Str.ofString "ready", rwf := .none, ran := v, gst := Str.ofString "ready", gt := 249, gwf := .none, gan := v } :: q).map fun c => Value.ref c.ra := by rw [List.map_append, List.map_append]; rfl
    rw [e1, e2] at N' D'
    obtain ⟨N2, D2⟩ := wk_fin N' D'
    refine hQ h₀ (p ++ { c with ra := nr, rn := nn, rt := nt, rst := Str.ofString "ready", rwf := .none, ran := v, gst := Str.ofString "ready", gt := 249, gwf := .none, gan := v } :: q) tl' h' tk' (stok_set st rfl ⟨rfl, rfl, rfl⟩ (fun e => absurd (show Str.ofString "ready" = Str.ofString "ended" from e) (by decide)) ⟨.inl rfl, .inl rfl, hv, fun _ => rfl⟩) (by simp) TA' ?_ .refl F' ?_ B X T KD
    · rw [cells_mid]; exact D2
    · rw [cells_mid]; exact N2
end Mine

/- K1 -/

theorem Mine.word52 : True := by
  k_with "call ref nil#" => first | (((try dsimp only [List.nil_append, List.cons_append]); (with_reducible show wpAny _ _ (call (Value.ref 217) [Value.ref _, Value.ref _, Value.ref _]) _ _ _); refine Mine.Hold.out ?_)) | fail "no"
  k_with "call ref cons nil#" => first | (((try dsimp only [List.nil_append, List.cons_append]); (with_reducible show wpAny _ _ (call (Value.ref 217) [Value.ref _, Value.ref _, Value.ref _]) _ _ _); refine Mine.Hold.out ?_)) | fail "no"
  trivial

theorem Mine.word53 : True := by
  k_with "call ref nil#" => first | (((try dsimp only [List.nil_append, List.cons_append]); (with_reducible show wpAny _ _ (call (Value.ref 149) [Value.ref _]) _ _ _); refine Mine.Hold.out ?_)) | fail "no"
  k_with "call ref cons nil#" => first | (((try dsimp only [List.nil_append, List.cons_append]); (with_reducible show wpAny _ _ (call (Value.ref 149) [Value.ref _]) _ _ _); refine Mine.Hold.out ?_)) | fail "no"
  trivial

theorem Mine.word54 : True := by
  k_with "call ref nil#" => first | (((try dsimp only [List.nil_append, List.cons_append]); (with_reducible show wpAny _ _ (call (Value.ref 103) [Value.ref _, Value.int _ _]) _ _ _); refine Mine.Hold.out ?_)) | fail "no"
  k_with "call ref cons nil#" => first | (((try dsimp only [List.nil_append, List.cons_append]); (with_reducible show wpAny _ _ (call (Value.ref 103) [Value.ref _, Value.int _ _]) _ _ _); refine Mine.Hold.out ?_)) | fail "no"
  trivial

theorem Mine.word55 : True := by
  k_with "call ref nil#" => first | (((try dsimp only [List.nil_append, List.cons_append]); (with_reducible show wpAny _ _ (call (Value.ref 236) [Value.ref _]) _ _ _); refine Mine.Hold.out ?_)) | fail "no"
  k_with "call ref cons nil#" => first | (((try dsimp only [List.nil_append, List.cons_append]); (with_reducible show wpAny _ _ (call (Value.ref 236) [Value.ref _]) _ _ _); refine Mine.Hold.out ?_)) | fail "no"
  trivial

theorem Mine.word56 : True := by
  k_with "call ref nil#" => first | (((try dsimp only [List.nil_append, List.cons_append]); (with_reducible show wpAny _ _ (call (Value.ref 243) [Value.ref _, Value.ref _, Value.int _ _, Value.none]) _ _ _); refine Mine.Hold.out ?_)) | fail "no"
  k_with "call ref cons nil#" => first | (((try dsimp only [List.nil_append, List.cons_append]); (with_reducible show wpAny _ _ (call (Value.ref 243) [Value.ref _, Value.ref _, Value.int _ _, Value.none]) _ _ _); refine Mine.Hold.out ?_)) | fail "no"
  trivial

theorem Mine.word57 : True := by
  k_with "call ref cons#" => first | (((with_reducible show wpAny _ _ (call (Value.ref 243) _) _ _ _); refine Mine.Hold.out ?_)) | fail "no"
  k_with "eval Lambda#" => first | (refine Mine.Hold.out ?_) | fail "no"
  trivial
namespace Mine
def fixRows (r1 r2 T : Addr) (t1 t2 : Tok) : List Cell := [⟨r1, 0, t1, Str.ofString "ended", .none, .none, 0, 0, 0, 0, 0, 0, 0, 0, 0, 0, Str.ofString "", 0, .none, .none, o0⟩, ⟨r2, 0, t2, Str.ofString "blocked", .ref T, .none, 0, 0, 0, 0, 0, 0, 0, 0, 0, 0, Str.ofString "", 0, .none, .none, o0⟩]
theorem fix_rows {h₀ h : Heap} {L E' src Rl r1 r2 T : Addr} {oe so to : Obj} {t1 t2 : Tok} {R : List (Addr × Obj)}
    (N : News h₀ L h ((E', oe) :: (src, so) :: (Rl, listOf #[.ref r1, .ref r2] 0) :: (r2, listOf #[.str (Str.ofString "blocked") t2, .ref T, .none] 0) :: (T, to) :: (r1, listOf #[.str (Str.ofString "ended") t1, .none, .none] 0) :: R))
    (D : Dis ((E', oe) :: (src, so) :: (Rl, listOf #[.ref r1, .ref r2] 0) :: (r2, listOf #[.str (Str.ofString "blocked") t2, .ref T, .none] 0) :: (T, to) :: (r1, listOf #[.str (Str.ofString "ended") t1, .none, .none] 0) :: R)) :
    News h₀ L h ((src, so) :: (Rl, listOf ((fixRows r1 r2 T t1 t2).map fun c => Value.ref c.ra).toArray 0) :: (rowsOf (fixRows r1 r2 T t1 t2) ++ ((E', oe) :: (T, to) :: R))) ∧
    Dis ((src, so) :: (Rl, listOf ((fixRows r1 r2 T t1 t2).map fun c => Value.ref c.ra).toArray 0) :: (rowsOf (fixRows r1 r2 T t1 t2) ++ ((E', oe) :: (T, to) :: R))) := by
  constructor
  · refine news_sub N ?_
    show ∀ q ∈ (src, so) :: (Rl, listOf #[.ref r1, .ref r2] 0) :: (r1, listOf #[.str (Str.ofString "ended") t1, .none, .none] 0) :: (r2, listOf #[.str (Str.ofString "blocked") t2, .ref T, .none] 0) :: (E', oe) :: (T, to) :: R, _
    walk_at "m:sub9"
  · refine D.le ?_
    show ∀ a : Nat, (((src, so) :: (Rl, listOf #[.ref r1, .ref r2] 0) :: (r1, listOf #[.str (Str.ofString "ended") t1, .none, .none] 0) :: (r2, listOf #[.str (Str.ofString "blocked") t2, .ref T, .none] 0) :: (E', oe) :: (T, to) :: R).map (·.1)).count a ≤ _
    walk_at "m:count"
theorem two_of {cs : List Cell} (e : cs.length = 2) : ∃ x y, cs = [x, y] := by
  rcases cs with _ | ⟨x, _ | ⟨y, _ | ⟨z, t⟩⟩⟩
  · simp at e
  · simp at e
  · exact ⟨x, y, rfl⟩
  · simp at e
theorem fix_ok {r1 r2 T : Addr} {t1 t2 : Tok} : ∀ c ∈ fixRows r1 r2 T t1 t2, RowOk c.rst c.rwf c.ran := by
  intro c hc
  simp only [fixRows, List.mem_cons, List.not_mem_nil, or_false] at hc
  rcases hc with rfl | rfl
  · exact ⟨.inr (.inr rfl), .inl rfl, .inl rfl, fun _ => rfl⟩
  · exact ⟨.inr (.inl rfl), .inr (.inl ⟨_, rfl⟩), .inl rfl, fun e => absurd (show (Str.ofString "blocked" == Str.ofString "blocked") = false from e) (by decide)⟩
theorem fix_shuf {h₀ h : Heap} {L : Addr} {p1 p2 p3 p4 p5 p6 : Addr × Obj} {X Y R : List (Addr × Obj)} (N : News h₀ L h (p1 :: (X ++ (Y ++ p2 :: p3 :: p4 :: p5 :: p6 :: R)))) (D : Dis (p1 :: (X ++ (Y ++ p2 :: p3 :: p4 :: p5 :: p6 :: R)))) :
    News h₀ L h (p4 :: p5 :: ([p6] ++ (X ++ (Y ++ (p1 :: p2 :: p3 :: R))))) ∧ Dis (p4 :: p5 :: ([p6] ++ (X ++ (Y ++ (p1 :: p2 :: p3 :: R))))) :=
  both N D (((pc2 [p1] X Y _).trans (al X (al Y (pc [p1, p2, p3] [p4, p5, p6] R)))).trans (pc2 [p4, p5, p6] X Y _).symm)
theorem fix_turn {h₀ h : Heap} {L : Addr} {p1 p2 p3 p4 p5 : Addr × Obj} {X Y Z : List (Addr × Obj)} (N : News h₀ L h (p1 :: p2 :: p3 :: p4 :: ([p5] ++ (X ++ (Y ++ Z))))) (D : Dis (p1 :: p2 :: p3 :: p4 :: ([p5] ++ (X ++ (Y ++ Z))))) :
    News h₀ L h ([p5] ++ (X ++ (Y ++ (p1 :: p2 :: p3 :: p4 :: Z)))) ∧ Dis ([p5] ++ (X ++ (Y ++ (p1 :: p2 :: p3 :: p4 :: Z)))) :=
  both N D (pc3 [p1, p2, p3, p4] [p5] X Y Z)
theorem permswap {a b : Addr × Obj} {R : List (Addr × Obj)} : (a :: b :: R).Perm ([b] ++ (a :: R)) := .swap _ _ _
theorem dis_swap1 {x : Addr} {o o' : Obj} {b : Addr × Obj} {R : List (Addr × Obj)} (D : Dis ((x, o) :: b :: R)) : Dis ([b] ++ ((x, o') :: R)) := (D.same (l' := (x, o') :: b :: R) rfl).perm permswap
theorem fix_dead {cs : List Cell} {r1 r2 T : Addr} {t1 t2 : Tok} (hst : StOk cs) (hrow : cs.map Cell.row = (fixRows r1 r2 T t1 t2).map Cell.row) : ((cs.filter fun c => c.gst == Str.ofString "ready").isEmpty && !(cs.filter fun c => c.gst == Str.ofString "blocked").isEmpty) = true := by
  obtain ⟨c1, c2, rfl⟩ := two_of ((Cell.row_len hrow).trans rfl)
  have hs1 := hst.same c1 (by simp)
  have hs2 := hst.same c2 (by simp)
  simp only [fixRows, List.map_cons, List.map_nil, Cell.row, List.cons.injEq, Prod.mk.injEq, and_true] at hrow
  obtain ⟨⟨_, _, _, r14, r15, r16⟩, ⟨_, _, _, r24, r25, r26⟩⟩ := hrow
  rw [List.filter_cons, List.filter_cons, List.filter_cons, List.filter_cons, ← hs1.1, ← hs2.1, r14, r24]; rfl
abbrev posF : Pos := ⟨187, 50, 187, 74⟩
abbrev qualF : Str := Str.ofString "_law_fixed_right.<locals>.<lambda>"
theorem fixed_spec {pg : Program} {ls : List Str} {w : World} {mean : ExcName → Option Value} {mg mb : Str → Option Value} {A₀ : Around} {dp un : Nat} {gd : Option (List Code)} {base h₀ : Heap} {outer : List Env} {L : Addr} {m : Str → Option Value} {cn : Str} {cs : Scope} {ca : Addr} {ccd : Value} {cl : List (Str × Addr)} {s : Shared} {Q E : Value → Shared → Prop} {R : List (Addr × Obj)} (C268 : CodeHd base 268 264) (C242 : CodeHd base 242 238)
    (B : Below A₀ base outer h₀) (F : Fr h₀ L s.heap m) (X : Frag.In (hd.heap_39 w.params) h₀) (N : News h₀ L s.heap ((264, tabObj #[]) :: (238, tabObj #[]) :: R)) (T : Top pg ls mean mg mb h₀) (hk : cs.kind = .function) (hdp : dp + 200 < recursionLimit) (hun : un + 40 * 200 < cLine)
    (XB : Frag.In (hd.heap_39 w.params) base) (TB : Top pg ls mean mg mb base) (KD : KtsDicts (outer.filterMap (·.frame)) h₀)
    (D : Dis ((264, tabObj #[]) :: (238, tabObj #[]) :: R))
    (hQ : ∀ g ps tl' h' tk', Tabd posW qualW 238 tl' → Dis ((264, tabObj ps) :: (tl' ++ R)) → KtsTurn (outer.filterMap (·.frame)) h₀ g → Fr g L h' m → News g L h' ((264, tabObj ps) :: (tl' ++ R)) → Below A₀ base outer g → Frag.In (hd.heap_39 w.params) g → Top pg ls mean mg mb g → KtsDicts (outer.filterMap (·.frame)) g → Q (.bool true) { s with heap := h', toks := tk' }) :
    wpAny (model PySem.Challenge.rw_pf0070_01.row.prog w) (ktrTop dp un gd cn cs L ca ccd cl outer) (call (.ref 269) []) Q E s := by
  w_top off
  refine wpAny_call ?_
  k_dflt (refine' enterSC ?k1 ?k2 ?k3 ?k4 ?k5 ?XB ?TB ?KD ?kA ?kF ?kK ?k6 ?k7 ?k8 ?k9 ?kB ?kD ?_ ?c2 ?c3 ?c4; (case XB => assumption); (case TB => assumption); (case KD => assumption); (case kA => exact rfl); (case kF => exact rfl); (case kK => first | exact rfl | assumption); (case k1 => k_asm); (case k2 => k_asm); (case k3 => k_asm); (case k4 => k_asm); (case k5 => k_asm); (case k6 => k_is); (case k7 => k_is); (case k8 => ktr_room); (case k9 => exact BindsTo.of_eq rfl); (case kB => exact rfl); (case kD => decide +kernel); (case c2 => exact rfl); (case c3 => exact rfl); (case c4 => exact rfl); k_whole; intro g' L' h' tk' cells' FG' F' N' Y' B' X' T' D' l1; (try k_lt l1); k_cells Y'; (try simp only [List.cons_append, List.nil_append] at N'); (try dsimp only); (try k_lift B'); (try k_fold))
  (rename Fr _ _ _ _ => F0h); obtain ⟨m0h, F1h⟩ := Mine.fr_hide0  F0h; clear F0h
  k_steps
  rename News _ _ _ _ => N9
  dsimp only [Hold]
  walk_at "m:split"
  obtain ⟨N2, D2⟩ := fix_rows N9 (by walk_at "m:dcons")
  k_dflt refine' made_spec ?B ?F ?X N2 ?T ?k ?d ?u D2 ⟨by decide, by decide, by decide⟩ fix_ok (Nat.succ_pos _) (by show 2 ≤ 5; decide) ?_; (case B => k_asm); (case F => k_asm); (case X => k_asm); (case T => k_asm); (case k => first | exact rfl | assumption); (case d => ktr_room); (case u => ktr_units)
  intro cs S Sd all C Cd an k1 k2 k3 j1 j2 tt hg a' ta' b' tb' h' tk' hst hrow hs9 hhg F3 N3 D3
  clear N9 N2 D2
  obtain ⟨N4, D4⟩ := fix_shuf N3 D3
  clear N3 D3
  have hoff := D4.off
  k_steps
  dsimp only [Hold]
  rename News _ _ _ (_ :: _ :: ([_] ++ _)) => N9
  have hb : ((List.filter (fun c => c.gst == Str.ofString "ready") cs).isEmpty && !(List.filter (fun c => c.gst == Str.ofString "blocked") cs).isEmpty) = true := fix_dead hst hrow
  k_dflt refine' dead_spec (cs' := cs) (S := S) (Sd := Sd) (all := all) (C := C) (here := .ref hg) (k1 := k1) (k2 := k2) (k3 := k3) (an := an) ?B ?F ?X N9 ?T ?k ?d ?u ?v hst.len5 ?_; (case B => k_asm); (case F => k_asm); (case X => k_asm); (case T => k_asm); (case k => first | exact rfl | assumption); (case d => ktr_room); (case u => ktr_units)
  case v => exact sees_of (by simp) (by simp) (by simp) (fun p hp => by simp [hp])
  intro h9 tk9 F9 N9'
  clear N9
  rw [hb]
  k_steps
  dsimp only [Hold]
  rename News _ _ _ (_ :: _ :: ([_] ++ _)) => N9
  k_dflt refine' lam_make (tl := [(264, tabObj #[])]) ?F N9 ?T ?C rfl (qual := qualF) ?q (.inl rfl) permswap ?D rfl rfl ?_; (case F => k_asm); (case T => k_asm); (case C => kn_code); (case q => kernel_rfl); (case D => exact dis_swap1 D4)
  clear N9 D4
  intro f9 c9 oc9 vs9 t9 pm9 ctv9 h9 tk9 F9 N9 D9 d9 v9 l9
  k_steps
  dsimp only [Hold]
  k_dflt refine' kind_bad ?B ?F ?X N9 ?T ?k ?d ?u XB TB ?K List.mem_cons_self ?hc ?_; (case B => k_asm); (case F => k_asm); (case X => k_asm); (case T => k_asm); (case k => first | exact rfl | assumption); (case d => ktr_room); (case u => ktr_units); (case K => assumption)
  case hc =>
    clear hQ F9 D9 l9
    intro dp' un' gd' cn' cs2' L2 a2 cd2 cl2 A2 g2 m2 s2 Q2 E2 B2 F2 X2 N2 T2 hk2 hd2 hu2 hE2
    dsimp only [Around.deeper] at hd2 hu2
    refine wpAny_call ?_
    k_dflt (refine' kla_code ?k1 ?k2 ?k3 ?k4 ?k5 ?kA ?kF ?kK ?k6 ?k7 ?k8 ?k9 ?kB ?_ ?c2 ?c3 ?c4 ?c5; (case kA => exact rfl); (case kF => exact rfl); (case kK => first | exact rfl | assumption); (case k1 => k_asm); (case k2 => k_asm); (case k3 => k_asm); (case k4 => k_asm); (case k5 => k_asm); (case k6 => k_mem); (case k7 => exact codeRec_news (by k_asm) (by k_mem) (by assumption) (by assumption)); (case k8 => ktr_room); (case k9 => exact rfl); (case c5 => decide); (case kB => exact locs rfl); (case c2 => exact rfl); (case c3 => exact rfl); (case c4 => exact rfl); k_whole; intro g' L' h' FG' F' N' B' X' T'; (try dsimp only); (try k_lift B'); (try k_fold))
    k_steps
    dsimp only [Hold]
    k_dflt refine' of_fault (j := -1) (Sd := Sd) (all := all) (C := C) (here := .ref hg) (k1 := k1) (k2 := k2) (k3 := k3) (an := an) (its := (cs.map fun c => Value.ref c.g).toArray) ?B ?F ?X ?N ?T ?k ?d ?u ?m1 ?m2 ?m3 ?z (.inl (by decide)) (by decide) (by decide) ?_; (case B => k_asm); (case F => k_asm); (case X => k_asm); (case N => k_asm); (case T => k_asm); (case k => first | exact rfl | assumption); (case d => ktr_room); (case u => ktr_units); (case m1 => simp); (case m2 => simp); (case m3 => simp); (case z => have := hst.len5; simp; omega)
    (intro G9 e9 t9 d9 n1 n2 n3 t0 vs9 msg9 tk0 h9 tk9 F9 R9 U9; (try dsimp only); k_steps; walk_at "m:leaveO"; exact hE2 _ _ _ _ _ _ _ _ _ _ _ _ _ (by k_asm) (by assumption) (by assumption))
  intro g9 tkk h9 tk9 T9 F9' N9' B9 X9 TT9 D9'
  clear F9 N9
  k_steps
  dsimp only [Hold]
  obtain ⟨N5, D5⟩ := fix_turn N9' D9
  clear N9' D9
  k_dflt refine' wakes_spec C242 ?B ?F ?X N5 ?T ?k ?d ?u XB TB ?K hst (by decide) (by decide) (.inl rfl) D5 (.inl rfl) ?_; (case B => k_asm); (case F => k_asm); (case X => k_asm); (case T => k_asm); (case k => first | exact rfl | assumption); (case d => ktr_room); (case u => ktr_units); (case K => assumption)
  clear N5
  intro g10 cs2 tl2 h10 tk10 hst2 hg2 TA2 D6 T10 F10 N10 B10 X10 TT10 D10
  k_steps
  dsimp only [Hold]
  k_dflt refine' wakes_spec C242 ?B ?F ?X N10 ?T ?k ?d ?u XB TB ?K hst2 (by decide) (by decide) (.inl rfl) D6 TA2 ?_; (case B => k_asm); (case F => k_asm); (case X => k_asm); (case T => k_asm); (case k => first | exact rfl | assumption); (case d => ktr_room); (case u => ktr_units); (case K => assumption)
  clear N10 D6
  intro g11 cs3 tl3 h11 tk11 hst3 hg3 TA3 D7 T11 F11 N11 B11 X11 TT11 D11
  have TT := (T9.trans T10).trans T11
  clear T9 T10 T11
  k_steps
  rename News _ _ _ _ => N8
  exact hQ _ #[rawInt posF.line, rawInt posF.col, .ref c9] tl3 _ _ TA3 (D7.le (by walk_at "m:count")) (by assumption) (by k_asm) (news_sub N8 (by intro x hx; simp only [List.mem_cons, List.mem_append] at hx ⊢; rcases hx with h | h | h <;> simp [h])) (by k_asm) (by k_asm) (by k_asm) (by k_asm)
end Mine

/- Lg -/
namespace Mine
open PySem.Spec PySem.Calls PyProof.V
section
variable {prog : Program} {w : World} {A : Around} {E : Value → Shared → Prop} {s : Shared} {env : Env} {body : List Stmt} {Q : Flow → Shared → Prop}
/-- a loop whose iterator stands -/
def TurnsG (prog : Program) (w : World) (A : Around) (env : Env) (target : PySem.Expr) (body : List Stmt) (Q : Flow → Shared → Prop) (E : Value → Shared → Prop) (it : Value) (s₂ : Shared) : Prop :=
  codeAny (model prog w) A (.forLoop target it body [] env) (fun r s' => match r with | .ok f => Q f s' | .error e => cameBackBy (model prog w) A env E e s') s₂
theorem For_G {target iter : PySem.Expr} {pos : Pos}
    (h : wpAny (model prog w) A (eval iter env) (fun xv s₁ => wpAny (model prog w) A (pyIter xv) (fun it s₂ => TurnsG prog w A env target body Q E it s₂) E s₁) E s)
    (hs : ∀ x, foldedSetIterable iter env x = pure x := by intro _; rfl) : wpAny (model prog w) A (exec (.For target iter body [] pos) env) Q E s := wpAny_For h hs
/-- a turn's end, the ground perhaps turned -/
def EndG (L : Addr) (s : Shared) (its : List (Addr × Obj)) (J : Heap → (Str → Option Value) → List (Addr × Obj) → Prop) (Q : Flow → Shared → Prop) (f : Flow) (s₃ : Shared) : Prop :=
  match f with
  | .ret v => Q (.ret v) s₃
  | .brk => Q .next s₃
  | _ => ∃ g' h' tk' m' news', s₃ = { s with heap := h', toks := tk' } ∧ Fr g' L h' m' ∧ News g' L h' (its ++ news') ∧ (∀ p ∈ news', ∀ q ∈ its, p.1 ≠ q.1) ∧ J g' m' news'
/-- for i, x in enumerate(l), by what holds between the turns; the ground may turn -/
theorem enumG {elts : List PySem.Expr} {k : Nat} {pos : Pos} {l : Addr} {vs : List Value} {n : Nat} {g₀ : Heap} {m₀ : Str → Option Value} {news : List (Addr × Obj)}
    (hh : A.handled = none) (F : Fr g₀ env.locals s.heap m₀) (N : News g₀ env.locals s.heap news) (hm : (l, listOf vs.toArray n) ∈ news)
    (J : Addr → Nat → Heap → (Str → Option Value) → List (Addr × Obj) → Prop) (h0 : ∀ I, (∀ p ∈ news, p.1 < I) → J I 0 g₀ m₀ news)
    (hg : ∀ I i g m nw, J I i g m nw → g₀.objs.size = g.objs.size ∧ (l, listOf vs.toArray n) ∈ nw)
    (step : ∀ I i v g m₁ news₁ h₁ tk₁ T t oe oi, vs[i]? = some v → J I i g m₁ news₁ → (∀ p ∈ news, p.1 < I) → Fr g env.locals h₁ m₁ → News g env.locals h₁ ((I + 1, oe) :: (I, oi) :: news₁) → (∀ p ∈ news₁, p.1 ≠ I + 1 ∧ p.1 ≠ I) → IsTup h₁ T #[.int (i : Int) t, v] →
      wpAny (model prog w) A (assign (.Tuple elts k pos) env (.ref T)) (fun _ s₂ => wpAny (model prog w) A (execs body env) (EndG env.locals { s with heap := h₁, toks := tk₁ } [(I + 1, oe), (I, oi)] (J I (i + 1)) Q) E s₂) E { s with heap := h₁, toks := tk₁ })
    (done : ∀ I g h' tk m' news', J I vs.length g m' news' → (∀ p ∈ news, p.1 < I) → Fr g env.locals h' m' → News g env.locals h' news' → Q .next { s with heap := h', toks := tk })
    (hE : PassesOwn (model prog w) A env E := by passes_own) :
    wpAny (model prog w) A (call (.type "enumerate") [.ref l]) (fun xv s₁ => wpAny (model prog w) A (pyIter xv) (fun it s₂ => TurnsG prog w A env (.Tuple elts k pos) body Q E it s₂) E s₁) E s := by
  have hax := N _ hm
  have hl : s.heap.IsList l vs.toArray := ⟨listOf vs.toArray n, hax.1, rfl, n, rfl⟩
  have hlt : l < s.heap.objs.size := Heap.lt_size hax.1
  have hLs : env.locals < s.heap.objs.size := F.ns.lt
  have hnl : ∀ p ∈ news, p.1 < s.heap.objs.size := fun p hp => Heap.lt_size (N p hp).1
  refine call_enumerate_list hl fun h' hEn hI hsz hk => ?_
  refine wpAny_pyIter_enum hEn ?_
  have nL1 : env.locals ≠ s.heap.objs.size + 1 := ktu_ne 1 hLs
  have nL0 : env.locals ≠ s.heap.objs.size := Nat.ne_of_lt hLs
  have nl1 : l ≠ s.heap.objs.size + 1 := ktu_ne 1 hlt
  have nl0 : l ≠ s.heap.objs.size := Nat.ne_of_lt hlt
  have none_of : ∀ g : Heap, g₀.objs.size = g.objs.size → ∀ b, s.heap.objs.size ≤ b → g.get? b = none := fun g e b hb => Heap.get?_none_of_le (by rw [← e]; exact Nat.le_trans F.above (Nat.le_trans (Nat.le_of_lt hLs) hb))
  have W := KTurns.ofWalksU (elts := elts) (k := k) (pos := pos) (WalksT.enumerate (prog := prog) (w := w) hh (s.heap.objs.size + 1) s.heap.objs.size l (Nat.succ_ne_self _) nl1 nl0 vs.toArray).toU
  have hsv : vs.toArray.size = vs.length := by simp
  show codeAny _ _ _ _ _
  generalize hI0 : s.heap.objs.size = I at *
  refine codeAny_forLoop_any
    (fun kk s' => ∃ h' tk i g m' nw, s' = { s with heap := h', toks := tk } ∧ i ≤ vs.length ∧ kk = vs.length + 1 - i ∧ ((∃ old, IsEnum h' (I + 1) I i old) ∧ h'.IsListIter I l i ∧ h'.IsList l vs.toArray) ∧ Fr g env.locals h' m' ∧ News g env.locals h' nw ∧ (∀ p ∈ nw, p.1 ≠ I + 1 ∧ p.1 ≠ I) ∧ J I i g m' nw) ?_ (vs.length + 1)
    ⟨h', s.toks, 0, g₀, m₀, news, rfl, Nat.zero_le _, rfl, ⟨⟨_, hEn⟩, hI, hl.at fun o e => hk l o e⟩, F.keeps hk, N.grown hk, fun p hp => ⟨ktu_ne 1 (hnl p hp), Nat.ne_of_lt (hnl p hp)⟩, h0 I hnl⟩
  rintro kk s' ⟨h', tk, i, g, m', nw, rfl, hi, rfl, hst, F', N', off, hJ⟩
  obtain ⟨hsz', hlm⟩ := hg I i g m' nw hJ
  have hn1 : g.get? (I + 1) = none := none_of g hsz' _ (Nat.le_succ _)
  have hn0 : g.get? I = none := none_of g hsz' _ (Nat.le_refl _)
  have old : ∀ b o, g.get? b = some o → b ∉ [I + 1, I] := fun b o e hb => by
    simp only [List.mem_cons, List.not_mem_nil, or_false] at hb
    rcases hb with rfl | rfl
    · rw [hn1] at e; cases e
    · rw [hn0] at e; cases e
  have notin : ∀ {b : Addr}, b ≠ I + 1 → b ≠ I → b ∉ [I + 1, I] := fun h1 h2 hb => by
    simp only [List.mem_cons, List.not_mem_nil, or_false] at hb
    exact hb.elim h1 h2
  have next : ∀ h₁ : Heap, (∀ b o, b ∉ [I + 1, I] → h'.get? b = some o → h₁.get? b = some o) → Fr g env.locals h₁ m' ∧ News g env.locals h₁ nw := fun h₁ hk₁ =>
    ⟨⟨F'.ns.at' fun o e => hk₁ _ o (notin nL1 nL0) e, fun b o e => hk₁ b o (old b o e) (F'.keep b o e), F'.above⟩, fun p hp => ⟨hk₁ _ _ (notin (off p hp).1 (off p hp).2) (N' p hp).1, (N' p hp).2⟩⟩
  by_cases hlt' : i < vs.length
  · refine W.item i _ _ _ (by rw [hsv]; exact hlt') hst fun v h₁ tk₁ hMd hk₁ => ?_
    refine W.go i v _ _ _ hMd fun h₂ hP hst₂ hk₂ => ?_
    obtain ⟨F₂, N₂⟩ := next h₂ fun b o hb x => hk₂ b o hb (hk₁ b o hb x)
    obtain ⟨T, vals, rfl, ⟨t, x, hx, rfl⟩, hT⟩ := hP
    obtain ⟨⟨old₂, he₂⟩, ⟨oi, hoi, hic, hid⟩, hl₂⟩ := hst₂
    obtain ⟨oe, heoe, hoe⟩ : ∃ oe : Obj, h₂.get? (I + 1) = some oe ∧ ∀ h : Heap, h.get? (I + 1) = some oe → ∃ ov, IsEnum h (I + 1) I ((i + 1 : Nat) : Int) ov := ⟨_, he₂, fun _ x => ⟨_, x⟩⟩
    have hnI : ∀ q ∈ [(I + 1, oe), (I, oi)], h₂.get? q.1 = some q.2 ∧ q.1 ≠ env.locals ∧ g.get? q.1 = none := fun q hq => by
      simp only [List.mem_cons, List.not_mem_nil, or_false] at hq
      rcases hq with rfl | rfl
      · exact ⟨heoe, Ne.symm nL1, hn1⟩
      · exact ⟨hoi, Ne.symm nL0, hn0⟩
    have N₃ : News g env.locals h₂ ((I + 1, oe) :: (I, oi) :: nw) := fun q hq => by
      rcases List.mem_cons.mp hq with rfl | hq
      · exact hnI _ (by simp)
      · rcases List.mem_cons.mp hq with rfl | hq
        · exact hnI _ (by simp)
        · exact N₂ q hq
    have hv : vs[i]? = some x := by simpa using hx
    refine wpAny_passesOwn hE (wpAny_mono (step I i x g m' nw h₂ tk₁ T t oe oi hv hJ hnl F₂ N₃ off hT) (fun _ s₂ h₂' => ?_) fun _ _ e => e)
    refine wpAny_passesOwn hE (wpAny_mono h₂' (fun f s₃ h₃ => ?_) fun _ _ e => e)
    have fin : (∃ g' h' tk' m' news', s₃ = { s with heap := h', toks := tk' } ∧ Fr g' env.locals h' m' ∧ News g' env.locals h' ([(I + 1, oe), (I, oi)] ++ news') ∧ (∀ p ∈ news', ∀ q ∈ [(I + 1, oe), (I, oi)], p.1 ≠ q.1) ∧ J I (i + 1) g' m' news') →
        ∃ kk', kk' < vs.length + 1 - i ∧ ∃ h' tk i g m' nw, s₃ = { s with heap := h', toks := tk } ∧ i ≤ vs.length ∧ kk' = vs.length + 1 - i ∧ ((∃ old, IsEnum h' (I + 1) I i old) ∧ h'.IsListIter I l i ∧ h'.IsList l vs.toArray) ∧ Fr g env.locals h' m' ∧ News g env.locals h' nw ∧ (∀ p ∈ nw, p.1 ≠ I + 1 ∧ p.1 ≠ I) ∧ J I i g m' nw := by
      rintro ⟨g', h', tk', m₂, news', rfl, F₄, N₄, off₄, J₄⟩
      have z1 := (N₄ (I + 1, oe) (by simp)).1
      have z0 := (N₄ (I, oi) (by simp)).1
      have zl := (N₄ (l, listOf vs.toArray n) (List.mem_append_right _ (hg I (i + 1) g' m₂ news' J₄).2)).1
      exact ⟨vs.length + 1 - (i + 1), by omega, h', tk', i + 1, g', m₂, news', rfl, hlt', rfl, ⟨hoe _ z1, ⟨oi, z0, hic, hid⟩, ⟨listOf vs.toArray n, zl, rfl, n, rfl⟩⟩, F₄, fun p hp => N₄ p (List.mem_append_right _ hp), fun p hp => ⟨off₄ p hp (I + 1, oe) (by simp), off₄ p hp (I, oi) (by simp)⟩, J₄⟩
    cases f with
    | ret v => exact h₃
    | brk => exact h₃
    | cont => exact fin h₃
    | next => exact fin h₃
  · have hin : i = vs.length := by omega
    subst hin
    refine W.done _ _ _ (by rw [hsv]; exact hst) fun h₁ tk₁ hk₁ => wpAny_execs_nil ?_
    obtain ⟨F₁, N₁⟩ := next h₁ hk₁
    exact done I g h₁ tk₁ m' nw hJ hnl F₁ N₁
end
end Mine

/- B1 -/
theorem Mine.word58 : True := by
  k_with_none
  k_with "m:sub#" => first | ((k_here; (with_reducible show wpAny _ _ (subscriptTail _ _ (Value.ref _) (Value.int _ _)) _ _ _); k_dflt (refine' Mine.m_sub ?Nw ?mw ?aw ?bw ?xw ?_; (case Nw => k_asm); (case mw => k_mem); (case aw => decide); (case bw => decide); (case xw => rfl); k_whole))) | fail "no"
  k_with "subscriptTail Name Constant ref int#" => first | (walk_at "m:sub") | fail "no"
  k_with "m:compT#" => first | ((k_here; lct_look; k_dflt (refine LCt.ListComp_T (F₀ := by k_asm) (by with_unfolding_all rfl) (by decide) (by rfl) (by decide) (by rfl) ?_))) | fail "no"
  k_with "m:comp#" => first | ((k_here; k_dflt (refine LCg.ListComp_U (F₀ := by k_asm) (by with_unfolding_all rfl) (by decide) (by rfl) (by decide) (by rfl) ?_))) | fail "no"
  k_with "eval ListComp Name cons#" => first | (first | walk_at "m:compT" | walk_at "m:comp") | fail "no"
  k_with "eval ListComp Tuple cons#" => first | (first | walk_at "m:compT" | walk_at "m:comp") | fail "no"
  k_with "eval ListComp List cons#" => first | (first | walk_at "m:compT" | walk_at "m:comp") | fail "no"
  k_with "eval ListComp Attribute cons#" => first | (first | walk_at "m:compT" | walk_at "m:comp") | fail "no"
  k_with "CompSrcT#" => first | ((k_here; k_dflt (refine LCt.CompSrcT.ledger (by rfl) (by k_asm) (by k_asm) (by k_mem) (by first | size_fits | (simp only [List.size_toArray, List.length_map]; rw [sizeLine_eq]; omega)) ?_); intro _)) | fail "no"
  k_with "CompSrc#" => first | ((k_here; k_dflt (refine LCg.CompSrc.ledger (by rfl) (by k_asm) (by k_asm) (by k_mem) (by first | size_fits | (simp only [List.size_toArray, List.length_map]; rw [sizeLine_eq]; omega)) ?_); intro _)) | fail "no"
  k_with "m:in#" => first | (first | assumption | ((with_reducible refine List.mem_cons_of_mem _ ?_); walk_at "m:in") | ((with_reducible refine List.mem_append_right _ ?_); walk_at "m:in") | ((with_reducible refine List.mem_append_left _ ?_); walk_at "m:in")) | fail "no"
  k_with "m:tail#" => first | ((intro _ _; walk_at "m:in")) | fail "no"
  k_with "m:src#" => first | (exact Or.inr ⟨_, by k_mem, rfl, _, rfl⟩) | fail "no"
  k_with "m:units#" => first | (first | ktr_units | (have hcL9 := cLine_is; (simp only [units_in1, units_deeper, Around.mark_units] at *); (try dsimp only [ktrTop] at *); omega)) | fail "no"
  k_with "m:eqnil#" => first | ((k_here; (with_reducible show wpAny _ _ (compareOp CmpOp.Eq (Value.ref _) (Value.ref _)) _ _ _); k_dflt (refine' Mine.m_eq_nil ?Nw ?aw ?bw ?uw ?_; (case Nw => k_asm); (case bw => k_mem); (case aw => k_mem); (case uw => walk_at "m:units"); k_whole))) | fail "no"
  k_with "m:nenil#" => first | ((k_here; (with_reducible show wpAny _ _ (compareOp CmpOp.NotEq (Value.ref _) (Value.ref _)) _ _ _); k_dflt (refine' Mine.m_ne_nil ?Nw ?aw ?bw ?uw ?_; (case Nw => k_asm); (case bw => k_mem); (case aw => k_mem); (case uw => walk_at "m:units"); k_whole))) | fail "no"
  k_with "compareOp Eq ref ref#" => first | (walk_at "m:eqnil") | fail "no"
  k_with "m:nesame#" => first | ((k_here; (with_reducible show wpAny _ _ (compareOp CmpOp.NotEq (Value.ref _) (Value.ref _)) _ _ _); k_dflt (refine' Mine.m_ne_same ?Nw ?aw ?bw ?uw ?_ ?_; (case Nw => k_asm); (case aw => k_mem); (case bw => k_mem); (case uw => walk_at "m:units")))) | fail "no"
  k_with "compareOp NotEq ref ref#" => first | (first | walk_at "m:nenil" | walk_at "m:nesame") | fail "no"
  k_with "m:cend#" => first | (refine LCg.CompEnd.intro (by k_asm) (by k_asm) _ (by walk_at "m:tail") (by assumption) (by walk_at "m:src") ⟨rfl, ?_⟩) | fail "no"
  k_with "m:back#" => first | ((rename News _ _ _ _ => kN9; exact fun p9 hp9 => kN9 p9 (by walk_at "m:in"))) | fail "no"
  k_with "m:perm#" => first | ((intro _ hp9w; simp only [List.mem_cons, List.mem_append, List.cons_append, List.append_assoc, List.nil_append, List.not_mem_nil, or_false, false_or] at hp9w ⊢; (repeat' ((with_reducible refine Or.elim hp9w (fun hq9 => ?_) (fun hq9 => ?_)); clear hp9w; rename_i hp9w)) <;> simp only [hp9w, true_or, or_true])) | fail "no"
  k_with "m:sees#" => first | (first | assumption | exact Mine.Sees.mono (by assumption) (by walk_at "m:tail")) | fail "no"
  k_with "m:rows#" => first | (first | assumption | exact Mine.Rows.mono (by assumption) (by walk_at "m:tail")) | fail "no"
  k_with "m:off#" => first | (first | assumption | exact Mine.off_lt (by assumption) | (k_all)) | fail "no"
  k_with "m:small#" => first | (first | assumption | decide | (simp only [List.size_toArray, List.length_map, List.length_cons, List.length_nil]; omega) | (simp only [List.size_toArray, List.length_map, List.length_cons, List.length_nil] at *; omega)) | fail "no"
  k_with "call builtin:len cons nil#" => first | ((k_here; (with_reducible show wpAny _ _ (call (Value.builtin _) [Value.ref _]) _ _ _); k_dflt (refine' Mine.m_len ?Nw ?mw ?zw ?_; (case Nw => k_asm); (case mw => k_mem); (case zw => walk_at "m:small"); k_whole); intro _ _)) | fail "no"
  k_with "m:subS#" => first | ((k_here; (with_reducible show wpAny _ _ (subscriptTail _ _ (Value.ref _) (Value.int _ _)) _ _ _); k_dflt (refine' Mine.m_subS ?Nw ?mw ?aw ?bw ?zw ?_; (case Nw => k_asm); (case mw => k_mem); (case aw => first | assumption | omega); (case bw => first | assumption | omega); (case zw => walk_at "m:small"); k_whole); intro _ _)) | fail "no"
  k_with "subscriptTail Name Call ref int#" => first | (walk_at "m:subS") | fail "no"
  k_with "m:size#" => first | (first | assumption | decide | (simp only [List.size_toArray, List.length_cons, List.length_nil]; omega) | (simp; done)) | fail "no"
  k_with "m:split#" => first | (repeat (rename _ ∧ _ => hx9; have hy9 := And.left hx9; have hz9 := And.right hx9; clear hx9)) | fail "no"
  k_with "m:dis#" => first | ((simp only [List.map_cons, List.nodup_cons, List.mem_cons, not_or, List.cons_append, List.nil_append] at *; walk_at "m:split")) | fail "no"
  k_with "m:count#" => first | ((intro _; (try simp only [Mine.cells3_snoc, Mine.cells_mid, Mine.rowsOf_mid]); (try simp only [List.map_append, List.map_cons, List.map_nil, List.count_append, List.count_cons, List.count_nil, List.nil_append, List.cons_append]); omega)) | fail "no"
  k_with "m:dis9#" => first | (first | assumption | exact Mine.Dis.le (by assumption) (by walk_at "m:count")) | fail "no"
  k_with "m:lt#" => first | (first | assumption | exact True.intro | ((with_reducible refine Mine.allLt_le ?_ ?_) ; (first | (omega) | skip); assumption) | (refine And.intro ?_ ?_; (try dsimp only); omega; walk_at "m:lt") | (refine Mine.allLt_le (Nat.le_of_lt ?_) ?_; rotate_left; assumption; omega)) | fail "no"
  k_with "m:mem9#" => first | (first | exact List.mem_cons_self | (refine List.mem_cons_of_mem _ ?_; walk_at "m:mem9") | (refine List.mem_append_left _ ?_; walk_at "m:mem9") | (refine List.mem_append_right _ ?_; walk_at "m:mem9")) | fail "no"
  k_with "m:in9#" => first | (first | assumption | (refine List.mem_cons_of_mem _ ?_; walk_at "m:in9") | (refine List.mem_append_left _ ?_; walk_at "m:in9") | (refine List.mem_append_right _ ?_; walk_at "m:in9")) | fail "no"
  k_with "m:sub9#" => first | (first | (refine List.forall_mem_cons.mpr ⟨?_, ?_⟩; walk_at "m:mem9"; walk_at "m:sub9") | (refine List.forall_mem_append.mpr ⟨?_, ?_⟩; walk_at "m:sub9"; walk_at "m:sub9") | (intro _ hp9w; exact absurd hp9w List.not_mem_nil) | (intro _ hp9w; walk_at "m:in9")) | fail "no"
  k_with "compareOp IsNot none#" => first | ((k_here; k_dflt (refine Mine.m_isnot (by assumption) (by assumption) ?_))) | fail "no"
  k_with "m:subA#" => first | ((k_here; (with_reducible show wpAny _ _ (subscriptTail _ _ (Value.ref _) (Value.int _ _)) _ _ _); k_dflt (refine' Mine.m_sub ?Nw ?mw ?aw ?bw ?xw ?_; (case Nw => k_asm); (case mw => k_mem); (case xw => assumption); (case aw => first | assumption | omega); (case bw => first | decide | omega); k_whole))) | fail "no"
  k_with "subscriptTail Name Name ref int#" => first | (first | walk_at "m:subA" | walk_at "m:subS") | fail "no"
  k_with "subscriptTail Attribute Name Name ref int#" => first | (first | walk_at "m:subA" | walk_at "m:subS") | fail "no"
  k_with "m:enterD#" => first | ((refine' code_def ?k1w ?k2w ?k3w ?k4w ?k5w ?kAw ?kFw ?kKw ?k6w ?k7w ?k8w ?k9w ?kBw ?_ ?c2w ?c3w ?c4w ?c5w; (case kAw => exact rfl); (case kFw => exact rfl); (case kKw => first | exact rfl | assumption); (case k1w => k_asm); (case k2w => k_asm); (case k3w => k_asm); (case k4w => k_asm); (case k5w => k_asm); (case k6w => k_is); (case k7w => k_is); (case k8w => k_room); (case k9w => exact Mine.wake_binds (Frag.In.keeps (by k_asm) (Fr.keep (by k_asm))) (by k_is) rfl); (case c5w => decide); (case kBw => exact locs rfl); (case c2w => exact rfl); (case c3w => exact rfl); (case c4w => exact rfl); k_whole; intro _ _ _ _ _ _ B'w _ _; (try dsimp only); (try k_lift B'w); (try k_fold))) | fail "no"
  k_with "call ref cons nil#" => first | (((try dsimp only [List.nil_append, List.cons_append]); (with_reducible show wpAny _ _ (call (Value.ref 123) [Value.ref _, Value.int _ _, _]) _ _ _); (refine wpAny_call ?_); k_dflt (walk_at "m:enterD"))) | fail "no"
  k_with "call ref nil#" => first | (((try dsimp only [List.nil_append, List.cons_append]); (with_reducible show wpAny _ _ (call (Value.ref 203) [Value.ref _, Value.int _ _]) _ _ _); k_dflt (refine' Mine.takeU ?Bw ?Fw ?Xw ?Nw ?Tw ?kw ?dw ?uw ?ow ?aw ?tw ?t2w ?_; (case Bw => k_asm); (case Fw => k_asm); (case Xw => k_asm); (case Nw => k_asm); (case Tw => k_asm); (case kw => first | exact rfl | assumption); (case dw => ktr_room); (case uw => ktr_units); (case ow => k_updF); (case aw => assumption); (case tw => first | decide | assumption | omega); (case t2w => first | decide | assumption | omega)); intro _ _ _ _ _ _ _ _ _ _ _ _ N9w; (try dsimp only at N9w))) | fail "no"
  k_with "call ref cons nil#" => first | (((try dsimp only [List.nil_append, List.cons_append]); (with_reducible show wpAny _ _ (call (Value.ref 203) [Value.ref _, Value.int _ _]) _ _ _); k_dflt (refine' Mine.takeU ?Bw ?Fw ?Xw ?Nw ?Tw ?kw ?dw ?uw ?ow ?aw ?tw ?t2w ?_; (case Bw => k_asm); (case Fw => k_asm); (case Xw => k_asm); (case Nw => k_asm); (case Tw => k_asm); (case kw => first | exact rfl | assumption); (case dw => ktr_room); (case uw => ktr_units); (case ow => k_updF); (case aw => assumption); (case tw => first | decide | assumption | omega); (case t2w => first | decide | assumption | omega)); intro _ _ _ _ _ _ _ _ _ _ _ _ N9w; (try dsimp only at N9w))) | fail "no"
  k_with "call ref nil#" => first | (((try dsimp only [List.nil_append, List.cons_append]); (with_reducible show wpAny _ _ (call (Value.ref 210) [Value.ref _, Value.ref _]) _ _ _); k_dflt (refine' Mine.oneU ?Bw ?Fw ?Xw ?Nw ?Tw ?kw ?dw ?uw ?ow ?tw ?ew ?s0w ?s1w ?aw ?_; (case Bw => k_asm); (case Fw => k_asm); (case Xw => k_asm); (case Nw => k_asm); (case Tw => k_asm); (case kw => first | exact rfl | assumption); (case dw => ktr_room); (case uw => ktr_units); (case ow => k_updF); (case tw => k_mem); (case ew => k_ne); (case s0w => walk_at "m:size"); (case s1w => walk_at "m:size"); (case aw => assumption)); intro _ _ _ _ _ _ _ _ _ _ N9w; (try dsimp only at N9w))) | fail "no"
  k_with "call ref cons nil#" => first | (((try dsimp only [List.nil_append, List.cons_append]); (with_reducible show wpAny _ _ (call (Value.ref 210) [Value.ref _, Value.ref _]) _ _ _); k_dflt (refine' Mine.oneU ?Bw ?Fw ?Xw ?Nw ?Tw ?kw ?dw ?uw ?ow ?tw ?ew ?s0w ?s1w ?aw ?_; (case Bw => k_asm); (case Fw => k_asm); (case Xw => k_asm); (case Nw => k_asm); (case Tw => k_asm); (case kw => first | exact rfl | assumption); (case dw => ktr_room); (case uw => ktr_units); (case ow => k_updF); (case tw => k_mem); (case ew => k_ne); (case s0w => walk_at "m:size"); (case s1w => walk_at "m:size"); (case aw => assumption)); intro _ _ _ _ _ _ _ _ _ _ N9w; (try dsimp only at N9w))) | fail "no"
  k_with "m:for#" => first | ((k_here; (rename Fr _ _ _ _ => lF'); (with_unfolding_all refine' For_turns lF' ?_; k_whole))) | fail "no"
  k_with "exec For Name Name cons nil#" => first | (walk_at "m:for") | fail "no"
  k_with "exec For Tuple Call cons nil#" => first | (walk_at "m:for") | fail "no"
  k_with "call ref nil#" => first | (((try dsimp only [List.nil_append, List.cons_append]); (with_reducible show wpAny _ _ (call (Value.ref 103) [Value.ref _, Value.int _ _]) _ _ _); k_dflt (refine' Mine.of_spec ?Bw ?Fw ?Xw ?Nw ?Tw ?kw ?dw ?uw ?m1w ?m2w ?m3w ?zw ?j0w ?j1w ?_; (case Bw => k_asm); (case Fw => k_asm); (case Xw => k_asm); (case Nw => k_asm); (case Tw => k_asm); (case kw => first | exact rfl | assumption); (case dw => ktr_room); (case uw => ktr_units); (case m1w => k_mem); (case m2w => k_mem); (case m3w => k_mem); (case zw => assumption); (case j0w => assumption); (case j1w => assumption)); intro _ _ _ _)) | fail "no"
  k_with "call ref cons nil#" => first | (((try dsimp only [List.nil_append, List.cons_append]); (with_reducible show wpAny _ _ (call (Value.ref 103) [Value.ref _, Value.int _ _]) _ _ _); k_dflt (refine' Mine.of_spec ?Bw ?Fw ?Xw ?Nw ?Tw ?kw ?dw ?uw ?m1w ?m2w ?m3w ?zw ?j0w ?j1w ?_; (case Bw => k_asm); (case Fw => k_asm); (case Xw => k_asm); (case Nw => k_asm); (case Tw => k_asm); (case kw => first | exact rfl | assumption); (case dw => ktr_room); (case uw => ktr_units); (case m1w => k_mem); (case m2w => k_mem); (case m3w => k_mem); (case zw => assumption); (case j0w => assumption); (case j1w => assumption)); intro _ _ _ _)) | fail "no"
  k_with "call ref nil#" => first | (((try dsimp only [List.nil_append, List.cons_append]); (with_reducible show wpAny _ _ (call (Value.ref 103) [Value.ref _, Value.int _ _]) _ _ _); k_dflt (refine' Mine.of_spec2 ?Bw ?Fw ?Xw ?Nw ?Tw ?kw ?dw ?uw ?m1w ?m2w ?m3w ?zw ?j0w ?j1w ?_; (case Bw => k_asm); (case Fw => k_asm); (case Xw => k_asm); (case Nw => k_asm); (case Tw => k_asm); (case kw => first | exact rfl | assumption); (case dw => ktr_room); (case uw => ktr_units); (case m1w => k_mem); (case m2w => k_mem); (case m3w => k_mem); (case zw => assumption); (case j0w => assumption); (case j1w => first | assumption | (rename (@LT.lt Int _ _ _) => q9; simp only [List.size_toArray, List.length_map] at q9; omega))); intro _ _ _ _ _ _)) | fail "no"
  k_with "call ref cons nil#" => first | (((try dsimp only [List.nil_append, List.cons_append]); (with_reducible show wpAny _ _ (call (Value.ref 103) [Value.ref _, Value.int _ _]) _ _ _); k_dflt (refine' Mine.of_spec2 ?Bw ?Fw ?Xw ?Nw ?Tw ?kw ?dw ?uw ?m1w ?m2w ?m3w ?zw ?j0w ?j1w ?_; (case Bw => k_asm); (case Fw => k_asm); (case Xw => k_asm); (case Nw => k_asm); (case Tw => k_asm); (case kw => first | exact rfl | assumption); (case dw => ktr_room); (case uw => ktr_units); (case m1w => k_mem); (case m2w => k_mem); (case m3w => k_mem); (case zw => assumption); (case j0w => assumption); (case j1w => first | assumption | (rename (@LT.lt Int _ _ _) => q9; simp only [List.size_toArray, List.length_map] at q9; omega))); intro _ _ _ _ _ _)) | fail "no"
  k_with "call ref nil#" => first | (((try dsimp only [List.nil_append, List.cons_append]); (with_reducible show wpAny _ _ (call (Value.ref 103) [Value.ref _, Value.int _ _]) _ _ _); k_dflt (refine' Mine.of_spec ?Bw ?Fw ?Xw ?Nw ?Tw ?kw ?dw ?uw ?m1w ?m2w ?m3w ?zw ?j0w ?j1w ?_; (case Bw => k_asm); (case Fw => k_asm); (case Xw => k_asm); (case Nw => k_asm); (case Tw => k_asm); (case kw => first | exact rfl | assumption); (case dw => ktr_room); (case uw => ktr_units); (case m1w => k_mem); (case m2w => k_mem); (case m3w => k_mem); (case zw => assumption); (case j0w => assumption); (case j1w => assumption)); intro _ _ _ _)) | fail "no"
  k_with "call ref cons nil#" => first | (((try dsimp only [List.nil_append, List.cons_append]); (with_reducible show wpAny _ _ (call (Value.ref 103) [Value.ref _, Value.int _ _]) _ _ _); k_dflt (refine' Mine.of_spec ?Bw ?Fw ?Xw ?Nw ?Tw ?kw ?dw ?uw ?m1w ?m2w ?m3w ?zw ?j0w ?j1w ?_; (case Bw => k_asm); (case Fw => k_asm); (case Xw => k_asm); (case Nw => k_asm); (case Tw => k_asm); (case kw => first | exact rfl | assumption); (case dw => ktr_room); (case uw => ktr_units); (case m1w => k_mem); (case m2w => k_mem); (case m3w => k_mem); (case zw => assumption); (case j0w => assumption); (case j1w => assumption)); intro _ _ _ _)) | fail "no"
  k_with "call ref nil#" => first | (((try dsimp only [List.nil_append, List.cons_append]); (with_reducible show wpAny _ _ (call (Value.ref 115) [Value.ref _, _]) _ _ _); refine Mine.Hold.out ?_)) | fail "no"
  k_with "call ref cons nil#" => first | (((try dsimp only [List.nil_append, List.cons_append]); (with_reducible show wpAny _ _ (call (Value.ref 115) [Value.ref _, _]) _ _ _); refine Mine.Hold.out ?_)) | fail "no"
  k_with "call ref nil#" => first | (((try dsimp only [List.nil_append, List.cons_append]); (with_reducible show wpAny _ _ (call (Value.ref 123) [Value.ref _, Value.int _ _, _]) _ _ _); refine Mine.Hold.out ?_)) | fail "no"
  k_with "call ref cons nil#" => first | (((try dsimp only [List.nil_append, List.cons_append]); (with_reducible show wpAny _ _ (call (Value.ref 123) [Value.ref _, Value.int _ _, _]) _ _ _); refine Mine.Hold.out ?_)) | fail "no"
  k_with "exec If#" => first | (refine Mine.hold_if 8 (by assumption) ?_) | fail "no"
  k_with "call ref nil#" => first | (((try dsimp only [List.nil_append, List.cons_append]); (with_reducible show wpAny _ _ (call (Value.ref 108) [Value.ref _]) _ _ _); k_dflt (refine' Mine.ready_spec ?Bw ?Fw ?Xw ?Nw ?Tw ?kw ?dw ?uw ?vw ?lw ?_; (case Bw => k_asm); (case Fw => k_asm); (case Xw => k_asm); (case Nw => k_asm); (case Tw => k_asm); (case kw => first | exact rfl | assumption); (case dw => ktr_room); (case uw => ktr_units); (case vw => walk_at "m:sees"); (case lw => assumption); k_whole); intro _ _ _ _ _ _)) | fail "no"
  k_with "call ref cons nil#" => first | (((try dsimp only [List.nil_append, List.cons_append]); (with_reducible show wpAny _ _ (call (Value.ref 108) [Value.ref _]) _ _ _); k_dflt (refine' Mine.ready_spec ?Bw ?Fw ?Xw ?Nw ?Tw ?kw ?dw ?uw ?vw ?lw ?_; (case Bw => k_asm); (case Fw => k_asm); (case Xw => k_asm); (case Nw => k_asm); (case Tw => k_asm); (case kw => first | exact rfl | assumption); (case dw => ktr_room); (case uw => ktr_units); (case vw => walk_at "m:sees"); (case lw => assumption); k_whole); intro _ _ _ _ _ _)) | fail "no"
  k_with "call ref nil#" => first | (((try dsimp only [List.nil_append, List.cons_append]); (with_reducible show wpAny _ _ (call (Value.ref 149) [Value.ref _]) _ _ _); k_dflt (refine' Mine.dead_spec ?Bw ?Fw ?Xw ?Nw ?Tw ?kw ?dw ?uw ?vw ?lw ?_; (case Bw => k_asm); (case Fw => k_asm); (case Xw => k_asm); (case Nw => k_asm); (case Tw => k_asm); (case kw => first | exact rfl | assumption); (case dw => ktr_room); (case uw => ktr_units); (case vw => walk_at "m:sees"); (case lw => assumption); k_whole); intro _ _ _ _)) | fail "no"
  k_with "call ref cons nil#" => first | (((try dsimp only [List.nil_append, List.cons_append]); (with_reducible show wpAny _ _ (call (Value.ref 149) [Value.ref _]) _ _ _); k_dflt (refine' Mine.dead_spec ?Bw ?Fw ?Xw ?Nw ?Tw ?kw ?dw ?uw ?vw ?lw ?_; (case Bw => k_asm); (case Fw => k_asm); (case Xw => k_asm); (case Nw => k_asm); (case Tw => k_asm); (case kw => first | exact rfl | assumption); (case dw => ktr_room); (case uw => ktr_units); (case vw => walk_at "m:sees"); (case lw => assumption); k_whole); intro _ _ _ _)) | fail "no"
  k_with "call ref nil#" => first | (((try dsimp only [List.nil_append, List.cons_append]); (with_reducible show wpAny _ _ (call (Value.ref 154) [Value.ref _]) _ _ _); k_dflt (refine' Mine.wait_spec ?Bw ?Fw ?Xw ?Nw ?Tw ?kw ?dw ?uw ?vw ?lw ?hhw ?_; (case Bw => k_asm); (case Fw => k_asm); (case Xw => k_asm); (case Nw => k_asm); (case Tw => k_asm); (case kw => first | exact rfl | assumption); (case dw => ktr_room); (case uw => ktr_units); (case vw => walk_at "m:sees"); (case lw => assumption); (case hhw => assumption); k_whole); intro _ _ _ _ _ _ _ _)) | fail "no"
  k_with "call ref cons nil#" => first | (((try dsimp only [List.nil_append, List.cons_append]); (with_reducible show wpAny _ _ (call (Value.ref 154) [Value.ref _]) _ _ _); k_dflt (refine' Mine.wait_spec ?Bw ?Fw ?Xw ?Nw ?Tw ?kw ?dw ?uw ?vw ?lw ?hhw ?_; (case Bw => k_asm); (case Fw => k_asm); (case Xw => k_asm); (case Nw => k_asm); (case Tw => k_asm); (case kw => first | exact rfl | assumption); (case dw => ktr_room); (case uw => ktr_units); (case vw => walk_at "m:sees"); (case lw => assumption); (case hhw => assumption); k_whole); intro _ _ _ _ _ _ _ _)) | fail "no"
  k_with "exec Assign cons ListComp#" => first | ((k_here; (with_reducible show wpAny _ _ (exec (Stmt.Assign [Expr.Name _ _] (Expr.ListComp _ [⟨Expr.Name _ _, _, [], _⟩] _ _) _) _) _ _ _); k_dflt (refine LCg.Assign_ListComp_U (F₀ := by k_asm) (by rfl) (by with_unfolding_all rfl) (by with_unfolding_all rfl) (by decide) (by rfl) (by decide) (by rfl) (by rfl) (by rfl) ?_))) | fail "no"
  k_with "exec Assign cons ListComp#" => first | ((k_here; (with_reducible show wpAny _ _ (exec (Stmt.Assign [Expr.Name _ _] (Expr.ListComp _ [⟨Expr.Tuple _ _ _, _, [_], _⟩] _ _) _) _) _ _ _); k_dflt (refine Mine.enum_Assign (F₀ := by k_asm) (by rfl) (by with_unfolding_all rfl) (by with_unfolding_all rfl) (by decide) (by rfl) (by decide) (by rfl) (by rfl) (by decide) (by rfl) (by rfl) ?_))) | fail "no"
  k_with "m:enterC#" => first | ((refine' code_defC ?k1w ?k2w ?k3w ?k4w ?k5w ?kAw ?kFw ?kKw ?k6w ?k7w ?k8w ?k9w ?kBw ?kDw ?_ ?c2w ?c3w ?c4w; (case kAw => exact rfl); (case kFw => exact rfl); (case kKw => first | exact rfl | assumption); (case k1w => k_asm); (case k2w => k_asm); (case k3w => k_asm); (case k4w => k_asm); (case k5w => k_asm); (case k6w => k_is); (case k7w => k_is); (case k8w => ktr_room); (case k9w => exact BindsTo.of_eq rfl); (case kBw => exact rfl); (case kDw => decide +kernel); (case c2w => exact rfl); (case c3w => exact rfl); (case c4w => exact rfl); k_whole; intro _ _ _ _ _ _ _ N'w Y'w B'w _ _ l1w; (try k_lt l1w); k_cells Y'w; (try simp only [List.cons_append, List.nil_append] at N'w); (try dsimp only); (try k_lift B'w); (try k_fold))) | fail "no"
  k_with "m:lt9#" => first | (first | assumption | exact True.intro | (refine And.intro (by (try dsimp only); omega) ?_; walk_at "m:lt9") | exact Mine.allLt_le (Nat.le_succ _) (by assumption) | (refine Mine.allLt_le (Nat.le_of_lt ?_) ?_; rotate_left; assumption; omega)) | fail "no"
  k_with "m:dcons#" => first | (first | assumption | (refine Mine.Dis.cons ?h9w ?k9w; (case k9w => ((try dsimp only); walk_at "m:lt9")); (case h9w => walk_at "m:dcons"))) | fail "no"
  k_with "m:sees#" => first | (exact Mine.sees_of (by k_mem) (by k_mem) (by k_mem) (by walk_at "m:tail")) | fail "no"
  k_with "m:rows#" => first | (exact Mine.rows_of (by k_mem) (by walk_at "m:tail")) | fail "no"
  k_with "m:facts#" => first | ((simp only [Mine.Dis, List.map_cons, List.nodup_cons, List.mem_cons, not_or] at *; walk_at "m:split")) | fail "no"
  k_with "call ref nil#" => first | (((try dsimp only [List.nil_append, List.cons_append]); (with_reducible show wpAny _ _ (call (Value.ref 52) [Value.str _ _, Value.str _ _]) _ _ _); k_dflt (refine' Mine.fault_spec ?Bw ?Fw ?Xw ?Nw ?Tw ?kw ?dw ?uw ?_; (case Bw => k_asm); (case Fw => k_asm); (case Xw => k_asm); (case Nw => k_asm); (case Tw => k_asm); (case kw => first | exact rfl | assumption); (case dw => ktr_room); (case uw => ktr_units)); intro _ _ _ _ _ _ _ _ _ _ _ _ _ _)) | fail "no"
  k_with "call ref cons nil#" => first | (((try dsimp only [List.nil_append, List.cons_append]); (with_reducible show wpAny _ _ (call (Value.ref 52) [Value.str _ _, Value.str _ _]) _ _ _); k_dflt (refine' Mine.fault_spec ?Bw ?Fw ?Xw ?Nw ?Tw ?kw ?dw ?uw ?_; (case Bw => k_asm); (case Fw => k_asm); (case Xw => k_asm); (case Nw => k_asm); (case Tw => k_asm); (case kw => first | exact rfl | assumption); (case dw => ktr_room); (case uw => ktr_units)); intro _ _ _ _ _ _ _ _ _ _ _ _ _ _)) | fail "no"
  k_with "exec Raise some none#" => first | ((k_here; (with_reducible show wpAny _ _ (exec (Stmt.Raise (some (Expr.Call (Expr.Name _ _) (_ :: _) [] _)) none _) _) _ _ _); k_dflt (refine' Mine.Raise_O (C := 52) ?X9w ?q9w ?h9w ?_; (case X9w => k_asm); (case q9w => kernel_rfl); (case h9w => exact rfl)))) | fail "no"
  k_with "RaisableO ref#" => first | ((rename News _ _ _ _ => N9; refine ⟨_, some _, _, rfl, (N9 _ List.mem_cons_self).1, (by k_in), ?_⟩; (try dsimp only))) | fail "no"
  k_with "m:leaveF#" => first | ((rename News _ _ _ _ => N9; (refine' Mine.leaveD_first ?K9w ?F9w ?hf9w ?hk9w N9 (Mine.off_two (by assumption) (by assumption) (by assumption)) ?_; (case K9w => k_asm); (case F9w => k_asm); (case hf9w => exact rfl); (case hk9w => exact rfl)); intro _ _ _)) | fail "no"
  k_with "call ref nil#" => first | (((try dsimp only [List.nil_append, List.cons_append]); (with_reducible show wpAny _ _ (call (Value.ref 103) [Value.ref _, Value.int _ _]) _ _ _); k_dflt (refine' Mine.of_fault ?Bw ?Fw ?Xw ?Nw ?Tw ?kw ?dw ?uw ?m1w ?m2w ?m3w ?zw ?j0w ?j1w ?j2w ?_; (case Bw => k_asm); (case Fw => k_asm); (case Xw => k_asm); (case Nw => k_asm); (case Tw => k_asm); (case kw => first | exact rfl | assumption); (case dw => ktr_room); (case uw => ktr_units); (case m1w => k_mem); (case m2w => k_mem); (case m3w => k_mem); (case zw => assumption); (case j0w => assumption); (case j1w => assumption); (case j2w => assumption)); intro _ _ _ _ _ _ _ _ _ _ _ _ _ _ _ _)) | fail "no"
  k_with "call ref cons nil#" => first | (((try dsimp only [List.nil_append, List.cons_append]); (with_reducible show wpAny _ _ (call (Value.ref 103) [Value.ref _, Value.int _ _]) _ _ _); k_dflt (refine' Mine.of_fault ?Bw ?Fw ?Xw ?Nw ?Tw ?kw ?dw ?uw ?m1w ?m2w ?m3w ?zw ?j0w ?j1w ?j2w ?_; (case Bw => k_asm); (case Fw => k_asm); (case Xw => k_asm); (case Nw => k_asm); (case Tw => k_asm); (case kw => first | exact rfl | assumption); (case dw => ktr_room); (case uw => ktr_units); (case m1w => k_mem); (case m2w => k_mem); (case m3w => k_mem); (case zw => assumption); (case j0w => assumption); (case j1w => assumption); (case j2w => assumption)); intro _ _ _ _ _ _ _ _ _ _ _ _ _ _ _ _)) | fail "no"
  k_with "call ref nil#" => first | (((try dsimp only [List.nil_append, List.cons_append]); (with_reducible show wpAny _ _ (call (Value.ref 103) [Value.ref _, Value.int _ _]) _ _ _); k_dflt (refine' Mine.of_spec ?Bw ?Fw ?Xw ?Nw ?Tw ?kw ?dw ?uw ?m1w ?m2w ?m3w ?zw ?j0w ?j1w ?_; (case Bw => k_asm); (case Fw => k_asm); (case Xw => k_asm); (case Nw => k_asm); (case Tw => k_asm); (case kw => first | exact rfl | assumption); (case dw => ktr_room); (case uw => ktr_units); (case m1w => k_mem); (case m2w => k_mem); (case m3w => k_mem); (case zw => assumption); (case j0w => assumption); (case j1w => assumption)); intro _ _ _ _)) | fail "no"
  k_with "call ref cons nil#" => first | (((try dsimp only [List.nil_append, List.cons_append]); (with_reducible show wpAny _ _ (call (Value.ref 103) [Value.ref _, Value.int _ _]) _ _ _); k_dflt (refine' Mine.of_spec ?Bw ?Fw ?Xw ?Nw ?Tw ?kw ?dw ?uw ?m1w ?m2w ?m3w ?zw ?j0w ?j1w ?_; (case Bw => k_asm); (case Fw => k_asm); (case Xw => k_asm); (case Nw => k_asm); (case Tw => k_asm); (case kw => first | exact rfl | assumption); (case dw => ktr_room); (case uw => ktr_units); (case m1w => k_mem); (case m2w => k_mem); (case m3w => k_mem); (case zw => assumption); (case j0w => assumption); (case j1w => assumption)); intro _ _ _ _)) | fail "no"
  k_with "m:leaveO#" => first | (((refine' Mine.leaveD_on ?K9w ?F9w ?hf9w ?R9w ?U9w ?_; (case R9w => with_unfolding_all assumption); (case F9w => k_asm); (case K9w => k_asm); (case hf9w => exact rfl); (case U9w => assumption)); intro _ _ _)) | fail "no"
  k_with "call ref nil#" => first | (((try dsimp only [List.nil_append, List.cons_append]); (with_reducible show wpAny _ _ (call (Value.ref 123) [Value.ref _, Value.int _ _, _]) _ _ _); refine Mine.Hold.out ?_)) | fail "no"
  k_with "call ref cons nil#" => first | (((try dsimp only [List.nil_append, List.cons_append]); (with_reducible show wpAny _ _ (call (Value.ref 123) [Value.ref _, Value.int _ _, _]) _ _ _); refine Mine.Hold.out ?_)) | fail "no"
  k_with "call ref nil#" => first | (((try dsimp only [List.nil_append, List.cons_append]); (with_reducible show wpAny _ _ (call (Value.ref 236) [Value.ref _]) _ _ _); refine Mine.Hold.out ?_)) | fail "no"
  k_with "call ref cons nil#" => first | (((try dsimp only [List.nil_append, List.cons_append]); (with_reducible show wpAny _ _ (call (Value.ref 236) [Value.ref _]) _ _ _); refine Mine.Hold.out ?_)) | fail "no"
  k_with "call ref nil#" => first | (((try dsimp only [List.nil_append, List.cons_append]); (with_reducible show wpAny _ _ (call (Value.ref 229) [Value.ref _, Value.ref _]) _ _ _); refine Mine.Hold.out ?_)) | fail "no"
  k_with "call ref cons nil#" => first | (((try dsimp only [List.nil_append, List.cons_append]); (with_reducible show wpAny _ _ (call (Value.ref 229) [Value.ref _, Value.ref _]) _ _ _); refine Mine.Hold.out ?_)) | fail "no"
  k_with "eval Lambda#" => first | (refine Mine.Hold.out ?_) | fail "no"
  k_with "eval BoolOp And#" => first | (refine Mine.hold_if 1 (by assumption) ?_) | fail "no"
  k_with "call ref nil#" => first | (((try dsimp only [List.nil_append, List.cons_append]); (with_reducible show wpAny _ _ (call (Value.ref 123) [Value.ref _, Value.int _ _, _]) _ _ _); refine Mine.Hold.out ?_)) | fail "no"
  k_with "call ref cons nil#" => first | (((try dsimp only [List.nil_append, List.cons_append]); (with_reducible show wpAny _ _ (call (Value.ref 123) [Value.ref _, Value.int _ _, _]) _ _ _); refine Mine.Hold.out ?_)) | fail "no"
  k_with "call ref nil#" => first | (((try dsimp only [List.nil_append, List.cons_append]); (with_reducible show wpAny _ _ (call (Value.ref 236) [Value.ref _]) _ _ _); refine Mine.Hold.out ?_)) | fail "no"
  k_with "call ref cons nil#" => first | (((try dsimp only [List.nil_append, List.cons_append]); (with_reducible show wpAny _ _ (call (Value.ref 236) [Value.ref _]) _ _ _); refine Mine.Hold.out ?_)) | fail "no"
  k_with "call ref nil#" => first | (((try dsimp only [List.nil_append, List.cons_append]); (with_reducible show wpAny _ _ (call (Value.ref 229) [Value.ref _, Value.ref _]) _ _ _); refine Mine.Hold.out ?_)) | fail "no"
  k_with "call ref cons nil#" => first | (((try dsimp only [List.nil_append, List.cons_append]); (with_reducible show wpAny _ _ (call (Value.ref 229) [Value.ref _, Value.ref _]) _ _ _); refine Mine.Hold.out ?_)) | fail "no"
  k_with "eval Lambda#" => first | (refine Mine.Hold.out ?_) | fail "no"
  trivial

theorem Mine.word59 : True := by
  k_with "call ref nil#" => first | (((try dsimp only [List.nil_append, List.cons_append]); (with_reducible show wpAny _ _ (call (Value.ref 103) [Value.ref _, Value.int _ _]) _ _ _); k_dflt (refine' Mine.of_spec ?Bw ?Fw ?Xw ?Nw ?Tw ?kw ?dw ?uw ?m1w ?m2w ?m3w ?zw ?j0w ?j1w ?_; (case Bw => k_asm); (case Fw => k_asm); (case Xw => k_asm); (case Nw => k_asm); (case Tw => k_asm); (case kw => first | exact rfl | assumption); (case dw => ktr_room); (case uw => ktr_units); (case m1w => k_mem); (case m2w => k_mem); (case m3w => k_mem); (case zw => assumption); (case j0w => assumption); (case j1w => assumption)); intro _ _ _ _)) | fail "no"
  k_with "call ref cons nil#" => first | (((try dsimp only [List.nil_append, List.cons_append]); (with_reducible show wpAny _ _ (call (Value.ref 103) [Value.ref _, Value.int _ _]) _ _ _); k_dflt (refine' Mine.of_spec ?Bw ?Fw ?Xw ?Nw ?Tw ?kw ?dw ?uw ?m1w ?m2w ?m3w ?zw ?j0w ?j1w ?_; (case Bw => k_asm); (case Fw => k_asm); (case Xw => k_asm); (case Nw => k_asm); (case Tw => k_asm); (case kw => first | exact rfl | assumption); (case dw => ktr_room); (case uw => ktr_units); (case m1w => k_mem); (case m2w => k_mem); (case m3w => k_mem); (case zw => assumption); (case j0w => assumption); (case j1w => assumption)); intro _ _ _ _)) | fail "no"
  trivial

theorem Mine.word60 : True := by
  k_with "call ref nil#" => first | (((try dsimp only [List.nil_append, List.cons_append]); (with_reducible show wpAny _ _ (call (Value.ref 115) [Value.ref _, Value.str _ _]) _ _ _); refine Mine.Hold.out ?_)) | fail "no"
  k_with "call ref cons nil#" => first | (((try dsimp only [List.nil_append, List.cons_append]); (with_reducible show wpAny _ _ (call (Value.ref 115) [Value.ref _, Value.str _ _]) _ _ _); refine Mine.Hold.out ?_)) | fail "no"
  trivial

theorem Mine.word61 : True := by
  k_with "call ref nil#" => first | (((try dsimp only [List.nil_append, List.cons_append]); (with_reducible show wpAny _ _ (call (Value.ref 236) [Value.ref _]) _ _ _); refine Mine.Hold.out ?_)) | fail "no"
  k_with "call ref cons nil#" => first | (((try dsimp only [List.nil_append, List.cons_append]); (with_reducible show wpAny _ _ (call (Value.ref 236) [Value.ref _]) _ _ _); refine Mine.Hold.out ?_)) | fail "no"
  trivial

theorem Mine.word62 : True := by
  k_with "call ref nil#" => first | (((try dsimp only [List.nil_append, List.cons_append]); (with_reducible show wpAny _ _ (call (Value.ref 229) [Value.ref _, Value.ref _]) _ _ _); refine Mine.Hold.out ?_)) | fail "no"
  k_with "call ref cons nil#" => first | (((try dsimp only [List.nil_append, List.cons_append]); (with_reducible show wpAny _ _ (call (Value.ref 229) [Value.ref _, Value.ref _]) _ _ _); refine Mine.Hold.out ?_)) | fail "no"
  trivial

theorem Mine.word63 : True := by
  k_with "eval Lambda#" => first | (refine Mine.Hold.out ?_) | fail "no"
  k_with "exec For Tuple Call cons nil#" => first | ((k_here; (with_unfolding_all refine' Mine.For_G ?_ ?_; k_whole))) | fail "no"
  k_with "call type:enumerate#" => first | (refine Mine.Hold.out ?_) | fail "no"
  k_with "isTrue BoolOp And#" => first | (refine Mine.hold_if 2 (by assumption) ?_) | fail "no"
  trivial
namespace Mine
theorem EndG.next {L : Addr} {s : Shared} {I : Addr} {oe oi : Obj} {J : Heap → (Str → Option Value) → List (Addr × Obj) → Prop} {Q : Flow → Shared → Prop} {g' h' : Heap} {m' : Str → Option Value} {news' : List (Addr × Obj)} {tk' : Nat}
    (F : Fr g' L h' m') (N : News g' L h' ((I + 1, oe) :: (I, oi) :: news')) (D : Dis ((I + 1, o0) :: (I, o0) :: news')) (hJ : J g' m' news') : EndG L s [(I + 1, oe), (I, oi)] J Q .next { s with heap := h', toks := tk' } :=
  ⟨g', h', tk', m', news', rfl, F, N, fun p hp q hq => by
    simp only [List.mem_cons, List.not_mem_nil, or_false] at hq
    rcases hq with rfl | rfl
    · exact D.off p (List.mem_cons_of_mem _ hp)
    · exact (Dis.off (List.nodup_cons.mp D).2) p hp, hJ⟩
theorem map_of {xs : List Str} {m m₀ : Str → Option Value} (h : ∀ z, xs.contains z = false → m z = m₀ z) : m = fun z => if xs.contains z then m z else m₀ z := by
  funext z
  cases e : xs.contains z with
  | true => rfl
  | false => exact h z e
theorem dis1 {L' : Addr} {o : Obj} {l : List (Addr × Obj)} (D : Dis l) (h : ∀ q ∈ l, q.1 < L') : Dis ((L' + 1, o) :: l) := D.cons (allLt_of fun q hq => Nat.lt_succ_of_lt (h q hq))
/-- between the turns of a loop over the rows -/
def RowJ (fs : List Addr) (A₁ : Around) (base : Heap) (fr : List Env) (K : Frag) (pg : Program) (ls : List Str) (mean : ExcName → Option Value) (mg mb : Str → Option Value) (g₀ : Heap) (m₀ : Str → Option Value) (xs : List Str)
    (St : Nat → List (Addr × Obj) → Prop) (I : Addr) (i : Nat) (g : Heap) (m : Str → Option Value) (nw : List (Addr × Obj)) : Prop :=
  (∀ z, xs.contains z = false → m z = m₀ z) ∧ KtsTurn fs g₀ g ∧ Below A₁ base fr g ∧ K.In g ∧ Top pg ls mean mg mb g ∧ KtsDicts fs g ∧ Dis ((I + 1, o0) :: (I, o0) :: nw) ∧ St i nw
theorem enumRow {prog : Program} {w : World} {A : Around} {E : Value → Shared → Prop} {s : Shared} {env : Env} {body : List Stmt} {Q : Flow → Shared → Prop} {elts : List PySem.Expr} {k : Nat} {pos : Pos} {l : Addr} {vs : List Value} {n : Nat} {g₀ : Heap} {m₀ : Str → Option Value} {news : List (Addr × Obj)}
    {fs : List Addr} {A₁ : Around} {base : Heap} {fr : List Env} {K : Frag} {pg : Program} {ls : List Str} {mean : ExcName → Option Value} {mg mb : Str → Option Value} (xs : List Str) (St : Nat → List (Addr × Obj) → Prop)
    (hh : A.handled = none) (F : Fr g₀ env.locals s.heap m₀) (N : News g₀ env.locals s.heap news) (hm : (l, listOf vs.toArray n) ∈ news) (B : Below A₁ base fr g₀) (X : K.In g₀) (T : Top pg ls mean mg mb g₀) (KD : KtsDicts fs g₀) (D : Dis news)
    (h0 : St 0 news) (hst : ∀ i nw, St i nw → (l, listOf vs.toArray n) ∈ nw)
    (step : ∀ I i v g (u : Str → Option Value) nw h₁ tk₁ T t oe oi, vs[i]? = some v → KtsTurn fs g₀ g → Below A₁ base fr g → K.In g → Top pg ls mean mg mb g → KtsDicts fs g → Dis ((I + 1, o0) :: (I, o0) :: nw) → St i nw → Fr g env.locals h₁ (fun z => if xs.contains z then u z else m₀ z) → News g env.locals h₁ ((I + 1, oe) :: (I, oi) :: nw) → IsTup h₁ T #[.int (i : Int) t, v] → ∀ Q' : Flow → Shared → Prop,
      (∀ s₃, EndG env.locals { s with heap := h₁, toks := tk₁ } [(I + 1, oe), (I, oi)] (RowJ fs A₁ base fr K pg ls mean mg mb g₀ m₀ xs St I (i + 1)) Q .next s₃ → Q' .next s₃) →
      wpAny (model prog w) A (assign (.Tuple elts k pos) env (.ref T)) (fun _ s₂ => wpAny (model prog w) A (execs body env) Q' E s₂) E { s with heap := h₁, toks := tk₁ })
    (done : ∀ g h' tk (u : Str → Option Value) nw, KtsTurn fs g₀ g → Below A₁ base fr g → K.In g → Top pg ls mean mg mb g → KtsDicts fs g → Dis nw → St vs.length nw → Fr g env.locals h' (fun z => if xs.contains z then u z else m₀ z) → News g env.locals h' nw → Q .next { s with heap := h', toks := tk })
    (hE : PassesOwn (model prog w) A env E := by passes_own) :
    wpAny (model prog w) A (call (.type "enumerate") [.ref l]) (fun xv s₁ => wpAny (model prog w) A (pyIter xv) (fun it s₂ => TurnsG prog w A env (.Tuple elts k pos) body Q E it s₂) E s₁) E s :=
  enumG hh F N hm (RowJ fs A₁ base fr K pg ls mean mg mb g₀ m₀ xs St)
    (fun I hI => ⟨fun z _ => rfl, .refl, B, X, T, KD, (D.cons (p := (I, o0)) (allLt_of hI)).cons (p := (I + 1, o0)) ⟨Nat.lt_succ_self _, allLt_le (Nat.le_succ _) (allLt_of hI)⟩, h0⟩)
    (fun I i g m nw ⟨_, T, _, _, _, _, _, h⟩ => ⟨T.size.symm, hst i nw h⟩)
    (fun I i v g m₁ nw h₁ tk₁ T t oe oi hv ⟨hm1, KT, B9, X9, T9, K9, DI, hs⟩ _ F9 N9 _ hT => step I i v g m₁ nw h₁ tk₁ T t oe oi hv KT B9 X9 T9 K9 DI hs (map_of hm1 ▸ F9) N9 hT _ fun _ h => h)
    (fun I g h' tk m' nw ⟨hm1, KT, B9, X9, T9, K9, DI, hs⟩ _ F9 N9 => done g h' tk m' nw KT B9 X9 T9 K9 (List.nodup_cons.mp (List.nodup_cons.mp DI).2).2 hs (map_of hm1 ▸ F9) N9) hE
theorem perm9 {p1 p2 p3 p4 p5 p6 p7 p8 p9 : Addr × Obj} {tl R : List (Addr × Obj)} : (p1 :: p2 :: p3 :: p4 :: p5 :: p6 :: p7 :: p8 :: p9 :: (tl ++ R)).Perm (tl ++ (p1 :: p2 :: p3 :: p4 :: p5 :: p6 :: p7 :: p8 :: p9 :: R)) := List.perm_append_comm_assoc [p1, p2, p3, p4, p5, p6, p7, p8, p9] tl R
theorem dis9 {p1 p2 p3 p4 p5 p6 p7 p8 p9 : Addr × Obj} {tl R : List (Addr × Obj)} (D : Dis (p1 :: p2 :: p3 :: p4 :: p5 :: p6 :: p7 :: p8 :: p9 :: (tl ++ R))) : Dis (tl ++ (p1 :: p2 :: p3 :: p4 :: p5 :: p6 :: p7 :: p8 :: p9 :: R)) := D.perm perm9
theorem cellOpen {h₀ h : Heap} {L : Addr} {p : Addr × Obj} {tl X Y : List (Addr × Obj)} (N : News h₀ L h (p :: (tl ++ (X ++ Y)))) (D : Dis (p :: (tl ++ (X ++ Y)))) : News h₀ L h (p :: (X ++ (tl ++ Y))) ∧ Dis (p :: (X ++ (tl ++ Y))) :=
  ⟨news_perm N (List.Perm.cons _ (List.perm_append_comm_assoc tl X Y)), D.perm (List.Perm.cons _ (List.perm_append_comm_assoc tl X Y))⟩
abbrev posB : Pos := ⟨165, 43, 165, 71⟩
abbrev qualB : Str := Str.ofString "_law_blocks_right.<locals>.<lambda>"
theorem blocks_spec {pg : Program} {ls : List Str} {w : World} {mean : ExcName → Option Value} {mg mb : Str → Option Value} {A₀ : Around} {dp un : Nat} {gd : Option (List Code)} {base h₀ : Heap} {outer : List Env} {L : Addr} {m : Str → Option Value} {cn : Str} {cs : Scope} {ca : Addr} {ccd : Value} {cl : List (Str × Addr)} {s : Shared} {Q E : Value → Shared → Prop} {S Sd all C Cd Rl : Addr} {an rn : Nat} {k1 k2 k3 j1 j2 tt : Tok} {hx0 : Addr} {dig : Value} {taken : Int} {cs' : List Cell} {tl R : List (Addr × Obj)} (C256 : CodeHd base 256 252)
    (B : Below A₀ base outer h₀) (F : Fr h₀ L s.heap m) (X : Frag.In (hd.heap_39 w.params) h₀) (N : News h₀ L s.heap (tl ++ (core w S Sd all C Cd Rl an rn k1 k2 k3 j1 j2 tt (.ref hx0) dig taken cs' ++ (cells w cs' ++ R)))) (T : Top pg ls mean mg mb h₀) (hk : cs.kind = .function) (hdp : dp + 150 < recursionLimit) (hun : un + 40 * 150 < cLine)
    (XB : Frag.In (hd.heap_39 w.params) base) (TB : Top pg ls mean mg mb base) (KD : KtsDicts (outer.filterMap (·.frame)) h₀)
    (st : StOk cs') (D : Dis (tl ++ (core w S Sd all C Cd Rl an rn k1 k2 k3 j1 j2 tt (.ref hx0) dig taken cs' ++ (cells w cs' ++ R)))) (TA : Tabd posB qualB 252 tl)
    (hQ : ∀ g hx tl' h' tk', Tabd posB qualB 252 tl' → Dis (tl' ++ (core w S Sd all C Cd Rl an rn k1 k2 k3 j1 j2 tt (.ref hx) dig taken cs' ++ (cells w cs' ++ R))) → KtsTurn (outer.filterMap (·.frame)) h₀ g → Fr g L h' m →
      News g L h' (tl' ++ (core w S Sd all C Cd Rl an rn k1 k2 k3 j1 j2 tt (.ref hx) dig taken cs' ++ (cells w cs' ++ R))) → Below A₀ base outer g → Frag.In (hd.heap_39 w.params) g → Top pg ls mean mg mb g → KtsDicts (outer.filterMap (·.frame)) g → Q (.bool true) { s with heap := h', toks := tk' }) :
    wpAny (model PySem.Challenge.rw_pf0070_01.row.prog w) (ktrTop dp un gd cn cs L ca ccd cl outer) (call (.ref 257) [.ref S, .ref Rl]) Q E s := by
  w_top off
  have hlen := st.len5
  refine wpAny_call ?_
  k_dflt (refine' enterSC ?k1 ?k2 ?k3 ?k4 ?k5 ?XB ?TB ?KD ?kA ?kF ?kK ?k6 ?k7 ?k8 ?k9 ?kB ?kD ?_ ?c2 ?c3 ?c4; (case XB => assumption); (case TB => assumption); (case KD => assumption); (case kA => exact rfl); (case kF => exact rfl); (case kK => first | exact rfl | assumption); (case k1 => k_asm); (case k2 => k_asm); (case k3 => k_asm); (case k4 => k_asm); (case k5 => k_asm); (case k6 => k_is); (case k7 => k_is); (case k8 => ktr_room); (case k9 => exact BindsTo.of_eq rfl); (case kB => exact rfl); (case kD => decide +kernel); (case c2 => exact rfl); (case c3 => exact rfl); (case c4 => exact rfl); k_whole; intro g' L' h' tk' cells' FG' F' N' Y' B' X' T' D' l1; (try k_lt l1); k_cells Y'; (try simp only [List.cons_append, List.nil_append] at N'); (try dsimp only); (try k_lift B'); (try k_fold))
  (rename Fr _ _ _ _ => F0h); obtain ⟨m0h, F1h⟩ := Mine.fr_hide1 (x1 := Str.ofString "rows") (v1 := .ref Rl) F0h rfl; clear F0h
  k_steps
  dsimp only [Hold]
  rename News _ _ _ (_ :: (_ ++ _)) => N9
  rename Obj => oc
  obtain ⟨N5, D5⟩ := cellOpen N9 (dis1 D (by assumption))
  clear N9
  k_dflt refine' enumRow (l := Rl) (vs := cs'.map fun c => Value.ref c.ra) (n := rn) [Str.ofString "number", Str.ofString "row"] (fun _ nw => ∃ hx tl', Tabd posB qualB 252 tl' ∧ nw = (L' + 1, oc) :: (core w S Sd all C Cd Rl an rn k1 k2 k3 j1 j2 tt (.ref hx) dig taken cs' ++ (tl' ++ (cells w cs' ++ R))))
    ?hh ?F N5 ?hm ?B ?X ?T ?K D5 ⟨hx0, tl, TA, rfl⟩ (fun i nw ⟨_, _, _, e⟩ => by rw [e]; simp) ?step ?done ?pe; (case hh => exact rfl); (case F => k_asm); (case hm => simp); (case B => k_asm); (case X => k_asm); (case T => k_asm); (case K => k_asm); (case pe => passes_own)
  case step =>
    rintro I i v g u nw h₁ tk₁ T9 t9 oe oi hv KT B9 X9 TT9 K9 DI ⟨hx, tl', TA', rfl⟩ F9 N9 hT9 Q' fin'
    obtain ⟨c, hc, hcm, rfl⟩ := get_map (by simpa using hv)
    clear hQ N5 D5 D TA hv
    have hci := st.idx i c hc
    have hrow : (c.ra, rowObj c) ∈ tl' ++ (cells w cs' ++ R) := List.mem_append_right _ (List.mem_append_left _ (cells_get c hcm).1)
    have hcg : (c.g, instObj 71 c.d) ∈ tl' ++ (cells w cs' ++ R) := List.mem_append_right _ (List.mem_append_left _ (cells_get c hcm).2.1)
    have hcd : (c.d, gdict w c) ∈ tl' ++ (cells w cs' ++ R) := List.mem_append_right _ (List.mem_append_left _ (cells_get c hcm).2.2.1)
    have hcf : (c.f, c.fo) ∈ tl' ++ (cells w cs' ++ R) := List.mem_append_right _ (List.mem_append_left _ (cells_get c hcm).2.2.2)
    have hj0 : (0 : Int) ≤ (i : Int) := by omega
    have hj1 : (cs'.map fun c => Value.ref c.g).toArray.toList[(i : Int).toNat]? = some (.ref c.g) := by simp [hc]
    have hz9 : (cs'.map fun c => Value.ref c.g).toArray.size < 1000 := by simp; omega
    have hD1 : Once _ := ⟨DI⟩
    (try dsimp only [List.map_cons, List.cons_append, List.nil_append] at hD1)
    simp only [List.cons_append, List.nil_append] at N9
    have mk2 : Mark 2 := trivial
    k_steps
    dsimp only [Hold]
    rename News _ _ _ (_ :: _ :: _ :: _) => N9
    rename Fr _ L' _ _ => F9
    refine cut_val false F9 N9 ?_ ?_
    · clear mk2
      cases he : (c.rst == Str.ofString "ended") with
      | false =>
        k_steps
        exact CutV.mk rfl (by k_asm) (by k_asm)
      | true =>
        rw [st.ends c hcm (by rw [← (st.same c hcm).1]; exact eq_of_beq he)] at hcf
        k_steps
        exact CutV.mk rfl (by k_asm) (by walk_at "m:back")
    clear N9 F9 hcf
    intro h9 tk9 F9 N9
    cases he : (c.rst != Str.ofString "ready") with
    | false =>
      clear mk2
      k_steps
      rename News _ _ _ (_ :: _ :: _ :: _) => N9
      exact fin' _ <| EndG.next (by k_asm) N9 (DI.same rfl) ⟨by intro z hz; exact st2 hz, KT, B9, X9, TT9, K9, DI.same rfl, c.g, tl', TA', rfl⟩
    | true =>
      clear mk2
      k_steps
      dsimp only [Hold]
      rename News _ _ _ (_ :: _ :: _ :: _) => N9
      k_dflt refine' lam_make ?F N9 ?T ?C rfl (qual := qualB) ?q TA' perm9 ?D rfl rfl ?_; (case F => k_asm); (case T => k_asm); (case C => kn_code); (case q => kernel_rfl); (case D => exact dis9 (DI.same rfl))
      clear N9
      intro f9 c9 oc9 vs9 t9 pm9 ctv9 h9 tk9 F9 N9 D9 d9 v9 l9
      k_steps
      dsimp only [Hold]
      k_dflt refine' kind_bad ?B ?F ?X N9 ?T ?k ?d ?u XB TB K9 List.mem_cons_self ?hc ?_; (case B => k_asm); (case F => k_asm); (case X => k_asm); (case T => k_asm); (case k => first | exact rfl | assumption); (case d => ktr_room); (case u => ktr_units)
      case hc =>
        clear F9 D9 l9
        intro dp' un' gd' cn' cs2' L2 a2 cd2 cl2 A2 g2 m2 s2 Q2 E2 B2 F2 X2 N2 T2 hk2 hd2 hu2 hE2
        dsimp only [Around.deeper] at hd2 hu2
        refine wpAny_call ?_
        k_dflt (refine' kla_code ?k1 ?k2 ?k3 ?k4 ?k5 ?kA ?kF ?kK ?k6 ?k7 ?k8 ?k9 ?kB ?_ ?c2 ?c3 ?c4 ?c5; (case kA => exact rfl); (case kF => exact rfl); (case kK => first | exact rfl | assumption); (case k1 => k_asm); (case k2 => k_asm); (case k3 => k_asm); (case k4 => k_asm); (case k5 => k_asm); (case k6 => k_mem); (case k7 => exact codeRec_news (by k_asm) (by k_mem) (by assumption) (by assumption)); (case k8 => ktr_room); (case k9 => exact rfl); (case c5 => decide); (case kB => exact locs rfl); (case c2 => exact rfl); (case c3 => exact rfl); (case c4 => exact rfl); k_whole; intro g' L' h' FG' F' N' B' X' T'; (try dsimp only); (try k_lift B'); (try k_fold))
        k_steps
        dsimp only [Hold]
        have hcc := cells_get (w := w) c hcm
        k_dflt refine' block_fault (c := c) (Sd := Sd) (all := all) (C := C) (k1 := k1) (k2 := k2) (k3 := k3) ?B ?F ?X ?N ?T ?k ?d ?u ?m1 ?m2 ?m3 ?m4 ?st ?_; (case B => k_asm); (case F => k_asm); (case X => k_asm); (case N => k_asm); (case T => k_asm); (case k => first | exact rfl | assumption); (case d => ktr_room); (case u => ktr_units); (case m1 => simp); (case m2 => simp); (case m3 => simp [hcc.2.1]); (case m4 => simp [hcc.2.2.1]); (case st => rw [← (st.same c hcm).1]; simpa [bne] using he)
        (intro G9 e9 t9 d9 n1 n2 n3 t0 vs9 msg9 tk0 h9 tk9 F9 R9 U9; (try dsimp only); k_steps; walk_at "m:leaveO"; exact hE2 _ _ _ _ _ _ _ _ _ _ _ _ _ (by k_asm) (by assumption) (by assumption))
      intro g9 tkk h9 tk9 T9 F9' N9' B9' X9' TT9' D9'
      k_steps
      rename News _ _ _ (_ :: _ :: _ :: _) => N8
      refine fin' _ <| EndG.next (by k_asm) (news_sub N8 ?_) ((D9.le (by walk_at "m:count"))) ⟨by intro z hz; exact st2 hz, KT.trans T9, by k_asm, by k_asm, by k_asm, by k_asm, D9.le (by walk_at "m:count"), c.g, [(252, tabObj #[rawInt posB.line, rawInt posB.col, .ref c9]), (c9, oc9)], .inr ⟨c9, oc9, vs9, t9, rfl, d9, v9⟩, rfl⟩
      walk_at "m:sub9"
  case done =>
    rintro g h' tk u nw KT B9 X9 TT9 K9 DI ⟨hx, tl', TA', rfl⟩ F9 N9
    clear N5 D5 D TA
    dsimp only
    k_steps
    dsimp only [Hold]
    rename News _ _ _ (_ :: (_ ++ _)) => N8
    k_dflt refine' stands_spec (cs' := cs') (S := S) (Sd := Sd) (all := all) (C := C) (here := .ref hx) (k1 := k1) (k2 := k2) (k3 := k3) (an := an) (rn := rn) ?B ?F ?X N8 ?T ?k ?d ?u ?v ?w st.sync ?_; (case B => k_asm); (case F => k_asm); (case X => k_asm); (case T => k_asm); (case k => first | exact rfl | assumption); (case d => ktr_room); (case u => ktr_units); (case v => exact sees_of (by simp) (by simp) (by simp) (fun p hp => by simp [hp])); (case w => exact rows_of (w := w) (by simp) (fun p hp => by simp [hp]))
    intro h9 tk9 F9' N9'
    clear N8
    k_steps
    rename News _ _ _ _ => N8
    exact hQ _ hx tl' _ _ TA' (Dis.perm (List.nodup_cons.mp DI).2 (List.perm_append_comm_assoc _ _ _)) (by assumption) (by k_asm) (news_perm (fun q hq => N8 q (List.mem_cons_of_mem _ hq)) (List.perm_append_comm_assoc _ _ _)) (by k_asm) (by k_asm) (by k_asm) (by k_asm)
end Mine

/- A1 -/

namespace Mine
theorem take_ans {pg : Program} {ls : List Str} {w : World} {mean : ExcName → Option Value} {mg mb : Str → Option Value} {A₀ : Around} {dp un : Nat} {gd : Option (List Code)} {base h₀ : Heap} {outer : List Env} {L : Addr} {m : Str → Option Value} {cn : Str} {cs : Scope} {ca : Addr} {ccd : Value} {cl : List (Str × Addr)} {s : Shared} {Q E : Value → Shared → Prop} {S Sd all C : Addr} {k1 k2 k3 : Tok} {c : Cell} {R : List (Addr × Obj)}
    (B : Below A₀ base outer h₀) (F : Fr h₀ L s.heap m) (X : Frag.In (hd.heap_39 w.params) h₀) (N : News h₀ L s.heap ((c.d, gdict w c) :: R)) (T : Top pg ls mean mg mb h₀) (hk : cs.kind = .function) (hdp : dp + 20 < recursionLimit) (hun : un + 40 * 20 < cLine)
    (off : ∀ p ∈ R, p.1 ≠ c.d) (hS : (S, instObj 157 Sd) ∈ R) (hSd : (Sd, sdict w k1 k2 k3 C all (.ref c.g)) ∈ R) (hg : (c.g, instObj 71 c.d) ∈ R) (hh : handedIn c.gan = true)
    (hQ : ∀ h' tk', Fr h₀ L h' m → News h₀ L h' ((c.d, gdict w { c with gan := .none }) :: R) → Q c.gan { s with heap := h', toks := tk' }) :
    wpAny (model PySem.Challenge.rw_pf0070_01.row.prog w) (ktrTop dp un gd cn cs L ca ccd cl outer) (call (.ref 130) [.ref S]) Q E s := by
  w_top off
  refine wpAny_call ?_
  k_dflt ktr_enter
  k_steps
  exact hQ _ _ (by k_asm) (by k_asm)
theorem take_ansU {pg : Program} {ls : List Str} {w : World} {mean : ExcName → Option Value} {mg mb : Str → Option Value} {A₀ : Around} {dp un : Nat} {gd : Option (List Code)} {base h₀ : Heap} {outer : List Env} {L : Addr} {m : Str → Option Value} {cn : Str} {cs : Scope} {ca : Addr} {ccd : Value} {cl : List (Str × Addr)} {s : Shared} {Q E : Value → Shared → Prop} {S Sd all C : Addr} {k1 k2 k3 : Tok} {c : Cell} {news : List (Addr × Obj)} {g : Obj → List (Addr × Obj)}
    (B : Below A₀ base outer h₀) (F : Fr h₀ L s.heap m) (X : Frag.In (hd.heap_39 w.params) h₀) (N : News h₀ L s.heap (news)) (T : Top pg ls mean mg mb h₀) (hk : cs.kind = .function) (hdp : dp + 20 < recursionLimit) (hun : un + 40 * 20 < cLine)
    (U : UpdF c.d (gdict w c) news g) (hS : (S, instObj 157 Sd) ∈ news) (hSd : (Sd, sdict w k1 k2 k3 C all (.ref c.g)) ∈ news) (hg : (c.g, instObj 71 c.d) ∈ news) (hh : handedIn c.gan = true)
    (hQ : ∀ h' tk', Fr h₀ L h' m → News h₀ L h' (g (gdict w { c with gan := .none })) → Q c.gan { s with heap := h', toks := tk' }) :
    wpAny (model PySem.Challenge.rw_pf0070_01.row.prog w) (ktrTop dp un gd cn cs L ca ccd cl outer) (call (.ref 130) [.ref S]) Q E s := by
  obtain ⟨pre, post, rfl, hgg, h1, h2⟩ := U.split
  have ne : ∀ {a : Addr} {o : Obj}, (a, o) ∈ pre ++ (c.d, gdict w c) :: post → o ≠ gdict w c → a ≠ c.d := fun {a o} hm hn e => by
    subst e
    rcases List.mem_append.mp hm with hm | hm
    · exact h1 _ hm rfl
    · rcases List.mem_cons.mp hm with hm | hm
      · exact hn (congrArg Prod.snd hm)
      · exact h2 _ hm rfl
  exact take_ans B F X (news_front N) T hk hdp hun (off_both h1 h2) (mem_off hS (ne hS fun e => absurd (show (200 : Nat) = 5 from congrArg osz e) (by decide))) (mem_off hSd (ne hSd fun e => absurd (show (3 : Nat) = 5 from congrArg osz e) (by decide))) (mem_off hg (ne hg fun e => absurd (show (200 : Nat) = 5 from congrArg osz e) (by decide))) hh fun h' tk' F' N' => hQ h' tk' F' (hgg _ ▸ news_back N')
end Mine

/- A2 -/

theorem Mine.word64 : True := by
  k_with "call ref nil#" => first | (((try dsimp only [List.nil_append, List.cons_append]); (with_reducible show wpAny _ _ (call (Value.ref 103) [Value.ref _, Value.int _ _]) _ _ _); k_dflt (refine' Mine.of_spec ?Bw ?Fw ?Xw ?Nw ?Tw ?kw ?dw ?uw ?m1w ?m2w ?m3w ?zw ?j0w ?j1w ?_; (case Bw => k_asm); (case Fw => k_asm); (case Xw => k_asm); (case Nw => k_asm); (case Tw => k_asm); (case kw => first | exact rfl | assumption); (case dw => ktr_room); (case uw => ktr_units); (case m1w => k_mem); (case m2w => k_mem); (case m3w => k_mem); (case zw => assumption); (case j0w => assumption); (case j1w => assumption)); intro _ _ _ _)) | fail "no"
  k_with "call ref cons nil#" => first | (((try dsimp only [List.nil_append, List.cons_append]); (with_reducible show wpAny _ _ (call (Value.ref 103) [Value.ref _, Value.int _ _]) _ _ _); k_dflt (refine' Mine.of_spec ?Bw ?Fw ?Xw ?Nw ?Tw ?kw ?dw ?uw ?m1w ?m2w ?m3w ?zw ?j0w ?j1w ?_; (case Bw => k_asm); (case Fw => k_asm); (case Xw => k_asm); (case Nw => k_asm); (case Tw => k_asm); (case kw => first | exact rfl | assumption); (case dw => ktr_room); (case uw => ktr_units); (case m1w => k_mem); (case m2w => k_mem); (case m3w => k_mem); (case zw => assumption); (case j0w => assumption); (case j1w => assumption)); intro _ _ _ _)) | fail "no"
  trivial

theorem Mine.word65 : True := by
  k_with "call ref nil#" => first | (((try dsimp only [List.nil_append, List.cons_append]); (with_reducible show wpAny _ _ (call (Value.ref 130) [Value.ref _]) _ _ _); refine Mine.Hold.out ?_)) | fail "no"
  k_with "call ref cons nil#" => first | (((try dsimp only [List.nil_append, List.cons_append]); (with_reducible show wpAny _ _ (call (Value.ref 130) [Value.ref _]) _ _ _); refine Mine.Hold.out ?_)) | fail "no"
  trivial

theorem Mine.word66 : True := by
  k_with "call ref nil#" => first | (((try dsimp only [List.nil_append, List.cons_append]); (with_reducible show wpAny _ _ (call (Value.ref 229) [Value.ref _, Value.ref _]) _ _ _); refine Mine.Hold.out ?_)) | fail "no"
  k_with "call ref cons nil#" => first | (((try dsimp only [List.nil_append, List.cons_append]); (with_reducible show wpAny _ _ (call (Value.ref 229) [Value.ref _, Value.ref _]) _ _ _); refine Mine.Hold.out ?_)) | fail "no"
  trivial

theorem Mine.word67 : True := by
  k_with "exec For Tuple Call cons nil#" => first | ((k_here; (with_unfolding_all refine' Mine.For_G ?_ ?_; k_whole))) | fail "no"
  k_with "call type:enumerate#" => first | (refine Mine.Hold.out ?_) | fail "no"
  trivial
namespace Mine
theorem st3 {α : Type} {x y u z : Str} {a b c d e : α} {i1 : Decidable (z = u)} {i2 : Decidable (z = y)} {i3 : Decidable (z = x)} {i4 : Decidable ([x, y, u].contains z = true)} (h : [x, y, u].contains z = false) : (@ite α (z = u) i1 a (@ite α (z = y) i2 b (@ite α (z = x) i3 c (@ite α ([x, y, u].contains z = true) i4 d e)))) = e := by
  have hn : ¬ z = x := by intro e; subst e; simp at h
  have hm : ¬ z = y := by intro e; subst e; simp at h
  have hk : ¬ z = u := by intro e; subst e; simp at h
  rw [if_neg hk, if_neg hm, if_neg hn, if_neg (by rw [h]; decide)]
def clr (c : Cell) : Cell := { c with gan := .none, ran := .none }
theorem clr_at {cs : List Cell} {i : Nat} {c : Cell} (h : cs[i]? = some c) : ∃ p q, cs = p ++ c :: q ∧ (cs.take i).map clr ++ cs.drop i = p.map clr ++ c :: q ∧ (cs.take (i + 1)).map clr ++ cs.drop (i + 1) = p.map clr ++ clr c :: q := by
  obtain ⟨p, q, rfl, rfl⟩ := split_at h
  refine ⟨p, q, rfl, by simp, ?_⟩
  have e1 : (p ++ c :: q).take (p.length + 1) = p ++ [c] := by rw [List.take_append]; simp [List.take_of_length_le]
  have e2 : (p ++ c :: q).drop (p.length + 1) = q := by rw [List.drop_append]; simp
  rw [e1, e2]; simp
theorem turn_fr {g₀ g h : Heap} {L : Addr} {m : Str → Option Value} (T : KtsTurn [] g₀ g) (F : Fr g L h m) : Fr g₀ L h m := ⟨F.ns, fun b o e => F.keep b o (T.other b o e (fun h => nomatch h)), by rw [← T.size]; exact F.above⟩
theorem turn_news {g₀ g h : Heap} {L : Addr} {news : List (Addr × Obj)} (T : KtsTurn [] g₀ g) (N : News g L h news) : News g₀ L h news := fun q hq => ⟨(N q hq).1, (N q hq).2.1, by
  cases e : g₀.get? q.1 with
  | none => rfl
  | some o => have := T.other _ _ e (fun h => nomatch h); rw [(N q hq).2.2] at this; cases this⟩
theorem mid_perm {w : World} {P R : List (Addr × Obj)} {cs1 cs2 : List Cell} {c : Cell} : (P ++ (cells w (cs1 ++ c :: cs2) ++ R)).Perm (P ++ ((c.ra, rowObj c) :: (c.g, instObj 71 c.d) :: (c.d, gdict w c) :: (c.f, c.fo) :: (cells w cs1 ++ (cells w cs2 ++ R)))) := by
  rw [cells_mid, List.append_assoc, List.append_assoc]
  exact List.Perm.append_left P (List.perm_append_comm_assoc (cells w cs1) (cell4 w c) (cells w cs2 ++ R))
theorem clr_sync {cs : List Cell} (h : StOk cs) : Sync (cs.map clr) := by
  refine ⟨by simpa using h.len5, fun i c hc => ?_, fun c hc => ?_, fun c hc => ?_⟩
  · rw [List.getElem?_map] at hc
    cases e : cs[i]? with
    | none => rw [e] at hc; cases hc
    | some x => rw [e] at hc; cases hc; exact h.idx i x e
  · obtain ⟨x, hx, rfl⟩ := List.mem_map.mp hc
    exact ⟨(h.same x hx).1, (h.same x hx).2.1, rfl⟩
  · obtain ⟨x, hx, rfl⟩ := List.mem_map.mp hc
    exact ⟨(h.sync.hand x hx).1, rfl⟩
theorem answers_spec {pg : Program} {ls : List Str} {w : World} {mean : ExcName → Option Value} {mg mb : Str → Option Value} {A₀ : Around} {dp un : Nat} {gd : Option (List Code)} {base h₀ : Heap} {outer : List Env} {L : Addr} {m : Str → Option Value} {cn : Str} {cs : Scope} {ca : Addr} {ccd : Value} {cl : List (Str × Addr)} {s : Shared} {Q E : Value → Shared → Prop} {S Sd all C Cd Rl : Addr} {an rn : Nat} {k1 k2 k3 j1 j2 tt : Tok} {here dig : Value} {taken : Int} {cs' : List Cell} {R : List (Addr × Obj)}
    (B : Below A₀ base outer h₀) (F : Fr h₀ L s.heap m) (X : Frag.In (hd.heap_39 w.params) h₀) (N : News h₀ L s.heap (core w S Sd all C Cd Rl an rn k1 k2 k3 j1 j2 tt here dig taken cs' ++ (cells w cs' ++ R))) (T : Top pg ls mean mg mb h₀) (hk : cs.kind = .function) (hdp : dp + 100 < recursionLimit) (hun : un + 40 * 100 < cLine)
    (st : StOk cs') (D : Dis (core w S Sd all C Cd Rl an rn k1 k2 k3 j1 j2 tt here dig taken cs' ++ (cells w cs' ++ R)))
    (hQ : ∀ h' tk', Fr h₀ L h' m → News h₀ L h' R → Q (.bool true) { s with heap := h', toks := tk' }) :
    wpAny (model PySem.Challenge.rw_pf0070_01.row.prog w) (ktrTop dp un gd cn cs L ca ccd cl outer) (call (.ref 250) [.ref S, .ref Rl]) Q E s := by
  w_top off
  have hlen := st.len5
  refine wpAny_call ?_
  k_dflt ktr_enter
  (rename Fr _ _ _ _ => F0h); obtain ⟨m0h, F1h⟩ := Mine.fr_hide2 (x1 := Str.ofString "scheduler") (v1 := .ref S) (x2 := Str.ofString "rows") (v2 := .ref Rl) F0h rfl rfl; clear F0h
  k_steps
  dsimp only [Hold]
  rename News _ _ _ (_ ++ _) => N9
  k_dflt refine' enumRow (l := Rl) (vs := cs'.map fun c => Value.ref c.ra) (n := rn) [Str.ofString "number", Str.ofString "row", Str.ofString "told"] (fun i nw => ∃ here', nw = core w S Sd all C Cd Rl an rn k1 k2 k3 j1 j2 tt here' dig taken cs' ++ (cells w ((cs'.take i).map clr ++ cs'.drop i) ++ R))
    ?hh ?F N9 ?hm ?B ?X ?T ktsDicts_nil D ⟨here, by simp⟩ (fun i nw ⟨_, e⟩ => by rw [e]; simp) ?step ?done ?pe; (case hh => exact rfl); (case F => k_asm); (case hm => simp); (case B => k_asm); (case X => k_asm); (case T => k_asm); (case pe => passes_own)
  case step =>
    rintro I i v g u nw h₁ tk₁ T9 t9 oe oi hv KT B9 X9 TT9 K9 DI ⟨here', rfl⟩ F9 N9 hT9 Q' fin'
    obtain ⟨c, hc, hcm, rfl⟩ := get_map (by simpa using hv)
    obtain ⟨p, q, hcs, e1, e2⟩ := clr_at hc
    rw [e1] at N9 DI
    have F9' := turn_fr KT F9
    have N9' := news_perm (turn_news KT N9) (mid_perm (P := (I + 1, oe) :: (I, oi) :: core w S Sd all C Cd Rl an rn k1 k2 k3 j1 j2 tt here' dig taken cs'))
    replace DI := Dis.perm DI (mid_perm (P := (I + 1, o0) :: (I, o0) :: core w S Sd all C Cd Rl an rn k1 k2 k3 j1 j2 tt here' dig taken cs'))
    clear hQ D hv F9 N9 B9 X9 TT9 K9 KT
    have hci := st.idx i c hc
    have hsm := st.same c hcm
    have hj0 : (0 : Int) ≤ (i : Int) := by omega
    have hj1 : (cs'.map fun c => Value.ref c.g).toArray.toList[(i : Int).toNat]? = some (.ref c.g) := by simp [hc]
    have hz9 : (cs'.map fun c => Value.ref c.g).toArray.size < 1000 := by simp; omega
    simp only [List.cons_append, List.nil_append] at N9' DI
    have hD1 : Once _ := ⟨DI⟩
    (try dsimp only [List.map_cons] at hD1)
    k_steps
    dsimp only [Hold]
    have hh9 := st.sync.hand c hcm
    rename News _ _ _ (_ :: _ :: _) => N8
    k_dflt refine' take_ansU (c := c) (Sd := Sd) (all := all) (C := C) (k1 := k1) (k2 := k2) (k3 := k3) ?B ?F ?X N8 ?T ?k ?d ?u ?U ?m1 ?m2 ?m3 ?hh ?_; (case B => k_asm); (case F => k_asm); (case X => k_asm); (case T => k_asm); (case k => first | exact rfl | assumption); (case d => ktr_room); (case u => ktr_units); (case U => k_updF); (case m1 => k_mem); (case m2 => k_mem); (case m3 => k_mem); (case hh => exact hh9.2)
    clear N8
    intro h9 tk9 F9 N9
    dsimp only at N9
    k_steps
    dsimp only [Hold]
    rename News _ _ _ (_ :: _ :: _) => N8
    k_dflt refine' take_ansU (c := { c with gan := .none }) (Sd := Sd) (all := all) (C := C) (k1 := k1) (k2 := k2) (k3 := k3) ?B ?F ?X N8 ?T ?k ?d ?u ?U ?m1 ?m2 ?m3 ?hh ?_; (case B => k_asm); (case F => k_asm); (case X => k_asm); (case T => k_asm); (case k => first | exact rfl | assumption); (case d => ktr_room); (case u => ktr_units); (case U => k_updF); (case m1 => k_mem); (case m2 => k_mem); (case m3 => k_mem); (case hh => rfl)
    clear N8
    intro h9 tk9 F9 N9
    dsimp only at N9
    k_steps
    · exact ⟨rfl, eq2 (by rw [(st.same c hcm).2.2]; exact SeqAt.EqAt.same _) (SeqAt.EqAt.same _)⟩
    · rename News _ _ _ (_ :: _ :: _) => N8
      refine fin' _ <| EndG.next (by k_asm) (news_sub N8 ?_) (news' := core w S Sd all C Cd Rl an rn k1 k2 k3 j1 j2 tt (.ref c.g) dig taken cs' ++ (cells w ((cs'.take (i + 1)).map clr ++ cs'.drop (i + 1)) ++ R)) ?_ ⟨by intro z hz; exact st3 hz, .refl, by k_asm, by k_asm, by k_asm, ktsDicts_nil, ?_, .ref c.g, rfl⟩
      · rw [e2, cells_mid]
        simp only [List.cons_append, List.nil_append, List.append_assoc]
        walk_at "m:sub9"
      · rw [e2, cells_mid]
        simp only [List.cons_append, List.nil_append, List.append_assoc]
        refine DI.le ?_
        intro z9
        simp only [clr, List.map_append, List.map_cons, List.map_nil, List.count_append, List.count_cons, List.count_nil, List.nil_append, List.cons_append]
        omega
      · rw [e2, cells_mid]
        simp only [List.cons_append, List.nil_append, List.append_assoc]
        refine DI.le ?_
        intro z9
        simp only [clr, List.map_append, List.map_cons, List.map_nil, List.count_append, List.count_cons, List.count_nil, List.nil_append, List.cons_append]
        omega
  case done =>
    rintro g h' tk u nw KT B9 X9 TT9 K9 DI ⟨here', rfl⟩ F9 N9
    have F9' := turn_fr KT F9
    have N9' := turn_news KT N9
    clear F9 B9 X9 TT9 K9 KT D
    dsimp only
    k_steps
    dsimp only [Hold]
    have hvs : (cs'.map fun c => Value.ref c.ra).length = cs'.length := List.length_map _
    have ecs : (cs'.take (cs'.map fun c => Value.ref c.ra).length).map clr ++ cs'.drop (cs'.map fun c => Value.ref c.ra).length = cs'.map clr := by rw [hvs]; simp
    rw [ecs] at N9'
    have Y2 : Sync (cs'.map clr) := clr_sync st
    k_dflt refine' stands_spec (cs' := cs'.map clr) (S := S) (Sd := Sd) (all := all) (C := C) (here := here') (k1 := k1) (k2 := k2) (k3 := k3) (an := an) (rn := rn) ?B ?F ?X N9' ?T ?k ?d ?u ?v ?w Y2 ?_; (case B => k_asm); (case F => k_asm); (case X => k_asm); (case T => k_asm); (case k => first | exact rfl | assumption); (case d => ktr_room); (case u => ktr_units); (case v => exact sees_of (by simp) (by simp) (by rw [List.map_map]; simp [clr, Function.comp_def]) (fun p hp => by simp [hp])); (case w => exact rows_of (w := w) (by rw [List.map_map]; simp [clr, Function.comp_def]) (fun p hp => by simp [hp]))
    intro h9 tk9 F9' N9'
    k_steps
    rename News _ _ _ _ => N8
    exact hQ _ _ (by k_asm) (fun q hq => N8 q (by simp [hq]))
end Mine

/- Rg -/
namespace Mine
open PySem.Spec PySem.Calls PyProof.V
section
variable {prog : Program} {w : World} {A : Around} {E : Value → Shared → Prop} {s : Shared} {env : Env} {body : List Stmt} {Q : Flow → Shared → Prop}
/-- a turn's end over a range -/
def EndR (g : Heap) (L : Addr) (s : Shared) (it : Addr × Obj) (J : (Str → Option Value) → List (Addr × Obj) → Prop) (Q : Flow → Shared → Prop) (f : Flow) (s₃ : Shared) : Prop :=
  match f with
  | .ret v => Q (.ret v) s₃
  | .brk => Q .next s₃
  | _ => ∃ h' tk' m' news', s₃ = { s with heap := h', toks := tk' } ∧ Fr g L h' m' ∧ News g L h' (it :: news') ∧ (∀ p ∈ news', p.1 ≠ it.1) ∧ J m' news'
theorem rangeCore {x : Str} {px : Pos} {I : Addr} {a : Int} {n : Nat} {g : Heap} {m₀ : Str → Option Value} {news : List (Addr × Obj)} {h0' : Heap} {tk0 : Nat}
    (hh : A.handled = none) (F : Fr g env.locals h0' m₀) (N : News g env.locals h0' news) (hI : IsRangeIter h0' I a n 1) (hIL : env.locals < I) (hIn : ∀ p ∈ news, p.1 < I)
    (J : Addr → Nat → (Str → Option Value) → List (Addr × Obj) → Prop) (h0 : J I 0 m₀ news)
    (step : ∀ i m₁ nw h₁ tk₁ t oi, i < n → J I i m₁ nw → Fr g env.locals h₁ m₁ → News g env.locals h₁ ((I, oi) :: nw) → (∀ p ∈ nw, p.1 ≠ I) →
      wpAny (model prog w) A (assign (.Name x px) env (.int (a + (i : Int)) t)) (fun _ s₂ => wpAny (model prog w) A (execs body env) (EndR g env.locals { s with heap := h₁, toks := tk₁ } (I, oi) (J I (i + 1)) Q) E s₂) E { s with heap := h₁, toks := tk₁ })
    (done : ∀ h' tk m' nw, J I n m' nw → Fr g env.locals h' m' → News g env.locals h' nw → Q .next { s with heap := h', toks := tk })
    (hE : PassesOwn (model prog w) A env E) : TurnsG prog w A env (.Name x px) body Q E (.ref I) { s with heap := h0', toks := tk0 } := by
  have W := Walks.range (prog := prog) (w := w) hh I a 1 n
  have hn : g.get? I = none := Heap.get?_none_of_le (Nat.le_trans F.above (Nat.le_of_lt hIL))
  show codeAny _ _ _ _ _
  refine codeAny_forLoop_any
    (fun kk s' => ∃ h' tk i m' nw, s' = { s with heap := h', toks := tk } ∧ i ≤ n ∧ kk = n + 1 - i ∧ IsRangeIter h' I (a + (i : Nat) * 1) ((n : Int) - (i : Nat)) 1 ∧ Fr g env.locals h' m' ∧ News g env.locals h' nw ∧ (∀ p ∈ nw, p.1 ≠ I) ∧ J I i m' nw) ?_ (n + 1)
    ⟨h0', tk0, 0, m₀, news, rfl, Nat.zero_le _, rfl, by simpa using hI, F, N, fun p hp => Nat.ne_of_lt (hIn p hp), h0⟩
  rintro kk s' ⟨h', tk, i, m', nw, rfl, hi, rfl, hst, F', N', off, hJ⟩
  have next : ∀ h₁ : Heap, (∀ b o, b ∉ [I] → h'.get? b = some o → h₁.get? b = some o) → Fr g env.locals h₁ m' ∧ News g env.locals h₁ nw := fun h₁ hk₁ =>
    ⟨⟨F'.ns.at' fun o e => hk₁ _ o (by simpa using Nat.ne_of_lt hIL) e, fun b o e => hk₁ b o (by simp only [List.mem_singleton]; rintro rfl; rw [hn] at e; cases e) (F'.keep b o e), F'.above⟩, fun p hp => ⟨hk₁ _ _ (by simpa using off p hp) (N' p hp).1, (N' p hp).2⟩⟩
  by_cases hlt : i < n
  · refine W.item i _ _ _ hlt hst fun v h₁ tk₁ hv st₁ hk₁ => ?_
    obtain ⟨t, rfl⟩ := hv
    refine wpAny_pure ?_
    obtain ⟨F₂, N₂⟩ := next h₁ hk₁
    obtain ⟨oi, hoi, e1⟩ : ∃ oi : Obj, h₁.get? I = some oi ∧ ∀ h : Heap, h.get? I = some oi → IsRangeIter h I (a + ((i + 1 : Nat) : Nat) * 1) ((n : Int) - ((i + 1 : Nat) : Nat)) 1 := ⟨_, st₁, fun _ x => x⟩
    have N₃ : News g env.locals h₁ ((I, oi) :: nw) := fun q hq => by
      rcases List.mem_cons.mp hq with rfl | hq
      · exact ⟨hoi, Nat.ne_of_gt hIL, hn⟩
      · exact N₂ q hq
    have st := step i m' nw h₁ tk₁ t oi hlt hJ F₂ N₃ off
    rw [← Int.mul_one (i : Int)] at st
    refine wpAny_passesOwn hE (wpAny_mono st (fun _ s₂ h₂' => ?_) fun _ _ e => e)
    refine wpAny_passesOwn hE (wpAny_mono h₂' (fun f s₃ h₃ => ?_) fun _ _ e => e)
    have fin : (∃ h' tk' m' news', s₃ = { s with heap := h', toks := tk' } ∧ Fr g env.locals h' m' ∧ News g env.locals h' ((I, oi) :: news') ∧ (∀ p ∈ news', p.1 ≠ I) ∧ J I (i + 1) m' news') →
        ∃ kk', kk' < n + 1 - i ∧ ∃ h' tk i m' nw, s₃ = { s with heap := h', toks := tk } ∧ i ≤ n ∧ kk' = n + 1 - i ∧ IsRangeIter h' I (a + (i : Nat) * 1) ((n : Int) - (i : Nat)) 1 ∧ Fr g env.locals h' m' ∧ News g env.locals h' nw ∧ (∀ p ∈ nw, p.1 ≠ I) ∧ J I i m' nw := by
      rintro ⟨h', tk', m₂, news', rfl, F₄, N₄, off₄, J₄⟩
      exact ⟨n + 1 - (i + 1), by omega, h', tk', i + 1, m₂, news', rfl, hlt, rfl, e1 _ (N₄ (I, oi) List.mem_cons_self).1, F₄, fun p hp => N₄ p (List.mem_cons_of_mem _ hp), off₄, J₄⟩
    cases f with
    | ret v => exact h₃
    | brk => exact h₃
    | cont => exact fin h₃
    | next => exact fin h₃
  · have hin : i = n := by omega
    subst hin
    refine W.done _ _ _ hst fun h₁ tk₁ hk₁ => wpAny_execs_nil ?_
    obtain ⟨F₁, N₁⟩ := next h₁ hk₁
    exact done h₁ tk₁ m' nw hJ F₁ N₁
theorem range1 {x : Str} {px : Pos} {n : Nat} {tn : Tok} {g : Heap} {m₀ : Str → Option Value} {news : List (Addr × Obj)}
    (hh : A.handled = none) (F : Fr g env.locals s.heap m₀) (N : News g env.locals s.heap news) (hn : n < 1000)
    (J : Addr → Nat → (Str → Option Value) → List (Addr × Obj) → Prop) (h0 : ∀ I, (∀ p ∈ news, p.1 < I) → J I 0 m₀ news)
    (step : ∀ I i m₁ nw h₁ tk₁ t oi, i < n → J I i m₁ nw → Fr g env.locals h₁ m₁ → News g env.locals h₁ ((I, oi) :: nw) → (∀ p ∈ nw, p.1 ≠ I) →
      wpAny (model prog w) A (assign (.Name x px) env (.int (0 + (i : Int)) t)) (fun _ s₂ => wpAny (model prog w) A (execs body env) (EndR g env.locals { s with heap := h₁, toks := tk₁ } (I, oi) (J I (i + 1)) Q) E s₂) E { s with heap := h₁, toks := tk₁ })
    (done : ∀ I h' tk m' nw, J I n m' nw → Fr g env.locals h' m' → News g env.locals h' nw → Q .next { s with heap := h', toks := tk })
    (hE : PassesOwn (model prog w) A env E := by passes_own) :
    wpAny (model prog w) A (call (.type "range") [.int (n : Int) tn]) (fun xv s₁ => wpAny (model prog w) A (pyIter xv) (fun it s₂ => TurnsG prog w A env (.Name x px) body Q E it s₂) E s₁) E s := by
  refine call_range_1 ?_
  have F1 := F.push { cls := .type "range", data := .fields #[.int 0 s.toks, .int (n : Int) tn, .int 1 (s.toks + 1)] }
  have N1 : News g env.locals (s.heap.push { cls := .type "range", data := .fields #[.int 0 s.toks, .int (n : Int) tn, .int 1 (s.toks + 1)] }) news := fun p hp => ⟨Heap.get?_push_of_some _ (N p hp).1, (N p hp).2⟩
  refine wpAny_pyIter_range (a := 0) (b := n) (c := 1) (Heap.get?_push_size _ rfl) (small_one (by omega) (by omega) (by omega) (by omega)) ?_
  have es : Builtin.Range.rangeSize 0 (n : Int) 1 = (n : Int) := by rw [rangeSize_one]; split <;> omega
  rw [es]
  have lt : ∀ {q : Addr}, q < s.heap.objs.size → q < (s.heap.push { cls := .type "range", data := .fields #[.int 0 s.toks, .int (n : Int) tn, .int 1 (s.toks + 1)] }).objs.size := fun h => by rw [Heap.size_push]; exact Nat.lt_succ_of_lt h
  have hIn : ∀ p ∈ news, p.1 < (s.heap.push { cls := .type "range", data := .fields #[.int 0 s.toks, .int (n : Int) tn, .int 1 (s.toks + 1)] }).objs.size := fun p hp => lt (Heap.lt_size (N p hp).1)
  exact rangeCore (s := s) (tk0 := s.toks + 1 + 1) hh (F1.push _) (fun p hp => ⟨Heap.get?_push_of_some _ (N1 p hp).1, (N1 p hp).2⟩) (Heap.get?_push_size _ rfl) (lt F.ns.lt) hIn J (h0 _ hIn) (step _) (done _) hE
theorem range2 {x : Str} {px : Pos} {a b : Int} {n : Nat} {ta tb : Tok} {g : Heap} {m₀ : Str → Option Value} {news : List (Addr × Obj)} (hab : b - a = (n : Int)) (ha : -1000 < a) (ha2 : a < 1000)
    (hh : A.handled = none) (F : Fr g env.locals s.heap m₀) (N : News g env.locals s.heap news) (hn : n < 1000)
    (J : Addr → Nat → (Str → Option Value) → List (Addr × Obj) → Prop) (h0 : ∀ I, (∀ p ∈ news, p.1 < I) → J I 0 m₀ news)
    (step : ∀ I i m₁ nw h₁ tk₁ t oi, i < n → J I i m₁ nw → Fr g env.locals h₁ m₁ → News g env.locals h₁ ((I, oi) :: nw) → (∀ p ∈ nw, p.1 ≠ I) →
      wpAny (model prog w) A (assign (.Name x px) env (.int (a + (i : Int)) t)) (fun _ s₂ => wpAny (model prog w) A (execs body env) (EndR g env.locals { s with heap := h₁, toks := tk₁ } (I, oi) (J I (i + 1)) Q) E s₂) E { s with heap := h₁, toks := tk₁ })
    (done : ∀ I h' tk m' nw, J I n m' nw → Fr g env.locals h' m' → News g env.locals h' nw → Q .next { s with heap := h', toks := tk })
    (hE : PassesOwn (model prog w) A env E := by passes_own) :
    wpAny (model prog w) A (call (.type "range") [.int a ta, .int b tb]) (fun xv s₁ => wpAny (model prog w) A (pyIter xv) (fun it s₂ => TurnsG prog w A env (.Name x px) body Q E it s₂) E s₁) E s := by
  refine call_range_2 ?_
  have F1 := F.push { cls := .type "range", data := .fields #[.int a ta, .int b tb, .int 1 s.toks] }
  have N1 : News g env.locals (s.heap.push { cls := .type "range", data := .fields #[.int a ta, .int b tb, .int 1 s.toks] }) news := fun p hp => ⟨Heap.get?_push_of_some _ (N p hp).1, (N p hp).2⟩
  refine wpAny_pyIter_range (a := a) (b := b) (c := 1) (Heap.get?_push_size _ rfl) (small_one (by omega) (by omega) (by omega) (by omega)) ?_
  have es : Builtin.Range.rangeSize a b 1 = (n : Int) := by rw [rangeSize_one]; split <;> omega
  rw [es]
  have lt : ∀ {q : Addr}, q < s.heap.objs.size → q < (s.heap.push { cls := .type "range", data := .fields #[.int a ta, .int b tb, .int 1 s.toks] }).objs.size := fun h => by rw [Heap.size_push]; exact Nat.lt_succ_of_lt h
  have hIn : ∀ p ∈ news, p.1 < (s.heap.push { cls := .type "range", data := .fields #[.int a ta, .int b tb, .int 1 s.toks] }).objs.size := fun p hp => lt (Heap.lt_size (N p hp).1)
  exact rangeCore (s := s) (tk0 := s.toks + 1) hh (F1.push _) (fun p hp => ⟨Heap.get?_push_of_some _ (N1 p hp).1, (N1 p hp).2⟩) (Heap.get?_push_size _ rfl) (lt F.ns.lt) hIn J (h0 _ hIn) (step _) (done _) hE
end
end Mine

/- C1 -/

namespace Mine
abbrev seqO (k : String) (its : Array Value) (n : Nat) : Obj := { cls := .type k, data := .seq its n }
abbrev uvs (us : List (Int × Tok)) : Array Value := (us.map fun u => Value.int u.1 u.2).toArray
section
variable {prog : Program} {w : World} {A : Around} {E : Value → Shared → Prop} {s : Shared} {h₀ : Heap} {L d : Addr} {m : Str → Option Value} {news : List (Addr × Obj)} {us : List (Int × Tok)} {n : Nat} {k : Int} {u : Tok} {kd : String}
theorem m_len2 {Q : Value → Shared → Prop} (N : News h₀ L s.heap news) (hm : (d, seqO kd (uvs us) n) ∈ news) (hk : kd = "list" ∨ kd = "tuple") (hz : us.length < 1000) (h : ∀ t tk, Q (.int (us.length : Int) t) { s with toks := tk }) : wpAny (model prog w) A (call (.builtin "len") [.ref d]) Q E s := by
  have e : (uvs us).size = us.length := by simp
  have e2 : ((uvs us).size : Int) < 2 ^ 63 := by rw [e]; omega
  rcases hk with rfl | rfl
  · refine len_list ⟨_, N.get hm, rfl, n, rfl⟩ (by omega) ?_
    rw [e]; exact h _ _
  · refine len_tuple ⟨_, N.get hm, rfl, n, rfl⟩ e2 ?_
    rw [e]; exact h _ _
theorem m_sub2 {value slice : PySem.Expr} {Q : Value → Shared → Prop} (N : News h₀ L s.heap news) (hm : (d, seqO kd (uvs us) n) ∈ news) (hk : kd = "list" ∨ kd = "tuple") (h0 : 0 ≤ k) (h1 : k < (us.length : Int)) (hz : us.length < 1000) (h : ∀ v, us[k.toNat]? = some v → Q (.int v.1 v.2) s)
    (hs : subscripted slice false (.ref d) (.int k u) = operate [.ref d, .int k u] (getItem (.ref d) (.int k u)) := by with_unfolding_all rfl) :
    wpAny (model prog w) A (subscriptTail value slice (.ref d) (.int k u)) Q E s := by
  have hj : k.toNat < us.length := by omega
  have hx : (uvs us)[k.toNat]? = some (Value.int us[k.toNat].1 us[k.toNat].2) := by simp [hj]
  rcases hk with rfl | rfl
  · have hL : s.heap.IsList d (uvs us) := ⟨_, N.get hm, rfl, n, rfl⟩
    exact tail_any hL.typeIs slot_list_getitem.lookup (wpAny_getItem_list hL h0 (by omega) hx (h _ (List.getElem?_eq_getElem hj))) hs
  · have hL : IsTup s.heap d (uvs us) := ⟨_, N.get hm, rfl, n, rfl⟩
    exact tail_any hL.typeIs slot_tuple_getitem.lookup (getItem_tuple (j := k.toNat) hL (by omega) (by omega) (seqIndex_of h0 (by simp; omega)) hx (h _ (List.getElem?_eq_getElem hj))) hs
theorem m_sub3 {value slice : PySem.Expr} {v : Int × Tok} {Q : Value → Shared → Prop} (N : News h₀ L s.heap news) (hm : (d, seqO kd (uvs us) n) ∈ news) (hk : kd = "list" ∨ kd = "tuple") (h0 : 0 ≤ k) (hz : us.length < 1000) (hx : us[k.toNat]? = some v) (h : Q (.int v.1 v.2) s)
    (hs : subscripted slice false (.ref d) (.int k u) = operate [.ref d, .int k u] (getItem (.ref d) (.int k u)) := by with_unfolding_all rfl) :
    wpAny (model prog w) A (subscriptTail value slice (.ref d) (.int k u)) Q E s := by
  have hl := (List.getElem?_eq_some_iff.mp hx).1
  exact m_sub2 N hm hk h0 (by omega) hz (fun v' e => by rw [hx] at e; cases e; exact h) hs
theorem ints_uvs {ys : List Value} {ns : List Int} (h : IntsAre ys ns) : ∃ us : List (Int × Tok), ys = us.map (fun u => Value.int u.1 u.2) ∧ us.map (·.1) = ns := by
  induction h with
  | nil => exact ⟨[], rfl, rfl⟩
  | cons i t _ ih =>
    obtain ⟨us, e1, e2⟩ := ih
    exact ⟨(i, t) :: us, by rw [e1]; rfl, by rw [← e2]; rfl⟩
theorem m_list2 {Q : Value → Shared → Prop} (F : Fr h₀ L s.heap m) (N : News h₀ L s.heap news) (hm : (d, seqO kd (uvs us) n) ∈ news) (hk : kd = "list" ∨ kd = "tuple") (hz : us.length < 1000)
    (h : ∀ D c h', Fr h₀ L h' m → News h₀ L h' ((D, listOf (uvs us) c) :: news) → (∀ q ∈ news, q.1 < D) → Q (.ref D) { s with heap := h' }) : wpAny (model prog w) A (call (.type "list") [.ref d]) Q E s := by
  have hz2 : (uvs us).size ≤ sizeLine := by rw [sizeLine_eq]; simp; omega
  rcases hk with rfl | rfl
  · exact list_copyK F N ⟨_, N.get hm, rfl, n, rfl⟩ h hz2
  · exact list_copyKT F N ⟨_, N.get hm, rfl, n, rfl⟩ h hz2
theorem m_eq_same {a b : Addr} {xs ys : Array Value} {n k : Nat} {Q : Value → Shared → Prop} (N : News h₀ L s.heap news) (ha : (a, ({ cls := .type "list", data := .seq xs n } : Obj)) ∈ news) (hb : (b, ({ cls := .type "list", data := .seq ys k } : Obj)) ∈ news) (hu : A.units < cLine) (he : AllEq A s xs ys) (h : Q (.bool true) s) :
    wpAny (model prog w) A (compareOp .Eq (.ref a) (.ref b)) Q E s :=
  SeqAt.RcAt.lists (e := fun _ => true) (isList_of N ha) (isList_of N hb) he.1 hu he.2 prog w E Q (by
    have e : ((List.range xs.size).all (fun _ => true)) = true := by simp
    exact e.symm ▸ h)
end
def pkv (us : List (Int × Tok)) (t m : Int) : Int := match us[t.toNat]? with | some u => Int.fmod u.1 m | none => 0
end Mine

/- C2 -/

theorem Mine.word68 : True := by
  k_with "call builtin:len cons nil#" => first | ((k_here; (with_reducible show wpAny _ _ (call (Value.builtin _) [Value.ref _]) _ _ _); k_dflt (refine' Mine.m_len2 ?Nw ?mw ?hkw ?zw ?_; (case Nw => k_asm); (case mw => k_mem); (case hkw => assumption); (case zw => assumption); k_whole); intro _ _)) | fail "no"
  k_with "m:sub2#" => first | ((k_here; (with_reducible show wpAny _ _ (subscriptTail _ _ (Value.ref _) (Value.int _ _)) _ _ _); k_dflt (refine' Mine.m_sub2 ?Nw ?mw ?hkw ?aw ?bw ?zw ?_; (case Nw => k_asm); (case mw => k_mem); (case hkw => assumption); (case aw => assumption); (case bw => assumption); (case zw => assumption); k_whole); intro _ _)) | fail "no"
  k_with "subscriptTail Attribute Name Name ref int#" => first | (walk_at "m:sub2") | fail "no"
  trivial
namespace Mine
theorem pick_spec {pg : Program} {ls : List Str} {w : World} {mean : ExcName → Option Value} {mg mb : Str → Option Value} {A₀ : Around} {dp un : Nat} {gd : Option (List Code)} {base h₀ : Heap} {outer : List Env} {L : Addr} {m : Str → Option Value} {cn : Str} {cs : Scope} {ca : Addr} {ccd : Value} {cl : List (Str × Addr)} {s : Shared} {Q E : Value → Shared → Prop} {C Cd dig : Addr} {j1 j2 tt mt : Tok} {t mm : Int} {us : List (Int × Tok)} {kd : String} {n : Nat} {R : List (Addr × Obj)}
    (B : Below A₀ base outer h₀) (F : Fr h₀ L s.heap m) (X : Frag.In (hd.heap_39 w.params) h₀) (N : News h₀ L s.heap ((Cd, cdict w j1 j2 (.ref dig) t tt) :: R)) (T : Top pg ls mean mg mb h₀) (hk : cs.kind = .function) (hdp : dp + 20 < recursionLimit) (hun : un + 40 * 20 < cLine)
    (off : ∀ p ∈ R, p.1 ≠ Cd) (hC : (C, instObj 185 Cd) ∈ R) (hd : (dig, seqO kd (uvs us) n) ∈ R) (hkd : kd = "list" ∨ kd = "tuple") (hz : us.length < 1000) (ht0 : 0 ≤ t) (ht1 : t < 1000) (hm1 : mm < 1000)
    (hQ : ∀ r tt' h' tk', Fr h₀ L h' m → News h₀ L h' ((Cd, cdict w j1 j2 (.ref dig) (if 1 < mm then t + 1 else t) tt') :: R) → Q (.int (if 1 < mm then pkv us t mm else 0) r) { s with heap := h', toks := tk' }) :
    wpAny (model PySem.Challenge.rw_pf0070_01.row.prog w) (ktrTop dp un gd cn cs L ca ccd cl outer) (call (.ref 182) [.ref C, .int mm mt]) Q E s := by
  w_top off
  rcases Int.lt_or_le 1 mm with hm | hm
  · have hm' : ¬ mm ≤ 1 := by omega
    simp only [if_pos hm] at hQ
    rcases Int.lt_or_le t us.length with hl | hl
    · refine wpAny_call ?_
      k_dflt ktr_enter
      k_steps
      rename us[_]? = some _ => hv
      rw [show pkv us t mm = _ from by rw [pkv, hv]] at hQ
      exact hQ _ _ _ _ (by k_asm) (by k_asm)
    · have hl' : ¬ t < (us.length : Int) := by omega
      refine wpAny_call ?_
      k_dflt ktr_enter
      k_steps
      rw [show pkv us t mm = 0 from by rw [pkv, List.getElem?_eq_none (by omega)]] at hQ
      exact hQ _ _ _ _ (by k_asm) (by k_asm)
  · have hm' : ¬ 1 < mm := by omega
    simp only [if_neg hm'] at hQ
    refine wpAny_call ?_
    k_dflt ktr_enter
    k_steps
    exact hQ _ _ _ _ (by k_asm) (by k_asm)
theorem pickU {pg : Program} {ls : List Str} {w : World} {mean : ExcName → Option Value} {mg mb : Str → Option Value} {A₀ : Around} {dp un : Nat} {gd : Option (List Code)} {base h₀ : Heap} {outer : List Env} {L : Addr} {m : Str → Option Value} {cn : Str} {cs : Scope} {ca : Addr} {ccd : Value} {cl : List (Str × Addr)} {s : Shared} {Q E : Value → Shared → Prop} {C Cd dig : Addr} {j1 j2 tt mt : Tok} {t mm : Int} {us : List (Int × Tok)} {kd : String} {n : Nat} {news : List (Addr × Obj)} {g : Obj → List (Addr × Obj)}
    (B : Below A₀ base outer h₀) (F : Fr h₀ L s.heap m) (X : Frag.In (hd.heap_39 w.params) h₀) (N : News h₀ L s.heap (news)) (T : Top pg ls mean mg mb h₀) (hk : cs.kind = .function) (hdp : dp + 20 < recursionLimit) (hun : un + 40 * 20 < cLine)
    (U : UpdF Cd (cdict w j1 j2 (.ref dig) t tt) news g) (hC : (C, instObj 185 Cd) ∈ news) (hd : (dig, seqO kd (uvs us) n) ∈ news) (hkd : kd = "list" ∨ kd = "tuple") (hz : us.length < 1000) (ht0 : 0 ≤ t) (ht1 : t < 1000) (hm1 : mm < 1000)
    (hQ : ∀ r tt' h' tk', Fr h₀ L h' m → News h₀ L h' (g (cdict w j1 j2 (.ref dig) (if 1 < mm then t + 1 else t) tt')) → Q (.int (if 1 < mm then pkv us t mm else 0) r) { s with heap := h', toks := tk' }) :
    wpAny (model PySem.Challenge.rw_pf0070_01.row.prog w) (ktrTop dp un gd cn cs L ca ccd cl outer) (call (.ref 182) [.ref C, .int mm mt]) Q E s := by
  obtain ⟨pre, post, rfl, hgg, h1, h2⟩ := U.split
  have ne : ∀ {a : Addr} {o : Obj}, (a, o) ∈ pre ++ (Cd, cdict w j1 j2 (.ref dig) t tt) :: post → o ≠ cdict w j1 j2 (.ref dig) t tt → a ≠ Cd := fun {a o} hm hn e => by
    subst e
    rcases List.mem_append.mp hm with hm | hm
    · exact h1 _ hm rfl
    · rcases List.mem_cons.mp hm with hm | hm
      · exact hn (congrArg Prod.snd hm)
      · exact h2 _ hm rfl
  exact pick_spec B F X (news_front N) T hk hdp hun (off_both h1 h2) (mem_off hC (ne hC fun e => absurd (show (200 : Nat) = 2 from congrArg osz e) (by decide))) (mem_off hd (ne hd fun e => absurd (show (100 : Nat) = 2 from congrArg osz e) (by decide))) hkd hz ht0 ht1 hm1 fun r tt' h' tk' F' N' => hQ r tt' h' tk' F' (hgg _ ▸ news_back N')
end Mine

/- C3 -/

theorem Mine.word69 : True := by
  k_with "call ref nil#" => first | (((try dsimp only [List.nil_append, List.cons_append]); (with_reducible show wpAny _ _ (call (Value.ref 108) [Value.ref _]) _ _ _); refine Mine.Hold.out ?_)) | fail "no"
  k_with "call ref cons nil#" => first | (((try dsimp only [List.nil_append, List.cons_append]); (with_reducible show wpAny _ _ (call (Value.ref 108) [Value.ref _]) _ _ _); refine Mine.Hold.out ?_)) | fail "no"
  trivial

theorem Mine.word70 : True := by
  k_with "call ref nil#" => first | (((try dsimp only [List.nil_append, List.cons_append]); (with_reducible show wpAny _ _ (call (Value.ref 182) [Value.ref _, Value.int _ _]) _ _ _); refine Mine.Hold.out ?_)) | fail "no"
  k_with "call ref cons nil#" => first | (((try dsimp only [List.nil_append, List.cons_append]); (with_reducible show wpAny _ _ (call (Value.ref 182) [Value.ref _, Value.int _ _]) _ _ _); refine Mine.Hold.out ?_)) | fail "no"
  trivial

theorem Mine.word71 : True := by
  k_with "subscriptTail Name Call ref int#" => first | (walk_at "m:subA") | fail "no"
  trivial
namespace Mine
abbrev rdy (cs : List Cell) : List Cell := cs.filter fun c => c.gst == Str.ofString "ready"
theorem pkv_in {us : List (Int × Tok)} {t mm : Int} (h : 0 < mm) : 0 ≤ pkv us t mm ∧ pkv us t mm < mm := by
  unfold pkv
  split
  · exact ⟨Int.fmod_nonneg_of_pos _ h, Int.fmod_lt_of_pos _ h⟩
  · omega
theorem choose_spec {pg : Program} {ls : List Str} {w : World} {mean : ExcName → Option Value} {mg mb : Str → Option Value} {A₀ : Around} {dp un : Nat} {gd : Option (List Code)} {base h₀ : Heap} {outer : List Env} {L : Addr} {m : Str → Option Value} {cn : Str} {cs : Scope} {ca : Addr} {ccd : Value} {cl : List (Str × Addr)} {s : Shared} {Q E : Value → Shared → Prop} {S Sd all C Cd dig : Addr} {k1 k2 k3 j1 j2 tt : Tok} {t : Int} {here : Value} {cs' : List Cell} {an : Nat} {us : List (Int × Tok)} {kd : String} {n : Nat} {R : List (Addr × Obj)}
    (B : Below A₀ base outer h₀) (F : Fr h₀ L s.heap m) (X : Frag.In (hd.heap_39 w.params) h₀) (N : News h₀ L s.heap ((Cd, cdict w j1 j2 (.ref dig) t tt) :: (Sd, sdict w k1 k2 k3 C all here) :: R)) (T : Top pg ls mean mg mb h₀) (hk : cs.kind = .function) (hdp : dp + 60 < recursionLimit) (hun : un + 40 * 60 < cLine)
    (off1 : ∀ p ∈ R, p.1 ≠ Cd) (off2 : ∀ p ∈ R, p.1 ≠ Sd) (ne : Sd ≠ Cd) (hS : (S, instObj 157 Sd) ∈ R) (hC : (C, instObj 185 Cd) ∈ R) (hall : (all, listOf (cs'.map fun c => Value.ref c.g).toArray an) ∈ R) (hgs : ∀ c ∈ cs', (c.g, instObj 71 c.d) ∈ R ∧ (c.d, gdict w c) ∈ R) (hlen : cs'.length ≤ 5)
    (hd : (dig, seqO kd (uvs us) n) ∈ R) (hkd : kd = "list" ∨ kd = "tuple") (hz : us.length < 1000) (ht0 : 0 ≤ t) (ht1 : t < 900)
    (h0 : rdy cs' = [] → ∀ h' tk', Fr h₀ L h' m → News h₀ L h' ((Cd, cdict w j1 j2 (.ref dig) t tt) :: (Sd, sdict w k1 k2 k3 C all here) :: R) → Q .none { s with heap := h', toks := tk' })
    (hQ : ∀ c tt' h' tk', (rdy cs')[(if 1 < ((rdy cs').length : Int) then pkv us t (rdy cs').length else 0).toNat]? = some c → Fr h₀ L h' m → News h₀ L h' ((Cd, cdict w j1 j2 (.ref dig) (if 1 < ((rdy cs').length : Int) then t + 1 else t) tt') :: (Sd, sdict w k1 k2 k3 C all (.ref c.g)) :: R) → Q (.ref c.g) { s with heap := h', toks := tk' }) :
    wpAny (model PySem.Challenge.rw_pf0070_01.row.prog w) (ktrTop dp un gd cn cs L ca ccd cl outer) (call (.ref 144) [.ref S]) Q E s := by
  w_top off
  have hrl : (cs'.filter fun c => c.gst == Str.ofString "ready").length ≤ 5 := Nat.le_trans (List.length_filter_le _ _) hlen
  refine wpAny_call ?_
  k_dflt ktr_enter
  k_steps
  dsimp only [Hold]
  rename News _ _ _ (_ :: _ :: _) => N9
  k_dflt refine' ready_spec (cs' := cs') (Sd := Sd) (all := all) (C := C) (here := here) (k1 := k1) (k2 := k2) (k3 := k3) (an := an) ?B ?F ?X N9 ?T ?k ?d ?u ⟨?m1, ?m2, ?m3, ?m4⟩ hlen ?_; (case B => k_asm); (case F => k_asm); (case X => k_asm); (case T => k_asm); (case k => first | exact rfl | assumption); (case d => ktr_room); (case u => ktr_units)
  case m1 => walk_at "m:in"
  case m2 => walk_at "m:mem9"
  case m3 => walk_at "m:in"
  case m4 => exact fun c hc => ⟨List.mem_cons_of_mem _ (List.mem_cons_of_mem _ (hgs c hc).1), List.mem_cons_of_mem _ (List.mem_cons_of_mem _ (hgs c hc).2)⟩
  clear N9
  intro D9 h9 tk9 F9 N9 o9
  have hD1 : Cd ≠ D9 := o9.1
  have hD2 : Sd ≠ D9 := o9.2.1
  have hD3 : D9 ≠ Cd := Ne.symm o9.1
  have hD4 : D9 ≠ Sd := Ne.symm o9.2.1
  have ne' := Ne.symm ne
  cases he : ((rdy cs').map fun c => Value.ref c.g).toArray.isEmpty with
  | true =>
    k_steps
    exact h0 (by simpa using he) _ _ (by k_asm) (by walk_at "m:back")
  | false =>
    k_steps
    dsimp only [Hold]
    rename News _ _ _ (_ :: _ :: _) => N8
    have hrl' : (rdy cs').length ≤ 5 := hrl
    have hne : rdy cs' ≠ [] := fun e => by rw [e] at he; cases he
    have hpos : 0 < (rdy cs').length := List.length_pos_iff.mpr hne
    have hmm : (((rdy cs').map fun c => Value.ref c.g).toArray.size : Int) = ((rdy cs').length : Int) := by simp
    rw [hmm]
    k_dflt refine' pickU (Cd := Cd) (dig := dig) (t := t) (j1 := j1) (j2 := j2) (tt := tt) (us := us) (kd := kd) (n := n) ?B ?F ?X N8 ?T ?k ?d ?u ?U ?m1 ?m2 hkd hz ht0 (by omega) (by omega) ?_; (case B => k_asm); (case F => k_asm); (case X => k_asm); (case T => k_asm); (case k => first | exact rfl | assumption); (case d => ktr_room); (case u => ktr_units); (case U => k_updF); (case m1 => walk_at "m:in"); (case m2 => walk_at "m:in")
    clear N8
    intro r tt' h8 tk8 F8 N8
    have hp : 0 ≤ (if 1 < ((rdy cs').length : Int) then pkv us t (rdy cs').length else 0) ∧ (if 1 < ((rdy cs').length : Int) then pkv us t (rdy cs').length else 0) < ((rdy cs').length : Int) := by
      split
      · exact pkv_in (by omega)
      · omega
    have hQ2 := hQ
    generalize (if 1 < ((rdy cs').length : Int) then pkv us t (rdy cs').length else 0) = pp at hp hQ2 ⊢
    obtain ⟨hp0, hp1⟩ := hp
    have hpl : pp.toNat < (rdy cs').length := by omega
    have hc := List.getElem?_eq_getElem hpl
    generalize (rdy cs')[pp.toNat] = c at hc
    have hx9 : ((rdy cs').map fun c => Value.ref c.g).toArray.toList[pp.toNat]? = some (.ref c.g) := by rw [List.toList_toArray, List.getElem?_map, hc]; rfl
    clear hQ
    k_steps
    exact hQ2 c tt' _ _ hc (by k_asm) (by walk_at "m:back")
end Mine

/- C4 -/

namespace Mine
theorem m_sub4 {prog : Program} {w : World} {A : Around} {E : Value → Shared → Prop} {s : Shared} {h₀ : Heap} {L d : Addr} {news : List (Addr × Obj)} {us : List (Int × Tok)} {n : Nat} {k i : Int} {u vt : Tok} {kd : String} {value slice : PySem.Expr} {Q : Value → Shared → Prop} (N : News h₀ L s.heap news) (hm : (d, seqO kd (uvs us) n) ∈ news) (hk : kd = "list" ∨ kd = "tuple") (h0 : 0 ≤ k) (hz : us.length < 1000) (hx : us[k.toNat]? = some (i, vt)) (h : Q (.int i vt) s)
    (hs : subscripted slice false (.ref d) (.int k u) = operate [.ref d, .int k u] (getItem (.ref d) (.int k u)) := by with_unfolding_all rfl) :
    wpAny (model prog w) A (subscriptTail value slice (.ref d) (.int k u)) Q E s := m_sub3 N hm hk h0 hz hx h hs
end Mine
theorem Mine.word72 : True := by
  k_with "call builtin:len cons nil#" => first | ((k_here; (with_reducible show wpAny _ _ (call (Value.builtin _) [Value.ref _]) _ _ _); k_dflt (refine' Mine.m_len2 ?Nw ?mw ?hkw ?zw ?_; (case Nw => k_asm); (case mw => k_mem); (case hkw => first | exact .inl rfl | assumption); (case zw => assumption); k_whole); intro _ _)) | fail "no"
  k_with "call type:list#" => first | ((k_here; (with_reducible show wpAny _ _ (call (Value.type "list") [Value.ref _]) _ _ _); k_dflt (refine' Mine.m_list2 ?Fw ?Nw ?mw ?hkw ?zw ?_; (case Fw => k_asm); (case Nw => k_asm); (case mw => k_mem); (case hkw => first | exact .inl rfl | assumption); (case zw => assumption); k_whole); intro _ _ _ _ _ _)) | fail "no"
  k_with "m:sub2#" => first | ((k_here; (with_reducible show wpAny _ _ (subscriptTail _ _ (Value.ref _) (Value.int _ _)) _ _ _); k_dflt (refine' Mine.m_sub2 ?Nw ?mw ?hkw ?aw ?bw ?zw ?_; (case Nw => k_asm); (case mw => k_mem); (case hkw => first | exact .inl rfl | assumption); (case aw => assumption); (case bw => assumption); (case zw => assumption); k_whole); intro _ _)) | fail "no"
  k_with "m:sub3#" => first | ((k_here; (with_reducible show wpAny _ _ (subscriptTail _ _ (Value.ref _) (Value.int _ _)) _ _ _); k_dflt (refine' Mine.m_sub4 ?Nw ?mw ?hkw ?aw ?zw ?xw ?_; (case Nw => k_asm); (case mw => k_mem); (case hkw => first | exact .inl rfl | assumption); (case xw => assumption); (case aw => assumption); (case zw => assumption); k_whole))) | fail "no"
  k_with "subscriptTail Name Name ref int#" => first | (first | walk_at "m:sub3" | walk_at "m:sub2") | fail "no"
  k_with "exec For Name Call cons nil#" => first | ((k_here; (with_unfolding_all refine' Mine.For_G ?_ ?_; k_whole))) | fail "no"
  k_with "call type:range#" => first | (refine Mine.hold_if 5 (by assumption) ?_) | fail "no"
  k_with "eval IfExp#" => first | (refine Mine.hold_if 4 (by assumption) ?_) | fail "no"
  k_with "call ref nil#" => first | (((try dsimp only [List.nil_append, List.cons_append]); (with_reducible show wpAny _ _ (call (Value.ref 144) [Value.ref _]) _ _ _); refine Mine.Hold.out ?_)) | fail "no"
  k_with "call ref cons nil#" => first | (((try dsimp only [List.nil_append, List.cons_append]); (with_reducible show wpAny _ _ (call (Value.ref 144) [Value.ref _]) _ _ _); refine Mine.Hold.out ?_)) | fail "no"
  trivial

namespace Mine
theorem range1S {prog : Program} {w : World} {A : Around} {E : Value → Shared → Prop} {s : Shared} {env : Env} {body : List Stmt} {Q : Flow → Shared → Prop} {x : Str} {px : Pos} {n : Nat} {tn : Tok} {g : Heap} {m₀ : Str → Option Value} {news : List (Addr × Obj)} (xs : List Str) (St : Nat → (Str → Option Value) → List (Addr × Obj) → Prop)
    (hh : A.handled = none) (F : Fr g env.locals s.heap m₀) (N : News g env.locals s.heap news) (hn : n < 1000) (D : Dis news) (h0 : St 0 m₀ news)
    (step : ∀ I i (u : Str → Option Value) nw h₁ tk₁ t oi, i < n → Dis ((I, o0) :: nw) → St i (fun z => if xs.contains z then u z else m₀ z) nw → Fr g env.locals h₁ (fun z => if xs.contains z then u z else m₀ z) → News g env.locals h₁ ((I, oi) :: nw) → ∀ Q' : Flow → Shared → Prop,
      (∀ f s₃, (f = .next ∨ f = .cont) → EndR g env.locals { s with heap := h₁, toks := tk₁ } (I, oi) (fun m nw => (∀ z, xs.contains z = false → m z = m₀ z) ∧ Dis ((I, o0) :: nw) ∧ St (i + 1) m nw) Q f s₃ → Q' f s₃) →
      wpAny (model prog w) A (assign (.Name x px) env (.int (0 + (i : Int)) t)) (fun _ s₂ => wpAny (model prog w) A (execs body env) Q' E s₂) E { s with heap := h₁, toks := tk₁ })
    (done : ∀ h' tk (u : Str → Option Value) nw, St n (fun z => if xs.contains z then u z else m₀ z) nw → Fr g env.locals h' (fun z => if xs.contains z then u z else m₀ z) → News g env.locals h' nw → Q .next { s with heap := h', toks := tk })
    (hE : PassesOwn (model prog w) A env E := by passes_own) :
    wpAny (model prog w) A (call (.type "range") [.int (n : Int) tn]) (fun xv s₁ => wpAny (model prog w) A (pyIter xv) (fun it s₂ => TurnsG prog w A env (.Name x px) body Q E it s₂) E s₁) E s :=
  range1 hh F N hn (fun I i m nw => (∀ z, xs.contains z = false → m z = m₀ z) ∧ Dis ((I, o0) :: nw) ∧ St i m nw)
    (fun I hI => ⟨fun z _ => rfl, D.cons (allLt_of hI), h0⟩)
    (fun I i m nw h₁ tk₁ t oi hi ⟨hm, DI, hs⟩ F9 N9 _ => by rw [map_of hm] at hs F9; exact step I i m nw h₁ tk₁ t oi hi DI hs F9 N9 _ fun _ _ _ h => h)
    (fun I h' tk m nw ⟨hm, DI, hs⟩ F9 N9 => by rw [map_of hm] at hs F9; exact done h' tk m nw hs F9 N9) hE
theorem map_put {m : Str → Option Value} {x : Str} {v : Value} (h : m x = some v) : m = fun z => if z = x then some v else m z := by
  funext z
  by_cases e : z = x
  · rw [if_pos e, e, h]
  · rw [if_neg e]
theorem EndR.next {g : Heap} {L : Addr} {s : Shared} {I : Addr} {oi : Obj} {J : (Str → Option Value) → List (Addr × Obj) → Prop} {Q : Flow → Shared → Prop} {h' : Heap} {m' : Str → Option Value} {news' : List (Addr × Obj)} {tk' : Nat} {f : Flow} (hf : f = .next ∨ f = .cont)
    (F : Fr g L h' m') (N : News g L h' ((I, oi) :: news')) (D : Dis ((I, o0) :: news')) (hJ : J m' news') : EndR g L s (I, oi) J Q f { s with heap := h', toks := tk' } := by
  rcases hf with rfl | rfl <;> exact ⟨h', tk', m', news', rfl, F, N, D.off, hJ⟩
theorem dis_off1 {D : Addr} {o : Obj} : ∀ {l : List (Addr × Obj)}, LCg.Off1 D l → Dis l → Dis ((D, o) :: l) := fun {l} h d => List.nodup_cons.mpr ⟨fun hm => by
  obtain ⟨q, hq, e⟩ := List.mem_map.mp hm
  have : ∀ {l : List (Addr × Obj)}, LCg.Off1 D l → ∀ q ∈ l, q.1 ≠ D := by
    intro l
    induction l with
    | nil => intro _ q hq; cases hq
    | cons p l ih =>
      intro h q hq
      rcases List.mem_cons.mp hq with rfl | hq
      · exact h.1
      · exact ih h.2 q hq
  exact this h q hq e, d⟩
theorem us_at {us2 : List (Int × Tok)} {cs : List Cell} {c : Cell} {n : Nat} (e : us2.map (·.1) = (rdy cs).map fun c => c.i) (h : (rdy cs)[n]? = some c) : ∃ vt, us2[n]? = some (c.i, vt) := by
  have h2 : (us2.map (·.1))[n]? = some c.i := by rw [e, List.getElem?_map, h]; rfl
  rw [List.getElem?_map] at h2
  cases hu : us2[n]? with
  | none => rw [hu] at h2; cases h2
  | some v =>
    rw [hu] at h2
    obtain ⟨v1, v2⟩ := v
    have : v1 = c.i := by simpa using h2
    exact ⟨v2, by rw [this]⟩
end Mine
theorem Mine.word73 : True := by
  k_with "compareOp Eq ref ref#" => first | (first | (k_here; (with_reducible show wpAny _ _ (compareOp CmpOp.Eq (Value.ref _) (Value.ref _)) _ _ _); k_dflt (refine' Mine.m_eq_same (xs := Mine.uvs _) (ys := Mine.uvs _) ?Nw ?aw ?bw ?uw ?ew ?_; (case Nw => k_asm); (case aw => k_mem); (case bw => k_mem); (case uw => walk_at "m:units"); (case ew => exact ⟨rfl, fun _ _ _ => SeqAt.EqAt.same _⟩); k_whole)) | walk_at "m:eqnil") | fail "no"
  k_with "m:st5#" => first | ((intro _ hzw; simp only [List.contains_cons, List.contains_nil, Bool.or_false, Bool.or_eq_false_iff, beq_eq_false_iff_ne, ne_eq] at hzw; obtain ⟨hz1, hz2, hz3, hz4, hz5⟩ := hzw; simp [hz1, hz2, hz3, hz4, hz5])) | fail "no"
  trivial
namespace Mine
theorem choices_spec {pg : Program} {ls : List Str} {w : World} {mean : ExcName → Option Value} {mg mb : Str → Option Value} {A₀ : Around} {dp un : Nat} {gd : Option (List Code)} {base h₀ : Heap} {outer : List Env} {L : Addr} {m : Str → Option Value} {cn : Str} {cs : Scope} {ca : Addr} {ccd : Value} {cl : List (Str × Addr)} {s : Shared} {Q E : Value → Shared → Prop} {src S Sd all C Cd Rl dig : Addr} {an rn n : Nat} {k1 k2 k3 j1 j2 tt : Tok} {hg : Addr} {cs' : List Cell} {us : List (Int × Tok)} {kd : String} {R : List (Addr × Obj)}
    (B : Below A₀ base outer h₀) (F : Fr h₀ L s.heap m) (X : Frag.In (hd.heap_39 w.params) h₀) (N : News h₀ L s.heap (core w S Sd all C Cd Rl an rn k1 k2 k3 j1 j2 tt (.ref hg) (.ref dig) 0 cs' ++ (cells w cs' ++ R))) (T : Top pg ls mean mg mb h₀) (hk : cs.kind = .function) (hdp : dp + 150 < recursionLimit) (hun : un + 40 * 150 < cLine)
    (st : StOk cs') (D : Dis (core w S Sd all C Cd Rl an rn k1 k2 k3 j1 j2 tt (.ref hg) (.ref dig) 0 cs' ++ (cells w cs' ++ R))) (hd : (dig, seqO kd (uvs us) n) ∈ R) (hkd : kd = "list" ∨ kd = "tuple") (hz : us.length < 100)
    (hQ : ∀ here' t tt' h' tk', Fr h₀ L h' m → News h₀ L h' (core w S Sd all C Cd Rl an rn k1 k2 k3 j1 j2 tt' here' (.ref dig) t cs' ++ (cells w cs' ++ R)) → Q (.bool true) { s with heap := h', toks := tk' }) :
    wpAny (model PySem.Challenge.rw_pf0070_01.row.prog w) (ktrTop dp un gd cn cs L ca ccd cl outer) (call (.ref 262) [.ref src, .ref S, .ref Rl, .ref dig]) Q E s := by
  w_top off
  have hlen := st.len5
  have hz9 : us.length < 1000 := by omega
  have hd' : (dig, seqO kd (uvs us) n) ∈ cells w cs' ++ R := List.mem_append_right _ hd
  have mk5 : Mark 5 := trivial
  refine wpAny_call ?_
  k_dflt ktr_enter
  (rename Fr _ _ _ _ => F0h); obtain ⟨m0h, F1h⟩ := Mine.fr_hide4 (x1 := Str.ofString "source") (v1 := .ref src) (x2 := Str.ofString "scheduler") (v2 := .ref S) (x3 := Str.ofString "rows") (v3 := .ref Rl) (x4 := Str.ofString "digits") (v4 := .ref dig) F0h rfl rfl rfl rfl; clear F0h
  k_steps
  rename_i Do co ho lo Dt hx l1 hy hz1 hw F9 N9
  dsimp only [Hold]
  have N8 := news_sub (l' := (Do, listOf (uvs us) co) :: (core w S Sd all C Cd Rl an rn k1 k2 k3 j1 j2 tt (.ref hg) (.ref dig) 0 cs' ++ (cells w cs' ++ R))) N9 (fun q hq => List.mem_cons_of_mem _ hq)
  have Dw : Dis ((Do, o0) :: (core w S Sd all C Cd Rl an rn k1 k2 k3 j1 j2 tt (.ref hg) (.ref dig) 0 cs' ++ (cells w cs' ++ R))) := D.cons (allLt_of lo)
  clear N9 l1 lo D
  have W1 : ∀ c ∈ cs', (c.ra, rowObj c) ∈ (Do, listOf (uvs us) co) :: (core w S Sd all C Cd Rl an rn k1 k2 k3 j1 j2 tt (.ref hg) (.ref dig) 0 cs' ++ (cells w cs' ++ R)) := fun c hc => List.mem_cons_of_mem _ (List.mem_append_right _ (List.mem_append_left _ (cells_get c hc).1))
  refine enum_callC (items := (cs'.map fun c => Value.ref c.ra).toArray) (ln := rn) (fun i ys => IntsAre ys (((cs'.take i).filter fun c => c.gst == Str.ofString "ready").map fun c => c.i)) (by rfl) (by k_asm) N8 (by simp) (by simp only [List.size_toArray, List.length_map]; rw [sizeLine_eq]; omega) .nil ?_ ?_
  · intro e it _ i ys nw v t oe oi C' oC D' m₂ h tk E' hv hI hC ha hb F' N' off ne
    obtain ⟨rfl, hI⟩ := hI
    obtain ⟨c, hi', hm, rfl⟩ := get_map hv
    have hcr := W1 c hm
    have hse := (st.same c hm).1
    clear hQ W1
    k_steps
    · exact EndE.intro (by k_asm) (by k_asm) (by walk_at "m:tail") off ⟨rfl, by rw [← take_yes hi' (by rw [← hse]; assumption), (st.idx _ _ hi')]; exact ints_snoc hI _ _⟩
    · exact EndE.intro (by k_asm) (by k_asm) (by walk_at "m:tail") off ⟨rfl, by rw [← take_no hi' (by rw [← hse]; assumption)]; exact hI⟩
  · intro g ys2 hI2
    rw [take_all] at hI2
    obtain ⟨us2, rfl, e2⟩ := ints_uvs hI2
    clear hI2 W1 N8
    have hl2 : us2.length = (rdy cs').length := by have := congrArg List.length e2; simpa using this
    have hl5 : (rdy cs').length ≤ 5 := Nat.le_trans (List.length_filter_le _ _) hlen
    have hz2 : us2.length < 1000 := by omega
    k_steps
    dsimp only [Hold]
    rename_i Dr hx8 tk8 F8 N8 o8
    clear mk5
    have mk4 : Mark 4 := trivial
    k_dflt refine' range1S (n := 2) [Str.ofString "turn", Str.ofString "here", Str.ofString "found", Str.ofString "place", Str.ofString "taken"] (fun i m nw => ∃ hg' t tok tt', 0 ≤ t ∧ t ≤ (i : Int) ∧ m (Str.ofString "taken") = some (.int t tok) ∧ nw = (Dr, LCg.lst (us2.map fun u => Value.int u.1 u.2)) :: (Do, listOf (uvs us) co) :: (core w S Sd all C Cd Rl an rn k1 k2 k3 j1 j2 tt' (.ref hg') (.ref dig) t cs' ++ (cells w cs' ++ R))) ?hh ?F N8 (by decide) ?D ?h0 ?step ?done ?pe; (case hh => exact rfl); (case F => k_asm); (case pe => passes_own)
    case D => exact dis_off1 o8 (Dw.same rfl)
    case h0 => exact ⟨hg, 0, _, tt, by decide, by decide, rfl, rfl⟩
    case step =>
      rintro I i u nw h₁ tk₁ tu oi hi DI ⟨hg', t, tok, tt', ht0, ht1, hmt, rfl⟩ F9 N9 Q' fin'
      clear hQ Dw N8 o8
      rw [map_put hmt] at F9
      simp only [List.cons_append, List.nil_append] at N9
      have ht900 : t < 900 := by omega
      have hcs := fun (c : Cell) (hc : c ∈ cs') => cells_get (w := w) c hc
      k_steps
      dsimp only [Hold]
      rename News _ _ _ (_ :: _ :: _ :: _) => N8
      have N7 := news_sub (l' := (Cd, cdict w j1 j2 (.ref dig) t tt') :: (Sd, sdict w k1 k2 k3 C all (.ref hg')) :: (I, oi) :: (Dr, LCg.lst (us2.map fun u => Value.int u.1 u.2)) :: (Do, listOf (uvs us) co) :: (all, listOf (cs'.map fun c => Value.ref c.g).toArray an) :: (S, instObj 157 Sd) :: (C, instObj 185 Cd) :: (Rl, listOf (cs'.map fun c => Value.ref c.ra).toArray rn) :: (cells w cs' ++ R)) N8 (by walk_at "m:sub9")
      have D7 : Dis ((Cd, o0) :: (Sd, o0) :: (I, oi) :: (Dr, LCg.lst (us2.map fun u => Value.int u.1 u.2)) :: (Do, listOf (uvs us) co) :: (all, listOf (cs'.map fun c => Value.ref c.g).toArray an) :: (S, instObj 157 Sd) :: (C, instObj 185 Cd) :: (Rl, listOf (cs'.map fun c => Value.ref c.ra).toArray rn) :: (cells w cs' ++ R)) := DI.le (by walk_at "m:count")
      clear N8 N9
      k_dflt refine' choose_spec (cs' := cs') (Cd := Cd) (Sd := Sd) (all := all) (C := C) (dig := dig) (k1 := k1) (k2 := k2) (k3 := k3) (j1 := j1) (j2 := j2) (tt := tt') (t := t) (here := .ref hg') (an := an) (us := us) (kd := kd) (n := n) ?B ?F ?X ?N ?T ?k ?d ?u ?o1 ?o2 ?ne ?m1 ?m2 ?m3 ?m4 hlen ?m5 hkd hz9 ht0 ht900 ?h0 ?hq; (case B => k_asm); (case F => k_asm); (case X => k_asm); (case T => k_asm); (case k => first | exact rfl | assumption); (case d => ktr_room); (case u => ktr_units); (case N => exact N7)
      case o1 => exact fun p hp => D7.off p (List.mem_cons_of_mem _ hp)
      case o2 => exact fun p hp => Dis.off (List.nodup_cons.mp D7).2 p hp
      case ne => exact D7.off (Sd, o0) List.mem_cons_self
      case m1 => simp
      case m2 => simp
      case m3 => simp
      case m4 => exact fun c hc => ⟨by simp [(hcs c hc).2.1], by simp [(hcs c hc).2.2.1]⟩
      case m5 => simp [hd]
      case h0 =>
        intro hrd h9 tk9 F9' N9
        have hu2 : us2 = [] := List.length_eq_zero_iff.mp (by rw [hl2, hrd]; rfl)
        subst hu2
        clear N7
        k_steps
        dsimp only
        rename News _ _ _ (_ :: _ :: _ :: _) => N8
        exact fin' _ _ (.inr rfl) <| EndR.next (.inr rfl) (by k_asm) (news_sub N8 (by simp only [List.cons_append, List.nil_append]; walk_at "m:sub9")) (DI.same rfl) ⟨by walk_at "m:st5", DI.same rfl, hg', t, tok, tt', ht0, by omega, rfl, rfl⟩
      case hq =>
        intro c tt2 h9 tk9 hc F9' N9
        clear N7
        have hcm : c ∈ cs' := (List.mem_filter.mp (List.mem_of_getElem? hc)).1
        have hcg := List.mem_append_left R (hcs c hcm).2.1
        have hcd := List.mem_append_left R (hcs c hcm).2.2.1
        rw [← hl2] at hc N9
        obtain ⟨vt, hv2⟩ := us_at e2 hc
        clear hc hcs e2
        have hne2 : us2 ≠ [] := by rintro rfl; cases hv2' : (0:Nat) <;> simp at hv2
        have hemp : ((us2.map fun u => Value.int u.1 u.2).toArray.isEmpty) = false := by
          cases us2 with
          | nil => exact absurd rfl hne2
          | cons a l => simp
        rcases Int.lt_or_le 1 (us2.length : Int) with h1 | h1
        · rw [if_pos h1] at hv2 N9
          have hpk := (pkv_in (us := us) (t := t) (mm := (us2.length : Int)) (by omega)).1
          k_steps
          all_goals try (exfalso; (rename Array.isEmpty _ = true => hx); exact Bool.false_ne_true (hemp.symm.trans hx))
          all_goals try (exfalso; (rename ¬ (1 : Int) < _ => hx); exact hx h1)
          dsimp only [Hold]
          rename News _ _ _ (_ :: _ :: _ :: _) => N9
          rename Fr _ _ _ _ => F9
          k_dflt refine' cut_pred (fun v : Value => ∃ tk, v = Value.int (pkv us t us2.length) tk) F9 N9 ?c1 ?c2
          case c1 =>
            clear mk4
            rcases Int.lt_or_le t us.length with hl | hl
            · have hl' : t < (us.length : Int) := hl
              k_steps
              rename us[_]? = some _ => hv
              exact CutP.mk ⟨_, by rw [pkv, hv]⟩ (by k_asm) (by k_asm)
            · have hl' : ¬ t < (us.length : Int) := by omega
              k_steps
              exact CutP.mk ⟨_, by rw [pkv, List.getElem?_eq_none (by omega)]⟩ (by k_asm) (by k_asm)
          case c2 =>
            rintro v9 h9 tk9 ⟨tk, rfl⟩ F9 N9
            k_steps
            all_goals try (exfalso; (rename _ ≠ _ => hx); exact hx rfl)
            rename News _ _ _ (_ :: _ :: _ :: _) => N8
            rename Fr _ _ _ _ => F8
            refine' fin' _ _ (.inl rfl) (EndR.next (news' := (Dr, LCg.lst (us2.map fun u => Value.int u.1 u.2)) :: (Do, listOf (uvs us) co) :: (core w S Sd all C Cd Rl an rn k1 k2 k3 j1 j2 tt2 (.ref c.g) (.ref dig) (t + 1) cs' ++ (cells w cs' ++ R))) (.inl rfl) F8 ?n ?d ?j)
            case n => exact news_sub N8 (by simp only [List.cons_append, List.nil_append]; walk_at "m:sub9")
            case d => exact DI.same rfl
            case j => exact ⟨by walk_at "m:st5", DI.same rfl, c.g, (t + 1), _, tt2, by omega, by omega, rfl, rfl⟩
        · have h1' : ¬ 1 < (us2.length : Int) := by omega
          have h00 : (0 : Int) ≤ 0 := by omega
          rw [if_neg h1'] at hv2 N9
          k_steps
          all_goals try (exfalso; (rename Array.isEmpty _ = true => hx); exact Bool.false_ne_true (hemp.symm.trans hx))
          all_goals try (exfalso; (rename (1 : Int) < _ => hx); exact h1' hx)
          all_goals try (exfalso; (rename _ ≠ _ => hx); exact hx rfl)
          rename News _ _ _ (_ :: _ :: _ :: _) => N8
          rename Fr _ _ _ _ => F8
          refine' fin' _ _ (.inl rfl) (EndR.next (news' := (Dr, LCg.lst (us2.map fun u => Value.int u.1 u.2)) :: (Do, listOf (uvs us) co) :: (core w S Sd all C Cd Rl an rn k1 k2 k3 j1 j2 tt2 (.ref c.g) (.ref dig) t cs' ++ (cells w cs' ++ R))) (.inl rfl) F8 ?n ?d ?j)
          case n => exact news_sub N8 (by simp only [List.cons_append, List.nil_append]; walk_at "m:sub9")
          case d => exact DI.same rfl
          case j => exact ⟨by walk_at "m:st5", DI.same rfl, c.g, t, _, tt2, ht0, by omega, rfl, rfl⟩
    case done =>
      rintro h' tk u nw ⟨hg', t, tok, tt', ht0, ht1, hmt, rfl⟩ F9 N9
      rw [map_put hmt] at F9
      clear mk4

      k_steps
      all_goals try (exfalso; (rename _ ≠ _ => hx); exact hx rfl)
      rename News _ _ _ _ => N8
      exact hQ (.ref hg') t _ _ _ (by k_asm) (news_sub N8 (by walk_at "m:sub9"))
end Mine

/- P1 -/
theorem Mine.word74 : True := by
  k_with_none
  k_with "m:sub#" => first | ((k_here; (with_reducible show wpAny _ _ (subscriptTail _ _ (Value.ref _) (Value.int _ _)) _ _ _); k_dflt (refine' Mine.m_sub ?Nw ?mw ?aw ?bw ?xw ?_; (case Nw => k_asm); (case mw => k_mem); (case aw => decide); (case bw => decide); (case xw => rfl); k_whole))) | fail "no"
  k_with "subscriptTail Name Constant ref int#" => first | (walk_at "m:sub") | fail "no"
  k_with "m:compT#" => first | ((k_here; lct_look; k_dflt (refine LCt.ListComp_T (F₀ := by k_asm) (by with_unfolding_all rfl) (by decide) (by rfl) (by decide) (by rfl) ?_))) | fail "no"
  k_with "m:comp#" => first | ((k_here; k_dflt (refine LCg.ListComp_U (F₀ := by k_asm) (by with_unfolding_all rfl) (by decide) (by rfl) (by decide) (by rfl) ?_))) | fail "no"
  k_with "eval ListComp Name cons#" => first | (first | walk_at "m:compT" | walk_at "m:comp") | fail "no"
  k_with "eval ListComp Tuple cons#" => first | (first | walk_at "m:compT" | walk_at "m:comp") | fail "no"
  k_with "eval ListComp List cons#" => first | (first | walk_at "m:compT" | walk_at "m:comp") | fail "no"
  k_with "eval ListComp Attribute cons#" => first | (first | walk_at "m:compT" | walk_at "m:comp") | fail "no"
  k_with "CompSrcT#" => first | ((k_here; k_dflt (refine LCt.CompSrcT.ledger (by rfl) (by k_asm) (by k_asm) (by k_mem) (by first | size_fits | (simp only [List.size_toArray, List.length_map]; rw [sizeLine_eq]; omega)) ?_); intro _)) | fail "no"
  k_with "CompSrc#" => first | ((k_here; k_dflt (refine LCg.CompSrc.ledger (by rfl) (by k_asm) (by k_asm) (by k_mem) (by first | size_fits | (simp only [List.size_toArray, List.length_map]; rw [sizeLine_eq]; omega)) ?_); intro _)) | fail "no"
  k_with "m:in#" => first | (first | assumption | ((with_reducible refine List.mem_cons_of_mem _ ?_); walk_at "m:in") | ((with_reducible refine List.mem_append_right _ ?_); walk_at "m:in") | ((with_reducible refine List.mem_append_left _ ?_); walk_at "m:in")) | fail "no"
  k_with "m:tail#" => first | ((intro _ _; walk_at "m:in")) | fail "no"
  k_with "m:src#" => first | (exact Or.inr ⟨_, by k_mem, rfl, _, rfl⟩) | fail "no"
  k_with "m:units#" => first | (first | ktr_units | (have hcL9 := cLine_is; (simp only [units_in1, units_deeper, Around.mark_units] at *); (try dsimp only [ktrTop] at *); omega)) | fail "no"
  k_with "m:eqnil#" => first | ((k_here; (with_reducible show wpAny _ _ (compareOp CmpOp.Eq (Value.ref _) (Value.ref _)) _ _ _); k_dflt (refine' Mine.m_eq_nil ?Nw ?aw ?bw ?uw ?_; (case Nw => k_asm); (case bw => k_mem); (case aw => k_mem); (case uw => walk_at "m:units"); k_whole))) | fail "no"
  k_with "m:nenil#" => first | ((k_here; (with_reducible show wpAny _ _ (compareOp CmpOp.NotEq (Value.ref _) (Value.ref _)) _ _ _); k_dflt (refine' Mine.m_ne_nil ?Nw ?aw ?bw ?uw ?_; (case Nw => k_asm); (case bw => k_mem); (case aw => k_mem); (case uw => walk_at "m:units"); k_whole))) | fail "no"
  k_with "compareOp Eq ref ref#" => first | (walk_at "m:eqnil") | fail "no"
  k_with "m:nesame#" => first | ((k_here; (with_reducible show wpAny _ _ (compareOp CmpOp.NotEq (Value.ref _) (Value.ref _)) _ _ _); k_dflt (refine' Mine.m_ne_same ?Nw ?aw ?bw ?uw ?_ ?_; (case Nw => k_asm); (case aw => k_mem); (case bw => k_mem); (case uw => walk_at "m:units")))) | fail "no"
  k_with "compareOp NotEq ref ref#" => first | (first | walk_at "m:nenil" | walk_at "m:nesame") | fail "no"
  k_with "m:cend#" => first | (refine LCg.CompEnd.intro (by k_asm) (by k_asm) _ (by walk_at "m:tail") (by assumption) (by walk_at "m:src") ⟨rfl, ?_⟩) | fail "no"
  k_with "m:back#" => first | ((rename News _ _ _ _ => kN9; exact fun p9 hp9 => kN9 p9 (by walk_at "m:in"))) | fail "no"
  k_with "m:perm#" => first | ((intro _ hp9w; simp only [List.mem_cons, List.mem_append, List.cons_append, List.append_assoc, List.nil_append, List.not_mem_nil, or_false, false_or] at hp9w ⊢; (repeat' ((with_reducible refine Or.elim hp9w (fun hq9 => ?_) (fun hq9 => ?_)); clear hp9w; rename_i hp9w)) <;> simp only [hp9w, true_or, or_true])) | fail "no"
  k_with "m:sees#" => first | (first | assumption | exact Mine.Sees.mono (by assumption) (by walk_at "m:tail")) | fail "no"
  k_with "m:rows#" => first | (first | assumption | exact Mine.Rows.mono (by assumption) (by walk_at "m:tail")) | fail "no"
  k_with "m:off#" => first | (first | assumption | exact Mine.off_lt (by assumption) | (k_all)) | fail "no"
  k_with "m:small#" => first | (first | assumption | decide | (simp only [List.size_toArray, List.length_map, List.length_cons, List.length_nil]; omega) | (simp only [List.size_toArray, List.length_map, List.length_cons, List.length_nil] at *; omega)) | fail "no"
  k_with "call builtin:len cons nil#" => first | ((k_here; (with_reducible show wpAny _ _ (call (Value.builtin _) [Value.ref _]) _ _ _); k_dflt (refine' Mine.m_len ?Nw ?mw ?zw ?_; (case Nw => k_asm); (case mw => k_mem); (case zw => walk_at "m:small"); k_whole); intro _ _)) | fail "no"
  k_with "m:subS#" => first | ((k_here; (with_reducible show wpAny _ _ (subscriptTail _ _ (Value.ref _) (Value.int _ _)) _ _ _); k_dflt (refine' Mine.m_subS ?Nw ?mw ?aw ?bw ?zw ?_; (case Nw => k_asm); (case mw => k_mem); (case aw => first | assumption | omega); (case bw => first | assumption | omega); (case zw => walk_at "m:small"); k_whole); intro _ _)) | fail "no"
  k_with "subscriptTail Name Call ref int#" => first | (walk_at "m:subS") | fail "no"
  k_with "m:size#" => first | (first | assumption | decide | (simp only [List.size_toArray, List.length_cons, List.length_nil]; omega) | (simp; done)) | fail "no"
  k_with "m:split#" => first | (repeat (rename _ ∧ _ => hx9; have hy9 := And.left hx9; have hz9 := And.right hx9; clear hx9)) | fail "no"
  k_with "m:dis#" => first | ((simp only [List.map_cons, List.nodup_cons, List.mem_cons, not_or, List.cons_append, List.nil_append] at *; walk_at "m:split")) | fail "no"
  k_with "m:count#" => first | ((intro _; (try simp only [Mine.cells3_snoc, Mine.cells_mid, Mine.rowsOf_mid]); (try simp only [List.map_append, List.map_cons, List.map_nil, List.count_append, List.count_cons, List.count_nil, List.nil_append, List.cons_append]); omega)) | fail "no"
  k_with "m:dis9#" => first | (first | assumption | exact Mine.Dis.le (by assumption) (by walk_at "m:count")) | fail "no"
  k_with "m:lt#" => first | (first | assumption | exact True.intro | ((with_reducible refine Mine.allLt_le ?_ ?_) ; (first | (omega) | skip); assumption) | (refine And.intro ?_ ?_; (try dsimp only); omega; walk_at "m:lt") | (refine Mine.allLt_le (Nat.le_of_lt ?_) ?_; rotate_left; assumption; omega)) | fail "no"
  k_with "m:mem9#" => first | (first | exact List.mem_cons_self | (refine List.mem_cons_of_mem _ ?_; walk_at "m:mem9") | (refine List.mem_append_left _ ?_; walk_at "m:mem9") | (refine List.mem_append_right _ ?_; walk_at "m:mem9")) | fail "no"
  k_with "m:in9#" => first | (first | assumption | (refine List.mem_cons_of_mem _ ?_; walk_at "m:in9") | (refine List.mem_append_left _ ?_; walk_at "m:in9") | (refine List.mem_append_right _ ?_; walk_at "m:in9")) | fail "no"
  k_with "m:sub9#" => first | (first | (refine List.forall_mem_cons.mpr ⟨?_, ?_⟩; walk_at "m:mem9"; walk_at "m:sub9") | (refine List.forall_mem_append.mpr ⟨?_, ?_⟩; walk_at "m:sub9"; walk_at "m:sub9") | (intro _ hp9w; exact absurd hp9w List.not_mem_nil) | (intro _ hp9w; walk_at "m:in9")) | fail "no"
  k_with "compareOp IsNot none#" => first | ((k_here; k_dflt (refine Mine.m_isnot (by assumption) (by assumption) ?_))) | fail "no"
  k_with "m:subA#" => first | ((k_here; (with_reducible show wpAny _ _ (subscriptTail _ _ (Value.ref _) (Value.int _ _)) _ _ _); k_dflt (refine' Mine.m_sub ?Nw ?mw ?aw ?bw ?xw ?_; (case Nw => k_asm); (case mw => k_mem); (case xw => assumption); (case aw => first | assumption | omega); (case bw => first | decide | omega); k_whole))) | fail "no"
  k_with "subscriptTail Name Name ref int#" => first | (first | walk_at "m:subA" | walk_at "m:subS") | fail "no"
  k_with "subscriptTail Attribute Name Name ref int#" => first | (first | walk_at "m:subA" | walk_at "m:subS") | fail "no"
  k_with "m:enterD#" => first | ((refine' code_def ?k1w ?k2w ?k3w ?k4w ?k5w ?kAw ?kFw ?kKw ?k6w ?k7w ?k8w ?k9w ?kBw ?_ ?c2w ?c3w ?c4w ?c5w; (case kAw => exact rfl); (case kFw => exact rfl); (case kKw => first | exact rfl | assumption); (case k1w => k_asm); (case k2w => k_asm); (case k3w => k_asm); (case k4w => k_asm); (case k5w => k_asm); (case k6w => k_is); (case k7w => k_is); (case k8w => k_room); (case k9w => exact Mine.wake_binds (Frag.In.keeps (by k_asm) (Fr.keep (by k_asm))) (by k_is) rfl); (case c5w => decide); (case kBw => exact locs rfl); (case c2w => exact rfl); (case c3w => exact rfl); (case c4w => exact rfl); k_whole; intro _ _ _ _ _ _ B'w _ _; (try dsimp only); (try k_lift B'w); (try k_fold))) | fail "no"
  k_with "call ref cons nil#" => first | (((try dsimp only [List.nil_append, List.cons_append]); (with_reducible show wpAny _ _ (call (Value.ref 123) [Value.ref _, Value.int _ _, _]) _ _ _); (refine wpAny_call ?_); k_dflt (walk_at "m:enterD"))) | fail "no"
  trivial

namespace Mine
section
variable {prog : Program} {w : World} {A : Around} {E : Value → Shared → Prop} {s : Shared} {g : Heap} {L d : Addr} {m : Str → Option Value} {vs : List Value} {u : Tok} {Q : Value → Shared → Prop}
theorem m_lenG (F : Fr g L s.heap m) (hL : g.IsList d vs.toArray) (hz : vs.length < 1000) (h : ∀ t tk, Q (.int ((vs.length : Nat) : Int) t) { s with toks := tk }) : wpAny (model prog w) A (call (.builtin "len") [.ref d]) Q E s := by
  have e : vs.toArray.size = vs.length := by simp
  refine len_list (F.lst hL) (by rw [e]; omega) ?_
  rw [e]; exact h _ _
theorem m_subG {value slice : PySem.Expr} {i : Int} {t : Tok} (F : Fr g L s.heap m) (hL : g.IsList d vs.toArray) (hx : vs[0]? = some (.int i t)) (h : Q (.int i t) s)
    (hs : subscripted slice false (.ref d) (.int 0 u) = operate [.ref d, .int 0 u] (getItem (.ref d) (.int 0 u)) := by with_unfolding_all rfl) (hg : ∀ r, letTemporaryGo value (.ref d) r = pure () := by intro _; with_unfolding_all rfl) :
    wpAny (model prog w) A (subscriptTail value slice (.ref d) (.int 0 u)) Q E s :=
  item_listL (F.lst hL) (by decide) (by decide) hx h hs hg
end
end Mine
theorem Mine.word75 : True := by
  k_with "call builtin:len cons nil#" => first | ((k_here; (with_reducible show wpAny _ _ (call (Value.builtin _) [Value.ref _]) _ _ _); k_dflt (refine' Mine.m_lenG ?Fw ?mw ?zw ?_; (case Fw => k_asm); (case mw => assumption); (case zw => assumption); k_whole); intro _ _)) | fail "no"
  k_with "subscriptTail Name Name ref int#" => first | ((k_here; (with_reducible show wpAny _ _ (subscriptTail _ _ (Value.ref _) (Value.int _ _)) _ _ _); k_dflt (refine' Mine.m_subG ?Fw ?mw ?aw ?_; (case Fw => k_asm); (case mw => assumption); (case aw => assumption); k_whole))) | fail "no"
  trivial
namespace Mine
theorem ite01 {c : Bool} : (0 : Int) ≤ if c = true then 1 else 0 := by cases c <;> decide
theorem pool_spec {pg : Program} {ls : List Str} {w : World} {mean : ExcName → Option Value} {mg mb : Str → Option Value} {A₀ : Around} {dp un : Nat} {gd : Option (List Code)} {base h₀ : Heap} {outer : List Env} {L : Addr} {m : Str → Option Value} {cn : Str} {cs : Scope} {ca : Addr} {ccd : Value} {cl : List (Str × Addr)} {s : Shared} {Q E : Value → Shared → Prop} {Sc : Addr} {vs : List Value} {ns : List Int} {kt : Tok} {news : List (Addr × Obj)}
    (B : Below A₀ base outer h₀) (F : Fr h₀ L s.heap m) (X : Frag.In (hd.heap_39 w.params) h₀) (N : News h₀ L s.heap (news)) (T : Top pg ls mean mg mb h₀) (hk : cs.kind = .function) (hdp : dp + 20 < recursionLimit) (hun : un + 40 * 20 < cLine)
    (hSc : h₀.IsList Sc vs.toArray) (hI : IntsAre vs ns) (hl : vs.length < 1000)
    (h : ∀ P a b ta tb h' tk', SrcOk a b → (∀ q ∈ news, q.1 < P) → Fr h₀ L h' m → News h₀ L h' ((P, listOf #[.int a ta, .int b tb] 0) :: news) → Q (.ref P) { s with heap := h', toks := tk' }) :
    wpAny (model PySem.Challenge.rw_pf0070_01.row.prog w) (ktrTop dp un gd cn cs L ca ccd cl outer) (call (.ref 196) [.ref Sc, .int 0 kt]) Q E s := by
  w_top off
  refine wpAny_call ?_
  k_dflt ktr_enter
  (rename Fr _ _ _ _ => F0h); obtain ⟨m0h, F1h⟩ := Mine.fr_hide2 (x1 := Str.ofString "script") (v1 := .ref Sc) (x2 := Str.ofString "k") (v2 := .int 0 kt) F0h rfl rfl; clear F0h
  rename Fr h₀ _ _ _ => FG9
  have hSc9 := FG9.lst hSc
  clear FG9
  cases hI with
  | nil =>
    k_steps
    rename News _ _ _ (_ :: _) => N8
    exact h _ _ _ _ _ _ _ ⟨by decide, Int.fmod_nonneg_of_pos _ (by decide), Int.fmod_lt_of_pos _ (by decide)⟩ (by assumption) (by k_asm) N8
  | cons i t hI' =>
    rename List Value => vs'
    have hx9 : (Value.int i t :: vs')[0]? = some (.int i t) := rfl
    k_steps
    all_goals try (exfalso; (rename ¬ (0 : Int) < _ => hx); exact hx (by simp only [List.length_cons]; omega))
    rename News _ _ _ (_ :: _) => N8
    exact h _ _ _ _ _ _ _ ⟨Int.mul_nonneg (by split <;> omega) ite01, Int.fmod_nonneg_of_pos _ (by decide), Int.fmod_lt_of_pos _ (by decide)⟩ (by assumption) (by k_asm) N8
end Mine

/- Rc -/
namespace Mine
open PySem.Spec PySem.Calls PyProof.V PyProof.Rows.LCg
section
variable {prog : Program} {w : World} {A : Around} {E : Value → Shared → Prop} {s : Shared} {h₀ : Heap} {L : Addr} {m : Str → Option Value} {env : Env}
theorem compEnd_mono2 {s₁ : Shared} {I C D : Addr} {oI oC oD : Obj} {S : List (Addr × Obj) → Prop} {r r' : Value → List (Addr × Obj) → Prop} {y : Value} {s₂ : Shared} (h : CompEnd h₀ L m s₁ I oI C oC D oD S r y s₂) (k : ∀ nw, r y nw → r' y nw) : CompEnd h₀ L m s₁ I oI C oC D oD S r' y s₂ :=
  let ⟨h', tk, nw, e, F, N, o, hS, hr⟩ := h
  ⟨h', tk, nw, e, F, N, o, hS, k _ hr⟩
/-- a turn of a comprehension whose ledger may change -/
def TurnC (prog : Program) (w : World) (A : Around) (h₀ : Heap) (L : Addr) (m : Str → Option Value) (env : Env) (elt : PySem.Expr) (x : Str) (scope : Scope) (cl : List (Str × Addr)) (s : Shared) (S : List (Addr × Obj) → Prop) (P : Nat → Value → Prop) (n : Nat) (Inv : Nat → List Value → List (Addr × Obj) → Prop) : Prop :=
  ∀ i ys nw v I oI C oC D m₂ h tk (E' : Value → Shared → Prop), i < n → Inv i ys nw → P i v → NsObj oC m₂ → m₂ x = some v → Fr h₀ L h m → News h₀ L h ((I, oI) :: (C, oC) :: (D, lst ys) :: nw) → Off3 I C D nw → ((@Ne Nat I C) ∧ (@Ne Nat I D) ∧ (@Ne Nat C D)) →
    wpAny (model prog w) A (eval elt (compEnvC scope cl C env)) (CompEnd h₀ L m { s with heap := h, toks := tk } I oI C oC D (lst ys) S (fun y nw' => Inv (i + 1) (ys ++ [y]) nw')) E' { s with heap := h, toks := tk }
theorem rest_ind {elt : PySem.Expr} {x : Str} {scope : Scope} {cl : List (Str × Addr)} {S : List (Addr × Obj) → Prop} {P : Nat → Value → Prop} {Fin : List Value → List (Addr × Obj) → Prop} {n : Nat} {Inv : Nat → List Value → List (Addr × Obj) → Prop}
    (step : TurnC prog w A h₀ L m env elt x scope cl s S P n Inv) (fin : ∀ ys nw, Inv n ys nw → Fin ys nw) :
    ∀ (k i : Nat) (ys : List Value) (news : List (Addr × Obj)), i + k = n → Inv i ys news → CompRest prog w A h₀ L m env elt x scope cl s S P Fin k i ys news
  | 0, i, ys, news, e, h => fin ys news (by have : i = n := by omega
                                            exact this ▸ h)
  | k + 1, i, ys, news, e, h => CompRest.succ fun v I oI C oC D m₂ h' tk E' hP hC hx F N o ne =>
      wpAny_mono (step i ys news v I oI C oC D m₂ h' tk E' (by omega) h hP hC hx F N o ne) (fun y s₂ h₂ => compEnd_mono2 h₂ fun nw hi => rest_ind step fin k (i + 1) (ys ++ [y]) nw (by omega) hi) fun _ _ e => e
theorem TurnC.of {elt : PySem.Expr} {x : Str} {scope : Scope} {cl : List (Str × Addr)} {S : List (Addr × Obj) → Prop} {P : Nat → Value → Prop} {n : Nat} {Inv : Nat → List Value → List (Addr × Obj) → Prop} {h : Heap} {tk : Nat}
    (t : TurnC prog w A h₀ L m env elt x scope cl s S P n Inv) : TurnC prog w A h₀ L m env elt x scope cl { s with heap := h, toks := tk } S P n Inv := t
theorem comp_range1 {elt : PySem.Expr} {x : Str} {scope : Scope} {cl : List (Str × Addr)} {Fin : Shared → List Value → List (Addr × Obj) → Prop} {n : Nat} {tn : Tok} {news : List (Addr × Obj)} (Inv : Nat → List Value → List (Addr × Obj) → Prop)
    (hh : A.handled = none) (F : Fr h₀ L s.heap m) (N : News h₀ L s.heap news) (hn : n < 1000) (h0 : Inv 0 [] news)
    (step : TurnC prog w A h₀ L m env elt x scope cl s (fun _ => True) (fun i v => ∃ t, v = .int (0 + (i : Int)) t) n Inv)
    (fin : ∀ g tk ys nw, Inv n ys nw → Fin { s with heap := g, toks := tk } ys nw) :
    wpAny (model prog w) A (call (.type "range") [.int (n : Int) tn]) (CompSrc prog w A h₀ L m env elt x scope cl Fin) E s := by
  refine call_range_1 ?_
  have es : Builtin.Range.rangeSize 0 (n : Int) 1 = (n : Int) := by rw [rangeSize_one]; split <;> omega
  refine CompSrc.range (a := 0) (b := n) hh (F.push _) (fun p hp => ⟨Heap.get?_push_of_some _ (N p hp).1, (N p hp).2⟩) (Heap.get?_push_size _ rfl) (small_one (by omega) (by omega) (by omega) (by omega)) es (by rw [sizeLine_eq]; omega) fun g => ?_
  exact rest_ind (s := { s with heap := g, toks := s.toks + 1 + 1 }) (fun i ys nw v I oI C oC D m₂ h tk E' => step i ys nw v I oI C oC D m₂ h tk E') (fun ys nw hi => fin g _ ys nw hi) n 0 [] news (by omega) h0
end
end Mine

/- Rw -/
theorem Mine.word76 : True := by
  k_with_none
  k_with "m:sub#" => first | ((k_here; (with_reducible show wpAny _ _ (subscriptTail _ _ (Value.ref _) (Value.int _ _)) _ _ _); k_dflt (refine' Mine.m_sub ?Nw ?mw ?aw ?bw ?xw ?_; (case Nw => k_asm); (case mw => k_mem); (case aw => decide); (case bw => decide); (case xw => rfl); k_whole))) | fail "no"
  k_with "subscriptTail Name Constant ref int#" => first | (walk_at "m:sub") | fail "no"
  k_with "m:compT#" => first | ((k_here; lct_look; k_dflt (refine LCt.ListComp_T (F₀ := by k_asm) (by with_unfolding_all rfl) (by decide) (by rfl) (by decide) (by rfl) ?_))) | fail "no"
  k_with "m:comp#" => first | ((k_here; k_dflt (refine LCg.ListComp_U (F₀ := by k_asm) (by with_unfolding_all rfl) (by decide) (by rfl) (by decide) (by rfl) ?_))) | fail "no"
  k_with "eval ListComp Name cons#" => first | (first | walk_at "m:compT" | walk_at "m:comp") | fail "no"
  k_with "eval ListComp Tuple cons#" => first | (first | walk_at "m:compT" | walk_at "m:comp") | fail "no"
  k_with "eval ListComp List cons#" => first | (first | walk_at "m:compT" | walk_at "m:comp") | fail "no"
  k_with "eval ListComp Attribute cons#" => first | (first | walk_at "m:compT" | walk_at "m:comp") | fail "no"
  k_with "CompSrcT#" => first | ((k_here; k_dflt (refine LCt.CompSrcT.ledger (by rfl) (by k_asm) (by k_asm) (by k_mem) (by first | size_fits | (simp only [List.size_toArray, List.length_map]; rw [sizeLine_eq]; omega)) ?_); intro _)) | fail "no"
  k_with "CompSrc#" => first | ((k_here; k_dflt (refine LCg.CompSrc.ledger (by rfl) (by k_asm) (by k_asm) (by k_mem) (by first | size_fits | (simp only [List.size_toArray, List.length_map]; rw [sizeLine_eq]; omega)) ?_); intro _)) | fail "no"
  k_with "m:in#" => first | (first | assumption | ((with_reducible refine List.mem_cons_of_mem _ ?_); walk_at "m:in") | ((with_reducible refine List.mem_append_right _ ?_); walk_at "m:in") | ((with_reducible refine List.mem_append_left _ ?_); walk_at "m:in")) | fail "no"
  k_with "m:tail#" => first | ((intro _ _; walk_at "m:in")) | fail "no"
  k_with "m:src#" => first | (exact Or.inr ⟨_, by k_mem, rfl, _, rfl⟩) | fail "no"
  k_with "m:units#" => first | (first | ktr_units | (have hcL9 := cLine_is; (simp only [units_in1, units_deeper, Around.mark_units] at *); (try dsimp only [ktrTop] at *); omega)) | fail "no"
  k_with "m:eqnil#" => first | ((k_here; (with_reducible show wpAny _ _ (compareOp CmpOp.Eq (Value.ref _) (Value.ref _)) _ _ _); k_dflt (refine' Mine.m_eq_nil ?Nw ?aw ?bw ?uw ?_; (case Nw => k_asm); (case bw => k_mem); (case aw => k_mem); (case uw => walk_at "m:units"); k_whole))) | fail "no"
  k_with "m:nenil#" => first | ((k_here; (with_reducible show wpAny _ _ (compareOp CmpOp.NotEq (Value.ref _) (Value.ref _)) _ _ _); k_dflt (refine' Mine.m_ne_nil ?Nw ?aw ?bw ?uw ?_; (case Nw => k_asm); (case bw => k_mem); (case aw => k_mem); (case uw => walk_at "m:units"); k_whole))) | fail "no"
  k_with "compareOp Eq ref ref#" => first | (walk_at "m:eqnil") | fail "no"
  k_with "m:nesame#" => first | ((k_here; (with_reducible show wpAny _ _ (compareOp CmpOp.NotEq (Value.ref _) (Value.ref _)) _ _ _); k_dflt (refine' Mine.m_ne_same ?Nw ?aw ?bw ?uw ?_ ?_; (case Nw => k_asm); (case aw => k_mem); (case bw => k_mem); (case uw => walk_at "m:units")))) | fail "no"
  k_with "compareOp NotEq ref ref#" => first | (first | walk_at "m:nenil" | walk_at "m:nesame") | fail "no"
  k_with "m:cend#" => first | (refine LCg.CompEnd.intro (by k_asm) (by k_asm) _ (by walk_at "m:tail") (by assumption) (by walk_at "m:src") ⟨rfl, ?_⟩) | fail "no"
  k_with "m:back#" => first | ((rename News _ _ _ _ => kN9; exact fun p9 hp9 => kN9 p9 (by walk_at "m:in"))) | fail "no"
  k_with "m:perm#" => first | ((intro _ hp9w; simp only [List.mem_cons, List.mem_append, List.cons_append, List.append_assoc, List.nil_append, List.not_mem_nil, or_false, false_or] at hp9w ⊢; (repeat' ((with_reducible refine Or.elim hp9w (fun hq9 => ?_) (fun hq9 => ?_)); clear hp9w; rename_i hp9w)) <;> simp only [hp9w, true_or, or_true])) | fail "no"
  k_with "m:sees#" => first | (first | assumption | exact Mine.Sees.mono (by assumption) (by walk_at "m:tail")) | fail "no"
  k_with "m:rows#" => first | (first | assumption | exact Mine.Rows.mono (by assumption) (by walk_at "m:tail")) | fail "no"
  k_with "m:off#" => first | (first | assumption | exact Mine.off_lt (by assumption) | (k_all)) | fail "no"
  k_with "m:small#" => first | (first | assumption | decide | (simp only [List.size_toArray, List.length_map, List.length_cons, List.length_nil]; omega) | (simp only [List.size_toArray, List.length_map, List.length_cons, List.length_nil] at *; omega)) | fail "no"
  k_with "call builtin:len cons nil#" => first | ((k_here; (with_reducible show wpAny _ _ (call (Value.builtin _) [Value.ref _]) _ _ _); k_dflt (refine' Mine.m_len ?Nw ?mw ?zw ?_; (case Nw => k_asm); (case mw => k_mem); (case zw => walk_at "m:small"); k_whole); intro _ _)) | fail "no"
  k_with "m:subS#" => first | ((k_here; (with_reducible show wpAny _ _ (subscriptTail _ _ (Value.ref _) (Value.int _ _)) _ _ _); k_dflt (refine' Mine.m_subS ?Nw ?mw ?aw ?bw ?zw ?_; (case Nw => k_asm); (case mw => k_mem); (case aw => first | assumption | omega); (case bw => first | assumption | omega); (case zw => walk_at "m:small"); k_whole); intro _ _)) | fail "no"
  k_with "subscriptTail Name Call ref int#" => first | (walk_at "m:subS") | fail "no"
  k_with "m:size#" => first | (first | assumption | decide | (simp only [List.size_toArray, List.length_cons, List.length_nil]; omega) | (simp; done)) | fail "no"
  k_with "m:split#" => first | (repeat (rename _ ∧ _ => hx9; have hy9 := And.left hx9; have hz9 := And.right hx9; clear hx9)) | fail "no"
  k_with "m:dis#" => first | ((simp only [List.map_cons, List.nodup_cons, List.mem_cons, not_or, List.cons_append, List.nil_append] at *; walk_at "m:split")) | fail "no"
  k_with "m:count#" => first | ((intro _; (try simp only [Mine.cells3_snoc, Mine.cells_mid, Mine.rowsOf_mid]); (try simp only [List.map_append, List.map_cons, List.map_nil, List.count_append, List.count_cons, List.count_nil, List.nil_append, List.cons_append]); omega)) | fail "no"
  k_with "m:dis9#" => first | (first | assumption | exact Mine.Dis.le (by assumption) (by walk_at "m:count")) | fail "no"
  k_with "m:lt#" => first | (first | assumption | exact True.intro | ((with_reducible refine Mine.allLt_le ?_ ?_) ; (first | (omega) | skip); assumption) | (refine And.intro ?_ ?_; (try dsimp only); omega; walk_at "m:lt") | (refine Mine.allLt_le (Nat.le_of_lt ?_) ?_; rotate_left; assumption; omega)) | fail "no"
  k_with "m:mem9#" => first | (first | exact List.mem_cons_self | (refine List.mem_cons_of_mem _ ?_; walk_at "m:mem9") | (refine List.mem_append_left _ ?_; walk_at "m:mem9") | (refine List.mem_append_right _ ?_; walk_at "m:mem9")) | fail "no"
  k_with "m:in9#" => first | (first | assumption | (refine List.mem_cons_of_mem _ ?_; walk_at "m:in9") | (refine List.mem_append_left _ ?_; walk_at "m:in9") | (refine List.mem_append_right _ ?_; walk_at "m:in9")) | fail "no"
  k_with "m:sub9#" => first | (first | (refine List.forall_mem_cons.mpr ⟨?_, ?_⟩; walk_at "m:mem9"; walk_at "m:sub9") | (refine List.forall_mem_append.mpr ⟨?_, ?_⟩; walk_at "m:sub9"; walk_at "m:sub9") | (intro _ hp9w; exact absurd hp9w List.not_mem_nil) | (intro _ hp9w; walk_at "m:in9")) | fail "no"
  k_with "compareOp IsNot none#" => first | ((k_here; k_dflt (refine Mine.m_isnot (by assumption) (by assumption) ?_))) | fail "no"
  k_with "m:subA#" => first | ((k_here; (with_reducible show wpAny _ _ (subscriptTail _ _ (Value.ref _) (Value.int _ _)) _ _ _); k_dflt (refine' Mine.m_sub ?Nw ?mw ?aw ?bw ?xw ?_; (case Nw => k_asm); (case mw => k_mem); (case xw => assumption); (case aw => first | assumption | omega); (case bw => first | decide | omega); k_whole))) | fail "no"
  k_with "subscriptTail Name Name ref int#" => first | (first | walk_at "m:subA" | walk_at "m:subS") | fail "no"
  k_with "subscriptTail Attribute Name Name ref int#" => first | (first | walk_at "m:subA" | walk_at "m:subS") | fail "no"
  k_with "m:enterD#" => first | ((refine' code_def ?k1w ?k2w ?k3w ?k4w ?k5w ?kAw ?kFw ?kKw ?k6w ?k7w ?k8w ?k9w ?kBw ?_ ?c2w ?c3w ?c4w ?c5w; (case kAw => exact rfl); (case kFw => exact rfl); (case kKw => first | exact rfl | assumption); (case k1w => k_asm); (case k2w => k_asm); (case k3w => k_asm); (case k4w => k_asm); (case k5w => k_asm); (case k6w => k_is); (case k7w => k_is); (case k8w => k_room); (case k9w => exact Mine.wake_binds (Frag.In.keeps (by k_asm) (Fr.keep (by k_asm))) (by k_is) rfl); (case c5w => decide); (case kBw => exact locs rfl); (case c2w => exact rfl); (case c3w => exact rfl); (case c4w => exact rfl); k_whole; intro _ _ _ _ _ _ B'w _ _; (try dsimp only); (try k_lift B'w); (try k_fold))) | fail "no"
  k_with "call ref cons nil#" => first | (((try dsimp only [List.nil_append, List.cons_append]); (with_reducible show wpAny _ _ (call (Value.ref 123) [Value.ref _, Value.int _ _, _]) _ _ _); (refine wpAny_call ?_); k_dflt (walk_at "m:enterD"))) | fail "no"
  k_with "call ref nil#" => first | (((try dsimp only [List.nil_append, List.cons_append]); (with_reducible show wpAny _ _ (call (Value.ref 203) [Value.ref _, Value.int _ _]) _ _ _); k_dflt (refine' Mine.takeU ?Bw ?Fw ?Xw ?Nw ?Tw ?kw ?dw ?uw ?ow ?aw ?tw ?t2w ?_; (case Bw => k_asm); (case Fw => k_asm); (case Xw => k_asm); (case Nw => k_asm); (case Tw => k_asm); (case kw => first | exact rfl | assumption); (case dw => ktr_room); (case uw => ktr_units); (case ow => k_updF); (case aw => assumption); (case tw => first | decide | assumption | omega); (case t2w => first | decide | assumption | omega)); intro _ _ _ _ _ _ _ _ _ _ _ _ N9w; (try dsimp only at N9w))) | fail "no"
  k_with "call ref cons nil#" => first | (((try dsimp only [List.nil_append, List.cons_append]); (with_reducible show wpAny _ _ (call (Value.ref 203) [Value.ref _, Value.int _ _]) _ _ _); k_dflt (refine' Mine.takeU ?Bw ?Fw ?Xw ?Nw ?Tw ?kw ?dw ?uw ?ow ?aw ?tw ?t2w ?_; (case Bw => k_asm); (case Fw => k_asm); (case Xw => k_asm); (case Nw => k_asm); (case Tw => k_asm); (case kw => first | exact rfl | assumption); (case dw => ktr_room); (case uw => ktr_units); (case ow => k_updF); (case aw => assumption); (case tw => first | decide | assumption | omega); (case t2w => first | decide | assumption | omega)); intro _ _ _ _ _ _ _ _ _ _ _ _ N9w; (try dsimp only at N9w))) | fail "no"
  k_with "call ref nil#" => first | (((try dsimp only [List.nil_append, List.cons_append]); (with_reducible show wpAny _ _ (call (Value.ref 210) [Value.ref _, Value.ref _]) _ _ _); k_dflt (refine' Mine.oneU ?Bw ?Fw ?Xw ?Nw ?Tw ?kw ?dw ?uw ?ow ?tw ?ew ?s0w ?s1w ?aw ?_; (case Bw => k_asm); (case Fw => k_asm); (case Xw => k_asm); (case Nw => k_asm); (case Tw => k_asm); (case kw => first | exact rfl | assumption); (case dw => ktr_room); (case uw => ktr_units); (case ow => k_updF); (case tw => k_mem); (case ew => k_ne); (case s0w => walk_at "m:size"); (case s1w => walk_at "m:size"); (case aw => assumption)); intro _ _ _ _ _ _ _ _ _ _ N9w; (try dsimp only at N9w))) | fail "no"
  k_with "call ref cons nil#" => first | (((try dsimp only [List.nil_append, List.cons_append]); (with_reducible show wpAny _ _ (call (Value.ref 210) [Value.ref _, Value.ref _]) _ _ _); k_dflt (refine' Mine.oneU ?Bw ?Fw ?Xw ?Nw ?Tw ?kw ?dw ?uw ?ow ?tw ?ew ?s0w ?s1w ?aw ?_; (case Bw => k_asm); (case Fw => k_asm); (case Xw => k_asm); (case Nw => k_asm); (case Tw => k_asm); (case kw => first | exact rfl | assumption); (case dw => ktr_room); (case uw => ktr_units); (case ow => k_updF); (case tw => k_mem); (case ew => k_ne); (case s0w => walk_at "m:size"); (case s1w => walk_at "m:size"); (case aw => assumption)); intro _ _ _ _ _ _ _ _ _ _ N9w; (try dsimp only at N9w))) | fail "no"
  k_with "m:for#" => first | ((k_here; (rename Fr _ _ _ _ => lF'); (with_unfolding_all refine' For_turns lF' ?_; k_whole))) | fail "no"
  k_with "exec For Name Name cons nil#" => first | (walk_at "m:for") | fail "no"
  k_with "exec For Tuple Call cons nil#" => first | (walk_at "m:for") | fail "no"
  k_with "call ref nil#" => first | (((try dsimp only [List.nil_append, List.cons_append]); (with_reducible show wpAny _ _ (call (Value.ref 103) [Value.ref _, Value.int _ _]) _ _ _); k_dflt (refine' Mine.of_spec ?Bw ?Fw ?Xw ?Nw ?Tw ?kw ?dw ?uw ?m1w ?m2w ?m3w ?zw ?j0w ?j1w ?_; (case Bw => k_asm); (case Fw => k_asm); (case Xw => k_asm); (case Nw => k_asm); (case Tw => k_asm); (case kw => first | exact rfl | assumption); (case dw => ktr_room); (case uw => ktr_units); (case m1w => k_mem); (case m2w => k_mem); (case m3w => k_mem); (case zw => assumption); (case j0w => assumption); (case j1w => assumption)); intro _ _ _ _)) | fail "no"
  k_with "call ref cons nil#" => first | (((try dsimp only [List.nil_append, List.cons_append]); (with_reducible show wpAny _ _ (call (Value.ref 103) [Value.ref _, Value.int _ _]) _ _ _); k_dflt (refine' Mine.of_spec ?Bw ?Fw ?Xw ?Nw ?Tw ?kw ?dw ?uw ?m1w ?m2w ?m3w ?zw ?j0w ?j1w ?_; (case Bw => k_asm); (case Fw => k_asm); (case Xw => k_asm); (case Nw => k_asm); (case Tw => k_asm); (case kw => first | exact rfl | assumption); (case dw => ktr_room); (case uw => ktr_units); (case m1w => k_mem); (case m2w => k_mem); (case m3w => k_mem); (case zw => assumption); (case j0w => assumption); (case j1w => assumption)); intro _ _ _ _)) | fail "no"
  k_with "call ref nil#" => first | (((try dsimp only [List.nil_append, List.cons_append]); (with_reducible show wpAny _ _ (call (Value.ref 103) [Value.ref _, Value.int _ _]) _ _ _); k_dflt (refine' Mine.of_spec2 ?Bw ?Fw ?Xw ?Nw ?Tw ?kw ?dw ?uw ?m1w ?m2w ?m3w ?zw ?j0w ?j1w ?_; (case Bw => k_asm); (case Fw => k_asm); (case Xw => k_asm); (case Nw => k_asm); (case Tw => k_asm); (case kw => first | exact rfl | assumption); (case dw => ktr_room); (case uw => ktr_units); (case m1w => k_mem); (case m2w => k_mem); (case m3w => k_mem); (case zw => assumption); (case j0w => assumption); (case j1w => first | assumption | (rename (@LT.lt Int _ _ _) => q9; simp only [List.size_toArray, List.length_map] at q9; omega))); intro _ _ _ _ _ _)) | fail "no"
  k_with "call ref cons nil#" => first | (((try dsimp only [List.nil_append, List.cons_append]); (with_reducible show wpAny _ _ (call (Value.ref 103) [Value.ref _, Value.int _ _]) _ _ _); k_dflt (refine' Mine.of_spec2 ?Bw ?Fw ?Xw ?Nw ?Tw ?kw ?dw ?uw ?m1w ?m2w ?m3w ?zw ?j0w ?j1w ?_; (case Bw => k_asm); (case Fw => k_asm); (case Xw => k_asm); (case Nw => k_asm); (case Tw => k_asm); (case kw => first | exact rfl | assumption); (case dw => ktr_room); (case uw => ktr_units); (case m1w => k_mem); (case m2w => k_mem); (case m3w => k_mem); (case zw => assumption); (case j0w => assumption); (case j1w => first | assumption | (rename (@LT.lt Int _ _ _) => q9; simp only [List.size_toArray, List.length_map] at q9; omega))); intro _ _ _ _ _ _)) | fail "no"
  k_with "call ref nil#" => first | (((try dsimp only [List.nil_append, List.cons_append]); (with_reducible show wpAny _ _ (call (Value.ref 103) [Value.ref _, Value.int _ _]) _ _ _); k_dflt (refine' Mine.of_spec ?Bw ?Fw ?Xw ?Nw ?Tw ?kw ?dw ?uw ?m1w ?m2w ?m3w ?zw ?j0w ?j1w ?_; (case Bw => k_asm); (case Fw => k_asm); (case Xw => k_asm); (case Nw => k_asm); (case Tw => k_asm); (case kw => first | exact rfl | assumption); (case dw => ktr_room); (case uw => ktr_units); (case m1w => k_mem); (case m2w => k_mem); (case m3w => k_mem); (case zw => assumption); (case j0w => assumption); (case j1w => assumption)); intro _ _ _ _)) | fail "no"
  k_with "call ref cons nil#" => first | (((try dsimp only [List.nil_append, List.cons_append]); (with_reducible show wpAny _ _ (call (Value.ref 103) [Value.ref _, Value.int _ _]) _ _ _); k_dflt (refine' Mine.of_spec ?Bw ?Fw ?Xw ?Nw ?Tw ?kw ?dw ?uw ?m1w ?m2w ?m3w ?zw ?j0w ?j1w ?_; (case Bw => k_asm); (case Fw => k_asm); (case Xw => k_asm); (case Nw => k_asm); (case Tw => k_asm); (case kw => first | exact rfl | assumption); (case dw => ktr_room); (case uw => ktr_units); (case m1w => k_mem); (case m2w => k_mem); (case m3w => k_mem); (case zw => assumption); (case j0w => assumption); (case j1w => assumption)); intro _ _ _ _)) | fail "no"
  k_with "call ref nil#" => first | (((try dsimp only [List.nil_append, List.cons_append]); (with_reducible show wpAny _ _ (call (Value.ref 115) [Value.ref _, _]) _ _ _); refine Mine.Hold.out ?_)) | fail "no"
  k_with "call ref cons nil#" => first | (((try dsimp only [List.nil_append, List.cons_append]); (with_reducible show wpAny _ _ (call (Value.ref 115) [Value.ref _, _]) _ _ _); refine Mine.Hold.out ?_)) | fail "no"
  k_with "call ref nil#" => first | (((try dsimp only [List.nil_append, List.cons_append]); (with_reducible show wpAny _ _ (call (Value.ref 123) [Value.ref _, Value.int _ _, _]) _ _ _); refine Mine.Hold.out ?_)) | fail "no"
  k_with "call ref cons nil#" => first | (((try dsimp only [List.nil_append, List.cons_append]); (with_reducible show wpAny _ _ (call (Value.ref 123) [Value.ref _, Value.int _ _, _]) _ _ _); refine Mine.Hold.out ?_)) | fail "no"
  k_with "exec If#" => first | (refine Mine.hold_if 8 (by assumption) ?_) | fail "no"
  k_with "call ref nil#" => first | (((try dsimp only [List.nil_append, List.cons_append]); (with_reducible show wpAny _ _ (call (Value.ref 108) [Value.ref _]) _ _ _); k_dflt (refine' Mine.ready_spec ?Bw ?Fw ?Xw ?Nw ?Tw ?kw ?dw ?uw ?vw ?lw ?_; (case Bw => k_asm); (case Fw => k_asm); (case Xw => k_asm); (case Nw => k_asm); (case Tw => k_asm); (case kw => first | exact rfl | assumption); (case dw => ktr_room); (case uw => ktr_units); (case vw => walk_at "m:sees"); (case lw => assumption); k_whole); intro _ _ _ _ _ _)) | fail "no"
  k_with "call ref cons nil#" => first | (((try dsimp only [List.nil_append, List.cons_append]); (with_reducible show wpAny _ _ (call (Value.ref 108) [Value.ref _]) _ _ _); k_dflt (refine' Mine.ready_spec ?Bw ?Fw ?Xw ?Nw ?Tw ?kw ?dw ?uw ?vw ?lw ?_; (case Bw => k_asm); (case Fw => k_asm); (case Xw => k_asm); (case Nw => k_asm); (case Tw => k_asm); (case kw => first | exact rfl | assumption); (case dw => ktr_room); (case uw => ktr_units); (case vw => walk_at "m:sees"); (case lw => assumption); k_whole); intro _ _ _ _ _ _)) | fail "no"
  k_with "call ref nil#" => first | (((try dsimp only [List.nil_append, List.cons_append]); (with_reducible show wpAny _ _ (call (Value.ref 149) [Value.ref _]) _ _ _); k_dflt (refine' Mine.dead_spec ?Bw ?Fw ?Xw ?Nw ?Tw ?kw ?dw ?uw ?vw ?lw ?_; (case Bw => k_asm); (case Fw => k_asm); (case Xw => k_asm); (case Nw => k_asm); (case Tw => k_asm); (case kw => first | exact rfl | assumption); (case dw => ktr_room); (case uw => ktr_units); (case vw => walk_at "m:sees"); (case lw => assumption); k_whole); intro _ _ _ _)) | fail "no"
  k_with "call ref cons nil#" => first | (((try dsimp only [List.nil_append, List.cons_append]); (with_reducible show wpAny _ _ (call (Value.ref 149) [Value.ref _]) _ _ _); k_dflt (refine' Mine.dead_spec ?Bw ?Fw ?Xw ?Nw ?Tw ?kw ?dw ?uw ?vw ?lw ?_; (case Bw => k_asm); (case Fw => k_asm); (case Xw => k_asm); (case Nw => k_asm); (case Tw => k_asm); (case kw => first | exact rfl | assumption); (case dw => ktr_room); (case uw => ktr_units); (case vw => walk_at "m:sees"); (case lw => assumption); k_whole); intro _ _ _ _)) | fail "no"
  k_with "call ref nil#" => first | (((try dsimp only [List.nil_append, List.cons_append]); (with_reducible show wpAny _ _ (call (Value.ref 154) [Value.ref _]) _ _ _); k_dflt (refine' Mine.wait_spec ?Bw ?Fw ?Xw ?Nw ?Tw ?kw ?dw ?uw ?vw ?lw ?hhw ?_; (case Bw => k_asm); (case Fw => k_asm); (case Xw => k_asm); (case Nw => k_asm); (case Tw => k_asm); (case kw => first | exact rfl | assumption); (case dw => ktr_room); (case uw => ktr_units); (case vw => walk_at "m:sees"); (case lw => assumption); (case hhw => assumption); k_whole); intro _ _ _ _ _ _ _ _)) | fail "no"
  k_with "call ref cons nil#" => first | (((try dsimp only [List.nil_append, List.cons_append]); (with_reducible show wpAny _ _ (call (Value.ref 154) [Value.ref _]) _ _ _); k_dflt (refine' Mine.wait_spec ?Bw ?Fw ?Xw ?Nw ?Tw ?kw ?dw ?uw ?vw ?lw ?hhw ?_; (case Bw => k_asm); (case Fw => k_asm); (case Xw => k_asm); (case Nw => k_asm); (case Tw => k_asm); (case kw => first | exact rfl | assumption); (case dw => ktr_room); (case uw => ktr_units); (case vw => walk_at "m:sees"); (case lw => assumption); (case hhw => assumption); k_whole); intro _ _ _ _ _ _ _ _)) | fail "no"
  k_with "exec Assign cons ListComp#" => first | ((k_here; (with_reducible show wpAny _ _ (exec (Stmt.Assign [Expr.Name _ _] (Expr.ListComp _ [⟨Expr.Name _ _, _, [], _⟩] _ _) _) _) _ _ _); k_dflt (refine LCg.Assign_ListComp_U (F₀ := by k_asm) (by rfl) (by with_unfolding_all rfl) (by with_unfolding_all rfl) (by decide) (by rfl) (by decide) (by rfl) (by rfl) (by rfl) ?_))) | fail "no"
  k_with "exec Assign cons ListComp#" => first | ((k_here; (with_reducible show wpAny _ _ (exec (Stmt.Assign [Expr.Name _ _] (Expr.ListComp _ [⟨Expr.Tuple _ _ _, _, [_], _⟩] _ _) _) _) _ _ _); k_dflt (refine Mine.enum_Assign (F₀ := by k_asm) (by rfl) (by with_unfolding_all rfl) (by with_unfolding_all rfl) (by decide) (by rfl) (by decide) (by rfl) (by rfl) (by decide) (by rfl) (by rfl) ?_))) | fail "no"
  k_with "m:enterC#" => first | ((refine' code_defC ?k1w ?k2w ?k3w ?k4w ?k5w ?kAw ?kFw ?kKw ?k6w ?k7w ?k8w ?k9w ?kBw ?kDw ?_ ?c2w ?c3w ?c4w; (case kAw => exact rfl); (case kFw => exact rfl); (case kKw => first | exact rfl | assumption); (case k1w => k_asm); (case k2w => k_asm); (case k3w => k_asm); (case k4w => k_asm); (case k5w => k_asm); (case k6w => k_is); (case k7w => k_is); (case k8w => ktr_room); (case k9w => exact BindsTo.of_eq rfl); (case kBw => exact rfl); (case kDw => decide +kernel); (case c2w => exact rfl); (case c3w => exact rfl); (case c4w => exact rfl); k_whole; intro _ _ _ _ _ _ _ N'w Y'w B'w _ _ l1w; (try k_lt l1w); k_cells Y'w; (try simp only [List.cons_append, List.nil_append] at N'w); (try dsimp only); (try k_lift B'w); (try k_fold))) | fail "no"
  k_with "m:lt9#" => first | (first | assumption | exact True.intro | (refine And.intro (by (try dsimp only); omega) ?_; walk_at "m:lt9") | exact Mine.allLt_le (Nat.le_succ _) (by assumption) | (refine Mine.allLt_le (Nat.le_of_lt ?_) ?_; rotate_left; assumption; omega)) | fail "no"
  k_with "m:dcons#" => first | (first | assumption | (refine Mine.Dis.cons ?h9w ?k9w; (case k9w => ((try dsimp only); walk_at "m:lt9")); (case h9w => walk_at "m:dcons"))) | fail "no"
  k_with "m:sees#" => first | (exact Mine.sees_of (by k_mem) (by k_mem) (by k_mem) (by walk_at "m:tail")) | fail "no"
  k_with "m:rows#" => first | (exact Mine.rows_of (by k_mem) (by walk_at "m:tail")) | fail "no"
  k_with "m:facts#" => first | ((simp only [Mine.Dis, List.map_cons, List.nodup_cons, List.mem_cons, not_or] at *; walk_at "m:split")) | fail "no"
  k_with "call ref nil#" => first | (((try dsimp only [List.nil_append, List.cons_append]); (with_reducible show wpAny _ _ (call (Value.ref 52) [Value.str _ _, Value.str _ _]) _ _ _); k_dflt (refine' Mine.fault_spec ?Bw ?Fw ?Xw ?Nw ?Tw ?kw ?dw ?uw ?_; (case Bw => k_asm); (case Fw => k_asm); (case Xw => k_asm); (case Nw => k_asm); (case Tw => k_asm); (case kw => first | exact rfl | assumption); (case dw => ktr_room); (case uw => ktr_units)); intro _ _ _ _ _ _ _ _ _ _ _ _ _ _)) | fail "no"
  k_with "call ref cons nil#" => first | (((try dsimp only [List.nil_append, List.cons_append]); (with_reducible show wpAny _ _ (call (Value.ref 52) [Value.str _ _, Value.str _ _]) _ _ _); k_dflt (refine' Mine.fault_spec ?Bw ?Fw ?Xw ?Nw ?Tw ?kw ?dw ?uw ?_; (case Bw => k_asm); (case Fw => k_asm); (case Xw => k_asm); (case Nw => k_asm); (case Tw => k_asm); (case kw => first | exact rfl | assumption); (case dw => ktr_room); (case uw => ktr_units)); intro _ _ _ _ _ _ _ _ _ _ _ _ _ _)) | fail "no"
  k_with "exec Raise some none#" => first | ((k_here; (with_reducible show wpAny _ _ (exec (Stmt.Raise (some (Expr.Call (Expr.Name _ _) (_ :: _) [] _)) none _) _) _ _ _); k_dflt (refine' Mine.Raise_O (C := 52) ?X9w ?q9w ?h9w ?_; (case X9w => k_asm); (case q9w => kernel_rfl); (case h9w => exact rfl)))) | fail "no"
  k_with "RaisableO ref#" => first | ((rename News _ _ _ _ => N9; refine ⟨_, some _, _, rfl, (N9 _ List.mem_cons_self).1, (by k_in), ?_⟩; (try dsimp only))) | fail "no"
  k_with "m:leaveF#" => first | ((rename News _ _ _ _ => N9; (refine' Mine.leaveD_first ?K9w ?F9w ?hf9w ?hk9w N9 (Mine.off_two (by assumption) (by assumption) (by assumption)) ?_; (case K9w => k_asm); (case F9w => k_asm); (case hf9w => exact rfl); (case hk9w => exact rfl)); intro _ _ _)) | fail "no"
  k_with "call ref nil#" => first | (((try dsimp only [List.nil_append, List.cons_append]); (with_reducible show wpAny _ _ (call (Value.ref 103) [Value.ref _, Value.int _ _]) _ _ _); k_dflt (refine' Mine.of_fault ?Bw ?Fw ?Xw ?Nw ?Tw ?kw ?dw ?uw ?m1w ?m2w ?m3w ?zw ?j0w ?j1w ?j2w ?_; (case Bw => k_asm); (case Fw => k_asm); (case Xw => k_asm); (case Nw => k_asm); (case Tw => k_asm); (case kw => first | exact rfl | assumption); (case dw => ktr_room); (case uw => ktr_units); (case m1w => k_mem); (case m2w => k_mem); (case m3w => k_mem); (case zw => assumption); (case j0w => assumption); (case j1w => assumption); (case j2w => assumption)); intro _ _ _ _ _ _ _ _ _ _ _ _ _ _ _ _)) | fail "no"
  k_with "call ref cons nil#" => first | (((try dsimp only [List.nil_append, List.cons_append]); (with_reducible show wpAny _ _ (call (Value.ref 103) [Value.ref _, Value.int _ _]) _ _ _); k_dflt (refine' Mine.of_fault ?Bw ?Fw ?Xw ?Nw ?Tw ?kw ?dw ?uw ?m1w ?m2w ?m3w ?zw ?j0w ?j1w ?j2w ?_; (case Bw => k_asm); (case Fw => k_asm); (case Xw => k_asm); (case Nw => k_asm); (case Tw => k_asm); (case kw => first | exact rfl | assumption); (case dw => ktr_room); (case uw => ktr_units); (case m1w => k_mem); (case m2w => k_mem); (case m3w => k_mem); (case zw => assumption); (case j0w => assumption); (case j1w => assumption); (case j2w => assumption)); intro _ _ _ _ _ _ _ _ _ _ _ _ _ _ _ _)) | fail "no"
  k_with "call ref nil#" => first | (((try dsimp only [List.nil_append, List.cons_append]); (with_reducible show wpAny _ _ (call (Value.ref 103) [Value.ref _, Value.int _ _]) _ _ _); k_dflt (refine' Mine.of_spec ?Bw ?Fw ?Xw ?Nw ?Tw ?kw ?dw ?uw ?m1w ?m2w ?m3w ?zw ?j0w ?j1w ?_; (case Bw => k_asm); (case Fw => k_asm); (case Xw => k_asm); (case Nw => k_asm); (case Tw => k_asm); (case kw => first | exact rfl | assumption); (case dw => ktr_room); (case uw => ktr_units); (case m1w => k_mem); (case m2w => k_mem); (case m3w => k_mem); (case zw => assumption); (case j0w => assumption); (case j1w => assumption)); intro _ _ _ _)) | fail "no"
  k_with "call ref cons nil#" => first | (((try dsimp only [List.nil_append, List.cons_append]); (with_reducible show wpAny _ _ (call (Value.ref 103) [Value.ref _, Value.int _ _]) _ _ _); k_dflt (refine' Mine.of_spec ?Bw ?Fw ?Xw ?Nw ?Tw ?kw ?dw ?uw ?m1w ?m2w ?m3w ?zw ?j0w ?j1w ?_; (case Bw => k_asm); (case Fw => k_asm); (case Xw => k_asm); (case Nw => k_asm); (case Tw => k_asm); (case kw => first | exact rfl | assumption); (case dw => ktr_room); (case uw => ktr_units); (case m1w => k_mem); (case m2w => k_mem); (case m3w => k_mem); (case zw => assumption); (case j0w => assumption); (case j1w => assumption)); intro _ _ _ _)) | fail "no"
  k_with "m:leaveO#" => first | (((refine' Mine.leaveD_on ?K9w ?F9w ?hf9w ?R9w ?U9w ?_; (case R9w => with_unfolding_all assumption); (case F9w => k_asm); (case K9w => k_asm); (case hf9w => exact rfl); (case U9w => assumption)); intro _ _ _)) | fail "no"
  k_with "call ref nil#" => first | (((try dsimp only [List.nil_append, List.cons_append]); (with_reducible show wpAny _ _ (call (Value.ref 123) [Value.ref _, Value.int _ _, _]) _ _ _); refine Mine.Hold.out ?_)) | fail "no"
  k_with "call ref cons nil#" => first | (((try dsimp only [List.nil_append, List.cons_append]); (with_reducible show wpAny _ _ (call (Value.ref 123) [Value.ref _, Value.int _ _, _]) _ _ _); refine Mine.Hold.out ?_)) | fail "no"
  k_with "call ref nil#" => first | (((try dsimp only [List.nil_append, List.cons_append]); (with_reducible show wpAny _ _ (call (Value.ref 236) [Value.ref _]) _ _ _); refine Mine.Hold.out ?_)) | fail "no"
  k_with "call ref cons nil#" => first | (((try dsimp only [List.nil_append, List.cons_append]); (with_reducible show wpAny _ _ (call (Value.ref 236) [Value.ref _]) _ _ _); refine Mine.Hold.out ?_)) | fail "no"
  k_with "call ref nil#" => first | (((try dsimp only [List.nil_append, List.cons_append]); (with_reducible show wpAny _ _ (call (Value.ref 229) [Value.ref _, Value.ref _]) _ _ _); refine Mine.Hold.out ?_)) | fail "no"
  k_with "call ref cons nil#" => first | (((try dsimp only [List.nil_append, List.cons_append]); (with_reducible show wpAny _ _ (call (Value.ref 229) [Value.ref _, Value.ref _]) _ _ _); refine Mine.Hold.out ?_)) | fail "no"
  k_with "eval Lambda#" => first | (refine Mine.Hold.out ?_) | fail "no"
  k_with "eval BoolOp And#" => first | (refine Mine.hold_if 1 (by assumption) ?_) | fail "no"
  k_with "call ref nil#" => first | (((try dsimp only [List.nil_append, List.cons_append]); (with_reducible show wpAny _ _ (call (Value.ref 123) [Value.ref _, Value.int _ _, _]) _ _ _); refine Mine.Hold.out ?_)) | fail "no"
  k_with "call ref cons nil#" => first | (((try dsimp only [List.nil_append, List.cons_append]); (with_reducible show wpAny _ _ (call (Value.ref 123) [Value.ref _, Value.int _ _, _]) _ _ _); refine Mine.Hold.out ?_)) | fail "no"
  k_with "call ref nil#" => first | (((try dsimp only [List.nil_append, List.cons_append]); (with_reducible show wpAny _ _ (call (Value.ref 236) [Value.ref _]) _ _ _); refine Mine.Hold.out ?_)) | fail "no"
  k_with "call ref cons nil#" => first | (((try dsimp only [List.nil_append, List.cons_append]); (with_reducible show wpAny _ _ (call (Value.ref 236) [Value.ref _]) _ _ _); refine Mine.Hold.out ?_)) | fail "no"
  k_with "call ref nil#" => first | (((try dsimp only [List.nil_append, List.cons_append]); (with_reducible show wpAny _ _ (call (Value.ref 229) [Value.ref _, Value.ref _]) _ _ _); refine Mine.Hold.out ?_)) | fail "no"
  k_with "call ref cons nil#" => first | (((try dsimp only [List.nil_append, List.cons_append]); (with_reducible show wpAny _ _ (call (Value.ref 229) [Value.ref _, Value.ref _]) _ _ _); refine Mine.Hold.out ?_)) | fail "no"
  k_with "eval Lambda#" => first | (refine Mine.Hold.out ?_) | fail "no"
  k_with "call ref nil#" => first | (((try dsimp only [List.nil_append, List.cons_append]); (with_reducible show wpAny _ _ (call (Value.ref 103) [Value.ref _, Value.int _ _]) _ _ _); k_dflt (refine' Mine.of_spec ?Bw ?Fw ?Xw ?Nw ?Tw ?kw ?dw ?uw ?m1w ?m2w ?m3w ?zw ?j0w ?j1w ?_; (case Bw => k_asm); (case Fw => k_asm); (case Xw => k_asm); (case Nw => k_asm); (case Tw => k_asm); (case kw => first | exact rfl | assumption); (case dw => ktr_room); (case uw => ktr_units); (case m1w => k_mem); (case m2w => k_mem); (case m3w => k_mem); (case zw => assumption); (case j0w => assumption); (case j1w => assumption)); intro _ _ _ _)) | fail "no"
  k_with "call ref cons nil#" => first | (((try dsimp only [List.nil_append, List.cons_append]); (with_reducible show wpAny _ _ (call (Value.ref 103) [Value.ref _, Value.int _ _]) _ _ _); k_dflt (refine' Mine.of_spec ?Bw ?Fw ?Xw ?Nw ?Tw ?kw ?dw ?uw ?m1w ?m2w ?m3w ?zw ?j0w ?j1w ?_; (case Bw => k_asm); (case Fw => k_asm); (case Xw => k_asm); (case Nw => k_asm); (case Tw => k_asm); (case kw => first | exact rfl | assumption); (case dw => ktr_room); (case uw => ktr_units); (case m1w => k_mem); (case m2w => k_mem); (case m3w => k_mem); (case zw => assumption); (case j0w => assumption); (case j1w => assumption)); intro _ _ _ _)) | fail "no"
  k_with "call ref nil#" => first | (((try dsimp only [List.nil_append, List.cons_append]); (with_reducible show wpAny _ _ (call (Value.ref 115) [Value.ref _, Value.str _ _]) _ _ _); refine Mine.Hold.out ?_)) | fail "no"
  k_with "call ref cons nil#" => first | (((try dsimp only [List.nil_append, List.cons_append]); (with_reducible show wpAny _ _ (call (Value.ref 115) [Value.ref _, Value.str _ _]) _ _ _); refine Mine.Hold.out ?_)) | fail "no"
  k_with "call ref nil#" => first | (((try dsimp only [List.nil_append, List.cons_append]); (with_reducible show wpAny _ _ (call (Value.ref 236) [Value.ref _]) _ _ _); refine Mine.Hold.out ?_)) | fail "no"
  k_with "call ref cons nil#" => first | (((try dsimp only [List.nil_append, List.cons_append]); (with_reducible show wpAny _ _ (call (Value.ref 236) [Value.ref _]) _ _ _); refine Mine.Hold.out ?_)) | fail "no"
  k_with "call ref nil#" => first | (((try dsimp only [List.nil_append, List.cons_append]); (with_reducible show wpAny _ _ (call (Value.ref 229) [Value.ref _, Value.ref _]) _ _ _); refine Mine.Hold.out ?_)) | fail "no"
  k_with "call ref cons nil#" => first | (((try dsimp only [List.nil_append, List.cons_append]); (with_reducible show wpAny _ _ (call (Value.ref 229) [Value.ref _, Value.ref _]) _ _ _); refine Mine.Hold.out ?_)) | fail "no"
  k_with "eval Lambda#" => first | (refine Mine.Hold.out ?_) | fail "no"
  k_with "exec For Tuple Call cons nil#" => first | ((k_here; (with_unfolding_all refine' Mine.For_G ?_ ?_; k_whole))) | fail "no"
  k_with "call type:enumerate#" => first | (refine Mine.Hold.out ?_) | fail "no"
  k_with "isTrue BoolOp And#" => first | (refine Mine.hold_if 2 (by assumption) ?_) | fail "no"
  k_with "call ref nil#" => first | (((try dsimp only [List.nil_append, List.cons_append]); (with_reducible show wpAny _ _ (call (Value.ref 103) [Value.ref _, Value.int _ _]) _ _ _); k_dflt (refine' Mine.of_spec ?Bw ?Fw ?Xw ?Nw ?Tw ?kw ?dw ?uw ?m1w ?m2w ?m3w ?zw ?j0w ?j1w ?_; (case Bw => k_asm); (case Fw => k_asm); (case Xw => k_asm); (case Nw => k_asm); (case Tw => k_asm); (case kw => first | exact rfl | assumption); (case dw => ktr_room); (case uw => ktr_units); (case m1w => k_mem); (case m2w => k_mem); (case m3w => k_mem); (case zw => assumption); (case j0w => assumption); (case j1w => assumption)); intro _ _ _ _)) | fail "no"
  k_with "call ref cons nil#" => first | (((try dsimp only [List.nil_append, List.cons_append]); (with_reducible show wpAny _ _ (call (Value.ref 103) [Value.ref _, Value.int _ _]) _ _ _); k_dflt (refine' Mine.of_spec ?Bw ?Fw ?Xw ?Nw ?Tw ?kw ?dw ?uw ?m1w ?m2w ?m3w ?zw ?j0w ?j1w ?_; (case Bw => k_asm); (case Fw => k_asm); (case Xw => k_asm); (case Nw => k_asm); (case Tw => k_asm); (case kw => first | exact rfl | assumption); (case dw => ktr_room); (case uw => ktr_units); (case m1w => k_mem); (case m2w => k_mem); (case m3w => k_mem); (case zw => assumption); (case j0w => assumption); (case j1w => assumption)); intro _ _ _ _)) | fail "no"
  k_with "call ref nil#" => first | (((try dsimp only [List.nil_append, List.cons_append]); (with_reducible show wpAny _ _ (call (Value.ref 130) [Value.ref _]) _ _ _); refine Mine.Hold.out ?_)) | fail "no"
  k_with "call ref cons nil#" => first | (((try dsimp only [List.nil_append, List.cons_append]); (with_reducible show wpAny _ _ (call (Value.ref 130) [Value.ref _]) _ _ _); refine Mine.Hold.out ?_)) | fail "no"
  k_with "call ref nil#" => first | (((try dsimp only [List.nil_append, List.cons_append]); (with_reducible show wpAny _ _ (call (Value.ref 229) [Value.ref _, Value.ref _]) _ _ _); refine Mine.Hold.out ?_)) | fail "no"
  k_with "call ref cons nil#" => first | (((try dsimp only [List.nil_append, List.cons_append]); (with_reducible show wpAny _ _ (call (Value.ref 229) [Value.ref _, Value.ref _]) _ _ _); refine Mine.Hold.out ?_)) | fail "no"
  k_with "exec For Tuple Call cons nil#" => first | ((k_here; (with_unfolding_all refine' Mine.For_G ?_ ?_; k_whole))) | fail "no"
  k_with "call type:enumerate#" => first | (refine Mine.Hold.out ?_) | fail "no"
  trivial
namespace Mine
open PySem.Spec PySem.Calls PyProof.V PyProof.Rows.LCg
theorem allLt_all {d : Addr} : ∀ {l : List (Addr × Obj)}, AllLt d l → ∀ q ∈ l, q.1 < d
  | [], _, _, h => nomatch h
  | _ :: _, h, q, hq => by
    rcases List.mem_cons.mp hq with rfl | hq
    · exact h.1
    · exact allLt_all h.2 q hq
def RowsInv (src : Addr) (R : List (Addr × Obj)) (i : Nat) (ys : List Value) (nw : List (Addr × Obj)) : Prop :=
  ∃ rs a b ta tb, ys = (rs.map fun c => Value.ref c.ra) ∧ rs.length = i ∧ (∀ c ∈ rs, RowOk c.rst c.rwf c.ran) ∧ SrcOk a b ∧ nw = (src, listOf #[.int a ta, .int b tb] 0) :: (rowsOf rs ++ R) ∧ Dis nw
theorem rows_open {h₀ h : Heap} {L : Addr} {p q r x : Addr × Obj} {R : List (Addr × Obj)} (N : News h₀ L h (p :: q :: r :: x :: R)) : News h₀ L h (x :: (p :: q :: r :: R)) :=
  news_perm N (List.perm_middle (l₁ := [p, q, r]) (l₂ := R))
theorem rows_off {I C D src : Addr} {o oI oC oD : Obj} {R : List (Addr × Obj)} (off : Off3 I C D ((src, o) :: R)) (Dn : Dis ((src, o) :: R)) : ∀ p ∈ (I, oI) :: (C, oC) :: (D, oD) :: R, p.1 ≠ src := by
  intro p hp
  rcases List.mem_cons.mp hp with rfl | hp
  · exact Ne.symm off.1.1
  rcases List.mem_cons.mp hp with rfl | hp
  · exact Ne.symm off.1.2.1
  rcases List.mem_cons.mp hp with rfl | hp
  · exact Ne.symm off.1.2.2
  exact Dn.off p hp
theorem rows_end {h₀ h' : Heap} {L src ra I C D : Addr} {m : Str → Option Value} {s₁ : Shared} {oI oC oD o : Obj} {tk i : Nat} {rs : List Cell} {R : List (Addr × Obj)} {st : Str} {t : Tok} {wv av : Value} {a b : Int} {ta tb : Tok}
    (F : Fr h₀ L h' m) (N : News h₀ L h' ((ra, listOf #[.str st t, wv, av] 0) :: (src, listOf #[.int a ta, .int b tb] 0) :: (I, oI) :: (C, oC) :: (D, oD) :: (rowsOf rs ++ R)))
    (lt : AllLt ra ((I, oI) :: (C, oC) :: (D, oD) :: (rowsOf rs ++ R))) (ls : src < ra) (off : Off3 I C D ((src, o) :: (rowsOf rs ++ R))) (Dn : Dis ((src, o) :: (rowsOf rs ++ R)))
    (hr : ∀ c ∈ rs, RowOk c.rst c.rwf c.ran) (hl : rs.length = i) (ok : RowOk st wv av) (hs : SrcOk a b) :
    CompEnd h₀ L m s₁ I oI C oC D oD (fun _ => True) (fun y nw' => RowsInv src R (i + 1) ((rs.map fun c => Value.ref c.ra) ++ [y]) nw') (.ref ra) { s₁ with heap := h', toks := tk } := by
  have e : rowsOf (rs ++ [(⟨ra, 0, t, st, wv, av, 0, 0, 0, 0, 0, 0, 0, 0, 0, 0, Str.ofString "", 0, .none, .none, o0⟩ : Cell)]) ++ R = rowsOf rs ++ ((ra, listOf #[.str st t, wv, av] 0) :: R) := by simp [rowsOf]
  have pm : ((src, listOf #[.int a ta, .int b tb] 0) :: (rowsOf rs ++ ((ra, listOf #[.str st t, wv, av] 0) :: R))).Perm ((ra, listOf #[.str st t, wv, av] 0) :: (src, listOf #[.int a ta, .int b tb] 0) :: (rowsOf rs ++ R)) :=
    (List.Perm.cons _ List.perm_middle).trans (.swap _ _ _)
  refine CompEnd.intro F N ((src, listOf #[.int a ta, .int b tb] 0) :: (rowsOf rs ++ ((ra, listOf #[.str st t, wv, av] 0) :: R))) ?_ ?_ trivial
    ⟨rs ++ [(⟨ra, 0, t, st, wv, av, 0, 0, 0, 0, 0, 0, 0, 0, 0, 0, Str.ofString "", 0, .none, .none, o0⟩ : Cell)], a, b, ta, tb, by simp, by simp [hl], ?_, hs, by rw [e], ?_⟩
  · intro p hp
    rcases List.mem_cons.mp hp with rfl | hp
    · exact .tail _ (.tail _ (.head _))
    rcases List.mem_cons.mp hp with rfl | hp
    · exact .tail _ (.tail _ (.tail _ (.head _)))
    rcases List.mem_cons.mp hp with rfl | hp
    · exact .tail _ (.tail _ (.tail _ (.tail _ (.head _))))
    rcases List.mem_cons.mp ((pm.mem_iff).mp hp) with rfl | hp
    · exact .head _
    rcases List.mem_cons.mp hp with rfl | hp
    · exact .tail _ (.head _)
    exact .tail _ (.tail _ (.tail _ (.tail _ (.tail _ hp))))
  · refine Off3.of fun p hp => ?_
    rcases List.mem_cons.mp ((pm.mem_iff).mp hp) with rfl | hp
    · exact ⟨Nat.ne_of_gt lt.1, Nat.ne_of_gt lt.2.1, Nat.ne_of_gt lt.2.2.1⟩
    rcases List.mem_cons.mp hp with rfl | hp
    · exact off.1
    exact Off3.mem off.2 p hp
  · intro c hc
    rcases List.mem_append.mp hc with hc | hc
    · exact hr c hc
    · rw [List.mem_singleton.mp hc]; exact ok
  · refine Dis.perm ?_ pm.symm
    exact (Dn.same (l' := (src, listOf #[.int a ta, .int b tb] 0) :: (rowsOf rs ++ R)) rfl).cons ⟨ls, lt.2.2.2⟩
section
variable {prog : Program} {w : World} {A : Around} {E : Value → Shared → Prop} {s : Shared} {h₀ : Heap} {L : Addr} {m : Str → Option Value} {env : Env} {elt : PySem.Expr} {x : Str} {scope : Scope} {cl : List (Str × Addr)} {Fin : Shared → List Value → List (Addr × Obj) → Prop} {n : Nat} {tn : Tok} {src : Addr} {a b : Int} {ta tb : Tok} {R : List (Addr × Obj)}
theorem comp_rows (hh : A.handled = none) (F : Fr h₀ L s.heap m) (N : News h₀ L s.heap ((src, listOf #[.int a ta, .int b tb] 0) :: R)) (hn : n < 1000) (hs : SrcOk a b) (D : Dis ((src, listOf #[.int a ta, .int b tb] 0) :: R))
    (step : TurnC prog w A h₀ L m env elt x scope cl s (fun _ => True) (fun i v => ∃ t, v = .int (0 + (i : Int)) t) n (RowsInv src R))
    (fin : ∀ g tk ys nw, RowsInv src R n ys nw → Fin { s with heap := g, toks := tk } ys nw) :
    wpAny (model prog w) A (call (.type "range") [.int (n : Int) tn]) (LCg.CompSrc prog w A h₀ L m env elt x scope cl Fin) E s :=
  comp_range1 (RowsInv src R) hh F N hn ⟨[], a, b, ta, tb, rfl, rfl, (fun _ h => by cases h), hs, rfl, D⟩ step fin
def DigInv (src : Addr) (R : List (Addr × Obj)) (i : Nat) (ys : List Value) (nw : List (Addr × Obj)) : Prop :=
  ∃ us : List (Int × Tok), ∃ a b ta tb, ys = (us.map fun u => Value.int u.1 u.2) ∧ us.length = i ∧ SrcOk a b ∧ nw = (src, listOf #[.int a ta, .int b tb] 0) :: R
theorem comp_digs (hh : A.handled = none) (F : Fr h₀ L s.heap m) (N : News h₀ L s.heap ((src, listOf #[.int a ta, .int b tb] 0) :: R)) (hn : n < 1000) (hs : SrcOk a b)
    (step : TurnC prog w A h₀ L m env elt x scope cl s (fun _ => True) (fun i v => ∃ t, v = .int (0 + (i : Int)) t) n (DigInv src R))
    (fin : ∀ g tk ys nw, DigInv src R n ys nw → Fin { s with heap := g, toks := tk } ys nw) :
    wpAny (model prog w) A (call (.type "range") [.int (n : Int) tn]) (LCg.CompSrc prog w A h₀ L m env elt x scope cl Fin) E s :=
  comp_range1 (DigInv src R) hh F N hn ⟨[], a, b, ta, tb, rfl, rfl, hs, rfl⟩ step fin
end
theorem digs_end {h₀ h' : Heap} {L src I C D : Addr} {m : Str → Option Value} {s₁ : Shared} {oI oC oD o : Obj} {tk i : Nat} {us : List (Int × Tok)} {R : List (Addr × Obj)} {v : Int} {t : Tok} {a b : Int} {ta tb : Tok}
    (F : Fr h₀ L h' m) (N : News h₀ L h' ((src, listOf #[.int a ta, .int b tb] 0) :: (I, oI) :: (C, oC) :: (D, oD) :: R))
    (off : Off3 I C D ((src, o) :: R)) (hl : us.length = i) (hs : SrcOk a b) :
    CompEnd h₀ L m s₁ I oI C oC D oD (fun _ => True) (fun y nw' => DigInv src R (i + 1) ((us.map fun u => Value.int u.1 u.2) ++ [y]) nw') (.int v t) { s₁ with heap := h', toks := tk } := by
  refine CompEnd.intro F N ((src, listOf #[.int a ta, .int b tb] 0) :: R) ?_ ?_ trivial ⟨us ++ [(v, t)], a, b, ta, tb, by simp, by simp [hl], hs, rfl⟩
  · intro p hp
    rcases List.mem_cons.mp hp with rfl | hp
    · exact .tail _ (.head _)
    rcases List.mem_cons.mp hp with rfl | hp
    · exact .tail _ (.tail _ (.head _))
    rcases List.mem_cons.mp hp with rfl | hp
    · exact .tail _ (.tail _ (.tail _ (.head _)))
    rcases List.mem_cons.mp hp with rfl | hp
    · exact .head _
    exact .tail _ (.tail _ (.tail _ (.tail _ hp)))
  · exact ⟨off.1, off.2⟩
theorem off1_all {D : Addr} : ∀ {l : List (Addr × Obj)}, Off1 D l → ∀ q ∈ l, q.1 ≠ D
  | [], _, _, h => nomatch h
  | _ :: _, h, q, hq => by
    rcases List.mem_cons.mp hq with rfl | hq
    · exact h.1
    · exact off1_all h.2 q hq
theorem rows_done {h₀ h : Heap} {L Rl : Addr} {o : Obj} {a b c q : Addr × Obj} {X T : List (Addr × Obj)} (N : News h₀ L h ((Rl, o) :: q :: (X ++ (a :: b :: c :: T)))) (D : Dis (q :: (X ++ (a :: b :: c :: T)))) (o1 : Off1 Rl (q :: (X ++ (a :: b :: c :: T)))) :
    News h₀ L h (a :: b :: c :: q :: (Rl, o) :: (X ++ T)) ∧ Dis (a :: b :: c :: q :: (Rl, o) :: (X ++ T)) := by
  have D' : Dis ((Rl, o) :: q :: (X ++ (a :: b :: c :: T))) := List.nodup_cons.mpr ⟨fun hm => by
    obtain ⟨q, hq, e⟩ := List.mem_map.mp hm
    exact off1_all o1 q hq e, D⟩
  exact both N D' ((List.Perm.swap _ _ _).trans (pc3 [a, b, c] [q] [(Rl, o)] X T).symm)
theorem digs_done {h₀ h : Heap} {L Dl : Addr} {o : Obj} {q : Addr × Obj} {X : List (Addr × Obj)} (N : News h₀ L h ((Dl, o) :: q :: X)) (D : Dis (q :: X)) (o1 : Off1 Dl (q :: X)) :
    News h₀ L h (q :: (Dl, o) :: X) ∧ Dis (q :: (Dl, o) :: X) := by
  have D' : Dis ((Dl, o) :: q :: X) := List.nodup_cons.mpr ⟨fun hm => by
    obtain ⟨q, hq, e⟩ := List.mem_map.mp hm
    exact off1_all o1 q hq e, D⟩
  exact ⟨news_perm N (.swap _ _ _), D'.perm (.swap _ _ _)⟩
/-- the digits, as a list or as a tuple -/
def DigOk (src : Addr) (R : List (Addr × Obj)) (v : Value) (nw : List (Addr × Obj)) : Prop :=
  ∃ dig kd n a b ta tb, ∃ us : List (Int × Tok), v = .ref dig ∧ (kd = "list" ∨ kd = "tuple") ∧ us.length < 100 ∧ SrcOk a b ∧ nw = (src, listOf #[.int a ta, .int b tb] 0) :: (dig, seqO kd (uvs us) n) :: R ∧ Dis nw
theorem cut_digs {M : Model} {A : Around} {E : Value → Shared → Prop} {s : Shared} {t : Sem Value} {Q : Value → Shared → Prop} {g h : Heap} {L src : Addr} {o : Obj} {p : Addr × Obj} {X : List (Addr × Obj)} {m : Str → Option Value} (F : Fr g L h m) (_N : News g L h ((src, o) :: p :: X))
    (h1 : wpAny M A t (CutN (DigOk src X) g L m s) E s)
    (h2 : ∀ h' tk' dig kd n a b ta tb, ∀ us : List (Int × Tok), (kd = "list" ∨ kd = "tuple") → us.length < 100 → SrcOk a b → Fr g L h' m → News g L h' ((src, listOf #[.int a ta, .int b tb] 0) :: (dig, seqO kd (uvs us) n) :: X) → Dis ((src, listOf #[.int a ta, .int b tb] 0) :: (dig, seqO kd (uvs us) n) :: X) → Q (.ref dig) { s with heap := h', toks := tk' }) : wpAny M A t Q E s :=
  cut_news (DigOk src X) F h1 fun v h' tk' nw ⟨dig, kd, n, a, b, ta, tb, us, e1, hk, hu, hs, e2, D⟩ F' N' => by subst e1 e2; exact h2 h' tk' dig kd n a b ta tb us hk hu hs F' N' D
theorem dig_tup_end {g h' : Heap} {L src T Dl : Addr} {m : Str → Option Value} {s : Shared} {us : List (Int × Tok)} {a b : Int} {ta tb : Tok} {o o2 o3 : Obj} {X : List (Addr × Obj)} {tk' : Nat}
    (F : Fr g L h' m) (N : News g L h' ((T, seqO "tuple" (uvs us) 0) :: (src, listOf #[.int a ta, .int b tb] 0) :: (Dl, o2) :: X)) (l : ∀ q ∈ (src, listOf #[.int a ta, .int b tb] 0) :: (Dl, o2) :: X, q.1 < T) (D : Dis ((src, o) :: (Dl, o3) :: X)) (hu : us.length < 100) (hs : SrcOk a b) :
    CutN (DigOk src X) g L m s (.ref T) { s with heap := h', toks := tk' } := by
  have D1 : Dis ((T, seqO "tuple" (uvs us) 0) :: (src, listOf #[.int a ta, .int b tb] 0) :: (Dl, o3) :: X) := Dis.cons (D.same rfl) (allLt_of fun q hq => by
    rcases List.mem_cons.mp hq with rfl | hq
    · exact l (src, listOf #[.int a ta, .int b tb] 0) (by simp)
    rcases List.mem_cons.mp hq with rfl | hq
    · exact l (Dl, o2) (by simp)
    exact l q (by simp [hq]))
  exact CutN.mk F (nw := (src, listOf #[.int a ta, .int b tb] 0) :: (T, seqO "tuple" (uvs us) 0) :: X) (news_sub N (by walk_at "m:sub9")) ⟨T, "tuple", 0, a, b, ta, tb, us, rfl, .inr rfl, hu, hs, rfl, D1.le (by walk_at "m:count")⟩
theorem dig_list_end {g h' : Heap} {L src Dl : Addr} {m : Str → Option Value} {s : Shared} {us : List (Int × Tok)} {a b : Int} {ta tb : Tok} {o o3 : Obj} {X : List (Addr × Obj)} {tk' n : Nat}
    (F : Fr g L h' m) (N : News g L h' ((src, listOf #[.int a ta, .int b tb] 0) :: (Dl, seqO "list" (uvs us) n) :: X)) (D : Dis ((src, o) :: (Dl, o3) :: X)) (hu : us.length < 100) (hs : SrcOk a b) :
    CutN (DigOk src X) g L m s (.ref Dl) { s with heap := h', toks := tk' } :=
  CutN.mk F N ⟨Dl, "list", n, a, b, ta, tb, us, rfl, .inl rfl, hu, hs, rfl, D.same rfl⟩
theorem made_in {h₀ h : Heap} {L : Addr} {q d a b c r : Addr × Obj} {X T : List (Addr × Obj)} (N : News h₀ L h (q :: d :: a :: b :: c :: r :: (X ++ T))) (D : Dis (q :: d :: a :: b :: c :: r :: (X ++ T))) :
    News h₀ L h (q :: r :: (X ++ (d :: a :: b :: c :: T))) ∧ Dis (q :: r :: (X ++ (d :: a :: b :: c :: T))) :=
  both N D (.cons q (pc2 [d, a, b, c] [r] X T))
theorem made_out {h₀ h : Heap} {L : Addr} {q d a b c : Addr × Obj} {X Y T : List (Addr × Obj)} (N : News h₀ L h (q :: (X ++ (Y ++ (d :: a :: b :: c :: T))))) (D : Dis (q :: (X ++ (Y ++ (d :: a :: b :: c :: T))))) :
    News h₀ L h (a :: b :: c :: q :: (X ++ (Y ++ (d :: T)))) ∧ Dis (a :: b :: c :: q :: (X ++ (Y ++ (d :: T)))) :=
  both N D (pc4 [a, b, c] [q] X Y [d] T).symm
theorem blk_in {h₀ h : Heap} {L : Addr} {a b c q d p1 p2 p3 : Addr × Obj} {X Y T : List (Addr × Obj)} (N : News h₀ L h (a :: b :: c :: q :: (X ++ (Y ++ (d :: p1 :: p2 :: p3 :: T))))) (D : Dis (a :: b :: c :: q :: (X ++ (Y ++ (d :: p1 :: p2 :: p3 :: T))))) :
    News h₀ L h ([p2] ++ (X ++ (Y ++ (a :: b :: c :: q :: d :: p1 :: p3 :: T)))) ∧ Dis ([p2] ++ (X ++ (Y ++ (a :: b :: c :: q :: d :: p1 :: p3 :: T)))) :=
  both N D (((pc2 [a, b, c, q] X Y _).trans (al X (al Y (pc [a, b, c, q, d, p1] [p2] (p3 :: T))))).trans (pc2 [p2] X Y _).symm)
theorem blk_out {h₀ h : Heap} {L : Addr} {a b c q d p1 p3 : Addr × Obj} {B X Y T : List (Addr × Obj)} (N : News h₀ L h (B ++ (X ++ (Y ++ (a :: b :: c :: q :: d :: p1 :: p3 :: T))))) (D : Dis (B ++ (X ++ (Y ++ (a :: b :: c :: q :: d :: p1 :: p3 :: T))))) :
    News h₀ L h (a :: b :: c :: q :: (X ++ (Y ++ (d :: p1 :: ([p3] ++ (B ++ T)))))) ∧ Dis (a :: b :: c :: q :: (X ++ (Y ++ (d :: p1 :: ([p3] ++ (B ++ T)))))) :=
  both N D ((pc3 B X Y [a, b, c, q, d, p1, p3] T).trans (pc2 [a, b, c, q] X Y _).symm)
section
variable {w : World} {S Sd all C Cd Rl : Addr} {an rn : Nat} {k1 k2 k3 j1 j2 tt : Tok} {here dig : Value} {taken : Int} {cs : List Cell} {P T : List (Addr × Obj)}
theorem seesP : Sees w (P ++ (core w S Sd all C Cd Rl an rn k1 k2 k3 j1 j2 tt here dig taken cs ++ (cells w cs ++ T))) S Sd all C here k1 k2 k3 an cs :=
  sees_of (by simp) (by simp) (by simp) fun p hp => List.mem_append_right _ (List.mem_append_right _ (List.mem_append_left _ hp))
theorem rowsP : Rows (P ++ (core w S Sd all C Cd Rl an rn k1 k2 k3 j1 j2 tt here dig taken cs ++ (cells w cs ++ T))) Rl rn cs :=
  rows_of (w := w) (by simp) fun p hp => List.mem_append_right _ (List.mem_append_right _ (List.mem_append_left _ hp))
variable {a b c q : Addr × Obj}
theorem sees4 : Sees w (a :: b :: c :: q :: (core w S Sd all C Cd Rl an rn k1 k2 k3 j1 j2 tt here dig taken cs ++ (cells w cs ++ T))) S Sd all C here k1 k2 k3 an cs := seesP (P := [a, b, c, q])
theorem rows4 : Rows (a :: b :: c :: q :: (core w S Sd all C Cd Rl an rn k1 k2 k3 j1 j2 tt here dig taken cs ++ (cells w cs ++ T))) Rl rn cs := rowsP (P := [a, b, c, q])
theorem len4 {prog : Program} {A : Around} {E : Value → Shared → Prop} {s : Shared} {h₀ : Heap} {L : Addr} {Q : Value → Shared → Prop} (N : News h₀ L s.heap (a :: b :: c :: q :: (core w S Sd all C Cd Rl an rn k1 k2 k3 j1 j2 tt here dig taken cs ++ (cells w cs ++ T)))) (hz : cs.length ≤ 5)
    (h : ∀ t tk, Q (.int (cs.length : Int) t) { s with toks := tk }) : wpAny (model prog w) A (call (.builtin "len") [.ref Rl]) Q E s := by
  have hm := (rows4 (w := w) (S := S) (Sd := Sd) (all := all) (C := C) (Cd := Cd) (Rl := Rl) (an := an) (rn := rn) (k1 := k1) (k2 := k2) (k3 := k3) (j1 := j1) (j2 := j2) (tt := tt) (here := here) (dig := dig) (taken := taken) (cs := cs) (T := T) (a := a) (b := b) (c := c) (q := q)).l
  have e : (cs.map fun c => Value.ref c.ra).toArray.size = cs.length := by simp
  refine len_list (isList_of N hm) (by rw [e]; omega) ?_
  rw [e]; exact h _ _
end
theorem m_tuple2 {prog : Program} {w : World} {A : Around} {E : Value → Shared → Prop} {s : Shared} {h₀ : Heap} {L d : Addr} {m : Str → Option Value} {news : List (Addr × Obj)} {us : List (Int × Tok)} {n : Nat} {Q : Value → Shared → Prop} (F : Fr h₀ L s.heap m) (N : News h₀ L s.heap news) (hm : (d, seqO "list" (uvs us) n) ∈ news) (hz : us.length < 1000)
    (h : ∀ D h', Fr h₀ L h' m → News h₀ L h' ((D, seqO "tuple" (uvs us) 0) :: news) → (∀ q ∈ news, q.1 < D) → Q (.ref D) { s with heap := h' }) : wpAny (model prog w) A (call (.type "tuple") [.ref d]) Q E s :=
  kde_tupleOf (zs := us.map fun u => Value.int u.1 u.2) F N ⟨_, N.get hm, rfl, n, rfl⟩ (by simp; omega) (by simp) h
end Mine

/- Rx -/
theorem Mine.word77 : True := by
  k_with "call builtin:len cons nil#" => first | ((k_here; (with_reducible show wpAny _ _ (call (Value.builtin _) [Value.ref _]) _ _ _); k_dflt (refine' Mine.m_len2 ?Nw ?mw ?hkw ?zw ?_; (case Nw => k_asm); (case mw => k_mem); (case hkw => assumption); (case zw => assumption); k_whole); intro _ _)) | fail "no"
  k_with "m:sub2#" => first | ((k_here; (with_reducible show wpAny _ _ (subscriptTail _ _ (Value.ref _) (Value.int _ _)) _ _ _); k_dflt (refine' Mine.m_sub2 ?Nw ?mw ?hkw ?aw ?bw ?zw ?_; (case Nw => k_asm); (case mw => k_mem); (case hkw => assumption); (case aw => assumption); (case bw => assumption); (case zw => assumption); k_whole); intro _ _)) | fail "no"
  k_with "subscriptTail Attribute Name Name ref int#" => first | (walk_at "m:sub2") | fail "no"
  k_with "call ref nil#" => first | (((try dsimp only [List.nil_append, List.cons_append]); (with_reducible show wpAny _ _ (call (Value.ref 108) [Value.ref _]) _ _ _); refine Mine.Hold.out ?_)) | fail "no"
  k_with "call ref cons nil#" => first | (((try dsimp only [List.nil_append, List.cons_append]); (with_reducible show wpAny _ _ (call (Value.ref 108) [Value.ref _]) _ _ _); refine Mine.Hold.out ?_)) | fail "no"
  k_with "call ref nil#" => first | (((try dsimp only [List.nil_append, List.cons_append]); (with_reducible show wpAny _ _ (call (Value.ref 182) [Value.ref _, Value.int _ _]) _ _ _); refine Mine.Hold.out ?_)) | fail "no"
  k_with "call ref cons nil#" => first | (((try dsimp only [List.nil_append, List.cons_append]); (with_reducible show wpAny _ _ (call (Value.ref 182) [Value.ref _, Value.int _ _]) _ _ _); refine Mine.Hold.out ?_)) | fail "no"
  k_with "subscriptTail Name Call ref int#" => first | (walk_at "m:subA") | fail "no"
  k_with "call builtin:len cons nil#" => first | ((k_here; (with_reducible show wpAny _ _ (call (Value.builtin _) [Value.ref _]) _ _ _); k_dflt (refine' Mine.m_len2 ?Nw ?mw ?hkw ?zw ?_; (case Nw => k_asm); (case mw => k_mem); (case hkw => first | exact .inl rfl | assumption); (case zw => assumption); k_whole); intro _ _)) | fail "no"
  k_with "call type:list#" => first | ((k_here; (with_reducible show wpAny _ _ (call (Value.type "list") [Value.ref _]) _ _ _); k_dflt (refine' Mine.m_list2 ?Fw ?Nw ?mw ?hkw ?zw ?_; (case Fw => k_asm); (case Nw => k_asm); (case mw => k_mem); (case hkw => first | exact .inl rfl | assumption); (case zw => assumption); k_whole); intro _ _ _ _ _ _)) | fail "no"
  k_with "m:sub2#" => first | ((k_here; (with_reducible show wpAny _ _ (subscriptTail _ _ (Value.ref _) (Value.int _ _)) _ _ _); k_dflt (refine' Mine.m_sub2 ?Nw ?mw ?hkw ?aw ?bw ?zw ?_; (case Nw => k_asm); (case mw => k_mem); (case hkw => first | exact .inl rfl | assumption); (case aw => assumption); (case bw => assumption); (case zw => assumption); k_whole); intro _ _)) | fail "no"
  k_with "m:sub3#" => first | ((k_here; (with_reducible show wpAny _ _ (subscriptTail _ _ (Value.ref _) (Value.int _ _)) _ _ _); k_dflt (refine' Mine.m_sub4 ?Nw ?mw ?hkw ?aw ?zw ?xw ?_; (case Nw => k_asm); (case mw => k_mem); (case hkw => first | exact .inl rfl | assumption); (case xw => assumption); (case aw => assumption); (case zw => assumption); k_whole))) | fail "no"
  k_with "subscriptTail Name Name ref int#" => first | (first | walk_at "m:sub3" | walk_at "m:sub2") | fail "no"
  k_with "exec For Name Call cons nil#" => first | ((k_here; (with_unfolding_all refine' Mine.For_G ?_ ?_; k_whole))) | fail "no"
  k_with "call type:range#" => first | (refine Mine.hold_if 5 (by assumption) ?_) | fail "no"
  k_with "eval IfExp#" => first | (refine Mine.hold_if 4 (by assumption) ?_) | fail "no"
  k_with "call ref nil#" => first | (((try dsimp only [List.nil_append, List.cons_append]); (with_reducible show wpAny _ _ (call (Value.ref 144) [Value.ref _]) _ _ _); refine Mine.Hold.out ?_)) | fail "no"
  k_with "call ref cons nil#" => first | (((try dsimp only [List.nil_append, List.cons_append]); (with_reducible show wpAny _ _ (call (Value.ref 144) [Value.ref _]) _ _ _); refine Mine.Hold.out ?_)) | fail "no"
  k_with "compareOp Eq ref ref#" => first | (first | (k_here; (with_reducible show wpAny _ _ (compareOp CmpOp.Eq (Value.ref _) (Value.ref _)) _ _ _); k_dflt (refine' Mine.m_eq_same (xs := Mine.uvs _) (ys := Mine.uvs _) ?Nw ?aw ?bw ?uw ?ew ?_; (case Nw => k_asm); (case aw => k_mem); (case bw => k_mem); (case uw => walk_at "m:units"); (case ew => exact ⟨rfl, fun _ _ _ => SeqAt.EqAt.same _⟩); k_whole)) | walk_at "m:eqnil") | fail "no"
  k_with "m:st5#" => first | ((intro _ hzw; simp only [List.contains_cons, List.contains_nil, Bool.or_false, Bool.or_eq_false_iff, beq_eq_false_iff_ne, ne_eq] at hzw; obtain ⟨hz1, hz2, hz3, hz4, hz5⟩ := hzw; simp [hz1, hz2, hz3, hz4, hz5])) | fail "no"
  trivial
namespace Mine
abbrev posL : Pos := ⟨202, 21, 202, 49⟩
abbrev qualL : Str := Str.ofString "law.<locals>.<lambda>"
abbrev o271 (l : List (Addr × Obj)) : Prop := Tabd posL qualL 271 l
section
variable {prog : Program} {w : World} {A : Around} {E : Value → Shared → Prop} {s : Shared} {env : Env} {body : List Stmt} {Q : Flow → Shared → Prop} {x : Str} {px : Pos} {g : Heap} {m₀ : Str → Option Value}
/-- a loop over range(x, y) whose ledger turns, by what holds of it -/
theorem range2S {n : Nat} {a b : Int} {ta tb : Tok} {news : List (Addr × Obj)} (xs : List Str) (St : Nat → List (Addr × Obj) → Prop) (hab : b - a = (n : Int)) (ha : -1000 < a) (ha2 : a < 1000)
    (hh : A.handled = none) (F : Fr g env.locals s.heap m₀) (N : News g env.locals s.heap news) (hn : n < 1000) (D : Dis news) (h0 : St 0 news)
    (step : ∀ I i (u : Str → Option Value) nw h₁ tk₁ t oi, i < n → Dis ((I, o0) :: nw) → St i nw → Fr g env.locals h₁ (fun z => if xs.contains z then u z else m₀ z) → News g env.locals h₁ ((I, oi) :: nw) → ∀ Q' : Flow → Shared → Prop,
      (∀ s₃, EndR g env.locals { s with heap := h₁, toks := tk₁ } (I, oi) (fun m nw => (∀ z, xs.contains z = false → m z = m₀ z) ∧ Dis ((I, o0) :: nw) ∧ St (i + 1) nw) Q .next s₃ → Q' .next s₃) →
      wpAny (model prog w) A (assign (.Name x px) env (.int (a + (i : Int)) t)) (fun _ s₂ => wpAny (model prog w) A (execs body env) Q' E s₂) E { s with heap := h₁, toks := tk₁ })
    (done : ∀ h' tk (u : Str → Option Value) nw, St n nw → Dis nw → Fr g env.locals h' (fun z => if xs.contains z then u z else m₀ z) → News g env.locals h' nw → Q .next { s with heap := h', toks := tk })
    (hE : PassesOwn (model prog w) A env E := by passes_own) :
    wpAny (model prog w) A (call (.type "range") [.int a ta, .int b tb]) (fun xv s₁ => wpAny (model prog w) A (pyIter xv) (fun it s₂ => TurnsG prog w A env (.Name x px) body Q E it s₂) E s₁) E s :=
  range2 hab ha ha2 hh F N hn (fun I i m nw => (∀ z, xs.contains z = false → m z = m₀ z) ∧ Dis ((I, o0) :: nw) ∧ St i nw)
    (fun I hI => ⟨fun z _ => rfl, D.cons (allLt_of hI), h0⟩)
    (fun I i m nw h₁ tk₁ t oi hi ⟨hm, DI, hs⟩ F9 N9 _ => by rw [map_of hm] at F9; exact step I i m nw h₁ tk₁ t oi hi DI hs F9 N9 _ fun _ h => h)
    (fun I h' tk m nw ⟨hm, DI, hs⟩ F9 N9 => by rw [map_of hm] at F9; exact done h' tk m nw hs (List.nodup_cons.mp DI).2 F9 N9) hE
/-- the ledger between the turns of the loop over of -/
def Form1 (a : Addr × Obj) (nb : Addr) (c q : Addr × Obj) (X Y : List (Addr × Obj)) (d p1 : Addr × Obj) (Z : List (Addr × Obj)) (nw : List (Addr × Obj)) : Prop :=
  ∃ ob tl, (∃ v0, ob.data = .cell v0) ∧ o271 tl ∧ nw = a :: (nb, ob) :: c :: q :: (X ++ (Y ++ (d :: p1 :: (tl ++ Z))))
theorem loop_of {n : Nat} {aa bb : Int} {ta tb : Tok} {a c q d p1 : Addr × Obj} {nb : Addr} {ob : Obj} {v0 : Option Value} {X Y Z : List (Addr × Obj)} (xs : List Str) (hab : bb - aa = (n : Int)) (ha : -1000 < aa) (ha2 : aa < 1000)
    (hh : A.handled = none) (F : Fr g env.locals s.heap m₀) (N : News g env.locals s.heap (a :: (nb, ob) :: c :: q :: (X ++ (Y ++ (d :: p1 :: ([(271, tabObj #[])] ++ Z)))))) (hn : n < 1000) (hob : ob.data = .cell v0) (D : Dis (a :: (nb, ob) :: c :: q :: (X ++ (Y ++ (d :: p1 :: ([(271, tabObj #[])] ++ Z))))))
    (step : ∀ I i (u : Str → Option Value) h₁ tk₁ t oi ob tl v0, i < n → ob.data = .cell v0 → o271 tl → Dis ((I, o0) :: a :: (nb, o0) :: c :: q :: (X ++ (Y ++ (d :: p1 :: (tl ++ Z))))) → Fr g env.locals h₁ (fun z => if xs.contains z then u z else m₀ z) → News g env.locals h₁ ((I, oi) :: a :: (nb, ob) :: c :: q :: (X ++ (Y ++ (d :: p1 :: (tl ++ Z))))) → ∀ Q' : Flow → Shared → Prop,
      (∀ s₃, EndR g env.locals { s with heap := h₁, toks := tk₁ } (I, oi) (fun m nw => (∀ z, xs.contains z = false → m z = m₀ z) ∧ Dis ((I, o0) :: nw) ∧ Form1 a nb c q X Y d p1 Z nw) Q .next s₃ → Q' .next s₃) →
      wpAny (model prog w) A (assign (.Name x px) env (.int (aa + (i : Int)) t)) (fun _ s₂ => wpAny (model prog w) A (execs body env) Q' E s₂) E { s with heap := h₁, toks := tk₁ })
    (done : ∀ h' tk (u : Str → Option Value) ob tl v0, ob.data = .cell v0 → o271 tl → Dis (a :: (nb, ob) :: c :: q :: (X ++ (Y ++ (d :: p1 :: (tl ++ Z))))) → Fr g env.locals h' (fun z => if xs.contains z then u z else m₀ z) → News g env.locals h' (a :: (nb, ob) :: c :: q :: (X ++ (Y ++ (d :: p1 :: (tl ++ Z))))) → Q .next { s with heap := h', toks := tk })
    (hE : PassesOwn (model prog w) A env E := by passes_own) :
    wpAny (model prog w) A (call (.type "range") [.int aa ta, .int bb tb]) (fun xv s₁ => wpAny (model prog w) A (pyIter xv) (fun it s₂ => TurnsG prog w A env (.Name x px) body Q E it s₂) E s₁) E s :=
  range2S xs (fun _ => Form1 a nb c q X Y d p1 Z) hab ha ha2 hh F N hn D ⟨ob, [(271, tabObj #[])], ⟨v0, hob⟩, .inl rfl, rfl⟩
    (fun I i u nw h₁ tk₁ t oi hi DI ⟨ob, tl, ⟨v0, hob⟩, ht, e⟩ F9 N9 Q' fin' => by subst e; exact step I i u h₁ tk₁ t oi ob tl v0 hi hob ht (DI.same rfl) F9 N9 Q' fin')
    (fun h' tk u nw ⟨ob, tl, ⟨v0, hob⟩, ht, e⟩ D9 F9 N9 => by subst e; exact done h' tk u ob tl v0 hob ht D9 F9 N9) hE
end
theorem permL {i a b c q d p1 : Addr × Obj} {X Y tl Z : List (Addr × Obj)} : (i :: a :: b :: c :: q :: (X ++ (Y ++ (d :: p1 :: (tl ++ Z))))).Perm (tl ++ (i :: a :: b :: c :: q :: (X ++ (Y ++ (d :: p1 :: Z))))) :=
  (pc4 tl [i, a, b, c, q] X Y [d, p1] Z).symm
theorem disL {i a c q d p1 : Addr × Obj} {nb : Addr} {ob : Obj} {X Y tl Z : List (Addr × Obj)} (D : Dis (i :: a :: (nb, o0) :: c :: q :: (X ++ (Y ++ (d :: p1 :: (tl ++ Z)))))) {oi : Obj} : Dis (tl ++ ((i.1, oi) :: a :: (nb, ob) :: c :: q :: (X ++ (Y ++ (d :: p1 :: Z))))) :=
  Dis.perm (D.same (l' := (i.1, oi) :: a :: (nb, ob) :: c :: q :: (X ++ (Y ++ (d :: p1 :: (tl ++ Z))))) rfl) permL
theorem numL {I nb : Addr} {a c q : Addr × Obj} {R : List (Addr × Obj)} (D : Dis ((I, o0) :: a :: (nb, o0) :: c :: q :: R)) : I ≠ nb ∧ a.1 ≠ nb ∧ ∀ z ∈ c :: q :: R, z.1 ≠ nb :=
  ⟨fun e => (List.nodup_cons.mp D).1 (by simp [e]), fun e => (List.nodup_cons.mp (List.nodup_cons.mp D).2).1 (by simp [e]), Dis.off (List.nodup_cons.mp (List.nodup_cons.mp D).2).2⟩
theorem turnL_end {g h' : Heap} {L : Addr} {s : Shared} {I nb f9 c9 : Addr} {oi ob of9 oc9 ot : Obj} {tk' : Nat} {m' m₀ : Str → Option Value} {xs : List Str} {a c q d p1 : Addr × Obj} {X Y tl Z : List (Addr × Obj)} {Q : Flow → Shared → Prop} {v0 : Option Value}
    (F : Fr g L h' m') (hm : ∀ z, xs.contains z = false → m' z = m₀ z) (ht : o271 [(271, ot), (c9, oc9)]) (hob : ob.data = .cell v0)
    (N : News g L h' ((f9, of9) :: (271, ot) :: (c9, oc9) :: (I, oi) :: a :: (nb, ob) :: c :: q :: (X ++ (Y ++ (d :: p1 :: Z)))))
    (D : Dis ((f9, of9) :: (271, ot) :: (c9, oc9) :: (I, oi) :: a :: (nb, ob) :: c :: q :: (X ++ (Y ++ (d :: p1 :: Z)))))
    (_DI : Dis ((I, o0) :: a :: (nb, o0) :: c :: q :: (X ++ (Y ++ (d :: p1 :: (tl ++ Z)))))) :
    EndR g L s (I, oi) (fun m nw => (∀ z, xs.contains z = false → m z = m₀ z) ∧ Dis ((I, o0) :: nw) ∧ Form1 a nb c q X Y d p1 Z nw) Q .next { s with heap := h', toks := tk' } := by
  have e : ∀ o : Obj, Dis ((I, o) :: a :: (nb, ob) :: c :: q :: (X ++ (Y ++ (d :: p1 :: ([(271, ot), (c9, oc9)] ++ Z))))) := fun o => D.le (by walk_at "m:count")
  refine EndR.next (news' := a :: (nb, ob) :: c :: q :: (X ++ (Y ++ (d :: p1 :: ([(271, ot), (c9, oc9)] ++ Z))))) (.inl rfl) F (news_sub N ?_) (e _) ⟨hm, e _, ob, _, ⟨v0, hob⟩, ht, rfl⟩
  simp only [List.cons_append, List.nil_append]
  walk_at "m:sub9"
theorem news_drop2 {h₀ h : Heap} {L : Addr} {p q : Addr × Obj} {R : List (Addr × Obj)} (N : News h₀ L h (p :: q :: R)) : News h₀ L h R := fun x hx => N x (List.mem_cons_of_mem _ (List.mem_cons_of_mem _ hx))
theorem tabd_mem {pos : Pos} {qual : Str} {P : Addr} {l : List (Addr × Obj)} (h : Tabd pos qual P l) : ∃ t, (P, tabObj t) ∈ l := by
  rcases h with rfl | ⟨c', oc, vs, t, rfl, _, _⟩
  · exact ⟨_, List.mem_cons_self⟩
  · exact ⟨_, List.mem_cons_self⟩
theorem ch_in {h₀ h : Heap} {L : Addr} {a b c q d p1 : Addr × Obj} {X Y W V : List (Addr × Obj)} (N : News h₀ L h (a :: b :: c :: q :: (W ++ (X ++ (Y ++ (d :: p1 :: V)))))) (D : Dis (a :: b :: c :: q :: (W ++ (X ++ (Y ++ (d :: p1 :: V)))))) :
    News h₀ L h (X ++ (Y ++ (d :: a :: b :: c :: q :: p1 :: (W ++ V)))) ∧ Dis (X ++ (Y ++ (d :: a :: b :: c :: q :: p1 :: (W ++ V)))) :=
  both N D ((al [a, b, c, q] (pc4 W X Y [d] [p1] V)).trans (pc3 [a, b, c, q] X Y [d] (p1 :: (W ++ V))))
theorem tabs4 {h₀ h : Heap} {L : Addr} {a b c q d : Addr × Obj} {ps : Array Value} {W tl tlB : List (Addr × Obj)} {p1 p2 p3 : Pos} {q1 q2 q3 : Str} (N : News h₀ L h (d :: a :: b :: c :: q :: (264, tabObj ps) :: (W ++ (tl ++ tlB)))) (h1 : Tabd p1 q1 238 W) (h2 : Tabd p2 q2 271 tl) (h3 : Tabd p3 q3 252 tlB) :
    ∃ t2 t3 t4, News h₀ L h ((264, tabObj ps) :: (252, tabObj t2) :: (238, tabObj t3) :: (271, tabObj t4) :: []) := by
  obtain ⟨t1, m1⟩ := tabd_mem h1
  obtain ⟨t2, m2⟩ := tabd_mem h2
  obtain ⟨t3, m3⟩ := tabd_mem h3
  refine ⟨t3, t1, t2, fun x hx => N x ?_⟩
  simp only [List.mem_cons, List.not_mem_nil, or_false] at hx
  rcases hx with rfl | rfl | rfl | rfl
  · simp
  · simp [m3]
  · simp [m1]
  · simp [m2]
theorem plainC {v : Value} {D : Addr} {i : Int} {t : Tok} (h : v ∈ #[Value.none, Value.ref D, Value.int i t].toList) : Plain v := by
  simp only [List.mem_cons, List.not_mem_nil, or_false] at h
  rcases h with rfl | rfl | rfl
  · exact .inl rfl
  · exact .inr (.inl ⟨_, rfl⟩)
  · exact .inr (.inr (.inl ⟨_, _, rfl⟩))
section
variable {w : World} {S Sd all C Cd Rl : Addr} {an rn : Nat} {k1 k2 k3 j1 j2 tt : Tok} {here dig : Value} {taken : Int} {cs : List Cell} {R : List (Addr × Obj)} {a c : Addr × Obj} {nb src : Addr}
/-- the ledger between the turns of the loop over wakes -/
abbrev lay2 (w : World) (S Sd all C Cd Rl : Addr) (an rn : Nat) (k1 k2 k3 j1 j2 tt : Tok) (here dig : Value) (taken : Int) (a : Addr × Obj) (nb : Addr) (c : Addr × Obj) (src : Addr) (R : List (Addr × Obj)) (ob so : Obj) (tl : List (Addr × Obj)) (cs : List Cell) : List (Addr × Obj) :=
  a :: (nb, ob) :: c :: (src, so) :: (tl ++ (core w S Sd all C Cd Rl an rn k1 k2 k3 j1 j2 tt here dig taken cs ++ (cells w cs ++ R)))
def Form2 (w : World) (S Sd all C Cd Rl : Addr) (an rn : Nat) (k1 k2 k3 j1 j2 tt : Tok) (here dig : Value) (taken : Int) (a : Addr × Obj) (nb : Addr) (c : Addr × Obj) (src : Addr) (R : List (Addr × Obj)) (nw : List (Addr × Obj)) : Prop :=
  ∃ ob tl cs va vb ta tb, (∃ v0, ob.data = .cell v0) ∧ Tabd posW qualW 238 tl ∧ StOk cs ∧ SrcOk va vb ∧ nw = lay2 w S Sd all C Cd Rl an rn k1 k2 k3 j1 j2 tt here dig taken a nb c src R ob (listOf #[.int va ta, .int vb tb] 0) tl cs
theorem wk_in {h₀ h : Heap} {L : Addr} {q d p1 : Addr × Obj} {b : Addr × Obj} {X Y tl tlB tlW : List (Addr × Obj)} (N : News h₀ L h (a :: b :: c :: q :: (X ++ (Y ++ (d :: p1 :: (tl ++ (tlB ++ tlW))))))) (D : Dis (a :: b :: c :: q :: (X ++ (Y ++ (d :: p1 :: (tl ++ (tlB ++ tlW))))))) :
    News h₀ L h (a :: b :: c :: q :: (tlW ++ (X ++ (Y ++ (d :: p1 :: (tl ++ tlB)))))) ∧ Dis (a :: b :: c :: q :: (tlW ++ (X ++ (Y ++ (d :: p1 :: (tl ++ tlB)))))) :=
  both N D (al [a, b, c, q] ((pc4 tlW X Y [d, p1] tl tlB).trans (al X (al Y (al [d, p1] (al tl List.perm_append_comm))))).symm)
theorem wk_call {h₀ h : Heap} {L : Addr} {i b q : Addr × Obj} {X Y tl R : List (Addr × Obj)} (N : News h₀ L h (i :: a :: b :: c :: q :: (tl ++ (X ++ (Y ++ R))))) (D : Dis (i :: a :: b :: c :: q :: (tl ++ (X ++ (Y ++ R))))) :
    News h₀ L h (tl ++ (X ++ (Y ++ (i :: a :: b :: c :: q :: R)))) ∧ Dis (tl ++ (X ++ (Y ++ (i :: a :: b :: c :: q :: R)))) :=
  both N D (pc3 [i, a, b, c, q] tl X Y R)
theorem wk_back {h₀ h : Heap} {L : Addr} {i b q : Addr × Obj} {X Y tl R : List (Addr × Obj)} (N : News h₀ L h (tl ++ (X ++ (Y ++ (i :: a :: b :: c :: q :: R))))) (D : Dis (tl ++ (X ++ (Y ++ (i :: a :: b :: c :: q :: R))))) :
    News h₀ L h (i :: a :: b :: c :: q :: (tl ++ (X ++ (Y ++ R)))) ∧ Dis (i :: a :: b :: c :: q :: (tl ++ (X ++ (Y ++ R)))) :=
  both N D (pc3 [i, a, b, c, q] tl X Y R).symm
theorem numW {I : Addr} {oi ob so : Obj} {T : List (Addr × Obj)} (D : Dis ((I, oi) :: a :: (nb, ob) :: c :: (src, so) :: T)) : (I ≠ nb ∧ a.1 ≠ nb ∧ c.1 ≠ nb ∧ src ≠ nb ∧ ∀ z ∈ T, z.1 ≠ nb) ∧ (I ≠ src ∧ a.1 ≠ src ∧ nb ≠ src ∧ c.1 ≠ src ∧ ∀ z ∈ T, z.1 ≠ src) := by
  have D1 := (List.nodup_cons.mp D)
  have D2 := (List.nodup_cons.mp D1.2)
  have D3 := (List.nodup_cons.mp D2.2)
  have D4 := (List.nodup_cons.mp D3.2)
  have D5 := (List.nodup_cons.mp D4.2)
  refine ⟨⟨fun e => D1.1 (by simp [e]), fun e => D2.1 (by simp [e]), fun e => D3.1 (by simp [e]), fun e => D3.1 (by simp [e]), fun z hz => Dis.off D2.2 z (by simp [hz])⟩, fun e => D1.1 (by simp [e]), fun e => D2.1 (by simp [e]), fun e => D3.1 (by simp [e]), fun e => D4.1 (by simp [e]), fun z hz => Dis.off D4.2 z (by simp [hz])⟩
theorem loop_wk {prog : Program} {w' : World} {A : Around} {E : Value → Shared → Prop} {s : Shared} {env : Env} {body : List Stmt} {Q : Flow → Shared → Prop} {x : Str} {px : Pos} {g : Heap} {m₀ : Str → Option Value} {n : Nat} {tn : Tok} {ob : Obj} {v0 : Option Value} {tl : List (Addr × Obj)} {va vb : Int} {ta tb : Tok} (xs : List Str)
    (hh : A.handled = none) (F : Fr g env.locals s.heap m₀) (N : News g env.locals s.heap (lay2 w S Sd all C Cd Rl an rn k1 k2 k3 j1 j2 tt here dig taken a nb c src R ob (listOf #[.int va ta, .int vb tb] 0) tl cs)) (hn : n < 1000) (hob : ob.data = .cell v0)
    (D : Dis (lay2 w S Sd all C Cd Rl an rn k1 k2 k3 j1 j2 tt here dig taken a nb c src R ob (listOf #[.int va ta, .int vb tb] 0) tl cs)) (ht : Tabd posW qualW 238 tl) (hst : StOk cs) (hs : SrcOk va vb)
    (step : ∀ I i (u : Str → Option Value) h₁ tk₁ t oi ob tl cs va vb ta tb v0, i < n → ob.data = .cell v0 → Tabd posW qualW 238 tl → StOk cs → SrcOk va vb → Dis ((I, o0) :: lay2 w S Sd all C Cd Rl an rn k1 k2 k3 j1 j2 tt here dig taken a nb c src R ob o0 tl cs) → Fr g env.locals h₁ (fun z => if xs.contains z then u z else m₀ z) → News g env.locals h₁ ((I, oi) :: lay2 w S Sd all C Cd Rl an rn k1 k2 k3 j1 j2 tt here dig taken a nb c src R ob (listOf #[.int va ta, .int vb tb] 0) tl cs) → ∀ Q' : Flow → Shared → Prop,
      (∀ s₃, EndR g env.locals { s with heap := h₁, toks := tk₁ } (I, oi) (fun m nw => (∀ z, xs.contains z = false → m z = m₀ z) ∧ Dis ((I, o0) :: nw) ∧ Form2 w S Sd all C Cd Rl an rn k1 k2 k3 j1 j2 tt here dig taken a nb c src R nw) Q .next s₃ → Q' .next s₃) →
      wpAny (model prog w') A (assign (.Name x px) env (.int (0 + (i : Int)) t)) (fun _ s₂ => wpAny (model prog w') A (execs body env) Q' E s₂) E { s with heap := h₁, toks := tk₁ })
    (done : ∀ h' tk (u : Str → Option Value) ob tl cs va vb ta tb v0, ob.data = .cell v0 → Tabd posW qualW 238 tl → StOk cs → SrcOk va vb → Fr g env.locals h' (fun z => if xs.contains z then u z else m₀ z) → News g env.locals h' (lay2 w S Sd all C Cd Rl an rn k1 k2 k3 j1 j2 tt here dig taken a nb c src R ob (listOf #[.int va ta, .int vb tb] 0) tl cs) → Dis (lay2 w S Sd all C Cd Rl an rn k1 k2 k3 j1 j2 tt here dig taken a nb c src R ob (listOf #[.int va ta, .int vb tb] 0) tl cs) → Q .next { s with heap := h', toks := tk })
    (hE : PassesOwn (model prog w') A env E := by passes_own) :
    wpAny (model prog w') A (call (.type "range") [.int (n : Int) tn]) (fun xv s₁ => wpAny (model prog w') A (pyIter xv) (fun it s₂ => TurnsG prog w' A env (.Name x px) body Q E it s₂) E s₁) E s :=
  range1 hh F N hn (fun I i m nw => (∀ z, xs.contains z = false → m z = m₀ z) ∧ Dis ((I, o0) :: nw) ∧ Form2 w S Sd all C Cd Rl an rn k1 k2 k3 j1 j2 tt here dig taken a nb c src R nw)
    (fun I hI => ⟨fun z _ => rfl, D.cons (allLt_of hI), ob, tl, cs, va, vb, ta, tb, ⟨v0, hob⟩, ht, hst, hs, rfl⟩)
    (fun I i m nw h₁ tk₁ t oi hi ⟨hm, DI, ob, tl, cs, va, vb, ta, tb, ⟨v0, hob⟩, ht, hst, hs, e⟩ F9 N9 _ => by subst e; rw [map_of hm] at F9; exact step I i m h₁ tk₁ t oi ob tl cs va vb ta tb v0 hi hob ht hst hs (DI.same rfl) F9 N9 _ fun _ h => h)
    (fun I h' tk m nw ⟨hm, DI, ob, tl, cs, va, vb, ta, tb, ⟨v0, hob⟩, ht, hst, hs, e⟩ F9 N9 => by subst e; rw [map_of hm] at F9; exact done h' tk m ob tl cs va vb ta tb v0 hob ht hst hs F9 N9 (List.nodup_cons.mp DI).2) hE
theorem wk_end {g h' : Heap} {L : Addr} {s : Shared} {I : Addr} {oi ob : Obj} {tk' : Nat} {m' m₀ : Str → Option Value} {xs : List Str} {tl : List (Addr × Obj)} {va vb : Int} {ta tb : Tok} {Q : Flow → Shared → Prop} {v0 : Option Value}
    (F : Fr g L h' m') (hm : ∀ z, xs.contains z = false → m' z = m₀ z) (ht : Tabd posW qualW 238 tl) (hst : StOk cs) (hs : SrcOk va vb) (hob : ob.data = .cell v0)
    (N : News g L h' ((I, oi) :: lay2 w S Sd all C Cd Rl an rn k1 k2 k3 j1 j2 tt here dig taken a nb c src R ob (listOf #[.int va ta, .int vb tb] 0) tl cs))
    (D : Dis ((I, oi) :: lay2 w S Sd all C Cd Rl an rn k1 k2 k3 j1 j2 tt here dig taken a nb c src R ob (listOf #[.int va ta, .int vb tb] 0) tl cs)) :
    EndR g L s (I, oi) (fun m nw => (∀ z, xs.contains z = false → m z = m₀ z) ∧ Dis ((I, o0) :: nw) ∧ Form2 w S Sd all C Cd Rl an rn k1 k2 k3 j1 j2 tt here dig taken a nb c src R nw) Q .next { s with heap := h', toks := tk' } :=
  EndR.next (.inl rfl) F N (D.same rfl) ⟨hm, D.same rfl, ob, tl, cs, va, vb, ta, tb, ⟨v0, hob⟩, ht, hst, hs, rfl⟩
theorem len6 {prog : Program} {A : Around} {E : Value → Shared → Prop} {s : Shared} {h₀ : Heap} {L : Addr} {Q : Value → Shared → Prop} {i : Addr × Obj} {ob so : Obj} {tl : List (Addr × Obj)} (N : News h₀ L s.heap (i :: lay2 w S Sd all C Cd Rl an rn k1 k2 k3 j1 j2 tt here dig taken a nb c src R ob so tl cs)) (hz : cs.length ≤ 5)
    (h : ∀ t tk, Q (.int (cs.length : Int) t) { s with toks := tk }) : wpAny (model prog w) A (call (.builtin "len") [.ref Rl]) Q E s :=
  len4 (a := i) (b := i) (c := i) (q := i) (T := R) (fun p hp => N p (by
    rcases List.mem_cons.mp hp with rfl | hp; · exact List.mem_cons_self
    rcases List.mem_cons.mp hp with rfl | hp; · exact List.mem_cons_self
    rcases List.mem_cons.mp hp with rfl | hp; · exact List.mem_cons_self
    rcases List.mem_cons.mp hp with rfl | hp; · exact List.mem_cons_self
    exact List.mem_cons_of_mem _ (List.mem_cons_of_mem _ (List.mem_cons_of_mem _ (List.mem_cons_of_mem _ (List.mem_cons_of_mem _ (List.mem_append_right _ hp))))))) hz h
end
section
variable {w : World} {S Sd all C Cd Rl : Addr} {an rn : Nat} {k1 k2 k3 j1 j2 tt : Tok} {here dig : Value} {taken : Int} {cs : List Cell} {T : List (Addr × Obj)} {a b c q i : Addr × Obj}
theorem len5 {prog : Program} {A : Around} {E : Value → Shared → Prop} {s : Shared} {h₀ : Heap} {L : Addr} {Q : Value → Shared → Prop} (N : News h₀ L s.heap (i :: a :: b :: c :: q :: (core w S Sd all C Cd Rl an rn k1 k2 k3 j1 j2 tt here dig taken cs ++ (cells w cs ++ T)))) (hz : cs.length ≤ 5)
    (h : ∀ t tk, Q (.int (cs.length : Int) t) { s with toks := tk }) : wpAny (model prog w) A (call (.builtin "len") [.ref Rl]) Q E s :=
  len4 (fun p hp => N p (List.mem_cons_of_mem _ hp)) hz h
theorem sees5 : Sees w (i :: a :: b :: c :: q :: (core w S Sd all C Cd Rl an rn k1 k2 k3 j1 j2 tt here dig taken cs ++ (cells w cs ++ T))) S Sd all C here k1 k2 k3 an cs := seesP (P := [i, a, b, c, q])
theorem seesF {f x : Addr × Obj} : Sees w (f :: x :: i :: a :: b :: c :: q :: (core w S Sd all C Cd Rl an rn k1 k2 k3 j1 j2 tt here dig taken cs ++ (cells w cs ++ T))) S Sd all C here k1 k2 k3 an cs := seesP (P := [f, x, i, a, b, c, q])
theorem seesG {f x y : Addr × Obj} : Sees w (f :: x :: y :: i :: a :: b :: c :: q :: (core w S Sd all C Cd Rl an rn k1 k2 k3 j1 j2 tt here dig taken cs ++ (cells w cs ++ T))) S Sd all C here k1 k2 k3 an cs := seesP (P := [f, x, y, i, a, b, c, q])
end
end Mine

/- G1 -/
theorem Mine.word78 : True := by
  k_with_none
  k_with "m:sub#" => first | ((k_here; (with_reducible show wpAny _ _ (subscriptTail _ _ (Value.ref _) (Value.int _ _)) _ _ _); k_dflt (refine' Mine.m_sub ?Nw ?mw ?aw ?bw ?xw ?_; (case Nw => k_asm); (case mw => k_mem); (case aw => decide); (case bw => decide); (case xw => rfl); k_whole))) | fail "no"
  k_with "subscriptTail Name Constant ref int#" => first | (walk_at "m:sub") | fail "no"
  k_with "m:compT#" => first | ((k_here; lct_look; k_dflt (refine LCt.ListComp_T (F₀ := by k_asm) (by with_unfolding_all rfl) (by decide) (by rfl) (by decide) (by rfl) ?_))) | fail "no"
  k_with "m:comp#" => first | ((k_here; k_dflt (refine LCg.ListComp_U (F₀ := by k_asm) (by with_unfolding_all rfl) (by decide) (by rfl) (by decide) (by rfl) ?_))) | fail "no"
  k_with "eval ListComp Name cons#" => first | (first | walk_at "m:compT" | walk_at "m:comp") | fail "no"
  k_with "eval ListComp Tuple cons#" => first | (first | walk_at "m:compT" | walk_at "m:comp") | fail "no"
  k_with "eval ListComp List cons#" => first | (first | walk_at "m:compT" | walk_at "m:comp") | fail "no"
  k_with "eval ListComp Attribute cons#" => first | (first | walk_at "m:compT" | walk_at "m:comp") | fail "no"
  k_with "CompSrcT#" => first | ((k_here; k_dflt (refine LCt.CompSrcT.ledger (by rfl) (by k_asm) (by k_asm) (by k_mem) (by first | size_fits | (simp only [List.size_toArray, List.length_map]; rw [sizeLine_eq]; omega)) ?_); intro _)) | fail "no"
  k_with "CompSrc#" => first | ((k_here; k_dflt (refine LCg.CompSrc.ledger (by rfl) (by k_asm) (by k_asm) (by k_mem) (by first | size_fits | (simp only [List.size_toArray, List.length_map]; rw [sizeLine_eq]; omega)) ?_); intro _)) | fail "no"
  k_with "m:in#" => first | (first | assumption | ((with_reducible refine List.mem_cons_of_mem _ ?_); walk_at "m:in") | ((with_reducible refine List.mem_append_right _ ?_); walk_at "m:in") | ((with_reducible refine List.mem_append_left _ ?_); walk_at "m:in")) | fail "no"
  k_with "m:tail#" => first | ((intro _ _; walk_at "m:in")) | fail "no"
  k_with "m:src#" => first | (exact Or.inr ⟨_, by k_mem, rfl, _, rfl⟩) | fail "no"
  k_with "m:units#" => first | (first | ktr_units | (have hcL9 := cLine_is; (simp only [units_in1, units_deeper, Around.mark_units] at *); (try dsimp only [ktrTop] at *); omega)) | fail "no"
  k_with "m:eqnil#" => first | ((k_here; (with_reducible show wpAny _ _ (compareOp CmpOp.Eq (Value.ref _) (Value.ref _)) _ _ _); k_dflt (refine' Mine.m_eq_nil ?Nw ?aw ?bw ?uw ?_; (case Nw => k_asm); (case bw => k_mem); (case aw => k_mem); (case uw => walk_at "m:units"); k_whole))) | fail "no"
  k_with "m:nenil#" => first | ((k_here; (with_reducible show wpAny _ _ (compareOp CmpOp.NotEq (Value.ref _) (Value.ref _)) _ _ _); k_dflt (refine' Mine.m_ne_nil ?Nw ?aw ?bw ?uw ?_; (case Nw => k_asm); (case bw => k_mem); (case aw => k_mem); (case uw => walk_at "m:units"); k_whole))) | fail "no"
  k_with "compareOp Eq ref ref#" => first | (walk_at "m:eqnil") | fail "no"
  k_with "m:nesame#" => first | ((k_here; (with_reducible show wpAny _ _ (compareOp CmpOp.NotEq (Value.ref _) (Value.ref _)) _ _ _); k_dflt (refine' Mine.m_ne_same ?Nw ?aw ?bw ?uw ?_ ?_; (case Nw => k_asm); (case aw => k_mem); (case bw => k_mem); (case uw => walk_at "m:units")))) | fail "no"
  k_with "compareOp NotEq ref ref#" => first | (first | walk_at "m:nenil" | walk_at "m:nesame") | fail "no"
  k_with "m:cend#" => first | (refine LCg.CompEnd.intro (by k_asm) (by k_asm) _ (by walk_at "m:tail") (by assumption) (by walk_at "m:src") ⟨rfl, ?_⟩) | fail "no"
  k_with "m:back#" => first | ((rename News _ _ _ _ => kN9; exact fun p9 hp9 => kN9 p9 (by walk_at "m:in"))) | fail "no"
  k_with "m:perm#" => first | ((intro _ hp9w; simp only [List.mem_cons, List.mem_append, List.cons_append, List.append_assoc, List.nil_append, List.not_mem_nil, or_false, false_or] at hp9w ⊢; (repeat' ((with_reducible refine Or.elim hp9w (fun hq9 => ?_) (fun hq9 => ?_)); clear hp9w; rename_i hp9w)) <;> simp only [hp9w, true_or, or_true])) | fail "no"
  k_with "m:sees#" => first | (first | assumption | exact Mine.Sees.mono (by assumption) (by walk_at "m:tail")) | fail "no"
  k_with "m:rows#" => first | (first | assumption | exact Mine.Rows.mono (by assumption) (by walk_at "m:tail")) | fail "no"
  k_with "m:off#" => first | (first | assumption | exact Mine.off_lt (by assumption) | (k_all)) | fail "no"
  k_with "m:small#" => first | (first | assumption | decide | (simp only [List.size_toArray, List.length_map, List.length_cons, List.length_nil]; omega) | (simp only [List.size_toArray, List.length_map, List.length_cons, List.length_nil] at *; omega)) | fail "no"
  k_with "call builtin:len cons nil#" => first | ((k_here; (with_reducible show wpAny _ _ (call (Value.builtin _) [Value.ref _]) _ _ _); k_dflt (refine' Mine.m_len ?Nw ?mw ?zw ?_; (case Nw => k_asm); (case mw => k_mem); (case zw => walk_at "m:small"); k_whole); intro _ _)) | fail "no"
  k_with "m:subS#" => first | ((k_here; (with_reducible show wpAny _ _ (subscriptTail _ _ (Value.ref _) (Value.int _ _)) _ _ _); k_dflt (refine' Mine.m_subS ?Nw ?mw ?aw ?bw ?zw ?_; (case Nw => k_asm); (case mw => k_mem); (case aw => first | assumption | omega); (case bw => first | assumption | omega); (case zw => walk_at "m:small"); k_whole); intro _ _)) | fail "no"
  k_with "subscriptTail Name Call ref int#" => first | (walk_at "m:subS") | fail "no"
  k_with "m:size#" => first | (first | assumption | decide | (simp only [List.size_toArray, List.length_cons, List.length_nil]; omega) | (simp; done)) | fail "no"
  k_with "m:split#" => first | (repeat (rename _ ∧ _ => hx9; have hy9 := And.left hx9; have hz9 := And.right hx9; clear hx9)) | fail "no"
  k_with "m:dis#" => first | ((simp only [List.map_cons, List.nodup_cons, List.mem_cons, not_or, List.cons_append, List.nil_append] at *; walk_at "m:split")) | fail "no"
  k_with "m:count#" => first | ((intro _; (try simp only [Mine.cells3_snoc, Mine.cells_mid, Mine.rowsOf_mid]); (try simp only [List.map_append, List.map_cons, List.map_nil, List.count_append, List.count_cons, List.count_nil, List.nil_append, List.cons_append]); omega)) | fail "no"
  k_with "m:dis9#" => first | (first | assumption | exact Mine.Dis.le (by assumption) (by walk_at "m:count")) | fail "no"
  k_with "m:lt#" => first | (first | assumption | exact True.intro | ((with_reducible refine Mine.allLt_le ?_ ?_) ; (first | (omega) | skip); assumption) | (refine And.intro ?_ ?_; (try dsimp only); omega; walk_at "m:lt") | (refine Mine.allLt_le (Nat.le_of_lt ?_) ?_; rotate_left; assumption; omega)) | fail "no"
  k_with "m:mem9#" => first | (first | exact List.mem_cons_self | (refine List.mem_cons_of_mem _ ?_; walk_at "m:mem9") | (refine List.mem_append_left _ ?_; walk_at "m:mem9") | (refine List.mem_append_right _ ?_; walk_at "m:mem9")) | fail "no"
  k_with "m:in9#" => first | (first | assumption | (refine List.mem_cons_of_mem _ ?_; walk_at "m:in9") | (refine List.mem_append_left _ ?_; walk_at "m:in9") | (refine List.mem_append_right _ ?_; walk_at "m:in9")) | fail "no"
  k_with "m:sub9#" => first | (first | (refine List.forall_mem_cons.mpr ⟨?_, ?_⟩; walk_at "m:mem9"; walk_at "m:sub9") | (refine List.forall_mem_append.mpr ⟨?_, ?_⟩; walk_at "m:sub9"; walk_at "m:sub9") | (intro _ hp9w; exact absurd hp9w List.not_mem_nil) | (intro _ hp9w; walk_at "m:in9")) | fail "no"
  k_with "compareOp IsNot none#" => first | ((k_here; k_dflt (refine Mine.m_isnot (by assumption) (by assumption) ?_))) | fail "no"
  k_with "m:subA#" => first | ((k_here; (with_reducible show wpAny _ _ (subscriptTail _ _ (Value.ref _) (Value.int _ _)) _ _ _); k_dflt (refine' Mine.m_sub ?Nw ?mw ?aw ?bw ?xw ?_; (case Nw => k_asm); (case mw => k_mem); (case xw => assumption); (case aw => first | assumption | omega); (case bw => first | decide | omega); k_whole))) | fail "no"
  k_with "subscriptTail Name Name ref int#" => first | (first | walk_at "m:subA" | walk_at "m:subS") | fail "no"
  k_with "subscriptTail Attribute Name Name ref int#" => first | (first | walk_at "m:subA" | walk_at "m:subS") | fail "no"
  k_with "m:enterD#" => first | ((refine' code_def ?k1w ?k2w ?k3w ?k4w ?k5w ?kAw ?kFw ?kKw ?k6w ?k7w ?k8w ?k9w ?kBw ?_ ?c2w ?c3w ?c4w ?c5w; (case kAw => exact rfl); (case kFw => exact rfl); (case kKw => first | exact rfl | assumption); (case k1w => k_asm); (case k2w => k_asm); (case k3w => k_asm); (case k4w => k_asm); (case k5w => k_asm); (case k6w => k_is); (case k7w => k_is); (case k8w => k_room); (case k9w => exact Mine.wake_binds (Frag.In.keeps (by k_asm) (Fr.keep (by k_asm))) (by k_is) rfl); (case c5w => decide); (case kBw => exact locs rfl); (case c2w => exact rfl); (case c3w => exact rfl); (case c4w => exact rfl); k_whole; intro _ _ _ _ _ _ B'w _ _; (try dsimp only); (try k_lift B'w); (try k_fold))) | fail "no"
  k_with "call ref cons nil#" => first | (((try dsimp only [List.nil_append, List.cons_append]); (with_reducible show wpAny _ _ (call (Value.ref 123) [Value.ref _, Value.int _ _, _]) _ _ _); (refine wpAny_call ?_); k_dflt (walk_at "m:enterD"))) | fail "no"
  k_with "call ref nil#" => first | (((try dsimp only [List.nil_append, List.cons_append]); (with_reducible show wpAny _ _ (call (Value.ref 203) [Value.ref _, Value.int _ _]) _ _ _); k_dflt (refine' Mine.takeU ?Bw ?Fw ?Xw ?Nw ?Tw ?kw ?dw ?uw ?ow ?aw ?tw ?t2w ?_; (case Bw => k_asm); (case Fw => k_asm); (case Xw => k_asm); (case Nw => k_asm); (case Tw => k_asm); (case kw => first | exact rfl | assumption); (case dw => ktr_room); (case uw => ktr_units); (case ow => k_updF); (case aw => assumption); (case tw => first | decide | assumption | omega); (case t2w => first | decide | assumption | omega)); intro _ _ _ _ _ _ _ _ _ _ _ _ N9w; (try dsimp only at N9w))) | fail "no"
  k_with "call ref cons nil#" => first | (((try dsimp only [List.nil_append, List.cons_append]); (with_reducible show wpAny _ _ (call (Value.ref 203) [Value.ref _, Value.int _ _]) _ _ _); k_dflt (refine' Mine.takeU ?Bw ?Fw ?Xw ?Nw ?Tw ?kw ?dw ?uw ?ow ?aw ?tw ?t2w ?_; (case Bw => k_asm); (case Fw => k_asm); (case Xw => k_asm); (case Nw => k_asm); (case Tw => k_asm); (case kw => first | exact rfl | assumption); (case dw => ktr_room); (case uw => ktr_units); (case ow => k_updF); (case aw => assumption); (case tw => first | decide | assumption | omega); (case t2w => first | decide | assumption | omega)); intro _ _ _ _ _ _ _ _ _ _ _ _ N9w; (try dsimp only at N9w))) | fail "no"
  k_with "call ref nil#" => first | (((try dsimp only [List.nil_append, List.cons_append]); (with_reducible show wpAny _ _ (call (Value.ref 210) [Value.ref _, Value.ref _]) _ _ _); k_dflt (refine' Mine.oneU ?Bw ?Fw ?Xw ?Nw ?Tw ?kw ?dw ?uw ?ow ?tw ?ew ?s0w ?s1w ?aw ?_; (case Bw => k_asm); (case Fw => k_asm); (case Xw => k_asm); (case Nw => k_asm); (case Tw => k_asm); (case kw => first | exact rfl | assumption); (case dw => ktr_room); (case uw => ktr_units); (case ow => k_updF); (case tw => k_mem); (case ew => k_ne); (case s0w => walk_at "m:size"); (case s1w => walk_at "m:size"); (case aw => assumption)); intro _ _ _ _ _ _ _ _ _ _ N9w; (try dsimp only at N9w))) | fail "no"
  k_with "call ref cons nil#" => first | (((try dsimp only [List.nil_append, List.cons_append]); (with_reducible show wpAny _ _ (call (Value.ref 210) [Value.ref _, Value.ref _]) _ _ _); k_dflt (refine' Mine.oneU ?Bw ?Fw ?Xw ?Nw ?Tw ?kw ?dw ?uw ?ow ?tw ?ew ?s0w ?s1w ?aw ?_; (case Bw => k_asm); (case Fw => k_asm); (case Xw => k_asm); (case Nw => k_asm); (case Tw => k_asm); (case kw => first | exact rfl | assumption); (case dw => ktr_room); (case uw => ktr_units); (case ow => k_updF); (case tw => k_mem); (case ew => k_ne); (case s0w => walk_at "m:size"); (case s1w => walk_at "m:size"); (case aw => assumption)); intro _ _ _ _ _ _ _ _ _ _ N9w; (try dsimp only at N9w))) | fail "no"
  k_with "m:for#" => first | ((k_here; (rename Fr _ _ _ _ => lF'); (with_unfolding_all refine' For_turns lF' ?_; k_whole))) | fail "no"
  k_with "exec For Name Name cons nil#" => first | (walk_at "m:for") | fail "no"
  k_with "exec For Tuple Call cons nil#" => first | (walk_at "m:for") | fail "no"
  k_with "call ref nil#" => first | (((try dsimp only [List.nil_append, List.cons_append]); (with_reducible show wpAny _ _ (call (Value.ref 103) [Value.ref _, Value.int _ _]) _ _ _); k_dflt (refine' Mine.of_spec ?Bw ?Fw ?Xw ?Nw ?Tw ?kw ?dw ?uw ?m1w ?m2w ?m3w ?zw ?j0w ?j1w ?_; (case Bw => k_asm); (case Fw => k_asm); (case Xw => k_asm); (case Nw => k_asm); (case Tw => k_asm); (case kw => first | exact rfl | assumption); (case dw => ktr_room); (case uw => ktr_units); (case m1w => k_mem); (case m2w => k_mem); (case m3w => k_mem); (case zw => assumption); (case j0w => assumption); (case j1w => assumption)); intro _ _ _ _)) | fail "no"
  k_with "call ref cons nil#" => first | (((try dsimp only [List.nil_append, List.cons_append]); (with_reducible show wpAny _ _ (call (Value.ref 103) [Value.ref _, Value.int _ _]) _ _ _); k_dflt (refine' Mine.of_spec ?Bw ?Fw ?Xw ?Nw ?Tw ?kw ?dw ?uw ?m1w ?m2w ?m3w ?zw ?j0w ?j1w ?_; (case Bw => k_asm); (case Fw => k_asm); (case Xw => k_asm); (case Nw => k_asm); (case Tw => k_asm); (case kw => first | exact rfl | assumption); (case dw => ktr_room); (case uw => ktr_units); (case m1w => k_mem); (case m2w => k_mem); (case m3w => k_mem); (case zw => assumption); (case j0w => assumption); (case j1w => assumption)); intro _ _ _ _)) | fail "no"
  k_with "call ref nil#" => first | (((try dsimp only [List.nil_append, List.cons_append]); (with_reducible show wpAny _ _ (call (Value.ref 103) [Value.ref _, Value.int _ _]) _ _ _); k_dflt (refine' Mine.of_spec2 ?Bw ?Fw ?Xw ?Nw ?Tw ?kw ?dw ?uw ?m1w ?m2w ?m3w ?zw ?j0w ?j1w ?_; (case Bw => k_asm); (case Fw => k_asm); (case Xw => k_asm); (case Nw => k_asm); (case Tw => k_asm); (case kw => first | exact rfl | assumption); (case dw => ktr_room); (case uw => ktr_units); (case m1w => k_mem); (case m2w => k_mem); (case m3w => k_mem); (case zw => assumption); (case j0w => assumption); (case j1w => first | assumption | (rename (@LT.lt Int _ _ _) => q9; simp only [List.size_toArray, List.length_map] at q9; omega))); intro _ _ _ _ _ _)) | fail "no"
  k_with "call ref cons nil#" => first | (((try dsimp only [List.nil_append, List.cons_append]); (with_reducible show wpAny _ _ (call (Value.ref 103) [Value.ref _, Value.int _ _]) _ _ _); k_dflt (refine' Mine.of_spec2 ?Bw ?Fw ?Xw ?Nw ?Tw ?kw ?dw ?uw ?m1w ?m2w ?m3w ?zw ?j0w ?j1w ?_; (case Bw => k_asm); (case Fw => k_asm); (case Xw => k_asm); (case Nw => k_asm); (case Tw => k_asm); (case kw => first | exact rfl | assumption); (case dw => ktr_room); (case uw => ktr_units); (case m1w => k_mem); (case m2w => k_mem); (case m3w => k_mem); (case zw => assumption); (case j0w => assumption); (case j1w => first | assumption | (rename (@LT.lt Int _ _ _) => q9; simp only [List.size_toArray, List.length_map] at q9; omega))); intro _ _ _ _ _ _)) | fail "no"
  k_with "call ref nil#" => first | (((try dsimp only [List.nil_append, List.cons_append]); (with_reducible show wpAny _ _ (call (Value.ref 103) [Value.ref _, Value.int _ _]) _ _ _); k_dflt (refine' Mine.of_spec ?Bw ?Fw ?Xw ?Nw ?Tw ?kw ?dw ?uw ?m1w ?m2w ?m3w ?zw ?j0w ?j1w ?_; (case Bw => k_asm); (case Fw => k_asm); (case Xw => k_asm); (case Nw => k_asm); (case Tw => k_asm); (case kw => first | exact rfl | assumption); (case dw => ktr_room); (case uw => ktr_units); (case m1w => k_mem); (case m2w => k_mem); (case m3w => k_mem); (case zw => assumption); (case j0w => assumption); (case j1w => assumption)); intro _ _ _ _)) | fail "no"
  k_with "call ref cons nil#" => first | (((try dsimp only [List.nil_append, List.cons_append]); (with_reducible show wpAny _ _ (call (Value.ref 103) [Value.ref _, Value.int _ _]) _ _ _); k_dflt (refine' Mine.of_spec ?Bw ?Fw ?Xw ?Nw ?Tw ?kw ?dw ?uw ?m1w ?m2w ?m3w ?zw ?j0w ?j1w ?_; (case Bw => k_asm); (case Fw => k_asm); (case Xw => k_asm); (case Nw => k_asm); (case Tw => k_asm); (case kw => first | exact rfl | assumption); (case dw => ktr_room); (case uw => ktr_units); (case m1w => k_mem); (case m2w => k_mem); (case m3w => k_mem); (case zw => assumption); (case j0w => assumption); (case j1w => assumption)); intro _ _ _ _)) | fail "no"
  k_with "call ref nil#" => first | (((try dsimp only [List.nil_append, List.cons_append]); (with_reducible show wpAny _ _ (call (Value.ref 115) [Value.ref _, _]) _ _ _); refine Mine.Hold.out ?_)) | fail "no"
  k_with "call ref cons nil#" => first | (((try dsimp only [List.nil_append, List.cons_append]); (with_reducible show wpAny _ _ (call (Value.ref 115) [Value.ref _, _]) _ _ _); refine Mine.Hold.out ?_)) | fail "no"
  k_with "call ref nil#" => first | (((try dsimp only [List.nil_append, List.cons_append]); (with_reducible show wpAny _ _ (call (Value.ref 123) [Value.ref _, Value.int _ _, _]) _ _ _); refine Mine.Hold.out ?_)) | fail "no"
  k_with "call ref cons nil#" => first | (((try dsimp only [List.nil_append, List.cons_append]); (with_reducible show wpAny _ _ (call (Value.ref 123) [Value.ref _, Value.int _ _, _]) _ _ _); refine Mine.Hold.out ?_)) | fail "no"
  k_with "exec If#" => first | (refine Mine.hold_if 8 (by assumption) ?_) | fail "no"
  k_with "call ref nil#" => first | (((try dsimp only [List.nil_append, List.cons_append]); (with_reducible show wpAny _ _ (call (Value.ref 108) [Value.ref _]) _ _ _); k_dflt (refine' Mine.ready_spec ?Bw ?Fw ?Xw ?Nw ?Tw ?kw ?dw ?uw ?vw ?lw ?_; (case Bw => k_asm); (case Fw => k_asm); (case Xw => k_asm); (case Nw => k_asm); (case Tw => k_asm); (case kw => first | exact rfl | assumption); (case dw => ktr_room); (case uw => ktr_units); (case vw => walk_at "m:sees"); (case lw => assumption); k_whole); intro _ _ _ _ _ _)) | fail "no"
  k_with "call ref cons nil#" => first | (((try dsimp only [List.nil_append, List.cons_append]); (with_reducible show wpAny _ _ (call (Value.ref 108) [Value.ref _]) _ _ _); k_dflt (refine' Mine.ready_spec ?Bw ?Fw ?Xw ?Nw ?Tw ?kw ?dw ?uw ?vw ?lw ?_; (case Bw => k_asm); (case Fw => k_asm); (case Xw => k_asm); (case Nw => k_asm); (case Tw => k_asm); (case kw => first | exact rfl | assumption); (case dw => ktr_room); (case uw => ktr_units); (case vw => walk_at "m:sees"); (case lw => assumption); k_whole); intro _ _ _ _ _ _)) | fail "no"
  k_with "call ref nil#" => first | (((try dsimp only [List.nil_append, List.cons_append]); (with_reducible show wpAny _ _ (call (Value.ref 149) [Value.ref _]) _ _ _); k_dflt (refine' Mine.dead_spec ?Bw ?Fw ?Xw ?Nw ?Tw ?kw ?dw ?uw ?vw ?lw ?_; (case Bw => k_asm); (case Fw => k_asm); (case Xw => k_asm); (case Nw => k_asm); (case Tw => k_asm); (case kw => first | exact rfl | assumption); (case dw => ktr_room); (case uw => ktr_units); (case vw => walk_at "m:sees"); (case lw => assumption); k_whole); intro _ _ _ _)) | fail "no"
  k_with "call ref cons nil#" => first | (((try dsimp only [List.nil_append, List.cons_append]); (with_reducible show wpAny _ _ (call (Value.ref 149) [Value.ref _]) _ _ _); k_dflt (refine' Mine.dead_spec ?Bw ?Fw ?Xw ?Nw ?Tw ?kw ?dw ?uw ?vw ?lw ?_; (case Bw => k_asm); (case Fw => k_asm); (case Xw => k_asm); (case Nw => k_asm); (case Tw => k_asm); (case kw => first | exact rfl | assumption); (case dw => ktr_room); (case uw => ktr_units); (case vw => walk_at "m:sees"); (case lw => assumption); k_whole); intro _ _ _ _)) | fail "no"
  k_with "call ref nil#" => first | (((try dsimp only [List.nil_append, List.cons_append]); (with_reducible show wpAny _ _ (call (Value.ref 154) [Value.ref _]) _ _ _); k_dflt (refine' Mine.wait_spec ?Bw ?Fw ?Xw ?Nw ?Tw ?kw ?dw ?uw ?vw ?lw ?hhw ?_; (case Bw => k_asm); (case Fw => k_asm); (case Xw => k_asm); (case Nw => k_asm); (case Tw => k_asm); (case kw => first | exact rfl | assumption); (case dw => ktr_room); (case uw => ktr_units); (case vw => walk_at "m:sees"); (case lw => assumption); (case hhw => assumption); k_whole); intro _ _ _ _ _ _ _ _)) | fail "no"
  k_with "call ref cons nil#" => first | (((try dsimp only [List.nil_append, List.cons_append]); (with_reducible show wpAny _ _ (call (Value.ref 154) [Value.ref _]) _ _ _); k_dflt (refine' Mine.wait_spec ?Bw ?Fw ?Xw ?Nw ?Tw ?kw ?dw ?uw ?vw ?lw ?hhw ?_; (case Bw => k_asm); (case Fw => k_asm); (case Xw => k_asm); (case Nw => k_asm); (case Tw => k_asm); (case kw => first | exact rfl | assumption); (case dw => ktr_room); (case uw => ktr_units); (case vw => walk_at "m:sees"); (case lw => assumption); (case hhw => assumption); k_whole); intro _ _ _ _ _ _ _ _)) | fail "no"
  k_with "exec Assign cons ListComp#" => first | ((k_here; (with_reducible show wpAny _ _ (exec (Stmt.Assign [Expr.Name _ _] (Expr.ListComp _ [⟨Expr.Name _ _, _, [], _⟩] _ _) _) _) _ _ _); k_dflt (refine LCg.Assign_ListComp_U (F₀ := by k_asm) (by rfl) (by with_unfolding_all rfl) (by with_unfolding_all rfl) (by decide) (by rfl) (by decide) (by rfl) (by rfl) (by rfl) ?_))) | fail "no"
  k_with "exec Assign cons ListComp#" => first | ((k_here; (with_reducible show wpAny _ _ (exec (Stmt.Assign [Expr.Name _ _] (Expr.ListComp _ [⟨Expr.Tuple _ _ _, _, [_], _⟩] _ _) _) _) _ _ _); k_dflt (refine Mine.enum_Assign (F₀ := by k_asm) (by rfl) (by with_unfolding_all rfl) (by with_unfolding_all rfl) (by decide) (by rfl) (by decide) (by rfl) (by rfl) (by decide) (by rfl) (by rfl) ?_))) | fail "no"
  k_with "m:enterC#" => first | ((refine' code_defC ?k1w ?k2w ?k3w ?k4w ?k5w ?kAw ?kFw ?kKw ?k6w ?k7w ?k8w ?k9w ?kBw ?kDw ?_ ?c2w ?c3w ?c4w; (case kAw => exact rfl); (case kFw => exact rfl); (case kKw => first | exact rfl | assumption); (case k1w => k_asm); (case k2w => k_asm); (case k3w => k_asm); (case k4w => k_asm); (case k5w => k_asm); (case k6w => k_is); (case k7w => k_is); (case k8w => ktr_room); (case k9w => exact BindsTo.of_eq rfl); (case kBw => exact rfl); (case kDw => decide +kernel); (case c2w => exact rfl); (case c3w => exact rfl); (case c4w => exact rfl); k_whole; intro _ _ _ _ _ _ _ N'w Y'w B'w _ _ l1w; (try k_lt l1w); k_cells Y'w; (try simp only [List.cons_append, List.nil_append] at N'w); (try dsimp only); (try k_lift B'w); (try k_fold))) | fail "no"
  k_with "m:lt9#" => first | (first | assumption | exact True.intro | (refine And.intro (by (try dsimp only); omega) ?_; walk_at "m:lt9") | exact Mine.allLt_le (Nat.le_succ _) (by assumption) | (refine Mine.allLt_le (Nat.le_of_lt ?_) ?_; rotate_left; assumption; omega)) | fail "no"
  k_with "m:dcons#" => first | (first | assumption | (refine Mine.Dis.cons ?h9w ?k9w; (case k9w => ((try dsimp only); walk_at "m:lt9")); (case h9w => walk_at "m:dcons"))) | fail "no"
  k_with "m:sees#" => first | (exact Mine.sees_of (by k_mem) (by k_mem) (by k_mem) (by walk_at "m:tail")) | fail "no"
  k_with "m:rows#" => first | (exact Mine.rows_of (by k_mem) (by walk_at "m:tail")) | fail "no"
  k_with "m:facts#" => first | ((simp only [Mine.Dis, List.map_cons, List.nodup_cons, List.mem_cons, not_or] at *; walk_at "m:split")) | fail "no"
  k_with "call ref nil#" => first | (((try dsimp only [List.nil_append, List.cons_append]); (with_reducible show wpAny _ _ (call (Value.ref 52) [Value.str _ _, Value.str _ _]) _ _ _); k_dflt (refine' Mine.fault_spec ?Bw ?Fw ?Xw ?Nw ?Tw ?kw ?dw ?uw ?_; (case Bw => k_asm); (case Fw => k_asm); (case Xw => k_asm); (case Nw => k_asm); (case Tw => k_asm); (case kw => first | exact rfl | assumption); (case dw => ktr_room); (case uw => ktr_units)); intro _ _ _ _ _ _ _ _ _ _ _ _ _ _)) | fail "no"
  k_with "call ref cons nil#" => first | (((try dsimp only [List.nil_append, List.cons_append]); (with_reducible show wpAny _ _ (call (Value.ref 52) [Value.str _ _, Value.str _ _]) _ _ _); k_dflt (refine' Mine.fault_spec ?Bw ?Fw ?Xw ?Nw ?Tw ?kw ?dw ?uw ?_; (case Bw => k_asm); (case Fw => k_asm); (case Xw => k_asm); (case Nw => k_asm); (case Tw => k_asm); (case kw => first | exact rfl | assumption); (case dw => ktr_room); (case uw => ktr_units)); intro _ _ _ _ _ _ _ _ _ _ _ _ _ _)) | fail "no"
  k_with "exec Raise some none#" => first | ((k_here; (with_reducible show wpAny _ _ (exec (Stmt.Raise (some (Expr.Call (Expr.Name _ _) (_ :: _) [] _)) none _) _) _ _ _); k_dflt (refine' Mine.Raise_O (C := 52) ?X9w ?q9w ?h9w ?_; (case X9w => k_asm); (case q9w => kernel_rfl); (case h9w => exact rfl)))) | fail "no"
  k_with "RaisableO ref#" => first | ((rename News _ _ _ _ => N9; refine ⟨_, some _, _, rfl, (N9 _ List.mem_cons_self).1, (by k_in), ?_⟩; (try dsimp only))) | fail "no"
  k_with "m:leaveF#" => first | ((rename News _ _ _ _ => N9; (refine' Mine.leaveD_first ?K9w ?F9w ?hf9w ?hk9w N9 (Mine.off_two (by assumption) (by assumption) (by assumption)) ?_; (case K9w => k_asm); (case F9w => k_asm); (case hf9w => exact rfl); (case hk9w => exact rfl)); intro _ _ _)) | fail "no"
  k_with "call ref nil#" => first | (((try dsimp only [List.nil_append, List.cons_append]); (with_reducible show wpAny _ _ (call (Value.ref 103) [Value.ref _, Value.int _ _]) _ _ _); k_dflt (refine' Mine.of_fault ?Bw ?Fw ?Xw ?Nw ?Tw ?kw ?dw ?uw ?m1w ?m2w ?m3w ?zw ?j0w ?j1w ?j2w ?_; (case Bw => k_asm); (case Fw => k_asm); (case Xw => k_asm); (case Nw => k_asm); (case Tw => k_asm); (case kw => first | exact rfl | assumption); (case dw => ktr_room); (case uw => ktr_units); (case m1w => k_mem); (case m2w => k_mem); (case m3w => k_mem); (case zw => assumption); (case j0w => assumption); (case j1w => assumption); (case j2w => assumption)); intro _ _ _ _ _ _ _ _ _ _ _ _ _ _ _ _)) | fail "no"
  k_with "call ref cons nil#" => first | (((try dsimp only [List.nil_append, List.cons_append]); (with_reducible show wpAny _ _ (call (Value.ref 103) [Value.ref _, Value.int _ _]) _ _ _); k_dflt (refine' Mine.of_fault ?Bw ?Fw ?Xw ?Nw ?Tw ?kw ?dw ?uw ?m1w ?m2w ?m3w ?zw ?j0w ?j1w ?j2w ?_; (case Bw => k_asm); (case Fw => k_asm); (case Xw => k_asm); (case Nw => k_asm); (case Tw => k_asm); (case kw => first | exact rfl | assumption); (case dw => ktr_room); (case uw => ktr_units); (case m1w => k_mem); (case m2w => k_mem); (case m3w => k_mem); (case zw => assumption); (case j0w => assumption); (case j1w => assumption); (case j2w => assumption)); intro _ _ _ _ _ _ _ _ _ _ _ _ _ _ _ _)) | fail "no"
  k_with "call ref nil#" => first | (((try dsimp only [List.nil_append, List.cons_append]); (with_reducible show wpAny _ _ (call (Value.ref 103) [Value.ref _, Value.int _ _]) _ _ _); k_dflt (refine' Mine.of_spec ?Bw ?Fw ?Xw ?Nw ?Tw ?kw ?dw ?uw ?m1w ?m2w ?m3w ?zw ?j0w ?j1w ?_; (case Bw => k_asm); (case Fw => k_asm); (case Xw => k_asm); (case Nw => k_asm); (case Tw => k_asm); (case kw => first | exact rfl | assumption); (case dw => ktr_room); (case uw => ktr_units); (case m1w => k_mem); (case m2w => k_mem); (case m3w => k_mem); (case zw => assumption); (case j0w => assumption); (case j1w => assumption)); intro _ _ _ _)) | fail "no"
  k_with "call ref cons nil#" => first | (((try dsimp only [List.nil_append, List.cons_append]); (with_reducible show wpAny _ _ (call (Value.ref 103) [Value.ref _, Value.int _ _]) _ _ _); k_dflt (refine' Mine.of_spec ?Bw ?Fw ?Xw ?Nw ?Tw ?kw ?dw ?uw ?m1w ?m2w ?m3w ?zw ?j0w ?j1w ?_; (case Bw => k_asm); (case Fw => k_asm); (case Xw => k_asm); (case Nw => k_asm); (case Tw => k_asm); (case kw => first | exact rfl | assumption); (case dw => ktr_room); (case uw => ktr_units); (case m1w => k_mem); (case m2w => k_mem); (case m3w => k_mem); (case zw => assumption); (case j0w => assumption); (case j1w => assumption)); intro _ _ _ _)) | fail "no"
  k_with "m:leaveO#" => first | (((refine' Mine.leaveD_on ?K9w ?F9w ?hf9w ?R9w ?U9w ?_; (case R9w => with_unfolding_all assumption); (case F9w => k_asm); (case K9w => k_asm); (case hf9w => exact rfl); (case U9w => assumption)); intro _ _ _)) | fail "no"
  k_with "call ref nil#" => first | (((try dsimp only [List.nil_append, List.cons_append]); (with_reducible show wpAny _ _ (call (Value.ref 123) [Value.ref _, Value.int _ _, _]) _ _ _); refine Mine.Hold.out ?_)) | fail "no"
  k_with "call ref cons nil#" => first | (((try dsimp only [List.nil_append, List.cons_append]); (with_reducible show wpAny _ _ (call (Value.ref 123) [Value.ref _, Value.int _ _, _]) _ _ _); refine Mine.Hold.out ?_)) | fail "no"
  k_with "call ref nil#" => first | (((try dsimp only [List.nil_append, List.cons_append]); (with_reducible show wpAny _ _ (call (Value.ref 236) [Value.ref _]) _ _ _); refine Mine.Hold.out ?_)) | fail "no"
  k_with "call ref cons nil#" => first | (((try dsimp only [List.nil_append, List.cons_append]); (with_reducible show wpAny _ _ (call (Value.ref 236) [Value.ref _]) _ _ _); refine Mine.Hold.out ?_)) | fail "no"
  k_with "call ref nil#" => first | (((try dsimp only [List.nil_append, List.cons_append]); (with_reducible show wpAny _ _ (call (Value.ref 229) [Value.ref _, Value.ref _]) _ _ _); refine Mine.Hold.out ?_)) | fail "no"
  k_with "call ref cons nil#" => first | (((try dsimp only [List.nil_append, List.cons_append]); (with_reducible show wpAny _ _ (call (Value.ref 229) [Value.ref _, Value.ref _]) _ _ _); refine Mine.Hold.out ?_)) | fail "no"
  k_with "eval Lambda#" => first | (refine Mine.Hold.out ?_) | fail "no"
  k_with "eval BoolOp And#" => first | (refine Mine.hold_if 1 (by assumption) ?_) | fail "no"
  k_with "call ref nil#" => first | (((try dsimp only [List.nil_append, List.cons_append]); (with_reducible show wpAny _ _ (call (Value.ref 123) [Value.ref _, Value.int _ _, _]) _ _ _); refine Mine.Hold.out ?_)) | fail "no"
  k_with "call ref cons nil#" => first | (((try dsimp only [List.nil_append, List.cons_append]); (with_reducible show wpAny _ _ (call (Value.ref 123) [Value.ref _, Value.int _ _, _]) _ _ _); refine Mine.Hold.out ?_)) | fail "no"
  k_with "call ref nil#" => first | (((try dsimp only [List.nil_append, List.cons_append]); (with_reducible show wpAny _ _ (call (Value.ref 236) [Value.ref _]) _ _ _); refine Mine.Hold.out ?_)) | fail "no"
  k_with "call ref cons nil#" => first | (((try dsimp only [List.nil_append, List.cons_append]); (with_reducible show wpAny _ _ (call (Value.ref 236) [Value.ref _]) _ _ _); refine Mine.Hold.out ?_)) | fail "no"
  k_with "call ref nil#" => first | (((try dsimp only [List.nil_append, List.cons_append]); (with_reducible show wpAny _ _ (call (Value.ref 229) [Value.ref _, Value.ref _]) _ _ _); refine Mine.Hold.out ?_)) | fail "no"
  k_with "call ref cons nil#" => first | (((try dsimp only [List.nil_append, List.cons_append]); (with_reducible show wpAny _ _ (call (Value.ref 229) [Value.ref _, Value.ref _]) _ _ _); refine Mine.Hold.out ?_)) | fail "no"
  k_with "eval Lambda#" => first | (refine Mine.Hold.out ?_) | fail "no"
  k_with "call ref nil#" => first | (((try dsimp only [List.nil_append, List.cons_append]); (with_reducible show wpAny _ _ (call (Value.ref 217) [Value.ref _, Value.ref _, Value.ref _]) _ _ _); refine Mine.Hold.out ?_)) | fail "no"
  k_with "call ref cons nil#" => first | (((try dsimp only [List.nil_append, List.cons_append]); (with_reducible show wpAny _ _ (call (Value.ref 217) [Value.ref _, Value.ref _, Value.ref _]) _ _ _); refine Mine.Hold.out ?_)) | fail "no"
  k_with "call ref nil#" => first | (((try dsimp only [List.nil_append, List.cons_append]); (with_reducible show wpAny _ _ (call (Value.ref 149) [Value.ref _]) _ _ _); refine Mine.Hold.out ?_)) | fail "no"
  k_with "call ref cons nil#" => first | (((try dsimp only [List.nil_append, List.cons_append]); (with_reducible show wpAny _ _ (call (Value.ref 149) [Value.ref _]) _ _ _); refine Mine.Hold.out ?_)) | fail "no"
  k_with "call ref nil#" => first | (((try dsimp only [List.nil_append, List.cons_append]); (with_reducible show wpAny _ _ (call (Value.ref 103) [Value.ref _, Value.int _ _]) _ _ _); refine Mine.Hold.out ?_)) | fail "no"
  k_with "call ref cons nil#" => first | (((try dsimp only [List.nil_append, List.cons_append]); (with_reducible show wpAny _ _ (call (Value.ref 103) [Value.ref _, Value.int _ _]) _ _ _); refine Mine.Hold.out ?_)) | fail "no"
  k_with "call ref nil#" => first | (((try dsimp only [List.nil_append, List.cons_append]); (with_reducible show wpAny _ _ (call (Value.ref 236) [Value.ref _]) _ _ _); refine Mine.Hold.out ?_)) | fail "no"
  k_with "call ref cons nil#" => first | (((try dsimp only [List.nil_append, List.cons_append]); (with_reducible show wpAny _ _ (call (Value.ref 236) [Value.ref _]) _ _ _); refine Mine.Hold.out ?_)) | fail "no"
  k_with "call ref nil#" => first | (((try dsimp only [List.nil_append, List.cons_append]); (with_reducible show wpAny _ _ (call (Value.ref 243) [Value.ref _, Value.ref _, Value.int _ _, Value.none]) _ _ _); refine Mine.Hold.out ?_)) | fail "no"
  k_with "call ref cons nil#" => first | (((try dsimp only [List.nil_append, List.cons_append]); (with_reducible show wpAny _ _ (call (Value.ref 243) [Value.ref _, Value.ref _, Value.int _ _, Value.none]) _ _ _); refine Mine.Hold.out ?_)) | fail "no"
  k_with "call ref cons#" => first | (((with_reducible show wpAny _ _ (call (Value.ref 243) _) _ _ _); refine Mine.Hold.out ?_)) | fail "no"
  k_with "eval Lambda#" => first | (refine Mine.Hold.out ?_) | fail "no"
  k_with "call ref nil#" => first | (((try dsimp only [List.nil_append, List.cons_append]); (with_reducible show wpAny _ _ (call (Value.ref 103) [Value.ref _, Value.int _ _]) _ _ _); k_dflt (refine' Mine.of_spec ?Bw ?Fw ?Xw ?Nw ?Tw ?kw ?dw ?uw ?m1w ?m2w ?m3w ?zw ?j0w ?j1w ?_; (case Bw => k_asm); (case Fw => k_asm); (case Xw => k_asm); (case Nw => k_asm); (case Tw => k_asm); (case kw => first | exact rfl | assumption); (case dw => ktr_room); (case uw => ktr_units); (case m1w => k_mem); (case m2w => k_mem); (case m3w => k_mem); (case zw => assumption); (case j0w => assumption); (case j1w => assumption)); intro _ _ _ _)) | fail "no"
  k_with "call ref cons nil#" => first | (((try dsimp only [List.nil_append, List.cons_append]); (with_reducible show wpAny _ _ (call (Value.ref 103) [Value.ref _, Value.int _ _]) _ _ _); k_dflt (refine' Mine.of_spec ?Bw ?Fw ?Xw ?Nw ?Tw ?kw ?dw ?uw ?m1w ?m2w ?m3w ?zw ?j0w ?j1w ?_; (case Bw => k_asm); (case Fw => k_asm); (case Xw => k_asm); (case Nw => k_asm); (case Tw => k_asm); (case kw => first | exact rfl | assumption); (case dw => ktr_room); (case uw => ktr_units); (case m1w => k_mem); (case m2w => k_mem); (case m3w => k_mem); (case zw => assumption); (case j0w => assumption); (case j1w => assumption)); intro _ _ _ _)) | fail "no"
  k_with "call ref nil#" => first | (((try dsimp only [List.nil_append, List.cons_append]); (with_reducible show wpAny _ _ (call (Value.ref 115) [Value.ref _, Value.str _ _]) _ _ _); refine Mine.Hold.out ?_)) | fail "no"
  k_with "call ref cons nil#" => first | (((try dsimp only [List.nil_append, List.cons_append]); (with_reducible show wpAny _ _ (call (Value.ref 115) [Value.ref _, Value.str _ _]) _ _ _); refine Mine.Hold.out ?_)) | fail "no"
  k_with "call ref nil#" => first | (((try dsimp only [List.nil_append, List.cons_append]); (with_reducible show wpAny _ _ (call (Value.ref 236) [Value.ref _]) _ _ _); refine Mine.Hold.out ?_)) | fail "no"
  k_with "call ref cons nil#" => first | (((try dsimp only [List.nil_append, List.cons_append]); (with_reducible show wpAny _ _ (call (Value.ref 236) [Value.ref _]) _ _ _); refine Mine.Hold.out ?_)) | fail "no"
  k_with "call ref nil#" => first | (((try dsimp only [List.nil_append, List.cons_append]); (with_reducible show wpAny _ _ (call (Value.ref 229) [Value.ref _, Value.ref _]) _ _ _); refine Mine.Hold.out ?_)) | fail "no"
  k_with "call ref cons nil#" => first | (((try dsimp only [List.nil_append, List.cons_append]); (with_reducible show wpAny _ _ (call (Value.ref 229) [Value.ref _, Value.ref _]) _ _ _); refine Mine.Hold.out ?_)) | fail "no"
  k_with "eval Lambda#" => first | (refine Mine.Hold.out ?_) | fail "no"
  k_with "exec For Tuple Call cons nil#" => first | ((k_here; (with_unfolding_all refine' Mine.For_G ?_ ?_; k_whole))) | fail "no"
  k_with "call type:enumerate#" => first | (refine Mine.Hold.out ?_) | fail "no"
  k_with "isTrue BoolOp And#" => first | (refine Mine.hold_if 2 (by assumption) ?_) | fail "no"
  k_with "call ref nil#" => first | (((try dsimp only [List.nil_append, List.cons_append]); (with_reducible show wpAny _ _ (call (Value.ref 103) [Value.ref _, Value.int _ _]) _ _ _); k_dflt (refine' Mine.of_spec ?Bw ?Fw ?Xw ?Nw ?Tw ?kw ?dw ?uw ?m1w ?m2w ?m3w ?zw ?j0w ?j1w ?_; (case Bw => k_asm); (case Fw => k_asm); (case Xw => k_asm); (case Nw => k_asm); (case Tw => k_asm); (case kw => first | exact rfl | assumption); (case dw => ktr_room); (case uw => ktr_units); (case m1w => k_mem); (case m2w => k_mem); (case m3w => k_mem); (case zw => assumption); (case j0w => assumption); (case j1w => assumption)); intro _ _ _ _)) | fail "no"
  k_with "call ref cons nil#" => first | (((try dsimp only [List.nil_append, List.cons_append]); (with_reducible show wpAny _ _ (call (Value.ref 103) [Value.ref _, Value.int _ _]) _ _ _); k_dflt (refine' Mine.of_spec ?Bw ?Fw ?Xw ?Nw ?Tw ?kw ?dw ?uw ?m1w ?m2w ?m3w ?zw ?j0w ?j1w ?_; (case Bw => k_asm); (case Fw => k_asm); (case Xw => k_asm); (case Nw => k_asm); (case Tw => k_asm); (case kw => first | exact rfl | assumption); (case dw => ktr_room); (case uw => ktr_units); (case m1w => k_mem); (case m2w => k_mem); (case m3w => k_mem); (case zw => assumption); (case j0w => assumption); (case j1w => assumption)); intro _ _ _ _)) | fail "no"
  k_with "call ref nil#" => first | (((try dsimp only [List.nil_append, List.cons_append]); (with_reducible show wpAny _ _ (call (Value.ref 130) [Value.ref _]) _ _ _); refine Mine.Hold.out ?_)) | fail "no"
  k_with "call ref cons nil#" => first | (((try dsimp only [List.nil_append, List.cons_append]); (with_reducible show wpAny _ _ (call (Value.ref 130) [Value.ref _]) _ _ _); refine Mine.Hold.out ?_)) | fail "no"
  k_with "call ref nil#" => first | (((try dsimp only [List.nil_append, List.cons_append]); (with_reducible show wpAny _ _ (call (Value.ref 229) [Value.ref _, Value.ref _]) _ _ _); refine Mine.Hold.out ?_)) | fail "no"
  k_with "call ref cons nil#" => first | (((try dsimp only [List.nil_append, List.cons_append]); (with_reducible show wpAny _ _ (call (Value.ref 229) [Value.ref _, Value.ref _]) _ _ _); refine Mine.Hold.out ?_)) | fail "no"
  k_with "exec For Tuple Call cons nil#" => first | ((k_here; (with_unfolding_all refine' Mine.For_G ?_ ?_; k_whole))) | fail "no"
  k_with "call type:enumerate#" => first | (refine Mine.Hold.out ?_) | fail "no"
  k_with "call builtin:len cons nil#" => first | ((k_here; (with_reducible show wpAny _ _ (call (Value.builtin _) [Value.ref _]) _ _ _); k_dflt (refine' Mine.m_len2 ?Nw ?mw ?hkw ?zw ?_; (case Nw => k_asm); (case mw => k_mem); (case hkw => assumption); (case zw => assumption); k_whole); intro _ _)) | fail "no"
  k_with "m:sub2#" => first | ((k_here; (with_reducible show wpAny _ _ (subscriptTail _ _ (Value.ref _) (Value.int _ _)) _ _ _); k_dflt (refine' Mine.m_sub2 ?Nw ?mw ?hkw ?aw ?bw ?zw ?_; (case Nw => k_asm); (case mw => k_mem); (case hkw => assumption); (case aw => assumption); (case bw => assumption); (case zw => assumption); k_whole); intro _ _)) | fail "no"
  k_with "subscriptTail Attribute Name Name ref int#" => first | (walk_at "m:sub2") | fail "no"
  k_with "call ref nil#" => first | (((try dsimp only [List.nil_append, List.cons_append]); (with_reducible show wpAny _ _ (call (Value.ref 108) [Value.ref _]) _ _ _); refine Mine.Hold.out ?_)) | fail "no"
  k_with "call ref cons nil#" => first | (((try dsimp only [List.nil_append, List.cons_append]); (with_reducible show wpAny _ _ (call (Value.ref 108) [Value.ref _]) _ _ _); refine Mine.Hold.out ?_)) | fail "no"
  k_with "call ref nil#" => first | (((try dsimp only [List.nil_append, List.cons_append]); (with_reducible show wpAny _ _ (call (Value.ref 182) [Value.ref _, Value.int _ _]) _ _ _); refine Mine.Hold.out ?_)) | fail "no"
  k_with "call ref cons nil#" => first | (((try dsimp only [List.nil_append, List.cons_append]); (with_reducible show wpAny _ _ (call (Value.ref 182) [Value.ref _, Value.int _ _]) _ _ _); refine Mine.Hold.out ?_)) | fail "no"
  k_with "subscriptTail Name Call ref int#" => first | (walk_at "m:subA") | fail "no"
  k_with "call builtin:len cons nil#" => first | ((k_here; (with_reducible show wpAny _ _ (call (Value.builtin _) [Value.ref _]) _ _ _); k_dflt (refine' Mine.m_len2 ?Nw ?mw ?hkw ?zw ?_; (case Nw => k_asm); (case mw => k_mem); (case hkw => first | exact .inl rfl | assumption); (case zw => assumption); k_whole); intro _ _)) | fail "no"
  k_with "call type:list#" => first | ((k_here; (with_reducible show wpAny _ _ (call (Value.type "list") [Value.ref _]) _ _ _); k_dflt (refine' Mine.m_list2 ?Fw ?Nw ?mw ?hkw ?zw ?_; (case Fw => k_asm); (case Nw => k_asm); (case mw => k_mem); (case hkw => first | exact .inl rfl | assumption); (case zw => assumption); k_whole); intro _ _ _ _ _ _)) | fail "no"
  k_with "m:sub2#" => first | ((k_here; (with_reducible show wpAny _ _ (subscriptTail _ _ (Value.ref _) (Value.int _ _)) _ _ _); k_dflt (refine' Mine.m_sub2 ?Nw ?mw ?hkw ?aw ?bw ?zw ?_; (case Nw => k_asm); (case mw => k_mem); (case hkw => first | exact .inl rfl | assumption); (case aw => assumption); (case bw => assumption); (case zw => assumption); k_whole); intro _ _)) | fail "no"
  k_with "m:sub3#" => first | ((k_here; (with_reducible show wpAny _ _ (subscriptTail _ _ (Value.ref _) (Value.int _ _)) _ _ _); k_dflt (refine' Mine.m_sub4 ?Nw ?mw ?hkw ?aw ?zw ?xw ?_; (case Nw => k_asm); (case mw => k_mem); (case hkw => first | exact .inl rfl | assumption); (case xw => assumption); (case aw => assumption); (case zw => assumption); k_whole))) | fail "no"
  k_with "subscriptTail Name Name ref int#" => first | (first | walk_at "m:sub3" | walk_at "m:sub2") | fail "no"
  k_with "exec For Name Call cons nil#" => first | ((k_here; (with_unfolding_all refine' Mine.For_G ?_ ?_; k_whole))) | fail "no"
  k_with "call type:range#" => first | (refine Mine.hold_if 5 (by assumption) ?_) | fail "no"
  k_with "eval IfExp#" => first | (refine Mine.hold_if 4 (by assumption) ?_) | fail "no"
  k_with "call ref nil#" => first | (((try dsimp only [List.nil_append, List.cons_append]); (with_reducible show wpAny _ _ (call (Value.ref 144) [Value.ref _]) _ _ _); refine Mine.Hold.out ?_)) | fail "no"
  k_with "call ref cons nil#" => first | (((try dsimp only [List.nil_append, List.cons_append]); (with_reducible show wpAny _ _ (call (Value.ref 144) [Value.ref _]) _ _ _); refine Mine.Hold.out ?_)) | fail "no"
  k_with "compareOp Eq ref ref#" => first | (first | (k_here; (with_reducible show wpAny _ _ (compareOp CmpOp.Eq (Value.ref _) (Value.ref _)) _ _ _); k_dflt (refine' Mine.m_eq_same (xs := Mine.uvs _) (ys := Mine.uvs _) ?Nw ?aw ?bw ?uw ?ew ?_; (case Nw => k_asm); (case aw => k_mem); (case bw => k_mem); (case uw => walk_at "m:units"); (case ew => exact ⟨rfl, fun _ _ _ => SeqAt.EqAt.same _⟩); k_whole)) | walk_at "m:eqnil") | fail "no"
  k_with "m:st5#" => first | ((intro _ hzw; simp only [List.contains_cons, List.contains_nil, Bool.or_false, Bool.or_eq_false_iff, beq_eq_false_iff_ne, ne_eq] at hzw; obtain ⟨hz1, hz2, hz3, hz4, hz5⟩ := hzw; simp [hz1, hz2, hz3, hz4, hz5])) | fail "no"
  k_with "call builtin:len cons nil#" => first | ((k_here; (with_reducible show wpAny _ _ (call (Value.builtin _) [Value.ref _]) _ _ _); k_dflt (refine' Mine.m_lenG ?Fw ?mw ?zw ?_; (case Fw => k_asm); (case mw => assumption); (case zw => assumption); k_whole); intro _ _)) | fail "no"
  k_with "subscriptTail Name Name ref int#" => first | ((k_here; (with_reducible show wpAny _ _ (subscriptTail _ _ (Value.ref _) (Value.int _ _)) _ _ _); k_dflt (refine' Mine.m_subG ?Fw ?mw ?aw ?_; (case Fw => k_asm); (case mw => assumption); (case aw => assumption); k_whole))) | fail "no"
  trivial

theorem Mine.word79 : True := by
  k_with "eval Lambda#" => first | (refine Mine.Hold.out ?_) | fail "no"
  k_with "eval IfExp#" => first | (refine Mine.hold_if 4 (by assumption) ?_) | fail "no"
  k_with "eval Compare#" => first | (refine Mine.hold_if 6 (by assumption) ?_) | fail "no"
  k_with "CompEnd#" => first | (refine Mine.Hold.out ?_) | fail "no"
  k_with "call ref nil#" => first | (((try dsimp only [List.nil_append, List.cons_append]); (with_reducible show wpAny _ _ (call (Value.ref 203) [Value.ref _, Value.int _ _]) _ _ _); refine Mine.Hold.out ?_)) | fail "no"
  k_with "call ref cons nil#" => first | (((try dsimp only [List.nil_append, List.cons_append]); (with_reducible show wpAny _ _ (call (Value.ref 203) [Value.ref _, Value.int _ _]) _ _ _); refine Mine.Hold.out ?_)) | fail "no"
  trivial

theorem Mine.word80 : True := by
  k_with "call builtin:len cons nil#" => first | (refine Mine.Hold.out ?_) | fail "no"
  k_with "call ref nil#" => first | (((try dsimp only [List.nil_append, List.cons_append]); (with_reducible show wpAny _ _ (call (Value.ref 210) [Value.ref _, Value.ref _]) _ _ _); refine Mine.Hold.out ?_)) | fail "no"
  k_with "call ref cons nil#" => first | (((try dsimp only [List.nil_append, List.cons_append]); (with_reducible show wpAny _ _ (call (Value.ref 210) [Value.ref _, Value.ref _]) _ _ _); refine Mine.Hold.out ?_)) | fail "no"
  trivial

theorem Mine.word81 : True := by
  k_with "call ref nil#" => first | (((try dsimp only [List.nil_append, List.cons_append]); (with_reducible show wpAny _ _ (call (Value.ref 210) [Value.ref _, Value.ref _]) _ _ _); k_dflt (refine' Mine.oneU ?Bw ?Fw ?Xw ?Nw ?Tw ?kw ?dw ?uw ?ow ?tw ?ew ?s0w ?s1w ?aw ?_; (case Bw => k_asm); (case Fw => k_asm); (case Xw => k_asm); (case Nw => k_asm); (case Tw => k_asm); (case kw => first | exact rfl | assumption); (case dw => ktr_room); (case uw => first | ktr_units | walk_at "m:units" | decide +kernel); (case ow => k_updF); (case tw => k_mem); (case ew => k_ne); (case s0w => walk_at "m:size"); (case s1w => walk_at "m:size"); (case aw => assumption)); intro _ _ _ _ _ _ _ _ _ _ N9w; (try dsimp only at N9w))) | fail "no"
  k_with "call ref cons nil#" => first | (((try dsimp only [List.nil_append, List.cons_append]); (with_reducible show wpAny _ _ (call (Value.ref 210) [Value.ref _, Value.ref _]) _ _ _); k_dflt (refine' Mine.oneU ?Bw ?Fw ?Xw ?Nw ?Tw ?kw ?dw ?uw ?ow ?tw ?ew ?s0w ?s1w ?aw ?_; (case Bw => k_asm); (case Fw => k_asm); (case Xw => k_asm); (case Nw => k_asm); (case Tw => k_asm); (case kw => first | exact rfl | assumption); (case dw => ktr_room); (case uw => first | ktr_units | walk_at "m:units" | decide +kernel); (case ow => k_updF); (case tw => k_mem); (case ew => k_ne); (case s0w => walk_at "m:size"); (case s1w => walk_at "m:size"); (case aw => assumption)); intro _ _ _ _ _ _ _ _ _ _ N9w; (try dsimp only at N9w))) | fail "no"
  trivial

theorem Mine.word82 : True := by
  k_with "call ref cons#" => first | (((with_reducible show wpAny _ _ (call (Value.ref 243) _) _ _ _); refine Mine.Hold.out ?_)) | fail "no"
  k_with "call ref cons#" => first | (((with_reducible show wpAny _ _ (call (Value.ref 262) _) _ _ _); refine Mine.Hold.out ?_)) | fail "no"
  k_with "call ref nil#" => first | (((try dsimp only [List.nil_append, List.cons_append]); (with_reducible show wpAny _ _ (call (Value.ref 250) [Value.ref _, Value.ref _]) _ _ _); refine Mine.Hold.out ?_)) | fail "no"
  k_with "call ref cons nil#" => first | (((try dsimp only [List.nil_append, List.cons_append]); (with_reducible show wpAny _ _ (call (Value.ref 250) [Value.ref _, Value.ref _]) _ _ _); refine Mine.Hold.out ?_)) | fail "no"
  trivial

theorem Mine.word83 : True := by
  k_with "call ref nil#" => first | (((try dsimp only [List.nil_append, List.cons_append]); (with_reducible show wpAny _ _ (call (Value.ref 217) [Value.ref _, Value.ref _, Value.ref _]) _ _ _); refine Mine.Hold.out ?_)) | fail "no"
  k_with "call ref cons nil#" => first | (((try dsimp only [List.nil_append, List.cons_append]); (with_reducible show wpAny _ _ (call (Value.ref 217) [Value.ref _, Value.ref _, Value.ref _]) _ _ _); refine Mine.Hold.out ?_)) | fail "no"
  trivial

theorem Mine.word84 : True := by
  k_with "call ref nil#" => first | (((try dsimp only [List.nil_append, List.cons_append]); (with_reducible show wpAny _ _ (call (Value.ref 229) [Value.ref _, Value.ref _]) _ _ _); refine Mine.Hold.out ?_)) | fail "no"
  k_with "call ref cons nil#" => first | (((try dsimp only [List.nil_append, List.cons_append]); (with_reducible show wpAny _ _ (call (Value.ref 229) [Value.ref _, Value.ref _]) _ _ _); refine Mine.Hold.out ?_)) | fail "no"
  trivial

theorem Mine.word85 : True := by
  k_with "call ref nil#" => first | (((try dsimp only [List.nil_append, List.cons_append]); (with_reducible show wpAny _ _ (call (Value.ref 257) [Value.ref _, Value.ref _]) _ _ _); refine Mine.Hold.out ?_)) | fail "no"
  k_with "call ref cons nil#" => first | (((try dsimp only [List.nil_append, List.cons_append]); (with_reducible show wpAny _ _ (call (Value.ref 257) [Value.ref _, Value.ref _]) _ _ _); refine Mine.Hold.out ?_)) | fail "no"
  trivial

theorem Mine.word86 : True := by
  k_with "call ref nil#" => first | (((try dsimp only [List.nil_append, List.cons_append]); (with_reducible show wpAny _ _ (call (Value.ref 236) [Value.ref _]) _ _ _); refine Mine.Hold.out ?_)) | fail "no"
  k_with "call ref cons nil#" => first | (((try dsimp only [List.nil_append, List.cons_append]); (with_reducible show wpAny _ _ (call (Value.ref 236) [Value.ref _]) _ _ _); refine Mine.Hold.out ?_)) | fail "no"
  trivial

theorem Mine.word87 : True := by
  k_with "call ref nil#" => first | (((try dsimp only [List.nil_append, List.cons_append]); (with_reducible show wpAny _ _ (call (Value.ref 103) [Value.ref _, Value.int _ _]) _ _ _); refine Mine.Hold.out ?_)) | fail "no"
  k_with "call ref cons nil#" => first | (((try dsimp only [List.nil_append, List.cons_append]); (with_reducible show wpAny _ _ (call (Value.ref 103) [Value.ref _, Value.int _ _]) _ _ _); refine Mine.Hold.out ?_)) | fail "no"
  trivial

theorem Mine.word88 : True := by
  k_with "exec For Name Call cons nil#" => first | ((k_here; (with_unfolding_all refine' Mine.For_G ?_ ?_; k_whole))) | fail "no"
  k_with "call type:tuple#" => first | ((k_here; (with_reducible show wpAny _ _ (call (Value.type _) [Value.ref _]) _ _ _); k_dflt (refine' Mine.m_tuple2 ?Fw ?Nw ?mw ?zw ?_; (case Fw => k_asm); (case Nw => k_asm); (case mw => k_mem); (case zw => assumption); k_whole); intro _ _ _ _ _)) | fail "no"
  k_with "call ref nil#" => first | (((try dsimp only [List.nil_append, List.cons_append]); (with_reducible show wpAny _ _ (call (Value.ref 203) [Value.ref _, Value.int _ _]) _ _ _); k_dflt (refine' Mine.takeU ?Bw ?Fw ?Xw ?Nw ?Tw ?kw ?dw ?uw ?ow ?aw ?tw ?t2w ?_; (case Bw => k_asm); (case Fw => k_asm); (case Xw => k_asm); (case Nw => k_asm); (case Tw => k_asm); (case kw => first | exact rfl | assumption); (case dw => ktr_room); (case uw => first | ktr_units | walk_at "m:units" | decide +kernel); (case ow => k_updF); (case aw => assumption); (case tw => first | decide | assumption | omega); (case t2w => first | decide | assumption | omega)); intro _ _ _ _ _ _ _ _ _ _ _ _ N9w; (try dsimp only at N9w))) | fail "no"
  k_with "call ref cons nil#" => first | (((try dsimp only [List.nil_append, List.cons_append]); (with_reducible show wpAny _ _ (call (Value.ref 203) [Value.ref _, Value.int _ _]) _ _ _); k_dflt (refine' Mine.takeU ?Bw ?Fw ?Xw ?Nw ?Tw ?kw ?dw ?uw ?ow ?aw ?tw ?t2w ?_; (case Bw => k_asm); (case Fw => k_asm); (case Xw => k_asm); (case Nw => k_asm); (case Tw => k_asm); (case kw => first | exact rfl | assumption); (case dw => ktr_room); (case uw => first | ktr_units | walk_at "m:units" | decide +kernel); (case ow => k_updF); (case aw => assumption); (case tw => first | decide | assumption | omega); (case t2w => first | decide | assumption | omega)); intro _ _ _ _ _ _ _ _ _ _ _ _ N9w; (try dsimp only at N9w))) | fail "no"
  trivial

theorem Mine.word89 : True := by
  k_with "call type:range#" => first | (refine Mine.Hold.out ?_) | fail "no"
  k_with "call ref nil#" => first | (((try dsimp only [List.nil_append, List.cons_append]); (with_reducible show wpAny _ _ (call (Value.ref 224) [Value.ref _]) _ _ _); refine Mine.Hold.out ?_)) | fail "no"
  k_with "call ref cons nil#" => first | (((try dsimp only [List.nil_append, List.cons_append]); (with_reducible show wpAny _ _ (call (Value.ref 224) [Value.ref _]) _ _ _); refine Mine.Hold.out ?_)) | fail "no"
  trivial

theorem Mine.word90 : True := by
  k_with "call ref nil#" => first | (((try dsimp only [List.nil_append, List.cons_append]); (with_reducible show wpAny _ _ (call (Value.ref 269) []) _ _ _); refine Mine.Hold.out ?_)) | fail "no"
  k_with "call ref cons nil#" => first | (((try dsimp only [List.nil_append, List.cons_append]); (with_reducible show wpAny _ _ (call (Value.ref 269) []) _ _ _); refine Mine.Hold.out ?_)) | fail "no"
  trivial

theorem Mine.word91 : True := by
  k_with "call ref nil#" => first | (((try dsimp only [List.nil_append, List.cons_append]); (with_reducible show wpAny _ _ (call (Value.ref 196) [Value.ref _, Value.int _ _]) _ _ _); refine Mine.Hold.out ?_)) | fail "no"
  k_with "call ref cons nil#" => first | (((try dsimp only [List.nil_append, List.cons_append]); (with_reducible show wpAny _ _ (call (Value.ref 196) [Value.ref _, Value.int _ _]) _ _ _); refine Mine.Hold.out ?_)) | fail "no"
  trivial

namespace Mine
def LawEnd (h₀ : Heap) (L : Addr) (s : Shared) (f : Flow) (s' : Shared) : Prop := ∃ h' tk m' t1 t2 t3 t4 rest, f = .ret (.bool true) ∧ s' = { s with heap := h', toks := tk } ∧ Fr h₀ L h' m' ∧ News h₀ L h' ((264, tabObj t1) :: (252, tabObj t2) :: (238, tabObj t3) :: (271, tabObj t4) :: rest)
theorem law_wrap {M : Model} {A : Around} {t : Sem Flow} {Q' : Flow → Shared → Prop} {E' : Value → Shared → Prop} {s : Shared} {g : Heap} {L : Addr} {m : Str → Option Value} (_F : Fr g L s.heap m)
    (h : wpAny M A t (LawEnd g L s) (fun _ _ => False) s) (fin : ∀ f s', LawEnd g L s f s' → Q' f s') : wpAny M A t Q' E' s := wpAny_mono h fin fun _ _ e => e.elim
theorem law_start {g h : Heap} {L : Addr} {o1 o2 o3 : Obj} (l : 264 < L ∧ 252 < L ∧ 238 < L ∧ 271 < L) (N : News g L h [(L + 1 + 1 + 1, o1), (L + 1 + 1, o2), (L + 1, o3), (264, tabObj #[]), (252, tabObj #[]), (238, tabObj #[]), (271, tabObj #[])]) :
    News g L h ((264, tabObj #[]) :: (238, tabObj #[]) :: (252, tabObj #[]) :: (271, tabObj #[]) :: (L + 1 + 1 + 1, o1) :: (L + 1 + 1, o2) :: (L + 1, o3) :: []) ∧ Dis ((264, tabObj #[]) :: (238, tabObj #[]) :: (252, tabObj #[]) :: (271, tabObj #[]) :: (L + 1 + 1 + 1, o1) :: (L + 1 + 1, o2) :: (L + 1, o3) :: []) := by
  constructor
  · exact news_sub N (by walk_at "m:sub9")
  · show List.Nodup [264, 238, 252, 271, L + 1 + 1 + 1, L + 1 + 1, L + 1]
    obtain ⟨l1, l2, l3, l4⟩ := l
    have a1 : (264 : Nat) < L := l1
    have a2 : (252 : Nat) < L := l2
    have a3 : (238 : Nat) < L := l3
    have a4 : (271 : Nat) < L := l4
    simp
    omega
theorem law_s1 {g h : Heap} {L : Addr} {a b c : Addr × Obj} {ps : Array Value} {tl : List (Addr × Obj)} (N : News g L h ((264, tabObj ps) :: (tl ++ ((252, tabObj #[]) :: (271, tabObj #[]) :: a :: b :: c :: []))))
    (D : Dis ((264, tabObj ps) :: (tl ++ ((252, tabObj #[]) :: (271, tabObj #[]) :: a :: b :: c :: [])))) :
    News g L h (a :: b :: c :: (264, tabObj ps) :: (252, tabObj #[]) :: (271, tabObj #[]) :: tl) ∧ Dis (a :: b :: c :: (264, tabObj ps) :: (252, tabObj #[]) :: (271, tabObj #[]) :: tl) := by
  have p : ((264, tabObj ps) :: (tl ++ ((252, tabObj #[]) :: (271, tabObj #[]) :: a :: b :: c :: []))).Perm (a :: b :: c :: (264, tabObj ps) :: (252, tabObj #[]) :: (271, tabObj #[]) :: tl) := by
    classical
    refine List.perm_iff_count.mpr fun q => ?_
    simp only [List.count_cons, List.count_append, List.count_nil]
    omega
  exact ⟨news_perm N p, D.perm p⟩
theorem law_off {a b c p q r : Addr × Obj} {tl : List (Addr × Obj)} (D : Dis (a :: b :: c :: p :: q :: r :: tl)) : (∀ z ∈ tl, z.1 ≠ a.1) ∧ (∀ z ∈ tl, z.1 ≠ b.1) ∧ (∀ z ∈ tl, z.1 ≠ c.1) := by
  have k : ∀ x ∈ [a, b, c, p, q, r], ∀ z ∈ tl, z.1 ≠ x.1 := fun x hx z hz e => by
    have D' : (([a, b, c, p, q, r] ++ tl).map (·.1)).Nodup := D
    rw [List.map_append, List.nodup_append] at D'
    exact D'.2.2 x.1 (List.mem_map_of_mem hx) z.1 (List.mem_map_of_mem hz) e.symm
  exact ⟨k a (by simp), k b (by simp), k c (by simp)⟩
theorem upd0 {x : Addr} {o : Obj} {r : List (Addr × Obj)} (D : Dis ((x, o) :: r)) : UpdF x o ((x, o) :: r) (fun o' => (x, o') :: r) := .head D.off
theorem upd3 {p1 p2 p3 : Addr × Obj} {x : Addr} {o : Obj} {r : List (Addr × Obj)} (D : Dis (p1 :: p2 :: p3 :: (x, o) :: r)) : UpdF x o (p1 :: p2 :: p3 :: (x, o) :: r) (fun o' => p1 :: p2 :: p3 :: (x, o') :: r) :=
  updCons D (by simp) fun D => updCons D (by simp) fun D => updCons D (by simp) fun D => .head D.off
theorem nat_of3 {r : Int} (h0 : 0 ≤ r) (h5 : r < 3) : ∃ n : Nat, r = (n : Int) ∧ n < 3 := ⟨r.toNat, by omega, by omega⟩
theorem nat_of {r : Int} (h0 : 0 ≤ r) (h5 : r < 5) : ∃ n : Nat, 1 + r = (n : Int) ∧ 0 < n ∧ n ≤ 5 := ⟨(1 + r).toNat, by omega, by omega, by omega⟩
theorem kind_same {pg : Program} {ls : List Str} {w : World} {mean : ExcName → Option Value} {mg mb : Str → Option Value} {A₀ : Around} {dp un : Nat} {gd : Option (List Code)} {base h₀ : Heap} {outer : List Env} {L : Addr} {m : Str → Option Value} {cn : Str} {cs : Scope} {ca : Addr} {ccd : Value} {cl : List (Str × Addr)} {s : Shared} {Q E : Value → Shared → Prop} {f : Addr} {foc : Value} {fod : Option Addr} {fd : FuncData} {fsl : Array (Option Value)} {news : List (Addr × Obj)}
    (B : Below A₀ base outer h₀) (F : Fr h₀ L s.heap m) (X : Frag.In (hd.heap_39 w.params) h₀) (N : News h₀ L s.heap (news)) (T : Top pg ls mean mg mb h₀) (hk : cs.kind = .function) (hdp : dp + 60 < recursionLimit) (hun : un + 40 * 60 < cLine)
    (XB : Frag.In (hd.heap_39 w.params) base) (TB : Top pg ls mean mg mb base) (KD : KtsDicts (outer.filterMap (·.frame)) h₀)
    (hf : (f, (⟨foc, fod, .func fd, fsl⟩ : Obj)) ∈ news)
    (hc : CallsOk PySem.Challenge.rw_pf0070_01.row.prog w (hd.heap_39 w.params) pg ls mean mg mb base (envX cn cs L ca ccd cl) outer f dp un news news)
    (hQ : ∀ h' tk', Fr h₀ L h' m → News h₀ L h' news → Q .none { s with heap := h', toks := tk' }) :
    wpAny (model PySem.Challenge.rw_pf0070_01.row.prog w) (ktrTop dp un gd cn cs L ca ccd cl outer) (call (.ref 236) [.ref f]) Q E s := kind_ok B F X N T hk hdp hun XB TB KD hf hc hQ
end Mine
theorem Mine.law0 : PySem.Challenge.rw_pf0070_01.Holds := hd (by
  k_go0
  all_goals (try k_fold)
  rename Fr _ _ _ _ => F9
  refine Mine.law_wrap F9 ?walk ?fin
  case fin =>
    rintro f s' ⟨h', tk, m', t1, t2, t3, t4, rest, rfl, rfl, F9, N9⟩
    dsimp only
    refine And.intro ?_ ?_
    case refine_2 => walk_at "GrownAll"
    case refine_1 =>
      refine goodW_bool F9 (by assumption) ?hn ?hp
      case hn => exact raisesW_false (by wrow_none_raised)
      case hp => wrow_post
  case walk =>
  repeat (rename True => hT0; clear hT0)
  rename Frag.In _ (ghostOf _ _) => X9
  rename Top _ _ _ _ _ (ghostOf _ _) => T9
  rename Below callerA _ _ _ => B9
  rename News _ _ _ _ => N9
  generalize ghostOf _ _ = g at *
  generalize Array.size (Heap.objs _) = L at *

  rename CodeHd g _ _ => C273
  change CodeHd g 273 271 at C273
  rename CodeHd g (242, 238).1 _ => C242
  change CodeHd g 242 238 at C242
  rename CodeHd g (256, 252).1 _ => C256
  change CodeHd g 256 252 at C256
  rename CodeHd g (268, 264).1 _ => C268
  change CodeHd g 268 264 at C268
  rename _ ∧ _ => l9
  obtain ⟨N8, D8⟩ := Mine.law_start l9 N9
  clear N9
  k_steps
  dsimp only [Mine.Hold]
  k_dflt refine' Mine.fixed_spec (base := g) (h₀ := g) (outer := []) C268 C242 ?B ?F ?X ?N ?T ?z9k ?d ?u X9 T9 ktsDicts_nil ?D ?hQ
  case N => exact N8
  case D => exact D8.le (by intro a; exact Nat.le_refl _)
  case B => exact B9
  case F => k_asm
  case X => k_asm
  case T => k_asm
  case z9k => exact rfl
  case d => ktr_room
  case u => first | ktr_units | walk_at "m:units" | decide +kernel
  case hQ =>
    intro g2 ps tlW h' tk' TW D TT F8 N7 y1 y2 y3 y4
    have F7 := Mine.turn_fr TT F8
    have N6 := Mine.turn_news TT N7
    clear F8 TT N8 D8 N7 y1 y2 y3 y4
    obtain ⟨N5, D5⟩ := Mine.law_s1 N6 D
    clear N6 D
    dsimp only
    k_steps
    dsimp only [Mine.Hold]
    rename g.IsList _ _ => hSc
    rename IntsAre _ _ => hI
    k_dflt refine' Mine.pool_spec (h₀ := g) ?B ?F ?X ?N ?T ?y9k ?d ?u hSc hI ?z ?hQ
    case B => exact B9
    case X => exact X9
    case T => exact T9
    case F => k_asm
    case N => exact N5
    case y9k => exact rfl
    case d => ktr_room
    case u => first | ktr_units | walk_at "m:units" | decide +kernel
    case z =>
      have hlen9 := IntsAre.length hI
      omega
    case hQ =>
      intro src a b ta tb h2 tk2 hs1 lP F6 N6
      obtain ⟨m0, F5⟩ : ∃ m0, Fr g _ h2 m0 := ⟨_, F6⟩
      clear N5 F7 F6 hSc hI
      have lA := allLt_of lP
      simp only [AllLt] at lA
      obtain ⟨oa, ob, oc⟩ := Mine.law_off D5
      dsimp only at oa ob oc
      have os : ∀ z ∈ tlW, z.1 ≠ src := fun z hz => Nat.ne_of_lt (lP z (by simp [hz]))
      k_steps
      all_goals (try dsimp only [Mine.Hold])
      rename _ < (5 : Int) => q2
      rename (0 : Int) ≤ _ => q1
      obtain ⟨n, hn, hn0, hn5⟩ := Mine.nat_of q1 q2
      rw [hn]
      rename News g _ _ _ => N4
      rename Fr g _ _ _ => F4
      refine Mine.comp_rows rfl F4 N4 (by omega) (by assumption) ?dis ?stp ?fin
      case dis => exact (Mine.Dis.cons D5 (allLt_of lP)).same rfl
      case stp =>
        rintro i ys nw v I oI C oC D m₂ h3 tk3 E' hi ⟨rs, a, b, ta, tb, rfl, hl, hr, hs, rfl, Dn⟩ ⟨t, rfl⟩ hC hx F3 N3 off ne
        clear F4 N4
        have N2 := Mine.rows_open N3
        clear N3
        k_steps
        dsimp only [Mine.Hold]
        k_dflt refine' Mine.row_spec (base := g) (h₀ := g) (outer := []) ?B ?F ?X ?N ?T ?y9k ?d ?u (Mine.rows_off off Dn) hs ?hq
        case N => exact N2
        case B => exact B9
        case X => exact X9
        case T => exact T9
        case F => k_asm
        case y9k => exact rfl
        case d => ktr_room
        case u => first | ktr_units | walk_at "m:units" | decide +kernel
        case hq =>
          intro ra st t wv av a' ta' b' tb' h' tk' ok hs' lt ls F' N'
          dsimp only
          exact Mine.rows_end F' N' lt ls off Dn hr hl ok hs'
      case fin =>
        rintro h3 tk3 ys nw ⟨rs, a, b, ta, tb, rfl, hlr, hr, hs, rfl, Dn⟩
        clear F4 N4 D5 lP lA oa ob oc os
        dsimp only
        intro Rl h4 tk4 F4 N4 o1
        dsimp only
        obtain ⟨N5, D5⟩ := Mine.rows_done N4 Dn o1
        clear N4 Dn o1
        k_steps
        dsimp only [Mine.Hold]
        k_dflt refine' Mine.takeU (base := g) (h₀ := g) (outer := []) ?B ?F ?X N5 ?T ?y9k ?d ?u (Mine.upd3 D5) hs ?t1 ?t2 ?_
        case t1 => decide
        case t2 => decide
        (case B => exact B9); (case X => exact X9); (case T => exact T9); (case F => k_asm); (case y9k => exact rfl); (case d => ktr_room); (case u => first | ktr_units | walk_at "m:units" | decide +kernel)
        intro r t9 a b ta tb h5 tk5 q1 q2 hs F4 N4
        clear N5
        dsimp only
        obtain ⟨n, rfl, hn3⟩ := Mine.nat_of3 q1 q2
        clear q1 q2
        have N6 := Mine.rows_open N4
        have D6 := D5.perm (List.perm_middle (l₁ := [_, _, _]))
        clear N4 D5
        k_steps
        dsimp only [Mine.Hold]
        refine Mine.comp_digs rfl F4 N6 (by omega) hs ?stp ?fin
        case stp =>
          rintro i ys nw v I oI C oC D m₂ h3 tk3 E' hi ⟨us, a, b, ta, tb, rfl, hl, hs, rfl⟩ ⟨t, rfl⟩ hC hx F3 N3 off ne
          clear F4 N6
          have N2 := Mine.rows_open N3
          clear N3
          k_steps
          dsimp only [Mine.Hold]
          k_dflt refine' Mine.takeU (base := g) (h₀ := g) (outer := []) ?B ?F ?X N2 ?T ?y9k ?d ?u (.head (Mine.rows_off off (D6.same rfl))) hs ?t1 ?t2 ?_
          case t1 => decide
          case t2 => decide
          (case B => exact B9); (case X => exact X9); (case T => exact T9); (case F => k_asm); (case y9k => exact rfl); (case d => ktr_room); (case u => first | ktr_units | walk_at "m:units" | decide +kernel)
          intro r t9 a b ta tb h5 tk5 q1 q2 hs F4 N4
          clear N2
          dsimp only
          k_steps
          dsimp only [Mine.Hold]
          exact Mine.digs_end (by k_asm) N4 off hl hs
        case fin =>
          rintro h6 tk6 ys nw ⟨us, a, b, ta, tb, rfl, hlu, hs, rfl⟩
          clear F4 N6
          dsimp only
          intro Dl h7 tk7 F4 N4 o1
          dsimp only
          obtain ⟨N5, D5⟩ := Mine.digs_done N4 (D6.same rfl) o1
          clear N4 D6 o1
          have mk4 : Mine.Mark 4 := trivial
          k_steps
          dsimp only [Mine.Hold]
          refine Mine.cut_digs F4 N5 ?cut1 ?cut2
          case cut1 =>
            clear mk4
            k_steps
            dsimp only [Mine.Hold]
            k_dflt refine' Mine.takeU (base := g) (h₀ := g) (outer := []) ?B ?F ?X N5 ?T ?y9k ?d ?u (Mine.upd0 D5) hs ?t1 ?t2 ?_
            case t1 => decide
            case t2 => decide
            (case B => exact B9); (case X => exact X9); (case T => exact T9); (case F => k_asm); (case y9k => exact rfl); (case d => ktr_room); (case u => first | ktr_units | walk_at "m:units" | decide +kernel)
            clear N5
            intro r t9 a b ta tb h5 tk5 q1 q2 hs F4 N4
            dsimp only
            have hz9 : us.length < 1000 := by omega
            k_steps
            · rename News g _ _ (_ :: _ :: _ :: _) => N3
              exact Mine.dig_tup_end (by k_asm) N3 (by assumption) D5 (by omega) hs
            · rename News g _ _ (_ :: _ :: _ :: _) => N3
              exact Mine.dig_list_end (by k_asm) N3 D5 (by omega) hs
          case cut2 =>
            clear N5 D5 mk4 F4 hs
            intro h8 tk8 dig kd nn a b ta tb us hkd hul hs F4 N4 D5
            obtain ⟨N5, D6⟩ := Mine.made_in N4 D5
            clear N4 D5
            k_steps
            dsimp only [Mine.Hold]
            rename News g _ _ (_ :: _) => N5
            k_dflt refine' Mine.made_spec (base := g) (h₀ := g) (outer := []) ?B ?F ?X N5 ?T ?y9k ?d ?u D6 hs hr (by omega) (by omega) ?_
            (case B => exact B9); (case X => exact X9); (case T => exact T9); (case F => k_asm); (case y9k => exact rfl); (case d => ktr_room); (case u => first | ktr_units | walk_at "m:units" | decide +kernel)
            clear N5 D6 hr hs hlr
            intro cs S Sd all C Cd an k1 k2 k3 j1 j2 tt hg a ta b tb h9 tk9 hst hrow hs hhg F4 N4 D4
            obtain ⟨N5, D5⟩ := Mine.made_out N4 D4
            clear N4 D4 hrow hhg
            have oa := D5.off
            have ob := Mine.Dis.off (List.nodup_cons.mp D5).2
            have oc := Mine.Dis.off (List.nodup_cons.mp (List.nodup_cons.mp D5).2).2
            dsimp only at oa ob oc ⊢
            k_steps
            dsimp only [Mine.Hold]
            rename News g _ _ (_ :: _) => N5
            k_dflt refine' Mine.stands_spec (base := g) (h₀ := g) (outer := []) (cs' := cs) (S := S) (Sd := Sd) (all := all) (C := C) (here := .ref hg) (k1 := k1) (k2 := k2) (k3 := k3) (an := an) ?B ?F ?X N5 ?T ?y9k ?d ?u ?v ?w hst.sync ?_
            case v => exact Mine.sees4
            case w => exact Mine.rows4
            (case B => exact B9); (case X => exact X9); (case T => exact T9); (case F => k_asm); (case y9k => exact rfl); (case d => ktr_room); (case u => first | ktr_units | walk_at "m:units" | decide +kernel)
            intro h9 tk9 F4 N4
            obtain ⟨N6, D6⟩ := Mine.blk_in N4 (D5.same rfl)
            clear N4 N5 D5 oa ob oc
            dsimp only
            k_steps
            dsimp only [Mine.Hold]
            k_dflt refine' Mine.blocks_spec (base := g) (h₀ := g) (outer := []) C256 ?B ?F ?X N6 ?T ?y9k ?d ?u X9 T9 ktsDicts_nil hst D6 (.inl rfl) ?_
            (case B => exact B9); (case X => exact X9); (case T => exact T9); (case F => k_asm); (case y9k => exact rfl); (case d => ktr_room); (case u => first | ktr_units | walk_at "m:units" | decide +kernel)
            intro g2 hx tlB h' tk' TB D TT F8 N7 y1 y2 y3 y4
            have F7 := Mine.turn_fr TT F8
            have N6' := Mine.turn_news TT N7
            clear F8 TT N7 y1 y2 y3 y4 N6 D6
            obtain ⟨N5, D5⟩ := Mine.blk_out N6' D
            clear N6' D
            dsimp only
            k_steps
            dsimp only [Mine.Hold]
            refine Mine.len4 N5 hst.len5 ?_
            intro t5 tk5
            dsimp only
            k_steps
            dsimp only [Mine.Hold]
            k_dflt refine' Mine.loop_of (n := cs.length + 4) [Str.ofString "is_there"] ?hab (by decide) (by decide) rfl ?F N5 ?hn ?hob D5 ?step ?done ?pe
            case hab => omega
            case F => k_asm
            case hn => have := hst.len5; omega
            case hob => assumption
            case pe => passes_own
            case step =>
              rintro I i u h₁ tk₁ t oi ob tl v0 hi hob ht DI F9 N9 Q' fin'
              clear N5 D5
              obtain ⟨n1, n2, n3⟩ := Mine.numL DI
              dsimp only at n2
              obtain ⟨j, hj⟩ : ∃ j : Int, j = -2 + (i : Int) := ⟨_, rfl⟩
              rw [← hj]
              have hj1 : -1000 < j := by omega
              have hj2 : j < 1000 := by have := hst.len5; omega
              clear hj
              have mk6 : Mine.Mark 6 := trivial
              k_steps
              dsimp only [Mine.Hold]
              rename News g _ _ (_ :: _) => N8
              rename Fr g _ _ _ => F8
              refine Mine.cut_val (Value.bool (decide (0 ≤ j ∧ j < (cs.length : Int)))) F8 N8 ?ct1 ?ct2
              case ct1 =>
                clear mk6
                rcases Int.lt_or_le j 0 with hj | hj
                · have hjn : ¬ (0 ≤ j) := by omega
                  k_steps
                  exact Mine.CutV.mk (congrArg Value.bool ((decide_eq_false hjn).trans (decide_eq_false (fun e => hjn e.1)).symm)) (by k_asm) (by k_asm)
                · rcases Int.lt_or_le j (cs.length : Int) with hl | hl
                  · k_steps
                    dsimp only [Mine.Hold]
                    refine Mine.len5 N8 hst.len5 ?_
                    intro t5 tk5
                    dsimp only
                    k_steps
                    exact Mine.CutV.mk (congrArg Value.bool ((decide_eq_true hl).trans (decide_eq_true (p := 0 ≤ j ∧ j < (cs.length : Int)) ⟨hj, hl⟩).symm)) (by k_asm) (by k_asm)
                  · have hjn : ¬ (j < (cs.length : Int)) := by omega
                    k_steps
                    dsimp only [Mine.Hold]
                    refine Mine.len5 N8 hst.len5 ?_
                    intro t5 tk5
                    dsimp only
                    k_steps
                    exact Mine.CutV.mk (congrArg Value.bool ((decide_eq_false hjn).trans (decide_eq_false (p := 0 ≤ j ∧ j < (cs.length : Int)) (fun e => hjn e.2)).symm)) (by k_asm) (by k_asm)
              case ct2 =>
                clear F8 N8
                intro h9 tk9 F9 N9
                obtain ⟨b9, hb9⟩ : ∃ b9 : Bool, b9 = decide (0 ≤ j ∧ j < (cs.length : Int)) := ⟨_, rfl⟩
                rw [← hb9]
                clear mk6
                k_steps
                dsimp only [Mine.Hold]
                rename News g _ _ (_ :: _) => N8
                rename Fr g _ _ _ => F8
                k_dflt refine' Mine.lam_make F8 N8 T9 C273 rfl (qual := Mine.qualL) ?q ht Mine.permL (Mine.disL DI) rfl rfl ?_; (case q => kernel_rfl)
                clear F8 N8
                intro f9 c9 oc9 vs9 t9 pm9 ctv9 h9 tk9 F9 N9 D9 d9 v9 l9
                dsimp only
                k_steps
                dsimp only [Mine.Hold]
                cases b9 with
                | true =>
                  have hp := of_decide_eq_true hb9.symm
                  k_dflt refine' Mine.kind_same (base := g) (h₀ := g) (outer := []) ?B ?F ?X N9 ?T ?y9k ?d ?u X9 T9 ktsDicts_nil List.mem_cons_self ?hc ?_
                  (case B => exact B9); (case X => exact X9); (case T => exact T9); (case F => k_asm); (case y9k => exact rfl); (case d => ktr_room); (case u => first | ktr_units | walk_at "m:units" | decide +kernel)
                  case hc =>
                    clear F9 D9 l9
                    intro dp' un' gd' cn' cs2' L2 a2 cd2 cl2 A2 g2 m2 s2 Q2 E2 B2 F2 X2 N2 T2 hk2 hd2 hu2 hE2
                    (try dsimp only [Around.deeper] at hd2 hu2)
                    refine wpAny_call ?_
                    k_dflt (refine' kla_code ?k1 ?k2 ?k3 ?k4 ?k5 ?kA ?kF ?kK ?k6 ?k7 ?k8 ?k9 ?kB ?_ ?c2 ?c3 ?c4 ?c5; (case kA => exact rfl); (case kF => exact rfl); (case kK => first | exact rfl | assumption); (case k1 => k_asm); (case k2 => k_asm); (case k3 => k_asm); (case k4 => k_asm); (case k5 => k_asm); (case k6 => k_mem); (case k7 => exact codeRec_news (by k_asm) (by k_mem) (by assumption) (by assumption)); (case k8 => ktr_room); (case k9 => exact rfl); (case c5 => decide); (case kB => exact locs rfl); (case c2 => exact rfl); (case c3 => exact rfl); (case c4 => exact rfl); k_whole; intro g' L' h' FG' F' N' B' X' T'; (try dsimp only); (try k_lift B'); (try k_fold))
                    k_steps
                    dsimp only [Mine.Hold]
                    k_dflt refine' Mine.of_spec2 (cs' := cs) ?B ?F ?X ?N ?T ?y8k ?d8 ?u8 Mine.seesG.s Mine.seesG.d Mine.seesG.a ?z hp.1 hp.2 ?_; (case B => k_asm); (case F => k_asm); (case X => k_asm); (case N => k_asm); (case T => k_asm); (case y8k => first | exact rfl | assumption); (case d8 => ktr_room); (case u8 => ktr_units); (case z => have := hst.len5; simp; omega)
                    intro c8 h9 tk9 hc8 F9 N9
                    dsimp only
                    k_steps
                    exact hE2 _ _ _ (by k_asm) (by k_asm)
                  clear N9 F9
                  intro h9 tk9 F9 N9
                  dsimp only
                  k_steps
                  rename News g _ _ (_ :: _) => N8
                  exact fin' _ <| Mine.turnL_end (by k_asm) (by intro z hz; exact Mine.st1 hz) (.inr ⟨c9, oc9, vs9, t9, rfl, d9, v9⟩) (by assumption) N8 D9 DI
                | false =>
                  have hp := of_decide_eq_false hb9.symm
                  k_dflt refine' Mine.kind_bad (base := g) (h₀ := g) (outer := []) ?B ?F ?X N9 ?T ?y9k ?d ?u X9 T9 ktsDicts_nil List.mem_cons_self ?hc ?_
                  (case B => exact B9); (case X => exact X9); (case T => exact T9); (case F => k_asm); (case y9k => exact rfl); (case d => ktr_room); (case u => first | ktr_units | walk_at "m:units" | decide +kernel)
                  case hc =>
                    clear F9 D9 l9
                    intro dp' un' gd' cn' cs2' L2 a2 cd2 cl2 A2 g2 m2 s2 Q2 E2 B2 F2 X2 N2 T2 hk2 hd2 hu2 hE2
                    (try dsimp only [Around.deeper] at hd2 hu2)
                    refine wpAny_call ?_
                    k_dflt (refine' kla_code ?k1 ?k2 ?k3 ?k4 ?k5 ?kA ?kF ?kK ?k6 ?k7 ?k8 ?k9 ?kB ?_ ?c2 ?c3 ?c4 ?c5; (case kA => exact rfl); (case kF => exact rfl); (case kK => first | exact rfl | assumption); (case k1 => k_asm); (case k2 => k_asm); (case k3 => k_asm); (case k4 => k_asm); (case k5 => k_asm); (case k6 => k_mem); (case k7 => exact codeRec_news (by k_asm) (by k_mem) (by assumption) (by assumption)); (case k8 => ktr_room); (case k9 => exact rfl); (case c5 => decide); (case kB => exact locs rfl); (case c2 => exact rfl); (case c3 => exact rfl); (case c4 => exact rfl); k_whole; intro g' L' h' FG' F' N' B' X' T'; (try dsimp only); (try k_lift B'); (try k_fold))
                    k_steps
                    dsimp only [Mine.Hold]
                    k_dflt refine' Mine.of_fault (its := (cs.map fun c => Value.ref c.g).toArray) ?B ?F ?X ?N ?T ?y8k ?d8 ?u8 Mine.seesG.s Mine.seesG.d Mine.seesG.a ?z ?jj hj1 hj2 ?_; (case B => k_asm); (case F => k_asm); (case X => k_asm); (case N => k_asm); (case T => k_asm); (case y8k => first | exact rfl | assumption); (case d8 => ktr_room); (case u8 => ktr_units); (case z => have := hst.len5; simp; omega); (case jj => simp; omega)
                    (intro G9 e9 t9 d9 n1 n2 n3 t0 vs9 msg9 tk0 h9 tk9 F9 R9 U9; (try dsimp only); k_steps; walk_at "m:leaveO"; exact hE2 _ _ _ _ _ _ _ _ _ _ _ _ _ (by k_asm) (by assumption) (by assumption))
                  intro g9 tkk h9 tk9 TT F9' N9' B9' X9' TT9' D9'
                  have F7 := Mine.turn_fr TT F9'
                  have N7 := Mine.turn_news TT N9'
                  clear F9 N9 F9' N9' B9' X9' TT9' D9' TT
                  dsimp only
                  k_steps
                  rename News g _ _ (_ :: _) => N8
                  exact fin' _ <| Mine.turnL_end (by k_asm) (by intro z hz; exact Mine.st1 hz) (.inr ⟨c9, oc9, vs9, t9, rfl, d9, v9⟩) (by assumption) N8 D9 DI
            case done =>
              rintro h9 tk9 u ob tl v0 hob ht D9 F9 N9
              clear N5 D5
              obtain ⟨N5, D5⟩ := Mine.wk_in N9 D9
              clear N9 D9
              dsimp only
              k_steps
              dsimp only [Mine.Hold]
              k_dflt refine' Mine.loop_wk (n := 2) [Str.ofString "turn"] rfl ?F N5 (by decide) hob D5 TW hst hs ?step2 ?done2 ?pe
              case F => k_asm
              case pe => passes_own
              case step2 =>
                clear N5 D5 hst hs hob TW ht
                rintro I i u h₁ tk₁ t oi ob tl2 cs va vb ta tb v0 hi hob TW hst hs DI F9 N9 Q' fin'
                obtain ⟨⟨n1, n2, n3, n4, n5⟩, m1, m2, m3, m4, m5⟩ := Mine.numW DI
                dsimp only at n2 n3 m2 m4
                have hl5 := hst.len5
                k_steps
                dsimp only [Mine.Hold]
                rename News g _ _ (_ :: _) => N8
                refine Mine.len6 N8 hl5 ?_
                intro t5 tk5
                dsimp only
                k_steps
                dsimp only [Mine.Hold]
                rename News g _ _ (_ :: _ :: _ :: _) => N8
                obtain ⟨N6, D6⟩ := Mine.wk_call (Mine.news_drop2 N8) (DI.same rfl)
                clear N8
                k_dflt refine' Mine.wakes_spec (base := g) (h₀ := g) (outer := []) C242 ?B ?F ?X N6 ?T ?y9k ?d ?u X9 T9 ktsDicts_nil hst ?j1 ?j2 ?pv D6 TW ?_
                case j1 => omega
                case j2 => omega
                case pv => exact Mine.plainC (by assumption)
                (case B => exact B9); (case X => exact X9); (case T => exact T9); (case F => k_asm); (case y9k => exact rfl); (case d => ktr_room); (case u => first | ktr_units | walk_at "m:units" | decide +kernel)
                clear N6 D6 TW hst hob
                intro g2 cs2 tl3 h' tk' hst2 hg2 TW2 D TT F8 N9 y1 y2 y3 y4
                have F7 := Mine.turn_fr TT F8
                have N9' := Mine.turn_news TT N9
                clear F8 N9 TT y1 y2 y3 y4
                obtain ⟨N5, D5⟩ := Mine.wk_back N9' D
                clear N9' D
                dsimp only
                k_steps
                rename News g _ _ (_ :: _) => N4
                exact fin' _ <| Mine.wk_end (by k_asm) (by intro z hz; exact Mine.st1 hz) TW2 hst2 (by assumption) (by assumption) N4 D5
              case done2 =>
                clear N5 D5 hst hs hob TW
                rintro h9 tk9 u ob tl2 cs va vb ta tb v0 hob TW hst hs F9 N9 D9
                obtain ⟨N5, D5⟩ := Mine.ch_in N9 D9
                clear N9 D9
                dsimp only
                k_steps
                dsimp only [Mine.Hold]
                k_dflt refine' Mine.choices_spec (base := g) (h₀ := g) (outer := []) ?B ?F ?X N5 ?T ?y9k ?d ?u hst D5 List.mem_cons_self hkd hul ?_
                (case B => exact B9); (case X => exact X9); (case T => exact T9); (case F => k_asm); (case y9k => exact rfl); (case d => ktr_room); (case u => first | ktr_units | walk_at "m:units" | decide +kernel)
                intro here' t tt' h' tk' F8 N9
                clear N5
                dsimp only
                k_steps
                dsimp only [Mine.Hold]
                k_dflt refine' Mine.answers_spec (base := g) (h₀ := g) (outer := []) ?B ?F ?X N9 ?T ?y9k ?d ?u hst (D5.same rfl) ?_
                (case B => exact B9); (case X => exact X9); (case T => exact T9); (case F => k_asm); (case y9k => exact rfl); (case d => ktr_room); (case u => first | ktr_units | walk_at "m:units" | decide +kernel)
                clear N9 D5
                intro h' tk' F8 N9
                dsimp only
                k_steps
                obtain ⟨t2, t3, t4, N8⟩ := Mine.tabs4 N9 TW ht TB
                exact ⟨_, _, _, ps, t2, t3, t4, [], rfl, rfl, by k_asm, N8⟩)

set_option maxRecDepth 100000 in
set_option maxHeartbeats 8000000 in
theorem PySem.Challenge.cw_pf0070_01_holds : PySem.Challenge.rw_pf0070_01.Holds := by
  exact Mine.law0
