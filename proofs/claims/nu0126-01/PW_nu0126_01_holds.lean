import PyProof.Rows.All
import Wide.All
import OpenK.AllK
import Wide.FinOn
import PySem.Challenge.RW_nu0126_01
open PySem PySem.W PyProof.Rows PySem.Calls
set_option Elab.async false
set_option maxRecDepth 100000
set_option compiler.extract_closed false
namespace Mine
section
local macro_rules | `(tactic| o_head $_) => `(tactic| (exfalso; assumption))
set_option maxHeartbeats 8000000 in
theorem hd : False → PySem.Challenge.rw_nu0126_01.row.Holds := by
  intro f9
  k_head
end
end Mine
namespace Mine
local macro_rules | `(tactic| omega) => `(tactic| lia)
theorem ne1 (x : Nat) : x ≠ x + 1 := by omega
theorem ne2 (x : Nat) : x ≠ x + 1 + 1 := by omega
theorem ne3 (x : Nat) : x ≠ x + 1 + 1 + 1 := by omega
theorem ne4 (x : Nat) : x ≠ x + 1 + 1 + 1 + 1 := by omega
theorem ne5 (x : Nat) : x ≠ x + 1 + 1 + 1 + 1 + 1 := by omega
/-- An elimination that keeps the goal out of its motives. -/
theorem elimG {T : Prop → Prop} {G : Prop} (h : ∀ G', T G' → G') (k : T G) : G := h G k
/-- What a def's contract asks of its caller's frame, base and ledger. -/
structure Cx (w : World) (p : Program) (loose : List Str) (mean : ExcName → Option Value) (mg mb : Str → Option Value) (A₀ : Around) (base h₀ : Heap) (outer : List Env) (L : Addr) (h : Heap) (m : Str → Option Value) (news : List (Addr × Obj)) : Prop where
  B : Below A₀ base outer h₀
  F : Fr h₀ L h m
  X : (hd.heap_1 w.params).In h₀
  N : News h₀ L h news
  T : Top p loose mean mg mb h₀

/-- The room a call needs. -/
structure Rm (cs : Scope) (dp un k : Nat) : Prop where
  hk : cs.kind = .function
  hd : dp + k < recursionLimit
  hu : un + 8 * k + 200 < cLine

theorem rm_in {cs cs' : Scope} {dp un k k' dp' un' : Nat} (R : Rm cs dp un k) (hcs : cs'.kind = .function) (hd : dp' = dp + 1) (hu : un' = un + 3) (hk : Nat.ble (k' + 1) k = true) : Rm cs' dp' un' k' := by
  have h := Nat.le_of_ble_eq_true hk
  obtain ⟨_, b, c⟩ := R
  subst hd hu
  exact ⟨hcs, by omega, by omega⟩

theorem rm_un {cs : Scope} {dp un k u n : Nat} (R : Rm cs dp un k) (hu : u = un + 3) (hn : Nat.ble n 197 = true) : u + n < cLine := by
  have h := Nat.le_of_ble_eq_true hn
  have c := R.hu
  subst hu
  omega

theorem allNe_of_lt {d : Addr} : ∀ {l : List (Addr × Obj)}, AllLt d l → ∀ p ∈ l, p.1 ≠ d
  | [], _ => fun _ h => nomatch h
  | q :: r, ⟨a, b⟩ => fun p hp => by
    rcases List.mem_cons.mp hp with rfl | hp
    · exact Nat.ne_of_lt a
    · exact allNe_of_lt b p hp
theorem lt_of_allLt {d : Addr} : ∀ {l : List (Addr × Obj)}, AllLt d l → ∀ p ∈ l, @LT.lt Nat _ p.1 d
  | [], _ => fun _ h => nomatch h
  | q :: r, ⟨a, b⟩ => fun p hp => by
    rcases List.mem_cons.mp hp with rfl | hp
    · exact a
    · exact lt_of_allLt b p hp
/-- The address at a place of a ledger. -/
def at9 : List (Addr × Obj) → Nat → Option Nat
  | [], _ => none
  | p :: _, 0 => some p.1
  | _ :: r, n + 1 => at9 r n
theorem lt_at {d a : Nat} : ∀ {l : List (Addr × Obj)} {i : Nat}, AllLt d l → at9 l i = some a → a < d
  | [], _, _, e => nomatch e
  | _ :: _, 0, h, e => Option.some.inj e ▸ h.1
  | _ :: _, _ + 1, h, e => lt_at h.2 e
theorem ne_at {d a : Nat} {l : List (Addr × Obj)} {i : Nat} (h : AllLt d l) (e : at9 l i = some a) : a ≠ d := Nat.ne_of_lt (lt_at h e)
theorem ne_at' {d a : Nat} {l : List (Addr × Obj)} {i : Nat} (h : AllLt d l) (e : at9 l i = some a) : d ≠ a := Nat.ne_of_gt (lt_at h e)
theorem lt_tl {d : Nat} {T : List (Addr × Obj)} : ∀ {l : List (Addr × Obj)} (n : Nat), AllLt d l → l.drop n = T → AllLt d T
  | _, 0, h, e => e ▸ h
  | [], _ + 1, _, e => e ▸ trivial
  | _ :: _, n + 1, h, e => lt_tl n h.2 e
theorem sub_tail {x : Addr × Obj} {l r : List (Addr × Obj)} (h : ∀ p ∈ l, p ∈ r) : ∀ p ∈ l, p ∈ x :: r := fun p hp => List.mem_cons_of_mem _ (h p hp)
theorem news_sub {h₀ h : Heap} {L : Addr} {news news' : List (Addr × Obj)} (N : News h₀ L h news) (hs : ∀ p ∈ news', p ∈ news) : News h₀ L h news' := fun p hp => N p (hs p hp)

--M<
local macro_rules | `(tactic| k_lt $h:ident) => `(tactic| (replace $h := (allLt_of $h : AllLt _ (_ :: _))))
local macro_rules | `(tactic| walk_at "at9") => `(tactic| ((case h9 => with_reducible assumption); case e9 => first | exact (rfl : at9 _ 0 = _) | exact (rfl : at9 _ 1 = _) | exact (rfl : at9 _ 2 = _) | exact (rfl : at9 _ 3 = _) | exact (rfl : at9 _ 4 = _) | exact (rfl : at9 _ 5 = _) | exact (rfl : at9 _ 6 = _) | exact (rfl : at9 _ 7 = _) | exact (rfl : at9 _ 8 = _) | exact (rfl : at9 _ 9 = _) | exact (rfl : at9 _ 10 = _) | exact (rfl : at9 _ 11 = _)))
local macro_rules | `(tactic| walk_at "ne9") => `(tactic| first | with_reducible assumption | (refine Ne.symm ?_; with_reducible assumption) | (refine Nat.ne_of_lt ?_; with_reducible assumption) | (refine Nat.ne_of_gt ?_; with_reducible assumption) | (refine' ne_at ?h9 ?e9; walk_at "at9") | (refine' ne_at' ?h9 ?e9; walk_at "at9"))
local macro_rules | `(tactic| walk_at "lt9") => `(tactic| first | with_reducible assumption | (refine' lt_at ?h9 ?e9; walk_at "at9"))
local macro_rules | `(tactic| walk_at "ne8") => `(tactic| first | walk_at "ne9" | (with_reducible (first | exact ne1 _ | exact ne2 _ | exact ne3 _ | exact ne4 _ | exact ne5 _)) | (with_reducible (first | exact (ne1 _).symm | exact (ne2 _).symm | exact (ne3 _).symm | exact (ne4 _).symm | exact (ne5 _).symm)) | ((first | (with_reducible rename @Ne Nat _ _ ∧ _ => hA9) | (with_reducible rename (@Ne Nat _ _ ∧ _) ∧ _ => hA9)); cases hA9; walk_at "ne8"))
local macro_rules | `(tactic| k_ne) => `(tactic| (refine neN ?_; (try dsimp only); walk_at "ne8"))
local macro_rules | `(tactic| k_all) => `(tactic| first | with_reducible assumption | exact allNe_of_lt (by with_reducible assumption))
--M>


section
variable {prog : Program} {w : World} {A : Around} {E : Value → Shared → Prop} {s : Shared} {h₀ : Heap} {L l : Addr} {news : List (Addr × Obj)} {a b : Int} {t u : Tok} {Q : Value → Shared → Prop}
theorem m_mod (hb : 0 < b) (h : Q (.int (a % b) s.toks) { s with toks := s.toks + 1 }) : wpAny (model prog w) A (binaryOp .Mod (.int a t) (.int b u)) Q E s :=
  mod_int' (by omega) (by rw [Int.fmod_eq_emod_of_nonneg _ (by omega)]; exact h)
theorem m_div (hb : 0 < b) (hb2 : b < 1073741824) (h : Q (.int (a / b) s.toks) { s with toks := s.toks + 1 }) : wpAny (model prog w) A (binaryOp .FloorDiv (.int a t) (.int b u)) Q E s :=
  floordiv_int (by omega) (by rw [Int.fdiv_eq_ediv_of_nonneg _ (by omega)]; exact h) (Or.inl (PyProof.noPylong_small (by omega)))
theorem m_item {its : Array Value} {n : Nat} {k : Int} {v : Value} {value slice : Expr} (N : News h₀ L s.heap news) (hm : (l, listOf its n) ∈ news) (h0 : 0 ≤ k) (hhi : k < 2 ^ 63) (hx : its.toList[k.toNat]? = some v) (h : Q v s)
    (hs : subscripted slice false (.ref l) (.int k u) = operate [.ref l, .int k u] (getItem (.ref l) (.int k u)) := by with_unfolding_all rfl) : wpAny (model prog w) A (subscriptTail value slice (.ref l) (.int k u)) Q E s :=
  have hL : s.heap.IsList l its := ⟨_, (N _ hm).1, rfl, n, rfl⟩
  tail_any hL.typeIs slot_list_getitem.lookup (wpAny_getItem_list hL h0 hhi (by rw [← Array.getElem?_toList]; exact hx) h) hs
theorem m_len {its : Array Value} {n : Nat} (N : News h₀ L s.heap news) (hm : (l, listOf its n) ∈ news) (hf : (its.size : Int) < 2 ^ 63) (h : Q (.int its.size (s.toks + 1)) { s with toks := s.toks + 1 + 1 }) :
    wpAny (model prog w) A (call (.builtin "len") [.ref l]) Q E s :=
  have hL : s.heap.IsList l its := ⟨_, (N _ hm).1, rfl, n, rfl⟩
  call_len_list hL hf h
theorem m_itemS {its : Array Value} {n : Nat} {k : Int} {value slice : Expr} (N : News h₀ L s.heap news) (hm : (l, listOf its n) ∈ news) (h0 : 0 ≤ k) (hk : k < its.size) (hhi : k < 2 ^ 63) (h : ∀ v, its[k.toNat]? = some v → Q v s)
    (hs : subscripted slice false (.ref l) (.int k u) = operate [.ref l, .int k u] (getItem (.ref l) (.int k u)) := by with_unfolding_all rfl) : wpAny (model prog w) A (subscriptTail value slice (.ref l) (.int k u)) Q E s :=
  have hL : s.heap.IsList l its := ⟨_, (N _ hm).1, rfl, n, rfl⟩
  have hx : its[k.toNat]? = some its[k.toNat] := Array.getElem?_eq_getElem (by omega)
  tail_any hL.typeIs slot_list_getitem.lookup (wpAny_getItem_list hL h0 hhi hx (h _ hx)) hs
end
--M<
local macro_rules | `(tactic| walk_at "subtail9") => `(tactic| first | exact fun _ h => h | with_reducible assumption | (refine sub_tail ?_; walk_at "subtail9"))
local macro_rules | `(tactic| walk_at "sub9") => `(tactic| first | exact List.forall_mem_nil _ | (refine List.forall_mem_cons.mpr ⟨by k_mem, ?_⟩; walk_at "sub9") | walk_at "subtail9")
local macro_rules | `(tactic| walk_at "news9") => `(tactic| first | k_asm | (refine' news_sub ?n9 ?s9; (case n9 => k_asm); (case s9 => walk_at "sub9")))
local macro_rules | `(tactic| k_mem) => `(tactic| first | with_reducible assumption | exact List.mem_cons_self | (refine' List.mem_cons_of_mem _ ?_; k_mem))
local macro_rules | `(tactic| walk_at "eval Name") => `(tactic| (k_here; (with_reducible show wpAny _ _ (eval (Expr.Name _ _) (envOf _ _ _ _ _)) _ _ _); k_dflt (refine' ld ?k1 ?k2 ?_; (case k1 => k_asm); (case k2 => exact rfl); k_whole)))
local macro_rules | `(tactic| mul_fits) => `(tactic| first | exact PySem.IntMulOk.of_left (PySem.intBits_le_64 (by omega) (by omega)) | exact PySem.IntMulOk.of_right (PySem.intBits_le_64 (by omega) (by omega)))
local macro_rules | `(tactic| walk_at "subscriptTail") => `(tactic| ((with_reducible show wpAny _ _ (subscriptTail _ _ (Value.ref _) (Value.int _ _)) _ _ _); k_dflt (refine' m_itemS ?k1 ?k2 ?k3 ?k4 ?k5 ?_; (case k1 => k_asm); (case k2 => k_mem); (case k3 => omega); (case k4 => omega); (case k5 => omega)); intro v' hv'; (try k_fold)))
--M>

section
variable {prog : Program} {w : World} {p : Program} {loose : List Str} {mean : ExcName → Option Value} {mg mb : Str → Option Value}
  {dp un : Nat} {gd : Option (List Code)} {cn : Str} {cs : Scope} {fa : Addr} {ccd : Value} {cl : List (Str × Addr)} {outer : List Env} {A₀ : Around} {base h₀ : Heap} {L : Addr} {m : Str → Option Value} {s : Shared} {Q E : Value → Shared → Prop}
  {news : List (Addr × Obj)}

theorem enterK {f k : Addr} {args : List Value} {name qual : Str} {params : Arguments} {body : List Stmt} {scope : Scope} {dV kV doc pm cdv ct oc : Value} {an od : Option Addr} {osl : Array (Option Value)} {binds : List (Str × Value)}
    (C : Cx w p loose mean mg mb A₀ base h₀ outer L s.heap m news) (R : Rm cs dp un k)
    (ho : (hd.heap_1 w.params).lookup f = some ⟨oc, od, .func (fnOf name qual params body scope dV kV doc pm an cdv ct), osl⟩) (hcd : codeIn (hd.heap_1 w.params) cdv qual = true)
    (hbind : BindsTo s (fnOf name qual params body scope dV kV doc pm an cdv ct) ⟨args, []⟩ binds) (hloc : ∀ y ∈ binds, scope.names.lookup y.1 = some .local)
    (h : ∀ g L' h₁, Fr h₀ L g m → Fr g L' h₁ (fun y => binds.reverse.lookup y) → News g L' h₁ news → Below (ktrTop dp un gd cn cs L fa ccd cl outer) base (envX cn cs L fa ccd cl :: outer) g → (hd.heap_1 w.params).In g → Top p loose mean mg mb g →
      wpAny (model prog w) ((ktrTop dp un gd cn cs L fa ccd cl outer).deeper (envOf qual scope L' f cdv)) (execs body (envOf qual scope L' f cdv))
        (fun fl s' => LeaveK h₀ L m g (fun r s' => match r with | .ok (.ret v) => Q v s' | .ok _ => False | .error e => E e s') (match fl with | .ret v => v | _ => .none) s')
        (fun e s' => wpAny (model prog w) ((ktrTop dp un gd cn cs L fa ccd cl outer).deeper (envOf qual scope L' f cdv)) (leaving (envOf qual scope L' f cdv) e) (fun _ s'' => E e s'') (fun e' s'' => E e' s'') s')
        { s with heap := h₁, toks := s.toks + binds.length })
    (hco : scope.isCoroutine = false) (hgen : scope.isGenerator = false) (hk : scope.kind = .function)
    (hcell : ∀ x ∈ scope.names, x.2 ≠ .cell) : wpAny (model prog w) (ktrTop dp un gd cn cs L fa ccd cl outer) (call (.ref f) args) Q E s := by
  obtain ⟨B, F, X, N, T⟩ := C
  refine wpAny_call ?_
  exact code_def B F X N T rfl rfl R.hk ho hcd (Nat.lt_of_le_of_lt (Nat.le_add_right _ _) R.hd) hbind hloc h hco hgen hk hcell


/-- The pool of draws: any list of two ints that are not negative. -/
def PoolO (o : Obj) : Prop := ∃ x y tx ty n, o = listOf #[.int x tx, .int y ty] n ∧ 0 ≤ x ∧ 0 ≤ y ∧ y < 2147483647

set_option maxHeartbeats 8000000 in
theorem take_core {src n : Nat} {x y : Int} {tx ty : Tok} (C : Cx w p loose mean mg mb A₀ base h₀ outer L s.heap m ((src, listOf #[.int x tx, .int y ty] n) :: news))
  (hne : ∀ p ∈ news, p.1 ≠ src) (R : Rm cs dp un 1)
  {top : Int} {tt : Tok} (htop : 0 < top) (ht2 : top < 1000000) (hx : 0 ≤ x) (hy : 0 ≤ y) (hy2 : y < 2147483647)
  (hret : ∀ d t o' h' tk', 0 ≤ d → d < top → PoolO o' → Fr h₀ L h' m → News h₀ L h' ((src, o') :: news) → Q (.int d t) { s with heap := h', toks := tk' }) :
  wpAny (model prog w) (ktrTop dp un gd cn cs L fa ccd cl outer) (call (.ref 317) [.ref src, .int top tt]) Q E s := by
  have C' := C
  obtain ⟨B, F, X, N, T⟩ := C'
  k_dflt (refine' enterK (binds := [(Str.ofString "source", .ref src), (Str.ofString "top", .int top tt)]) C R ?k6 ?k7 ?k9 ?kB ?_ ?c2 ?c3 ?c4 ?c5; (((case k6 => k_is); (case k7 => k_is); (case k9 => exact BindsTo.of_eq rfl); (case c5 => decide); (case kB => exact locs rfl); (case c2 => exact rfl); (case c3 => exact rfl); (case c4 => exact rfl); k_whole; intro g' L' h' FG' F' N' B' X' T'; (try dsimp only); (try k_fold))))
  (repeat' (first | (k_unfold; (try dsimp only)) | (k_end; wrow_close) | (with_reducible ((with_reducible show wpAny _ _ (subscriptTail _ _ (Value.ref _) (Value.int _ _)) _ _ _); k_dflt (refine' m_item ?k1 ?k2 ?k3 ?k4 ?k5 ?_; (case k1 => k_asm); (case k2 => k_mem); (case k3 => decide); (case k4 => decide); (case k5 => rfl)))) | ((with_reducible show wpAny _ _ (binaryOp PySem.Operator.FloorDiv (Value.int _ _) (Value.int _ _)) _ _ _); with_reducible (with_reducible refine m_div ?hb9 ?hb8 ?_; (case hb9 => omega); (case hb8 => omega))) | ((with_reducible show wpAny _ _ (binaryOp PySem.Operator.Mod (Value.int _ _) (Value.int _ _)) _ _ _); with_reducible (with_reducible refine m_mod ?hb9 ?_; (case hb9 => omega))) | walk1 | (dsimp only; walk1) | (leave1; try dsimp only)))
  · refine' hret _ _ _ _ _ (Int.emod_nonneg _ (by omega)) (Int.emod_lt_of_pos _ (by omega)) ?P1 ?F1 ?N1
    (case N1 => k_asm)
    (case F1 => k_asm)
    exact ⟨_, _, _, _, _, rfl, Int.ediv_nonneg (by omega) (by omega), hy, hy2⟩
  · refine' hret _ _ _ _ _ (Int.emod_nonneg _ (by omega)) (Int.emod_lt_of_pos _ (by omega)) ?P2 ?F2 ?N2
    (case N2 => k_asm)
    (case F2 => k_asm)
    exact ⟨_, _, _, _, _, rfl, hx, by omega, by omega⟩

theorem take_spec {src : Addr} {o : Obj} {g : Obj → List (Addr × Obj)} (U : UpdF src o news g) (hP : PoolO o) (C : Cx w p loose mean mg mb A₀ base h₀ outer L s.heap m news) (R : Rm cs dp un 1)
  {top : Int} {tt : Tok} (htop : 0 < top) (ht2 : top < 1000000)
  (hret : ∀ d t o' h' tk', 0 ≤ d → d < top → PoolO o' → Fr h₀ L h' m → News h₀ L h' (g o') → Q (.int d t) { s with heap := h', toks := tk' }) :
  wpAny (model prog w) (ktrTop dp un gd cn cs L fa ccd cl outer) (call (.ref 317) [.ref src, .int top tt]) Q E s := by
  refine' elimG ?h9y2 ?k9y2
  case h9y2 =>
    intro G9 k9
    obtain ⟨pre, post, e9x1, hg, a, b⟩ := U.split
    revert b
    revert a
    revert hg
    revert e9x1
    revert post
    revert pre
    exact k9
  intro pre post e9x1 hg a b
  subst e9x1
  refine' elimG ?h9y4 ?k9y4
  case h9y4 =>
    intro G9 k9
    obtain ⟨x, y, tx, ty, n, e9x3, hx, hy, hy2⟩ := id hP
    revert hy2
    revert hy
    revert hx
    revert e9x3
    revert n
    revert ty
    revert tx
    revert y
    revert x
    exact k9
  intro x y tx ty n e9x3 hx hy hy2
  subst e9x3
  try clear hP
  obtain ⟨B, F, X, N, T⟩ := C
  refine take_core (news := pre ++ post) (x := x) (y := y) (tx := tx) (ty := ty) (n := n) ⟨B, F, X, news_sub N (fun q hq => ?_), T⟩ (fun q hq => (List.mem_append.mp hq).elim (a q) (b q)) R htop ht2 hx hy hy2 fun d t o' h' tk' h0 h1 hP' F' N' => hret d t o' h' tk' h0 h1 hP' F' ?_
  · simp only [List.mem_cons, List.mem_append] at hq ⊢
    rcases hq with h | h | h <;> simp [h]
  · rw [hg]
    refine news_sub N' fun q hq => ?_
    simp only [List.mem_cons, List.mem_append] at hq ⊢
    rcases hq with h | h | h <;> simp [h]
end

theorem updF_core {d : Addr} {o : Obj} {news : List (Addr × Obj)} {g : Obj → List (Addr × Obj)} (U : UpdF d o news g) :
    ∃ r, (∀ p ∈ r, p.1 ≠ d) ∧ (∀ p, p ∈ (d, o) :: r ↔ p ∈ news) ∧ (∀ o' p, p ∈ (d, o') :: r ↔ p ∈ g o') ∧ ∀ (t : Addr) (X : Obj), (∀ o', (t, X) ∈ g o') → (t, X) ∈ r := by
  obtain ⟨pre, post, rfl, hg, a, b⟩ := U.split
  refine ⟨pre ++ post, fun q hq => (List.mem_append.mp hq).elim (a q) (b q), fun q => ?_, fun o' q => ?_, fun t X hX => ?_⟩
  · simp only [List.mem_cons, List.mem_append]
    constructor <;> rintro (h | h | h) <;> simp [h]
  · rw [hg]
    simp only [List.mem_cons, List.mem_append]
    constructor <;> rintro (h | h | h) <;> simp [h]
  · have h1 := hX { cls := X.cls, dict := X.dict, data := .freed, slots := X.slots }
    have h2 := hX { cls := X.cls, dict := X.dict, data := .plain, slots := X.slots }
    rw [hg] at h1 h2
    simp only [List.mem_cons, List.mem_append, Prod.mk.injEq] at h1 h2 ⊢
    rcases h1 with h1 | ⟨_, h1⟩ | h1
    · exact .inl h1
    · rcases h2 with h2 | ⟨_, h2⟩ | h2
      · exact .inl h2
      · rw [h1] at h2; cases h2
      · exact .inr h2
    · exact .inr h1
--M<
local macro_rules | `(tactic| walk_at "cx9") => `(tactic| exact ⟨by k_asm, by k_asm, by k_asm, by k_asm, by k_asm⟩)
local macro_rules | `(tactic| walk_at "rm9") => `(tactic| first | exact rm_in (by with_reducible assumption) (by first | exact rfl | assumption) rfl rfl (by exact rfl) | (refine ⟨(by first | exact rfl | assumption), ?_, ?_⟩ <;> (simp only [ktrTop, depth_deeper, units_deeper]; omega)))
--M>
section
variable {prog : Program} {w : World} {p : Program} {loose : List Str} {mean : ExcName → Option Value} {mg mb : Str → Option Value}
  {dp un : Nat} {gd : Option (List Code)} {cn : Str} {cs : Scope} {fa : Addr} {ccd : Value} {cl : List (Str × Addr)} {outer : List Env} {A₀ : Around} {base h₀ : Heap} {L : Addr} {m : Str → Option Value} {s : Shared} {Q E : Value → Shared → Prop}
  {news : List (Addr × Obj)}

set_option maxHeartbeats 8000000 in
theorem one_core {src tl : Addr} {o : Obj} {vs : List Value} {ns : List Int} {n : Nat} (hne : ∀ q ∈ news, q.1 ≠ src) (hP : PoolO o) (C : Cx w p loose mean mg mb A₀ base h₀ outer L s.heap m ((src, o) :: news)) (hm : (tl, listOf vs.toArray n) ∈ news) (R : Rm cs dp un 2)
  (hi : IntsAre vs ns) (hl0 : 0 < ns.length) (hl : ns.length < 1000000)
  (hret : ∀ k t o' h' tk', k ∈ ns → PoolO o' → Fr h₀ L h' m → News h₀ L h' ((src, o') :: news) → Q (.int k t) { s with heap := h', toks := tk' }) :
  wpAny (model prog w) (ktrTop dp un gd cn cs L fa ccd cl outer) (call (.ref 324) [.ref src, .ref tl]) Q E s := by
  have C' := C
  obtain ⟨B, F, X, N, T⟩ := C'
  have hRd := R.hd
  have hRu := R.hu
  have hz : vs.toArray.size = ns.length := by rw [List.size_toArray]; exact hi.length
  k_dflt (refine' enterK (binds := [(Str.ofString "source", .ref src), (Str.ofString "things", .ref tl)]) C R ?k6 ?k7 ?k9 ?kB ?_ ?c2 ?c3 ?c4 ?c5; (((case k6 => k_is); (case k7 => k_is); (case k9 => exact BindsTo.of_eq rfl); (case c5 => decide); (case kB => exact locs rfl); (case c2 => exact rfl); (case c3 => exact rfl); (case c4 => exact rfl); k_whole; intro g' L' h' FG' F' N' B' X' T'; (try dsimp only); (try k_fold))))
  (repeat' (first | (k_unfold; (try dsimp only)) | (k_end; wrow_close) | (with_reducible (k_here; (with_reducible show wpAny _ _ (PySem.call (Value.ref 317) _ _) _ _ _); k_dflt (refine' take_spec ?c1 ?c2 ?c3 ?c4 ?c5 ?c6 ?_; (case c3 => walk_at "cx9"); (case c1 => k_updF); (case c2 => with_reducible assumption); (case c4 => walk_at "rm9"); (case c5 => omega); (case c6 => omega)); intro kyd' kyt' kyo' kyh' kytk' kyhd0 kyhd1 kyhP' kyF' kyN'; (try dsimp only at kyN'); (try k_fold))) | (with_reducible ((with_reducible show wpAny _ _ (PySem.call (Value.builtin "len") [Value.ref _]) _ _ _); k_dflt (refine' m_len ?k1 ?k2 ?k3 ?_; (case k1 => k_asm); (case k2 => k_mem); (case k3 => first | decide | omega)))) | walk1 | (dsimp only; walk1) | (leave1; try dsimp only)))
  rename_i v hv _ _ _ _
  refine' elimG ?h9y2 ?k9y2
  case h9y2 =>
    have h9z := hi.at _ _ (by rw [← List.getElem?_toArray]; exact hv)
    intro G9 k9
    obtain ⟨k, t, e9x1, hk⟩ := h9z
    revert hk
    revert e9x1
    revert t
    revert k
    exact k9
  intro k t e9x1 hk
  subst e9x1
  refine' hret k t _ _ _ (List.mem_of_getElem? hk) ?P1 ?F1 ?N1
  (case N1 => k_asm)
  (case F1 => k_asm)
  assumption

theorem one_spec {src tl : Addr} {o : Obj} {g : Obj → List (Addr × Obj)} (U : UpdF src o news g) (hP : PoolO o) (C : Cx w p loose mean mg mb A₀ base h₀ outer L s.heap m news) (R : Rm cs dp un 2)
  {vs : List Value} {ns : List Int} {n : Nat} (hm : ∀ o', (tl, listOf vs.toArray n) ∈ g o') (hi : IntsAre vs ns) (hl0 : 0 < ns.length) (hl : ns.length < 1000000)
  (hret : ∀ k t o' h' tk', k ∈ ns → PoolO o' → Fr h₀ L h' m → News h₀ L h' (g o') → Q (.int k t) { s with heap := h', toks := tk' }) :
  wpAny (model prog w) (ktrTop dp un gd cn cs L fa ccd cl outer) (call (.ref 324) [.ref src, .ref tl]) Q E s := by
  refine' elimG ?h9y1 ?k9y1
  case h9y1 =>
    intro G9 k9
    obtain ⟨r, h1, h2, h3, h4⟩ := updF_core U
    revert h4
    revert h3
    revert h2
    revert h1
    revert r
    exact k9
  intro r h1 h2 h3 h4
  obtain ⟨B, F, X, N, T⟩ := C
  exact one_core h1 hP ⟨B, F, X, news_sub N fun q hq => (h2 q).mp hq, T⟩ (h4 _ _ hm) R hi hl0 hl fun k t o' h' tk' hk hP' F' N' => hret k t o' h' tk' hk hP' F' (news_sub N' fun q hq => (h3 o' q).mpr hq)
end
--M<
--M>
section
variable {prog : Program} {w : World} {p : Program} {loose : List Str} {mean : ExcName → Option Value} {mg mb : Str → Option Value}
  {dp un : Nat} {gd : Option (List Code)} {cn : Str} {cs : Scope} {fa : Addr} {ccd : Value} {cl : List (Str × Addr)} {outer : List Env} {A₀ : Around} {base h₀ : Heap} {L : Addr} {m : Str → Option Value} {s : Shared} {Q E : Value → Shared → Prop}
  {news : List (Addr × Obj)}

abbrev tupO (vs : List Value) : Obj := { cls := .type "tuple", data := .seq vs.toArray }
def DeedO (o : Obj) : Prop := ∃ wd tw a ta b tb c tc, o = tupO [.str wd tw, .int a ta, .int b tb, .int c tc] ∧ (wd = Str.ofString "bind" ∨ wd = Str.ofString "connect" ∨ wd = Str.ofString "remove")

set_option maxHeartbeats 8000000 in
theorem deed_core {src : Addr} {o : Obj} (hne : ∀ q ∈ news, q.1 ≠ src) (hP : PoolO o) (C : Cx w p loose mean mg mb A₀ base h₀ outer L s.heap m ((src, o) :: news)) (R : Rm cs dp un 3)
  (hret : ∀ dd od o' h' tk', DeedO od → @LT.lt Nat _ src dd → (∀ q ∈ news, q.1 < dd) → PoolO o' → Fr h₀ L h' m → News h₀ L h' ((dd, od) :: (src, o') :: news) → Q (.ref dd) { s with heap := h', toks := tk' }) :
  wpAny (model prog w) (ktrTop dp un gd cn cs L fa ccd cl outer) (call (.ref 338) [.ref src]) Q E s := by
  have C' := C
  obtain ⟨B, F, X, N, T⟩ := C'
  have hRd := R.hd
  have hRu := R.hu
  k_dflt (refine' enterK (binds := [(Str.ofString "source", .ref src)]) C R ?k6 ?k7 ?k9 ?kB ?_ ?c2 ?c3 ?c4 ?c5; (((case k6 => k_is); (case k7 => k_is); (case k9 => exact BindsTo.of_eq rfl); (case c5 => decide); (case kB => exact locs rfl); (case c2 => exact rfl); (case c3 => exact rfl); (case c4 => exact rfl); k_whole; intro g' L' h' FG' F' N' B' X' T'; (try dsimp only); (try k_fold))))
  (repeat' (first | (k_unfold; (try dsimp only)) | (k_end; wrow_close) | (with_reducible (k_here; (with_reducible show wpAny _ _ (PySem.call (Value.ref 324) _ _) _ _ _); k_dflt (refine' one_spec ?c1 ?c2 ?c3 ?c4 ?c5 ?c6 ?c7 ?c8 ?_; (case c3 => walk_at "cx9"); (case c1 => k_updF); (case c2 => with_reducible assumption); (case c4 => walk_at "rm9"); (case c5 => (intro kyo9; (try dsimp only); k_mem)); (case c6 => l_ints); (case c7 => first | assumption | decide); (case c8 => first | assumption | decide)); intro kyk' kyt' kyo' kyh' kytk' kyhk' kyhP' kyF' kyN'; (try dsimp only at kyN'); (try k_fold))) | (with_reducible (k_here; (with_reducible show wpAny _ _ (PySem.call (Value.ref 317) _ _) _ _ _); k_dflt (refine' take_spec ?c1 ?c2 ?c3 ?c4 ?c5 ?c6 ?_; (case c3 => walk_at "cx9"); (case c1 => k_updF); (case c2 => with_reducible assumption); (case c4 => walk_at "rm9"); (case c5 => omega); (case c6 => omega)); intro kyd' kyt' kyo' kyh' kytk' kyhd0 kyhd1 kyhP' kyF' kyN'; (try dsimp only at kyN'); (try k_fold))) | walk1 | (dsimp only; walk1) | (leave1; try dsimp only)))
  all_goals (
    refine' hret _ _ _ _ _ ?D ?l ?f ?P ?F ?N
    (case N => walk_at "news9")
    (case F => k_asm)
    (case l => walk_at "lt9")
    (case f => ((refine lt_of_allLt ?_; first | with_reducible assumption | (refine lt_tl _ (by with_reducible assumption) (by first | exact (rfl : List.drop 1 _ = _) | exact (rfl : List.drop 2 _ = _) | exact (rfl : List.drop 3 _ = _) | exact (rfl : List.drop 4 _ = _) | exact (rfl : List.drop 5 _ = _))) | assumption)))
    (case P => assumption)
    (case D => refine ⟨_, _, _, _, _, _, _, _, rfl, ?_⟩; simp))

theorem deed_spec {src : Addr} {o : Obj} {g : Obj → List (Addr × Obj)} (U : UpdF src o news g) (hP : PoolO o) (C : Cx w p loose mean mg mb A₀ base h₀ outer L s.heap m news) (R : Rm cs dp un 3)
  (hret : ∀ dd od o' h' tk', DeedO od → (∀ q ∈ g o', @LT.lt Nat _ q.1 dd) → PoolO o' → Fr h₀ L h' m → News h₀ L h' ((dd, od) :: g o') → Q (.ref dd) { s with heap := h', toks := tk' }) :
  wpAny (model prog w) (ktrTop dp un gd cn cs L fa ccd cl outer) (call (.ref 338) [.ref src]) Q E s := by
  refine' elimG ?h9y1 ?k9y1
  case h9y1 =>
    intro G9 k9
    obtain ⟨r, h1, h2, h3, h4⟩ := updF_core U
    revert h4
    revert h3
    revert h2
    revert h1
    revert r
    exact k9
  intro r h1 h2 h3 h4
  obtain ⟨B, F, X, N, T⟩ := C
  refine deed_core h1 hP ⟨B, F, X, news_sub N fun q hq => (h2 q).mp hq, T⟩ R fun dd od o' h' tk' hD hl hf hP' F' N' => hret dd od o' h' tk' hD (fun q hq => ?_) hP' F' (news_sub N' fun q hq => ?_)
  · rcases List.mem_cons.mp ((h3 o' q).mpr hq) with rfl | hq
    · exact hl
    · exact hf q hq
  · rcases List.mem_cons.mp hq with rfl | hq
    · exact List.mem_cons_self
    · exact List.mem_cons_of_mem _ ((h3 o' q).mpr hq)
end
/-- A row of the table: owner, address, port, remote. -/
structure Row where
  o : Int
  a : Int
  p : Int
  rm : Option (Int × Int)
deriving DecidableEq

def RemR (news : List (Addr × Obj)) (v : Value) : Option (Int × Int) → Prop
  | none => v = .none
  | some x => ∃ t ta tp, v = .ref t ∧ (t, tupO [.int x.1 ta, .int x.2 tp]) ∈ news

abbrev rowD (h1 h2 h3 h4 : Int) (t1 t2 t3 t4 u1 u2 u3 : Tok) (o a p : Int) (rv : Value) (n : Nat) : Obj :=
  dictOf [⟨h1, .str (Str.ofString "owner") t1, .int o u1⟩, ⟨h2, .str (Str.ofString "address") t2, .int a u2⟩, ⟨h3, .str (Str.ofString "port") t3, .int p u3⟩, ⟨h4, .str (Str.ofString "remote") t4, rv⟩] n

/-- The object at r is a UdpRow of these contents. -/
def RowAt (news : List (Addr × Obj)) (r dx : Addr) (c : Row) : Prop :=
  (r, instObj 113 dx) ∈ news ∧ ∃ h1 h2 h3 h4 t1 t2 t3 t4 u1 u2 u3 rv n, (dx, rowD h1 h2 h3 h4 t1 t2 t3 t4 u1 u2 u3 c.o c.a c.p rv n) ∈ news ∧ RemR news rv c.rm

section
variable {prog : Program} {w : World} {p : Program} {loose : List Str} {mean : ExcName → Option Value} {mg mb : Str → Option Value}
  {dp un : Nat} {gd : Option (List Code)} {cn : Str} {cs : Scope} {fa : Addr} {ccd : Value} {cl : List (Str × Addr)} {outer : List Env} {A₀ : Around} {base h₀ : Heap} {L : Addr} {m : Str → Option Value} {s : Shared} {Q E : Value → Shared → Prop}
  {news : List (Addr × Obj)}

set_option maxHeartbeats 8000000 in
theorem isat_spec {r dx : Addr} {c : Row} {x y : Int} {tx ty : Tok} (C : Cx w p loose mean mg mb A₀ base h₀ outer L s.heap m news) (R : Rm cs dp un 1) (hr : RowAt news r dx c)
  (hret : ∀ h' tk', Fr h₀ L h' m → News h₀ L h' news → Q (.bool (decide (c.a = x ∧ c.p = y))) { s with heap := h', toks := tk' }) :
  wpAny (model prog w) (ktrTop dp un gd cn cs L fa ccd cl outer) (call (.ref 103) [.ref r, .int x tx, .int y ty]) Q E s := by
  have C' := C
  obtain ⟨B, F, X, N, T⟩ := C'
  have hRd := R.hd
  have hRu := R.hu
  refine' elimG ?h9y1 ?k9y1
  case h9y1 =>
    intro G9 k9
    obtain ⟨hm1, h1, h2, h3, h4, t1, t2, t3, t4, u1, u2, u3, rv, n, hm2, hrem⟩ := id hr
    revert hrem
    revert hm2
    revert n
    revert rv
    revert u3
    revert u2
    revert u1
    revert t4
    revert t3
    revert t2
    revert t1
    revert h4
    revert h3
    revert h2
    revert h1
    revert hm1
    exact k9
  intro hm1 h1 h2 h3 h4 t1 t2 t3 t4 u1 u2 u3 rv n hm2 hrem
  try clear hr
  k_dflt (refine' enterK (binds := [(Str.ofString "self", .ref r), (Str.ofString "address", .int x tx), (Str.ofString "port", .int y ty)]) C R ?k6 ?k7 ?k9 ?kB ?_ ?c2 ?c3 ?c4 ?c5; (((case k6 => k_is); (case k7 => k_is); (case k9 => exact BindsTo.of_eq rfl); (case c5 => decide); (case kB => exact locs rfl); (case c2 => exact rfl); (case c3 => exact rfl); (case c4 => exact rfl); k_whole; intro g' L' h' FG' F' N' B' X' T'; (try dsimp only); (try k_fold))))
  k_steps
  all_goals (
    refine cb_retB (fun _ => hret) ?_ (by k_asm) (by k_asm)
    rw [Bool.eq_iff_iff]
    simp_all)

/-- How well a row fits a datagram, as `fits` counts. -/
def fitsV (c : Row) (t p : Int) (rem : Int × Int) : Int :=
  if c.p = p ∧ (c.a = 0 ∨ c.a = t) ∧ (c.rm = none ∨ c.rm = some rem) then (if c.a = 0 then 1 else 2) + (if c.rm = none then 0 else 2) else 0

set_option maxHeartbeats 8000000 in
theorem fits_spec {r dx tr : Addr} {c : Row} {x y a b : Int} {tx ty ta tb : Tok} (C : Cx w p loose mean mg mb A₀ base h₀ outer L s.heap m news) (R : Rm cs dp un 1) (hr : RowAt news r dx c) (hrm : (tr, tupO [.int a ta, .int b tb]) ∈ news)
  (hret : ∀ t h' tk', Fr h₀ L h' m → News h₀ L h' news → Q (.int (fitsV c x y (a, b)) t) { s with heap := h', toks := tk' }) :
  wpAny (model prog w) (ktrTop dp un gd cn cs L fa ccd cl outer) (call (.ref 110) [.ref r, .int x tx, .int y ty, .ref tr]) Q E s := by
  have C' := C
  obtain ⟨B, F, X, N, T⟩ := C'
  have hRd := R.hd
  have hRu := R.hu
  refine' elimG ?h9y1 ?k9y1
  case h9y1 =>
    intro G9 k9
    obtain ⟨hm1, h1, h2, h3, h4, t1, t2, t3, t4, u1, u2, u3, rv, n, hm2, hrem⟩ := id hr
    revert hrem
    revert hm2
    revert n
    revert rv
    revert u3
    revert u2
    revert u1
    revert t4
    revert t3
    revert t2
    revert t1
    revert h4
    revert h3
    revert h2
    revert h1
    revert hm1
    exact k9
  intro hm1 h1 h2 h3 h4 t1 t2 t3 t4 u1 u2 u3 rv n hm2 hrem
  try clear hr
  k_dflt (refine' enterK (binds := [(Str.ofString "self", .ref r), (Str.ofString "target", .int x tx), (Str.ofString "target_port", .int y ty), (Str.ofString "remote", .ref tr)]) C R ?k6 ?k7 ?k9 ?kB ?_ ?c2 ?c3 ?c4 ?c5; (((case k6 => k_is); (case k7 => k_is); (case k9 => exact BindsTo.of_eq rfl); (case c5 => decide); (case kB => exact locs rfl); (case c2 => exact rfl); (case c3 => exact rfl); (case c4 => exact rfl); k_whole; intro g' L' h' FG' F' N' B' X' T'; (try dsimp only); (try k_fold))))
  k_steps
  all_goals try (
    refine cb_retI hret ?_ (by k_asm) (by k_asm)
    simp_all [fitsV]
    done)
  all_goals (
    rcases hc : c.rm with _ | ⟨ra, rb⟩
    · rw [hc] at hrem
      have hrv : rv = .none := hrem
      subst hrv
      k_steps
      all_goals try (
        refine cb_retI hret ?_ (by k_asm) (by k_asm)
        simp_all [fitsV]
        done)
      all_goals trace_state
      all_goals walk_report
    · rw [hc] at hrem
      rcases hrem with ⟨t9, ta9, tp9, hrv, hm3⟩
      subst hrv
      k_steps
      all_goals try (
        refine cb_retI hret ?_ (by k_asm) (by k_asm)
        simp_all [fitsV]
        done)
      all_goals trace_state
      all_goals walk_report)
end
section
variable {prog : Program} {w : World} {A : Around} {E : Value → Shared → Prop} {s : Shared} {env : Env} {h₀ : Heap} {x : Str} {body : List Stmt} {Q : Flow → Shared → Prop} {news : List (Addr × Obj)}

def TurnR (h₀ : Heap) (L : Addr) (J : (Str → Option Value) → Prop) (T : List (Addr × Obj)) (s₁ : Shared) (Q : Flow → Shared → Prop) (f : Flow) (s₂ : Shared) : Prop :=
  match f with
  | .ret v => Q (.ret v) s₂
  | .brk => Q .next s₂
  | _ => ∃ h' tk m', s₂ = { s₁ with heap := h', toks := tk } ∧ Fr h₀ L h' m' ∧ News h₀ L h' T ∧ J m'

theorem iter_ro {I : Addr} {fp wr : List Addr} {n : Nat} {P : Nat → Value → Prop} {St : Nat → Heap → Prop} {m₀ : Str → Option Value} (W : Walks prog w A I fp wr n P St) (hLf : env.locals ∉ fp) (hwr : ∀ b ∈ wr, h₀.get? b = none) (hnw : ∀ p ∈ news, p.1 ∉ wr) (hst : St 0 s.heap)
    (F : Fr h₀ env.locals s.heap m₀) (N : News h₀ env.locals s.heap news) (J : Nat → (Str → Option Value) → Prop) (h0 : J 0 m₀)
    (turn : ∀ i v m₁ T h tk, i < n → P i v → J i m₁ → (∀ q ∈ news, q ∈ T) → Fr h₀ env.locals h (fun y => if y = x then some v else m₁ y) → News h₀ env.locals h T →
      wpAny (model prog w) A (execs body env) (TurnR h₀ env.locals (J (i + 1)) T { s with heap := h, toks := tk } Q) E { s with heap := h, toks := tk })
    (done : ∀ m₁ h tk, J n m₁ → Fr h₀ env.locals h m₁ → News h₀ env.locals h news → Q .next { s with heap := h, toks := tk }) :
    LoopAtV prog w A h₀ env x body Q E (.ref I) s := by
  refine ⟨I, fp, wr, n, P, St, m₀, news, fun i m₁ news₁ => news₁ = news ∧ J i m₁, rfl, W, hLf, hwr, hnw, hst, F, N, ⟨rfl, h0⟩, ?_, ?_⟩
  · rintro i v m₁ news₁ s₁ own ⟨h, tk, rfl⟩ hi hP ⟨rfl, hJ⟩ hoff _ _ _ _ F₁ N₁
    refine wpAny_mono (turn i v m₁ (own ++ news₁) h tk hi hP hJ (fun q hq => List.mem_append_right _ hq) F₁ N₁) (fun f s₂ p => ?_) fun _ _ e => e
    have fin : (∃ h' tk' m', s₂ = { ({ s with heap := h, toks := tk } : Shared) with heap := h', toks := tk' } ∧ Fr h₀ env.locals h' m' ∧ News h₀ env.locals h' (own ++ news₁) ∧ J (i + 1) m') →
        LoopStepU h₀ env.locals wr own (fun m₁ news₂ => news₂ = news₁ ∧ J (i + 1) m₁) { s with heap := h, toks := tk } .next s₂ := by
      rintro ⟨h', tk', m', e, F', N', hm⟩
      exact ⟨rfl, h', tk', m', news₁, e, F', N', hoff, rfl, hm⟩
    cases f with
    | ret v => exact .ret p
    | brk => exact .brk p
    | next => exact .next (fin p)
    | cont => exact .cont (fin p)
  · rintro h' tk m' news' F' N' _ ⟨rfl, hJ⟩
    exact done m' h' tk hJ F' N'

theorem iter_dict {D : Addr} {oD : Obj} {kvs : List (Int × Value)} {m₀ : Str → Option Value} (hh : A.handled = none) (hm : (D, oD) ∈ news) (lo : (D == sysModules) = false) (hD : oD.IsDictOf (intKind prog w) kvs)
    (F : Fr h₀ env.locals s.heap m₀) (N : News h₀ env.locals s.heap news) (J : Nat → (Str → Option Value) → Prop) (h0 : J 0 m₀)
    (turn : ∀ i k t v m₁ T h tk, kvs[i]? = some (k, v) → J i m₁ → (∀ q ∈ news, q ∈ T) → Fr h₀ env.locals h (fun y => if y = x then some (.int k t) else m₁ y) → News h₀ env.locals h T →
      wpAny (model prog w) A (execs body env) (TurnR h₀ env.locals (J (i + 1)) T { s with heap := h, toks := tk } Q) E { s with heap := h, toks := tk })
    (done : ∀ m₁ h tk, J kvs.length m₁ → Fr h₀ env.locals h m₁ → News h₀ env.locals h news → Q .next { s with heap := h, toks := tk }) :
    wpAny (model prog w) A (pyIter (.ref D)) (fun it s₂ => LoopAtV prog w A h₀ env x body Q E it s₂) E s := by
  have hdo : s.heap.DictOf (intKind prog w) D kvs := Heap.dictOf_iff.mpr ⟨oD, (N _ hm).1, hD⟩
  refine' elimG ?h9y1 ?k9y1
  case h9y1 =>
    intro G9 k9
    obtain ⟨ep, hat⟩ := hdo.dictAt
    revert hat
    revert ep
    exact k9
  intro ep hat
  have hlt : D < s.heap.objs.size := Heap.lt_size (N _ hm).1
  refine wpAny_pyIter_dict lo hat ?_
  refine iter_ro (Walks.dictKeys hh s.heap.objs.size D (Nat.ne_of_lt hlt) kvs ep) ?_ ?_ ?_ ⟨⟨_, Heap.get?_push_size _ rfl, rfl, rfl⟩, hat.push _⟩ (F.push _) (fun p hp => ⟨Heap.get?_push_of_some _ (N p hp).1, (N p hp).2⟩) J h0 ?_ ?_
  · intro hI
    rcases List.mem_cons.mp hI with e | e
    · exact absurd F.ns.lt (e ▸ Nat.lt_irrefl _)
    · exact (N _ hm).2.1 (List.mem_singleton.mp e).symm
  · intro b hb
    rw [List.mem_singleton.mp hb]
    exact next_is_new F
  · intro p hp hI
    exact absurd (Heap.lt_size (N p hp).1) ((List.mem_singleton.mp hI) ▸ Nat.lt_irrefl _)
  · rintro i v m₁ T h tk hi ⟨k, v', hk, hv⟩ hJ hsub F₁ N₁
    refine' elimG ?h9y3 ?k9y3
    case h9y3 =>
      intro G9 k9
      obtain ⟨t, e9x2⟩ := Value.isInt_shape hv
      revert e9x2
      revert t
      exact k9
    intro t e9x2
    subst e9x2
    exact turn i k t v' m₁ T h tk hk hJ hsub F₁ N₁
  · intro m₁ h tk hJ F₁ N₁
    exact done m₁ h tk hJ F₁ N₁

def Keep (stored : List Str) (m₀ m₁ : Str → Option Value) : Prop := ∀ y, stored.contains y = false → m₁ y = m₀ y
theorem keep_frame {x : Str} {v : Value} {stored : List Str} {m₀ m₁ : Str → Option Value} (h : Keep stored m₀ m₁) : (fun y => if y = x then some v else m₁ y) = fun y => if y = x then some v else if stored.contains y = true then m₁ y else m₀ y := by
  funext y
  by_cases hx : y = x
  · simp [hx]
  · simp only [if_neg hx]
    cases hc : stored.contains y with
    | true => simp
    | false => simp only [Bool.false_eq_true, if_false]; exact h y hc

theorem dict_loop {D : Addr} {oD : Obj} {kvs : List (Int × Value)} {m₀ : Str → Option Value} (stored : List Str) (Inv : Nat → (Str → Option Value) → Prop) (hh : A.handled = none) (hm : (D, oD) ∈ news) (lo : (D == sysModules) = false) (hD : oD.IsDictOf (intKind prog w) kvs)
    (F : Fr h₀ env.locals s.heap m₀) (N : News h₀ env.locals s.heap news) (h0 : Inv 0 m₀)
    (turn : ∀ i k t v m₁ T h tk, kvs[i]? = some (k, v) → Inv i m₁ → (∀ q ∈ news, q ∈ T) → Fr h₀ env.locals h (fun y => if y = x then some (.int k t) else if stored.contains y = true then m₁ y else m₀ y) → News h₀ env.locals h T →
      wpAny (model prog w) A (execs body env) (TurnR h₀ env.locals (fun m' => Keep stored m₀ m' ∧ Inv (i + 1) m') T { s with heap := h, toks := tk } Q) E { s with heap := h, toks := tk })
    (done : ∀ m₁ h tk, Keep stored m₀ m₁ → Inv kvs.length m₁ → Fr h₀ env.locals h (fun y => if stored.contains y = true then m₁ y else m₀ y) → News h₀ env.locals h news → Q .next { s with heap := h, toks := tk }) :
    wpAny (model prog w) A (pyIter (.ref D)) (fun it s₂ => LoopAtV prog w A h₀ env x body Q E it s₂) E s := by
  refine iter_dict hh hm lo hD F N (fun i m₁ => Keep stored m₀ m₁ ∧ Inv i m₁) ⟨fun _ _ => rfl, h0⟩ ?_ ?_
  · rintro i k t v m₁ T h tk hk ⟨hK, hI⟩ hsub F₁ N₁
    rw [keep_frame hK] at F₁
    exact turn i k t v m₁ T h tk hk hI hsub F₁ N₁
  · rintro m₁ h tk ⟨hK, hI⟩ F₁ N₁
    refine done m₁ h tk hK hI ?_ N₁
    have e : m₁ = fun y => if stored.contains y = true then m₁ y else m₀ y := by
      funext y
      cases hc : stored.contains y with
      | true => simp
      | false => simp only [Bool.false_eq_true, if_false]; exact hK y hc
    rw [← e]; exact F₁
end
theorem turnR_ret {h₀ : Heap} {L : Addr} {J : (Str → Option Value) → Prop} {T : List (Addr × Obj)} {s₁ s₂ : Shared} {Q : Flow → Shared → Prop} {v : Value} (h : Q (.ret v) s₂) : TurnR h₀ L J T s₁ Q (.ret v) s₂ := h
--M<
local macro_rules | `(tactic| walk_at "eval Name") => `(tactic| (k_here; (with_reducible show wpAny _ _ (eval (Expr.Name _ _) (envOf _ _ _ _ _)) _ _ _); k_dflt (refine' ld ?k1 ?k2 ?_; (case k1 => k_asm); (case k2 => first | exact rfl | assumption); k_whole)))
--M>
def remD : Option (Int × Int) → PyData
  | none => .none
  | some x => .tuple [.int x.1, .int x.2]
theorem eqv_rem (r1 r2 : Option (Int × Int)) : PyData.eqv (remD r1) (remD r2) = decide (r1 = r2) := by
  rcases r1 with _ | ⟨a, b⟩ <;> rcases r2 with _ | ⟨c, d⟩ <;> first | (simp [remD, PyData.eqv, PyData.eqvAll]; done) | (simp [remD, PyData.eqv, PyData.eqvAll]; rfl)
theorem shaped_rem (r : Option (Int × Int)) : SeqAt.shaped (remD r) = true := by
  rcases r with _ | ⟨a, b⟩ <;> simp [remD, SeqAt.shaped, PyData.canLay0, PyData.canLayAll0, PyData.depth, PyData.depthAll]
theorem RemR.mono {T T' : List (Addr × Obj)} (h : ∀ q ∈ T, q ∈ T') {v : Value} : ∀ {r : Option (Int × Int)}, RemR T v r → RemR T' v r
  | none, x => x
  | some _, ⟨t, a, b, e, hm⟩ => ⟨t, a, b, e, h _ hm⟩
theorem RowAt.mono {T T' : List (Addr × Obj)} (h : ∀ q ∈ T, q ∈ T') {r dx : Addr} {c : Row} : RowAt T r dx c → RowAt T' r dx c
  | ⟨a, h1, h2, h3, h4, t1, t2, t3, t4, u1, u2, u3, rv, n, hm, hr⟩ => ⟨h _ a, h1, h2, h3, h4, t1, t2, t3, t4, u1, u2, u3, rv, n, h _ hm, hr.mono h⟩

/-- A row with the places of its two objects. -/
structure CR extends Row where
  r : Addr
  dx : Addr

/-- The object at tb is a UdpTable whose rows are crs, in this order. -/
structure TabR (prog : Program) (w : World) (T : List (Addr × Obj)) (tb tdx D : Addr) (oD : Obj) (crs : List CR) : Prop where
  tab : (tb, instObj 176 tdx) ∈ T
  dic : ∃ hs tk n, (tdx, dictOf [⟨hs, .str (Str.ofString "rows") tk, .ref D⟩] n) ∈ T
  mem : (D, oD) ∈ T
  lo : (D == sysModules) = false
  is : oD.IsDictOf (intKind prog w) (crs.map fun c => (c.o, Value.ref c.r))
  row : ∀ c ∈ crs, RowAt T c.r c.dx c.toRow
  nd : (crs.map fun c => c.o).Nodup
  len : crs.length ≤ 64

theorem valueAt_crs {crs : List CR} (hn : (crs.map fun c => c.o).Nodup) {c : CR} (hc : c ∈ crs) : valueAt (crs.map fun c => (c.o, Value.ref c.r)) c.o = some (.ref c.r) := by
  induction crs with
  | nil => cases hc
  | cons d l ih =>
    rw [List.map_cons, List.nodup_cons] at hn
    unfold valueAt
    rw [List.map_cons, List.find?_cons]
    rcases List.mem_cons.mp hc with rfl | hc
    · simp
    · have hne : d.o ≠ c.o := fun e => hn.1 (List.mem_map.mpr ⟨c, hc, e.symm⟩)
      simp only [decide_eq_false hne]
      exact ih hn.2 hc
theorem valueAt_none {crs : List CR} {k : Int} (h : ∀ c ∈ crs, c.o ≠ k) : valueAt (crs.map fun c => (c.o, Value.ref c.r)) k = none := by
  unfold valueAt
  rw [Option.map_eq_none_iff, List.find?_eq_none]
  intro x hx
  obtain ⟨c, hc, rfl⟩ := List.mem_map.mp hx
  simpa using h c hc
theorem crs_at {crs : List CR} {i : Nat} {k : Int} {v : Value} (h : (crs.map fun c => (c.o, Value.ref c.r))[i]? = some (k, v)) : ∃ c, crs[i]? = some c ∧ c ∈ crs ∧ k = c.o ∧ v = .ref c.r := by
  rw [List.getElem?_map] at h
  rcases hc : crs[i]? with _ | c
  · rw [hc] at h; cases h
  · rw [hc] at h
    cases h
    exact ⟨c, rfl, List.mem_of_getElem? hc, rfl, rfl⟩

section
variable {prog : Program} {w : World} {A : Around} {E : Value → Shared → Prop} {s : Shared} {h₀ : Heap} {L l D : Addr} {news : List (Addr × Obj)} {oD : Obj} {kvs : List (Int × Value)} {k : Int} {t : Tok} {v : Value} {Q : Value → Shared → Prop}
theorem m_ditem {value slice : Expr} (N : News h₀ L s.heap news) (hm : (D, oD) ∈ news) (hD : oD.IsDictOf (intKind prog w) kvs) (hv : valueAt kvs k = some v) (h : Q v { s with toks := s.toks + 1 })
    (hs : subscripted slice false (.ref D) (.int k t) = operate [.ref D, .int k t] (getItem (.ref D) (.int k t)) := by with_unfolding_all rfl) : wpAny (model prog w) A (subscriptTail value slice (.ref D) (.int k t)) Q E s :=
  have hd : s.heap.DictOf (intKind prog w) D kvs := Heap.dictOf_iff.mpr ⟨oD, (N _ hm).1, hD⟩
  tail_any hd.mapOf.typeIs slot_dict_getitem.lookup (wpAny_getItem_of (intKind_is prog w k t) hd.mapOf hv h) hs
theorem m_din (N : News h₀ L s.heap news) (hm : (D, oD) ∈ news) (lo : (D == sysModules) = false) (hD : oD.IsDictOf (intKind prog w) kvs) (h : Q (.bool (valueAt kvs k).isSome) { s with toks := s.toks + 1 }) :
    wpAny (model prog w) A (compareOp .In (.int k t) (.ref D)) Q E s :=
  have hd : s.heap.DictOf (intKind prog w) D kvs := Heap.dictOf_iff.mpr ⟨oD, (N _ hm).1, hD⟩
  wpAny_in_of (intKind_is prog w k t) lo hd.mapOf h
theorem m_dnotin (N : News h₀ L s.heap news) (hm : (D, oD) ∈ news) (lo : (D == sysModules) = false) (hD : oD.IsDictOf (intKind prog w) kvs) (h : Q (.bool !(valueAt kvs k).isSome) { s with toks := s.toks + 1 }) :
    wpAny (model prog w) A (compareOp .NotIn (.int k t) (.ref D)) Q E s :=
  have hd : s.heap.DictOf (intKind prog w) D kvs := Heap.dictOf_iff.mpr ⟨oD, (N _ hm).1, hD⟩
  wpAny_notIn_of (intKind_is prog w k t) lo hd.mapOf h
theorem rem_reads (N : News h₀ L s.heap news) : ∀ {r : Option (Int × Int)} {v : Value}, RemR news v r → Reads s.heap v (remD r) []
  | none, _, h => by cases h; exact .none
  | some _, _, ⟨t, ta, tp, e, hm⟩ => by
    subst e
    exact .tuple (N _ hm).1 rfl rfl (.cons (.int _ _) (.cons (.int _ _) .nil))
theorem m_eqRem {v v' : Value} {r1 r2 : Option (Int × Int)} (N : News h₀ L s.heap news) (h1 : RemR news v r1) (h2 : RemR news v' r2) (hu : A.units + 64 < cLine) (h : Q (.bool (decide (r1 = r2))) s) : wpAny (model prog w) A (compareOp .Eq v v') Q E s :=
  eq_dataH (rem_reads N h1) (rem_reads N h2) (shaped_rem _) (shaped_rem _) hu (by rw [eqv_rem]; exact h)
end
theorem handed_rem {T : List (Addr × Obj)} {v : Value} : ∀ {r : Option (Int × Int)}, RemR T v r → handedIn v = true
  | none, h => by cases h; rfl
  | some _, ⟨_, _, _, e, _⟩ => by subst e; rfl
--M<
local macro_rules | `(tactic| k_handed) => `(tactic| exact handed_rem (by with_reducible assumption))
local macro_rules | `(tactic| walk_at "un9") => `(tactic| first | exact rm_un (by with_reducible assumption) rfl (by exact rfl) | (simp only [ktrTop, units_deeper, units_in1, Around.mark_units]; omega))
local macro_rules | `(tactic| walk_at "subscriptTail") => `(tactic| ((with_reducible show wpAny _ _ (subscriptTail _ _ (Value.ref _) (Value.int _ _)) _ _ _); k_dflt (refine' m_ditem ?k1 ?k2 ?k3 ?k4 ?_; (case k1 => k_asm); (case k2 => k_mem); (case k3 => with_reducible assumption); (case k4 => with_reducible assumption))))
local macro_rules | `(tactic| walk_at "compareOp Eq") => `(tactic| (k_dflt (refine' m_eqRem ?k1 ?k2 ?k3 ?k4 ?_; (case k1 => k_asm); (case k2 => with_reducible assumption); (case k3 => with_reducible assumption); (case k4 => walk_at "un9"))))
--M>
section
variable {prog : Program} {w : World} {p : Program} {loose : List Str} {mean : ExcName → Option Value} {mg mb : Str → Option Value}
  {dp un : Nat} {gd : Option (List Code)} {cn : Str} {cs : Scope} {fa : Addr} {ccd : Value} {cl : List (Str × Addr)} {outer : List Env} {A₀ : Around} {base h₀ : Heap} {L : Addr} {m : Str → Option Value} {s : Shared} {Q E : Value → Shared → Prop}
  {news : List (Addr × Obj)}

def thereC (x y ow : Int) (rm : Option (Int × Int)) (c : Row) : Bool := c.o ≠ ow ∧ c.a = x ∧ c.p = y ∧ c.rm = rm

set_option maxHeartbeats 8000000 in
theorem isthere_spec {tb tdx D : Addr} {oD : Obj} {crs : List CR} {x y ow : Int} {tx ty to : Tok} {rv : Value} {rm : Option (Int × Int)} (C : Cx w p loose mean mg mb A₀ base h₀ outer L s.heap m news) (R : Rm cs dp un 2) (hT : TabR prog w news tb tdx D oD crs) (hrm : RemR news rv rm)
  (hret : ∀ h' tk', Fr h₀ L h' m → News h₀ L h' news → Q (.bool (crs.any fun c => thereC x y ow rm c.toRow)) { s with heap := h', toks := tk' }) :
  wpAny (model prog w) (ktrTop dp un gd cn cs L fa ccd cl outer) (call (.ref 145) [.ref tb, .int x tx, .int y ty, rv, .int ow to]) Q E s := by
  have C' := C
  obtain ⟨B, F, X, N, T⟩ := C'
  have hRd := R.hd
  have hRu := R.hu
  refine' elimG ?h9y1 ?k9y1
  case h9y1 =>
    intro G9 k9
    obtain ⟨hm1, ⟨hs, tk, nn, hm2⟩, hm3, hlo, hD, hrow, hnd, hlen⟩ := id hT
    revert hlen
    revert hnd
    revert hrow
    revert hD
    revert hlo
    revert hm3
    revert hm2
    revert nn
    revert tk
    revert hs
    revert hm1
    exact k9
  intro hm1 hs tk nn hm2 hm3 hlo hD hrow hnd hlen
  try clear hT
  k_dflt (refine' enterK (binds := [(Str.ofString "self", .ref tb), (Str.ofString "address", .int x tx), (Str.ofString "port", .int y ty), (Str.ofString "remote", rv), (Str.ofString "owner", .int ow to)]) C R ?k6 ?k7 ?k9 ?kB ?_ ?c2 ?c3 ?c4 ?c5; (((case k6 => k_is); (case k7 => k_is); (case k9 => exact BindsTo.of_eq rfl); (case c5 => decide); (case kB => exact locs rfl); (case c2 => exact rfl); (case c3 => exact rfl); (case c4 => exact rfl); k_whole; intro g' L' h' FG' F' N' B' X' T'; (try dsimp only); (try k_fold))))
  (repeat' (first | (k_unfold; (try dsimp only)) | (k_end; wrow_close) | (with_reducible (refine turnR_ret ?_; (try dsimp only))) | (with_reducible (k_here; (with_reducible show wpAny _ _ (PySem.call (Value.ref 103) _ _) _ _ _); k_dflt (refine' isat_spec ?c1 ?c2 ?c3 ?_; (case c1 => walk_at "cx9"); (case c2 => walk_at "rm9"); (case c3 => (refine' RowAt.mono ?s9 ?r9; (case r9 => with_reducible assumption); (case s9 => walk_at "sub9")))); intro kyh' kytk' kyF' kyN'; (try k_fold))) | walk1 | (dsimp only; walk1) | (leave1; try dsimp only)))
  refine dict_loop [Str.ofString "other", Str.ofString "row"] (fun i _ => ∀ c ∈ crs.take i, thereC x y ow rm c.toRow = false) rfl hm3 hlo hD (by k_asm) (by k_asm) (fun c hc => nomatch hc) ?_ ?_
  · intro i k t v m₁ T h tk hk hI hsub F₁ N₁
    refine' elimG ?h9y4 ?k9y4
    case h9y4 =>
      intro G9 k9
      obtain ⟨c, hci, hcm, e9x2, e9x3⟩ := crs_at hk
      revert e9x3
      revert e9x2
      revert hcm
      revert hci
      revert c
      exact k9
    intro c hci hcm e9x2 e9x3
    subst e9x2
    subst e9x3
    have hva := valueAt_crs hnd hcm
    have hrow' := (hrow c hcm).mono hsub
    have hrm' := hrm.mono hsub
    have hm3' := hsub _ hm3
    have hm2' := hsub _ hm2
    have hm1' := hsub _ hm1
    refine' elimG ?h9y5 ?k9y5
    case h9y5 =>
      intro G9 k9
      obtain ⟨hq1, h1, h2, h3, h4, t1, t2, t3, t4, u1, u2, u3, rv', n', hq2, hrem⟩ := id hrow'
      revert hrem
      revert hq2
      revert n'
      revert rv'
      revert u3
      revert u2
      revert u1
      revert t4
      revert t3
      revert t2
      revert t1
      revert h4
      revert h3
      revert h2
      revert h1
      revert hq1
      exact k9
    intro hq1 h1 h2 h3 h4 t1 t2 t3 t4 u1 u2 u3 rv' n' hq2 hrem
    (try k_fold)
    (repeat' (first | (k_unfold; (try dsimp only)) | (k_end; wrow_close) | (with_reducible (refine turnR_ret ?_; (try dsimp only))) | (with_reducible (k_here; (with_reducible show wpAny _ _ (PySem.call (Value.ref 103) _ _) _ _ _); k_dflt (refine' isat_spec ?c1 ?c2 ?c3 ?_; (case c1 => walk_at "cx9"); (case c2 => walk_at "rm9"); (case c3 => (refine' RowAt.mono ?s9 ?r9; (case r9 => with_reducible assumption); (case s9 => walk_at "sub9")))); intro kyh' kytk' kyF' kyN'; (try k_fold))) | walk1 | (dsimp only; walk1) | (leave1; try dsimp only)))
    all_goals try (
      refine ⟨_, _, _, rfl, (by k_asm), (by k_asm), (by ((intro kyy kyhy; simp only [List.contains_cons, List.contains_nil, Bool.or_false, Bool.or_eq_false_iff, beq_eq_false_iff_ne, ne_eq] at kyhy; simp [kyhy]))), ?_⟩
      intro c' hc'
      rw [List.take_add_one, hci] at hc'
      rcases List.mem_append.mp hc' with hc' | hc'
      · exact hI c' hc'
      · obtain rfl : c' = c := by simpa using hc'
        simp_all [thereC]
        done)
    all_goals try (
      refine cb_retB (fun _ => hret) ?_ (by k_asm) (by walk_at "news9")
      symm
      rw [List.any_eq_true]
      refine ⟨c, hcm, ?_⟩
      simp_all [thereC]
      done)
    all_goals trace_state
    all_goals walk_report
  · intro m₁ h tk hK hI F₁ N₁
    (try k_fold)
    (repeat' (first | (k_unfold; (try dsimp only)) | (k_end; wrow_close) | (with_reducible (refine turnR_ret ?_; (try dsimp only))) | (with_reducible (k_here; (with_reducible show wpAny _ _ (PySem.call (Value.ref 103) _ _) _ _ _); k_dflt (refine' isat_spec ?c1 ?c2 ?c3 ?_; (case c1 => walk_at "cx9"); (case c2 => walk_at "rm9"); (case c3 => (refine' RowAt.mono ?s9 ?r9; (case r9 => with_reducible assumption); (case s9 => walk_at "sub9")))); intro kyh' kytk' kyF' kyN'; (try k_fold))) | walk1 | (dsimp only; walk1) | (leave1; try dsimp only)))
    all_goals (
      refine cb_retB (fun _ => hret) ?_ (by k_asm) (by k_asm)
      symm
      rw [List.any_eq_false]
      rw [List.length_map, List.take_length] at hI
      simpa using hI)
end
--M<
--M>
def OptI (v : Value) : Option Int → Prop
  | none => v = .none
  | some k => ∃ t, v = .int k t
def findStep (t p : Int) (rem : Int × Int) (b : Int × Option Int) (c : Row) : Int × Option Int :=
  if fitsV c t p rem > b.1 then (fitsV c t p rem, some c.o) else b
def findF (t p : Int) (rem : Int × Int) (rows : List Row) : Int × Option Int := rows.foldl (findStep t p rem) (0, none)

section
variable {prog : Program} {w : World} {p : Program} {loose : List Str} {mean : ExcName → Option Value} {mg mb : Str → Option Value}
  {dp un : Nat} {gd : Option (List Code)} {cn : Str} {cs : Scope} {fa : Addr} {ccd : Value} {cl : List (Str × Addr)} {outer : List Env} {A₀ : Around} {base h₀ : Heap} {L : Addr} {m : Str → Option Value} {s : Shared} {Q E : Value → Shared → Prop}
  {news : List (Addr × Obj)}

set_option maxHeartbeats 8000000 in
theorem find_spec {tb tdx D : Addr} {oD : Obj} {crs : List CR} {x y a b : Int} {tx ty ta tb' : Tok} (C : Cx w p loose mean mg mb A₀ base h₀ outer L s.heap m news) (R : Rm cs dp un 2) (hT : TabR prog w news tb tdx D oD crs)
  (hret : ∀ v h' tk', OptI v (findF x y (a, b) (crs.map CR.toRow)).2 → Fr h₀ L h' m → News h₀ L h' news → Q v { s with heap := h', toks := tk' }) :
  wpAny (model prog w) (ktrTop dp un gd cn cs L fa ccd cl outer) (call (.ref 173) [.ref tb, .int x tx, .int y ty, .int a ta, .int b tb']) Q E s := by
  have C' := C
  obtain ⟨B, F, X, N, T⟩ := C'
  have hRd := R.hd
  have hRu := R.hu
  refine' elimG ?h9y1 ?k9y1
  case h9y1 =>
    intro G9 k9
    obtain ⟨hm1, ⟨hs, tk, nn, hm2⟩, hm3, hlo, hD, hrow, hnd, hlen⟩ := id hT
    revert hlen
    revert hnd
    revert hrow
    revert hD
    revert hlo
    revert hm3
    revert hm2
    revert nn
    revert tk
    revert hs
    revert hm1
    exact k9
  intro hm1 hs tk nn hm2 hm3 hlo hD hrow hnd hlen
  try clear hT
  k_dflt (refine' enterK (binds := [(Str.ofString "self", .ref tb), (Str.ofString "target", .int x tx), (Str.ofString "target_port", .int y ty), (Str.ofString "source", .int a ta), (Str.ofString "source_port", .int b tb')]) C R ?k6 ?k7 ?k9 ?kB ?_ ?c2 ?c3 ?c4 ?c5; (((case k6 => k_is); (case k7 => k_is); (case k9 => exact BindsTo.of_eq rfl); (case c5 => decide); (case kB => exact locs rfl); (case c2 => exact rfl); (case c3 => exact rfl); (case c4 => exact rfl); k_whole; intro g' L' h' FG' F' N' B' X' T'; (try dsimp only); (try k_fold))))
  (repeat' (first | (k_unfold; (try dsimp only)) | (k_end; wrow_close) | (with_reducible (k_here; (with_reducible show wpAny _ _ (PySem.call (Value.ref 110) _ _) _ _ _); k_dflt (refine' fits_spec ?c1 ?c2 ?c3 ?c4 ?_; (case c1 => walk_at "cx9"); (case c2 => walk_at "rm9"); (case c3 => (refine' RowAt.mono ?s9 ?r9; (case r9 => with_reducible assumption); (case s9 => walk_at "sub9"))); (case c4 => k_mem)); intro kyt' kyh' kytk' kyF' kyN'; (try k_fold))) | walk1 | (dsimp only; walk1) | (leave1; try dsimp only)))
  refine dict_loop [Str.ofString "owner", Str.ofString "exact", Str.ofString "best", Str.ofString "found"] (fun i m₁ => ∃ tb9 fv, m₁ (Str.ofString "best") = some (.int (findF x y (a, b) ((crs.take i).map CR.toRow)).1 tb9) ∧ m₁ (Str.ofString "found") = some fv ∧ OptI fv (findF x y (a, b) ((crs.take i).map CR.toRow)).2) rfl hm3 hlo hD (by k_asm) (by k_asm) ⟨_, _, rfl, rfl, rfl⟩ ?_ ?_
  · intro i k t v m₁ T h tk hk hI hsub F₁ N₁
    refine' elimG ?h9y4 ?k9y4
    case h9y4 =>
      intro G9 k9
      obtain ⟨c, hci, hcm, e9x2, e9x3⟩ := crs_at hk
      revert e9x3
      revert e9x2
      revert hcm
      revert hci
      revert c
      exact k9
    intro c hci hcm e9x2 e9x3
    subst e9x2
    subst e9x3
    have hva := valueAt_crs hnd hcm
    have hrow' := (hrow c hcm).mono hsub
    have hm3' := hsub _ hm3
    have hm2' := hsub _ hm2
    have hm1' := hsub _ hm1
    refine' elimG ?h9y5 ?k9y5
    case h9y5 =>
      intro G9 k9
      obtain ⟨hq1, h1, h2, h3, h4, t1, t2, t3, t4, u1, u2, u3, rv', n', hq2, hrem⟩ := id hrow'
      revert hrem
      revert hq2
      revert n'
      revert rv'
      revert u3
      revert u2
      revert u1
      revert t4
      revert t3
      revert t2
      revert t1
      revert h4
      revert h3
      revert h2
      revert h1
      revert hq1
      exact k9
    intro hq1 h1 h2 h3 h4 t1 t2 t3 t4 u1 u2 u3 rv' n' hq2 hrem
    refine' elimG ?h9y6 ?k9y6
    case h9y6 =>
      intro G9 k9
      obtain ⟨tb9, fv, hb9, hf9, ho9⟩ := id hI
      revert ho9
      revert hf9
      revert hb9
      revert fv
      revert tb9
      exact k9
    intro tb9 fv hb9 hf9 ho9
    try clear hI
    have hst : findF x y (a, b) ((crs.take (i + 1)).map CR.toRow) = findStep x y (a, b) (findF x y (a, b) ((crs.take i).map CR.toRow)) c.toRow := by
      rw [List.take_add_one, hci]; simp [findF]
    (try k_fold)
    (repeat' (first | (k_unfold; (try dsimp only)) | (k_end; wrow_close) | (with_reducible (k_here; (with_reducible show wpAny _ _ (PySem.call (Value.ref 110) _ _) _ _ _); k_dflt (refine' fits_spec ?c1 ?c2 ?c3 ?c4 ?_; (case c1 => walk_at "cx9"); (case c2 => walk_at "rm9"); (case c3 => (refine' RowAt.mono ?s9 ?r9; (case r9 => with_reducible assumption); (case s9 => walk_at "sub9"))); (case c4 => k_mem)); intro kyt' kyh' kytk' kyF' kyN'; (try k_fold))) | walk1 | (dsimp only; walk1) | (leave1; try dsimp only)))
    all_goals (
      refine ⟨_, _, _, rfl, (by k_asm), (by walk_at "news9"), (by ((intro kyy kyhy; simp only [List.contains_cons, List.contains_nil, Bool.or_false, Bool.or_eq_false_iff, beq_eq_false_iff_ne, ne_eq] at kyhy; simp [kyhy]))), ?_⟩
      dsimp only
      rw [hst]
      unfold findStep
      by_cases hc : fitsV c.toRow x y (a, b) > (findF x y (a, b) (List.map CR.toRow (List.take i crs))).1
      · rw [if_pos hc]
        first | (exfalso; omega) | exact ⟨_, _, rfl, rfl, ⟨_, rfl⟩⟩
      · rw [if_neg hc]
        first | (exfalso; omega) | exact ⟨_, _, hb9, hf9, ho9⟩)
  · intro m₁ h tk hK hI F₁ N₁
    refine' elimG ?h9y7 ?k9y7
    case h9y7 =>
      intro G9 k9
      obtain ⟨tb9, fv, hb9, hf9, ho9⟩ := id hI
      revert ho9
      revert hf9
      revert hb9
      revert fv
      revert tb9
      exact k9
    intro tb9 fv hb9 hf9 ho9
    try clear hI
    rw [List.length_map, List.take_length] at ho9
    (try k_fold)
    (repeat' (first | (k_unfold; (try dsimp only)) | (k_end; wrow_close) | (with_reducible (k_here; (with_reducible show wpAny _ _ (PySem.call (Value.ref 110) _ _) _ _ _); k_dflt (refine' fits_spec ?c1 ?c2 ?c3 ?c4 ?_; (case c1 => walk_at "cx9"); (case c2 => walk_at "rm9"); (case c3 => (refine' RowAt.mono ?s9 ?r9; (case r9 => with_reducible assumption); (case s9 => walk_at "sub9"))); (case c4 => k_mem)); intro kyt' kyh' kytk' kyF' kyN'; (try k_fold))) | walk1 | (dsimp only; walk1) | (leave1; try dsimp only)))
    all_goals exact hret _ _ _ ho9 (by k_asm) (by k_asm)
end
abbrev bmS : List Value := [.ref 31, .type "Exception", .type "BaseException", .type "object"]
/-- An exception as its __new__ and its own __init__ leave it. -/
abbrev excO (C t : Addr) (d : Option Addr) : Obj := { cls := .ref C, dict := d, data := .fields #[.ref t, .none, .none, .none, .bool false, .none] }
/-- C is one of the text's exceptions below StackError. -/
def IsExc (h : Heap) (C : Addr) : Prop := ∃ nm q N bs sn sub ab col dd k0 k1 k2 k3 k5, h.get? C = some (excClassObj nm q C N bs bmS true sn sub ab col dd k0 k1 k2 k3 k5 "Exception.__new__")

section
variable {M : Model} {A : Around} {E : Value → Shared → Prop} {h : Heap} {g : Array GenState} {d : Drawn} {t : Nat} {os : OsState}
variable {nm q : Str} {C N : Addr} {bs : List Value} {hdct : Bool} {sn : List Str} {sub : List Value} {ab : Bool} {col : Option Bool} {dd : Option Addr} {k0 k1 k2 k3 k5 : Option Value}

theorem x_check_new {rest : List Value} {Q : Unit → Shared → Prop} (hC : h.get? C = some (excClassObj nm q C N bs bmS hdct sn sub ab col dd k0 k1 k2 k3 k5 "Exception.__new__"))
    (hq : Q () ⟨h, g, d, t, os⟩) : wpAny M A (checkBuiltinCall "Exception.__new__" ⟨.ref C :: rest, []⟩) Q E ⟨h, g, d, t, os⟩ := by
  have F := PySem.F.excBase_Exception
  have hcont : (Value.ref C :: bmS).contains (.type "Exception") = true := by rw [List.contains_cons, show bmS.contains (.type "Exception") = true by decide, Bool.or_true]
  have hstar := F.noStar
  simp only [checkBuiltinCall, F.newKind, F.newSplit, F.newRow]
  repeat (first | refine wpAny_loadPart_at hC ?_ | (refine wpAny_isSubtype_exc hC ?_; rw [hcont]) | refine wpAny_staticBase_exc hC ?_ | refine wpAny_madeBy_exc hC ?_ | simp only [bne_self_eq_false, Bool.false_eq_true, if_false] | wp_step)
  exact hq
end

section
variable {prog : Program} {w : World} {A : Around} {R : Result → Shared → Prop} {E : Value → Shared → Prop} {h : Heap} {g : Array GenState} {d : Drawn} {t : Nat} {os : OsState}
variable {nm q : Str} {C N : Addr} {bs : List Value} {hdct : Bool} {sn : List Str} {sub : List Value} {ab : Bool} {col : Option Bool} {dd : Option Addr} {k0 k1 k2 k3 k5 : Option Value}

theorem x_exc_new {rest : List Value} (hC : h.get? C = some (excClassObj nm q C N bs bmS hdct sn sub ab col dd k0 k1 k2 k3 k5 "Exception.__new__"))
    (hq : R (.ok (.ret (.ref (h.objs.size + 1)))) ⟨(h.push { cls := .type "tuple", data := .seq rest.toArray }).push (excO C h.objs.size none), g, d, t, os⟩) (hrest : rest.length ≤ sizeLine) :
    codeAny (model prog w) A (.builtin "Exception.__new__" ⟨.ref C :: rest, []⟩) R ⟨h, g, d, t, os⟩ := by
  have F := PySem.F.excBase_Exception
  have hends := F.ends
  have hcB : (Value.ref C :: bmS).contains (.type "Exception") = true := by rw [List.contains_cons, show bmS.contains (.type "Exception") = true by decide, Bool.or_true]
  have hcA : (Value.ref C :: bmS).contains (.type "AttributeError") = false := by rw [List.contains_cons, show bmS.contains (.type "AttributeError") = false by decide]; rfl
  have hcN : (Value.ref C :: bmS).contains (.type "NameError") = false := by rw [List.contains_cons, show bmS.contains (.type "NameError") = false by decide]; rfl
  refine codeAny_builtinAt F.entry ?_
  unfold Builtin.«BaseException.__new__»
  refine PySem.wpAt_bind ?_
  show PySem.wpAt _ _ _ (stack >>= _) _ _ _
  refine PySem.wpAt_bind (PySem.wpAt_stack fun p below => PySem.wpAt_of_wpAny ?_)
  wp_walk
  refine PySem.wpAt_of_wpAny ?_
  rw [F.owner]
  repeat (first | with_reducible refine wpAny_madeHere_exc F.canon hC ?_ | with_reducible refine wpAny_loadPart_at hC ?_ | (with_reducible refine wpAny_isSubtype_exc hC ?_; first | rw [hcB] | rw [hcA] | rw [hcN]) | wp_step)
  show R _ _
  rw [Heap.size_push]
  exact hq

theorem x_type_call {K : Frag} {rest : List Value} {fI : Addr} {Q : Fin → Shared → Prop} (X : K.In h)
    (hC : h.get? C = some (excClassObj nm q C N bs bmS hdct sn sub ab col dd k0 k1 k2 k3 k5 "Exception.__new__")) (hi : findIn K (.ref C) "__init__" = some (some (.ref fI))) (hf : typeIn K (.ref fI) = some (.type "function"))
    (hq : wpAny (model prog w) A (call (.ref fI) (.ref (h.objs.size + 1) :: rest)) (fun r s' => r = .none ∧ Q (.done (.ret (.ref (h.objs.size + 1)))) s') E
      ⟨(h.push { cls := .type "tuple", data := .seq rest.toArray }).push (excO C h.objs.size none), g, d, t, os⟩) (hrest : rest.length ≤ sizeLine) :
    wpAny (model prog w) A (Builtin.«type.__call__» ⟨.ref C :: rest, []⟩) Q E ⟨h, g, d, t, os⟩ := by
  have F := PySem.F.excBase_Exception
  repeat (first | with_reducible refine wpAny_loadPart_at hC ?_ | with_reducible refine wpAny_madeBy_exc hC ?_ | wp_step)
  refine codeAny_call_builtin_code (Code.quiet_builtin _ F.quiet) (x_check_new hC ?_)
  refine x_exc_new hC ?_ hrest
  show wpAny _ _ _ _ _ _
  have hk : ∀ b o, h.get? b = some o → ((h.push { cls := .type "tuple", data := .seq rest.toArray }).push (excO C h.objs.size none)).get? b = some o := fun b o e => Heap.get?_push_of_some _ (Heap.get?_push_of_some _ e)
  have hC₁ := hk _ _ hC
  have X₁ : K.In ((h.push { cls := .type "tuple", data := .seq rest.toArray }).push (excO C h.objs.size none)) := X.keeps hk
  have hget : ((h.push { cls := .type "tuple", data := .seq rest.toArray }).push (excO C h.objs.size none)).get? (h.objs.size + 1) = some (excO C h.objs.size none) := by heap_get
  have hcC : (Value.ref C :: bmS).contains (.ref C) = true := by simp
  unfold isInstance
  repeat (first | with_reducible refine wpAny_loadPart_at hget ?_ | (with_reducible refine wpAny_isSubtype_exc hC₁ ?_; rw [hcC]) | wp_step)
  show wpAny _ _ (typeLookup (.ref C) _) _ _ _
  refine (looks_findIn X₁ hi).here ?_
  refine wpAny_holding (wpAny_bind ?_)
  unfold bindSpecial
  refine wpAny_bind ((looks_typeIn X₁ hf).here ?_)
  rw [if_pos (by decide)]
  refine wpAny_pure (wpAny_bind (wpAny_mono hq (fun r s' hr => ?_) fun _ _ x => x))
  refine' elimG ?h9y2 ?k9y2
  case h9y2 =>
    intro G9 k9
    obtain ⟨e9x1, hQ⟩ := id hr
    revert hQ
    revert e9x1
    exact k9
  intro e9x1 hQ
  subst e9x1
  try clear hr
  wp_walk
  exact hQ

theorem x_call {K : Frag} {rest : List Value} {fI : Addr} {Q : Value → Shared → Prop} (X : K.In h)
    (hC : h.get? C = some (excClassObj nm q C N bs bmS hdct sn sub ab col dd k0 k1 k2 k3 k5 "Exception.__new__")) (hi : findIn K (.ref C) "__init__" = some (some (.ref fI))) (hf : typeIn K (.ref fI) = some (.type "function"))
    (hq : wpAny (model prog w) (A.under (.builtin "type.__call__" ⟨.ref C :: rest, []⟩)) (call (.ref fI) (.ref (h.objs.size + 1) :: rest)) (fun r s' => r = .none ∧ Q (.ref (h.objs.size + 1)) s') E
      ⟨(h.push { cls := .type "tuple", data := .seq rest.toArray }).push (excO C h.objs.size none), g, d, t, os⟩) (hrest : rest.length ≤ sizeLine) :
    wpAny (model prog w) A (call (.ref C) rest) Q E ⟨h, g, d, t, os⟩ := by
  have f1 := tc_lookup
  have f2 := tc_bind (.ref C)
  have hT : (⟨h, g, d, t, os⟩ : Shared).TypeIs (.ref C) "type" := ⟨_, hC, rfl⟩
  refine wpAny_call (codeAny_of_tree ?_)
  show wpAny _ _ (callAny (.ref C) _) _ _ _
  repeat (any_goals (first | assumption | with_reducible refine wpAny_loadPart_at hC ?_ | wp_step))
  refine ⟨rfl, ?_⟩
  refine codeAny_call_builtin_at (Code.quiet_builtin _ (by decide +kernel)) entry_typeCall (wpAny_check_type_call_sub hC (x_type_call X hC hi hf hq hrest))
end
theorem x_refuse (self : Value) (C : Addr) : refuseLoop self "__setattr__" (.ref C :: bmS) = pure () := by
  rw [refuseLoop_ref, refuseLoop_ref]
  exact PySem.F.store_Exception.passes self

section
variable {prog : Program} {w : World} {A : Around} {R : Result → Shared → Prop} {s : Shared} {K : Frag} {e C t : Addr} {cd : ClassData} {name : Str} {tk : Tok} {v : Value}
theorem x_osa (X : K.In s.heap) (hx : s.heap.get? e = some (excO C t none)) (hcd : clsIn K C = some cd) (hmro : cd.mro = .ref C :: bmS) (hdct : cd.hasDict = true) (hm : mroIn K C (.type "object") = some true) (hfind : findIn K (.ref C) name = some none)
    (h : ∀ h' tk', h'.get? e = some (excO C t (some s.heap.objs.size)) → (∀ b o, b ≠ e → s.heap.get? b = some o → h'.get? b = some o) → R (.ok (.ret .none)) { s with heap := h', toks := tk' }) :
    codeAny (model prog w) A (.call (.builtin "object.__setattr__") ⟨[.ref e, .str name tk, v], []⟩) R s := by
  have SF := PySem.F.store_object
  have I : InstAt s.heap e (excO C t none) C none := ⟨hx, rfl, rfl, trivial⟩
  have sub : Looks (model prog w) s.heap (isInstance (.ref e) (.type "object")) true := I.type.andThen (looks_mroIn X hm)
  refine codeAny_call_builtin SF.slot.plain SF.entry (@check_slot (model prog w) _ _ s "object.__setattr__" "object" "__setattr__" (.ref e) [.str name tk, v] [] _ SF.kind SF.split sub (SF.args (.ref e) (.str name tk) v) ?_)
  have hmr : Looks (model prog w) s.heap (mroOf (.ref C)) cd.mro := (looks_clsIn X hcd).andThen .now
  rw [osa_eq, refuse_eq]
  refine wpAny_bind (wpAny_bind (I.type.here (wpAny_bind (hmr.here ?_))))
  rw [hmro, x_refuse]
  refine wpAny_pure (wpAny_bind (I.type.here (wpAny_bind ((looks_findIn X hfind).here (wpAny_bind (wpAny_pure ?_))))))
  obtain ⟨hp, g, d, tt, os⟩ := s
  refine wpAny_bind (wpAny_pure (wpAny_bind (wpAny_bind (wpAny_loadPart hx (wpAny_bind ((looks_clsIn X hcd).here ?_))))))
  rw [hdct]
  dsimp only at hx h ⊢
  have hx₁ : (hp.push { cls := .type "dict", data := .dict #[] }).get? e = some (excO C t none) := Heap.get?_push_of_some _ hx
  have hxs : e ≠ hp.objs.size := Nat.ne_of_lt (Heap.lt_size hx)
  refine wpAny_bind (wpAny_alloc' ?_)
  refine wpAny_bind (wpAny_update' hx₁ ?_)
  refine wpAny_pure ?_
  have hgd : ((hp.push { cls := .type "dict", data := .dict #[] }).update e fun o => { cls := o.cls, dict := some hp.objs.size, data := o.data, slots := o.slots }).get? hp.objs.size
      = some { cls := .type "dict", data := .dict #[] } :=
    (Heap.get?_update_ne _ _ _ _ hxs.symm).trans (Heap.get?_push_at rfl rfl)
  have hnd : ((hp.push { cls := .type "dict", data := .dict #[] }).update e fun o => { cls := o.cls, dict := some hp.objs.size, data := o.data, slots := o.slots }).Ns hp.objs.size (fun _ => none) :=
    ⟨_, #[], _, hgd, rfl, fun e he => absurd he (by simp), fun _ => rfl⟩
  show wpAny _ _ (Builtin.ObjectAttr.storeInDict hp.objs.size (.str name tk) name v) _ _ _
  unfold Builtin.ObjectAttr.storeInDict Builtin.ObjectAttr.newKeyGuard
  refine wpAny_bind (wpAny_pure (wpAny_bind (wpAny_nsSet1 (Heap.Ns1.of_empty hnd) fun h' hn' hs => ?_)))
  refine' elimG ?h9y1 ?k9y1
  case h9y1 =>
    intro G9 k9
    obtain ⟨oD, esD, epD, hoD, hdD, hcD⟩ := hn'.count (Within.cons name v Within.nil)
    revert hcD
    revert hdD
    revert hoD
    revert epD
    revert esD
    revert oD
    exact k9
  intro oD esD epD hoD hdD hcD
  refine wpAny_bind (wpAny_lookBehind hoD (by rw [hdD]; exact pastItsLine_dict (Nat.le_trans hcD (by rw [List.length_cons, List.length_nil, sizeLine_eq]; omega))) ?_)
  refine wpAny_pure (h h' _ ((hs.2 e hxs).trans (Heap.get?_update_self _ hx₁ rfl)) fun b o hbe hb => ?_)
  exact (hs.2 b (Nat.ne_of_lt (Heap.lt_size hb))).trans ((Heap.get?_update_ne _ _ _ _ hbe).trans (Heap.get?_push_of_some _ hb))

theorem x_set {E : Value → Shared → Prop} {Q : Unit → Shared → Prop} (X : K.In s.heap) (hx : s.heap.get? e = some (excO C t none)) (hs : findIn K (.ref C) "__setattr__" = some (some (.builtin "object.__setattr__"))) (hcd : clsIn K C = some cd) (hmro : cd.mro = .ref C :: bmS) (hdct : cd.hasDict = true) (hm : mroIn K C (.type "object") = some true) (hfind : findIn K (.ref C) name = some none)
    (h : ∀ h' tk', h'.get? e = some (excO C t (some s.heap.objs.size)) → (∀ b o, b ≠ e → s.heap.get? b = some o → h'.get? b = some o) → Q () { s with heap := h', toks := tk' }) :
    wpAny (model prog w) A (setAttr (.ref e) name v) Q E s := by
  have I : InstAt s.heap e (excO C t none) C none := ⟨hx, rfl, rfl, trivial⟩
  refine set_plain X I hs ?_
  exact x_osa (s := { s with toks := s.toks + 1 }) X hx hcd hmro hdct hm hfind fun h' tk' a b => h h' tk' a b
end
theorem under_create (dp un : Nat) (gd : Option (List Code)) (cn : Str) (cs : Scope) (L a : Addr) (ccd : Value) (cl : List (Str × Addr)) (outer : List Env) (C : Addr) (rest : List Value) :
    (ktrTop dp un gd cn cs L a ccd cl outer).under (.builtin "type.__call__" ⟨.ref C :: rest, []⟩) = ktrTop (dp + 1) (un + 1) gd cn cs L a ccd cl outer := by
  have hw : (Code.builtin "type.__call__" ⟨.ref C :: rest, []⟩).weight = 1 := by rfl
  have hg : (Code.builtin "type.__call__" ⟨.ref C :: rest, []⟩).guards = [] := by rfl
  have he : (Code.builtin "type.__call__" ⟨.ref C :: rest, []⟩).envs = [] := by rfl
  unfold Around.under
  rw [hw, hg, he]
  rfl

/-- C is one of the text's exceptions, as the written part knows it. -/
structure ExcK (w : World) (C : Addr) : Prop where
  obj : ∃ nm q N bs sn sub ab col dd k0 k1 k2 k3 k5, (hd.heap_1 w.params).lookup C = some (excClassObj nm q C N bs bmS true sn sub ab col dd k0 k1 k2 k3 k5 "Exception.__new__")
  init : findIn (hd.heap_1 w.params) (.ref C) "__init__" = some (some (.ref 28))
  sa : findIn (hd.heap_1 w.params) (.ref C) "__setattr__" = some (some (.builtin "object.__setattr__"))
  cd : ∃ cd, clsIn (hd.heap_1 w.params) C = some cd ∧ cd.mro = .ref C :: bmS ∧ cd.hasDict = true
  mo : mroIn (hd.heap_1 w.params) C (.type "object") = some true
  msg : findIn (hd.heap_1 w.params) (.ref C) "message" = some none
  kts : ktsIn (hd.heap_1 w.params) C "BaseException" = true
  fn : typeIn (hd.heap_1 w.params) (.ref 28) = some (.type "function")
theorem exc44 (w : World) : ExcK w 44 := ⟨⟨_, _, _, _, _, _, _, _, _, _, _, _, _, _, by k_is⟩, by k_is, by k_is, ⟨_, by k_is, rfl, rfl⟩, by k_is, by k_is, by kernel_rfl, by k_is⟩
theorem exc68 (w : World) : ExcK w 68 := ⟨⟨_, _, _, _, _, _, _, _, _, _, _, _, _, _, by k_is⟩, by k_is, by k_is, ⟨_, by k_is, rfl, rfl⟩, by k_is, by k_is, by kernel_rfl, by k_is⟩
theorem exc80 (w : World) : ExcK w 80 := ⟨⟨_, _, _, _, _, _, _, _, _, _, _, _, _, _, by k_is⟩, by k_is, by k_is, ⟨_, by k_is, rfl, rfl⟩, by k_is, by k_is, by kernel_rfl, by k_is⟩

section
variable {prog : Program} {w : World} {p : Program} {loose : List Str} {mean : ExcName → Option Value} {mg mb : Str → Option Value}
  {dp un : Nat} {gd : Option (List Code)} {cn : Str} {cs : Scope} {fa : Addr} {ccd : Value} {cl : List (Str × Addr)} {outer : List Env} {A A₀ : Around} {base h₀ : Heap} {L : Addr} {m : Str → Option Value} {s : Shared} {Q E : Value → Shared → Prop}
  {news : List (Addr × Obj)} {e C t : Addr}

theorem x_setN {Qu : Unit → Shared → Prop} {v : Value} (EK : ExcK w C) (F : Fr h₀ L s.heap m) (X : (hd.heap_1 w.params).In h₀) (N : News h₀ L s.heap ((e, excO C t none) :: news)) (hne : ∀ q ∈ news, q.1 ≠ e)
    (h : ∀ h' d tk', Fr h₀ L h' m → News h₀ L h' ((e, excO C t (some d)) :: news) → Qu () { s with heap := h', toks := tk' }) : wpAny (model prog w) A (setAttr (.ref e) (Str.ofString "message") v) Qu E s := by
  refine' elimG ?h9y1 ?k9y1
  case h9y1 =>
    intro G9 k9
    obtain ⟨cd, h1, h2, h3⟩ := EK.cd
    revert h3
    revert h2
    revert h1
    revert cd
    exact k9
  intro cd h1 h2 h3
  have z := N _ (List.mem_cons_self)
  refine x_set (X.keeps F.keep) z.1 EK.sa h1 h2 h3 EK.mo EK.msg fun h' tk' a b => h h' s.heap.objs.size tk' ⟨F.ns.at' fun o => b L o (Ne.symm z.2.1), fun b' o' e' => b b' o' (fun q => ?_) (F.keep b' o' e'), F.above⟩ fun q hq => ?_
  · subst q; rw [z.2.2] at e'; cases e'
  · rcases List.mem_cons.mp hq with rfl | hq
    · exact ⟨a, z.2⟩
    · have y := N _ (List.mem_cons_of_mem _ hq)
      exact ⟨b _ _ (hne q hq) y.1, y.2⟩
end
--M<
--M>
section
variable {prog : Program} {w : World} {p : Program} {loose : List Str} {mean : ExcName → Option Value} {mg mb : Str → Option Value}
  {dp un : Nat} {gd : Option (List Code)} {cn : Str} {cs : Scope} {fa : Addr} {ccd : Value} {cl : List (Str × Addr)} {outer : List Env} {A A₀ : Around} {base h₀ : Heap} {L : Addr} {m : Str → Option Value} {s : Shared} {Q E : Value → Shared → Prop}
  {news : List (Addr × Obj)} {e C t : Addr}

set_option maxHeartbeats 8000000 in
theorem init28 {x : Str} {tx : Tok} (EK : ExcK w C) (hne : ∀ q ∈ news, q.1 ≠ e) (C' : Cx w p loose mean mg mb A₀ base h₀ outer L s.heap m ((e, excO C t none) :: news)) (R : Rm cs dp un 1)
  (hret : ∀ h' d tk', Fr h₀ L h' m → News h₀ L h' ((e, excO C t (some d)) :: news) → Q .none { s with heap := h', toks := tk' }) :
  wpAny (model prog w) (ktrTop dp un gd cn cs L fa ccd cl outer) (call (.ref 28) [.ref e, .str x tx]) Q E s := by
  have C9 := C'
  obtain ⟨B, F, X, N, T⟩ := C'
  k_dflt (refine' enterK (binds := [(Str.ofString "self", .ref e), (Str.ofString "message", .str x tx)]) C9 R ?k6 ?k7 ?k9 ?kB ?_ ?c2 ?c3 ?c4 ?c5; (((case k6 => k_is); (case k7 => k_is); (case k9 => exact BindsTo.of_eq rfl); (case c5 => decide); (case kB => exact locs rfl); (case c2 => exact rfl); (case c3 => exact rfl); (case c4 => exact rfl); k_whole; intro g' L' h' FG' F' N' B' X' T'; (try dsimp only); (try k_fold))))
  (repeat' (first | (k_unfold; (try dsimp only)) | (k_end; wrow_close) | ((with_reducible show wpAny _ _ (setAttr (Value.ref _) _ _) _ _ _); with_reducible (k_here; k_dflt (refine' x_setN ?k0 ?k1 ?k2 ?k3 ?k4 ?_; (case k0 => with_reducible assumption); (case k1 => k_asm); (case k2 => k_asm); (case k3 => k_asm); (case k4 => k_all)); intro kyh' kyd' kytk' kyF' kyN'; (try k_fold))) | walk1 | (dsimp only; walk1) | (leave1; try dsimp only)))
  all_goals exact hret _ _ _ (by k_asm) (by k_asm)

theorem xcallN {x : Str} {tx : Tok} (EK : ExcK w C) (C' : Cx w p loose mean mg mb A₀ base h₀ outer L s.heap m news) (R : Rm cs dp un 2)
  (hret : ∀ e t h' d tk', (∀ q ∈ news, @LT.lt Nat _ q.1 t) → @LT.lt Nat _ t e → Fr h₀ L h' m → News h₀ L h' ((e, excO C t (some d)) :: (t, tupO [.str x tx]) :: news) → Q (.ref e) { s with heap := h', toks := tk' }) :
  wpAny (model prog w) (ktrTop dp un gd cn cs L fa ccd cl outer) (call (.ref C) [.str x tx]) Q E s := by
  obtain ⟨B, F, X, N, T⟩ := C'
  refine' elimG ?h9y1 ?k9y1
  case h9y1 =>
    intro G9 k9
    obtain ⟨nm, q, N', bs, sn, sub, ab, col, dd, k0, k1, k2, k3, k5, ho⟩ := EK.obj
    revert ho
    revert k5
    revert k3
    revert k2
    revert k1
    revert k0
    revert dd
    revert col
    revert ab
    revert sub
    revert sn
    revert bs
    revert N'
    revert q
    revert nm
    exact k9
  intro nm q N' bs sn sub ab col dd k0 k1 k2 k3 k5 ho
  obtain ⟨hp, g, dr, tt, os⟩ := s
  have XK := X.keeps F.keep
  refine x_call XK (XK _ _ ho) EK.init EK.fn ?_ (by rw [sizeLine_eq, List.length_cons, List.length_nil]; omega)
  rw [under_create]
  have hlt : ∀ q ∈ news, @LT.lt Nat _ q.1 hp.objs.size := fun q hq => Heap.lt_size (N q hq).1
  have hL : L < hp.objs.size := F.ns.lt
  have F1 := F.push { cls := .type "tuple", data := .seq [Value.str x tx].toArray }
  have N1 := N.push F { cls := .type "tuple", data := .seq [Value.str x tx].toArray }
  have F2 := F1.push (excO C hp.objs.size none)
  have N2 := N1.push F1 (excO C hp.objs.size none)
  rw [Heap.size_push] at N2
  refine init28 EK (fun q hq => ?_) ⟨B, F2, X, N2, T⟩ ⟨R.hk, by have := R.hd; omega, by have := R.hu; omega⟩ fun h' d tk' F' N' => ⟨rfl, hret _ _ h' d tk' hlt (Nat.lt_succ_self _) F' N'⟩
  rcases List.mem_cons.mp hq with rfl | hq
  · exact Nat.ne_of_lt (Nat.lt_succ_self _)
  · exact Nat.ne_of_lt (Nat.lt_succ_of_lt (hlt q hq))
end
section
variable {M : Model} {A : Around} {E : Value → Shared → Prop} {env : Env} {s : Shared}
/-- What a raise asks of the value that it raises. -/
def RaiseQ (E : Value → Shared → Prop) (v : Value) (s₁ : Shared) : Prop := ∃ e C t d, v = .ref e ∧ IsExc s₁.heap C ∧ s₁.heap.get? e = some (excO C t (some d)) ∧ E (.ref e) s₁

theorem x_raiseStmt {x : Sem Value} {Q : Flow → Shared → Prop} (hh : A.handled = none) (h : wpAny M A x (RaiseQ E) E s) : wpAny M A (raiseStmt env (some x) none) Q E s := by
  unfold raiseStmt
  refine wpAny_bind (wpAny_mono h (fun v s₁ h₁ => ?_) fun _ _ x => x)
  refine' elimG ?h9y2 ?k9y2
  case h9y2 =>
    intro G9 k9
    obtain ⟨e, C, t, d, e9x1, ⟨nm, q, N, bs, sn, sub, ab, col, dd, k0, k1, k2, k3, k5, hC⟩, he, hE⟩ := id h₁
    revert hE
    revert he
    revert hC
    revert k5
    revert k3
    revert k2
    revert k1
    revert k0
    revert dd
    revert col
    revert ab
    revert sub
    revert sn
    revert bs
    revert N
    revert q
    revert nm
    revert e9x1
    revert d
    revert t
    revert C
    revert e
    exact k9
  intro e C t d e9x1 nm q N bs sn sub ab col dd k0 k1 k2 k3 k5 hC he hE
  subst e9x1
  try clear h₁
  have hcB : (Value.ref C :: bmS).contains (.type "BaseException") = true := by rw [List.contains_cons, show bmS.contains (.type "BaseException") = true by decide, Bool.or_true]
  obtain ⟨hp, g, dr, tk, os⟩ := s₁
  repeat (first | with_reducible refine wpAny_loadPart_at he ?_ | with_reducible refine wpAny_loadPart_at hC ?_ | (with_reducible refine wpAny_isSubtype_exc hC ?_; rw [hcB]) | wp_step)
  exact wpAny_raiseNew_none hh hE

theorem x_raise {ex : Expr} {pos : Pos} {Q : Flow → Shared → Prop} (hh : A.handled = none) (h : wpAny M A (eval ex env) (RaiseQ E) E s) : wpAny M A (exec (.Raise (some ex) none pos) env) Q E s := by
  rw [arm_exec_Raise]
  first
    | exact wpAny_bind (wpAny_standAt (x_raiseStmt hh (wpAny_bind (wpAny_mono h (fun v s₃ h₃ => wpAny_bind (wpAny_standAt (wpAny_pure h₃))) fun _ _ x => x))))
    | (simp only [evalOpt, Option.map]; exact wpAny_bind (wpAny_standAt (x_raiseStmt hh (wpAny_bind (wpAny_mono h (fun v s₃ h₃ => wpAny_bind (wpAny_standAt (wpAny_pure h₃))) fun _ _ x => x)))))
end

section
variable {M : Model} {A : Around} {E : Value → Shared → Prop} {s' : Shared} {base g : Heap} {outer : List Env} {L a e t C : Addr} {m : Str → Option Value} {name : Str} {scope : Scope} {cd : Value} {Q : Unit → Shared → Prop} {news : List (Addr × Obj)}
/-- An exception of the text's leaves the def that made it. -/
theorem x_leave {msg : Value} {d : Addr} (K : Below A base outer g) (F : Fr g L s'.heap m) (N : News g L s'.heap ((e, excO C t (some d)) :: (t, tupO [msg]) :: news)) (hlt : ∀ q ∈ news, @LT.lt Nat _ q.1 t) (hte : @LT.lt Nat _ t e)
    (hQ : ∀ h', RaisedS base g outer e (.ref C) t [msg] news h' → g.UpToSlots h' → Q () { s' with heap := h' }) (hk : scope.kind = .function := by rfl) :
    wpAny M (A.deeper (envOf name scope L a cd)) (leaving (envOf name scope L a cd) (.ref e)) Q E s' := by
  have K' := K.push (name := name) (a := a) (cd := cd) F hk
  have ze := N _ (List.mem_cons_self)
  have zt := N _ (List.mem_cons_of_mem _ List.mem_cons_self)
  have zn : ∀ q ∈ news, s'.heap.get? q.1 = some q.2 ∧ q.1 ≠ L ∧ g.get? q.1 = none := fun q hq => N q (List.mem_cons_of_mem _ (List.mem_cons_of_mem _ hq))
  have nm_out : ∀ b ∈ outer.filterMap (·.frame), ∃ o, g.get? b = some o := fun b hb => by
    obtain ⟨_, o, ho, _⟩ := K.frames.mem hb
    exact ⟨o, ho⟩
  have hin : ∀ env ∈ (envOf name scope L a cd :: outer), ∀ b, env.frame = some b → b ∈ (e :: t :: (envOf name scope L a cd :: outer).filterMap (·.frame)) := fun env he b hb => List.mem_cons_of_mem _ (List.mem_cons_of_mem _ (List.mem_filterMap.mpr ⟨env, he, hb⟩))
  have gb : ∀ b o, g.get? b = some o → b ≠ e ∧ b ≠ t := fun b o q => ⟨fun z => (by rw [z, ze.2.2] at q; cases q), fun z => (by rw [z, zt.2.2] at q; cases q)⟩
  have sg : ∀ b o, g.get? b = some o → b ∉ outer.filterMap (·.frame) → (hideAll s'.heap (e :: t :: (envOf name scope L a cd :: outer).filterMap (·.frame))).get? b = some o := fun b o q nm => hideAll_get _ (F.keep b o q) fun hm => by
    rcases List.mem_cons.mp hm with z | hm
    · exact (gb b o q).1 z
    rcases List.mem_cons.mp hm with z | hm
    · exact (gb b o q).2 z
    rcases kts_mem hm with z | z
    · rw [z, kts_self F] at q
      cases q
    · exact nm z
  have st : base.StaysIn (hideAll s'.heap (e :: t :: (envOf name scope L a cd :: outer).filterMap (·.frame))) := fun b o q => sg b o (K.stays b o q) fun hm => by
    rw [(K.frames.mem hm).1] at q; cases q
  have hl : ∀ q ∈ news, (hideAll s'.heap (e :: t :: (envOf name scope L a cd :: outer).filterMap (·.frame))).get? q.1 = some q.2 ∧ g.get? q.1 = none ∧ base.get? q.1 = none := fun q hq => by
    refine ⟨hideAll_get _ (zn q hq).1 fun hm => ?_, (zn q hq).2.2, fresh_of_stays K.stays (zn q hq).2.2⟩
    have lt := hlt q hq
    rcases List.mem_cons.mp hm with z | hm
    · exact absurd (Nat.lt_trans lt hte) (z ▸ Nat.lt_irrefl _)
    rcases List.mem_cons.mp hm with z | hm
    · exact absurd lt (z ▸ Nat.lt_irrefl _)
    rcases kts_mem hm with z | z
    · exact (zn q hq).2.1 z
    · obtain ⟨o, ho⟩ := nm_out _ z
      rw [(zn q hq).2.2] at ho; cases ho
  have be : ∀ b, b ∈ (e :: t :: (envOf name scope L a cd :: outer).filterMap (·.frame)) → (hideAll s'.heap (e :: t :: (envOf name scope L a cd :: outer).filterMap (·.frame))).get? b = none := fun b hb => hideAll_none _ hb
  refine wpAny_leaving_firstW (base := hideAll s'.heap (e :: t :: (envOf name scope L a cd :: outer).filterMap (·.frame))) (oe := excO C t (some d)) (a0 := .ref t) K'.stack (funFrames_hide K'.frames hin) rfl ze.1 (fun b o q => of_hideAll _ q) (be e List.mem_cons_self) rfl rfl rfl fun h' hL => ?_
  obtain ⟨k1, ⟨_, _, k2⟩, k3, k4⟩ := hL
  refine hQ h' ⟨⟨_, st, sg, hl, ⟨k1, be e List.mem_cons_self, k2, k3⟩, be t (List.mem_cons_of_mem _ List.mem_cons_self)⟩, Heap.TupAt.of_slots ⟨_, _, zt.1, rfl, rfl⟩ k4⟩ ?_
  exact (Heap.UpToSlots.of_keeps F.keep).trans k4
end
theorem isExc_of {w : World} {C : Addr} {h : Heap} (EK : ExcK w C) (X : (hd.heap_1 w.params).In h) : IsExc h C := by
  obtain ⟨nm, q, N', bs, sn, sub, ab, col, dd, k0, k1, k2, k3, k5, ho⟩ := EK.obj
  exact ⟨nm, q, N', bs, sn, sub, ab, col, dd, k0, k1, k2, k3, k5, X _ _ ho⟩
/-- What a def that raises one of the text's exceptions leaves to its caller. -/
def Exc (base : Heap) (h₀ : Heap) (L : Addr) (m : Str → Option Value) (l : List Env) (C : Addr) (news : List (Addr × Obj)) (s : Shared) (E : Value → Shared → Prop) : Prop :=
  ∀ g₂ e t msg h' tk', Fr h₀ L g₂ m → RaisedS base g₂ l e (.ref C) t [msg] news h' → g₂.UpToSlots h' → E (.ref e) { s with heap := h', toks := tk' }
theorem raiseQ_of {w : World} {C e t d : Addr} {h₀ : Heap} {L : Addr} {m : Str → Option Value} {s : Shared} {news : List (Addr × Obj)} {E : Value → Shared → Prop} (EK : ExcK w C) (F : Fr h₀ L s.heap m) (X : (hd.heap_1 w.params).In h₀) (N : News h₀ L s.heap ((e, excO C t (some d)) :: news)) (h : E (.ref e) s) : RaiseQ E (.ref e) s :=
  ⟨e, C, t, d, rfl, isExc_of EK (X.keeps F.keep), (N _ List.mem_cons_self).1, h⟩
--M<
--M>
section
variable {prog : Program} {w : World} {p : Program} {loose : List Str} {mean : ExcName → Option Value} {mg mb : Str → Option Value}
  {dp un : Nat} {gd : Option (List Code)} {cn : Str} {cs : Scope} {fa : Addr} {ccd : Value} {cl : List (Str × Addr)} {outer : List Env} {A₀ : Around} {base h₀ : Heap} {L : Addr} {m : Str → Option Value} {s : Shared} {Q E : Value → Shared → Prop}
  {news : List (Addr × Obj)}

set_option maxHeartbeats 8000000 in
theorem row_spec {tb tdx D : Addr} {oD : Obj} {crs : List CR} {ow : Int} {to : Tok} (C : Cx w p loose mean mg mb A₀ base h₀ outer L s.heap m news) (R : Rm cs dp un 3) (hT : TabR prog w news tb tdx D oD crs)
  (hret : ∀ c ∈ crs, c.o = ow → ∀ h' tk', Fr h₀ L h' m → News h₀ L h' news → Q (.ref c.r) { s with heap := h', toks := tk' })
  (hexc : (∀ c ∈ crs, c.o ≠ ow) → Exc base h₀ L m (envX cn cs L fa ccd cl :: outer) 80 news s E) :
  wpAny (model prog w) (ktrTop dp un gd cn cs L fa ccd cl outer) (call (.ref 138) [.ref tb, .int ow to]) Q E s := by
  have C' := C
  obtain ⟨B, F, X, N, T⟩ := C'
  have hRd := R.hd
  have hRu := R.hu
  refine' elimG ?h9y1 ?k9y1
  case h9y1 =>
    intro G9 k9
    obtain ⟨hm1, ⟨hs, tk, nn, hm2⟩, hm3, hlo, hD, hrow, hnd, hlen⟩ := id hT
    revert hlen
    revert hnd
    revert hrow
    revert hD
    revert hlo
    revert hm3
    revert hm2
    revert nn
    revert tk
    revert hs
    revert hm1
    exact k9
  intro hm1 hs tk nn hm2 hm3 hlo hD hrow hnd hlen
  try clear hT
  k_dflt (refine' enterK (binds := [(Str.ofString "self", .ref tb), (Str.ofString "owner", .int ow to)]) C R ?k6 ?k7 ?k9 ?kB ?_ ?c2 ?c3 ?c4 ?c5; (((case k6 => k_is); (case k7 => k_is); (case k9 => exact BindsTo.of_eq rfl); (case c5 => decide); (case kB => exact locs rfl); (case c2 => exact rfl); (case c3 => exact rfl); (case c4 => exact rfl); k_whole; intro g' L' h' FG' F' N' B' X' T'; (try dsimp only); (try k_fold))))
  rcases Classical.em (∃ c ∈ crs, c.o = ow) with ⟨c, hc, rfl⟩ | hno
  · have hva := valueAt_crs hnd hc
    have hvs : (valueAt (crs.map fun c => (c.o, Value.ref c.r)) c.o).isSome = true := by rw [hva]; rfl
    (repeat' (first | (k_unfold; (try dsimp only)) | (k_end; wrow_close) | (with_reducible (k_here; refine x_raise rfl ?_; (try k_fold))) | ((with_reducible show wpAny _ _ (leaving _ _) _ _ _); with_reducible (refine' x_leave ?k1 ?k2 ?k3 ?k4 ?k5 ?_; (case k1 => k_asm); (case k2 => k_asm); (case k3 => k_asm); (case k4 => assumption); (case k5 => assumption); intro kyh9 kyR9 kyU9; (try dsimp only))) | (with_reducible (refine' raiseQ_of ?k1 ?k2 ?k3 ?k4 ?_; (case k2 => k_asm); (case k3 => k_asm); (case k4 => k_asm); (case k1 => first | exact exc80 _ | exact exc68 _ | exact exc44 _); (try k_unfold); (try dsimp only))) | ((with_reducible show wpAny _ _ (compareOp PySem.CmpOp.NotIn (Value.int _ _) (Value.ref _)) _ _ _); with_reducible (k_dflt (refine' m_dnotin ?k1 ?k2 ?k3 ?k4 ?_; (case k1 => k_asm); (case k2 => k_mem); (case k3 => with_reducible assumption); (case k4 => with_reducible assumption)))) | (with_reducible (k_here; (with_reducible show wpAny _ _ (PySem.call (Value.ref 80) _ _) _ _ _); k_dflt (refine' xcallN ?c1 ?c2 ?c3 ?_; (case c1 => exact exc80 _); (case c2 => walk_at "cx9"); (case c3 => walk_at "rm9")); intro kye' kyt' kyh' kyd' kytk' kyhlt' kyhte' kyF' kyN'; (try k_fold))) | walk1 | (dsimp only; walk1) | (leave1; try dsimp only)))
    exact hret c hc rfl _ _ (by k_asm) (by k_asm)
  · have hno' : ∀ c ∈ crs, c.o ≠ ow := fun c hc e => hno ⟨c, hc, e⟩
    have hva := valueAt_none hno'
    have hvs : (valueAt (crs.map fun c => (c.o, Value.ref c.r)) ow).isSome = false := by rw [hva]; rfl
    (repeat' (first | (k_unfold; (try dsimp only)) | (k_end; wrow_close) | (with_reducible (k_here; refine x_raise rfl ?_; (try k_fold))) | ((with_reducible show wpAny _ _ (leaving _ _) _ _ _); with_reducible (refine' x_leave ?k1 ?k2 ?k3 ?k4 ?k5 ?_; (case k1 => k_asm); (case k2 => k_asm); (case k3 => k_asm); (case k4 => assumption); (case k5 => assumption); intro kyh9 kyR9 kyU9; (try dsimp only))) | (with_reducible (refine' raiseQ_of ?k1 ?k2 ?k3 ?k4 ?_; (case k2 => k_asm); (case k3 => k_asm); (case k4 => k_asm); (case k1 => first | exact exc80 _ | exact exc68 _ | exact exc44 _); (try k_unfold); (try dsimp only))) | ((with_reducible show wpAny _ _ (compareOp PySem.CmpOp.NotIn (Value.int _ _) (Value.ref _)) _ _ _); with_reducible (k_dflt (refine' m_dnotin ?k1 ?k2 ?k3 ?k4 ?_; (case k1 => k_asm); (case k2 => k_mem); (case k3 => with_reducible assumption); (case k4 => with_reducible assumption)))) | (with_reducible (k_here; (with_reducible show wpAny _ _ (PySem.call (Value.ref 80) _ _) _ _ _); k_dflt (refine' xcallN ?c1 ?c2 ?c3 ?_; (case c1 => exact exc80 _); (case c2 => walk_at "cx9"); (case c3 => walk_at "rm9")); intro kye' kyt' kyh' kyd' kytk' kyhlt' kyhte' kyF' kyN'; (try k_fold))) | walk1 | (dsimp only; walk1) | (leave1; try dsimp only)))
    exact hexc hno' _ _ _ _ _ _ (by k_asm) (by assumption) (by assumption)
end
def del (a : Addr) (T : List (Addr × Obj)) : List (Addr × Obj) := T.filter fun q => decide (q.1 ≠ a)
theorem mem_del {a : Addr} {T : List (Addr × Obj)} {q : Addr × Obj} (h : q ∈ T) (hn : q.1 ≠ a) : q ∈ del a T := List.mem_filter.mpr ⟨h, decide_eq_true hn⟩
theorem del_ne {a : Addr} {T : List (Addr × Obj)} : ∀ q ∈ del a T, q.1 ≠ a := fun _ h => of_decide_eq_true (List.mem_filter.mp h).2
theorem del_sub {a : Addr} {T : List (Addr × Obj)} : ∀ q ∈ del a T, q ∈ T := fun _ h => (List.mem_filter.mp h).1
theorem news_fun {h₀ h : Heap} {L a : Addr} {o o' : Obj} {T : List (Addr × Obj)} (N : News h₀ L h T) (h1 : (a, o) ∈ T) (h2 : (a, o') ∈ T) : o = o' := by
  have x := (N _ h1).1
  rw [(N _ h2).1] at x
  exact (Option.some.inj x).symm
theorem news_ne {h₀ h : Heap} {L a b : Addr} {o o' : Obj} {T : List (Addr × Obj)} (N : News h₀ L h T) (h1 : (a, o) ∈ T) (h2 : (b, o') ∈ T) (hn : o ≠ o') : a ≠ b := fun e => hn (news_fun N h1 (e ▸ h2))
theorem news_del {h₀ h : Heap} {L a : Addr} {o : Obj} {T : List (Addr × Obj)} (N : News h₀ L h T) (hm : (a, o) ∈ T) : News h₀ L h ((a, o) :: del a T) := fun q hq => by
  rcases List.mem_cons.mp hq with rfl | hq
  · exact N _ hm
  · exact N _ (del_sub _ hq)
theorem updF_del {a : Addr} {o : Obj} {T : List (Addr × Obj)} : UpdF a o ((a, o) :: del a T) (fun o' => (a, o') :: del a T) := .head del_ne
theorem dict_cls {prog : Program} {w : World} {o : Obj} {kvs : List (Int × Value)} (h : o.IsDictOf (intKind prog w) kvs) : o.cls = .type "dict" := by
  obtain ⟨es, ep, hx, _⟩ := h
  exact hx.1
theorem dict_strkey {prog : Program} {w : World} {kvs : List (Int × Value)} {hs : Int} {x : Str} {t : Tok} {v : Value} {es : List DictEntry} {n : Nat} (h : (dictOf (⟨hs, .str x t, v⟩ :: es) n).IsDictOf (intKind prog w) kvs) : False := by
  obtain ⟨es', ep, _, hd, hk, _⟩ := h
  cases hd
  obtain ⟨k, h1, _⟩ := hk ⟨hs, .str x t, v⟩ (by simp)
  obtain ⟨t', e⟩ := Value.isInt_shape (k := k) (v := .str x t) h1
  cases e

section
variable {prog : Program} {w : World} {A : Around} {E : Value → Shared → Prop} {s : Shared} {h₀ : Heap} {L D : Addr} {m : Str → Option Value} {news : List (Addr × Obj)} {oD : Obj} {kvs : List (Int × Value)} {k : Int} {t : Tok} {v : Value}
theorem m_dset {Q : Unit → Shared → Prop} (F : Fr h₀ L s.heap m) (N : News h₀ L s.heap news) (hm : (D, oD) ∈ news) (hD : oD.IsDictOf (intKind prog w) kvs) (hsz : kvs.length ≤ 1000)
    (h : ∀ h' o', Fr h₀ L h' m → News h₀ L h' ((D, o') :: del D news) → o'.IsDictOf (intKind prog w) (stored kvs k v) → Q () { s with heap := h', toks := s.toks + 1 }) : wpAny (model prog w) A (setItem (.ref D) (.int k t) v) Q E s :=
  kda_set F (news_del N hm) updF_del hD (intKind_is prog w k t) (by rw [sizeLine_eq]; omega) h
theorem m_dpop {Q : Value → Shared → Prop} (F : Fr h₀ L s.heap m) (N : News h₀ L s.heap news) (hm : (D, oD) ∈ news) (hD : oD.IsDictOf (intKind prog w) kvs) (hl : valueAt kvs k = some v) (hsz : kvs.length ≤ 1000)
    (h : ∀ h' o', Fr h₀ L h' m → News h₀ L h' ((D, o') :: del D news) → o'.IsDictOf (intKind prog w) (without kvs k) → Q v { s with heap := h', toks := s.toks + 1 }) : wpAny (model prog w) A (call (.builtin "dict.pop") [.ref D, .int k t]) Q E s :=
  kob_pop (more := []) F (news_del N hm) updF_del hD (intKind_is prog w k t) (.inl rfl) rfl (PySem.F.args_dict_pop_2 _ _) hl (by rw [sizeLine_eq]; omega) h
end
theorem ne_dl : Value.type "dict" ≠ .type "list" := by decide
theorem ne_tl : Value.type "tuple" ≠ .type "list" := by decide
theorem ne_td : Value.type "tuple" ≠ .type "dict" := by decide
theorem ne_ld : Value.type "list" ≠ .type "dict" := by decide
theorem TabR.mono {prog : Program} {w : World} {T T' : List (Addr × Obj)} {tb tdx D : Addr} {oD : Obj} {crs : List CR} (hT : TabR prog w T tb tdx D oD crs) (h : ∀ q ∈ T, q.2.cls ≠ .type "list" → q ∈ T') : TabR prog w T' tb tdx D oD crs := by
  obtain ⟨h1, ⟨a, b, c, h2⟩, h3, h4, h5, h6, h7, h8⟩ := hT
  refine ⟨h _ h1 (fun e => nomatch e), ⟨a, b, c, h _ h2 ne_dl⟩, h _ h3 (by show oD.cls ≠ _; rw [dict_cls h5]; exact ne_dl), h4, h5, fun x hx => ?_, h7, h8⟩
  obtain ⟨g1, e1, e2, e3, e4, t1, t2, t3, t4, u1, u2, u3, rv, n, g2, g3⟩ := h6 x hx
  refine ⟨h _ g1 (fun e => nomatch e), e1, e2, e3, e4, t1, t2, t3, t4, u1, u2, u3, rv, n, h _ g2 ne_dl, ?_⟩
  rcases hr : x.rm with _ | r
  · rw [hr] at g3; exact g3
  · rw [hr] at g3
    obtain ⟨t, ta, tp, e, hm⟩ := g3
    exact ⟨t, ta, tp, e, h _ hm ne_tl⟩
theorem remR_none {T : List (Addr × Obj)} : RemR T .none none := rfl
--M<
--M>
section
variable {prog : Program} {w : World} {p : Program} {loose : List Str} {mean : ExcName → Option Value} {mg mb : Str → Option Value}
  {dp un : Nat} {gd : Option (List Code)} {cn : Str} {cs : Scope} {fa : Addr} {ccd : Value} {cl : List (Str × Addr)} {outer : List Env} {A₀ : Around} {base h₀ : Heap} {L : Addr} {m : Str → Option Value} {s : Shared} {Q E : Value → Shared → Prop}
  {news : List (Addr × Obj)}
set_option maxHeartbeats 8000000 in
theorem mkrow_spec {x y ow : Int} {tx ty to : Tok} (C : Cx w p loose mean mg mb A₀ base h₀ outer L s.heap m news) (R : Rm cs dp un 2)
  (hret : ∀ r dx dd h' tk', RowAt [(r, instObj 113 dx), (dx, dd)] r dx ⟨ow, x, y, none⟩ → dd.cls = .type "dict" → (∀ q ∈ news, @LT.lt Nat _ q.1 dx) → @LT.lt Nat _ dx r → Fr h₀ L h' m → News h₀ L h' ((r, instObj 113 dx) :: (dx, dd) :: news) → Q (.ref r) { s with heap := h', toks := tk' }) :
  wpAny (model prog w) (ktrTop dp un gd cn cs L fa ccd cl outer) (call (.ref 113) [.int ow to, .int x tx, .int y ty]) Q E s := by
  obtain ⟨B, F, X, N, T⟩ := C
  have hRd := R.hd
  have hRu := R.hu
  refine call_cls F X N (by k_is) (by k_is) (by k_is) (fun r dx h' F' N' l1 l2 => ?_)
  rw [under_create]
  have l3 : AllLt dx news := allLt_of l1
  have l4 := ltN l2
  k_dflt (refine' code_def (binds := [(Str.ofString "self", .ref r), (Str.ofString "owner", .int ow to), (Str.ofString "address", .int x tx), (Str.ofString "port", .int y ty)]) B F' X N' T rfl rfl R.hk ?k6 ?k7 (by show dp + 1 < recursionLimit; omega) ?k9 ?kB ?_ ?c2 ?c3 ?c4 ?c5; (((case k6 => k_is); (case k7 => k_is); (case k9 => exact BindsTo.of_eq rfl); (case c5 => decide); (case kB => exact locs rfl); (case c2 => exact rfl); (case c3 => exact rfl); (case c4 => exact rfl); k_whole; intro g' L' h' FG' F' N' B' X' T'; (try dsimp only); (try k_fold))))
  (repeat' (first | (k_unfold; (try dsimp only)) | (k_end; wrow_close) | (with_reducible (k_here; refine x_raise rfl ?_; (try k_fold))) | ((with_reducible show wpAny _ _ (leaving _ _) _ _ _); with_reducible (refine' x_leave ?k1 ?k2 ?k3 ?k4 ?k5 ?_; (case k1 => k_asm); (case k2 => k_asm); (case k3 => k_asm); (case k4 => assumption); (case k5 => assumption); intro kyh9 kyR9 kyU9; (try dsimp only))) | (with_reducible (refine' raiseQ_of ?k1 ?k2 ?k3 ?k4 ?_; (case k2 => k_asm); (case k3 => k_asm); (case k4 => k_asm); (case k1 => first | exact exc80 _ | exact exc68 _ | exact exc44 _); (try k_unfold); (try dsimp only))) | (with_reducible (k_here; (with_reducible show wpAny _ _ (PySem.call (Value.ref 113) _ _) _ _ _); k_dflt (refine' mkrow_spec ?c1 ?c2 ?_; (case c1 => walk_at "cx9"); (case c2 => walk_at "rm9")); intro kyr' kydx' kydd' kyh' kytk' kyhra' kyhcl' kyhfr' kyhlt' kyF' kyN'; (try k_fold))) | ((with_reducible show wpAny _ _ (setItem (Value.ref _) (Value.int _ _) (Value.ref _)) _ _ _); with_reducible (k_dflt (refine' m_dset ?k1 ?k2 ?k3 ?k4 ?k5 ?_; (case k1 => k_asm); (case k2 => k_asm); (case k3 => k_mem); (case k4 => with_reducible assumption); (case k5 => (simp only [List.length_map]; omega))); intro kyh' kyo' kyF' kyN' kyhd'; (try k_fold))) | (with_reducible (k_here; (with_reducible show wpAny _ _ (PySem.call (Value.ref 145) _ _) _ _ _); k_dflt (refine' isthere_spec ?c1 ?c2 ?c3 ?c4 ?_; (case c1 => walk_at "cx9"); (case c2 => walk_at "rm9"); (case c3 => with_reducible assumption); (case c4 => first | with_reducible assumption | exact remR_none)); intro kyh' kytk' kyF' kyN'; (try k_fold))) | ((with_reducible show wpAny _ _ (compareOp PySem.CmpOp.In (Value.int _ _) (Value.ref _)) _ _ _); with_reducible (k_dflt (refine' m_din ?k1 ?k2 ?k3 ?k4 ?_; (case k1 => k_asm); (case k2 => k_mem); (case k3 => with_reducible assumption); (case k4 => with_reducible assumption)))) | (with_reducible (k_here; (with_reducible show wpAny _ _ (PySem.call (Value.ref 68) _ _) _ _ _); k_dflt (refine' xcallN ?c1 ?c2 ?c3 ?_; (case c1 => exact exc68 _); (case c2 => walk_at "cx9"); (case c3 => walk_at "rm9")); intro kye' kyt' kyh' kyd' kytk' kyhlt' kyhte' kyF' kyN'; (try k_fold))) | (with_reducible (k_here; (with_reducible show wpAny _ _ (PySem.call (Value.ref 80) _ _) _ _ _); k_dflt (refine' xcallN ?c1 ?c2 ?c3 ?_; (case c1 => exact exc80 _); (case c2 => walk_at "cx9"); (case c3 => walk_at "rm9")); intro kye' kyt' kyh' kyd' kytk' kyhlt' kyhte' kyF' kyN'; (try k_fold))) | walk1 | (dsimp only; walk1) | (leave1; try dsimp only)))
  all_goals (
    refine' hret r dx _ _ _ ?RA ?hcl0 ?f (ltN l2) ?F ?N
    (case N => k_asm)
    (case F => k_asm)
    (case hcl0 => exact rfl)
    (case f => exact l1)
    (case RA => exact ⟨List.mem_cons_self, _, _, _, _, _, _, _, _, _, _, _, _, _, List.mem_cons_of_mem _ List.mem_cons_self, remR_none⟩))
end
--M<
--M>
theorem mem_one {α : Type} {a b : α} (h : a ∈ [b]) : a = b := by simpa using h
theorem bind_tab {prog : Program} {w : World} {h₀ h : Heap} {L tb tdx D r dx : Addr} {oD oD' dd : Obj} {crs : List CR} {news : List (Addr × Obj)} {row : Row} (N : News h₀ L h news) (hT : TabR prog w news tb tdx D oD crs) (hno : ∀ c ∈ crs, c.o ≠ row.o) (hl : crs.length < 60)
    (hra : RowAt [(r, instObj 113 dx), (dx, dd)] r dx row) (hfr : ∀ q ∈ news, @LT.lt Nat _ q.1 dx) (hlt : @LT.lt Nat _ dx r) (hd : oD'.IsDictOf (intKind prog w) (stored (crs.map fun c => (c.o, Value.ref c.r)) row.o (.ref r))) :
    TabR prog w ((D, oD') :: del D ((r, instObj 113 dx) :: (dx, dd) :: news)) tb tdx D oD' (crs ++ [⟨row, r, dx⟩]) ∧ ∀ q ∈ news, q.2.cls ≠ .type "dict" → q ∈ ((D, oD') :: del D ((r, instObj 113 dx) :: (dx, dd) :: news)) := by
  obtain ⟨h1, ⟨a, b, c, h2⟩, h3, h4, h5, h6, h7, h8⟩ := hT
  have up : ∀ q ∈ news, q.2 ≠ oD → q ∈ ((D, oD') :: del D ((r, instObj 113 dx) :: (dx, dd) :: news)) := fun q hq hn =>
    List.mem_cons_of_mem _ (mem_del (List.mem_cons_of_mem _ (List.mem_cons_of_mem _ hq)) (news_ne N hq h3 hn))
  have hDx : D < dx := hfr _ h3
  have nd : ∀ q ∈ news, q.2.cls ≠ .type "dict" → q ∈ ((D, oD') :: del D ((r, instObj 113 dx) :: (dx, dd) :: news)) := fun q hq hn => up q hq fun e => hn (by rw [e]; exact dict_cls h5)
  have key : ∀ {k : Int} {v : Value} {x : Str} {t : Tok} {es : List DictEntry} {n : Nat}, dictOf (⟨k, .str x t, v⟩ :: es) n ≠ oD := fun e => dict_strkey (prog := prog) (w := w) (e ▸ h5)
  have nin : ∀ c ∈ crs, RowAt ((D, oD') :: del D ((r, instObj 113 dx) :: (dx, dd) :: news)) c.r c.dx c.toRow := fun c hc => by
    obtain ⟨g1, e1, e2, e3, e4, t1, t2, t3, t4, u1, u2, u3, rv, n, g2, g3⟩ := h6 c hc
    refine ⟨nd _ g1 (fun e => nomatch e), e1, e2, e3, e4, t1, t2, t3, t4, u1, u2, u3, rv, n, up _ g2 key, ?_⟩
    rcases hr : c.rm with _ | x
    · rw [hr] at g3; exact g3
    · rw [hr] at g3
      obtain ⟨t, ta, tp, e, hm⟩ := g3
      exact ⟨t, ta, tp, e, nd _ hm ne_td⟩
  refine ⟨⟨nd _ h1 (fun e => nomatch e), ⟨a, b, c, up _ h2 key⟩, List.mem_cons_self, h4, ?_, fun x hx => ?_, ?_, ?_⟩, nd⟩
  · have e : stored (crs.map fun c => (c.o, Value.ref c.r)) row.o (.ref r) = (crs ++ [(⟨row, r, dx⟩ : CR)]).map fun c : CR => (c.o, Value.ref c.r) := by
      unfold stored
      rw [if_neg, List.map_append]
      · rfl
      · rw [List.any_map, List.any_eq_true]
        rintro ⟨c, hc, e⟩
        exact hno c hc (by simpa using e)
    rw [← e]; exact hd
  · rcases List.mem_append.mp hx with hx | hx
    · exact nin x hx
    · rw [mem_one hx]
      refine RowAt.mono (fun q hq => List.mem_cons_of_mem _ (mem_del ?_ ?_)) hra
      · simp only [List.mem_cons, List.not_mem_nil, or_false] at hq ⊢
        rcases hq with hq | hq
        · exact .inl hq
        · exact .inr (.inl hq)
      · simp only [List.mem_cons, List.not_mem_nil, or_false] at hq
        rcases hq with rfl | rfl
        · exact Nat.ne_of_gt (Nat.lt_trans hDx hlt)
        · exact Nat.ne_of_gt hDx
  · rw [List.map_append, List.nodup_append]
    refine ⟨h7, by simp, fun a ha b hb => ?_⟩
    obtain ⟨c, hc, rfl⟩ := List.mem_map.mp ha
    have : b = row.o := by simpa using hb
    rw [this]; exact hno c hc
  · rw [List.length_append, List.length_cons, List.length_nil]; omega
section
variable {prog : Program} {w : World} {p : Program} {loose : List Str} {mean : ExcName → Option Value} {mg mb : Str → Option Value}
  {dp un : Nat} {gd : Option (List Code)} {cn : Str} {cs : Scope} {fa : Addr} {ccd : Value} {cl : List (Str × Addr)} {outer : List Env} {A₀ : Around} {base h₀ : Heap} {L : Addr} {m : Str → Option Value} {s : Shared} {Q E : Value → Shared → Prop}
  {news : List (Addr × Obj)}

/-- Is there a row other than the owner's, of this address, port and remote? -/
def thereF (x y ow : Int) (rm : Option (Int × Int)) (rows : List Row) : Bool := rows.any (thereC x y ow rm)

set_option maxHeartbeats 8000000 in
theorem bind_spec {tb tdx D : Addr} {oD : Obj} {crs : List CR} {x y ow : Int} {tx ty to : Tok} (C : Cx w p loose mean mg mb A₀ base h₀ outer L s.heap m news) (R : Rm cs dp un 4) (hT : TabR prog w news tb tdx D oD crs) (hlt : crs.length < 60)
  (hret : (∀ c ∈ crs, c.o ≠ ow) → thereF x y ow none (crs.map CR.toRow) = false → ∀ T' oD' c' h' tk', c'.toRow = ⟨ow, x, y, none⟩ → TabR prog w T' tb tdx D oD' (crs ++ [c']) → (∀ q ∈ news, q.2.cls ≠ .type "dict" → q ∈ T') → Fr h₀ L h' m → News h₀ L h' T' → Q .none { s with heap := h', toks := tk' })
  (hex1 : (∃ c ∈ crs, c.o = ow) → Exc base h₀ L m (envX cn cs L fa ccd cl :: outer) 80 news s E)
  (hex2 : (∀ c ∈ crs, c.o ≠ ow) → thereF x y ow none (crs.map CR.toRow) = true → Exc base h₀ L m (envX cn cs L fa ccd cl :: outer) 68 news s E) :
  wpAny (model prog w) (ktrTop dp un gd cn cs L fa ccd cl outer) (call (.ref 152) [.ref tb, .int ow to, .int x tx, .int y ty]) Q E s := by
  have C' := C
  obtain ⟨B, F, X, N, T⟩ := C'
  have hRd := R.hd
  have hRu := R.hu
  have hT' := hT
  refine' elimG ?h9y1 ?k9y1
  case h9y1 =>
    intro G9 k9
    obtain ⟨hm1, ⟨hs, tk, nn, hm2⟩, hm3, hlo, hD, hrow, hnd, hlen⟩ := id hT
    revert hlen
    revert hnd
    revert hrow
    revert hD
    revert hlo
    revert hm3
    revert hm2
    revert nn
    revert tk
    revert hs
    revert hm1
    exact k9
  intro hm1 hs tk nn hm2 hm3 hlo hD hrow hnd hlen
  try clear hT
  k_dflt (refine' enterK (binds := [(Str.ofString "self", .ref tb), (Str.ofString "owner", .int ow to), (Str.ofString "address", .int x tx), (Str.ofString "port", .int y ty)]) C R ?k6 ?k7 ?k9 ?kB ?_ ?c2 ?c3 ?c4 ?c5; (((case k6 => k_is); (case k7 => k_is); (case k9 => exact BindsTo.of_eq rfl); (case c5 => decide); (case kB => exact locs rfl); (case c2 => exact rfl); (case c3 => exact rfl); (case c4 => exact rfl); k_whole; intro g' L' h' FG' F' N' B' X' T'; (try dsimp only); (try k_fold))))
  rcases Classical.em (∃ c ∈ crs, c.o = ow) with he | hno
  · have hvs : (valueAt (crs.map fun c => (c.o, Value.ref c.r)) ow).isSome = true := by obtain ⟨c, hc, rfl⟩ := he; rw [valueAt_crs hnd hc]; rfl
    (repeat' (first | (k_unfold; (try dsimp only)) | (k_end; wrow_close) | (with_reducible (k_here; refine x_raise rfl ?_; (try k_fold))) | ((with_reducible show wpAny _ _ (leaving _ _) _ _ _); with_reducible (refine' x_leave ?k1 ?k2 ?k3 ?k4 ?k5 ?_; (case k1 => k_asm); (case k2 => k_asm); (case k3 => k_asm); (case k4 => assumption); (case k5 => assumption); intro kyh9 kyR9 kyU9; (try dsimp only))) | (with_reducible (refine' raiseQ_of ?k1 ?k2 ?k3 ?k4 ?_; (case k2 => k_asm); (case k3 => k_asm); (case k4 => k_asm); (case k1 => first | exact exc80 _ | exact exc68 _ | exact exc44 _); (try k_unfold); (try dsimp only))) | (with_reducible (k_here; (with_reducible show wpAny _ _ (PySem.call (Value.ref 113) _ _) _ _ _); k_dflt (refine' mkrow_spec ?c1 ?c2 ?_; (case c1 => walk_at "cx9"); (case c2 => walk_at "rm9")); intro kyr' kydx' kydd' kyh' kytk' kyhra' kyhcl' kyhfr' kyhlt' kyF' kyN'; (try k_fold))) | ((with_reducible show wpAny _ _ (setItem (Value.ref _) (Value.int _ _) (Value.ref _)) _ _ _); with_reducible (k_dflt (refine' m_dset ?k1 ?k2 ?k3 ?k4 ?k5 ?_; (case k1 => k_asm); (case k2 => k_asm); (case k3 => k_mem); (case k4 => with_reducible assumption); (case k5 => (simp only [List.length_map]; omega))); intro kyh' kyo' kyF' kyN' kyhd'; (try k_fold))) | (with_reducible (k_here; (with_reducible show wpAny _ _ (PySem.call (Value.ref 145) _ _) _ _ _); k_dflt (refine' isthere_spec ?c1 ?c2 ?c3 ?c4 ?_; (case c1 => walk_at "cx9"); (case c2 => walk_at "rm9"); (case c3 => with_reducible assumption); (case c4 => first | with_reducible assumption | exact remR_none)); intro kyh' kytk' kyF' kyN'; (try k_fold))) | ((with_reducible show wpAny _ _ (compareOp PySem.CmpOp.In (Value.int _ _) (Value.ref _)) _ _ _); with_reducible (k_dflt (refine' m_din ?k1 ?k2 ?k3 ?k4 ?_; (case k1 => k_asm); (case k2 => k_mem); (case k3 => with_reducible assumption); (case k4 => with_reducible assumption)))) | (with_reducible (k_here; (with_reducible show wpAny _ _ (PySem.call (Value.ref 68) _ _) _ _ _); k_dflt (refine' xcallN ?c1 ?c2 ?c3 ?_; (case c1 => exact exc68 _); (case c2 => walk_at "cx9"); (case c3 => walk_at "rm9")); intro kye' kyt' kyh' kyd' kytk' kyhlt' kyhte' kyF' kyN'; (try k_fold))) | (with_reducible (k_here; (with_reducible show wpAny _ _ (PySem.call (Value.ref 80) _ _) _ _ _); k_dflt (refine' xcallN ?c1 ?c2 ?c3 ?_; (case c1 => exact exc80 _); (case c2 => walk_at "cx9"); (case c3 => walk_at "rm9")); intro kye' kyt' kyh' kyd' kytk' kyhlt' kyhte' kyF' kyN'; (try k_fold))) | walk1 | (dsimp only; walk1) | (leave1; try dsimp only)))
    exact hex1 he _ _ _ _ _ _ (by k_asm) (by assumption) (by assumption)
  · have hno' : ∀ c ∈ crs, c.o ≠ ow := fun c hc e => hno ⟨c, hc, e⟩
    have hvs : (valueAt (crs.map fun c => (c.o, Value.ref c.r)) ow).isSome = false := by rw [valueAt_none hno']; rfl
    (repeat' (first | (k_unfold; (try dsimp only)) | (k_end; wrow_close) | (with_reducible (k_here; refine x_raise rfl ?_; (try k_fold))) | ((with_reducible show wpAny _ _ (leaving _ _) _ _ _); with_reducible (refine' x_leave ?k1 ?k2 ?k3 ?k4 ?k5 ?_; (case k1 => k_asm); (case k2 => k_asm); (case k3 => k_asm); (case k4 => assumption); (case k5 => assumption); intro kyh9 kyR9 kyU9; (try dsimp only))) | (with_reducible (refine' raiseQ_of ?k1 ?k2 ?k3 ?k4 ?_; (case k2 => k_asm); (case k3 => k_asm); (case k4 => k_asm); (case k1 => first | exact exc80 _ | exact exc68 _ | exact exc44 _); (try k_unfold); (try dsimp only))) | (with_reducible (k_here; (with_reducible show wpAny _ _ (PySem.call (Value.ref 113) _ _) _ _ _); k_dflt (refine' mkrow_spec ?c1 ?c2 ?_; (case c1 => walk_at "cx9"); (case c2 => walk_at "rm9")); intro kyr' kydx' kydd' kyh' kytk' kyhra' kyhcl' kyhfr' kyhlt' kyF' kyN'; (try k_fold))) | ((with_reducible show wpAny _ _ (setItem (Value.ref _) (Value.int _ _) (Value.ref _)) _ _ _); with_reducible (k_dflt (refine' m_dset ?k1 ?k2 ?k3 ?k4 ?k5 ?_; (case k1 => k_asm); (case k2 => k_asm); (case k3 => k_mem); (case k4 => with_reducible assumption); (case k5 => (simp only [List.length_map]; omega))); intro kyh' kyo' kyF' kyN' kyhd'; (try k_fold))) | (with_reducible (k_here; (with_reducible show wpAny _ _ (PySem.call (Value.ref 145) _ _) _ _ _); k_dflt (refine' isthere_spec ?c1 ?c2 ?c3 ?c4 ?_; (case c1 => walk_at "cx9"); (case c2 => walk_at "rm9"); (case c3 => with_reducible assumption); (case c4 => first | with_reducible assumption | exact remR_none)); intro kyh' kytk' kyF' kyN'; (try k_fold))) | ((with_reducible show wpAny _ _ (compareOp PySem.CmpOp.In (Value.int _ _) (Value.ref _)) _ _ _); with_reducible (k_dflt (refine' m_din ?k1 ?k2 ?k3 ?k4 ?_; (case k1 => k_asm); (case k2 => k_mem); (case k3 => with_reducible assumption); (case k4 => with_reducible assumption)))) | (with_reducible (k_here; (with_reducible show wpAny _ _ (PySem.call (Value.ref 68) _ _) _ _ _); k_dflt (refine' xcallN ?c1 ?c2 ?c3 ?_; (case c1 => exact exc68 _); (case c2 => walk_at "cx9"); (case c3 => walk_at "rm9")); intro kye' kyt' kyh' kyd' kytk' kyhlt' kyhte' kyF' kyN'; (try k_fold))) | (with_reducible (k_here; (with_reducible show wpAny _ _ (PySem.call (Value.ref 80) _ _) _ _ _); k_dflt (refine' xcallN ?c1 ?c2 ?c3 ?_; (case c1 => exact exc80 _); (case c2 => walk_at "cx9"); (case c3 => walk_at "rm9")); intro kye' kyt' kyh' kyd' kytk' kyhlt' kyhte' kyF' kyN'; (try k_fold))) | walk1 | (dsimp only; walk1) | (leave1; try dsimp only)))
    · exact hex2 hno' (by simp_all [thereF]) _ _ _ _ _ _ (by k_asm) (by assumption) (by assumption)
    · have hb := bind_tab (row := ⟨ow, x, y, none⟩) N hT' hno' hlt ‹RowAt [_, _] _ _ _› (by assumption) (by assumption) (by assumption)
      exact hret hno' (by simp_all [thereF]) _ _ _ _ _ rfl hb.1 hb.2 (by k_asm) (by k_asm)
end
section
variable {prog : Program} {w : World} {A : Around} {E : Value → Shared → Prop} {s : Shared} {h₀ : Heap} {L r dx : Addr} {m : Str → Option Value} {news : List (Addr × Obj)} {c : Row} {v : Value}
set_option maxHeartbeats 2000000 in
theorem m_setrem {Q : Unit → Shared → Prop} (F : Fr h₀ L s.heap m) (X : (hd.heap_1 w.params).In h₀) (N : News h₀ L s.heap news) (hr : RowAt news r dx c)
    (h : ∀ h' h1 h2 h3 h4 t1 t2 t3 t4 u1 u2 u3 rv n, (dx, rowD h1 h2 h3 h4 t1 t2 t3 t4 u1 u2 u3 c.o c.a c.p rv n) ∈ news → Fr h₀ L h' m → News h₀ L h' ((dx, rowD h1 h2 h3 h4 t1 t2 t3 t4 u1 u2 u3 c.o c.a c.p v n) :: del dx news) → Q () { s with heap := h', toks := s.toks + 2 }) :
    wpAny (model prog w) A (setAttr (.ref r) (Str.ofString "remote") v) Q E s := by
  refine' elimG ?h9y1 ?k9y1
  case h9y1 =>
    intro G9 k9
    obtain ⟨hm1, h1, h2, h3, h4, t1, t2, t3, t4, u1, u2, u3, rv, n, hm2, hrem⟩ := id hr
    revert hrem
    revert hm2
    revert n
    revert rv
    revert u3
    revert u2
    revert u1
    revert t4
    revert t3
    revert t2
    revert t1
    revert h4
    revert h3
    revert h2
    revert h1
    revert hm1
    exact k9
  intro hm1 h1 h2 h3 h4 t1 t2 t3 t4 u1 u2 u3 rv n hm2 hrem
  try clear hr
  k_dflt (refine' set_dict F X (news_del N hm2) (InstAt.of_news N hm1 hm2) ?k5 ?k6 ?k7 ?k8 ?k9 ?k10 ?k11 (Upd.head del_ne) ?k13 ?_; (case k5 => exact rfl); (case k6 => k_is); (case k7 => k_is); (case k8 => k_is); (case k9 => k_is); (case k10 => k_get); (case k11 => exact rfl); (case k13 => exact Nat.le_of_ble_eq_true rfl))
  intro h' F' N'
  exact h h' h1 h2 h3 h4 t1 t2 t3 t4 u1 u2 u3 rv n hm2 F' N'
end
theorem remR_some {T : List (Addr × Obj)} {t : Addr} {a b : Int} {ta tb : Tok} (h : (t, tupO [.int a ta, .int b tb]) ∈ T) : RemR T (.ref t) (some (a, b)) := ⟨t, ta, tb, rfl, h⟩
theorem raisedS_sub {base G : Heap} {l : List Env} {e t : Addr} {cls : Value} {vs : List Value} {T T' : List (Addr × Obj)} {h : Heap} (R : RaisedS base G l e cls t vs T h) (hs : ∀ q ∈ T', q ∈ T) : RaisedS base G l e cls t vs T' h := by
  obtain ⟨⟨B, h1, h2, h3, h4⟩, h5⟩ := R
  exact ⟨⟨B, h1, h2, fun q hq => h3 q (hs q hq), h4⟩, h5⟩
def setRem (ow : Int) (rm : Int × Int) (crs : List CR) : List CR := crs.map fun d => if d.o = ow then { d with rm := some rm } else d
theorem setRem_key {ow : Int} {rm : Int × Int} {crs : List CR} : (setRem ow rm crs).map (fun c => (c.o, Value.ref c.r)) = crs.map fun c => (c.o, Value.ref c.r) := by
  unfold setRem
  rw [List.map_map]
  refine List.map_congr_left fun d _ => ?_
  show ((if d.o = ow then { d with rm := some rm } else d : CR).o, Value.ref (if d.o = ow then { d with rm := some rm } else d : CR).r) = _
  split <;> rfl
theorem setRem_own {ow : Int} {rm : Int × Int} {crs : List CR} : (setRem ow rm crs).map (fun c => c.o) = crs.map fun c => c.o := by
  unfold setRem
  rw [List.map_map]
  refine List.map_congr_left fun d _ => ?_
  show (if d.o = ow then { d with rm := some rm } else d : CR).o = _
  split <;> rfl
theorem connect_tab {prog : Program} {w : World} {h₀ h : Heap} {L tb tdx D t : Addr} {oD : Obj} {crs : List CR} {news T : List (Addr × Obj)} {x y : Int} {tx ty : Tok} {c : CR} {h1 h2 h3 h4 : Int} {t1 t2 t3 t4 u1 u2 u3 : Tok} {rv : Value} {n : Nat}
    (N : News h₀ L h T) (hsub : ∀ q ∈ news, q ∈ T) (hT : TabR prog w news tb tdx D oD crs) (hc : c ∈ crs) (ht : (t, tupO [.int x tx, .int y ty]) ∈ T) (hdx : (c.dx, rowD h1 h2 h3 h4 t1 t2 t3 t4 u1 u2 u3 c.o c.a c.p rv n) ∈ T) :
    TabR prog w ((c.dx, rowD h1 h2 h3 h4 t1 t2 t3 t4 u1 u2 u3 c.o c.a c.p (.ref t) n) :: del c.dx T) tb tdx D oD (setRem c.o (x, y) crs) ∧ ∀ q ∈ news, q.2.cls ≠ .type "dict" → q ∈ ((c.dx, rowD h1 h2 h3 h4 t1 t2 t3 t4 u1 u2 u3 c.o c.a c.p (.ref t) n) :: del c.dx T) := by
  obtain ⟨g1, ⟨a, b, k, g2⟩, g3, g4, g5, g6, g7, g8⟩ := hT
  have up : ∀ q ∈ T, q.2 ≠ rowD h1 h2 h3 h4 t1 t2 t3 t4 u1 u2 u3 c.o c.a c.p rv n → q ∈ ((c.dx, rowD h1 h2 h3 h4 t1 t2 t3 t4 u1 u2 u3 c.o c.a c.p (.ref t) n) :: del c.dx T) := fun q hq hn =>
    List.mem_cons_of_mem _ (mem_del hq (news_ne N hq hdx hn))
  have nd : ∀ q ∈ T, q.2.cls ≠ .type "dict" → q ∈ ((c.dx, rowD h1 h2 h3 h4 t1 t2 t3 t4 u1 u2 u3 c.o c.a c.p (.ref t) n) :: del c.dx T) := fun q hq hn => up q hq fun e => hn (by rw [e])
  refine ⟨⟨nd _ (hsub _ g1) (fun e => nomatch e), ⟨a, b, k, up _ (hsub _ g2) (fun e => ?_)⟩, up _ (hsub _ g3) (fun e => dict_strkey (prog := prog) (w := w) ((show oD = _ from e) ▸ g5)), g4, by rw [setRem_key]; exact g5, fun d hd => ?_, by rw [setRem_own]; exact g7, by unfold setRem; rw [List.length_map]; exact g8⟩, fun q hq => nd q (hsub q hq)⟩
  · have e1 := congrArg Obj.data e
    have e2 : ([⟨a, .str (Str.ofString "rows") b, .ref D⟩] : List DictEntry).toArray = _ := (Data.dict.inj e1).1
    have e3 := congrArg Array.size e2
    simp at e3
  · obtain ⟨d₀, hd₀, rfl⟩ := List.mem_map.mp hd
    obtain ⟨k1, e1, e2, e3, e4, v1, v2, v3, v4, w1, w2, w3, rv', n', k2, k3⟩ := g6 d₀ hd₀
    by_cases hq : d₀.o = c.o
    · have hdc : d₀ = c := by
        have i1 := valueAt_crs g7 hd₀
        have : ∀ {l : List CR}, (l.map fun c => c.o).Nodup → ∀ {p q : CR}, p ∈ l → q ∈ l → p.o = q.o → p = q := by
          intro l
          induction l with
          | nil => intro _ p q hp; cases hp
          | cons z l ih =>
            intro hn p q hp hq' e
            rw [List.map_cons, List.nodup_cons] at hn
            rcases List.mem_cons.mp hp with rfl | hp1
            · rcases List.mem_cons.mp hq' with rfl | hq1
              · rfl
              · exact absurd (List.mem_map.mpr ⟨q, hq1, e.symm⟩) hn.1
            · rcases List.mem_cons.mp hq' with rfl | hq1
              · exact absurd (show q.o ∈ l.map (fun c => c.o) from List.mem_map.mpr ⟨p, hp1, e⟩) hn.1
              · exact ih hn.2 hp1 hq1 e
        exact this g7 hd₀ hc hq
      subst hdc
      simp only [if_true]
      exact ⟨nd _ (hsub _ k1) (fun e => nomatch e), h1, h2, h3, h4, t1, t2, t3, t4, u1, u2, u3, .ref t, n, List.mem_cons_self, t, tx, ty, rfl, nd _ ht ne_td⟩
    · simp only [if_neg hq]
      refine ⟨nd _ (hsub _ k1) (fun e => nomatch e), e1, e2, e3, e4, v1, v2, v3, v4, w1, w2, w3, rv', n', up _ (hsub _ k2) (fun e => hq ?_), ?_⟩
      · have f1 := congrArg Obj.data e
        have f2 := congrArg Array.toList (Data.dict.inj f1).1
        simp only [List.cons.injEq, DictEntry.mk.injEq, Value.int.injEq] at f2
        exact f2.1.2.2.1
      · rcases hr : d₀.rm with _ | z
        · rw [hr] at k3; exact k3
        · rw [hr] at k3
          obtain ⟨t', ta, tp, e, hm⟩ := k3
          exact ⟨t', ta, tp, e, nd _ (hsub _ hm) ne_td⟩
--M<
--M>
--M<
--M>
section
variable {prog : Program} {w : World} {p : Program} {loose : List Str} {mean : ExcName → Option Value} {mg mb : Str → Option Value}
  {dp un : Nat} {gd : Option (List Code)} {cn : Str} {cs : Scope} {fa : Addr} {ccd : Value} {cl : List (Str × Addr)} {outer : List Env} {A₀ : Around} {base h₀ : Heap} {L : Addr} {m : Str → Option Value} {s : Shared} {Q E : Value → Shared → Prop}
  {news : List (Addr × Obj)}

set_option maxHeartbeats 8000000 in
theorem connect_spec {tb tdx D : Addr} {oD : Obj} {crs : List CR} {x y ow : Int} {tx ty to : Tok} (C : Cx w p loose mean mg mb A₀ base h₀ outer L s.heap m news) (R : Rm cs dp un 5) (hT : TabR prog w news tb tdx D oD crs)
  (hret : ∀ c ∈ crs, c.o = ow → thereF c.a c.p ow (some (x, y)) (crs.map CR.toRow) = false → ∀ T' h' tk', TabR prog w T' tb tdx D oD (setRem ow (x, y) crs) → (∀ q ∈ news, q.2.cls ≠ .type "dict" → q ∈ T') → Fr h₀ L h' m → News h₀ L h' T' → Q .none { s with heap := h', toks := tk' })
  (hex1 : (∀ c ∈ crs, c.o ≠ ow) → Exc base h₀ L m (envX cn cs L fa ccd cl :: outer) 80 news s E)
  (hex2 : ∀ c ∈ crs, c.o = ow → thereF c.a c.p ow (some (x, y)) (crs.map CR.toRow) = true → Exc base h₀ L m (envX cn cs L fa ccd cl :: outer) 68 news s E) :
  wpAny (model prog w) (ktrTop dp un gd cn cs L fa ccd cl outer) (call (.ref 159) [.ref tb, .int ow to, .int x tx, .int y ty]) Q E s := by
  have C' := C
  obtain ⟨B, F, X, N, T⟩ := C'
  have hRd := R.hd
  have hRu := R.hu
  have hT' := hT
  refine' elimG ?h9y1 ?k9y1
  case h9y1 =>
    intro G9 k9
    obtain ⟨hm1, ⟨hs, tk, nn, hm2⟩, hm3, hlo, hD, hrow, hnd, hlen⟩ := id hT
    revert hlen
    revert hnd
    revert hrow
    revert hD
    revert hlo
    revert hm3
    revert hm2
    revert nn
    revert tk
    revert hs
    revert hm1
    exact k9
  intro hm1 hs tk nn hm2 hm3 hlo hD hrow hnd hlen
  try clear hT
  k_dflt (refine' enterK (binds := [(Str.ofString "self", .ref tb), (Str.ofString "owner", .int ow to), (Str.ofString "address", .int x tx), (Str.ofString "port", .int y ty)]) C R ?k6 ?k7 ?k9 ?kB ?_ ?c2 ?c3 ?c4 ?c5; (((case k6 => k_is); (case k7 => k_is); (case k9 => exact BindsTo.of_eq rfl); (case c5 => decide); (case kB => exact locs rfl); (case c2 => exact rfl); (case c3 => exact rfl); (case c4 => exact rfl); k_whole; intro g' L' h' FG' F' N' B' X' T'; (try dsimp only); (try k_fold))))
  (repeat' (first | (k_unfold; (try dsimp only)) | (k_end; wrow_close) | ((with_reducible show wpAny _ _ (leaving _ _) _ _ _); (first | with_reducible (refine' leave_onS ?k1 ?k2 ?k3 ?k4 ?_; (case k1 => k_asm); (case k3 => assumption); (case k2 => assumption); (case k4 => assumption); intro kyh9 kyR9 _ kyU9; (try dsimp only)) | (refine' leave_onS ?k1 ?k2 ?k3 ?k4 ?_; (case k1 => k_asm); (case k3 => assumption); (case k2 => assumption); (case k4 => assumption); intro kyh9 kyR9 _ kyU9; (try dsimp only)))) | (with_reducible (k_here; refine x_raise rfl ?_; (try k_fold))) | ((with_reducible show wpAny _ _ (leaving _ _) _ _ _); with_reducible (refine' x_leave ?k1 ?k2 ?k3 ?k4 ?k5 ?_; (case k1 => k_asm); (case k2 => k_asm); (case k3 => k_asm); (case k4 => assumption); (case k5 => assumption); intro kyh9 kyR9 kyU9; (try dsimp only))) | (with_reducible (refine' raiseQ_of ?k1 ?k2 ?k3 ?k4 ?_; (case k2 => k_asm); (case k3 => k_asm); (case k4 => k_asm); (case k1 => first | exact exc80 _ | exact exc68 _ | exact exc44 _); (try k_unfold); (try dsimp only))) | ((with_reducible show wpAny _ _ (getMethod (Value.ref _) _ _) _ _ _); with_reducible (k_dflt (refine' m_dmeth ?k1 ?k2 ?k3 ?_; (case k1 => k_asm); (case k2 => k_mem); (case k3 => with_reducible assumption)))) | ((with_reducible show wpAny _ _ (PySem.call _ _ _) _ _ _); with_reducible (k_dflt (refine' m_dpop ?k1 ?k2 ?k3 ?k4 ?k5 ?k6 ?_; (case k1 => k_asm); (case k2 => k_asm); (case k3 => k_mem); (case k4 => with_reducible assumption); (case k5 => with_reducible assumption); (case k6 => (simp only [List.length_map]; omega))); intro kyh' kyo' kyF' kyN' kyhd'; (try k_fold))) | (with_reducible (k_here; (with_reducible show wpAny _ _ (PySem.call (Value.ref 145) _ _) _ _ _); k_dflt (refine' isthere_spec ?c1 ?c2 ?c3 ?c4 ?_; (case c1 => walk_at "cx9"); (case c2 => walk_at "rm9"); (case c3 => (refine' TabR.mono ?r9 ?s9; (case r9 => with_reducible assumption); (case s9 => exact fun q9 h9 _ => (show ∀ q ∈ _, q ∈ _ by walk_at "sub9") q9 h9))); (case c4 => first | with_reducible assumption | exact remR_none | exact remR_some List.mem_cons_self)); intro kyh' kytk' kyF' kyN'; (try k_fold))) | ((with_reducible show wpAny _ _ (setAttr (Value.ref _) _ (Value.ref _)) _ _ _); with_reducible (k_dflt (refine' m_setrem ?k1 ?k2 ?k3 ?k4 ?_; (case k1 => k_asm); (case k2 => k_asm); (case k3 => k_asm); (case k4 => (refine' RowAt.mono ?s9 ?r9; (case r9 => with_reducible assumption); (case s9 => walk_at "sub9")))); intro kyh' kyg1 kyg2 kyg3 kyg4 kyt1 kyt2 kyt3 kyt4 kyu1 kyu2 kyu3 kyrv' kyn' kyhm' kyF' kyN'; (try k_fold))) | (with_reducible (k_here; (with_reducible show wpAny _ _ (PySem.call (Value.ref 68) _ _) _ _ _); k_dflt (refine' xcallN ?c1 ?c2 ?c3 ?_; (case c1 => exact exc68 _); (case c2 => walk_at "cx9"); (case c3 => walk_at "rm9")); intro kye' kyt' kyh' kyd' kytk' kyhlt' kyhte' kyF' kyN'; (try k_fold))) | walk1 | (dsimp only; walk1) | (leave1; try dsimp only)))
  refine row_spec (by walk_at "cx9") (by walk_at "rm9") hT' ?_ ?_
  · intro c hc hco h' tk' F' N'
    subst hco
    have hrow' := hrow c hc
    refine' elimG ?h9y2 ?k9y2
    case h9y2 =>
      intro G9 k9
      obtain ⟨hq1, h1, h2, h3, h4, t1, t2, t3, t4, u1, u2, u3, rv', n', hq2, hrem⟩ := id hrow'
      revert hrem
      revert hq2
      revert n'
      revert rv'
      revert u3
      revert u2
      revert u1
      revert t4
      revert t3
      revert t2
      revert t1
      revert h4
      revert h3
      revert h2
      revert h1
      revert hq1
      exact k9
    intro hq1 h1 h2 h3 h4 t1 t2 t3 t4 u1 u2 u3 rv' n' hq2 hrem
    (try k_fold)
    (repeat' (first | (k_unfold; (try dsimp only)) | (k_end; wrow_close) | ((with_reducible show wpAny _ _ (leaving _ _) _ _ _); (first | with_reducible (refine' leave_onS ?k1 ?k2 ?k3 ?k4 ?_; (case k1 => k_asm); (case k3 => assumption); (case k2 => assumption); (case k4 => assumption); intro kyh9 kyR9 _ kyU9; (try dsimp only)) | (refine' leave_onS ?k1 ?k2 ?k3 ?k4 ?_; (case k1 => k_asm); (case k3 => assumption); (case k2 => assumption); (case k4 => assumption); intro kyh9 kyR9 _ kyU9; (try dsimp only)))) | (with_reducible (k_here; refine x_raise rfl ?_; (try k_fold))) | ((with_reducible show wpAny _ _ (leaving _ _) _ _ _); with_reducible (refine' x_leave ?k1 ?k2 ?k3 ?k4 ?k5 ?_; (case k1 => k_asm); (case k2 => k_asm); (case k3 => k_asm); (case k4 => assumption); (case k5 => assumption); intro kyh9 kyR9 kyU9; (try dsimp only))) | (with_reducible (refine' raiseQ_of ?k1 ?k2 ?k3 ?k4 ?_; (case k2 => k_asm); (case k3 => k_asm); (case k4 => k_asm); (case k1 => first | exact exc80 _ | exact exc68 _ | exact exc44 _); (try k_unfold); (try dsimp only))) | ((with_reducible show wpAny _ _ (getMethod (Value.ref _) _ _) _ _ _); with_reducible (k_dflt (refine' m_dmeth ?k1 ?k2 ?k3 ?_; (case k1 => k_asm); (case k2 => k_mem); (case k3 => with_reducible assumption)))) | ((with_reducible show wpAny _ _ (PySem.call _ _ _) _ _ _); with_reducible (k_dflt (refine' m_dpop ?k1 ?k2 ?k3 ?k4 ?k5 ?k6 ?_; (case k1 => k_asm); (case k2 => k_asm); (case k3 => k_mem); (case k4 => with_reducible assumption); (case k5 => with_reducible assumption); (case k6 => (simp only [List.length_map]; omega))); intro kyh' kyo' kyF' kyN' kyhd'; (try k_fold))) | (with_reducible (k_here; (with_reducible show wpAny _ _ (PySem.call (Value.ref 145) _ _) _ _ _); k_dflt (refine' isthere_spec ?c1 ?c2 ?c3 ?c4 ?_; (case c1 => walk_at "cx9"); (case c2 => walk_at "rm9"); (case c3 => (refine' TabR.mono ?r9 ?s9; (case r9 => with_reducible assumption); (case s9 => exact fun q9 h9 _ => (show ∀ q ∈ _, q ∈ _ by walk_at "sub9") q9 h9))); (case c4 => first | with_reducible assumption | exact remR_none | exact remR_some List.mem_cons_self)); intro kyh' kytk' kyF' kyN'; (try k_fold))) | ((with_reducible show wpAny _ _ (setAttr (Value.ref _) _ (Value.ref _)) _ _ _); with_reducible (k_dflt (refine' m_setrem ?k1 ?k2 ?k3 ?k4 ?_; (case k1 => k_asm); (case k2 => k_asm); (case k3 => k_asm); (case k4 => (refine' RowAt.mono ?s9 ?r9; (case r9 => with_reducible assumption); (case s9 => walk_at "sub9")))); intro kyh' kyg1 kyg2 kyg3 kyg4 kyt1 kyt2 kyt3 kyt4 kyu1 kyu2 kyu3 kyrv' kyn' kyhm' kyF' kyN'; (try k_fold))) | (with_reducible (k_here; (with_reducible show wpAny _ _ (PySem.call (Value.ref 68) _ _) _ _ _); k_dflt (refine' xcallN ?c1 ?c2 ?c3 ?_; (case c1 => exact exc68 _); (case c2 => walk_at "cx9"); (case c3 => walk_at "rm9")); intro kye' kyt' kyh' kyd' kytk' kyhlt' kyhte' kyF' kyN'; (try k_fold))) | walk1 | (dsimp only; walk1) | (leave1; try dsimp only)))
    · exact hex2 c hc rfl (by simp_all [thereF]) _ _ _ _ _ _ (by k_asm) (raisedS_sub (by assumption) fun q hq => List.mem_cons_of_mem _ hq) (by assumption)
    · have hb := connect_tab (x := x) (y := y) (tx := tx) (ty := ty) (c := c) (T := _ :: news) (by assumption) (fun q hq => List.mem_cons_of_mem _ hq) hT' hc List.mem_cons_self (by assumption)
      exact hret c hc rfl (by simp_all [thereF]) _ _ _ hb.1 hb.2 (by k_asm) (by k_asm)
  · intro hno
    ((intro kyg2' kye2' kyt2' kymsg' kyh' kytk' kyFg' kyR9 kyU9; (try k_unfold); (try dsimp only)))
    (repeat' (first | (k_unfold; (try dsimp only)) | (k_end; wrow_close) | ((with_reducible show wpAny _ _ (leaving _ _) _ _ _); (first | with_reducible (refine' leave_onS ?k1 ?k2 ?k3 ?k4 ?_; (case k1 => k_asm); (case k3 => assumption); (case k2 => assumption); (case k4 => assumption); intro kyh9 kyR9 _ kyU9; (try dsimp only)) | (refine' leave_onS ?k1 ?k2 ?k3 ?k4 ?_; (case k1 => k_asm); (case k3 => assumption); (case k2 => assumption); (case k4 => assumption); intro kyh9 kyR9 _ kyU9; (try dsimp only)))) | (with_reducible (k_here; refine x_raise rfl ?_; (try k_fold))) | ((with_reducible show wpAny _ _ (leaving _ _) _ _ _); with_reducible (refine' x_leave ?k1 ?k2 ?k3 ?k4 ?k5 ?_; (case k1 => k_asm); (case k2 => k_asm); (case k3 => k_asm); (case k4 => assumption); (case k5 => assumption); intro kyh9 kyR9 kyU9; (try dsimp only))) | (with_reducible (refine' raiseQ_of ?k1 ?k2 ?k3 ?k4 ?_; (case k2 => k_asm); (case k3 => k_asm); (case k4 => k_asm); (case k1 => first | exact exc80 _ | exact exc68 _ | exact exc44 _); (try k_unfold); (try dsimp only))) | ((with_reducible show wpAny _ _ (getMethod (Value.ref _) _ _) _ _ _); with_reducible (k_dflt (refine' m_dmeth ?k1 ?k2 ?k3 ?_; (case k1 => k_asm); (case k2 => k_mem); (case k3 => with_reducible assumption)))) | ((with_reducible show wpAny _ _ (PySem.call _ _ _) _ _ _); with_reducible (k_dflt (refine' m_dpop ?k1 ?k2 ?k3 ?k4 ?k5 ?k6 ?_; (case k1 => k_asm); (case k2 => k_asm); (case k3 => k_mem); (case k4 => with_reducible assumption); (case k5 => with_reducible assumption); (case k6 => (simp only [List.length_map]; omega))); intro kyh' kyo' kyF' kyN' kyhd'; (try k_fold))) | (with_reducible (k_here; (with_reducible show wpAny _ _ (PySem.call (Value.ref 145) _ _) _ _ _); k_dflt (refine' isthere_spec ?c1 ?c2 ?c3 ?c4 ?_; (case c1 => walk_at "cx9"); (case c2 => walk_at "rm9"); (case c3 => (refine' TabR.mono ?r9 ?s9; (case r9 => with_reducible assumption); (case s9 => exact fun q9 h9 _ => (show ∀ q ∈ _, q ∈ _ by walk_at "sub9") q9 h9))); (case c4 => first | with_reducible assumption | exact remR_none | exact remR_some List.mem_cons_self)); intro kyh' kytk' kyF' kyN'; (try k_fold))) | ((with_reducible show wpAny _ _ (setAttr (Value.ref _) _ (Value.ref _)) _ _ _); with_reducible (k_dflt (refine' m_setrem ?k1 ?k2 ?k3 ?k4 ?_; (case k1 => k_asm); (case k2 => k_asm); (case k3 => k_asm); (case k4 => (refine' RowAt.mono ?s9 ?r9; (case r9 => with_reducible assumption); (case s9 => walk_at "sub9")))); intro kyh' kyg1 kyg2 kyg3 kyg4 kyt1 kyt2 kyt3 kyt4 kyu1 kyu2 kyu3 kyrv' kyn' kyhm' kyF' kyN'; (try k_fold))) | (with_reducible (k_here; (with_reducible show wpAny _ _ (PySem.call (Value.ref 68) _ _) _ _ _); k_dflt (refine' xcallN ?c1 ?c2 ?c3 ?_; (case c1 => exact exc68 _); (case c2 => walk_at "cx9"); (case c3 => walk_at "rm9")); intro kye' kyt' kyh' kyd' kytk' kyhlt' kyhte' kyF' kyN'; (try k_fold))) | walk1 | (dsimp only; walk1) | (leave1; try dsimp only)))
    exact hex1 hno _ _ _ _ _ _ (by k_asm) (by assumption) (by assumption)

end
section
variable {prog : Program} {w : World} {A : Around} {E : Value → Shared → Prop} {s : Shared} {h₀ : Heap} {L D : Addr} {news : List (Addr × Obj)} {oD : Obj} {kvs : List (Int × Value)}
theorem m_dmeth {pl : Sem Bool} {Q : Value × List Value → Shared → Prop} (N : News h₀ L s.heap news) (hp : (D, oD) ∈ news) (hd : oD.IsDictOf (intKind prog w) kvs) (h : Q (.builtin "dict.pop", [.ref D]) s) : wpAny (model prog w) A (getMethod (.ref D) "pop" pl) Q E s :=
  have hD := kda_dict N hp hd
  getMethod_builtin hD.typeIs PySem.F.plainAttrs_dict PySem.F.slot_dict_pop PySem.F.type_dict_pop hD.mapOf.noDict h
/-- The table without the owner's row. -/
def dropOw (ow : Int) (crs : List CR) : List CR := crs.filter fun d => decide (d.o ≠ ow)
theorem remove_tab {h : Heap} {tb tdx D : Addr} {oD oD' : Obj} {crs : List CR} {ow : Int} (N : News h₀ L h news) (hT : TabR prog w news tb tdx D oD crs) (hd : oD'.IsDictOf (intKind prog w) (without (crs.map fun c => (c.o, Value.ref c.r)) ow)) :
    TabR prog w ((D, oD') :: del D news) tb tdx D oD' (dropOw ow crs) ∧ ∀ q ∈ news, q.2.cls ≠ .type "dict" → q ∈ ((D, oD') :: del D news) := by
  obtain ⟨h1, ⟨a, b, c, h2⟩, h3, h4, h5, h6, h7, h8⟩ := hT
  have up : ∀ q ∈ news, q.2 ≠ oD → q ∈ ((D, oD') :: del D news) := fun q hq hn => List.mem_cons_of_mem _ (mem_del hq (news_ne N hq h3 hn))
  have nd : ∀ q ∈ news, q.2.cls ≠ .type "dict" → q ∈ ((D, oD') :: del D news) := fun q hq hn => up q hq fun e => hn (by rw [e]; exact dict_cls h5)
  have key : ∀ {k : Int} {v : Value} {x : Str} {t : Tok} {es : List DictEntry} {n : Nat}, dictOf (⟨k, .str x t, v⟩ :: es) n ≠ oD := fun e => dict_strkey (prog := prog) (w := w) (e ▸ h5)
  refine ⟨⟨nd _ h1 (fun e => nomatch e), ⟨a, b, c, up _ h2 key⟩, List.mem_cons_self, h4, ?_, fun c hc => ?_, ?_, ?_⟩, nd⟩
  · have e : without (crs.map fun c => (c.o, Value.ref c.r)) ow = (dropOw ow crs).map fun c => (c.o, Value.ref c.r) := by
      unfold without dropOw
      rw [List.filter_map]
      rfl
    rw [← e]; exact hd
  · obtain ⟨g1, e1, e2, e3, e4, t1, t2, t3, t4, u1, u2, u3, rv, n, g2, g3⟩ := h6 c (List.mem_filter.mp hc).1
    refine ⟨nd _ g1 (fun e => nomatch e), e1, e2, e3, e4, t1, t2, t3, t4, u1, u2, u3, rv, n, up _ g2 key, ?_⟩
    rcases hr : c.rm with _ | x
    · rw [hr] at g3; exact g3
    · rw [hr] at g3
      obtain ⟨t, ta, tp, e, hm⟩ := g3
      exact ⟨t, ta, tp, e, nd _ hm ne_td⟩
  · exact (List.Sublist.map _ List.filter_sublist).nodup h7
  · exact Nat.le_trans (List.length_filter_le _ _) h8
end
--M<
--M>
section
variable {prog : Program} {w : World} {p : Program} {loose : List Str} {mean : ExcName → Option Value} {mg mb : Str → Option Value}
  {dp un : Nat} {gd : Option (List Code)} {cn : Str} {cs : Scope} {fa : Addr} {ccd : Value} {cl : List (Str × Addr)} {outer : List Env} {A₀ : Around} {base h₀ : Heap} {L : Addr} {m : Str → Option Value} {s : Shared} {Q E : Value → Shared → Prop}
  {news : List (Addr × Obj)}

set_option maxHeartbeats 8000000 in
theorem remove_spec {tb tdx D : Addr} {oD : Obj} {crs : List CR} {ow : Int} {to : Tok} (C : Cx w p loose mean mg mb A₀ base h₀ outer L s.heap m news) (R : Rm cs dp un 5) (hT : TabR prog w news tb tdx D oD crs)
  (hret : (∃ c ∈ crs, c.o = ow) → ∀ T' oD' h' tk', TabR prog w T' tb tdx D oD' (dropOw ow crs) → (∀ q ∈ news, q.2.cls ≠ .type "dict" → q ∈ T') → Fr h₀ L h' m → News h₀ L h' T' → Q .none { s with heap := h', toks := tk' })
  (hex1 : (∀ c ∈ crs, c.o ≠ ow) → Exc base h₀ L m (envX cn cs L fa ccd cl :: outer) 80 news s E) :
  wpAny (model prog w) (ktrTop dp un gd cn cs L fa ccd cl outer) (call (.ref 166) [.ref tb, .int ow to]) Q E s := by
  have C' := C
  obtain ⟨B, F, X, N, T⟩ := C'
  have hRd := R.hd
  have hRu := R.hu
  have hT' := hT
  refine' elimG ?h9y1 ?k9y1
  case h9y1 =>
    intro G9 k9
    obtain ⟨hm1, ⟨hs, tk, nn, hm2⟩, hm3, hlo, hD, hrow, hnd, hlen⟩ := id hT
    revert hlen
    revert hnd
    revert hrow
    revert hD
    revert hlo
    revert hm3
    revert hm2
    revert nn
    revert tk
    revert hs
    revert hm1
    exact k9
  intro hm1 hs tk nn hm2 hm3 hlo hD hrow hnd hlen
  try clear hT
  k_dflt (refine' enterK (binds := [(Str.ofString "self", .ref tb), (Str.ofString "owner", .int ow to)]) C R ?k6 ?k7 ?k9 ?kB ?_ ?c2 ?c3 ?c4 ?c5; (((case k6 => k_is); (case k7 => k_is); (case k9 => exact BindsTo.of_eq rfl); (case c5 => decide); (case kB => exact locs rfl); (case c2 => exact rfl); (case c3 => exact rfl); (case c4 => exact rfl); k_whole; intro g' L' h' FG' F' N' B' X' T'; (try dsimp only); (try k_fold))))
  (repeat' (first | (k_unfold; (try dsimp only)) | (k_end; wrow_close) | ((with_reducible show wpAny _ _ (leaving _ _) _ _ _); (first | with_reducible (refine' leave_onS ?k1 ?k2 ?k3 ?k4 ?_; (case k1 => k_asm); (case k3 => assumption); (case k2 => assumption); (case k4 => assumption); intro kyh9 kyR9 _ kyU9; (try dsimp only)) | (refine' leave_onS ?k1 ?k2 ?k3 ?k4 ?_; (case k1 => k_asm); (case k3 => assumption); (case k2 => assumption); (case k4 => assumption); intro kyh9 kyR9 _ kyU9; (try dsimp only)))) | (with_reducible (k_here; refine x_raise rfl ?_; (try k_fold))) | ((with_reducible show wpAny _ _ (leaving _ _) _ _ _); with_reducible (refine' x_leave ?k1 ?k2 ?k3 ?k4 ?k5 ?_; (case k1 => k_asm); (case k2 => k_asm); (case k3 => k_asm); (case k4 => assumption); (case k5 => assumption); intro kyh9 kyR9 kyU9; (try dsimp only))) | (with_reducible (refine' raiseQ_of ?k1 ?k2 ?k3 ?k4 ?_; (case k2 => k_asm); (case k3 => k_asm); (case k4 => k_asm); (case k1 => first | exact exc80 _ | exact exc68 _ | exact exc44 _); (try k_unfold); (try dsimp only))) | ((with_reducible show wpAny _ _ (getMethod (Value.ref _) _ _) _ _ _); with_reducible (k_dflt (refine' m_dmeth ?k1 ?k2 ?k3 ?_; (case k1 => k_asm); (case k2 => k_mem); (case k3 => with_reducible assumption)))) | ((with_reducible show wpAny _ _ (PySem.call _ _ _) _ _ _); with_reducible (k_dflt (refine' m_dpop ?k1 ?k2 ?k3 ?k4 ?k5 ?k6 ?_; (case k1 => k_asm); (case k2 => k_asm); (case k3 => k_mem); (case k4 => with_reducible assumption); (case k5 => with_reducible assumption); (case k6 => (simp only [List.length_map]; omega))); intro kyh' kyo' kyF' kyN' kyhd'; (try k_fold))) | (with_reducible (k_here; (with_reducible show wpAny _ _ (PySem.call (Value.ref 145) _ _) _ _ _); k_dflt (refine' isthere_spec ?c1 ?c2 ?c3 ?c4 ?_; (case c1 => walk_at "cx9"); (case c2 => walk_at "rm9"); (case c3 => (refine' TabR.mono ?r9 ?s9; (case r9 => with_reducible assumption); (case s9 => exact fun q9 h9 _ => (show ∀ q ∈ _, q ∈ _ by walk_at "sub9") q9 h9))); (case c4 => first | with_reducible assumption | exact remR_none | exact remR_some List.mem_cons_self)); intro kyh' kytk' kyF' kyN'; (try k_fold))) | ((with_reducible show wpAny _ _ (setAttr (Value.ref _) _ (Value.ref _)) _ _ _); with_reducible (k_dflt (refine' m_setrem ?k1 ?k2 ?k3 ?k4 ?_; (case k1 => k_asm); (case k2 => k_asm); (case k3 => k_asm); (case k4 => (refine' RowAt.mono ?s9 ?r9; (case r9 => with_reducible assumption); (case s9 => walk_at "sub9")))); intro kyh' kyg1 kyg2 kyg3 kyg4 kyt1 kyt2 kyt3 kyt4 kyu1 kyu2 kyu3 kyrv' kyn' kyhm' kyF' kyN'; (try k_fold))) | (with_reducible (k_here; (with_reducible show wpAny _ _ (PySem.call (Value.ref 68) _ _) _ _ _); k_dflt (refine' xcallN ?c1 ?c2 ?c3 ?_; (case c1 => exact exc68 _); (case c2 => walk_at "cx9"); (case c3 => walk_at "rm9")); intro kye' kyt' kyh' kyd' kytk' kyhlt' kyhte' kyF' kyN'; (try k_fold))) | walk1 | (dsimp only; walk1) | (leave1; try dsimp only)))
  refine row_spec (by walk_at "cx9") (by walk_at "rm9") hT' ?_ ?_
  · intro c hc hco h' tk' F' N'
    subst hco
    have hva := valueAt_crs hnd hc
    (try k_fold)
    (repeat' (first | (k_unfold; (try dsimp only)) | (k_end; wrow_close) | ((with_reducible show wpAny _ _ (leaving _ _) _ _ _); (first | with_reducible (refine' leave_onS ?k1 ?k2 ?k3 ?k4 ?_; (case k1 => k_asm); (case k3 => assumption); (case k2 => assumption); (case k4 => assumption); intro kyh9 kyR9 _ kyU9; (try dsimp only)) | (refine' leave_onS ?k1 ?k2 ?k3 ?k4 ?_; (case k1 => k_asm); (case k3 => assumption); (case k2 => assumption); (case k4 => assumption); intro kyh9 kyR9 _ kyU9; (try dsimp only)))) | (with_reducible (k_here; refine x_raise rfl ?_; (try k_fold))) | ((with_reducible show wpAny _ _ (leaving _ _) _ _ _); with_reducible (refine' x_leave ?k1 ?k2 ?k3 ?k4 ?k5 ?_; (case k1 => k_asm); (case k2 => k_asm); (case k3 => k_asm); (case k4 => assumption); (case k5 => assumption); intro kyh9 kyR9 kyU9; (try dsimp only))) | (with_reducible (refine' raiseQ_of ?k1 ?k2 ?k3 ?k4 ?_; (case k2 => k_asm); (case k3 => k_asm); (case k4 => k_asm); (case k1 => first | exact exc80 _ | exact exc68 _ | exact exc44 _); (try k_unfold); (try dsimp only))) | ((with_reducible show wpAny _ _ (getMethod (Value.ref _) _ _) _ _ _); with_reducible (k_dflt (refine' m_dmeth ?k1 ?k2 ?k3 ?_; (case k1 => k_asm); (case k2 => k_mem); (case k3 => with_reducible assumption)))) | ((with_reducible show wpAny _ _ (PySem.call _ _ _) _ _ _); with_reducible (k_dflt (refine' m_dpop ?k1 ?k2 ?k3 ?k4 ?k5 ?k6 ?_; (case k1 => k_asm); (case k2 => k_asm); (case k3 => k_mem); (case k4 => with_reducible assumption); (case k5 => with_reducible assumption); (case k6 => (simp only [List.length_map]; omega))); intro kyh' kyo' kyF' kyN' kyhd'; (try k_fold))) | (with_reducible (k_here; (with_reducible show wpAny _ _ (PySem.call (Value.ref 145) _ _) _ _ _); k_dflt (refine' isthere_spec ?c1 ?c2 ?c3 ?c4 ?_; (case c1 => walk_at "cx9"); (case c2 => walk_at "rm9"); (case c3 => (refine' TabR.mono ?r9 ?s9; (case r9 => with_reducible assumption); (case s9 => exact fun q9 h9 _ => (show ∀ q ∈ _, q ∈ _ by walk_at "sub9") q9 h9))); (case c4 => first | with_reducible assumption | exact remR_none | exact remR_some List.mem_cons_self)); intro kyh' kytk' kyF' kyN'; (try k_fold))) | ((with_reducible show wpAny _ _ (setAttr (Value.ref _) _ (Value.ref _)) _ _ _); with_reducible (k_dflt (refine' m_setrem ?k1 ?k2 ?k3 ?k4 ?_; (case k1 => k_asm); (case k2 => k_asm); (case k3 => k_asm); (case k4 => (refine' RowAt.mono ?s9 ?r9; (case r9 => with_reducible assumption); (case s9 => walk_at "sub9")))); intro kyh' kyg1 kyg2 kyg3 kyg4 kyt1 kyt2 kyt3 kyt4 kyu1 kyu2 kyu3 kyrv' kyn' kyhm' kyF' kyN'; (try k_fold))) | (with_reducible (k_here; (with_reducible show wpAny _ _ (PySem.call (Value.ref 68) _ _) _ _ _); k_dflt (refine' xcallN ?c1 ?c2 ?c3 ?_; (case c1 => exact exc68 _); (case c2 => walk_at "cx9"); (case c3 => walk_at "rm9")); intro kye' kyt' kyh' kyd' kytk' kyhlt' kyhte' kyF' kyN'; (try k_fold))) | walk1 | (dsimp only; walk1) | (leave1; try dsimp only)))
    have hb := remove_tab N hT' (by assumption)
    exact hret ⟨c, hc, rfl⟩ _ _ _ _ hb.1 hb.2 (by k_asm) (by k_asm)
  · intro hno
    ((intro kyg2' kye2' kyt2' kymsg' kyh' kytk' kyFg' kyR9 kyU9; (try k_unfold); (try dsimp only)))
    (repeat' (first | (k_unfold; (try dsimp only)) | (k_end; wrow_close) | ((with_reducible show wpAny _ _ (leaving _ _) _ _ _); (first | with_reducible (refine' leave_onS ?k1 ?k2 ?k3 ?k4 ?_; (case k1 => k_asm); (case k3 => assumption); (case k2 => assumption); (case k4 => assumption); intro kyh9 kyR9 _ kyU9; (try dsimp only)) | (refine' leave_onS ?k1 ?k2 ?k3 ?k4 ?_; (case k1 => k_asm); (case k3 => assumption); (case k2 => assumption); (case k4 => assumption); intro kyh9 kyR9 _ kyU9; (try dsimp only)))) | (with_reducible (k_here; refine x_raise rfl ?_; (try k_fold))) | ((with_reducible show wpAny _ _ (leaving _ _) _ _ _); with_reducible (refine' x_leave ?k1 ?k2 ?k3 ?k4 ?k5 ?_; (case k1 => k_asm); (case k2 => k_asm); (case k3 => k_asm); (case k4 => assumption); (case k5 => assumption); intro kyh9 kyR9 kyU9; (try dsimp only))) | (with_reducible (refine' raiseQ_of ?k1 ?k2 ?k3 ?k4 ?_; (case k2 => k_asm); (case k3 => k_asm); (case k4 => k_asm); (case k1 => first | exact exc80 _ | exact exc68 _ | exact exc44 _); (try k_unfold); (try dsimp only))) | ((with_reducible show wpAny _ _ (getMethod (Value.ref _) _ _) _ _ _); with_reducible (k_dflt (refine' m_dmeth ?k1 ?k2 ?k3 ?_; (case k1 => k_asm); (case k2 => k_mem); (case k3 => with_reducible assumption)))) | ((with_reducible show wpAny _ _ (PySem.call _ _ _) _ _ _); with_reducible (k_dflt (refine' m_dpop ?k1 ?k2 ?k3 ?k4 ?k5 ?k6 ?_; (case k1 => k_asm); (case k2 => k_asm); (case k3 => k_mem); (case k4 => with_reducible assumption); (case k5 => with_reducible assumption); (case k6 => (simp only [List.length_map]; omega))); intro kyh' kyo' kyF' kyN' kyhd'; (try k_fold))) | (with_reducible (k_here; (with_reducible show wpAny _ _ (PySem.call (Value.ref 145) _ _) _ _ _); k_dflt (refine' isthere_spec ?c1 ?c2 ?c3 ?c4 ?_; (case c1 => walk_at "cx9"); (case c2 => walk_at "rm9"); (case c3 => (refine' TabR.mono ?r9 ?s9; (case r9 => with_reducible assumption); (case s9 => exact fun q9 h9 _ => (show ∀ q ∈ _, q ∈ _ by walk_at "sub9") q9 h9))); (case c4 => first | with_reducible assumption | exact remR_none | exact remR_some List.mem_cons_self)); intro kyh' kytk' kyF' kyN'; (try k_fold))) | ((with_reducible show wpAny _ _ (setAttr (Value.ref _) _ (Value.ref _)) _ _ _); with_reducible (k_dflt (refine' m_setrem ?k1 ?k2 ?k3 ?k4 ?_; (case k1 => k_asm); (case k2 => k_asm); (case k3 => k_asm); (case k4 => (refine' RowAt.mono ?s9 ?r9; (case r9 => with_reducible assumption); (case s9 => walk_at "sub9")))); intro kyh' kyg1 kyg2 kyg3 kyg4 kyt1 kyt2 kyt3 kyt4 kyu1 kyu2 kyu3 kyrv' kyn' kyhm' kyF' kyN'; (try k_fold))) | (with_reducible (k_here; (with_reducible show wpAny _ _ (PySem.call (Value.ref 68) _ _) _ _ _); k_dflt (refine' xcallN ?c1 ?c2 ?c3 ?_; (case c1 => exact exc68 _); (case c2 => walk_at "cx9"); (case c3 => walk_at "rm9")); intro kye' kyt' kyh' kyd' kytk' kyhlt' kyhte' kyF' kyN'; (try k_fold))) | walk1 | (dsimp only; walk1) | (leave1; try dsimp only)))
    exact hex1 hno _ _ _ _ _ _ (by k_asm) (by assumption) (by assumption)
end
def hasOw (ow : Int) (rows : List Row) : Bool := rows.any fun c => decide (c.o = ow)
/-- What a deed does to the rows, or the word of its refusal. -/
def stepF (wd : Str) (o a p : Int) (rows : List Row) : Except Str (List Row) :=
  if wd = Str.ofString "bind" then
    if hasOw o rows then .error "state" else if thereF a p o none rows then .error "port" else .ok (rows ++ [⟨o, a, p, none⟩])
  else if wd = Str.ofString "connect" then
    match rows.find? fun c => decide (c.o = o) with
    | none => .error "state"
    | some c => if thereF c.a c.p o (some (a, p)) rows then .error "port" else .ok (rows.map fun d => if d.o = o then { d with rm := some (a, p) } else d)
  else if hasOw o rows then .ok (rows.filter fun d => decide (d.o ≠ o)) else .error "state"

theorem hasOw_iff {ow : Int} {crs : List CR} : hasOw ow (crs.map CR.toRow) = true ↔ ∃ c ∈ crs, c.o = ow := by
  simp [hasOw, List.any_map]
theorem hasOw_not {ow : Int} {crs : List CR} : hasOw ow (crs.map CR.toRow) = false ↔ ∀ c ∈ crs, c.o ≠ ow := by
  simp [hasOw, List.any_map]
theorem find_crs {ow : Int} {crs : List CR} (hn : (crs.map fun c => c.o).Nodup) {c : CR} (hc : c ∈ crs) (ho : c.o = ow) : (crs.map CR.toRow).find? (fun c => decide (c.o = ow)) = some c.toRow := by
  induction crs with
  | nil => cases hc
  | cons d l ih =>
    rw [List.map_cons, List.nodup_cons] at hn
    rw [List.map_cons, List.find?_cons]
    rcases List.mem_cons.mp hc with rfl | hc
    · simp [ho]
    · have hne : d.o ≠ ow := fun e => hn.1 (List.mem_map.mpr ⟨c, hc, by rw [ho, e]⟩)
      simp only [decide_eq_false hne]
      exact ih hn.2 hc
theorem find_none {ow : Int} {crs : List CR} (h : ∀ c ∈ crs, c.o ≠ ow) : (crs.map CR.toRow).find? (fun c => decide (c.o = ow)) = none := by
  rw [List.find?_eq_none]
  intro x hx
  obtain ⟨c, hc, rfl⟩ := List.mem_map.mp hx
  simpa using h c hc
theorem setRem_rows {ow : Int} {rm : Int × Int} {crs : List CR} : (setRem ow rm crs).map CR.toRow = (crs.map CR.toRow).map fun d => if d.o = ow then { d with rm := some rm } else d := by
  unfold setRem
  rw [List.map_map, List.map_map]
  refine List.map_congr_left fun d _ => ?_
  simp only [Function.comp]
  split <;> rfl
theorem dropOw_rows {ow : Int} {crs : List CR} : (dropOw ow crs).map CR.toRow = (crs.map CR.toRow).filter fun d => decide (d.o ≠ ow) := by
  unfold dropOw
  rw [List.filter_map]
  rfl

section
variable {prog : Program} {w : World} {p : Program} {loose : List Str} {mean : ExcName → Option Value} {mg mb : Str → Option Value}
  {dp un : Nat} {gd : Option (List Code)} {cn : Str} {cs : Scope} {fa : Addr} {ccd : Value} {A₀ : Around} {base h₀ : Heap} {L : Addr} {m : Str → Option Value} {s : Shared} {Q E : Value → Shared → Prop}
  {news : List (Addr × Obj)}

set_option maxHeartbeats 8000000 in
theorem done_spec {tb tdx D dd : Addr} {oD : Obj} {crs : List CR} {wd : Str} {o a b : Int} {tw t1 t2 t3 : Tok} (C : Cx w p loose mean mg mb A₀ base h₀ [] L s.heap m news) (R : Rm cs dp un 6) (XB : (hd.heap_1 w.params).In base) (TB : Top p loose mean mg mb base)
  (hT : TabR prog w news tb tdx D oD crs) (hlt : crs.length < 60) (hdd : (dd, tupO [.str wd tw, .int o t1, .int a t2, .int b t3]) ∈ news) (hwd : wd = Str.ofString "bind" ∨ wd = Str.ofString "connect" ∨ wd = Str.ofString "remove")
  (hret1 : ∀ e t h' tk', stepF wd o a b (crs.map CR.toRow) = .error e → Fr h₀ L h' m → News h₀ L h' news → Q (.str e t) { s with heap := h', toks := tk' })
  (hret2 : ∀ T' oD' crs' h' tk', stepF wd o a b (crs.map CR.toRow) = .ok (crs'.map CR.toRow) → TabR prog w T' tb tdx D oD' crs' → (∀ q ∈ news, q.2.cls ≠ .type "dict" → q ∈ T') → Fr h₀ L h' m → News h₀ L h' T' → Q .none { s with heap := h', toks := tk' }) :
  wpAny (model prog w) (ktrTop dp un gd cn cs L fa ccd [] []) (call (.ref 350) [.ref tb, .ref dd]) Q E s := by
  obtain ⟨B, F, X, N, T⟩ := C
  have hRd := R.hd
  have hRu := R.hu
  refine wpAny_call ?_
  k_dflt (refine' code_defS0 (binds := [(Str.ofString "table", .ref tb), (Str.ofString "deed", .ref dd)]) B F X N T rfl ?k6 ?k7 (Nat.lt_of_le_of_lt (Nat.le_add_right _ _) R.hd) ?k9 ?kB ?_ R.hk ?c2 ?c3 ?c4 ?c5; (case k6 => k_is); (case k7 => k_is); (case k9 => exact BindsTo.of_eq rfl); (case c5 => decide); (case kB => exact locs rfl); (case c2 => exact rfl); (case c3 => exact rfl); (case c4 => exact rfl); k_whole; intro g' L' h' FG' F' N' B' X' T' D'; (try dsimp only); (try k_fold))
  have hT' := hT
  refine' elimG ?h9y1 ?k9y1
  case h9y1 =>
    intro G9 k9
    obtain ⟨hm1, ⟨hs, tk, nn, hm2⟩, hm3, hlo, hD, hrow, hnd, hlen⟩ := id hT
    revert hlen
    revert hnd
    revert hrow
    revert hD
    revert hlo
    revert hm3
    revert hm2
    revert nn
    revert tk
    revert hs
    revert hm1
    exact k9
  intro hm1 hs tk nn hm2 hm3 hlo hD hrow hnd hlen
  try clear hT
  have ncb : ¬ Str.ofString "connect" = Str.ofString "bind" := by decide
  have nrb : ¬ Str.ofString "remove" = Str.ofString "bind" := by decide
  have nrc : ¬ Str.ofString "remove" = Str.ofString "connect" := by decide
  rcases hwd with rfl | rfl | rfl
  · k_steps
    refine bind_spec (by walk_at "cx9") (by walk_at "rm9") hT' hlt ?_ ?_ ?_
    · intro hno hth T9 oD9 c9 h9 tk9 he9 hT9 hk9 F9 N9
      (try k_fold)
      k_steps
      exact hret2 _ _ _ _ _ (by rw [stepF, if_pos rfl, hasOw_not.mpr hno, hth, List.map_append, List.map_cons, he9]; rfl) hT9 hk9 (by k_asm) (by k_asm)
    · intro he
      ((intro kyg2' kye2' kyt2' kymsg' kyh' kytk' kyFg' kyR9 kyU9; (try k_unfold); (try dsimp only)))
      k_steps
      exact hret1 _ _ _ _ (by rw [stepF, if_pos rfl, hasOw_iff.mpr he]; rfl) (by k_asm) (by k_asm)
    · intro hno hth
      ((intro kyg2' kye2' kyt2' kymsg' kyh' kytk' kyFg' kyR9 kyU9; (try k_unfold); (try dsimp only)))
      k_steps
      exact hret1 _ _ _ _ (by rw [stepF, if_pos rfl, hasOw_not.mpr hno, hth]; rfl) (by k_asm) (by k_asm)
  · k_steps
    refine connect_spec (by walk_at "cx9") (by walk_at "rm9") hT' ?_ ?_ ?_
    · intro c hc hco hth T9 h9 tk9 hT9 hk9 F9 N9
      (try k_fold)
      k_steps
      exact hret2 _ _ _ _ _ (by rw [stepF, if_neg ncb, if_pos rfl, find_crs hnd hc hco]; dsimp only; rw [hth, setRem_rows]; rfl) hT9 hk9 (by k_asm) (by k_asm)
    · intro he
      ((intro kyg2' kye2' kyt2' kymsg' kyh' kytk' kyFg' kyR9 kyU9; (try k_unfold); (try dsimp only)))
      k_steps
      exact hret1 _ _ _ _ (by rw [stepF, if_neg ncb, if_pos rfl, find_none he]) (by k_asm) (by k_asm)
    · intro c hc hco hth
      ((intro kyg2' kye2' kyt2' kymsg' kyh' kytk' kyFg' kyR9 kyU9; (try k_unfold); (try dsimp only)))
      k_steps
      exact hret1 _ _ _ _ (by rw [stepF, if_neg ncb, if_pos rfl, find_crs hnd hc hco]; dsimp only; rw [hth]; rfl) (by k_asm) (by k_asm)
  · k_steps
    refine remove_spec (by walk_at "cx9") (by walk_at "rm9") hT' ?_ ?_
    · intro he T9 oD9 h9 tk9 hT9 hk9 F9 N9
      (try k_fold)
      k_steps
      exact hret2 _ _ _ _ _ (by rw [stepF, if_neg nrb, if_neg nrc, hasOw_iff.mpr he, dropOw_rows]; rfl) hT9 hk9 (by k_asm) (by k_asm)
    · intro he
      ((intro kyg2' kye2' kyt2' kymsg' kyh' kytk' kyFg' kyR9 kyU9; (try k_unfold); (try dsimp only)))
      k_steps
      exact hret1 _ _ _ _ (by rw [stepF, if_neg nrb, if_neg nrc, hasOw_not.mpr he]; rfl) (by k_asm) (by k_asm)
end
section
variable {prog : Program} {w : World} {A : Around} {E : Value → Shared → Prop} {s : Shared} {h₀ : Heap} {L t : Addr} {news : List (Addr × Obj)} {u : Tok} {Q : Value → Shared → Prop}
theorem m_titem {vs : List Value} {k : Int} {j : Nat} {v : Value} {value slice : Expr} (N : News h₀ L s.heap news) (hm : (t, tupO vs) ∈ news) (h0 : 0 ≤ k) (h1 : k < 64) (hj : seqIndex? k vs.length = some j) (hx : vs[j]? = some v) (h : Q v s)
    (hs : subscripted slice false (.ref t) (.int k u) = operate [.ref t, .int k u] (getItem (.ref t) (.int k u)) := by with_unfolding_all rfl) : wpAny (model prog w) A (subscriptTail value slice (.ref t) (.int k u)) Q E s :=
  item_tupleT ⟨_, (N _ hm).1, rfl, _, rfl⟩ (by omega) (by omega) hj hx h hs
end
theorem ne_cell {L' c : Addr} {news : List (Addr × Obj)} (h : ∀ p ∈ news, p.1 < L') (hc : @LT.lt Nat _ L' c) : ∀ p ∈ news, p.1 ≠ c := fun p hp => Nat.ne_of_lt (Nat.lt_trans (h p hp) hc)
--M<
local macro_rules | `(tactic| k_all) => `(tactic| first | with_reducible assumption | exact allNe_of_lt (by with_reducible assumption) | exact ne_cell (by with_reducible assumption) (by omega))
local macro_rules | `(tactic| walk_at "CompSrcT") => `(tactic| (k_here; k_dflt (refine LCt.CompSrcT.ledger (by rfl) (by k_asm) (by k_asm) (by k_mem) ?sz9 ?_; (case sz9 => ((simp only [List.size_toArray, List.length_map, sizeLine]; omega))); intro g'; (try dsimp only))))
--M>
def RowT (T : List (Addr × Obj)) (t : Addr) (c : Row) : Prop := ∃ t1 t2 t3 rv, (t, tupO [.int c.o t1, .int c.a t2, .int c.p t3, rv]) ∈ T ∧ RemR T rv c.rm
theorem RowT.mono {T T' : List (Addr × Obj)} (h : ∀ q ∈ T, q ∈ T') {t : Addr} {c : Row} : RowT T t c → RowT T' t c
  | ⟨t1, t2, t3, rv, hm, hr⟩ => ⟨t1, t2, t3, rv, h _ hm, hr.mono h⟩
abbrev rowsO (trs : List (Addr × Row)) (n : Nat) : Obj := listOf (trs.map fun q => Value.ref q.1).toArray n
def PyRows (T : List (Addr × Obj)) (r : Addr) (trs : List (Addr × Row)) : Prop := (∃ n, (r, rowsO trs n) ∈ T) ∧ ∀ q ∈ trs, RowT T q.1 q.2

section
open LCg LCt
variable {prog : Program} {w : World} {A : Around} {E : Value → Shared → Prop} {s : Shared} {h₀ : Heap} {L : Addr} {m : Str → Option Value} {env : Env}

theorem filt_rest {ct : Expr} {px : Pos} {x : Str} {scope : Scope} {cl : List (Str × Addr)} {S : List (Addr × Obj) → Prop} {Fin : List Value → List (Addr × Obj) → Prop} {T : List (Addr × Obj)} {trs : List (Addr × Row)} (keep : Row → Bool)
    (hS : S T) (hk : (compEnvC scope cl 0 env).scope.kind = .function) (hl : (compEnvC scope cl 0 env).kindOf x = some .local) (hd : (x == ("__debug__" : Str)) = false)
    (hstep : ∀ q ∈ trs, ∀ ys I oI C oC D m₂ h tk (E' : Value → Shared → Prop), NsObj oC m₂ → m₂ x = some (.ref q.1) → Fr h₀ L h m → News h₀ L h ((I, oI) :: (C, oC) :: (D, lst ys) :: T) →
      wpAny (model prog w) A (isTrue ct (compEnvC scope cl C env) (eval ct (compEnvC scope cl C env))) (fun ok s' => ∃ h' tk', ok = keep q.2 ∧ s' = { s with heap := h', toks := tk' } ∧ Fr h₀ L h' m ∧ News h₀ L h' ((I, oI) :: (C, oC) :: (D, lst ys) :: T)) E' { s with heap := h, toks := tk })
    (hfin : Fin ((trs.filter fun q => keep q.2).map fun q => Value.ref q.1) T) :
    CompRestT prog w A h₀ L m env ct (.Name x px) x scope cl s S (fun i v => (trs.map fun q => Value.ref q.1).toArray[i]? = some v) Fin (trs.map fun q => Value.ref q.1).toArray.size 0 [] T := by
  have main : ∀ k i, i + k = trs.length → CompRestT prog w A h₀ L m env ct (.Name x px) x scope cl s S (fun i v => (trs.map fun q => Value.ref q.1).toArray[i]? = some v) Fin k i (((trs.take i).filter fun q => keep q.2).map fun q => Value.ref q.1) T := by
    intro k
    induction k with
    | zero =>
      intro i hi
      refine CompRestT.zero ?_
      rw [List.take_of_length_le (by omega)]
      exact hfin
    | succ k ih =>
      intro i hi
      refine CompRestT.succ fun v I oI C oC D m₂ h tk E' hv hC hx F N off ne => ?_
      have hlt : i < trs.length := by omega
      refine' elimG ?h9y1 ?k9y1
      case h9y1 =>
        have h9z : ∃ q, trs[i]? = some q := ⟨trs[i], List.getElem?_eq_getElem hlt⟩
        intro G9 k9
        obtain ⟨q, hq⟩ := h9z
        revert hq
        revert q
        exact k9
      intro q hq
      have hv' : v = .ref q.1 := by
        rw [List.getElem?_toArray, List.getElem?_map, hq] at hv
        exact (Option.some.inj hv).symm
      subst hv'
      have hqm := List.mem_of_getElem? hq
      have ih' := ih (i + 1) (by omega)
      rw [List.take_add_one, hq] at ih'
      refine wpAny_mono (hstep q hqm _ I oI C oC D m₂ h tk E' hC hx F N) ?_ fun _ _ e => e
      rintro ok s' ⟨h', tk', rfl, rfl, F', N'⟩
      cases hkq : keep q.2 with
      | true =>
        simp only [if_true]
        refine LCgL.ld_own (s := { s with heap := h', toks := tk' }) N' (List.mem_cons_of_mem _ List.mem_cons_self) hC hx ?_ hk hl hd
        refine CompEnd.intro (s₁ := { s with heap := h, toks := tk }) F' N' T (fun _ hp => hp) off hS ?_
        simpa [List.filter_append, hkq] using ih'
      | false =>
        simp only [Bool.false_eq_true, if_false]
        refine CompEnd.intro (s₁ := { s with heap := h, toks := tk }) F' N' T (fun _ hp => hp) off hS ?_
        simpa [List.filter_append, hkq] using ih'
  have h := main trs.length 0 (by omega)
  rw [List.size_toArray, List.length_map]
  exact h
end

section
open LCg
variable {prog : Program} {w : World} {A : Around} {E : Value → Shared → Prop} {s : Shared} {h₀ : Heap} {L : Addr} {m : Str → Option Value} {env : Env}
theorem map_rest {elt : Expr} {x : Str} {scope : Scope} {cl : List (Str × Addr)} {S : List (Addr × Obj) → Prop} {Fin : List Value → List (Addr × Obj) → Prop} {T : List (Addr × Obj)} {trs : List (Addr × Row)} (g : Addr × Row → Value) (hS : S T)
    (hstep : ∀ q ∈ trs, ∀ ys I oI C oC D m₂ h tk (E' : Value → Shared → Prop), NsObj oC m₂ → m₂ x = some (.ref q.1) → Fr h₀ L h m → News h₀ L h ((I, oI) :: (C, oC) :: (D, lst ys) :: T) →
      wpAny (model prog w) A (eval elt (compEnvC scope cl C env)) (fun y s' => ∃ h' tk', y = g q ∧ s' = { s with heap := h', toks := tk' } ∧ Fr h₀ L h' m ∧ News h₀ L h' ((I, oI) :: (C, oC) :: (D, lst ys) :: T)) E' { s with heap := h, toks := tk })
    (hfin : Fin (trs.map g) T) :
    CompRest prog w A h₀ L m env elt x scope cl s S (fun i v => (trs.map fun q => Value.ref q.1).toArray[i]? = some v) Fin (trs.map fun q => Value.ref q.1).toArray.size 0 [] T := by
  have main : ∀ k i, i + k = trs.length → CompRest prog w A h₀ L m env elt x scope cl s S (fun i v => (trs.map fun q => Value.ref q.1).toArray[i]? = some v) Fin k i ((trs.take i).map g) T := by
    intro k
    induction k with
    | zero =>
      intro i hi
      refine CompRest.zero ?_
      rw [List.take_of_length_le (by omega)]
      exact hfin
    | succ k ih =>
      intro i hi
      refine CompRest.succ fun v I oI C oC D m₂ h tk E' hv hC hx F N off ne => ?_
      have hlt : i < trs.length := by omega
      refine' elimG ?h9y1 ?k9y1
      case h9y1 =>
        have h9z : ∃ q, trs[i]? = some q := ⟨trs[i], List.getElem?_eq_getElem hlt⟩
        intro G9 k9
        obtain ⟨q, hq⟩ := h9z
        revert hq
        revert q
        exact k9
      intro q hq
      have hv' : v = .ref q.1 := by
        rw [List.getElem?_toArray, List.getElem?_map, hq] at hv
        exact (Option.some.inj hv).symm
      subst hv'
      have ih' := ih (i + 1) (by omega)
      rw [List.take_add_one, hq] at ih'
      refine wpAny_mono (hstep q (List.mem_of_getElem? hq) _ I oI C oC D m₂ h tk E' hC hx F N) ?_ fun _ _ e => e
      rintro y s' ⟨h', tk', rfl, rfl, F', N'⟩
      refine CompEnd.intro (s₁ := { s with heap := h, toks := tk }) F' N' T (fun _ hp => hp) off hS ?_
      simpa using ih'
  have h := main trs.length 0 (by omega)
  rw [List.size_toArray, List.length_map]
  exact h
end

def rowDt (c : Row) : PyData := .tuple [.int c.o, .int c.a, .int c.p, remD c.rm]
theorem shaped_rows : ∀ trs : List (Addr × Row), SeqAt.shaped (.list (trs.map fun q => rowDt q.2)) = true := by
  intro trs
  have h1 : ∀ l : List (Addr × Row), PyData.canLayAll0 (l.map fun q => rowDt q.2) = true ∧ PyData.depthAll (l.map fun q => rowDt q.2) ≤ 3 := by
    intro l
    induction l with
    | nil => simp [PyData.canLayAll0, PyData.depthAll]
    | cons q l ih =>
      have hd : PyData.canLay0 (rowDt q.2) = true ∧ PyData.depth (rowDt q.2) ≤ 3 := by
        unfold rowDt
        rcases hq : q.2.rm with _ | ⟨a, b⟩ <;> simp [remD, PyData.canLay0, PyData.canLayAll0, PyData.depth, PyData.depthAll]
      rw [List.map_cons]
      unfold PyData.canLayAll0 PyData.depthAll
      rw [hd.1, ih.1]
      exact ⟨rfl, Nat.max_le.mpr ⟨hd.2, ih.2⟩⟩
  have := h1 trs
  simp [SeqAt.shaped, PyData.canLay0, PyData.depth, this.1]
  omega
section
variable {prog : Program} {w : World} {A : Around} {E : Value → Shared → Prop} {s : Shared} {h₀ : Heap} {L l e l1 l2 : Addr} {news : List (Addr × Obj)} {n k : Nat} {Q : Value → Shared → Prop}
theorem reads_rows (N : News h₀ L s.heap news) : ∀ {trs : List (Addr × Row)}, (∀ q ∈ trs, RowT news q.1 q.2) → ReadsAll s.heap (trs.map fun q => Value.ref q.1) (trs.map fun q => rowDt q.2) []
  | [], _ => .nil
  | q :: r, h => by
    obtain ⟨t1, t2, t3, rv, hm, hr⟩ := h q List.mem_cons_self
    exact .cons (.tuple (N _ hm).1 rfl rfl (.cons (.int _ _) (.cons (.int _ _) (.cons (.int _ _) (.cons (rem_reads N hr) .nil))))) (reads_rows N fun q hq => h q (List.mem_cons_of_mem _ hq))
theorem eqv_rows_nil (trs : List (Addr × Row)) : PyData.eqv (.list (trs.map fun q => rowDt q.2)) (.list []) = trs.isEmpty := by
  cases trs <;> simp [PyData.eqv, PyData.eqvAll]
theorem m_eqNil {trs : List (Addr × Row)} {b : Bool} (N : News h₀ L s.heap news) (hl : (l, rowsO trs n) ∈ news) (he : (e, listOf #[] k) ∈ news) (hr : ∀ q ∈ trs, RowT news q.1 q.2) (hb : trs.isEmpty = b) (hu : A.units + 64 < cLine) (h : Q (.bool b) s) :
    wpAny (model prog w) A (compareOp .Eq (.ref l) (.ref e)) Q E s :=
  eq_dataH (.list (N _ hl).1 rfl rfl (by rw [List.toList_toArray]; exact reads_rows N hr)) (.list (N _ he).1 rfl rfl .nil) (shaped_rows _) (by decide) hu (by rw [eqv_rows_nil, hb]; exact h)
theorem m_neNil {trs : List (Addr × Row)} {b : Bool} (N : News h₀ L s.heap news) (hl : (l, rowsO trs n) ∈ news) (he : (e, listOf #[] k) ∈ news) (hr : ∀ q ∈ trs, RowT news q.1 q.2) (hb : trs.isEmpty = !b) (hu : A.units + 64 < cLine) (h : Q (.bool b) s) :
    wpAny (model prog w) A (compareOp .NotEq (.ref l) (.ref e)) Q E s :=
  ne_dataH (.list (N _ hl).1 rfl rfl (by rw [List.toList_toArray]; exact reads_rows N hr)) (.list (N _ he).1 rfl rfl .nil) (shaped_rows _) (by decide) hu (by rw [eqv_rows_nil, hb, Bool.not_not]; exact h)
theorem m_eq3 {x1 y1 x2 y2 : Int} {t1 t2 u1 u2 : Tok} {v1 v2 : Value} {r1 r2 : Option (Int × Int)} (N : News h₀ L s.heap news) (h1 : (l1, tupO [.int x1 t1, .int y1 t2, v1]) ∈ news) (h2 : (l2, tupO [.int x2 u1, .int y2 u2, v2]) ∈ news)
    (hr1 : RemR news v1 r1) (hr2 : RemR news v2 r2) (hu : A.units + 64 < cLine) (h : Q (.bool (decide (x1 = x2 ∧ y1 = y2 ∧ r1 = r2))) s) : wpAny (model prog w) A (compareOp .Eq (.ref l1) (.ref l2)) Q E s := by
  refine eq_dataH (.tuple (N _ h1).1 rfl rfl (.cons (.int _ _) (.cons (.int _ _) (.cons (rem_reads N hr1) .nil)))) (.tuple (N _ h2).1 rfl rfl (.cons (.int _ _) (.cons (.int _ _) (.cons (rem_reads N hr2) .nil)))) ?_ ?_ hu ?_
  · rcases r1 with _ | ⟨a, b⟩ <;> simp [remD, SeqAt.shaped, PyData.canLay0, PyData.canLayAll0, PyData.depth, PyData.depthAll]
  · rcases r2 with _ | ⟨a, b⟩ <;> simp [remD, SeqAt.shaped, PyData.canLay0, PyData.canLayAll0, PyData.depth, PyData.depthAll]
  · have e : PyData.eqv (.tuple [.int x1, .int y1, remD r1]) (.tuple [.int x2, .int y2, remD r2]) = decide (x1 = x2 ∧ y1 = y2 ∧ r1 = r2) := by
      simp only [PyData.eqv, PyData.eqvAll, eqv_rem]
      rw [Bool.eq_iff_iff]
      simp [and_assoc]
    rw [e]; exact h
end
section
variable {prog : Program} {w : World} {A : Around} {E : Value → Shared → Prop} {s : Shared} {h₀ : Heap} {L l b t : Addr} {m : Str → Option Value} {news : List (Addr × Obj)} {n k : Nat} {Q : Value → Shared → Prop}
theorem m_slice4 {value slice : Expr} {v0 v1 v2 v3 : Value} {u : Tok} (F : Fr h₀ L s.heap m) (N : News h₀ L s.heap news) (hm : (t, tupO [v0, v1, v2, v3]) ∈ news)
    (h : ∀ l' h', Fr h₀ L h' m → News h₀ L h' ((l', tupO [v1, v2, v3]) :: news) → Q (.ref l') { s with heap := h' })
    (hs : subscripted slice false (.ref t) (.ref s.heap.objs.size) = operate [.ref s.heap.objs.size, .ref t] (getItem (.ref t) (.ref s.heap.objs.size)) := by with_unfolding_all rfl)
    (hg : ∀ r, letTemporaryGo value (.ref t) r = pure () := by intro _; with_unfolding_all rfl) :
    wpAny (model prog w) A (subscriptTail value slice (.ref t) (.ref s.heap.objs.size)) Q E { s with heap := s.heap.push { cls := .type "slice", data := .fields #[.int 1 u, .none, .none] } } :=
  slice_tuple_from (a := 1) (items := #[v0, v1, v2, v3]) F N ⟨_, (N _ hm).1, rfl, _, rfl⟩ (by decide) (Nat.le_of_ble_eq_true rfl) (fun h' F' N' => h _ h' F' N') hs hg (Nat.le_of_ble_eq_true rfl)
theorem m_addRows {trs : List (Addr × Row)} (F : Fr h₀ L s.heap m) (N : News h₀ L s.heap news) (h1 : (l, rowsO trs n) ∈ news) (h2 : (b, listOf #[.ref t] k) ∈ news) (hlt : trs.length < 60)
    (h : ∀ l' h', Fr h₀ L h' m → News h₀ L h' ((l', listOf (trs.map (fun (q : Addr × Row) => Value.ref q.1) ++ [Value.ref t]).toArray 0) :: news) → Q (.ref l') { s with heap := h' }) : wpAny (model prog w) A (binaryOp .Add (.ref l) (.ref b)) Q E s :=
  add_lists F N ⟨_, (N _ h1).1, rfl, _, rfl⟩ ⟨_, (N _ h2).1, rfl, _, rfl⟩ (fun h' F' N' => h _ h' F' N') (by rw [List.length_map]; show _ + 1 ≤ sizeLine; unfold sizeLine; omega)
end
theorem there_mm {trs mo mm : List (Addr × Row)} {x y o : Int} {rm : Option (Int × Int)} (hmo : trs.filter (fun q => q.2.o != o) = mo) (hmm : mo.filter (fun q => decide (q.2.a = x ∧ q.2.p = y ∧ q.2.rm = rm)) = mm) :
    thereF x y o rm (trs.map fun q => q.2) = !mm.isEmpty := by
  subst hmo
  subst hmm
  rw [Bool.eq_iff_iff]
  simp [thereF, thereC, List.isEmpty_iff, List.filter_eq_nil_iff]
  constructor
  · rintro ⟨a, r, h1, h2, h3, h4, h5⟩
    exact ⟨a, r, h1, h3, h4, h5, h2⟩
  · rintro ⟨a, r, h1, h2, h3, h4, h5⟩
    exact ⟨a, r, h1, h5, h2, h3, h4⟩
theorem find_mf {trs mf : List (Addr × Row)} {o : Int} (hmf : trs.filter (fun q => decide (q.2.o = o)) = mf) : ((trs.map fun q => q.2).find? fun c => decide (c.o = o)) = mf.head?.map fun q => q.2 := by
  rw [← hmf, List.head?_filter, List.find?_map]
  rfl
theorem has_mf {trs mf : List (Addr × Row)} {o : Int} (hmf : trs.filter (fun q => decide (q.2.o = o)) = mf) : hasOw o (trs.map fun q => q.2) = !mf.isEmpty := by
  subst hmf
  rw [Bool.eq_iff_iff]
  simp [hasOw, List.isEmpty_iff, List.filter_eq_nil_iff]
theorem filt_mo {trs mo : List (Addr × Row)} {o : Int} (hmo : trs.filter (fun q => q.2.o != o) = mo) : ((trs.map fun q => q.2).filter fun d => decide (d.o ≠ o)) = mo.map fun q => q.2 := by
  subst hmo
  rw [List.filter_map]
  congr 1
  refine List.filter_congr fun q _ => ?_
  simp [bne, Function.comp]
  rw [Bool.eq_iff_iff]
  simp
theorem nd_eq {trs : List (Addr × Row)} (hnd : (trs.map fun q => q.2.o).Nodup) {q q' : Addr × Row} (h1 : q ∈ trs) (h2 : q' ∈ trs) (e : q.2.o = q'.2.o) : q = q' := by
  induction trs with
  | nil => cases h1
  | cons x l ih =>
    rw [List.map_cons, List.nodup_cons] at hnd
    rcases List.mem_cons.mp h1 with rfl | k1 <;> rcases List.mem_cons.mp h2 with rfl | k2
    · rfl
    · exact absurd (List.mem_map.mpr ⟨q', k2, e.symm⟩ : q.2.o ∈ l.map fun q => q.2.o) hnd.1
    · exact absurd (List.mem_map.mpr ⟨q, k1, e⟩ : q'.2.o ∈ l.map fun q => q.2.o) hnd.1
    · exact ih hnd.2 k1 k2
theorem conn_map {tn : Addr} {trs : List (Addr × Row)} {o a b : Int} : ((trs.map fun q => q.2).map fun d => if d.o = o then { d with rm := some (a, b) } else d) = (trs.map fun q => if q.2.o = o then (tn, ({ q.2 with rm := some (a, b) } : Row)) else q).map fun q => q.2 := by
  rw [List.map_map, List.map_map]
  refine List.map_congr_left fun q _ => ?_
  simp only [Function.comp]
  split <;> rfl
theorem conn_rows {D tn tr : Addr} {news : List (Addr × Obj)} {trs mf : List (Addr × Row)} {q0 : Addr × Row} {o a b : Int} {t1 t2 t3 w2 w3 : Tok}
    (hmf : trs.filter (fun q => decide (q.2.o = o)) = q0 :: mf) (hnd : (trs.map fun q => q.2.o).Nodup) (hR : ∀ q ∈ trs, RowT news q.1 q.2) :
    PyRows ((D, LCg.lst (trs.map fun q => if q.2.o = o then Value.ref tn else Value.ref q.1)) :: (tn, tupO [.int o t1, .int q0.2.a w2, .int q0.2.p w3, .ref tr]) :: (tr, tupO [.int a t2, .int b t3]) :: news) D
      (trs.map fun q => if q.2.o = o then (tn, ({ q.2 with rm := some (a, b) } : Row)) else q) := by
  have hq0 : q0 ∈ trs ∧ q0.2.o = o := by
    have := List.mem_filter.mp (hmf ▸ List.mem_cons_self : q0 ∈ trs.filter _)
    simpa using this
  refine ⟨⟨(trs.map fun q => if q.2.o = o then Value.ref tn else Value.ref q.1).length, ?_⟩, ?_⟩
  · have e : (trs.map fun q => if q.2.o = o then (tn, ({ q.2 with rm := some (a, b) } : Row)) else q).map (fun q => Value.ref q.1) = trs.map fun q => if q.2.o = o then Value.ref tn else Value.ref q.1 := by
      rw [List.map_map]
      refine List.map_congr_left fun q _ => ?_
      simp only [Function.comp]
      split <;> rfl
    unfold rowsO
    rw [e]
    exact List.mem_cons_self
  · intro x hx
    obtain ⟨q, hq, rfl⟩ := List.mem_map.mp hx
    by_cases hqo : q.2.o = o
    · rw [if_pos hqo]
      obtain rfl := nd_eq hnd hq hq0.1 (hqo.trans hq0.2.symm)
      subst hqo
      exact ⟨t1, w2, w3, _, List.mem_cons_of_mem _ List.mem_cons_self, tr, t2, t3, rfl, List.mem_cons_of_mem _ (List.mem_cons_of_mem _ List.mem_cons_self)⟩
    · rw [if_neg hqo]
      exact (hR q hq).mono fun p hp => List.mem_cons_of_mem _ (List.mem_cons_of_mem _ (List.mem_cons_of_mem _ hp))
theorem map_new {prog : Program} {w : World} {A : Around} {s : Shared} {h₀ : Heap} {L tn : Addr} {oc : Obj} {m : Str → Option Value} {env : Env} {elt : Expr} {x : Str} {scope : Scope} {cl : List (Str × Addr)} {S : List (Addr × Obj) → Prop} {Fin : List Value → List (Addr × Obj) → Prop} {T : List (Addr × Obj)} {trs : List (Addr × Row)} (o : Int) (hc : oc.data = .cell (some (.ref tn))) (hS : S T)
    (hstep : ∀ q ∈ trs, ∀ ys I oI C oC D m₂ h tk (E' : Value → Shared → Prop), LCg.NsObj oC m₂ → m₂ x = some (.ref q.1) → Fr h₀ L h m → News h₀ L h ((I, oI) :: (C, oC) :: (D, LCg.lst ys) :: T) →
      wpAny (model prog w) A (eval elt (compEnvC scope cl C env)) (fun y s' => ∃ h' tk', y = (if q.2.o = o then Value.ref tn else Value.ref q.1) ∧ s' = { s with heap := h', toks := tk' } ∧ Fr h₀ L h' m ∧ News h₀ L h' ((I, oI) :: (C, oC) :: (D, LCg.lst ys) :: T)) E' { s with heap := h, toks := tk })
    (hfin : Fin (trs.map fun q => if q.2.o = o then Value.ref tn else Value.ref q.1) T) :
    LCg.CompRest prog w A h₀ L m env elt x scope cl s S (fun i v => (trs.map fun q => Value.ref q.1).toArray[i]? = some v) Fin (trs.map fun q => Value.ref q.1).toArray.size 0 [] T :=
  map_rest (fun q => if q.2.o = o then Value.ref tn else Value.ref q.1) hS hstep hfin
theorem rowsT_mono {T T' : List (Addr × Obj)} (h : ∀ q ∈ T, q ∈ T') {trs : List (Addr × Row)} (hr : ∀ q ∈ trs, RowT T q.1 q.2) : ∀ q ∈ trs, RowT T' q.1 q.2 := fun q hq => (hr q hq).mono h
--M<
local macro_rules | `(tactic| walk_at "CompSrc") => `(tactic| (k_here; k_dflt (refine LCg.CompSrc.ledger (by rfl) (by k_asm) (by k_asm) (by k_mem) ?sz9 ?_; (case sz9 => ((simp only [List.size_toArray, List.length_map, sizeLine]; omega))); intro g'; (try dsimp only))))
local macro_rules | `(tactic| walk_at "memR9") => `(tactic| with_reducible (first | assumption | exact List.mem_cons_self | (refine List.mem_cons_of_mem _ ?_; walk_at "memR9")))
--M>
section
variable {prog : Program} {w : World} {p : Program} {loose : List Str} {mean : ExcName → Option Value} {mg mb : Str → Option Value}
  {dp un : Nat} {gd : Option (List Code)} {cn : Str} {cs : Scope} {fa : Addr} {ccd : Value} {cl : List (Str × Addr)} {outer : List Env} {A₀ : Around} {base h₀ : Heap} {L : Addr} {m : Str → Option Value} {s : Shared} {Q E : Value → Shared → Prop}
  {news : List (Addr × Obj)}

set_option maxHeartbeats 1500000 in
theorem led_spec {rw dd : Addr} {trs : List (Addr × Row)} {wd : Str} {o a b : Int} {tw t1 t2 t3 : Tok} (C : Cx w p loose mean mg mb A₀ base h₀ outer L s.heap m news) (R : Rm cs dp un 2)
  (hR : PyRows news rw trs) (hnd : (trs.map fun q => q.2.o).Nodup) (hlt : trs.length < 60) (hdd : (dd, tupO [.str wd tw, .int o t1, .int a t2, .int b t3]) ∈ news) (hwd : wd = Str.ofString "bind" ∨ wd = Str.ofString "connect" ∨ wd = Str.ofString "remove")
  (hret1 : ∀ e t h' tk', stepF wd o a b (trs.map fun q => q.2) = .error e → Fr h₀ L h' m → News h₀ L h' news → Q (.str e t) { s with heap := h', toks := tk' })
  (hret2 : ∀ r T' trs' h' tk', stepF wd o a b (trs.map fun q => q.2) = .ok (trs'.map fun q => q.2) → PyRows T' r trs' → (∀ q ∈ news, q ∈ T') → Fr h₀ L h' m → News h₀ L h' T' → Q (.ref r) { s with heap := h', toks := tk' }) :
  wpAny (model prog w) (ktrTop dp un gd cn cs L fa ccd cl outer) (call (.ref 343) [.ref rw, .ref dd]) Q E s := by
  obtain ⟨B, F, X, N, T⟩ := C
  have hRd := R.hd
  have hRu := R.hu
  refine wpAny_call ?_
  k_dflt (refine' code_defC (binds := [(Str.ofString "rows", .ref rw), (Str.ofString "deed", .ref dd)]) B F X N T ?kA ?kF ?kK ?k6 ?k7 ?k8 ?k9 ?kB ?kD ?_ ?c2 ?c3 ?c4; (((case kA => exact rfl); (case kF => exact rfl); (case kK => exact Rm.hk (by assumption)); (case k6 => k_is); (case k7 => k_is); (case k8 => exact Nat.lt_of_le_of_lt (Nat.le_add_right _ _) (Rm.hd (by assumption))); (case k9 => exact BindsTo.of_eq rfl); (case kB => exact rfl); (case kD => decide +kernel); (case c2 => exact rfl); (case c3 => exact rfl); (case c4 => exact rfl); k_whole; intro g' L' h' tk' cells' FG' F' N' Y' B' X' T' l1; k_cells Y'; (try simp only [List.cons_append, List.nil_append] at N'); (try dsimp only); (try k_fold))))
  refine' elimG ?h9y1 ?k9y1
  case h9y1 =>
    intro G9 k9
    obtain ⟨⟨nn, hRm⟩, hRr⟩ := id hR
    revert hRr
    revert hRm
    revert nn
    exact k9
  intro nn hRm hRr
  try clear hR
  (repeat' (first | (k_unfold; (try dsimp only)) | (k_end; wrow_close) | (with_reducible ((with_reducible show wpAny _ _ (subscriptTail _ _ (Value.ref _) (Value.int _ _)) _ _ _); k_dflt (refine' m_titem ?k1 ?k2 ?k3 ?k4 ?k5 ?k6 ?_; (case k1 => k_asm); (case k2 => walk_at "memR9"); (case k3 => decide); (case k4 => decide); (case k5 => rfl); (case k6 => rfl)))) | ((with_reducible show wpAny _ _ (binaryOp PySem.Operator.Add (Value.ref _) (Value.ref _)) _ _ _); with_reducible (k_here; k_dflt (refine' m_addRows ?F ?N ?k3 ?k4 ?k5 ?_; (case F => k_asm); (case N => k_asm); (case k3 => k_mem); (case k4 => k_mem); (case k5 => assumption)); intro kyl' kyh' kyF' kyN'; (try dsimp only))) | (with_reducible (k_here; (with_reducible show wpAny _ _ (subscriptTail _ (PySem.Expr.Slice (some _) none none _) (Value.ref _) (Value.ref _)) _ _ _); k_dflt (refine' m_slice4 (s := ⟨_, _, _, _, _⟩) ?F ?N ?k3 ?_; (case F => k_asm); (case N => k_asm); (case k3 => k_mem)); intro kyl' kyh' kyF' kyN'; (try dsimp only))) | (with_reducible ((with_reducible show wpAny _ _ (subscriptTail _ _ (Value.ref _) (Value.int _ _)) _ _ _); k_dflt (refine' m_item ?k1 ?k2 ?k3 ?k4 ?k5 ?_; (case k1 => k_asm); (case k2 => k_mem); (case k3 => decide); (case k4 => decide); (case k5 => rfl)); (try dsimp only))) | ((with_reducible show wpAny _ _ (compareOp PySem.CmpOp.NotEq (Value.ref _) (Value.ref _)) _ _ _); with_reducible (k_dflt (first | (refine' m_neNil (b := true) ?k1 ?k2 ?k3 ?k4 ?k5 ?k6 ?_; (case k1 => k_asm); (case k2 => k_mem); (case k3 => k_mem); (case k5 => exact rfl); (case k4 => (first | with_reducible assumption | exact List.forall_mem_nil _ | (focus (refine' rowsT_mono ?_ ?_; rotate_right; (focus with_reducible assumption); walk_at "sub9")))); (case k6 => walk_at "un9")) | (refine' m_neNil (b := false) ?k1 ?k2 ?k3 ?k4 ?k5 ?k6 ?_; (case k1 => k_asm); (case k2 => k_mem); (case k3 => k_mem); (case k5 => exact rfl); (case k4 => (first | with_reducible assumption | exact List.forall_mem_nil _ | (focus (refine' rowsT_mono ?_ ?_; rotate_right; (focus with_reducible assumption); walk_at "sub9")))); (case k6 => walk_at "un9"))))) | ((with_reducible show wpAny _ _ (compareOp PySem.CmpOp.Eq (Value.ref _) (Value.ref _)) _ _ _); with_reducible (k_dflt (first | (refine' m_eq3 ?k1 ?k2 ?k3 ?k4 ?k5 ?k6 ?_; (case k1 => k_asm); (case k2 => k_mem); (case k3 => k_mem); (case k4 => (first | with_reducible assumption | exact remR_none | exact remR_some (by k_mem) | (focus (refine' RemR.mono ?_ ?_; rotate_right; (focus with_reducible assumption); walk_at "sub9")))); (case k5 => (first | with_reducible assumption | exact remR_none | exact remR_some (by k_mem) | (focus (refine' RemR.mono ?_ ?_; rotate_right; (focus with_reducible assumption); walk_at "sub9")))); (case k6 => walk_at "un9")) | (refine' m_eqNil (b := true) ?k1 ?k2 ?k3 ?k4 ?k5 ?k6 ?_; (case k1 => k_asm); (case k2 => k_mem); (case k3 => k_mem); (case k5 => exact rfl); (case k4 => (first | with_reducible assumption | exact List.forall_mem_nil _ | (focus (refine' rowsT_mono ?_ ?_; rotate_right; (focus with_reducible assumption); walk_at "sub9")))); (case k6 => walk_at "un9")) | (refine' m_eqNil (b := false) ?k1 ?k2 ?k3 ?k4 ?k5 ?k6 ?_; (case k1 => k_asm); (case k2 => k_mem); (case k3 => k_mem); (case k5 => exact rfl); (case k4 => (first | with_reducible assumption | exact List.forall_mem_nil _ | (focus (refine' rowsT_mono ?_ ?_; rotate_right; (focus with_reducible assumption); walk_at "sub9")))); (case k6 => walk_at "un9"))))) | ((with_reducible show wpAny _ _ (eval (PySem.Expr.ListComp _ _ _) _) _ _ _); with_reducible (k_here; (fail_if_success lct_look); k_dflt (refine' LCg.ListComp_U (F₀ := ?f0) ?c ?d ?e ?f ?g ?_; (case f0 => k_asm); (case c => with_unfolding_all rfl); (case d => decide); (case e => rfl); (case f => decide); (case g => rfl)))) | ((with_reducible show wpAny _ _ (exec (PySem.Stmt.Assign [_] (PySem.Expr.ListComp _ _ _) _) _) _ _ _); with_reducible (k_here; lct_look; k_dflt (refine' LCt.Assign_ListComp_T (F₀ := ?f0) ?a ?b ?c ?d ?e ?f ?g ?h ?i ?_; (case f0 => k_asm); (case a => rfl); (case b => with_unfolding_all rfl); (case c => with_unfolding_all rfl); (case d => decide);  (case e => rfl); (case f => decide); (case g => rfl); (case h => rfl); (case i => rfl)))) | ((with_reducible show wpAny _ _ (eval (PySem.Expr.ListComp _ _ _) _) _ _ _); with_reducible (k_here; lct_look; k_dflt (refine' LCt.ListComp_T (F₀ := ?f0) ?c ?d ?e ?f ?g ?_; (case f0 => k_asm); (case c => with_unfolding_all rfl); (case d => decide); (case e => rfl); (case f => decide); (case g => rfl)))) | walk1 | (dsimp only; walk1) | (leave1; try dsimp only)))
  refine filt_rest (fun c => decide (c.o = o)) (.inr ⟨_, (by k_mem), rfl, _, rfl⟩) rfl rfl (by decide) ?_ ?_
  · intro q hq ys I oI C oC D m₂ h tk E' hC hx F₁ N₁
    refine' elimG ?h9y2 ?k9y2
    case h9y2 =>
      intro G9 k9
      obtain ⟨u1, u2, u3, rv, hqm, hqR⟩ := hRr q hq
      revert hqR
      revert hqm
      revert rv
      revert u3
      revert u2
      revert u1
      exact k9
    intro u1 u2 u3 rv hqm hqR
    (try dsimp only)
    (repeat' (first | (k_unfold; (try dsimp only)) | (k_end; wrow_close) | (with_reducible ((with_reducible show wpAny _ _ (subscriptTail _ _ (Value.ref _) (Value.int _ _)) _ _ _); k_dflt (refine' m_titem ?k1 ?k2 ?k3 ?k4 ?k5 ?k6 ?_; (case k1 => k_asm); (case k2 => walk_at "memR9"); (case k3 => decide); (case k4 => decide); (case k5 => rfl); (case k6 => rfl)))) | ((with_reducible show wpAny _ _ (binaryOp PySem.Operator.Add (Value.ref _) (Value.ref _)) _ _ _); with_reducible (k_here; k_dflt (refine' m_addRows ?F ?N ?k3 ?k4 ?k5 ?_; (case F => k_asm); (case N => k_asm); (case k3 => k_mem); (case k4 => k_mem); (case k5 => assumption)); intro kyl' kyh' kyF' kyN'; (try dsimp only))) | (with_reducible (k_here; (with_reducible show wpAny _ _ (subscriptTail _ (PySem.Expr.Slice (some _) none none _) (Value.ref _) (Value.ref _)) _ _ _); k_dflt (refine' m_slice4 (s := ⟨_, _, _, _, _⟩) ?F ?N ?k3 ?_; (case F => k_asm); (case N => k_asm); (case k3 => k_mem)); intro kyl' kyh' kyF' kyN'; (try dsimp only))) | (with_reducible ((with_reducible show wpAny _ _ (subscriptTail _ _ (Value.ref _) (Value.int _ _)) _ _ _); k_dflt (refine' m_item ?k1 ?k2 ?k3 ?k4 ?k5 ?_; (case k1 => k_asm); (case k2 => k_mem); (case k3 => decide); (case k4 => decide); (case k5 => rfl)); (try dsimp only))) | ((with_reducible show wpAny _ _ (compareOp PySem.CmpOp.NotEq (Value.ref _) (Value.ref _)) _ _ _); with_reducible (k_dflt (first | (refine' m_neNil (b := true) ?k1 ?k2 ?k3 ?k4 ?k5 ?k6 ?_; (case k1 => k_asm); (case k2 => k_mem); (case k3 => k_mem); (case k5 => exact rfl); (case k4 => (first | with_reducible assumption | exact List.forall_mem_nil _ | (focus (refine' rowsT_mono ?_ ?_; rotate_right; (focus with_reducible assumption); walk_at "sub9")))); (case k6 => walk_at "un9")) | (refine' m_neNil (b := false) ?k1 ?k2 ?k3 ?k4 ?k5 ?k6 ?_; (case k1 => k_asm); (case k2 => k_mem); (case k3 => k_mem); (case k5 => exact rfl); (case k4 => (first | with_reducible assumption | exact List.forall_mem_nil _ | (focus (refine' rowsT_mono ?_ ?_; rotate_right; (focus with_reducible assumption); walk_at "sub9")))); (case k6 => walk_at "un9"))))) | ((with_reducible show wpAny _ _ (compareOp PySem.CmpOp.Eq (Value.ref _) (Value.ref _)) _ _ _); with_reducible (k_dflt (first | (refine' m_eq3 ?k1 ?k2 ?k3 ?k4 ?k5 ?k6 ?_; (case k1 => k_asm); (case k2 => k_mem); (case k3 => k_mem); (case k4 => (first | with_reducible assumption | exact remR_none | exact remR_some (by k_mem) | (focus (refine' RemR.mono ?_ ?_; rotate_right; (focus with_reducible assumption); walk_at "sub9")))); (case k5 => (first | with_reducible assumption | exact remR_none | exact remR_some (by k_mem) | (focus (refine' RemR.mono ?_ ?_; rotate_right; (focus with_reducible assumption); walk_at "sub9")))); (case k6 => walk_at "un9")) | (refine' m_eqNil (b := true) ?k1 ?k2 ?k3 ?k4 ?k5 ?k6 ?_; (case k1 => k_asm); (case k2 => k_mem); (case k3 => k_mem); (case k5 => exact rfl); (case k4 => (first | with_reducible assumption | exact List.forall_mem_nil _ | (focus (refine' rowsT_mono ?_ ?_; rotate_right; (focus with_reducible assumption); walk_at "sub9")))); (case k6 => walk_at "un9")) | (refine' m_eqNil (b := false) ?k1 ?k2 ?k3 ?k4 ?k5 ?k6 ?_; (case k1 => k_asm); (case k2 => k_mem); (case k3 => k_mem); (case k5 => exact rfl); (case k4 => (first | with_reducible assumption | exact List.forall_mem_nil _ | (focus (refine' rowsT_mono ?_ ?_; rotate_right; (focus with_reducible assumption); walk_at "sub9")))); (case k6 => walk_at "un9"))))) | ((with_reducible show wpAny _ _ (eval (PySem.Expr.ListComp _ _ _) _) _ _ _); with_reducible (k_here; (fail_if_success lct_look); k_dflt (refine' LCg.ListComp_U (F₀ := ?f0) ?c ?d ?e ?f ?g ?_; (case f0 => k_asm); (case c => with_unfolding_all rfl); (case d => decide); (case e => rfl); (case f => decide); (case g => rfl)))) | ((with_reducible show wpAny _ _ (exec (PySem.Stmt.Assign [_] (PySem.Expr.ListComp _ _ _) _) _) _ _ _); with_reducible (k_here; lct_look; k_dflt (refine' LCt.Assign_ListComp_T (F₀ := ?f0) ?a ?b ?c ?d ?e ?f ?g ?h ?i ?_; (case f0 => k_asm); (case a => rfl); (case b => with_unfolding_all rfl); (case c => with_unfolding_all rfl); (case d => decide);  (case e => rfl); (case f => decide); (case g => rfl); (case h => rfl); (case i => rfl)))) | ((with_reducible show wpAny _ _ (eval (PySem.Expr.ListComp _ _ _) _) _ _ _); with_reducible (k_here; lct_look; k_dflt (refine' LCt.ListComp_T (F₀ := ?f0) ?c ?d ?e ?f ?g ?_; (case f0 => k_asm); (case c => with_unfolding_all rfl); (case d => decide); (case e => rfl); (case f => decide); (case g => rfl)))) | walk1 | (dsimp only; walk1) | (leave1; try dsimp only)))
    all_goals first | exact F₁ | exact N₁
  refine' elimG ?h9y3 ?k9y3
  case h9y3 =>
    have h9z : ∃ mf, trs.filter (fun q => decide (q.2.o = o)) = mf := ⟨_, rfl⟩
    intro G9 k9
    obtain ⟨mf, hmf⟩ := h9z
    revert hmf
    revert mf
    exact k9
  intro mf hmf
  rw [hmf]
  have hmr : ∀ q ∈ mf, RowT news q.1 q.2 := fun q hq => hRr q ((List.mem_filter.mp (hmf ▸ hq)).1)
  (repeat' (first | (k_unfold; (try dsimp only)) | (k_end; wrow_close) | (with_reducible ((with_reducible show wpAny _ _ (subscriptTail _ _ (Value.ref _) (Value.int _ _)) _ _ _); k_dflt (refine' m_titem ?k1 ?k2 ?k3 ?k4 ?k5 ?k6 ?_; (case k1 => k_asm); (case k2 => walk_at "memR9"); (case k3 => decide); (case k4 => decide); (case k5 => rfl); (case k6 => rfl)))) | ((with_reducible show wpAny _ _ (binaryOp PySem.Operator.Add (Value.ref _) (Value.ref _)) _ _ _); with_reducible (k_here; k_dflt (refine' m_addRows ?F ?N ?k3 ?k4 ?k5 ?_; (case F => k_asm); (case N => k_asm); (case k3 => k_mem); (case k4 => k_mem); (case k5 => assumption)); intro kyl' kyh' kyF' kyN'; (try dsimp only))) | (with_reducible (k_here; (with_reducible show wpAny _ _ (subscriptTail _ (PySem.Expr.Slice (some _) none none _) (Value.ref _) (Value.ref _)) _ _ _); k_dflt (refine' m_slice4 (s := ⟨_, _, _, _, _⟩) ?F ?N ?k3 ?_; (case F => k_asm); (case N => k_asm); (case k3 => k_mem)); intro kyl' kyh' kyF' kyN'; (try dsimp only))) | (with_reducible ((with_reducible show wpAny _ _ (subscriptTail _ _ (Value.ref _) (Value.int _ _)) _ _ _); k_dflt (refine' m_item ?k1 ?k2 ?k3 ?k4 ?k5 ?_; (case k1 => k_asm); (case k2 => k_mem); (case k3 => decide); (case k4 => decide); (case k5 => rfl)); (try dsimp only))) | ((with_reducible show wpAny _ _ (compareOp PySem.CmpOp.NotEq (Value.ref _) (Value.ref _)) _ _ _); with_reducible (k_dflt (first | (refine' m_neNil (b := true) ?k1 ?k2 ?k3 ?k4 ?k5 ?k6 ?_; (case k1 => k_asm); (case k2 => k_mem); (case k3 => k_mem); (case k5 => exact rfl); (case k4 => (first | with_reducible assumption | exact List.forall_mem_nil _ | (focus (refine' rowsT_mono ?_ ?_; rotate_right; (focus with_reducible assumption); walk_at "sub9")))); (case k6 => walk_at "un9")) | (refine' m_neNil (b := false) ?k1 ?k2 ?k3 ?k4 ?k5 ?k6 ?_; (case k1 => k_asm); (case k2 => k_mem); (case k3 => k_mem); (case k5 => exact rfl); (case k4 => (first | with_reducible assumption | exact List.forall_mem_nil _ | (focus (refine' rowsT_mono ?_ ?_; rotate_right; (focus with_reducible assumption); walk_at "sub9")))); (case k6 => walk_at "un9"))))) | ((with_reducible show wpAny _ _ (compareOp PySem.CmpOp.Eq (Value.ref _) (Value.ref _)) _ _ _); with_reducible (k_dflt (first | (refine' m_eq3 ?k1 ?k2 ?k3 ?k4 ?k5 ?k6 ?_; (case k1 => k_asm); (case k2 => k_mem); (case k3 => k_mem); (case k4 => (first | with_reducible assumption | exact remR_none | exact remR_some (by k_mem) | (focus (refine' RemR.mono ?_ ?_; rotate_right; (focus with_reducible assumption); walk_at "sub9")))); (case k5 => (first | with_reducible assumption | exact remR_none | exact remR_some (by k_mem) | (focus (refine' RemR.mono ?_ ?_; rotate_right; (focus with_reducible assumption); walk_at "sub9")))); (case k6 => walk_at "un9")) | (refine' m_eqNil (b := true) ?k1 ?k2 ?k3 ?k4 ?k5 ?k6 ?_; (case k1 => k_asm); (case k2 => k_mem); (case k3 => k_mem); (case k5 => exact rfl); (case k4 => (first | with_reducible assumption | exact List.forall_mem_nil _ | (focus (refine' rowsT_mono ?_ ?_; rotate_right; (focus with_reducible assumption); walk_at "sub9")))); (case k6 => walk_at "un9")) | (refine' m_eqNil (b := false) ?k1 ?k2 ?k3 ?k4 ?k5 ?k6 ?_; (case k1 => k_asm); (case k2 => k_mem); (case k3 => k_mem); (case k5 => exact rfl); (case k4 => (first | with_reducible assumption | exact List.forall_mem_nil _ | (focus (refine' rowsT_mono ?_ ?_; rotate_right; (focus with_reducible assumption); walk_at "sub9")))); (case k6 => walk_at "un9"))))) | ((with_reducible show wpAny _ _ (eval (PySem.Expr.ListComp _ _ _) _) _ _ _); with_reducible (k_here; (fail_if_success lct_look); k_dflt (refine' LCg.ListComp_U (F₀ := ?f0) ?c ?d ?e ?f ?g ?_; (case f0 => k_asm); (case c => with_unfolding_all rfl); (case d => decide); (case e => rfl); (case f => decide); (case g => rfl)))) | ((with_reducible show wpAny _ _ (exec (PySem.Stmt.Assign [_] (PySem.Expr.ListComp _ _ _) _) _) _ _ _); with_reducible (k_here; lct_look; k_dflt (refine' LCt.Assign_ListComp_T (F₀ := ?f0) ?a ?b ?c ?d ?e ?f ?g ?h ?i ?_; (case f0 => k_asm); (case a => rfl); (case b => with_unfolding_all rfl); (case c => with_unfolding_all rfl); (case d => decide);  (case e => rfl); (case f => decide); (case g => rfl); (case h => rfl); (case i => rfl)))) | ((with_reducible show wpAny _ _ (eval (PySem.Expr.ListComp _ _ _) _) _ _ _); with_reducible (k_here; lct_look; k_dflt (refine' LCt.ListComp_T (F₀ := ?f0) ?c ?d ?e ?f ?g ?_; (case f0 => k_asm); (case c => with_unfolding_all rfl); (case d => decide); (case e => rfl); (case f => decide); (case g => rfl)))) | walk1 | (dsimp only; walk1) | (leave1; try dsimp only)))
  refine filt_rest (fun c => c.o != o) (.inr ⟨_, (by k_mem), rfl, _, rfl⟩) rfl rfl (by decide) ?_ ?_
  · intro q hq ys I oI C oC D m₂ h tk E' hC hx F₁ N₁
    refine' elimG ?h9y4 ?k9y4
    case h9y4 =>
      intro G9 k9
      obtain ⟨u1, u2, u3, rv, hqm, hqR⟩ := hRr q hq
      revert hqR
      revert hqm
      revert rv
      revert u3
      revert u2
      revert u1
      exact k9
    intro u1 u2 u3 rv hqm hqR
    (try dsimp only)
    (repeat' (first | (k_unfold; (try dsimp only)) | (k_end; wrow_close) | (with_reducible ((with_reducible show wpAny _ _ (subscriptTail _ _ (Value.ref _) (Value.int _ _)) _ _ _); k_dflt (refine' m_titem ?k1 ?k2 ?k3 ?k4 ?k5 ?k6 ?_; (case k1 => k_asm); (case k2 => walk_at "memR9"); (case k3 => decide); (case k4 => decide); (case k5 => rfl); (case k6 => rfl)))) | ((with_reducible show wpAny _ _ (binaryOp PySem.Operator.Add (Value.ref _) (Value.ref _)) _ _ _); with_reducible (k_here; k_dflt (refine' m_addRows ?F ?N ?k3 ?k4 ?k5 ?_; (case F => k_asm); (case N => k_asm); (case k3 => k_mem); (case k4 => k_mem); (case k5 => assumption)); intro kyl' kyh' kyF' kyN'; (try dsimp only))) | (with_reducible (k_here; (with_reducible show wpAny _ _ (subscriptTail _ (PySem.Expr.Slice (some _) none none _) (Value.ref _) (Value.ref _)) _ _ _); k_dflt (refine' m_slice4 (s := ⟨_, _, _, _, _⟩) ?F ?N ?k3 ?_; (case F => k_asm); (case N => k_asm); (case k3 => k_mem)); intro kyl' kyh' kyF' kyN'; (try dsimp only))) | (with_reducible ((with_reducible show wpAny _ _ (subscriptTail _ _ (Value.ref _) (Value.int _ _)) _ _ _); k_dflt (refine' m_item ?k1 ?k2 ?k3 ?k4 ?k5 ?_; (case k1 => k_asm); (case k2 => k_mem); (case k3 => decide); (case k4 => decide); (case k5 => rfl)); (try dsimp only))) | ((with_reducible show wpAny _ _ (compareOp PySem.CmpOp.NotEq (Value.ref _) (Value.ref _)) _ _ _); with_reducible (k_dflt (first | (refine' m_neNil (b := true) ?k1 ?k2 ?k3 ?k4 ?k5 ?k6 ?_; (case k1 => k_asm); (case k2 => k_mem); (case k3 => k_mem); (case k5 => exact rfl); (case k4 => (first | with_reducible assumption | exact List.forall_mem_nil _ | (focus (refine' rowsT_mono ?_ ?_; rotate_right; (focus with_reducible assumption); walk_at "sub9")))); (case k6 => walk_at "un9")) | (refine' m_neNil (b := false) ?k1 ?k2 ?k3 ?k4 ?k5 ?k6 ?_; (case k1 => k_asm); (case k2 => k_mem); (case k3 => k_mem); (case k5 => exact rfl); (case k4 => (first | with_reducible assumption | exact List.forall_mem_nil _ | (focus (refine' rowsT_mono ?_ ?_; rotate_right; (focus with_reducible assumption); walk_at "sub9")))); (case k6 => walk_at "un9"))))) | ((with_reducible show wpAny _ _ (compareOp PySem.CmpOp.Eq (Value.ref _) (Value.ref _)) _ _ _); with_reducible (k_dflt (first | (refine' m_eq3 ?k1 ?k2 ?k3 ?k4 ?k5 ?k6 ?_; (case k1 => k_asm); (case k2 => k_mem); (case k3 => k_mem); (case k4 => (first | with_reducible assumption | exact remR_none | exact remR_some (by k_mem) | (focus (refine' RemR.mono ?_ ?_; rotate_right; (focus with_reducible assumption); walk_at "sub9")))); (case k5 => (first | with_reducible assumption | exact remR_none | exact remR_some (by k_mem) | (focus (refine' RemR.mono ?_ ?_; rotate_right; (focus with_reducible assumption); walk_at "sub9")))); (case k6 => walk_at "un9")) | (refine' m_eqNil (b := true) ?k1 ?k2 ?k3 ?k4 ?k5 ?k6 ?_; (case k1 => k_asm); (case k2 => k_mem); (case k3 => k_mem); (case k5 => exact rfl); (case k4 => (first | with_reducible assumption | exact List.forall_mem_nil _ | (focus (refine' rowsT_mono ?_ ?_; rotate_right; (focus with_reducible assumption); walk_at "sub9")))); (case k6 => walk_at "un9")) | (refine' m_eqNil (b := false) ?k1 ?k2 ?k3 ?k4 ?k5 ?k6 ?_; (case k1 => k_asm); (case k2 => k_mem); (case k3 => k_mem); (case k5 => exact rfl); (case k4 => (first | with_reducible assumption | exact List.forall_mem_nil _ | (focus (refine' rowsT_mono ?_ ?_; rotate_right; (focus with_reducible assumption); walk_at "sub9")))); (case k6 => walk_at "un9"))))) | ((with_reducible show wpAny _ _ (eval (PySem.Expr.ListComp _ _ _) _) _ _ _); with_reducible (k_here; (fail_if_success lct_look); k_dflt (refine' LCg.ListComp_U (F₀ := ?f0) ?c ?d ?e ?f ?g ?_; (case f0 => k_asm); (case c => with_unfolding_all rfl); (case d => decide); (case e => rfl); (case f => decide); (case g => rfl)))) | ((with_reducible show wpAny _ _ (exec (PySem.Stmt.Assign [_] (PySem.Expr.ListComp _ _ _) _) _) _ _ _); with_reducible (k_here; lct_look; k_dflt (refine' LCt.Assign_ListComp_T (F₀ := ?f0) ?a ?b ?c ?d ?e ?f ?g ?h ?i ?_; (case f0 => k_asm); (case a => rfl); (case b => with_unfolding_all rfl); (case c => with_unfolding_all rfl); (case d => decide);  (case e => rfl); (case f => decide); (case g => rfl); (case h => rfl); (case i => rfl)))) | ((with_reducible show wpAny _ _ (eval (PySem.Expr.ListComp _ _ _) _) _ _ _); with_reducible (k_here; lct_look; k_dflt (refine' LCt.ListComp_T (F₀ := ?f0) ?c ?d ?e ?f ?g ?_; (case f0 => k_asm); (case c => with_unfolding_all rfl); (case d => decide); (case e => rfl); (case f => decide); (case g => rfl)))) | walk1 | (dsimp only; walk1) | (leave1; try dsimp only)))
    all_goals first | exact F₁ | exact N₁
  refine' elimG ?h9y5 ?k9y5
  case h9y5 =>
    have h9z : ∃ mo, trs.filter (fun q => q.2.o != o) = mo := ⟨_, rfl⟩
    intro G9 k9
    obtain ⟨mo, hmo⟩ := h9z
    revert hmo
    revert mo
    exact k9
  intro mo hmo
  rw [hmo]
  have hor : ∀ q ∈ mo, RowT news q.1 q.2 := fun q hq => hRr q ((List.mem_filter.mp (hmo ▸ hq)).1)
  have hlo : mo.length < 60 := by rw [← hmo]; exact Nat.lt_of_le_of_lt (List.length_filter_le _ _) hlt
  have ncb : ¬ Str.ofString "connect" = Str.ofString "bind" := by decide
  have nrb : ¬ Str.ofString "remove" = Str.ofString "bind" := by decide
  have nrc : ¬ Str.ofString "remove" = Str.ofString "connect" := by decide
  rcases hwd with rfl | rfl | rfl
  · rcases mf with _ | ⟨q0, mf⟩
    · (repeat' (first | (k_unfold; (try dsimp only)) | (k_end; wrow_close) | (with_reducible ((with_reducible show wpAny _ _ (subscriptTail _ _ (Value.ref _) (Value.int _ _)) _ _ _); k_dflt (refine' m_titem ?k1 ?k2 ?k3 ?k4 ?k5 ?k6 ?_; (case k1 => k_asm); (case k2 => walk_at "memR9"); (case k3 => decide); (case k4 => decide); (case k5 => rfl); (case k6 => rfl)))) | ((with_reducible show wpAny _ _ (binaryOp PySem.Operator.Add (Value.ref _) (Value.ref _)) _ _ _); with_reducible (k_here; k_dflt (refine' m_addRows ?F ?N ?k3 ?k4 ?k5 ?_; (case F => k_asm); (case N => k_asm); (case k3 => k_mem); (case k4 => k_mem); (case k5 => assumption)); intro kyl' kyh' kyF' kyN'; (try dsimp only))) | (with_reducible (k_here; (with_reducible show wpAny _ _ (subscriptTail _ (PySem.Expr.Slice (some _) none none _) (Value.ref _) (Value.ref _)) _ _ _); k_dflt (refine' m_slice4 (s := ⟨_, _, _, _, _⟩) ?F ?N ?k3 ?_; (case F => k_asm); (case N => k_asm); (case k3 => k_mem)); intro kyl' kyh' kyF' kyN'; (try dsimp only))) | (with_reducible ((with_reducible show wpAny _ _ (subscriptTail _ _ (Value.ref _) (Value.int _ _)) _ _ _); k_dflt (refine' m_item ?k1 ?k2 ?k3 ?k4 ?k5 ?_; (case k1 => k_asm); (case k2 => k_mem); (case k3 => decide); (case k4 => decide); (case k5 => rfl)); (try dsimp only))) | ((with_reducible show wpAny _ _ (compareOp PySem.CmpOp.NotEq (Value.ref _) (Value.ref _)) _ _ _); with_reducible (k_dflt (first | (refine' m_neNil (b := true) ?k1 ?k2 ?k3 ?k4 ?k5 ?k6 ?_; (case k1 => k_asm); (case k2 => k_mem); (case k3 => k_mem); (case k5 => exact rfl); (case k4 => (first | with_reducible assumption | exact List.forall_mem_nil _ | (focus (refine' rowsT_mono ?_ ?_; rotate_right; (focus with_reducible assumption); walk_at "sub9")))); (case k6 => walk_at "un9")) | (refine' m_neNil (b := false) ?k1 ?k2 ?k3 ?k4 ?k5 ?k6 ?_; (case k1 => k_asm); (case k2 => k_mem); (case k3 => k_mem); (case k5 => exact rfl); (case k4 => (first | with_reducible assumption | exact List.forall_mem_nil _ | (focus (refine' rowsT_mono ?_ ?_; rotate_right; (focus with_reducible assumption); walk_at "sub9")))); (case k6 => walk_at "un9"))))) | ((with_reducible show wpAny _ _ (compareOp PySem.CmpOp.Eq (Value.ref _) (Value.ref _)) _ _ _); with_reducible (k_dflt (first | (refine' m_eq3 ?k1 ?k2 ?k3 ?k4 ?k5 ?k6 ?_; (case k1 => k_asm); (case k2 => k_mem); (case k3 => k_mem); (case k4 => (first | with_reducible assumption | exact remR_none | exact remR_some (by k_mem) | (focus (refine' RemR.mono ?_ ?_; rotate_right; (focus with_reducible assumption); walk_at "sub9")))); (case k5 => (first | with_reducible assumption | exact remR_none | exact remR_some (by k_mem) | (focus (refine' RemR.mono ?_ ?_; rotate_right; (focus with_reducible assumption); walk_at "sub9")))); (case k6 => walk_at "un9")) | (refine' m_eqNil (b := true) ?k1 ?k2 ?k3 ?k4 ?k5 ?k6 ?_; (case k1 => k_asm); (case k2 => k_mem); (case k3 => k_mem); (case k5 => exact rfl); (case k4 => (first | with_reducible assumption | exact List.forall_mem_nil _ | (focus (refine' rowsT_mono ?_ ?_; rotate_right; (focus with_reducible assumption); walk_at "sub9")))); (case k6 => walk_at "un9")) | (refine' m_eqNil (b := false) ?k1 ?k2 ?k3 ?k4 ?k5 ?k6 ?_; (case k1 => k_asm); (case k2 => k_mem); (case k3 => k_mem); (case k5 => exact rfl); (case k4 => (first | with_reducible assumption | exact List.forall_mem_nil _ | (focus (refine' rowsT_mono ?_ ?_; rotate_right; (focus with_reducible assumption); walk_at "sub9")))); (case k6 => walk_at "un9"))))) | ((with_reducible show wpAny _ _ (eval (PySem.Expr.ListComp _ _ _) _) _ _ _); with_reducible (k_here; (fail_if_success lct_look); k_dflt (refine' LCg.ListComp_U (F₀ := ?f0) ?c ?d ?e ?f ?g ?_; (case f0 => k_asm); (case c => with_unfolding_all rfl); (case d => decide); (case e => rfl); (case f => decide); (case g => rfl)))) | ((with_reducible show wpAny _ _ (exec (PySem.Stmt.Assign [_] (PySem.Expr.ListComp _ _ _) _) _) _ _ _); with_reducible (k_here; lct_look; k_dflt (refine' LCt.Assign_ListComp_T (F₀ := ?f0) ?a ?b ?c ?d ?e ?f ?g ?h ?i ?_; (case f0 => k_asm); (case a => rfl); (case b => with_unfolding_all rfl); (case c => with_unfolding_all rfl); (case d => decide);  (case e => rfl); (case f => decide); (case g => rfl); (case h => rfl); (case i => rfl)))) | ((with_reducible show wpAny _ _ (eval (PySem.Expr.ListComp _ _ _) _) _ _ _); with_reducible (k_here; lct_look; k_dflt (refine' LCt.ListComp_T (F₀ := ?f0) ?c ?d ?e ?f ?g ?_; (case f0 => k_asm); (case c => with_unfolding_all rfl); (case d => decide); (case e => rfl); (case f => decide); (case g => rfl)))) | walk1 | (dsimp only; walk1) | (leave1; try dsimp only)))
      refine filt_rest (fun c => decide (c.a = a ∧ c.p = b ∧ c.rm = none)) (.inr ⟨_, (by k_mem), rfl, _, rfl⟩) rfl rfl (by decide) ?_ ?_
      · intro q hq ys I oI C oC D m₂ h tk E' hC hx F₁ N₁
        refine' elimG ?h9y6 ?k9y6
        case h9y6 =>
          intro G9 k9
          obtain ⟨u1, u2, u3, rv, hqm, hqR⟩ := hor q hq
          revert hqR
          revert hqm
          revert rv
          revert u3
          revert u2
          revert u1
          exact k9
        intro u1 u2 u3 rv hqm hqR
        (try dsimp only)
        (repeat' (first | (k_unfold; (try dsimp only)) | (k_end; wrow_close) | (with_reducible ((with_reducible show wpAny _ _ (subscriptTail _ _ (Value.ref _) (Value.int _ _)) _ _ _); k_dflt (refine' m_titem ?k1 ?k2 ?k3 ?k4 ?k5 ?k6 ?_; (case k1 => k_asm); (case k2 => walk_at "memR9"); (case k3 => decide); (case k4 => decide); (case k5 => rfl); (case k6 => rfl)))) | ((with_reducible show wpAny _ _ (binaryOp PySem.Operator.Add (Value.ref _) (Value.ref _)) _ _ _); with_reducible (k_here; k_dflt (refine' m_addRows ?F ?N ?k3 ?k4 ?k5 ?_; (case F => k_asm); (case N => k_asm); (case k3 => k_mem); (case k4 => k_mem); (case k5 => assumption)); intro kyl' kyh' kyF' kyN'; (try dsimp only))) | (with_reducible (k_here; (with_reducible show wpAny _ _ (subscriptTail _ (PySem.Expr.Slice (some _) none none _) (Value.ref _) (Value.ref _)) _ _ _); k_dflt (refine' m_slice4 (s := ⟨_, _, _, _, _⟩) ?F ?N ?k3 ?_; (case F => k_asm); (case N => k_asm); (case k3 => k_mem)); intro kyl' kyh' kyF' kyN'; (try dsimp only))) | (with_reducible ((with_reducible show wpAny _ _ (subscriptTail _ _ (Value.ref _) (Value.int _ _)) _ _ _); k_dflt (refine' m_item ?k1 ?k2 ?k3 ?k4 ?k5 ?_; (case k1 => k_asm); (case k2 => k_mem); (case k3 => decide); (case k4 => decide); (case k5 => rfl)); (try dsimp only))) | ((with_reducible show wpAny _ _ (compareOp PySem.CmpOp.NotEq (Value.ref _) (Value.ref _)) _ _ _); with_reducible (k_dflt (first | (refine' m_neNil (b := true) ?k1 ?k2 ?k3 ?k4 ?k5 ?k6 ?_; (case k1 => k_asm); (case k2 => k_mem); (case k3 => k_mem); (case k5 => exact rfl); (case k4 => (first | with_reducible assumption | exact List.forall_mem_nil _ | (focus (refine' rowsT_mono ?_ ?_; rotate_right; (focus with_reducible assumption); walk_at "sub9")))); (case k6 => walk_at "un9")) | (refine' m_neNil (b := false) ?k1 ?k2 ?k3 ?k4 ?k5 ?k6 ?_; (case k1 => k_asm); (case k2 => k_mem); (case k3 => k_mem); (case k5 => exact rfl); (case k4 => (first | with_reducible assumption | exact List.forall_mem_nil _ | (focus (refine' rowsT_mono ?_ ?_; rotate_right; (focus with_reducible assumption); walk_at "sub9")))); (case k6 => walk_at "un9"))))) | ((with_reducible show wpAny _ _ (compareOp PySem.CmpOp.Eq (Value.ref _) (Value.ref _)) _ _ _); with_reducible (k_dflt (first | (refine' m_eq3 ?k1 ?k2 ?k3 ?k4 ?k5 ?k6 ?_; (case k1 => k_asm); (case k2 => k_mem); (case k3 => k_mem); (case k4 => (first | with_reducible assumption | exact remR_none | exact remR_some (by k_mem) | (focus (refine' RemR.mono ?_ ?_; rotate_right; (focus with_reducible assumption); walk_at "sub9")))); (case k5 => (first | with_reducible assumption | exact remR_none | exact remR_some (by k_mem) | (focus (refine' RemR.mono ?_ ?_; rotate_right; (focus with_reducible assumption); walk_at "sub9")))); (case k6 => walk_at "un9")) | (refine' m_eqNil (b := true) ?k1 ?k2 ?k3 ?k4 ?k5 ?k6 ?_; (case k1 => k_asm); (case k2 => k_mem); (case k3 => k_mem); (case k5 => exact rfl); (case k4 => (first | with_reducible assumption | exact List.forall_mem_nil _ | (focus (refine' rowsT_mono ?_ ?_; rotate_right; (focus with_reducible assumption); walk_at "sub9")))); (case k6 => walk_at "un9")) | (refine' m_eqNil (b := false) ?k1 ?k2 ?k3 ?k4 ?k5 ?k6 ?_; (case k1 => k_asm); (case k2 => k_mem); (case k3 => k_mem); (case k5 => exact rfl); (case k4 => (first | with_reducible assumption | exact List.forall_mem_nil _ | (focus (refine' rowsT_mono ?_ ?_; rotate_right; (focus with_reducible assumption); walk_at "sub9")))); (case k6 => walk_at "un9"))))) | ((with_reducible show wpAny _ _ (eval (PySem.Expr.ListComp _ _ _) _) _ _ _); with_reducible (k_here; (fail_if_success lct_look); k_dflt (refine' LCg.ListComp_U (F₀ := ?f0) ?c ?d ?e ?f ?g ?_; (case f0 => k_asm); (case c => with_unfolding_all rfl); (case d => decide); (case e => rfl); (case f => decide); (case g => rfl)))) | ((with_reducible show wpAny _ _ (exec (PySem.Stmt.Assign [_] (PySem.Expr.ListComp _ _ _) _) _) _ _ _); with_reducible (k_here; lct_look; k_dflt (refine' LCt.Assign_ListComp_T (F₀ := ?f0) ?a ?b ?c ?d ?e ?f ?g ?h ?i ?_; (case f0 => k_asm); (case a => rfl); (case b => with_unfolding_all rfl); (case c => with_unfolding_all rfl); (case d => decide);  (case e => rfl); (case f => decide); (case g => rfl); (case h => rfl); (case i => rfl)))) | ((with_reducible show wpAny _ _ (eval (PySem.Expr.ListComp _ _ _) _) _ _ _); with_reducible (k_here; lct_look; k_dflt (refine' LCt.ListComp_T (F₀ := ?f0) ?c ?d ?e ?f ?g ?_; (case f0 => k_asm); (case c => with_unfolding_all rfl); (case d => decide); (case e => rfl); (case f => decide); (case g => rfl)))) | walk1 | (dsimp only; walk1) | (leave1; try dsimp only)))
        all_goals first | exact F₁ | exact N₁ | k_asm | walk_at "news9"
      refine' elimG ?h9y7 ?k9y7
      case h9y7 =>
        have h9z : ∃ mm, mo.filter (fun q => decide (q.2.a = a ∧ q.2.p = b ∧ q.2.rm = none)) = mm := ⟨_, rfl⟩
        intro G9 k9
        obtain ⟨mm, hmm⟩ := h9z
        revert hmm
        revert mm
        exact k9
      intro mm hmm
      rw [hmm]
      have hmmr : ∀ q ∈ mm, RowT news q.1 q.2 := fun q hq => hor q (List.mem_filter.mp (hmm ▸ hq)).1
      rcases mm with _ | ⟨q1, mm⟩
      · (repeat' (first | (k_unfold; (try dsimp only)) | (k_end; wrow_close) | (with_reducible ((with_reducible show wpAny _ _ (subscriptTail _ _ (Value.ref _) (Value.int _ _)) _ _ _); k_dflt (refine' m_titem ?k1 ?k2 ?k3 ?k4 ?k5 ?k6 ?_; (case k1 => k_asm); (case k2 => walk_at "memR9"); (case k3 => decide); (case k4 => decide); (case k5 => rfl); (case k6 => rfl)))) | ((with_reducible show wpAny _ _ (binaryOp PySem.Operator.Add (Value.ref _) (Value.ref _)) _ _ _); with_reducible (k_here; k_dflt (refine' m_addRows ?F ?N ?k3 ?k4 ?k5 ?_; (case F => k_asm); (case N => k_asm); (case k3 => k_mem); (case k4 => k_mem); (case k5 => assumption)); intro kyl' kyh' kyF' kyN'; (try dsimp only))) | (with_reducible (k_here; (with_reducible show wpAny _ _ (subscriptTail _ (PySem.Expr.Slice (some _) none none _) (Value.ref _) (Value.ref _)) _ _ _); k_dflt (refine' m_slice4 (s := ⟨_, _, _, _, _⟩) ?F ?N ?k3 ?_; (case F => k_asm); (case N => k_asm); (case k3 => k_mem)); intro kyl' kyh' kyF' kyN'; (try dsimp only))) | (with_reducible ((with_reducible show wpAny _ _ (subscriptTail _ _ (Value.ref _) (Value.int _ _)) _ _ _); k_dflt (refine' m_item ?k1 ?k2 ?k3 ?k4 ?k5 ?_; (case k1 => k_asm); (case k2 => k_mem); (case k3 => decide); (case k4 => decide); (case k5 => rfl)); (try dsimp only))) | ((with_reducible show wpAny _ _ (compareOp PySem.CmpOp.NotEq (Value.ref _) (Value.ref _)) _ _ _); with_reducible (k_dflt (first | (refine' m_neNil (b := true) ?k1 ?k2 ?k3 ?k4 ?k5 ?k6 ?_; (case k1 => k_asm); (case k2 => k_mem); (case k3 => k_mem); (case k5 => exact rfl); (case k4 => (first | with_reducible assumption | exact List.forall_mem_nil _ | (focus (refine' rowsT_mono ?_ ?_; rotate_right; (focus with_reducible assumption); walk_at "sub9")))); (case k6 => walk_at "un9")) | (refine' m_neNil (b := false) ?k1 ?k2 ?k3 ?k4 ?k5 ?k6 ?_; (case k1 => k_asm); (case k2 => k_mem); (case k3 => k_mem); (case k5 => exact rfl); (case k4 => (first | with_reducible assumption | exact List.forall_mem_nil _ | (focus (refine' rowsT_mono ?_ ?_; rotate_right; (focus with_reducible assumption); walk_at "sub9")))); (case k6 => walk_at "un9"))))) | ((with_reducible show wpAny _ _ (compareOp PySem.CmpOp.Eq (Value.ref _) (Value.ref _)) _ _ _); with_reducible (k_dflt (first | (refine' m_eq3 ?k1 ?k2 ?k3 ?k4 ?k5 ?k6 ?_; (case k1 => k_asm); (case k2 => k_mem); (case k3 => k_mem); (case k4 => (first | with_reducible assumption | exact remR_none | exact remR_some (by k_mem) | (focus (refine' RemR.mono ?_ ?_; rotate_right; (focus with_reducible assumption); walk_at "sub9")))); (case k5 => (first | with_reducible assumption | exact remR_none | exact remR_some (by k_mem) | (focus (refine' RemR.mono ?_ ?_; rotate_right; (focus with_reducible assumption); walk_at "sub9")))); (case k6 => walk_at "un9")) | (refine' m_eqNil (b := true) ?k1 ?k2 ?k3 ?k4 ?k5 ?k6 ?_; (case k1 => k_asm); (case k2 => k_mem); (case k3 => k_mem); (case k5 => exact rfl); (case k4 => (first | with_reducible assumption | exact List.forall_mem_nil _ | (focus (refine' rowsT_mono ?_ ?_; rotate_right; (focus with_reducible assumption); walk_at "sub9")))); (case k6 => walk_at "un9")) | (refine' m_eqNil (b := false) ?k1 ?k2 ?k3 ?k4 ?k5 ?k6 ?_; (case k1 => k_asm); (case k2 => k_mem); (case k3 => k_mem); (case k5 => exact rfl); (case k4 => (first | with_reducible assumption | exact List.forall_mem_nil _ | (focus (refine' rowsT_mono ?_ ?_; rotate_right; (focus with_reducible assumption); walk_at "sub9")))); (case k6 => walk_at "un9"))))) | ((with_reducible show wpAny _ _ (eval (PySem.Expr.ListComp _ _ _) _) _ _ _); with_reducible (k_here; (fail_if_success lct_look); k_dflt (refine' LCg.ListComp_U (F₀ := ?f0) ?c ?d ?e ?f ?g ?_; (case f0 => k_asm); (case c => with_unfolding_all rfl); (case d => decide); (case e => rfl); (case f => decide); (case g => rfl)))) | ((with_reducible show wpAny _ _ (exec (PySem.Stmt.Assign [_] (PySem.Expr.ListComp _ _ _) _) _) _ _ _); with_reducible (k_here; lct_look; k_dflt (refine' LCt.Assign_ListComp_T (F₀ := ?f0) ?a ?b ?c ?d ?e ?f ?g ?h ?i ?_; (case f0 => k_asm); (case a => rfl); (case b => with_unfolding_all rfl); (case c => with_unfolding_all rfl); (case d => decide);  (case e => rfl); (case f => decide); (case g => rfl); (case h => rfl); (case i => rfl)))) | ((with_reducible show wpAny _ _ (eval (PySem.Expr.ListComp _ _ _) _) _ _ _); with_reducible (k_here; lct_look; k_dflt (refine' LCt.ListComp_T (F₀ := ?f0) ?c ?d ?e ?f ?g ?_; (case f0 => k_asm); (case c => with_unfolding_all rfl); (case d => decide); (case e => rfl); (case f => decide); (case g => rfl)))) | walk1 | (dsimp only; walk1) | (leave1; try dsimp only)))
        refine' hret2 _ ((_, listOf (trs.map (fun (q : Addr × Row) => Value.ref q.1) ++ [Value.ref ?tt]).toArray 0) :: (?tt, tupO [.int o t1, .int a t2, .int b t3, .none]) :: news) (trs ++ [(?tt, ⟨o, a, b, none⟩)]) _ _ ?e ⟨⟨0, ?me⟩, ?rw⟩ (fun _ h => List.mem_cons_of_mem _ (List.mem_cons_of_mem _ h)) ?F ?N
        (case N => walk_at "news9")
        (case F => k_asm)
        (case e => rw [stepF, if_pos rfl, has_mf hmf, there_mm hmo hmm, List.map_append]; rfl)
        (case me => unfold rowsO; rw [List.map_append]; exact List.mem_cons_self)
        (case rw =>
          intro q hq
          rcases List.mem_append.mp hq with hq | hq
          · exact (hRr q hq).mono fun _ h => List.mem_cons_of_mem _ (List.mem_cons_of_mem _ h)
          · rw [List.mem_singleton] at hq
            subst hq
            exact ⟨_, _, _, _, List.mem_cons_of_mem _ List.mem_cons_self, remR_none⟩)
      · (repeat' (first | (k_unfold; (try dsimp only)) | (k_end; wrow_close) | (with_reducible ((with_reducible show wpAny _ _ (subscriptTail _ _ (Value.ref _) (Value.int _ _)) _ _ _); k_dflt (refine' m_titem ?k1 ?k2 ?k3 ?k4 ?k5 ?k6 ?_; (case k1 => k_asm); (case k2 => walk_at "memR9"); (case k3 => decide); (case k4 => decide); (case k5 => rfl); (case k6 => rfl)))) | ((with_reducible show wpAny _ _ (binaryOp PySem.Operator.Add (Value.ref _) (Value.ref _)) _ _ _); with_reducible (k_here; k_dflt (refine' m_addRows ?F ?N ?k3 ?k4 ?k5 ?_; (case F => k_asm); (case N => k_asm); (case k3 => k_mem); (case k4 => k_mem); (case k5 => assumption)); intro kyl' kyh' kyF' kyN'; (try dsimp only))) | (with_reducible (k_here; (with_reducible show wpAny _ _ (subscriptTail _ (PySem.Expr.Slice (some _) none none _) (Value.ref _) (Value.ref _)) _ _ _); k_dflt (refine' m_slice4 (s := ⟨_, _, _, _, _⟩) ?F ?N ?k3 ?_; (case F => k_asm); (case N => k_asm); (case k3 => k_mem)); intro kyl' kyh' kyF' kyN'; (try dsimp only))) | (with_reducible ((with_reducible show wpAny _ _ (subscriptTail _ _ (Value.ref _) (Value.int _ _)) _ _ _); k_dflt (refine' m_item ?k1 ?k2 ?k3 ?k4 ?k5 ?_; (case k1 => k_asm); (case k2 => k_mem); (case k3 => decide); (case k4 => decide); (case k5 => rfl)); (try dsimp only))) | ((with_reducible show wpAny _ _ (compareOp PySem.CmpOp.NotEq (Value.ref _) (Value.ref _)) _ _ _); with_reducible (k_dflt (first | (refine' m_neNil (b := true) ?k1 ?k2 ?k3 ?k4 ?k5 ?k6 ?_; (case k1 => k_asm); (case k2 => k_mem); (case k3 => k_mem); (case k5 => exact rfl); (case k4 => (first | with_reducible assumption | exact List.forall_mem_nil _ | (focus (refine' rowsT_mono ?_ ?_; rotate_right; (focus with_reducible assumption); walk_at "sub9")))); (case k6 => walk_at "un9")) | (refine' m_neNil (b := false) ?k1 ?k2 ?k3 ?k4 ?k5 ?k6 ?_; (case k1 => k_asm); (case k2 => k_mem); (case k3 => k_mem); (case k5 => exact rfl); (case k4 => (first | with_reducible assumption | exact List.forall_mem_nil _ | (focus (refine' rowsT_mono ?_ ?_; rotate_right; (focus with_reducible assumption); walk_at "sub9")))); (case k6 => walk_at "un9"))))) | ((with_reducible show wpAny _ _ (compareOp PySem.CmpOp.Eq (Value.ref _) (Value.ref _)) _ _ _); with_reducible (k_dflt (first | (refine' m_eq3 ?k1 ?k2 ?k3 ?k4 ?k5 ?k6 ?_; (case k1 => k_asm); (case k2 => k_mem); (case k3 => k_mem); (case k4 => (first | with_reducible assumption | exact remR_none | exact remR_some (by k_mem) | (focus (refine' RemR.mono ?_ ?_; rotate_right; (focus with_reducible assumption); walk_at "sub9")))); (case k5 => (first | with_reducible assumption | exact remR_none | exact remR_some (by k_mem) | (focus (refine' RemR.mono ?_ ?_; rotate_right; (focus with_reducible assumption); walk_at "sub9")))); (case k6 => walk_at "un9")) | (refine' m_eqNil (b := true) ?k1 ?k2 ?k3 ?k4 ?k5 ?k6 ?_; (case k1 => k_asm); (case k2 => k_mem); (case k3 => k_mem); (case k5 => exact rfl); (case k4 => (first | with_reducible assumption | exact List.forall_mem_nil _ | (focus (refine' rowsT_mono ?_ ?_; rotate_right; (focus with_reducible assumption); walk_at "sub9")))); (case k6 => walk_at "un9")) | (refine' m_eqNil (b := false) ?k1 ?k2 ?k3 ?k4 ?k5 ?k6 ?_; (case k1 => k_asm); (case k2 => k_mem); (case k3 => k_mem); (case k5 => exact rfl); (case k4 => (first | with_reducible assumption | exact List.forall_mem_nil _ | (focus (refine' rowsT_mono ?_ ?_; rotate_right; (focus with_reducible assumption); walk_at "sub9")))); (case k6 => walk_at "un9"))))) | ((with_reducible show wpAny _ _ (eval (PySem.Expr.ListComp _ _ _) _) _ _ _); with_reducible (k_here; (fail_if_success lct_look); k_dflt (refine' LCg.ListComp_U (F₀ := ?f0) ?c ?d ?e ?f ?g ?_; (case f0 => k_asm); (case c => with_unfolding_all rfl); (case d => decide); (case e => rfl); (case f => decide); (case g => rfl)))) | ((with_reducible show wpAny _ _ (exec (PySem.Stmt.Assign [_] (PySem.Expr.ListComp _ _ _) _) _) _ _ _); with_reducible (k_here; lct_look; k_dflt (refine' LCt.Assign_ListComp_T (F₀ := ?f0) ?a ?b ?c ?d ?e ?f ?g ?h ?i ?_; (case f0 => k_asm); (case a => rfl); (case b => with_unfolding_all rfl); (case c => with_unfolding_all rfl); (case d => decide);  (case e => rfl); (case f => decide); (case g => rfl); (case h => rfl); (case i => rfl)))) | ((with_reducible show wpAny _ _ (eval (PySem.Expr.ListComp _ _ _) _) _ _ _); with_reducible (k_here; lct_look; k_dflt (refine' LCt.ListComp_T (F₀ := ?f0) ?c ?d ?e ?f ?g ?_; (case f0 => k_asm); (case c => with_unfolding_all rfl); (case d => decide); (case e => rfl); (case f => decide); (case g => rfl)))) | walk1 | (dsimp only; walk1) | (leave1; try dsimp only)))
        exact hret1 _ _ _ _ (by rw [stepF, if_pos rfl, has_mf hmf, there_mm hmo hmm]; rfl) (by k_asm) (by walk_at "news9")
    · (repeat' (first | (k_unfold; (try dsimp only)) | (k_end; wrow_close) | (with_reducible ((with_reducible show wpAny _ _ (subscriptTail _ _ (Value.ref _) (Value.int _ _)) _ _ _); k_dflt (refine' m_titem ?k1 ?k2 ?k3 ?k4 ?k5 ?k6 ?_; (case k1 => k_asm); (case k2 => walk_at "memR9"); (case k3 => decide); (case k4 => decide); (case k5 => rfl); (case k6 => rfl)))) | ((with_reducible show wpAny _ _ (binaryOp PySem.Operator.Add (Value.ref _) (Value.ref _)) _ _ _); with_reducible (k_here; k_dflt (refine' m_addRows ?F ?N ?k3 ?k4 ?k5 ?_; (case F => k_asm); (case N => k_asm); (case k3 => k_mem); (case k4 => k_mem); (case k5 => assumption)); intro kyl' kyh' kyF' kyN'; (try dsimp only))) | (with_reducible (k_here; (with_reducible show wpAny _ _ (subscriptTail _ (PySem.Expr.Slice (some _) none none _) (Value.ref _) (Value.ref _)) _ _ _); k_dflt (refine' m_slice4 (s := ⟨_, _, _, _, _⟩) ?F ?N ?k3 ?_; (case F => k_asm); (case N => k_asm); (case k3 => k_mem)); intro kyl' kyh' kyF' kyN'; (try dsimp only))) | (with_reducible ((with_reducible show wpAny _ _ (subscriptTail _ _ (Value.ref _) (Value.int _ _)) _ _ _); k_dflt (refine' m_item ?k1 ?k2 ?k3 ?k4 ?k5 ?_; (case k1 => k_asm); (case k2 => k_mem); (case k3 => decide); (case k4 => decide); (case k5 => rfl)); (try dsimp only))) | ((with_reducible show wpAny _ _ (compareOp PySem.CmpOp.NotEq (Value.ref _) (Value.ref _)) _ _ _); with_reducible (k_dflt (first | (refine' m_neNil (b := true) ?k1 ?k2 ?k3 ?k4 ?k5 ?k6 ?_; (case k1 => k_asm); (case k2 => k_mem); (case k3 => k_mem); (case k5 => exact rfl); (case k4 => (first | with_reducible assumption | exact List.forall_mem_nil _ | (focus (refine' rowsT_mono ?_ ?_; rotate_right; (focus with_reducible assumption); walk_at "sub9")))); (case k6 => walk_at "un9")) | (refine' m_neNil (b := false) ?k1 ?k2 ?k3 ?k4 ?k5 ?k6 ?_; (case k1 => k_asm); (case k2 => k_mem); (case k3 => k_mem); (case k5 => exact rfl); (case k4 => (first | with_reducible assumption | exact List.forall_mem_nil _ | (focus (refine' rowsT_mono ?_ ?_; rotate_right; (focus with_reducible assumption); walk_at "sub9")))); (case k6 => walk_at "un9"))))) | ((with_reducible show wpAny _ _ (compareOp PySem.CmpOp.Eq (Value.ref _) (Value.ref _)) _ _ _); with_reducible (k_dflt (first | (refine' m_eq3 ?k1 ?k2 ?k3 ?k4 ?k5 ?k6 ?_; (case k1 => k_asm); (case k2 => k_mem); (case k3 => k_mem); (case k4 => (first | with_reducible assumption | exact remR_none | exact remR_some (by k_mem) | (focus (refine' RemR.mono ?_ ?_; rotate_right; (focus with_reducible assumption); walk_at "sub9")))); (case k5 => (first | with_reducible assumption | exact remR_none | exact remR_some (by k_mem) | (focus (refine' RemR.mono ?_ ?_; rotate_right; (focus with_reducible assumption); walk_at "sub9")))); (case k6 => walk_at "un9")) | (refine' m_eqNil (b := true) ?k1 ?k2 ?k3 ?k4 ?k5 ?k6 ?_; (case k1 => k_asm); (case k2 => k_mem); (case k3 => k_mem); (case k5 => exact rfl); (case k4 => (first | with_reducible assumption | exact List.forall_mem_nil _ | (focus (refine' rowsT_mono ?_ ?_; rotate_right; (focus with_reducible assumption); walk_at "sub9")))); (case k6 => walk_at "un9")) | (refine' m_eqNil (b := false) ?k1 ?k2 ?k3 ?k4 ?k5 ?k6 ?_; (case k1 => k_asm); (case k2 => k_mem); (case k3 => k_mem); (case k5 => exact rfl); (case k4 => (first | with_reducible assumption | exact List.forall_mem_nil _ | (focus (refine' rowsT_mono ?_ ?_; rotate_right; (focus with_reducible assumption); walk_at "sub9")))); (case k6 => walk_at "un9"))))) | ((with_reducible show wpAny _ _ (eval (PySem.Expr.ListComp _ _ _) _) _ _ _); with_reducible (k_here; (fail_if_success lct_look); k_dflt (refine' LCg.ListComp_U (F₀ := ?f0) ?c ?d ?e ?f ?g ?_; (case f0 => k_asm); (case c => with_unfolding_all rfl); (case d => decide); (case e => rfl); (case f => decide); (case g => rfl)))) | ((with_reducible show wpAny _ _ (exec (PySem.Stmt.Assign [_] (PySem.Expr.ListComp _ _ _) _) _) _ _ _); with_reducible (k_here; lct_look; k_dflt (refine' LCt.Assign_ListComp_T (F₀ := ?f0) ?a ?b ?c ?d ?e ?f ?g ?h ?i ?_; (case f0 => k_asm); (case a => rfl); (case b => with_unfolding_all rfl); (case c => with_unfolding_all rfl); (case d => decide);  (case e => rfl); (case f => decide); (case g => rfl); (case h => rfl); (case i => rfl)))) | ((with_reducible show wpAny _ _ (eval (PySem.Expr.ListComp _ _ _) _) _ _ _); with_reducible (k_here; lct_look; k_dflt (refine' LCt.ListComp_T (F₀ := ?f0) ?c ?d ?e ?f ?g ?_; (case f0 => k_asm); (case c => with_unfolding_all rfl); (case d => decide); (case e => rfl); (case f => decide); (case g => rfl)))) | walk1 | (dsimp only; walk1) | (leave1; try dsimp only)))
      exact hret1 _ _ _ _ (by rw [stepF, if_pos rfl, has_mf hmf]; rfl) (by k_asm) (by walk_at "news9")
  · rcases mf with _ | ⟨q0, mf⟩
    · (repeat' (first | (k_unfold; (try dsimp only)) | (k_end; wrow_close) | (with_reducible ((with_reducible show wpAny _ _ (subscriptTail _ _ (Value.ref _) (Value.int _ _)) _ _ _); k_dflt (refine' m_titem ?k1 ?k2 ?k3 ?k4 ?k5 ?k6 ?_; (case k1 => k_asm); (case k2 => walk_at "memR9"); (case k3 => decide); (case k4 => decide); (case k5 => rfl); (case k6 => rfl)))) | ((with_reducible show wpAny _ _ (binaryOp PySem.Operator.Add (Value.ref _) (Value.ref _)) _ _ _); with_reducible (k_here; k_dflt (refine' m_addRows ?F ?N ?k3 ?k4 ?k5 ?_; (case F => k_asm); (case N => k_asm); (case k3 => k_mem); (case k4 => k_mem); (case k5 => assumption)); intro kyl' kyh' kyF' kyN'; (try dsimp only))) | (with_reducible (k_here; (with_reducible show wpAny _ _ (subscriptTail _ (PySem.Expr.Slice (some _) none none _) (Value.ref _) (Value.ref _)) _ _ _); k_dflt (refine' m_slice4 (s := ⟨_, _, _, _, _⟩) ?F ?N ?k3 ?_; (case F => k_asm); (case N => k_asm); (case k3 => k_mem)); intro kyl' kyh' kyF' kyN'; (try dsimp only))) | (with_reducible ((with_reducible show wpAny _ _ (subscriptTail _ _ (Value.ref _) (Value.int _ _)) _ _ _); k_dflt (refine' m_item ?k1 ?k2 ?k3 ?k4 ?k5 ?_; (case k1 => k_asm); (case k2 => k_mem); (case k3 => decide); (case k4 => decide); (case k5 => rfl)); (try dsimp only))) | ((with_reducible show wpAny _ _ (compareOp PySem.CmpOp.NotEq (Value.ref _) (Value.ref _)) _ _ _); with_reducible (k_dflt (first | (refine' m_neNil (b := true) ?k1 ?k2 ?k3 ?k4 ?k5 ?k6 ?_; (case k1 => k_asm); (case k2 => k_mem); (case k3 => k_mem); (case k5 => exact rfl); (case k4 => (first | with_reducible assumption | exact List.forall_mem_nil _ | (focus (refine' rowsT_mono ?_ ?_; rotate_right; (focus with_reducible assumption); walk_at "sub9")))); (case k6 => walk_at "un9")) | (refine' m_neNil (b := false) ?k1 ?k2 ?k3 ?k4 ?k5 ?k6 ?_; (case k1 => k_asm); (case k2 => k_mem); (case k3 => k_mem); (case k5 => exact rfl); (case k4 => (first | with_reducible assumption | exact List.forall_mem_nil _ | (focus (refine' rowsT_mono ?_ ?_; rotate_right; (focus with_reducible assumption); walk_at "sub9")))); (case k6 => walk_at "un9"))))) | ((with_reducible show wpAny _ _ (compareOp PySem.CmpOp.Eq (Value.ref _) (Value.ref _)) _ _ _); with_reducible (k_dflt (first | (refine' m_eq3 ?k1 ?k2 ?k3 ?k4 ?k5 ?k6 ?_; (case k1 => k_asm); (case k2 => k_mem); (case k3 => k_mem); (case k4 => (first | with_reducible assumption | exact remR_none | exact remR_some (by k_mem) | (focus (refine' RemR.mono ?_ ?_; rotate_right; (focus with_reducible assumption); walk_at "sub9")))); (case k5 => (first | with_reducible assumption | exact remR_none | exact remR_some (by k_mem) | (focus (refine' RemR.mono ?_ ?_; rotate_right; (focus with_reducible assumption); walk_at "sub9")))); (case k6 => walk_at "un9")) | (refine' m_eqNil (b := true) ?k1 ?k2 ?k3 ?k4 ?k5 ?k6 ?_; (case k1 => k_asm); (case k2 => k_mem); (case k3 => k_mem); (case k5 => exact rfl); (case k4 => (first | with_reducible assumption | exact List.forall_mem_nil _ | (focus (refine' rowsT_mono ?_ ?_; rotate_right; (focus with_reducible assumption); walk_at "sub9")))); (case k6 => walk_at "un9")) | (refine' m_eqNil (b := false) ?k1 ?k2 ?k3 ?k4 ?k5 ?k6 ?_; (case k1 => k_asm); (case k2 => k_mem); (case k3 => k_mem); (case k5 => exact rfl); (case k4 => (first | with_reducible assumption | exact List.forall_mem_nil _ | (focus (refine' rowsT_mono ?_ ?_; rotate_right; (focus with_reducible assumption); walk_at "sub9")))); (case k6 => walk_at "un9"))))) | ((with_reducible show wpAny _ _ (eval (PySem.Expr.ListComp _ _ _) _) _ _ _); with_reducible (k_here; (fail_if_success lct_look); k_dflt (refine' LCg.ListComp_U (F₀ := ?f0) ?c ?d ?e ?f ?g ?_; (case f0 => k_asm); (case c => with_unfolding_all rfl); (case d => decide); (case e => rfl); (case f => decide); (case g => rfl)))) | ((with_reducible show wpAny _ _ (exec (PySem.Stmt.Assign [_] (PySem.Expr.ListComp _ _ _) _) _) _ _ _); with_reducible (k_here; lct_look; k_dflt (refine' LCt.Assign_ListComp_T (F₀ := ?f0) ?a ?b ?c ?d ?e ?f ?g ?h ?i ?_; (case f0 => k_asm); (case a => rfl); (case b => with_unfolding_all rfl); (case c => with_unfolding_all rfl); (case d => decide);  (case e => rfl); (case f => decide); (case g => rfl); (case h => rfl); (case i => rfl)))) | ((with_reducible show wpAny _ _ (eval (PySem.Expr.ListComp _ _ _) _) _ _ _); with_reducible (k_here; lct_look; k_dflt (refine' LCt.ListComp_T (F₀ := ?f0) ?c ?d ?e ?f ?g ?_; (case f0 => k_asm); (case c => with_unfolding_all rfl); (case d => decide); (case e => rfl); (case f => decide); (case g => rfl)))) | walk1 | (dsimp only; walk1) | (leave1; try dsimp only)))
      exact hret1 _ _ _ _ (by rw [stepF, if_neg ncb, if_pos rfl, find_mf hmf]; rfl) (by k_asm) (by walk_at "news9")
    · refine' elimG ?h9y8 ?k9y8
      case h9y8 =>
        intro G9 k9
        obtain ⟨w1, w2, w3, rv0, hqm0, hqR0⟩ := hmr q0 List.mem_cons_self
        revert hqR0
        revert hqm0
        revert rv0
        revert w3
        revert w2
        revert w1
        exact k9
      intro w1 w2 w3 rv0 hqm0 hqR0
      (repeat' (first | (k_unfold; (try dsimp only)) | (k_end; wrow_close) | (with_reducible ((with_reducible show wpAny _ _ (subscriptTail _ _ (Value.ref _) (Value.int _ _)) _ _ _); k_dflt (refine' m_titem ?k1 ?k2 ?k3 ?k4 ?k5 ?k6 ?_; (case k1 => k_asm); (case k2 => walk_at "memR9"); (case k3 => decide); (case k4 => decide); (case k5 => rfl); (case k6 => rfl)))) | ((with_reducible show wpAny _ _ (binaryOp PySem.Operator.Add (Value.ref _) (Value.ref _)) _ _ _); with_reducible (k_here; k_dflt (refine' m_addRows ?F ?N ?k3 ?k4 ?k5 ?_; (case F => k_asm); (case N => k_asm); (case k3 => k_mem); (case k4 => k_mem); (case k5 => assumption)); intro kyl' kyh' kyF' kyN'; (try dsimp only))) | (with_reducible (k_here; (with_reducible show wpAny _ _ (subscriptTail _ (PySem.Expr.Slice (some _) none none _) (Value.ref _) (Value.ref _)) _ _ _); k_dflt (refine' m_slice4 (s := ⟨_, _, _, _, _⟩) ?F ?N ?k3 ?_; (case F => k_asm); (case N => k_asm); (case k3 => k_mem)); intro kyl' kyh' kyF' kyN'; (try dsimp only))) | (with_reducible ((with_reducible show wpAny _ _ (subscriptTail _ _ (Value.ref _) (Value.int _ _)) _ _ _); k_dflt (refine' m_item ?k1 ?k2 ?k3 ?k4 ?k5 ?_; (case k1 => k_asm); (case k2 => k_mem); (case k3 => decide); (case k4 => decide); (case k5 => rfl)); (try dsimp only))) | ((with_reducible show wpAny _ _ (compareOp PySem.CmpOp.NotEq (Value.ref _) (Value.ref _)) _ _ _); with_reducible (k_dflt (first | (refine' m_neNil (b := true) ?k1 ?k2 ?k3 ?k4 ?k5 ?k6 ?_; (case k1 => k_asm); (case k2 => k_mem); (case k3 => k_mem); (case k5 => exact rfl); (case k4 => (first | with_reducible assumption | exact List.forall_mem_nil _ | (focus (refine' rowsT_mono ?_ ?_; rotate_right; (focus with_reducible assumption); walk_at "sub9")))); (case k6 => walk_at "un9")) | (refine' m_neNil (b := false) ?k1 ?k2 ?k3 ?k4 ?k5 ?k6 ?_; (case k1 => k_asm); (case k2 => k_mem); (case k3 => k_mem); (case k5 => exact rfl); (case k4 => (first | with_reducible assumption | exact List.forall_mem_nil _ | (focus (refine' rowsT_mono ?_ ?_; rotate_right; (focus with_reducible assumption); walk_at "sub9")))); (case k6 => walk_at "un9"))))) | ((with_reducible show wpAny _ _ (compareOp PySem.CmpOp.Eq (Value.ref _) (Value.ref _)) _ _ _); with_reducible (k_dflt (first | (refine' m_eq3 ?k1 ?k2 ?k3 ?k4 ?k5 ?k6 ?_; (case k1 => k_asm); (case k2 => k_mem); (case k3 => k_mem); (case k4 => (first | with_reducible assumption | exact remR_none | exact remR_some (by k_mem) | (focus (refine' RemR.mono ?_ ?_; rotate_right; (focus with_reducible assumption); walk_at "sub9")))); (case k5 => (first | with_reducible assumption | exact remR_none | exact remR_some (by k_mem) | (focus (refine' RemR.mono ?_ ?_; rotate_right; (focus with_reducible assumption); walk_at "sub9")))); (case k6 => walk_at "un9")) | (refine' m_eqNil (b := true) ?k1 ?k2 ?k3 ?k4 ?k5 ?k6 ?_; (case k1 => k_asm); (case k2 => k_mem); (case k3 => k_mem); (case k5 => exact rfl); (case k4 => (first | with_reducible assumption | exact List.forall_mem_nil _ | (focus (refine' rowsT_mono ?_ ?_; rotate_right; (focus with_reducible assumption); walk_at "sub9")))); (case k6 => walk_at "un9")) | (refine' m_eqNil (b := false) ?k1 ?k2 ?k3 ?k4 ?k5 ?k6 ?_; (case k1 => k_asm); (case k2 => k_mem); (case k3 => k_mem); (case k5 => exact rfl); (case k4 => (first | with_reducible assumption | exact List.forall_mem_nil _ | (focus (refine' rowsT_mono ?_ ?_; rotate_right; (focus with_reducible assumption); walk_at "sub9")))); (case k6 => walk_at "un9"))))) | ((with_reducible show wpAny _ _ (eval (PySem.Expr.ListComp _ _ _) _) _ _ _); with_reducible (k_here; (fail_if_success lct_look); k_dflt (refine' LCg.ListComp_U (F₀ := ?f0) ?c ?d ?e ?f ?g ?_; (case f0 => k_asm); (case c => with_unfolding_all rfl); (case d => decide); (case e => rfl); (case f => decide); (case g => rfl)))) | ((with_reducible show wpAny _ _ (exec (PySem.Stmt.Assign [_] (PySem.Expr.ListComp _ _ _) _) _) _ _ _); with_reducible (k_here; lct_look; k_dflt (refine' LCt.Assign_ListComp_T (F₀ := ?f0) ?a ?b ?c ?d ?e ?f ?g ?h ?i ?_; (case f0 => k_asm); (case a => rfl); (case b => with_unfolding_all rfl); (case c => with_unfolding_all rfl); (case d => decide);  (case e => rfl); (case f => decide); (case g => rfl); (case h => rfl); (case i => rfl)))) | ((with_reducible show wpAny _ _ (eval (PySem.Expr.ListComp _ _ _) _) _ _ _); with_reducible (k_here; lct_look; k_dflt (refine' LCt.ListComp_T (F₀ := ?f0) ?c ?d ?e ?f ?g ?_; (case f0 => k_asm); (case c => with_unfolding_all rfl); (case d => decide); (case e => rfl); (case f => decide); (case g => rfl)))) | walk1 | (dsimp only; walk1) | (leave1; try dsimp only)))
      refine filt_rest (fun c => decide (c.a = q0.2.a ∧ c.p = q0.2.p ∧ c.rm = some (a, b))) (.inr ⟨_, (by k_mem), rfl, _, rfl⟩) rfl rfl (by decide) ?_ ?_
      · intro q hq ys I oI C oC D m₂ h tk E' hC hx F₁ N₁
        refine' elimG ?h9y9 ?k9y9
        case h9y9 =>
          intro G9 k9
          obtain ⟨u1, u2, u3, rv, hqm, hqR⟩ := hor q hq
          revert hqR
          revert hqm
          revert rv
          revert u3
          revert u2
          revert u1
          exact k9
        intro u1 u2 u3 rv hqm hqR
        (try dsimp only)
        (repeat' (first | (k_unfold; (try dsimp only)) | (k_end; wrow_close) | (with_reducible ((with_reducible show wpAny _ _ (subscriptTail _ _ (Value.ref _) (Value.int _ _)) _ _ _); k_dflt (refine' m_titem ?k1 ?k2 ?k3 ?k4 ?k5 ?k6 ?_; (case k1 => k_asm); (case k2 => walk_at "memR9"); (case k3 => decide); (case k4 => decide); (case k5 => rfl); (case k6 => rfl)))) | ((with_reducible show wpAny _ _ (binaryOp PySem.Operator.Add (Value.ref _) (Value.ref _)) _ _ _); with_reducible (k_here; k_dflt (refine' m_addRows ?F ?N ?k3 ?k4 ?k5 ?_; (case F => k_asm); (case N => k_asm); (case k3 => k_mem); (case k4 => k_mem); (case k5 => assumption)); intro kyl' kyh' kyF' kyN'; (try dsimp only))) | (with_reducible (k_here; (with_reducible show wpAny _ _ (subscriptTail _ (PySem.Expr.Slice (some _) none none _) (Value.ref _) (Value.ref _)) _ _ _); k_dflt (refine' m_slice4 (s := ⟨_, _, _, _, _⟩) ?F ?N ?k3 ?_; (case F => k_asm); (case N => k_asm); (case k3 => k_mem)); intro kyl' kyh' kyF' kyN'; (try dsimp only))) | (with_reducible ((with_reducible show wpAny _ _ (subscriptTail _ _ (Value.ref _) (Value.int _ _)) _ _ _); k_dflt (refine' m_item ?k1 ?k2 ?k3 ?k4 ?k5 ?_; (case k1 => k_asm); (case k2 => k_mem); (case k3 => decide); (case k4 => decide); (case k5 => rfl)); (try dsimp only))) | ((with_reducible show wpAny _ _ (compareOp PySem.CmpOp.NotEq (Value.ref _) (Value.ref _)) _ _ _); with_reducible (k_dflt (first | (refine' m_neNil (b := true) ?k1 ?k2 ?k3 ?k4 ?k5 ?k6 ?_; (case k1 => k_asm); (case k2 => k_mem); (case k3 => k_mem); (case k5 => exact rfl); (case k4 => (first | with_reducible assumption | exact List.forall_mem_nil _ | (focus (refine' rowsT_mono ?_ ?_; rotate_right; (focus with_reducible assumption); walk_at "sub9")))); (case k6 => walk_at "un9")) | (refine' m_neNil (b := false) ?k1 ?k2 ?k3 ?k4 ?k5 ?k6 ?_; (case k1 => k_asm); (case k2 => k_mem); (case k3 => k_mem); (case k5 => exact rfl); (case k4 => (first | with_reducible assumption | exact List.forall_mem_nil _ | (focus (refine' rowsT_mono ?_ ?_; rotate_right; (focus with_reducible assumption); walk_at "sub9")))); (case k6 => walk_at "un9"))))) | ((with_reducible show wpAny _ _ (compareOp PySem.CmpOp.Eq (Value.ref _) (Value.ref _)) _ _ _); with_reducible (k_dflt (first | (refine' m_eq3 ?k1 ?k2 ?k3 ?k4 ?k5 ?k6 ?_; (case k1 => k_asm); (case k2 => k_mem); (case k3 => k_mem); (case k4 => (first | with_reducible assumption | exact remR_none | exact remR_some (by k_mem) | (focus (refine' RemR.mono ?_ ?_; rotate_right; (focus with_reducible assumption); walk_at "sub9")))); (case k5 => (first | with_reducible assumption | exact remR_none | exact remR_some (by k_mem) | (focus (refine' RemR.mono ?_ ?_; rotate_right; (focus with_reducible assumption); walk_at "sub9")))); (case k6 => walk_at "un9")) | (refine' m_eqNil (b := true) ?k1 ?k2 ?k3 ?k4 ?k5 ?k6 ?_; (case k1 => k_asm); (case k2 => k_mem); (case k3 => k_mem); (case k5 => exact rfl); (case k4 => (first | with_reducible assumption | exact List.forall_mem_nil _ | (focus (refine' rowsT_mono ?_ ?_; rotate_right; (focus with_reducible assumption); walk_at "sub9")))); (case k6 => walk_at "un9")) | (refine' m_eqNil (b := false) ?k1 ?k2 ?k3 ?k4 ?k5 ?k6 ?_; (case k1 => k_asm); (case k2 => k_mem); (case k3 => k_mem); (case k5 => exact rfl); (case k4 => (first | with_reducible assumption | exact List.forall_mem_nil _ | (focus (refine' rowsT_mono ?_ ?_; rotate_right; (focus with_reducible assumption); walk_at "sub9")))); (case k6 => walk_at "un9"))))) | ((with_reducible show wpAny _ _ (eval (PySem.Expr.ListComp _ _ _) _) _ _ _); with_reducible (k_here; (fail_if_success lct_look); k_dflt (refine' LCg.ListComp_U (F₀ := ?f0) ?c ?d ?e ?f ?g ?_; (case f0 => k_asm); (case c => with_unfolding_all rfl); (case d => decide); (case e => rfl); (case f => decide); (case g => rfl)))) | ((with_reducible show wpAny _ _ (exec (PySem.Stmt.Assign [_] (PySem.Expr.ListComp _ _ _) _) _) _ _ _); with_reducible (k_here; lct_look; k_dflt (refine' LCt.Assign_ListComp_T (F₀ := ?f0) ?a ?b ?c ?d ?e ?f ?g ?h ?i ?_; (case f0 => k_asm); (case a => rfl); (case b => with_unfolding_all rfl); (case c => with_unfolding_all rfl); (case d => decide);  (case e => rfl); (case f => decide); (case g => rfl); (case h => rfl); (case i => rfl)))) | ((with_reducible show wpAny _ _ (eval (PySem.Expr.ListComp _ _ _) _) _ _ _); with_reducible (k_here; lct_look; k_dflt (refine' LCt.ListComp_T (F₀ := ?f0) ?c ?d ?e ?f ?g ?_; (case f0 => k_asm); (case c => with_unfolding_all rfl); (case d => decide); (case e => rfl); (case f => decide); (case g => rfl)))) | walk1 | (dsimp only; walk1) | (leave1; try dsimp only)))
        all_goals first | exact F₁ | exact N₁ | k_asm | walk_at "news9"
      refine' elimG ?h9y10 ?k9y10
      case h9y10 =>
        have h9z : ∃ mm, mo.filter (fun q => decide (q.2.a = q0.2.a ∧ q.2.p = q0.2.p ∧ q.2.rm = some (a, b))) = mm := ⟨_, rfl⟩
        intro G9 k9
        obtain ⟨mm, hmm⟩ := h9z
        revert hmm
        revert mm
        exact k9
      intro mm hmm
      rw [hmm]
      have hmmr : ∀ q ∈ mm, RowT news q.1 q.2 := fun q hq => hor q (List.mem_filter.mp (hmm ▸ hq)).1
      rcases mm with _ | ⟨q1, mm⟩
      · (repeat' (first | (k_unfold; (try dsimp only)) | (k_end; wrow_close) | (with_reducible ((with_reducible show wpAny _ _ (subscriptTail _ _ (Value.ref _) (Value.int _ _)) _ _ _); k_dflt (refine' m_titem ?k1 ?k2 ?k3 ?k4 ?k5 ?k6 ?_; (case k1 => k_asm); (case k2 => walk_at "memR9"); (case k3 => decide); (case k4 => decide); (case k5 => rfl); (case k6 => rfl)))) | ((with_reducible show wpAny _ _ (binaryOp PySem.Operator.Add (Value.ref _) (Value.ref _)) _ _ _); with_reducible (k_here; k_dflt (refine' m_addRows ?F ?N ?k3 ?k4 ?k5 ?_; (case F => k_asm); (case N => k_asm); (case k3 => k_mem); (case k4 => k_mem); (case k5 => assumption)); intro kyl' kyh' kyF' kyN'; (try dsimp only))) | (with_reducible (k_here; (with_reducible show wpAny _ _ (subscriptTail _ (PySem.Expr.Slice (some _) none none _) (Value.ref _) (Value.ref _)) _ _ _); k_dflt (refine' m_slice4 (s := ⟨_, _, _, _, _⟩) ?F ?N ?k3 ?_; (case F => k_asm); (case N => k_asm); (case k3 => k_mem)); intro kyl' kyh' kyF' kyN'; (try dsimp only))) | (with_reducible ((with_reducible show wpAny _ _ (subscriptTail _ _ (Value.ref _) (Value.int _ _)) _ _ _); k_dflt (refine' m_item ?k1 ?k2 ?k3 ?k4 ?k5 ?_; (case k1 => k_asm); (case k2 => k_mem); (case k3 => decide); (case k4 => decide); (case k5 => rfl)); (try dsimp only))) | ((with_reducible show wpAny _ _ (compareOp PySem.CmpOp.NotEq (Value.ref _) (Value.ref _)) _ _ _); with_reducible (k_dflt (first | (refine' m_neNil (b := true) ?k1 ?k2 ?k3 ?k4 ?k5 ?k6 ?_; (case k1 => k_asm); (case k2 => k_mem); (case k3 => k_mem); (case k5 => exact rfl); (case k4 => (first | with_reducible assumption | exact List.forall_mem_nil _ | (focus (refine' rowsT_mono ?_ ?_; rotate_right; (focus with_reducible assumption); walk_at "sub9")))); (case k6 => walk_at "un9")) | (refine' m_neNil (b := false) ?k1 ?k2 ?k3 ?k4 ?k5 ?k6 ?_; (case k1 => k_asm); (case k2 => k_mem); (case k3 => k_mem); (case k5 => exact rfl); (case k4 => (first | with_reducible assumption | exact List.forall_mem_nil _ | (focus (refine' rowsT_mono ?_ ?_; rotate_right; (focus with_reducible assumption); walk_at "sub9")))); (case k6 => walk_at "un9"))))) | ((with_reducible show wpAny _ _ (compareOp PySem.CmpOp.Eq (Value.ref _) (Value.ref _)) _ _ _); with_reducible (k_dflt (first | (refine' m_eq3 ?k1 ?k2 ?k3 ?k4 ?k5 ?k6 ?_; (case k1 => k_asm); (case k2 => k_mem); (case k3 => k_mem); (case k4 => (first | with_reducible assumption | exact remR_none | exact remR_some (by k_mem) | (focus (refine' RemR.mono ?_ ?_; rotate_right; (focus with_reducible assumption); walk_at "sub9")))); (case k5 => (first | with_reducible assumption | exact remR_none | exact remR_some (by k_mem) | (focus (refine' RemR.mono ?_ ?_; rotate_right; (focus with_reducible assumption); walk_at "sub9")))); (case k6 => walk_at "un9")) | (refine' m_eqNil (b := true) ?k1 ?k2 ?k3 ?k4 ?k5 ?k6 ?_; (case k1 => k_asm); (case k2 => k_mem); (case k3 => k_mem); (case k5 => exact rfl); (case k4 => (first | with_reducible assumption | exact List.forall_mem_nil _ | (focus (refine' rowsT_mono ?_ ?_; rotate_right; (focus with_reducible assumption); walk_at "sub9")))); (case k6 => walk_at "un9")) | (refine' m_eqNil (b := false) ?k1 ?k2 ?k3 ?k4 ?k5 ?k6 ?_; (case k1 => k_asm); (case k2 => k_mem); (case k3 => k_mem); (case k5 => exact rfl); (case k4 => (first | with_reducible assumption | exact List.forall_mem_nil _ | (focus (refine' rowsT_mono ?_ ?_; rotate_right; (focus with_reducible assumption); walk_at "sub9")))); (case k6 => walk_at "un9"))))) | ((with_reducible show wpAny _ _ (eval (PySem.Expr.ListComp _ _ _) _) _ _ _); with_reducible (k_here; (fail_if_success lct_look); k_dflt (refine' LCg.ListComp_U (F₀ := ?f0) ?c ?d ?e ?f ?g ?_; (case f0 => k_asm); (case c => with_unfolding_all rfl); (case d => decide); (case e => rfl); (case f => decide); (case g => rfl)))) | ((with_reducible show wpAny _ _ (exec (PySem.Stmt.Assign [_] (PySem.Expr.ListComp _ _ _) _) _) _ _ _); with_reducible (k_here; lct_look; k_dflt (refine' LCt.Assign_ListComp_T (F₀ := ?f0) ?a ?b ?c ?d ?e ?f ?g ?h ?i ?_; (case f0 => k_asm); (case a => rfl); (case b => with_unfolding_all rfl); (case c => with_unfolding_all rfl); (case d => decide);  (case e => rfl); (case f => decide); (case g => rfl); (case h => rfl); (case i => rfl)))) | ((with_reducible show wpAny _ _ (eval (PySem.Expr.ListComp _ _ _) _) _ _ _); with_reducible (k_here; lct_look; k_dflt (refine' LCt.ListComp_T (F₀ := ?f0) ?c ?d ?e ?f ?g ?_; (case f0 => k_asm); (case c => with_unfolding_all rfl); (case d => decide); (case e => rfl); (case f => decide); (case g => rfl)))) | walk1 | (dsimp only; walk1) | (leave1; try dsimp only)))
        rename _ = Data.cell (some (Value.ref _)) => hnew
        refine map_new o hnew (.inr ⟨_, (by k_mem), rfl, _, rfl⟩) ?_ ?_
        · intro q hq ys I oI C oC D m₂ h tk E' hC hx F₁ N₁
          refine' elimG ?h9y11 ?k9y11
          case h9y11 =>
            intro G9 k9
            obtain ⟨u1, u2, u3, rv, hqm, hqR⟩ := hRr q hq
            revert hqR
            revert hqm
            revert rv
            revert u3
            revert u2
            revert u1
            exact k9
          intro u1 u2 u3 rv hqm hqR
          (try dsimp only)
          (repeat' (first | (k_unfold; (try dsimp only)) | (k_end; wrow_close) | (with_reducible ((with_reducible show wpAny _ _ (subscriptTail _ _ (Value.ref _) (Value.int _ _)) _ _ _); k_dflt (refine' m_titem ?k1 ?k2 ?k3 ?k4 ?k5 ?k6 ?_; (case k1 => k_asm); (case k2 => walk_at "memR9"); (case k3 => decide); (case k4 => decide); (case k5 => rfl); (case k6 => rfl)))) | ((with_reducible show wpAny _ _ (binaryOp PySem.Operator.Add (Value.ref _) (Value.ref _)) _ _ _); with_reducible (k_here; k_dflt (refine' m_addRows ?F ?N ?k3 ?k4 ?k5 ?_; (case F => k_asm); (case N => k_asm); (case k3 => k_mem); (case k4 => k_mem); (case k5 => assumption)); intro kyl' kyh' kyF' kyN'; (try dsimp only))) | (with_reducible (k_here; (with_reducible show wpAny _ _ (subscriptTail _ (PySem.Expr.Slice (some _) none none _) (Value.ref _) (Value.ref _)) _ _ _); k_dflt (refine' m_slice4 (s := ⟨_, _, _, _, _⟩) ?F ?N ?k3 ?_; (case F => k_asm); (case N => k_asm); (case k3 => k_mem)); intro kyl' kyh' kyF' kyN'; (try dsimp only))) | (with_reducible ((with_reducible show wpAny _ _ (subscriptTail _ _ (Value.ref _) (Value.int _ _)) _ _ _); k_dflt (refine' m_item ?k1 ?k2 ?k3 ?k4 ?k5 ?_; (case k1 => k_asm); (case k2 => k_mem); (case k3 => decide); (case k4 => decide); (case k5 => rfl)); (try dsimp only))) | ((with_reducible show wpAny _ _ (compareOp PySem.CmpOp.NotEq (Value.ref _) (Value.ref _)) _ _ _); with_reducible (k_dflt (first | (refine' m_neNil (b := true) ?k1 ?k2 ?k3 ?k4 ?k5 ?k6 ?_; (case k1 => k_asm); (case k2 => k_mem); (case k3 => k_mem); (case k5 => exact rfl); (case k4 => (first | with_reducible assumption | exact List.forall_mem_nil _ | (focus (refine' rowsT_mono ?_ ?_; rotate_right; (focus with_reducible assumption); walk_at "sub9")))); (case k6 => walk_at "un9")) | (refine' m_neNil (b := false) ?k1 ?k2 ?k3 ?k4 ?k5 ?k6 ?_; (case k1 => k_asm); (case k2 => k_mem); (case k3 => k_mem); (case k5 => exact rfl); (case k4 => (first | with_reducible assumption | exact List.forall_mem_nil _ | (focus (refine' rowsT_mono ?_ ?_; rotate_right; (focus with_reducible assumption); walk_at "sub9")))); (case k6 => walk_at "un9"))))) | ((with_reducible show wpAny _ _ (compareOp PySem.CmpOp.Eq (Value.ref _) (Value.ref _)) _ _ _); with_reducible (k_dflt (first | (refine' m_eq3 ?k1 ?k2 ?k3 ?k4 ?k5 ?k6 ?_; (case k1 => k_asm); (case k2 => k_mem); (case k3 => k_mem); (case k4 => (first | with_reducible assumption | exact remR_none | exact remR_some (by k_mem) | (focus (refine' RemR.mono ?_ ?_; rotate_right; (focus with_reducible assumption); walk_at "sub9")))); (case k5 => (first | with_reducible assumption | exact remR_none | exact remR_some (by k_mem) | (focus (refine' RemR.mono ?_ ?_; rotate_right; (focus with_reducible assumption); walk_at "sub9")))); (case k6 => walk_at "un9")) | (refine' m_eqNil (b := true) ?k1 ?k2 ?k3 ?k4 ?k5 ?k6 ?_; (case k1 => k_asm); (case k2 => k_mem); (case k3 => k_mem); (case k5 => exact rfl); (case k4 => (first | with_reducible assumption | exact List.forall_mem_nil _ | (focus (refine' rowsT_mono ?_ ?_; rotate_right; (focus with_reducible assumption); walk_at "sub9")))); (case k6 => walk_at "un9")) | (refine' m_eqNil (b := false) ?k1 ?k2 ?k3 ?k4 ?k5 ?k6 ?_; (case k1 => k_asm); (case k2 => k_mem); (case k3 => k_mem); (case k5 => exact rfl); (case k4 => (first | with_reducible assumption | exact List.forall_mem_nil _ | (focus (refine' rowsT_mono ?_ ?_; rotate_right; (focus with_reducible assumption); walk_at "sub9")))); (case k6 => walk_at "un9"))))) | ((with_reducible show wpAny _ _ (eval (PySem.Expr.ListComp _ _ _) _) _ _ _); with_reducible (k_here; (fail_if_success lct_look); k_dflt (refine' LCg.ListComp_U (F₀ := ?f0) ?c ?d ?e ?f ?g ?_; (case f0 => k_asm); (case c => with_unfolding_all rfl); (case d => decide); (case e => rfl); (case f => decide); (case g => rfl)))) | ((with_reducible show wpAny _ _ (exec (PySem.Stmt.Assign [_] (PySem.Expr.ListComp _ _ _) _) _) _ _ _); with_reducible (k_here; lct_look; k_dflt (refine' LCt.Assign_ListComp_T (F₀ := ?f0) ?a ?b ?c ?d ?e ?f ?g ?h ?i ?_; (case f0 => k_asm); (case a => rfl); (case b => with_unfolding_all rfl); (case c => with_unfolding_all rfl); (case d => decide);  (case e => rfl); (case f => decide); (case g => rfl); (case h => rfl); (case i => rfl)))) | ((with_reducible show wpAny _ _ (eval (PySem.Expr.ListComp _ _ _) _) _ _ _); with_reducible (k_here; lct_look; k_dflt (refine' LCt.ListComp_T (F₀ := ?f0) ?c ?d ?e ?f ?g ?_; (case f0 => k_asm); (case c => with_unfolding_all rfl); (case d => decide); (case e => rfl); (case f => decide); (case g => rfl)))) | walk1 | (dsimp only; walk1) | (leave1; try dsimp only)))
          all_goals first | exact F₁ | exact N₁ | k_asm | walk_at "news9" | (simp_all; done)
        (repeat' (first | (k_unfold; (try dsimp only)) | (k_end; wrow_close) | (with_reducible ((with_reducible show wpAny _ _ (subscriptTail _ _ (Value.ref _) (Value.int _ _)) _ _ _); k_dflt (refine' m_titem ?k1 ?k2 ?k3 ?k4 ?k5 ?k6 ?_; (case k1 => k_asm); (case k2 => walk_at "memR9"); (case k3 => decide); (case k4 => decide); (case k5 => rfl); (case k6 => rfl)))) | ((with_reducible show wpAny _ _ (binaryOp PySem.Operator.Add (Value.ref _) (Value.ref _)) _ _ _); with_reducible (k_here; k_dflt (refine' m_addRows ?F ?N ?k3 ?k4 ?k5 ?_; (case F => k_asm); (case N => k_asm); (case k3 => k_mem); (case k4 => k_mem); (case k5 => assumption)); intro kyl' kyh' kyF' kyN'; (try dsimp only))) | (with_reducible (k_here; (with_reducible show wpAny _ _ (subscriptTail _ (PySem.Expr.Slice (some _) none none _) (Value.ref _) (Value.ref _)) _ _ _); k_dflt (refine' m_slice4 (s := ⟨_, _, _, _, _⟩) ?F ?N ?k3 ?_; (case F => k_asm); (case N => k_asm); (case k3 => k_mem)); intro kyl' kyh' kyF' kyN'; (try dsimp only))) | (with_reducible ((with_reducible show wpAny _ _ (subscriptTail _ _ (Value.ref _) (Value.int _ _)) _ _ _); k_dflt (refine' m_item ?k1 ?k2 ?k3 ?k4 ?k5 ?_; (case k1 => k_asm); (case k2 => k_mem); (case k3 => decide); (case k4 => decide); (case k5 => rfl)); (try dsimp only))) | ((with_reducible show wpAny _ _ (compareOp PySem.CmpOp.NotEq (Value.ref _) (Value.ref _)) _ _ _); with_reducible (k_dflt (first | (refine' m_neNil (b := true) ?k1 ?k2 ?k3 ?k4 ?k5 ?k6 ?_; (case k1 => k_asm); (case k2 => k_mem); (case k3 => k_mem); (case k5 => exact rfl); (case k4 => (first | with_reducible assumption | exact List.forall_mem_nil _ | (focus (refine' rowsT_mono ?_ ?_; rotate_right; (focus with_reducible assumption); walk_at "sub9")))); (case k6 => walk_at "un9")) | (refine' m_neNil (b := false) ?k1 ?k2 ?k3 ?k4 ?k5 ?k6 ?_; (case k1 => k_asm); (case k2 => k_mem); (case k3 => k_mem); (case k5 => exact rfl); (case k4 => (first | with_reducible assumption | exact List.forall_mem_nil _ | (focus (refine' rowsT_mono ?_ ?_; rotate_right; (focus with_reducible assumption); walk_at "sub9")))); (case k6 => walk_at "un9"))))) | ((with_reducible show wpAny _ _ (compareOp PySem.CmpOp.Eq (Value.ref _) (Value.ref _)) _ _ _); with_reducible (k_dflt (first | (refine' m_eq3 ?k1 ?k2 ?k3 ?k4 ?k5 ?k6 ?_; (case k1 => k_asm); (case k2 => k_mem); (case k3 => k_mem); (case k4 => (first | with_reducible assumption | exact remR_none | exact remR_some (by k_mem) | (focus (refine' RemR.mono ?_ ?_; rotate_right; (focus with_reducible assumption); walk_at "sub9")))); (case k5 => (first | with_reducible assumption | exact remR_none | exact remR_some (by k_mem) | (focus (refine' RemR.mono ?_ ?_; rotate_right; (focus with_reducible assumption); walk_at "sub9")))); (case k6 => walk_at "un9")) | (refine' m_eqNil (b := true) ?k1 ?k2 ?k3 ?k4 ?k5 ?k6 ?_; (case k1 => k_asm); (case k2 => k_mem); (case k3 => k_mem); (case k5 => exact rfl); (case k4 => (first | with_reducible assumption | exact List.forall_mem_nil _ | (focus (refine' rowsT_mono ?_ ?_; rotate_right; (focus with_reducible assumption); walk_at "sub9")))); (case k6 => walk_at "un9")) | (refine' m_eqNil (b := false) ?k1 ?k2 ?k3 ?k4 ?k5 ?k6 ?_; (case k1 => k_asm); (case k2 => k_mem); (case k3 => k_mem); (case k5 => exact rfl); (case k4 => (first | with_reducible assumption | exact List.forall_mem_nil _ | (focus (refine' rowsT_mono ?_ ?_; rotate_right; (focus with_reducible assumption); walk_at "sub9")))); (case k6 => walk_at "un9"))))) | ((with_reducible show wpAny _ _ (eval (PySem.Expr.ListComp _ _ _) _) _ _ _); with_reducible (k_here; (fail_if_success lct_look); k_dflt (refine' LCg.ListComp_U (F₀ := ?f0) ?c ?d ?e ?f ?g ?_; (case f0 => k_asm); (case c => with_unfolding_all rfl); (case d => decide); (case e => rfl); (case f => decide); (case g => rfl)))) | ((with_reducible show wpAny _ _ (exec (PySem.Stmt.Assign [_] (PySem.Expr.ListComp _ _ _) _) _) _ _ _); with_reducible (k_here; lct_look; k_dflt (refine' LCt.Assign_ListComp_T (F₀ := ?f0) ?a ?b ?c ?d ?e ?f ?g ?h ?i ?_; (case f0 => k_asm); (case a => rfl); (case b => with_unfolding_all rfl); (case c => with_unfolding_all rfl); (case d => decide);  (case e => rfl); (case f => decide); (case g => rfl); (case h => rfl); (case i => rfl)))) | ((with_reducible show wpAny _ _ (eval (PySem.Expr.ListComp _ _ _) _) _ _ _); with_reducible (k_here; lct_look; k_dflt (refine' LCt.ListComp_T (F₀ := ?f0) ?c ?d ?e ?f ?g ?_; (case f0 => k_asm); (case c => with_unfolding_all rfl); (case d => decide); (case e => rfl); (case f => decide); (case g => rfl)))) | walk1 | (dsimp only; walk1) | (leave1; try dsimp only)))
        refine' hret2 _ ((_, LCg.lst (trs.map fun q => if q.2.o = o then Value.ref ?tn else Value.ref q.1)) :: (?tn, tupO [.int o t1, .int q0.2.a w2, .int q0.2.p w3, .ref ?tr]) :: (?tr, tupO [.int a t2, .int b t3]) :: news) (trs.map fun q => if q.2.o = o then (?tn, ({ q.2 with rm := some (a, b) } : Row)) else q) _ _ ?e (conn_rows hmf hnd hRr) (fun _ h => List.mem_cons_of_mem _ (List.mem_cons_of_mem _ (List.mem_cons_of_mem _ h))) ?F ?N
        (case N => walk_at "news9")
        (case F => k_asm)
        (case e => rw [stepF, if_neg ncb, if_pos rfl, find_mf hmf]; dsimp only [List.head?, Option.map]; rw [there_mm hmo hmm, ← conn_map]; rfl)
      · (repeat' (first | (k_unfold; (try dsimp only)) | (k_end; wrow_close) | (with_reducible ((with_reducible show wpAny _ _ (subscriptTail _ _ (Value.ref _) (Value.int _ _)) _ _ _); k_dflt (refine' m_titem ?k1 ?k2 ?k3 ?k4 ?k5 ?k6 ?_; (case k1 => k_asm); (case k2 => walk_at "memR9"); (case k3 => decide); (case k4 => decide); (case k5 => rfl); (case k6 => rfl)))) | ((with_reducible show wpAny _ _ (binaryOp PySem.Operator.Add (Value.ref _) (Value.ref _)) _ _ _); with_reducible (k_here; k_dflt (refine' m_addRows ?F ?N ?k3 ?k4 ?k5 ?_; (case F => k_asm); (case N => k_asm); (case k3 => k_mem); (case k4 => k_mem); (case k5 => assumption)); intro kyl' kyh' kyF' kyN'; (try dsimp only))) | (with_reducible (k_here; (with_reducible show wpAny _ _ (subscriptTail _ (PySem.Expr.Slice (some _) none none _) (Value.ref _) (Value.ref _)) _ _ _); k_dflt (refine' m_slice4 (s := ⟨_, _, _, _, _⟩) ?F ?N ?k3 ?_; (case F => k_asm); (case N => k_asm); (case k3 => k_mem)); intro kyl' kyh' kyF' kyN'; (try dsimp only))) | (with_reducible ((with_reducible show wpAny _ _ (subscriptTail _ _ (Value.ref _) (Value.int _ _)) _ _ _); k_dflt (refine' m_item ?k1 ?k2 ?k3 ?k4 ?k5 ?_; (case k1 => k_asm); (case k2 => k_mem); (case k3 => decide); (case k4 => decide); (case k5 => rfl)); (try dsimp only))) | ((with_reducible show wpAny _ _ (compareOp PySem.CmpOp.NotEq (Value.ref _) (Value.ref _)) _ _ _); with_reducible (k_dflt (first | (refine' m_neNil (b := true) ?k1 ?k2 ?k3 ?k4 ?k5 ?k6 ?_; (case k1 => k_asm); (case k2 => k_mem); (case k3 => k_mem); (case k5 => exact rfl); (case k4 => (first | with_reducible assumption | exact List.forall_mem_nil _ | (focus (refine' rowsT_mono ?_ ?_; rotate_right; (focus with_reducible assumption); walk_at "sub9")))); (case k6 => walk_at "un9")) | (refine' m_neNil (b := false) ?k1 ?k2 ?k3 ?k4 ?k5 ?k6 ?_; (case k1 => k_asm); (case k2 => k_mem); (case k3 => k_mem); (case k5 => exact rfl); (case k4 => (first | with_reducible assumption | exact List.forall_mem_nil _ | (focus (refine' rowsT_mono ?_ ?_; rotate_right; (focus with_reducible assumption); walk_at "sub9")))); (case k6 => walk_at "un9"))))) | ((with_reducible show wpAny _ _ (compareOp PySem.CmpOp.Eq (Value.ref _) (Value.ref _)) _ _ _); with_reducible (k_dflt (first | (refine' m_eq3 ?k1 ?k2 ?k3 ?k4 ?k5 ?k6 ?_; (case k1 => k_asm); (case k2 => k_mem); (case k3 => k_mem); (case k4 => (first | with_reducible assumption | exact remR_none | exact remR_some (by k_mem) | (focus (refine' RemR.mono ?_ ?_; rotate_right; (focus with_reducible assumption); walk_at "sub9")))); (case k5 => (first | with_reducible assumption | exact remR_none | exact remR_some (by k_mem) | (focus (refine' RemR.mono ?_ ?_; rotate_right; (focus with_reducible assumption); walk_at "sub9")))); (case k6 => walk_at "un9")) | (refine' m_eqNil (b := true) ?k1 ?k2 ?k3 ?k4 ?k5 ?k6 ?_; (case k1 => k_asm); (case k2 => k_mem); (case k3 => k_mem); (case k5 => exact rfl); (case k4 => (first | with_reducible assumption | exact List.forall_mem_nil _ | (focus (refine' rowsT_mono ?_ ?_; rotate_right; (focus with_reducible assumption); walk_at "sub9")))); (case k6 => walk_at "un9")) | (refine' m_eqNil (b := false) ?k1 ?k2 ?k3 ?k4 ?k5 ?k6 ?_; (case k1 => k_asm); (case k2 => k_mem); (case k3 => k_mem); (case k5 => exact rfl); (case k4 => (first | with_reducible assumption | exact List.forall_mem_nil _ | (focus (refine' rowsT_mono ?_ ?_; rotate_right; (focus with_reducible assumption); walk_at "sub9")))); (case k6 => walk_at "un9"))))) | ((with_reducible show wpAny _ _ (eval (PySem.Expr.ListComp _ _ _) _) _ _ _); with_reducible (k_here; (fail_if_success lct_look); k_dflt (refine' LCg.ListComp_U (F₀ := ?f0) ?c ?d ?e ?f ?g ?_; (case f0 => k_asm); (case c => with_unfolding_all rfl); (case d => decide); (case e => rfl); (case f => decide); (case g => rfl)))) | ((with_reducible show wpAny _ _ (exec (PySem.Stmt.Assign [_] (PySem.Expr.ListComp _ _ _) _) _) _ _ _); with_reducible (k_here; lct_look; k_dflt (refine' LCt.Assign_ListComp_T (F₀ := ?f0) ?a ?b ?c ?d ?e ?f ?g ?h ?i ?_; (case f0 => k_asm); (case a => rfl); (case b => with_unfolding_all rfl); (case c => with_unfolding_all rfl); (case d => decide);  (case e => rfl); (case f => decide); (case g => rfl); (case h => rfl); (case i => rfl)))) | ((with_reducible show wpAny _ _ (eval (PySem.Expr.ListComp _ _ _) _) _ _ _); with_reducible (k_here; lct_look; k_dflt (refine' LCt.ListComp_T (F₀ := ?f0) ?c ?d ?e ?f ?g ?_; (case f0 => k_asm); (case c => with_unfolding_all rfl); (case d => decide); (case e => rfl); (case f => decide); (case g => rfl)))) | walk1 | (dsimp only; walk1) | (leave1; try dsimp only)))
        exact hret1 _ _ _ _ (by rw [stepF, if_neg ncb, if_pos rfl, find_mf hmf]; dsimp only [List.head?, Option.map]; rw [there_mm hmo hmm]; rfl) (by k_asm) (by walk_at "news9")
  · rcases mf with _ | ⟨q0, mf⟩
    · (repeat' (first | (k_unfold; (try dsimp only)) | (k_end; wrow_close) | (with_reducible ((with_reducible show wpAny _ _ (subscriptTail _ _ (Value.ref _) (Value.int _ _)) _ _ _); k_dflt (refine' m_titem ?k1 ?k2 ?k3 ?k4 ?k5 ?k6 ?_; (case k1 => k_asm); (case k2 => walk_at "memR9"); (case k3 => decide); (case k4 => decide); (case k5 => rfl); (case k6 => rfl)))) | ((with_reducible show wpAny _ _ (binaryOp PySem.Operator.Add (Value.ref _) (Value.ref _)) _ _ _); with_reducible (k_here; k_dflt (refine' m_addRows ?F ?N ?k3 ?k4 ?k5 ?_; (case F => k_asm); (case N => k_asm); (case k3 => k_mem); (case k4 => k_mem); (case k5 => assumption)); intro kyl' kyh' kyF' kyN'; (try dsimp only))) | (with_reducible (k_here; (with_reducible show wpAny _ _ (subscriptTail _ (PySem.Expr.Slice (some _) none none _) (Value.ref _) (Value.ref _)) _ _ _); k_dflt (refine' m_slice4 (s := ⟨_, _, _, _, _⟩) ?F ?N ?k3 ?_; (case F => k_asm); (case N => k_asm); (case k3 => k_mem)); intro kyl' kyh' kyF' kyN'; (try dsimp only))) | (with_reducible ((with_reducible show wpAny _ _ (subscriptTail _ _ (Value.ref _) (Value.int _ _)) _ _ _); k_dflt (refine' m_item ?k1 ?k2 ?k3 ?k4 ?k5 ?_; (case k1 => k_asm); (case k2 => k_mem); (case k3 => decide); (case k4 => decide); (case k5 => rfl)); (try dsimp only))) | ((with_reducible show wpAny _ _ (compareOp PySem.CmpOp.NotEq (Value.ref _) (Value.ref _)) _ _ _); with_reducible (k_dflt (first | (refine' m_neNil (b := true) ?k1 ?k2 ?k3 ?k4 ?k5 ?k6 ?_; (case k1 => k_asm); (case k2 => k_mem); (case k3 => k_mem); (case k5 => exact rfl); (case k4 => (first | with_reducible assumption | exact List.forall_mem_nil _ | (focus (refine' rowsT_mono ?_ ?_; rotate_right; (focus with_reducible assumption); walk_at "sub9")))); (case k6 => walk_at "un9")) | (refine' m_neNil (b := false) ?k1 ?k2 ?k3 ?k4 ?k5 ?k6 ?_; (case k1 => k_asm); (case k2 => k_mem); (case k3 => k_mem); (case k5 => exact rfl); (case k4 => (first | with_reducible assumption | exact List.forall_mem_nil _ | (focus (refine' rowsT_mono ?_ ?_; rotate_right; (focus with_reducible assumption); walk_at "sub9")))); (case k6 => walk_at "un9"))))) | ((with_reducible show wpAny _ _ (compareOp PySem.CmpOp.Eq (Value.ref _) (Value.ref _)) _ _ _); with_reducible (k_dflt (first | (refine' m_eq3 ?k1 ?k2 ?k3 ?k4 ?k5 ?k6 ?_; (case k1 => k_asm); (case k2 => k_mem); (case k3 => k_mem); (case k4 => (first | with_reducible assumption | exact remR_none | exact remR_some (by k_mem) | (focus (refine' RemR.mono ?_ ?_; rotate_right; (focus with_reducible assumption); walk_at "sub9")))); (case k5 => (first | with_reducible assumption | exact remR_none | exact remR_some (by k_mem) | (focus (refine' RemR.mono ?_ ?_; rotate_right; (focus with_reducible assumption); walk_at "sub9")))); (case k6 => walk_at "un9")) | (refine' m_eqNil (b := true) ?k1 ?k2 ?k3 ?k4 ?k5 ?k6 ?_; (case k1 => k_asm); (case k2 => k_mem); (case k3 => k_mem); (case k5 => exact rfl); (case k4 => (first | with_reducible assumption | exact List.forall_mem_nil _ | (focus (refine' rowsT_mono ?_ ?_; rotate_right; (focus with_reducible assumption); walk_at "sub9")))); (case k6 => walk_at "un9")) | (refine' m_eqNil (b := false) ?k1 ?k2 ?k3 ?k4 ?k5 ?k6 ?_; (case k1 => k_asm); (case k2 => k_mem); (case k3 => k_mem); (case k5 => exact rfl); (case k4 => (first | with_reducible assumption | exact List.forall_mem_nil _ | (focus (refine' rowsT_mono ?_ ?_; rotate_right; (focus with_reducible assumption); walk_at "sub9")))); (case k6 => walk_at "un9"))))) | ((with_reducible show wpAny _ _ (eval (PySem.Expr.ListComp _ _ _) _) _ _ _); with_reducible (k_here; (fail_if_success lct_look); k_dflt (refine' LCg.ListComp_U (F₀ := ?f0) ?c ?d ?e ?f ?g ?_; (case f0 => k_asm); (case c => with_unfolding_all rfl); (case d => decide); (case e => rfl); (case f => decide); (case g => rfl)))) | ((with_reducible show wpAny _ _ (exec (PySem.Stmt.Assign [_] (PySem.Expr.ListComp _ _ _) _) _) _ _ _); with_reducible (k_here; lct_look; k_dflt (refine' LCt.Assign_ListComp_T (F₀ := ?f0) ?a ?b ?c ?d ?e ?f ?g ?h ?i ?_; (case f0 => k_asm); (case a => rfl); (case b => with_unfolding_all rfl); (case c => with_unfolding_all rfl); (case d => decide);  (case e => rfl); (case f => decide); (case g => rfl); (case h => rfl); (case i => rfl)))) | ((with_reducible show wpAny _ _ (eval (PySem.Expr.ListComp _ _ _) _) _ _ _); with_reducible (k_here; lct_look; k_dflt (refine' LCt.ListComp_T (F₀ := ?f0) ?c ?d ?e ?f ?g ?_; (case f0 => k_asm); (case c => with_unfolding_all rfl); (case d => decide); (case e => rfl); (case f => decide); (case g => rfl)))) | walk1 | (dsimp only; walk1) | (leave1; try dsimp only)))
      exact hret1 _ _ _ _ (by rw [stepF, if_neg nrb, if_neg nrc, has_mf hmf]; rfl) (by k_asm) (by walk_at "news9")
    · (repeat' (first | (k_unfold; (try dsimp only)) | (k_end; wrow_close) | (with_reducible ((with_reducible show wpAny _ _ (subscriptTail _ _ (Value.ref _) (Value.int _ _)) _ _ _); k_dflt (refine' m_titem ?k1 ?k2 ?k3 ?k4 ?k5 ?k6 ?_; (case k1 => k_asm); (case k2 => walk_at "memR9"); (case k3 => decide); (case k4 => decide); (case k5 => rfl); (case k6 => rfl)))) | ((with_reducible show wpAny _ _ (binaryOp PySem.Operator.Add (Value.ref _) (Value.ref _)) _ _ _); with_reducible (k_here; k_dflt (refine' m_addRows ?F ?N ?k3 ?k4 ?k5 ?_; (case F => k_asm); (case N => k_asm); (case k3 => k_mem); (case k4 => k_mem); (case k5 => assumption)); intro kyl' kyh' kyF' kyN'; (try dsimp only))) | (with_reducible (k_here; (with_reducible show wpAny _ _ (subscriptTail _ (PySem.Expr.Slice (some _) none none _) (Value.ref _) (Value.ref _)) _ _ _); k_dflt (refine' m_slice4 (s := ⟨_, _, _, _, _⟩) ?F ?N ?k3 ?_; (case F => k_asm); (case N => k_asm); (case k3 => k_mem)); intro kyl' kyh' kyF' kyN'; (try dsimp only))) | (with_reducible ((with_reducible show wpAny _ _ (subscriptTail _ _ (Value.ref _) (Value.int _ _)) _ _ _); k_dflt (refine' m_item ?k1 ?k2 ?k3 ?k4 ?k5 ?_; (case k1 => k_asm); (case k2 => k_mem); (case k3 => decide); (case k4 => decide); (case k5 => rfl)); (try dsimp only))) | ((with_reducible show wpAny _ _ (compareOp PySem.CmpOp.NotEq (Value.ref _) (Value.ref _)) _ _ _); with_reducible (k_dflt (first | (refine' m_neNil (b := true) ?k1 ?k2 ?k3 ?k4 ?k5 ?k6 ?_; (case k1 => k_asm); (case k2 => k_mem); (case k3 => k_mem); (case k5 => exact rfl); (case k4 => (first | with_reducible assumption | exact List.forall_mem_nil _ | (focus (refine' rowsT_mono ?_ ?_; rotate_right; (focus with_reducible assumption); walk_at "sub9")))); (case k6 => walk_at "un9")) | (refine' m_neNil (b := false) ?k1 ?k2 ?k3 ?k4 ?k5 ?k6 ?_; (case k1 => k_asm); (case k2 => k_mem); (case k3 => k_mem); (case k5 => exact rfl); (case k4 => (first | with_reducible assumption | exact List.forall_mem_nil _ | (focus (refine' rowsT_mono ?_ ?_; rotate_right; (focus with_reducible assumption); walk_at "sub9")))); (case k6 => walk_at "un9"))))) | ((with_reducible show wpAny _ _ (compareOp PySem.CmpOp.Eq (Value.ref _) (Value.ref _)) _ _ _); with_reducible (k_dflt (first | (refine' m_eq3 ?k1 ?k2 ?k3 ?k4 ?k5 ?k6 ?_; (case k1 => k_asm); (case k2 => k_mem); (case k3 => k_mem); (case k4 => (first | with_reducible assumption | exact remR_none | exact remR_some (by k_mem) | (focus (refine' RemR.mono ?_ ?_; rotate_right; (focus with_reducible assumption); walk_at "sub9")))); (case k5 => (first | with_reducible assumption | exact remR_none | exact remR_some (by k_mem) | (focus (refine' RemR.mono ?_ ?_; rotate_right; (focus with_reducible assumption); walk_at "sub9")))); (case k6 => walk_at "un9")) | (refine' m_eqNil (b := true) ?k1 ?k2 ?k3 ?k4 ?k5 ?k6 ?_; (case k1 => k_asm); (case k2 => k_mem); (case k3 => k_mem); (case k5 => exact rfl); (case k4 => (first | with_reducible assumption | exact List.forall_mem_nil _ | (focus (refine' rowsT_mono ?_ ?_; rotate_right; (focus with_reducible assumption); walk_at "sub9")))); (case k6 => walk_at "un9")) | (refine' m_eqNil (b := false) ?k1 ?k2 ?k3 ?k4 ?k5 ?k6 ?_; (case k1 => k_asm); (case k2 => k_mem); (case k3 => k_mem); (case k5 => exact rfl); (case k4 => (first | with_reducible assumption | exact List.forall_mem_nil _ | (focus (refine' rowsT_mono ?_ ?_; rotate_right; (focus with_reducible assumption); walk_at "sub9")))); (case k6 => walk_at "un9"))))) | ((with_reducible show wpAny _ _ (eval (PySem.Expr.ListComp _ _ _) _) _ _ _); with_reducible (k_here; (fail_if_success lct_look); k_dflt (refine' LCg.ListComp_U (F₀ := ?f0) ?c ?d ?e ?f ?g ?_; (case f0 => k_asm); (case c => with_unfolding_all rfl); (case d => decide); (case e => rfl); (case f => decide); (case g => rfl)))) | ((with_reducible show wpAny _ _ (exec (PySem.Stmt.Assign [_] (PySem.Expr.ListComp _ _ _) _) _) _ _ _); with_reducible (k_here; lct_look; k_dflt (refine' LCt.Assign_ListComp_T (F₀ := ?f0) ?a ?b ?c ?d ?e ?f ?g ?h ?i ?_; (case f0 => k_asm); (case a => rfl); (case b => with_unfolding_all rfl); (case c => with_unfolding_all rfl); (case d => decide);  (case e => rfl); (case f => decide); (case g => rfl); (case h => rfl); (case i => rfl)))) | ((with_reducible show wpAny _ _ (eval (PySem.Expr.ListComp _ _ _) _) _ _ _); with_reducible (k_here; lct_look; k_dflt (refine' LCt.ListComp_T (F₀ := ?f0) ?c ?d ?e ?f ?g ?_; (case f0 => k_asm); (case c => with_unfolding_all rfl); (case d => decide); (case e => rfl); (case f => decide); (case g => rfl)))) | walk1 | (dsimp only; walk1) | (leave1; try dsimp only)))
      exact hret2 _ ((_, LCg.lst (mo.map fun q => Value.ref q.1)) :: news) mo _ _ (by rw [stepF, if_neg nrb, if_neg nrc, has_mf hmf, ← filt_mo hmo]; rfl) ⟨⟨_, List.mem_cons_self⟩, rowsT_mono (fun _ h => List.mem_cons_of_mem _ h) hor⟩ (fun _ h => List.mem_cons_of_mem _ h) (by k_asm) (by walk_at "news9")
end
section
variable {prog : Program} {w : World} {A : Around} {E : Value → Shared → Prop} {s : Shared} {env : Env} {h₀ : Heap} {target : Expr} {body : List Stmt} {Q : Flow → Shared → Prop} {news : List (Addr × Obj)}
theorem rows_turns {r : Addr} {trs : List (Addr × Row)} {n : Nat} {m₀ : Str → Option Value} (stored : List Str) (Inv : Nat → (Str → Option Value) → Prop) (hh : A.handled = none) (hm : (r, rowsO trs n) ∈ news)
    (F : Fr h₀ env.locals s.heap m₀) (N : News h₀ env.locals s.heap news) (h0 : Inv 0 m₀)
    (turn : ∀ i q m₁ T h tk, trs[i]? = some q → Inv i m₁ → (∀ p ∈ news, p ∈ T) → Fr h₀ env.locals h (fun y => if stored.contains y = true then m₁ y else m₀ y) → News h₀ env.locals h T →
      wpAny (model prog w) A (assign target env (.ref q.1)) (fun _ s₃ => wpAny (model prog w) A (execs body env) (TurnR h₀ env.locals (fun m' => Keep stored m₀ m' ∧ Inv (i + 1) m') T { s with heap := h, toks := tk } Q) E s₃) E { s with heap := h, toks := tk })
    (done : ∀ m₁ h tk, Keep stored m₀ m₁ → Inv trs.length m₁ → Fr h₀ env.locals h (fun y => if stored.contains y = true then m₁ y else m₀ y) → News h₀ env.locals h news → Q .next { s with heap := h, toks := tk }) :
    wpAny (model prog w) A (pyIter (.ref r)) (fun it s₂ => TurnsAt prog w A h₀ env target body Q E it s₂) E s := by
  have hl : s.heap.IsList r (trs.map fun q => Value.ref q.1).toArray := ⟨_, (N _ hm).1, rfl, n, rfl⟩
  have hlt : r < s.heap.objs.size := Heap.lt_size (N _ hm).1
  have same : ∀ m₁, Keep stored m₀ m₁ → m₁ = fun y => if stored.contains y = true then m₁ y else m₀ y := by
    intro m₁ hK
    funext y
    cases hc : stored.contains y with
    | true => simp
    | false => simp only [Bool.false_eq_true, if_false]; exact hK y hc
  refine wpAny_pyIter_list hl ?_
  refine ⟨s.heap.objs.size, _, _, _, _, _, _, m₀, news, fun i m₁ news₁ => news₁ = news ∧ Keep stored m₀ m₁ ∧ Inv i m₁, rfl,
    KTurns.ofWalks (Walks.list hh s.heap.objs.size r (Nat.ne_of_lt hlt) (trs.map fun q => Value.ref q.1).toArray) (fun i v s Q E st q => letGo_listiter st.1 q), ?_, ?_, ?_, ⟨⟨_, Heap.get?_push_size _ rfl, rfl, rfl⟩, hl.push _⟩, F.push _,
    (fun p hp => ⟨Heap.get?_push_of_some _ (N p hp).1, (N p hp).2⟩), ⟨rfl, fun _ _ => rfl, h0⟩, ?_, ?_⟩
  · intro hI
    rcases List.mem_cons.mp hI with e | e
    · exact absurd F.ns.lt (e ▸ Nat.lt_irrefl _)
    · exact (N _ hm).2.1 (List.mem_singleton.mp e).symm
  · intro b hb
    rw [List.mem_singleton.mp hb]
    exact next_is_new F
  · intro p hp hI
    exact absurd (Heap.lt_size (N p hp).1) ((List.mem_singleton.mp hI) ▸ Nat.lt_irrefl _)
  · rintro i v m₁ news₁ h tk own hi hP ⟨rfl, hK, hI⟩ hoff _ _ _ _ F₁ N₁
    obtain ⟨q, hq⟩ : ∃ q, trs[i]? = some q := by
      have hi' : i < trs.length := by simpa using hi
      exact ⟨trs[i], List.getElem?_eq_getElem hi'⟩
    have hv : v = .ref q.1 := by
      have hP' : (trs.map fun q => Value.ref q.1).toArray[i]? = some v := hP
      rw [List.getElem?_toArray, List.getElem?_map, hq] at hP'
      exact (Option.some.inj hP').symm
    subst hv
    rw [same m₁ hK] at F₁
    refine wpAny_mono (turn i q m₁ (own ++ news₁) h tk hq hI (fun p hp => List.mem_append_right _ hp) F₁ N₁) (fun _ s₂ h₂ => wpAny_mono h₂ (fun f s₃ p => ?_) fun _ _ e => e) fun _ _ e => e
    have fin : (∃ h' tk' m', s₃ = { ({ s with heap := h, toks := tk } : Shared) with heap := h', toks := tk' } ∧ Fr h₀ env.locals h' m' ∧ News h₀ env.locals h' (own ++ news₁) ∧ Keep stored m₀ m' ∧ Inv (i + 1) m') →
        LoopStepU h₀ env.locals [s.heap.objs.size] own (fun m₁ news₂ => news₂ = news₁ ∧ Keep stored m₀ m₁ ∧ Inv (i + 1) m₁) { s with heap := h, toks := tk } .next s₃ := by
      rintro ⟨h', tk', m', e, F', N', hm⟩
      exact ⟨rfl, h', tk', m', news₁, e, F', N', hoff, rfl, hm⟩
    cases f with
    | ret v => exact .ret p
    | brk => exact .brk p
    | next => exact .next (fin p)
    | cont => exact .cont (fin p)
  · rintro h' tk m' news' F' N' _ ⟨rfl, hK, hI⟩
    rw [same m' hK] at F'
    exact done m' h' tk hK (by simpa using hI) F' N'
end
section
variable {prog : Program} {w : World} {A : Around} {E : Value → Shared → Prop} {s : Shared} {h₀ : Heap} {L l tr : Addr} {news : List (Addr × Obj)} {k : Nat} {Q : Value → Shared → Prop}
theorem m_inRem {v : Value} {r : Option (Int × Int)} {a b : Int} {ta tb : Tok} (N : News h₀ L s.heap news) (hl : (l, listOf #[.none, .ref tr] k) ∈ news) (hv : RemR news v r) (ht : (tr, tupO [.int a ta, .int b tb]) ∈ news) (hu : A.units + 65 < cLine)
    (h : Q (.bool (decide (r = none ∨ r = some (a, b)))) s) : wpAny (model prog w) A (compareOp .In v (.ref l)) Q E s := by
  refine SeqAt.in_list_reads (xs := [remD none, remD (some (a, b))]) (.list (N _ hl).1 rfl rfl (.cons .none (.cons (rem_reads N (remR_some ht)) .nil))) (rem_reads N hv) (by simp [remD, PyData.canLay0, PyData.canLayAll0]) (SeqAt.canLay_of_shaped (shaped_rem r)) (room_in_shaped (shaped_rem r) hu) ?_
  · simp only [List.any_cons, List.any_nil, eqv_rem, Bool.or_false]
    have e : (decide (none = r) || decide (some (a, b) = r)) = decide (r = none ∨ r = some (a, b)) := by
      by_cases h1 : r = none
      · subst h1; rfl
      · by_cases h2 : r = some (a, b)
        · rw [decide_eq_true h2.symm, decide_eq_true (Or.inr h2), Bool.or_true]
        · rw [decide_eq_false fun h => h1 h.symm, decide_eq_false fun h => h2 h.symm, decide_eq_false (not_or.mpr ⟨h1, h2⟩)]; rfl
    rw [e]; exact h
end
--M<
local macro_rules | `(tactic| walk_at "compareOp In") => `(tactic| (k_dflt (refine' m_inRem ?k1 ?k2 ?k3 ?k4 ?k5 ?_; (case k1 => k_asm); (case k2 => k_mem); (case k3 => (first | with_reducible assumption | exact remR_none | exact remR_some (by k_mem) | (focus (refine' RemR.mono ?_ ?_; rotate_right; (focus with_reducible assumption); walk_at "sub9")))); (case k4 => k_mem); (case k5 => walk_at "un9"))))
--M>
theorem findF_nn {t p : Int} {rem : Int × Int} {rows : List Row} : 0 ≤ (findF t p rem rows).1 := by
  have h : ∀ (l : List Row) (b : Int × Option Int), 0 ≤ b.1 → 0 ≤ (l.foldl (findStep t p rem) b).1 := by
    intro l
    induction l with
    | nil => intro b hb; exact hb
    | cons c l ih =>
      intro b hb
      rw [List.foldl_cons]
      refine ih _ ?_
      unfold findStep
      split
      · dsimp only; omega
      · exact hb
  exact h rows (0, none) (Int.le_refl _)
theorem any2 {t a : Int} : (([0, t] : List Int).any fun x => x == a) = true ↔ (a = 0 ∨ a = t) := by
  simp only [List.any_cons, List.any_nil, Bool.or_false, Bool.or_eq_true, beq_iff_eq]
  constructor
  · rintro (h | h)
    · exact .inl h.symm
    · exact .inr h.symm
  · rintro (h | h)
    · exact .inl h.symm
    · exact .inr h.symm
theorem fits_no_port {c : Row} {t p : Int} {rem : Int × Int} (h : c.p ≠ p) : fitsV c t p rem = 0 := if_neg fun k => h k.1
theorem fits_no_addr {c : Row} {t p : Int} {rem : Int × Int} (h : (([0, t] : List Int).any fun x => x == c.a) = false) : fitsV c t p rem = 0 := if_neg fun k => by rw [any2.mpr k.2.1] at h; cases h
theorem fits_no_rem {c : Row} {t p : Int} {rem : Int × Int} {r : Option (Int × Int)} (hq : c.rm = r) (h : ¬(r = none ∨ r = some rem)) : fitsV c t p rem = 0 := if_neg fun k => h (hq ▸ k.2.2)
theorem fits_yes {c : Row} {t p : Int} {rem : Int × Int} {r : Option (Int × Int)} {b : Bool} (h1 : c.p = p) (h2 : (([0, t] : List Int).any fun x => x == c.a) = true) (hq : c.rm = r) (h3 : r = none ∨ r = some rem) (hb : r.isSome = b) :
    (1 + if (c.a != 0) = true then 1 else 0) + (2 * if b = true then 1 else 0) = fitsV c t p rem := by
  have e : fitsV c t p rem = (if c.a = 0 then 1 else 2) + (if c.rm = none then 0 else 2) := if_pos ⟨h1, any2.mp h2, hq ▸ h3⟩
  rw [e, hq]
  subst hb
  by_cases ha : c.a = 0
  · rw [if_pos ha, ha]
    rcases r with _ | _ <;> simp
  · rw [if_neg ha]
    have : (c.a != 0) = true := by simpa using ha
    rw [if_pos this]
    rcases r with _ | _ <;> simp
theorem step_no {c : Row} {t p : Int} {rem : Int × Int} {b : Int × Option Int} (h : fitsV c t p rem ≤ b.1) : findStep t p rem b c = b := if_neg (by omega)
theorem step_yes {c : Row} {t p : Int} {rem : Int × Int} {b : Int × Option Int} (h : b.1 < fitsV c t p rem) : findStep t p rem b c = (fitsV c t p rem, some c.o) := if_pos h
section
variable {prog : Program} {w : World} {p : Program} {loose : List Str} {mean : ExcName → Option Value} {mg mb : Str → Option Value}
  {dp un : Nat} {gd : Option (List Code)} {cn : Str} {cs : Scope} {fa : Addr} {ccd : Value} {cl : List (Str × Addr)} {outer : List Env} {A₀ : Around} {base h₀ : Heap} {L : Addr} {m : Str → Option Value} {s : Shared} {Q E : Value → Shared → Prop}
  {news : List (Addr × Obj)}

theorem m_isNotRem {M : Model} {A : Around} {T : List (Addr × Obj)} {v : Value} {r : Option (Int × Int)} (hv : RemR T v r) (h : Q (.bool r.isSome) s) : wpAny M A (compareOp .IsNot v .none) Q E s := by
  rcases r with _ | ⟨x, y⟩
  · have e : v = .none := hv
    subst e
    exact wpAny_isNot_plain rfl h
  · refine' elimG ?h9y3 ?k9y3
    case h9y3 =>
      intro G9 k9
      obtain ⟨t, ta, tp, e9x1, u9x2⟩ := id hv
      revert u9x2
      revert e9x1
      revert tp
      revert ta
      revert t
      exact k9
    intro t ta tp e9x1 _
    subst e9x1
    try clear hv
    exact wpAny_isNot_plain rfl h
local macro_rules | `(tactic| walk_at "compareOp IsNot") => `(tactic| (refine m_isNotRem (by with_reducible assumption) ?_))
set_option maxHeartbeats 4000000 in
theorem best_spec {rw tr : Addr} {trs : List (Addr × Row)} {x y a b : Int} {tx ty ta tb : Tok} (C : Cx w p loose mean mg mb A₀ base h₀ outer L s.heap m news) (R : Rm cs dp un 1) (hR : PyRows news rw trs) (hlt : trs.length < 60) (hrm : (tr, tupO [.int a ta, .int b tb]) ∈ news)
  (hret : ∀ v h' tk', OptI v (findF x y (a, b) (trs.map fun q => q.2)).2 → Fr h₀ L h' m → News h₀ L h' news → Q v { s with heap := h', toks := tk' }) :
  wpAny (model prog w) (ktrTop dp un gd cn cs L fa ccd cl outer) (call (.ref 331) [.ref rw, .int x tx, .int y ty, .ref tr]) Q E s := by
  have C' := C
  obtain ⟨B, F, X, N, T⟩ := C'
  have hRd := R.hd
  have hRu := R.hu
  refine' elimG ?h9y1 ?k9y1
  case h9y1 =>
    intro G9 k9
    obtain ⟨⟨nn, hRm⟩, hRr⟩ := id hR
    revert hRr
    revert hRm
    revert nn
    exact k9
  intro nn hRm hRr
  try clear hR
  k_dflt (refine' enterK (binds := [(Str.ofString "rows", .ref rw), (Str.ofString "target", .int x tx), (Str.ofString "port", .int y ty), (Str.ofString "remote", .ref tr)]) C R ?k6 ?k7 ?k9 ?kB ?_ ?c2 ?c3 ?c4 ?c5; (((case k6 => k_is); (case k7 => k_is); (case k9 => exact BindsTo.of_eq rfl); (case c5 => decide); (case kB => exact locs rfl); (case c2 => exact rfl); (case c3 => exact rfl); (case c4 => exact rfl); k_whole; intro g' L' h' FG' F' N' B' X' T'; (try dsimp only); (try k_fold))))
  (repeat' (first | (k_unfold; (try dsimp only)) | (k_end; wrow_close) | ((with_reducible show wpAny _ _ (compareOp PySem.CmpOp.In (Value.ref _) (Value.ref _)) _ _ _); with_reducible (k_dflt (refine' m_inRem ?k1 ?k2 ?k3 ?k4 ?k5 ?_; (case k1 => k_asm); (case k2 => k_mem); (case k3 => (first | with_reducible assumption | exact remR_none | exact remR_some (by k_mem) | (focus (refine' RemR.mono ?_ ?_; rotate_right; (focus with_reducible assumption); walk_at "sub9")))); (case k4 => k_mem); (case k5 => walk_at "un9")))) | ((with_reducible show wpAny _ _ (exec (PySem.Stmt.For (PySem.Expr.Tuple _ _ _) _ _ _ _) _) _ _ _); with_reducible (k_here; (rename Fr _ _ _ _ => lF'); (with_unfolding_all refine' For_turns lF' ?_; k_whole))) | walk1 | (dsimp only; walk1) | (leave1; try dsimp only)))
  refine rows_turns [Str.ofString "owner", Str.ofString "address", Str.ofString "own_port", Str.ofString "told", Str.ofString "worth", Str.ofString "best", Str.ofString "found"] (fun i m₁ => ∃ tb9 fv, m₁ (Str.ofString "best") = some (.int (findF x y (a, b) ((trs.take i).map fun q => q.2)).1 tb9) ∧ m₁ (Str.ofString "found") = some fv ∧ OptI fv (findF x y (a, b) ((trs.take i).map fun q => q.2)).2) rfl hRm (by k_asm) (by walk_at "news9") ⟨_, _, rfl, rfl, rfl⟩ ?_ ?_
  · intro i q m₁ T h tk hq hI hsub F₁ N₁
    refine' elimG ?h9y2 ?k9y2
    case h9y2 =>
      intro G9 k9
      obtain ⟨u1, u2, u3, rv, hqm, hqR⟩ := (hRr q (List.mem_of_getElem? hq)).mono hsub
      revert hqR
      revert hqm
      revert rv
      revert u3
      revert u2
      revert u1
      exact k9
    intro u1 u2 u3 rv hqm hqR
    have hrm' := hsub _ hrm
    refine' elimG ?h9y3 ?k9y3
    case h9y3 =>
      intro G9 k9
      obtain ⟨tb9, fv, hb9, hf9, ho9⟩ := id hI
      revert ho9
      revert hf9
      revert hb9
      revert fv
      revert tb9
      exact k9
    intro tb9 fv hb9 hf9 ho9
    try clear hI
    have hst : findF x y (a, b) ((trs.take (i + 1)).map fun q => q.2) = findStep x y (a, b) (findF x y (a, b) ((trs.take i).map fun q => q.2)) q.2 := by
      rw [List.take_add_one, hq]; simp [findF]
    have hnn : 0 ≤ (findF x y (a, b) ((trs.take i).map fun q => q.2)).1 := findF_nn
    (try k_fold)
    (repeat' (first | (k_unfold; (try dsimp only)) | (k_end; wrow_close) | ((with_reducible show wpAny _ _ (compareOp PySem.CmpOp.In (Value.ref _) (Value.ref _)) _ _ _); with_reducible (k_dflt (refine' m_inRem ?k1 ?k2 ?k3 ?k4 ?k5 ?_; (case k1 => k_asm); (case k2 => k_mem); (case k3 => (first | with_reducible assumption | exact remR_none | exact remR_some (by k_mem) | (focus (refine' RemR.mono ?_ ?_; rotate_right; (focus with_reducible assumption); walk_at "sub9")))); (case k4 => k_mem); (case k5 => walk_at "un9")))) | ((with_reducible show wpAny _ _ (exec (PySem.Stmt.For (PySem.Expr.Tuple _ _ _) _ _ _ _) _) _ _ _); with_reducible (k_here; (rename Fr _ _ _ _ => lF'); (with_unfolding_all refine' For_turns lF' ?_; k_whole))) | walk1 | (dsimp only; walk1) | (leave1; try dsimp only)))
    all_goals (
      refine ⟨_, _, _, rfl, (by k_asm), (by walk_at "news9"), (by ((intro kyy kyhy; simp only [List.contains_cons, List.contains_nil, Bool.or_false, Bool.or_eq_false_iff, beq_eq_false_iff_ne, ne_eq] at kyhy; simp [kyhy]))), ?_⟩
      rw [hst]
      first
        | (rw [step_no (by rw [fits_no_port (by assumption)]; exact hnn)]; exact ⟨_, _, hb9, hf9, ho9⟩)
        | (rw [step_no (by rw [fits_no_addr (by assumption)]; exact hnn)]; exact ⟨_, _, hb9, hf9, ho9⟩)
        | (rw [step_no (by rw [fits_no_rem rfl (by assumption)]; exact hnn)]; exact ⟨_, _, hb9, hf9, ho9⟩)
        | (rw [step_no (by rw [← fits_yes (b := q.2.rm.isSome) (by assumption) (by assumption) rfl (by assumption) rfl]; omega)]; exact ⟨_, _, hb9, hf9, ho9⟩)
        | (rw [step_yes (by rw [← fits_yes (b := q.2.rm.isSome) (by assumption) (by assumption) rfl (by assumption) rfl]; omega)]; exact ⟨_, _, congrArg (fun z => some (Value.int z _)) (fits_yes (b := q.2.rm.isSome) (by assumption) (by assumption) rfl (by assumption) rfl), rfl, ⟨_, rfl⟩⟩))
  · intro m₁ h tk hK hI F₁ N₁
    refine' elimG ?h9y4 ?k9y4
    case h9y4 =>
      intro G9 k9
      obtain ⟨tb9, fv, hb9, hf9, ho9⟩ := id hI
      revert ho9
      revert hf9
      revert hb9
      revert fv
      revert tb9
      exact k9
    intro tb9 fv hb9 hf9 ho9
    try clear hI
    rw [List.take_length] at ho9
    (try k_fold)
    (repeat' (first | (k_unfold; (try dsimp only)) | (k_end; wrow_close) | ((with_reducible show wpAny _ _ (compareOp PySem.CmpOp.In (Value.ref _) (Value.ref _)) _ _ _); with_reducible (k_dflt (refine' m_inRem ?k1 ?k2 ?k3 ?k4 ?k5 ?_; (case k1 => k_asm); (case k2 => k_mem); (case k3 => (first | with_reducible assumption | exact remR_none | exact remR_some (by k_mem) | (focus (refine' RemR.mono ?_ ?_; rotate_right; (focus with_reducible assumption); walk_at "sub9")))); (case k4 => k_mem); (case k5 => walk_at "un9")))) | ((with_reducible show wpAny _ _ (exec (PySem.Stmt.For (PySem.Expr.Tuple _ _ _) _ _ _ _) _) _ _ _); with_reducible (k_here; (rename Fr _ _ _ _ => lF'); (with_unfolding_all refine' For_turns lF' ?_; k_whole))) | walk1 | (dsimp only; walk1) | (leave1; try dsimp only)))
    all_goals exact hret _ _ _ ho9 (by k_asm) (by k_asm)
end
def Stop (p : Prop) : Prop := p
theorem stop_mk {p : Prop} (h : Stop p) : p := h
def TurnG (h₀ : Heap) (L I : Addr) (oI : Obj) (J : (Str → Option Value) → List (Addr × Obj) → Prop) (s₁ : Shared) (Q : Flow → Shared → Prop) (f : Flow) (s₂ : Shared) : Prop :=
  match f with
  | .ret v => Q (.ret v) s₂
  | .brk => Q .next s₂
  | _ => ∃ h' tk m' T', s₂ = { s₁ with heap := h', toks := tk } ∧ Fr h₀ L h' m' ∧ News h₀ L h' ((I, oI) :: T') ∧ (∀ p ∈ T', p.1 ≠ I) ∧ J m' T'
theorem turnG_ret {h₀ : Heap} {L I : Addr} {oI : Obj} {J : (Str → Option Value) → List (Addr × Obj) → Prop} {s₁ s₂ : Shared} {Q : Flow → Shared → Prop} {v : Value} (h : Q (.ret v) s₂) : TurnG h₀ L I oI J s₁ Q (.ret v) s₂ := h
theorem turnG_next {h₀ h' : Heap} {L I : Addr} {oI : Obj} {J : (Str → Option Value) → List (Addr × Obj) → Prop} {s₁ : Shared} {tk : Nat} {m' : Str → Option Value} {Q : Flow → Shared → Prop} (T' : List (Addr × Obj)) (F : Fr h₀ L h' m') (N : News h₀ L h' ((I, oI) :: T')) (off : ∀ p ∈ T', p.1 ≠ I) (hJ : J m' T') :
    TurnG h₀ L I oI J s₁ Q .next { s₁ with heap := h', toks := tk } := ⟨h', tk, m', T', rfl, F, N, off, hJ⟩
section
variable {prog : Program} {w : World} {A : Around} {E : Value → Shared → Prop} {s : Shared} {env : Env} {h₀ : Heap} {x : Str} {body : List Stmt} {Q : Flow → Shared → Prop} {news : List (Addr × Obj)}
theorem range_loop {r : Addr} {a b c : Int} {t u v : Tok} {n : Nat} {m₀ : Str → Option Value} (stored : List Str) (J : Nat → (Str → Option Value) → List (Addr × Obj) → Prop) (hh : A.handled = none) (hr : IsRange s.heap r a b c t u v) (hsm : Builtin.Range.small a b c = true) (hn : Builtin.Range.rangeSize a b c = ((n : Nat) : Int))
    (F : Fr h₀ env.locals s.heap m₀) (N : News h₀ env.locals s.heap news) (h0 : J 0 m₀ news)
    (turn : ∀ (i : Nat) t m₁ T h tk I oI, i < n → J i m₁ T → (∀ p ∈ T, p.1 ≠ I) → Fr h₀ env.locals h (fun y => if y = x then some (.int (a + (i : Int) * c) t) else if stored.contains y = true then m₁ y else m₀ y) → News h₀ env.locals h ((I, oI) :: T) →
      wpAny (model prog w) A (execs body env) (TurnG h₀ env.locals I oI (fun m' T' => Keep stored m₀ m' ∧ J (i + 1) m' T') { s with heap := h, toks := tk } Q) E { s with heap := h, toks := tk })
    (done : ∀ m₁ T h tk, Keep stored m₀ m₁ → J n m₁ T → Fr h₀ env.locals h (fun y => if stored.contains y = true then m₁ y else m₀ y) → News h₀ env.locals h T → Q .next { s with heap := h, toks := tk }) :
    wpAny (model prog w) A (pyIter (.ref r)) (fun it s₂ => LoopAtV prog w A h₀ env x body Q E it s₂) E s := by
  have same : ∀ m₁, Keep stored m₀ m₁ → m₁ = fun y => if stored.contains y = true then m₁ y else m₀ y := by
    intro m₁ hK
    funext y
    cases hc : stored.contains y with
    | true => simp
    | false => simp only [Bool.false_eq_true, if_false]; exact hK y hc
  refine wpAny_pyIter_range hr hsm ?_
  refine ⟨s.heap.objs.size, _, _, _, _, _, m₀, news, fun i m₁ T => Keep stored m₀ m₁ ∧ J i m₁ T, rfl, Walks.range hh s.heap.objs.size a c n, ?_, ?_, ?_, ?_, F.keeps (fun _ _ e => Heap.get?_push_of_some _ e), N.grown (fun _ _ e => Heap.get?_push_of_some _ e), ⟨fun _ _ => rfl, h0⟩, ?_, ?_⟩
  · intro hI
    exact absurd F.ns.lt ((List.mem_singleton.mp hI) ▸ Nat.lt_irrefl _)
  · intro b hb
    rw [List.mem_singleton.mp hb]
    exact next_is_new F
  · intro p hp hI
    exact absurd (Heap.lt_size (N p hp).1) ((List.mem_singleton.mp hI) ▸ Nat.lt_irrefl _)
  · show IsRangeIter _ _ _ _ _
    rw [hn]
    simpa using Heap.get?_push_size _ rfl
  · rintro i v' m₁ T s₁ own ⟨h, tk, rfl⟩ hi ⟨t', rfl⟩ ⟨hK, hJ⟩ hoff hown hget hall hst F₁ N₁
    refine' elimG ?h9y1 ?k9y1
    case h9y1 =>
      have h9z : ∃ o, h.get? s.heap.objs.size = some o := ⟨_, hst⟩
      intro G9 k9
      obtain ⟨oI, hst'⟩ := h9z
      revert hst'
      revert oI
      exact k9
    intro oI hst'
    have hoff' : ∀ p ∈ T, p.1 ≠ s.heap.objs.size := fun p hp e => hoff p hp (e ▸ List.mem_singleton.mpr rfl)
    have hIm := hall _ (List.mem_singleton.mpr rfl) (next_is_new F) _ hst'
    have N₂ : News h₀ env.locals h ((s.heap.objs.size, oI) :: T) := fun p hp => by
      rcases List.mem_cons.mp hp with rfl | hp
      · exact N₁ _ (List.mem_append_left _ hIm)
      · exact N₁ _ (List.mem_append_right _ hp)
    rw [keep_frame hK] at F₁
    refine wpAny_mono (turn i t' m₁ T h tk _ _ hi hJ hoff' F₁ N₂) (fun f s₂ p => ?_) fun _ _ e => e
    have fin : TurnG h₀ env.locals s.heap.objs.size oI (fun m' T' => Keep stored m₀ m' ∧ J (i + 1) m' T') { s with heap := h, toks := tk } Q .next s₂ →
        LoopStepU h₀ env.locals [s.heap.objs.size] own (fun m₁ T' => Keep stored m₀ m₁ ∧ J (i + 1) m₁ T') { s with heap := h, toks := tk } .next s₂ := by
      rintro ⟨h', tk', m', T', e, F', N', off, hm⟩
      refine ⟨rfl, h', tk', m', T', e, F', fun p hp => ?_, fun p hp hI => off p hp (List.mem_singleton.mp hI), hm⟩
      rcases List.mem_append.mp hp with hp | hp
      · have e1 : p.1 = s.heap.objs.size := List.mem_singleton.mp (hown p hp)
        have e2 := hget p hp
        have e3 : p = (s.heap.objs.size, oI) := by
          rw [e1] at e2
          exact Prod.ext e1 (Option.some.inj (e2.symm.trans hst'))
        rw [e3]
        exact N' _ List.mem_cons_self
      · exact N' _ (List.mem_cons_of_mem _ hp)
    cases f with
    | ret v => exact .ret p
    | brk => exact .brk p
    | next => exact .next (fin p)
    | cont => exact .cont (fin p)
  · rintro h' tk m' T F' N' _ ⟨hK, hJ⟩
    rw [same m' hK] at F'
    exact done m' T h' tk hK hJ F' N'
end
--M<
--M>
theorem TabR.mono1 {prog : Program} {w : World} {T T' : List (Addr × Obj)} {tb tdx D : Addr} {oD : Obj} {crs : List CR} (h : ∀ q ∈ T, q ∈ T') (hT : TabR prog w T tb tdx D oD crs) : TabR prog w T' tb tdx D oD crs := hT.mono fun q hq _ => h q hq
--M<
--M>
theorem PyRows.mono {T T' : List (Addr × Obj)} (h : ∀ q ∈ T, q ∈ T') {r : Addr} {trs : List (Addr × Row)} : PyRows T r trs → PyRows T' r trs
  | ⟨⟨n, a⟩, b⟩ => ⟨⟨n, h _ a⟩, rowsT_mono h b⟩
--M<
--M>
section
variable {prog : Program} {w : World} {A : Around} {E : Value → Shared → Prop} {s : Shared} {Q : Value → Shared → Prop}
theorem m_neOpt {v1 v2 : Value} {z : Option Int} (h1 : OptI v1 z) (h2 : OptI v2 z) (hu : A.units + 64 < cLine) (h : Q (.bool false) s) : wpAny (model prog w) A (compareOp .NotEq v1 v2) Q E s := by
  rcases z with _ | k
  · have e1 : v1 = .none := h1
    have e2 : v2 = .none := h2
    subst e1; subst e2
    exact ne_dataH .none .none (by decide) (by decide) hu (by simpa [PyData.eqv] using h)
  · refine' elimG ?h9y2 ?k9y2
    case h9y2 =>
      intro G9 k9
      obtain ⟨t1, e9x1⟩ := id h1
      revert e9x1
      revert t1
      exact k9
    intro t1 e9x1
    subst e9x1
    try clear h1
    refine' elimG ?h9y4 ?k9y4
    case h9y4 =>
      intro G9 k9
      obtain ⟨t2, e9x3⟩ := id h2
      revert e9x3
      revert t2
      exact k9
    intro t2 e9x3
    subst e9x3
    try clear h2
    exact ne_dataH (.int _ _) (.int _ _) rfl rfl hu (by simpa [PyData.eqv] using h)
end
section
variable {prog : Program} {w : World} {p : Program} {loose : List Str} {mean : ExcName → Option Value} {mg mb : Str → Option Value}
  {dp un : Nat} {gd : Option (List Code)} {cn : Str} {cs : Scope} {fa : Addr} {ccd : Value} {cl : List (Str × Addr)} {outer : List Env} {A₀ : Around} {base h₀ : Heap} {L : Addr} {m : Str → Option Value} {s : Shared} {Q E : Value → Shared → Prop}
  {news : List (Addr × Obj)}

set_option maxHeartbeats 4000000 in
theorem finds_core {src rw tb tdx D : Addr} {o oD : Obj} {crs : List CR} {trs : List (Addr × Row)} (hne : ∀ q ∈ news, q.1 ≠ src) (hP : PoolO o) (C : Cx w p loose mean mg mb A₀ base h₀ outer L s.heap m ((src, o) :: news)) (R : Rm cs dp un 4)
  (hT : TabR prog w news tb tdx D oD crs) (hR : PyRows news rw trs) (he : (crs.map CR.toRow) = trs.map fun q => q.2) (hlt : trs.length < 60)
  (hret : ∀ o' h' tk', PoolO o' → Fr h₀ L h' m → News h₀ L h' ((src, o') :: news) → Q (.bool true) { s with heap := h', toks := tk' }) :
  wpAny (model prog w) (ktrTop dp un gd cn cs L fa ccd cl outer) (call (.ref 357) [.ref src, .ref rw, .ref tb]) Q E s := by
  have C' := C
  obtain ⟨B, F, X, N, T⟩ := C'
  have hRd := R.hd
  have hRu := R.hu
  have hT' := hT
  refine' elimG ?h9y1 ?k9y1
  case h9y1 =>
    intro G9 k9
    obtain ⟨hm1, ⟨hs, tk0, nn, hm2⟩, hm3, hlo, hD, hrow, hnd, hlen⟩ := id hT
    revert hlen
    revert hnd
    revert hrow
    revert hD
    revert hlo
    revert hm3
    revert hm2
    revert nn
    revert tk0
    revert hs
    revert hm1
    exact k9
  intro hm1 hs tk0 nn hm2 hm3 hlo hD hrow hnd hlen
  try clear hT
  k_dflt (refine' enterK (binds := [(Str.ofString "source", .ref src), (Str.ofString "rows", .ref rw), (Str.ofString "table", .ref tb)]) C R ?k6 ?k7 ?k9 ?kB ?_ ?c2 ?c3 ?c4 ?c5; (((case k6 => k_is); (case k7 => k_is); (case k9 => exact BindsTo.of_eq rfl); (case c5 => decide); (case kB => exact locs rfl); (case c2 => exact rfl); (case c3 => exact rfl); (case c4 => exact rfl); k_whole; intro g' L' h' FG' F' N' B' X' T'; (try dsimp only); (try k_fold))))
  (repeat' (first | (k_unfold; (try dsimp only)) | (k_end; wrow_close) | (with_reducible ((with_reducible show wpAny _ _ (pyIter (Value.ref _)) (fun it s₂ => LoopAtV _ _ _ _ _ _ _ _ _ it s₂) _ _); refine stop_mk ?_)) | (with_reducible (k_here; (with_reducible show wpAny _ _ (PySem.call (Value.ref 173) _ _) _ _ _); k_dflt (refine' find_spec ?c1 ?c2 ?c3 ?_; (case c1 => walk_at "cx9"); (case c2 => walk_at "rm9"); (case c3 => (first | with_reducible assumption | (focus (refine' TabR.mono1 ?_ ?_; rotate_right; (focus with_reducible assumption); walk_at "sub9"))))); intro kyv' kyh' kytk' kyhv' kyF' kyN'; (try k_fold))) | (with_reducible (k_here; (with_reducible show wpAny _ _ (PySem.call (Value.ref 331) _ _) _ _ _); k_dflt (refine' best_spec ?c1 ?c2 ?c3 ?c4 ?c5 ?_; (case c1 => walk_at "cx9"); (case c2 => walk_at "rm9"); (case c3 => (first | with_reducible assumption | (focus (refine' PyRows.mono ?_ ?_; rotate_right; (focus with_reducible assumption); walk_at "sub9")))); (case c4 => with_reducible assumption); (case c5 => k_mem)); intro kyv' kyh' kytk' kyhv' kyF' kyN'; (try k_fold))) | ((with_reducible show wpAny _ _ (exec (PySem.Stmt.For (PySem.Expr.Name _ _) _ _ _ _) _) _ _ _); with_reducible (k_here; (rename Fr _ _ _ _ => lF'); (with_unfolding_all refine' For_invVF lF' ?k1 ?k2 ?_; (case k1 => exact rfl); (case k2 => exact rfl); k_whole))) | (with_reducible ((with_reducible show wpAny _ _ (subscriptTail _ _ (Value.ref _) (Value.int _ _)) _ _ _); k_dflt (refine' m_titem ?k1 ?k2 ?k3 ?k4 ?k5 ?k6 ?_; (case k1 => k_asm); (case k2 => walk_at "memR9"); (case k3 => decide); (case k4 => decide); (case k5 => rfl); (case k6 => rfl)))) | (with_reducible (k_here; (with_reducible show wpAny _ _ (PySem.call (Value.ref 324) _ _) _ _ _); k_dflt (refine' one_spec ?c1 ?c2 ?c3 ?c4 ?c5 ?c6 ?c7 ?c8 ?_; (case c3 => walk_at "cx9"); (case c1 => k_updF); (case c2 => with_reducible assumption); (case c4 => walk_at "rm9"); (case c5 => (intro kyo9; (try dsimp only); k_mem)); (case c6 => l_ints); (case c7 => first | assumption | decide); (case c8 => first | assumption | decide)); intro kyk' kyt' kyo' kyh' kytk' kyhk' kyhP' kyF' kyN'; (try dsimp only at kyN'); (try k_fold))) | walk1 | (dsimp only; walk1) | (leave1; try dsimp only)))
  unfold Stop
  refine range_loop [Str.ofString "turn", Str.ofString "target", Str.ofString "port", Str.ofString "remote"] (fun i _ T => ∃ o', T = (src, o') :: news ∧ PoolO o') (n := 8) rfl (by assumption) (by decide) (by decide) (by k_asm) (by k_asm) ⟨o, rfl, hP⟩ ?_ ?_
  · rintro i t m₁ T h tk I oI hi ⟨o', rfl, hP'⟩ hoff F₁ N₁
    have hI1 : (@Ne Nat src I) := hoff _ List.mem_cons_self
    have hI2 : ∀ q ∈ news, q.1 ≠ I := fun q hq => hoff q (List.mem_cons_of_mem _ hq)
    (try k_fold)
    (repeat' (first | (k_unfold; (try dsimp only)) | (k_end; wrow_close) | (with_reducible ((with_reducible show wpAny _ _ (pyIter (Value.ref _)) (fun it s₂ => LoopAtV _ _ _ _ _ _ _ _ _ it s₂) _ _); refine stop_mk ?_)) | (with_reducible (k_here; (with_reducible show wpAny _ _ (PySem.call (Value.ref 173) _ _) _ _ _); k_dflt (refine' find_spec ?c1 ?c2 ?c3 ?_; (case c1 => walk_at "cx9"); (case c2 => walk_at "rm9"); (case c3 => (first | with_reducible assumption | (focus (refine' TabR.mono1 ?_ ?_; rotate_right; (focus with_reducible assumption); walk_at "sub9"))))); intro kyv' kyh' kytk' kyhv' kyF' kyN'; (try k_fold))) | (with_reducible (k_here; (with_reducible show wpAny _ _ (PySem.call (Value.ref 331) _ _) _ _ _); k_dflt (refine' best_spec ?c1 ?c2 ?c3 ?c4 ?c5 ?_; (case c1 => walk_at "cx9"); (case c2 => walk_at "rm9"); (case c3 => (first | with_reducible assumption | (focus (refine' PyRows.mono ?_ ?_; rotate_right; (focus with_reducible assumption); walk_at "sub9")))); (case c4 => with_reducible assumption); (case c5 => k_mem)); intro kyv' kyh' kytk' kyhv' kyF' kyN'; (try k_fold))) | ((with_reducible show wpAny _ _ (exec (PySem.Stmt.For (PySem.Expr.Name _ _) _ _ _ _) _) _ _ _); with_reducible (k_here; (rename Fr _ _ _ _ => lF'); (with_unfolding_all refine' For_invVF lF' ?k1 ?k2 ?_; (case k1 => exact rfl); (case k2 => exact rfl); k_whole))) | (with_reducible ((with_reducible show wpAny _ _ (subscriptTail _ _ (Value.ref _) (Value.int _ _)) _ _ _); k_dflt (refine' m_titem ?k1 ?k2 ?k3 ?k4 ?k5 ?k6 ?_; (case k1 => k_asm); (case k2 => walk_at "memR9"); (case k3 => decide); (case k4 => decide); (case k5 => rfl); (case k6 => rfl)))) | (with_reducible (k_here; (with_reducible show wpAny _ _ (PySem.call (Value.ref 324) _ _) _ _ _); k_dflt (refine' one_spec ?c1 ?c2 ?c3 ?c4 ?c5 ?c6 ?c7 ?c8 ?_; (case c3 => walk_at "cx9"); (case c1 => k_updF); (case c2 => with_reducible assumption); (case c4 => walk_at "rm9"); (case c5 => (intro kyo9; (try dsimp only); k_mem)); (case c6 => l_ints); (case c7 => first | assumption | decide); (case c8 => first | assumption | decide)); intro kyk' kyt' kyo' kyh' kytk' kyhk' kyhP' kyF' kyN'; (try dsimp only at kyN'); (try k_fold))) | walk1 | (dsimp only; walk1) | (leave1; try dsimp only)))
    refine' m_neOpt ?k1 ?k2 ?k3 ?_
    case k1 => with_reducible assumption
    case k2 => (with_reducible rename List.map CR.toRow _ = List.map _ _ => he9); rw [he9]; with_reducible assumption
    case k3 => walk_at "un9"
    (repeat' (first | (k_unfold; (try dsimp only)) | (k_end; wrow_close) | (with_reducible ((with_reducible show wpAny _ _ (pyIter (Value.ref _)) (fun it s₂ => LoopAtV _ _ _ _ _ _ _ _ _ it s₂) _ _); refine stop_mk ?_)) | (with_reducible (k_here; (with_reducible show wpAny _ _ (PySem.call (Value.ref 173) _ _) _ _ _); k_dflt (refine' find_spec ?c1 ?c2 ?c3 ?_; (case c1 => walk_at "cx9"); (case c2 => walk_at "rm9"); (case c3 => (first | with_reducible assumption | (focus (refine' TabR.mono1 ?_ ?_; rotate_right; (focus with_reducible assumption); walk_at "sub9"))))); intro kyv' kyh' kytk' kyhv' kyF' kyN'; (try k_fold))) | (with_reducible (k_here; (with_reducible show wpAny _ _ (PySem.call (Value.ref 331) _ _) _ _ _); k_dflt (refine' best_spec ?c1 ?c2 ?c3 ?c4 ?c5 ?_; (case c1 => walk_at "cx9"); (case c2 => walk_at "rm9"); (case c3 => (first | with_reducible assumption | (focus (refine' PyRows.mono ?_ ?_; rotate_right; (focus with_reducible assumption); walk_at "sub9")))); (case c4 => with_reducible assumption); (case c5 => k_mem)); intro kyv' kyh' kytk' kyhv' kyF' kyN'; (try k_fold))) | ((with_reducible show wpAny _ _ (exec (PySem.Stmt.For (PySem.Expr.Name _ _) _ _ _ _) _) _ _ _); with_reducible (k_here; (rename Fr _ _ _ _ => lF'); (with_unfolding_all refine' For_invVF lF' ?k1 ?k2 ?_; (case k1 => exact rfl); (case k2 => exact rfl); k_whole))) | (with_reducible ((with_reducible show wpAny _ _ (subscriptTail _ _ (Value.ref _) (Value.int _ _)) _ _ _); k_dflt (refine' m_titem ?k1 ?k2 ?k3 ?k4 ?k5 ?k6 ?_; (case k1 => k_asm); (case k2 => walk_at "memR9"); (case k3 => decide); (case k4 => decide); (case k5 => rfl); (case k6 => rfl)))) | (with_reducible (k_here; (with_reducible show wpAny _ _ (PySem.call (Value.ref 324) _ _) _ _ _); k_dflt (refine' one_spec ?c1 ?c2 ?c3 ?c4 ?c5 ?c6 ?c7 ?c8 ?_; (case c3 => walk_at "cx9"); (case c1 => k_updF); (case c2 => with_reducible assumption); (case c4 => walk_at "rm9"); (case c5 => (intro kyo9; (try dsimp only); k_mem)); (case c6 => l_ints); (case c7 => first | assumption | decide); (case c8 => first | assumption | decide)); intro kyk' kyt' kyo' kyh' kytk' kyhk' kyhP' kyF' kyN'; (try dsimp only at kyN'); (try k_fold))) | walk1 | (dsimp only; walk1) | (leave1; try dsimp only)))
    exact turnG_next ((src, _) :: news) (by k_asm) (by walk_at "news9") (List.forall_mem_cons.mpr ⟨hI1, hI2⟩) ⟨by ((intro kyy kyhy; simp only [List.contains_cons, List.contains_nil, Bool.or_false, Bool.or_eq_false_iff, beq_eq_false_iff_ne, ne_eq] at kyhy; simp [kyhy])), _, rfl, by assumption⟩
  · rintro m₁ T h tk hK ⟨o', rfl, hP'⟩ F₁ N₁
    (try k_fold)
    (repeat' (first | (k_unfold; (try dsimp only)) | (k_end; wrow_close) | (with_reducible ((with_reducible show wpAny _ _ (pyIter (Value.ref _)) (fun it s₂ => LoopAtV _ _ _ _ _ _ _ _ _ it s₂) _ _); refine stop_mk ?_)) | (with_reducible (k_here; (with_reducible show wpAny _ _ (PySem.call (Value.ref 173) _ _) _ _ _); k_dflt (refine' find_spec ?c1 ?c2 ?c3 ?_; (case c1 => walk_at "cx9"); (case c2 => walk_at "rm9"); (case c3 => (first | with_reducible assumption | (focus (refine' TabR.mono1 ?_ ?_; rotate_right; (focus with_reducible assumption); walk_at "sub9"))))); intro kyv' kyh' kytk' kyhv' kyF' kyN'; (try k_fold))) | (with_reducible (k_here; (with_reducible show wpAny _ _ (PySem.call (Value.ref 331) _ _) _ _ _); k_dflt (refine' best_spec ?c1 ?c2 ?c3 ?c4 ?c5 ?_; (case c1 => walk_at "cx9"); (case c2 => walk_at "rm9"); (case c3 => (first | with_reducible assumption | (focus (refine' PyRows.mono ?_ ?_; rotate_right; (focus with_reducible assumption); walk_at "sub9")))); (case c4 => with_reducible assumption); (case c5 => k_mem)); intro kyv' kyh' kytk' kyhv' kyF' kyN'; (try k_fold))) | ((with_reducible show wpAny _ _ (exec (PySem.Stmt.For (PySem.Expr.Name _ _) _ _ _ _) _) _ _ _); with_reducible (k_here; (rename Fr _ _ _ _ => lF'); (with_unfolding_all refine' For_invVF lF' ?k1 ?k2 ?_; (case k1 => exact rfl); (case k2 => exact rfl); k_whole))) | (with_reducible ((with_reducible show wpAny _ _ (subscriptTail _ _ (Value.ref _) (Value.int _ _)) _ _ _); k_dflt (refine' m_titem ?k1 ?k2 ?k3 ?k4 ?k5 ?k6 ?_; (case k1 => k_asm); (case k2 => walk_at "memR9"); (case k3 => decide); (case k4 => decide); (case k5 => rfl); (case k6 => rfl)))) | (with_reducible (k_here; (with_reducible show wpAny _ _ (PySem.call (Value.ref 324) _ _) _ _ _); k_dflt (refine' one_spec ?c1 ?c2 ?c3 ?c4 ?c5 ?c6 ?c7 ?c8 ?_; (case c3 => walk_at "cx9"); (case c1 => k_updF); (case c2 => with_reducible assumption); (case c4 => walk_at "rm9"); (case c5 => (intro kyo9; (try dsimp only); k_mem)); (case c6 => l_ints); (case c7 => first | assumption | decide); (case c8 => first | assumption | decide)); intro kyk' kyt' kyo' kyh' kytk' kyhk' kyhP' kyF' kyN'; (try dsimp only at kyN'); (try k_fold))) | walk1 | (dsimp only; walk1) | (leave1; try dsimp only)))
    all_goals exact hret _ _ _ hP' (by k_asm) (by k_asm)
end
section
variable {prog : Program} {w : World} {p : Program} {loose : List Str} {mean : ExcName → Option Value} {mg mb : Str → Option Value}
  {dp un : Nat} {gd : Option (List Code)} {cn : Str} {cs : Scope} {fa : Addr} {ccd : Value} {cl : List (Str × Addr)} {outer : List Env} {A₀ : Around} {base h₀ : Heap} {L : Addr} {m : Str → Option Value} {s : Shared} {Q E : Value → Shared → Prop}
  {news : List (Addr × Obj)}

set_option maxHeartbeats 4000000 in
theorem pool_spec {sc : Addr} {vs : List Value} {ns : List Int} {tk0 : Tok} (C : Cx w p loose mean mg mb A₀ base h₀ outer L s.heap m news) (R : Rm cs dp un 3) (hL : h₀.IsList sc vs.toArray) (hI : IntsAre vs ns) (hlen : ns.length ≤ 63)
  (hret : ∀ r o h' tk', PoolO o → Fr h₀ L h' m → News h₀ L h' ((r, o) :: news) → (∀ q ∈ news, @LT.lt Nat _ q.1 r) → Q (.ref r) { s with heap := h', toks := tk' }) :
  wpAny (model prog w) (ktrTop dp un gd cn cs L fa ccd cl outer) (call (.ref 310) [.ref sc, .int 0 tk0]) Q E s := by
  have C' := C
  obtain ⟨B, F, X, N, T⟩ := C'
  have hRd := R.hd
  have hRu := R.hu
  k_dflt (refine' enterK (binds := [(Str.ofString "script", .ref sc), (Str.ofString "k", .int 0 tk0)]) C R ?k6 ?k7 ?k9 ?kB ?_ ?c2 ?c3 ?c4 ?c5; (((case k6 => k_is); (case k7 => k_is); (case k9 => exact BindsTo.of_eq rfl); (case c5 => decide); (case kB => exact locs rfl); (case c2 => exact rfl); (case c3 => exact rfl); (case c4 => exact rfl); k_whole; intro g' L' h' FG' F' N' B' X' T'; (try dsimp only); (try k_fold))))
  rename Fr h₀ L _ m => FG9
  have hL9 := stays_list FG9.keep hL
  (repeat' (first | (k_unfold; (try dsimp only)) | (k_end; wrow_close) | ((with_reducible show wpAny _ _ (binaryOp PySem.Operator.Mod (Value.int _ _) (Value.int _ _)) _ _ _); with_reducible (with_reducible refine m_mod ?hb9 ?_; (case hb9 => omega))) | walk1 | (dsimp only; walk1) | (leave1; try dsimp only)))
  all_goals (
    refine' hret _ _ _ _ ?P ?F ?N ?f
    (case N => k_asm)
    (case F => k_asm)
    (case f => assumption)
    (case P => exact ⟨_, _, _, _, _, rfl, Int.mul_nonneg (by split <;> omega) (by split <;> omega), Int.emod_nonneg _ (by decide), Int.emod_lt_of_pos _ (by decide)⟩))
end
section
variable {prog : Program} {w : World} {A : Around} {E : Value → Shared → Prop} {s : Shared} {t u : Tok} {Q : Value → Shared → Prop} {a b : Int}
theorem not_not' (x : Int) : Builtin.bitNot (Builtin.bitNot x) = x := by rw [kbt_not, kbt_not]; omega
theorem bitOr_nat (x y : Nat) : Builtin.bitOr (x : Int) (y : Int) = ((x ||| y : Nat) : Int) := by
  have h1 : decide ((0 : Int) ≤ Builtin.bitNot (x : Int)) = false := decide_eq_false (by rw [kbt_not]; omega)
  have h2 : decide ((0 : Int) ≤ Builtin.bitNot (y : Int)) = false := decide_eq_false (by rw [kbt_not]; omega)
  unfold Builtin.bitOr Builtin.bitAnd
  rw [h1, h2]
  dsimp only
  rw [not_not', not_not', not_not']
  rfl
theorem or_split {a b : Int} (ha : 0 ≤ a) (h0 : 0 ≤ b) (h1 : b < 256) : Builtin.bitOr (a * 256) b = a * 256 + b := by
  obtain ⟨x, rfl⟩ := Int.eq_ofNat_of_zero_le ha
  obtain ⟨y, rfl⟩ := Int.eq_ofNat_of_zero_le h0
  have hx : ((x : Int) * 256) = ((x * 256 : Nat) : Int) := by omega
  rw [hx, bitOr_nat]
  have h2 : y < 2 ^ 8 := by omega
  have := Nat.two_pow_add_eq_or_of_lt h2 x
  rw [show x * 256 = 2 ^ 8 * x by omega, ← this]
  omega
theorem m_and8 (h : Q (.int (a % 256) s.toks) { s with toks := s.toks + 1 }) : wpAny (model prog w) A (binaryOp .BitAnd (.int a t) (.int 255 u)) Q E s :=
  and_int (by rw [show (255 : Int) = 2 ^ 8 - 1 by decide, kbt_mask]; exact h)
theorem m_and16 (h : Q (.int (a % 65536) s.toks) { s with toks := s.toks + 1 }) : wpAny (model prog w) A (binaryOp .BitAnd (.int a t) (.int 65535 u)) Q E s :=
  and_int (by rw [show (65535 : Int) = 2 ^ 16 - 1 by decide, kbt_mask]; exact h)
theorem m_shr8 (h : Q (.int (a / 256) s.toks) { s with toks := s.toks + 1 }) : wpAny (model prog w) A (binaryOp .RShift (.int a t) (.int 8 u)) Q E s :=
  rshift_int (by decide) (by rw [Int.fdiv_eq_ediv_of_nonneg _ (by decide)]; exact h)
theorem m_shr16 (h : Q (.int (a / 65536) s.toks) { s with toks := s.toks + 1 }) : wpAny (model prog w) A (binaryOp .RShift (.int a t) (.int 16 u)) Q E s :=
  rshift_int (by decide) (by rw [Int.fdiv_eq_ediv_of_nonneg _ (by decide)]; exact h)
theorem m_shl8 (h0 : 0 ≤ a) (h1 : a < 256) (h : Q (.int (a * 256) s.toks) { s with toks := s.toks + 1 }) : wpAny (model prog w) A (binaryOp .LShift (.int a t) (.int 8 u)) Q E s :=
  lshift_int_small (by decide) (by decide) (by omega) h
theorem m_or8 (ha : 0 ≤ a) (h0 : 0 ≤ b) (h1 : b < 256) (h : Q (.int (a * 256 + b) s.toks) { s with toks := s.toks + 1 }) : wpAny (model prog w) A (binaryOp .BitOr (.int (a * 256) t) (.int b u)) Q E s :=
  or_int (by rw [or_split ha h0 h1]; exact h)
end
section
variable {prog : Program} {w : World} {A : Around} {E : Value → Shared → Prop} {env : Env} {test : PySem.Expr} {body orelse : List Stmt} {Q : Flow → Shared → Prop} {pos : Pos}
theorem while_inv {α : Type} (hE : PassesOwn (model prog w) A env E) (St : α → Shared → Prop) (meas : α → Nat)
    (turn : ∀ a s, St a s → wpAny (model prog w) A (isTrue test env (eval test env)) (fun b s₂ => if b = true then wpAny (model prog w) A (execs body env) (fun f s₃ => match f with
      | .next => ∃ a', meas a' < meas a ∧ St a' s₃
      | .cont => ∃ a', meas a' < meas a ∧ St a' s₃
      | .brk => Q .next s₃
      | .ret v => Q (.ret v) s₃) E s₂ else wpAny (model prog w) A (execs orelse env) Q E s₂) E s) (a : α) (s : Shared) (h : St a s) :
    wpAny (model prog w) A (exec (.While test body orelse pos) env) Q E s := by
  refine whl_start 0 ?_
  have main : ∀ N a s, meas a < N → St a s → WhlRest prog w A E env test body orelse Q 0 s := by
    intro N
    induction N with
    | zero => intro a s hm; exact absurd hm (Nat.not_lt_zero _)
    | succ N ih =>
      intro a s hm hs
      show WhlRest prog w A E env test body orelse Q (0 + 1) s
      refine whl_turn hE (wpAny_mono (turn a s hs) (fun b s₂ h₂ => ?_) fun _ _ e => e)
      cases b with
      | false => exact WhlIf.no rfl (by simpa using h₂)
      | true =>
        refine WhlIf.yes rfl (wpAny_mono (by simpa using h₂) (fun f s₃ h₃ => ?_) fun _ _ e => e)
        cases f with
        | ret v => exact h₃
        | brk => exact h₃
        | next => obtain ⟨a', hm', hs'⟩ := h₃; exact ih a' s₃ (by omega) hs'
        | cont => obtain ⟨a', hm', hs'⟩ := h₃; exact ih a' s₃ (by omega) hs'
  exact main (meas a + 1) a s (Nat.lt_succ_self _) h
end
section
variable {prog : Program} {w : World} {A : Around} {E : Value → Shared → Prop} {s : Shared} {env : Env} {test : PySem.Expr} {body orelse : List Stmt} {Q : Flow → Shared → Prop} {pos : Pos} {g : Heap} {m₀ : Str → Option Value} {news : List (Addr × Obj)}
def WTurn (g : Heap) (L : Addr) (x : Str) (m₀ : Str → Option Value) (news : List (Addr × Obj)) (I : Int → Prop) (s : Shared) (z : Int) (Q : Flow → Shared → Prop) (f : Flow) (s₃ : Shared) : Prop :=
  match f with
  | .ret v => Q (.ret v) s₃
  | .brk => Q .next s₃
  | _ => ∃ z' h' tk' m' t', s₃ = { s with heap := h', toks := tk' } ∧ z'.toNat < z.toNat ∧ I z' ∧ Fr g L h' m' ∧ m' x = some (.int z' t') ∧ Keep [x] m₀ m' ∧ News g L h' news
theorem while_one {x : Str} {z₀ : Int} {t₀ : Tok} (hE : PassesOwn (model prog w) A env E) (I : Int → Prop) (F : Fr g env.locals s.heap m₀) (hx : m₀ x = some (.int z₀ t₀)) (N : News g env.locals s.heap news) (h0 : I z₀)
    (turn : ∀ z h tk t, I z → Fr g env.locals h (fun y => if y = x then some (.int z t) else m₀ y) → News g env.locals h news →
      wpAny (model prog w) A (isTrue test env (eval test env)) (fun b s₂ => if b = true then wpAny (model prog w) A (execs body env) (WTurn g env.locals x m₀ news I s z Q) E s₂ else wpAny (model prog w) A (execs orelse env) Q E s₂) E { s with heap := h, toks := tk }) :
    wpAny (model prog w) A (exec (.While test body orelse pos) env) Q E s := by
  have same : ∀ (m' : Str → Option Value) z' t', m' x = some (.int z' t') → Keep [x] m₀ m' → m' = fun y => if y = x then some (.int z' t') else m₀ y := by
    intro m' z' t' h1 h2
    funext y
    by_cases hy : y = x
    · rw [if_pos hy, hy, h1]
    · rw [if_neg hy]; exact h2 y (by simpa using hy)
  refine while_inv hE (fun z s' => I z ∧ ∃ h tk t, s' = { s with heap := h, toks := tk } ∧ Fr g env.locals h (fun y => if y = x then some (.int z t) else m₀ y) ∧ News g env.locals h news) Int.toNat ?_ z₀ s ⟨h0, s.heap, s.toks, t₀, rfl, ?_, N⟩
  · rintro z s' ⟨hI, h, tk, t, rfl, F₁, N₁⟩
    refine wpAny_mono (turn z h tk t hI F₁ N₁) (fun b s₂ h₂ => ?_) fun _ _ e => e
    cases b with
    | false => simpa using h₂
    | true =>
      simp only [if_true] at h₂ ⊢
      have fin : ∀ s₃, WTurn g env.locals x m₀ news I s z Q .next s₃ → ∃ a', a'.toNat < z.toNat ∧ I a' ∧ ∃ h tk t, s₃ = { s with heap := h, toks := tk } ∧ Fr g env.locals h (fun y => if y = x then some (.int a' t) else m₀ y) ∧ News g env.locals h news := by
        rintro s₃ ⟨z', h', tk', m', t', e, hm, hI', F', hx', hK, N'⟩
        exact ⟨z', hm, hI', h', tk', t', e, same m' z' t' hx' hK ▸ F', N'⟩
      refine wpAny_mono h₂ (fun f s₃ h₃ => ?_) fun _ _ e => e
      cases f with
      | ret v => exact h₃
      | brk => exact h₃
      | next => exact fin s₃ h₃
      | cont => exact fin s₃ h₃
  · rw [← same m₀ z₀ t₀ hx fun _ _ => rfl]; exact F
end
--M<
local macro_rules | `(tactic| walk_at "exec While") => `(tactic| refine stop_mk ?_)
--M>
/-- The sum folded into sixteen bits. -/
def foldI (n : Int) : Int := if n = 0 then 0 else (n - 1) % 65535 + 1
theorem foldI_small {n : Int} (h0 : 0 ≤ n) (h1 : n ≤ 65535) : foldI n = n := by unfold foldI; split <;> omega
theorem foldI_step {n : Int} (h0 : 65535 < n) : foldI (n % 65536 + n / 65536) = foldI n := by unfold foldI; split <;> split <;> omega
section
variable {prog : Program} {w : World} {p : Program} {loose : List Str} {mean : ExcName → Option Value} {mg mb : Str → Option Value}
  {dp un : Nat} {gd : Option (List Code)} {cn : Str} {cs : Scope} {fa : Addr} {ccd : Value} {cl : List (Str × Addr)} {outer : List Env} {A₀ : Around} {base h₀ : Heap} {L : Addr} {m : Str → Option Value} {s : Shared} {Q E : Value → Shared → Prop}
  {news : List (Addr × Obj)}

set_option maxHeartbeats 4000000 in
theorem fold_spec {n : Int} {t : Tok} (C : Cx w p loose mean mg mb A₀ base h₀ outer L s.heap m news) (R : Rm cs dp un 1) (h0 : 0 ≤ n)
  (hret : ∀ t h' tk', Fr h₀ L h' m → News h₀ L h' news → Q (.int (foldI n) t) { s with heap := h', toks := tk' }) :
  wpAny (model prog w) (ktrTop dp un gd cn cs L fa ccd cl outer) (call (.ref 265) [.int n t]) Q E s := by
  have C' := C
  obtain ⟨B, F, X, N, T⟩ := C'
  have hRd := R.hd
  have hRu := R.hu
  k_dflt (refine' enterK (binds := [(Str.ofString "total", .int n t)]) C R ?k6 ?k7 ?k9 ?kB ?_ ?c2 ?c3 ?c4 ?c5; (((case k6 => k_is); (case k7 => k_is); (case k9 => exact BindsTo.of_eq rfl); (case c5 => decide); (case kB => exact locs rfl); (case c2 => exact rfl); (case c3 => exact rfl); (case c4 => exact rfl); k_whole; intro g' L' h' FG' F' N' B' X' T'; (try dsimp only); (try k_fold))))
  (repeat' (first | (k_unfold; (try dsimp only)) | (k_end; wrow_close) | (with_reducible (k_here; (with_reducible show wpAny _ _ (call (Value.type "bytes") [Value.ref _]) _ _ _); k_dflt (refine' KBa.make_K ?kbaF ?kbaN ?kbah ?kbal ?kbai ?kbar ?kban ?_; (case kbaF => k_asm); (case kbaN => k_asm); (case kbah => rfl); (case kbal => kba_isList); (case kbai => kba_listInts); (case kbar => ((intro kykyn9 kykyhn9; (simp only [List.mem_cons, List.not_mem_nil, or_false] at kykyhn9); omega))); (case kban => kba_size)); intro _ _ _ kyF' kyN' kykbaIn; (have kbaS := KBa.sum_in kykbaIn))) | ((with_reducible show wpAny _ _ (binaryOp PySem.Operator.RShift (Value.int _ _) (Value.int _ _)) _ _ _); with_reducible with_reducible (first | refine m_shr8 ?_ | refine m_shr16 ?_)) | ((with_reducible show wpAny _ _ (binaryOp PySem.Operator.BitAnd (Value.int _ _) (Value.int _ _)) _ _ _); with_reducible with_reducible (first | refine m_and8 ?_ | refine m_and16 ?_)) | walk1 | (dsimp only; walk1) | (leave1; try dsimp only)))
  unfold Stop
  refine while_one (x := Str.ofString "total") (by passes_own) (fun z => 0 ≤ z ∧ foldI z = foldI n) (by k_asm) rfl (by k_asm) ⟨h0, rfl⟩ ?_
  · rintro z h tk t ⟨hz, hf⟩ F₁ N₁
    (try k_fold)
    (repeat' (first | (k_unfold; (try dsimp only)) | (k_end; wrow_close) | (with_reducible (k_here; (with_reducible show wpAny _ _ (call (Value.type "bytes") [Value.ref _]) _ _ _); k_dflt (refine' KBa.make_K ?kbaF ?kbaN ?kbah ?kbal ?kbai ?kbar ?kban ?_; (case kbaF => k_asm); (case kbaN => k_asm); (case kbah => rfl); (case kbal => kba_isList); (case kbai => kba_listInts); (case kbar => ((intro kykyn9 kykyhn9; (simp only [List.mem_cons, List.not_mem_nil, or_false] at kykyhn9); omega))); (case kban => kba_size)); intro _ _ _ kyF' kyN' kykbaIn; (have kbaS := KBa.sum_in kykbaIn))) | ((with_reducible show wpAny _ _ (binaryOp PySem.Operator.RShift (Value.int _ _) (Value.int _ _)) _ _ _); with_reducible with_reducible (first | refine m_shr8 ?_ | refine m_shr16 ?_)) | ((with_reducible show wpAny _ _ (binaryOp PySem.Operator.BitAnd (Value.int _ _) (Value.int _ _)) _ _ _); with_reducible with_reducible (first | refine m_and8 ?_ | refine m_and16 ?_)) | walk1 | (dsimp only; walk1) | (leave1; try dsimp only)))
    · exact ⟨_, _, _, _, _, rfl, (by omega), ⟨(by omega), (foldI_step (by omega)).trans hf⟩, (by k_asm), rfl, (by ((intro kyy kyhy; simp only [List.contains_cons, List.contains_nil, Bool.or_false, Bool.or_eq_false_iff, beq_eq_false_iff_ne, ne_eq] at kyhy; simp [kyhy]))), (by k_asm)⟩
    · rw [foldI_small hz (by omega)] at hf
      rw [hf]
      exact hret _ _ _ (by k_asm) (by k_asm)

set_option maxHeartbeats 4000000 in
theorem put16_spec {n : Int} {t : Tok} (C : Cx w p loose mean mg mb A₀ base h₀ outer L s.heap m news) (R : Rm cs dp un 1)
  (hret : ∀ b t h' tk', KBw.bInts b = [n / 256 % 256, n % 256] → Fr h₀ L h' m → News h₀ L h' news → Q (.bytes b t) { s with heap := h', toks := tk' }) :
  wpAny (model prog w) (ktrTop dp un gd cn cs L fa ccd cl outer) (call (.ref 244) [.int n t]) Q E s := by
  have C' := C
  obtain ⟨B, F, X, N, T⟩ := C'
  have hRd := R.hd
  have hRu := R.hu
  k_dflt (refine' enterK (binds := [(Str.ofString "n", .int n t)]) C R ?k6 ?k7 ?k9 ?kB ?_ ?c2 ?c3 ?c4 ?c5; (((case k6 => k_is); (case k7 => k_is); (case k9 => exact BindsTo.of_eq rfl); (case c5 => decide); (case kB => exact locs rfl); (case c2 => exact rfl); (case c3 => exact rfl); (case c4 => exact rfl); k_whole; intro g' L' h' FG' F' N' B' X' T'; (try dsimp only); (try k_fold))))
  (repeat' (first | (k_unfold; (try dsimp only)) | (k_end; wrow_close) | (with_reducible (k_here; (with_reducible show wpAny _ _ (call (Value.type "bytes") [Value.ref _]) _ _ _); k_dflt (refine' KBa.make_K ?kbaF ?kbaN ?kbah ?kbal ?kbai ?kbar ?kban ?_; (case kbaF => k_asm); (case kbaN => k_asm); (case kbah => rfl); (case kbal => kba_isList); (case kbai => kba_listInts); (case kbar => ((intro kykyn9 kykyhn9; (simp only [List.mem_cons, List.not_mem_nil, or_false] at kykyhn9); omega))); (case kban => kba_size)); intro _ _ _ kyF' kyN' kykbaIn; (have kbaS := KBa.sum_in kykbaIn))) | ((with_reducible show wpAny _ _ (binaryOp PySem.Operator.RShift (Value.int _ _) (Value.int _ _)) _ _ _); with_reducible with_reducible (first | refine m_shr8 ?_ | refine m_shr16 ?_)) | ((with_reducible show wpAny _ _ (binaryOp PySem.Operator.BitAnd (Value.int _ _) (Value.int _ _)) _ _ _); with_reducible with_reducible (first | refine m_and8 ?_ | refine m_and16 ?_)) | walk1 | (dsimp only; walk1) | (leave1; try dsimp only)))
  all_goals exact hret _ _ _ _ (KBa.ints_make (by assumption)) (by k_asm) (by walk_at "news9")
end
--M<
local macro_rules | `(tactic| walk_at "loadName") => `(tactic| (k_here; (with_reducible show wpAny _ _ (loadName (envOf _ _ _ _ _) _) _ _ _); k_dflt (refine' ldn ?k1 ?k2 ?_; (case k1 => k_asm); (case k2 => first | exact rfl | assumption); k_whole)))
--M>
/-- The sum of the words of two octets, the last one padded. -/
def sumBE : List Int → Int
  | [] => 0
  | [a] => a * 256
  | a :: b :: r => a * 256 + b + sumBE r
theorem sumBE_app : ∀ (k : Nat) {xs ys : List Int}, xs.length = 2 * k → sumBE (xs ++ ys) = sumBE xs + sumBE ys
  | 0, xs, ys, h => by
    have : xs = [] := List.length_eq_zero_iff.mp (by omega)
    subst this; simp [sumBE]
  | k + 1, xs, ys, h => by
    match xs, h with
    | a :: b :: r, h =>
      have hr : r.length = 2 * k := by simp only [List.length_cons] at h; omega
      show a * 256 + b + sumBE (r ++ ys) = a * 256 + b + sumBE r + sumBE ys
      rw [sumBE_app k hr]; omega
    | [a], h => exact absurd h (by simp only [List.length_cons, List.length_nil]; omega)
    | [], h => exact absurd h (by simp only [List.length_nil]; omega)
theorem sumBE_step {ks : List Int} {i : Nat} (h : 2 * i + 1 < ks.length) : sumBE (ks.take (2 * (i + 1))) = sumBE (ks.take (2 * i)) + (ks.getD (2 * i) 0 * 256 + ks.getD (2 * i + 1) 0) := by
  have e : ks.take (2 * (i + 1)) = ks.take (2 * i) ++ [ks[2 * i], ks[2 * i + 1]] := by
    rw [show 2 * (i + 1) = 2 * i + 1 + 1 by omega, List.take_add_one, List.take_add_one, List.getElem?_eq_getElem (by omega : 2 * i + 1 < ks.length), List.getElem?_eq_getElem (by omega : 2 * i < ks.length)]
    simp only [Option.toList_some, List.append_assoc, List.cons_append, List.nil_append]
  rw [e, sumBE_app i (by rw [List.length_take]; omega)]
  simp only [sumBE, List.getD_eq_getElem?_getD]
  rw [List.getElem?_eq_getElem (by omega : 2 * i + 1 < ks.length), List.getElem?_eq_getElem (by omega : 2 * i < ks.length)]
  simp
theorem sumBE_last {ks : List Int} {i : Nat} (h : ks.length = 2 * i + 1) : sumBE ks = sumBE (ks.take (2 * i)) + ks.getD (2 * i) 0 * 256 := by
  have e : ks = ks.take (2 * i) ++ [ks[2 * i]] := by
    conv => lhs; rw [← List.take_length (l := ks), h, List.take_add_one, List.getElem?_eq_getElem (by omega : 2 * i < ks.length)]
    simp
  rw [List.getD_eq_getElem?_getD, List.getElem?_eq_getElem (by omega : 2 * i < ks.length)]
  conv => lhs; rw [e]
  rw [sumBE_app i (by rw [List.length_take]; omega)]
  simp [sumBE]
theorem sumBE_nn : ∀ {ks : List Int}, (∀ k ∈ ks, 0 ≤ k ∧ k < 256) → 0 ≤ sumBE ks
  | [], _ => Int.le_refl _
  | [a], h => by have := h a (by simp); simp only [sumBE]; omega
  | a :: b :: r, h => by
    have h1 := h a (by simp)
    have h2 := h b (by simp)
    have h3 := sumBE_nn (ks := r) fun k hk => h k (by simp [hk])
    simp only [sumBE]; omega
theorem small_two {a b : Int} (ha : -(2 ^ 61) ≤ a) (ha' : a < 2 ^ 61) (hb : -(2 ^ 61) ≤ b) (hb' : b < 2 ^ 61) : Builtin.Range.small a b 2 = true := by
  unfold Builtin.Range.small Builtin.Range.rangeSize
  simp only [Builtin.Range.rangeFitsLong, Bool.and_eq_true, Bool.or_eq_true, decide_eq_true_eq, beq_iff_eq, show (2 : Int) > 0 by decide, if_true]
  split <;> omega
section
variable {prog : Program} {w : World} {p : Program} {loose : List Str} {mean : ExcName → Option Value} {mg mb : Str → Option Value}
  {dp un : Nat} {gd : Option (List Code)} {cn : Str} {cs : Scope} {fa : Addr} {ccd : Value} {cl : List (Str × Addr)} {outer : List Env} {A₀ : Around} {base h₀ : Heap} {L : Addr} {m : Str → Option Value} {s : Shared} {Q E : Value → Shared → Prop}
  {news : List (Addr × Obj)}

set_option maxHeartbeats 4000000 in
theorem need_spec {b : Array UInt8} {ks : List Int} {a z : Int} {t t2 t3 : Tok} (C : Cx w p loose mean mg mb A₀ base h₀ outer L s.heap m news) (R : Rm cs dp un 1) (hk : KBw.bInts b = ks) (hlen : ks.length ≤ 100000) (h0 : 0 ≤ a) (h1 : a + z ≤ ks.length)
  (hret : ∀ h' tk', Fr h₀ L h' m → News h₀ L h' news → Q .none { s with heap := h', toks := tk' }) :
  wpAny (model prog w) (ktrTop dp un gd cn cs L fa ccd cl outer) (call (.ref 251) [.bytes b t, .int a t2, .int z t3]) Q E s := by
  have C' := C
  obtain ⟨B, F, X, N, T⟩ := C'
  have hRd := R.hd
  have hRu := R.hu
  k_dflt (refine' enterK (binds := [(Str.ofString "octets", .bytes b t), (Str.ofString "at", .int a t2), (Str.ofString "size", .int z t3)]) C R ?k6 ?k7 ?k9 ?kB ?_ ?c2 ?c3 ?c4 ?c5; (((case k6 => k_is); (case k7 => k_is); (case k9 => exact BindsTo.of_eq rfl); (case c5 => decide); (case kB => exact locs rfl); (case c2 => exact rfl); (case c3 => exact rfl); (case c4 => exact rfl); k_whole; intro g' L' h' FG' F' N' B' X' T'; (try dsimp only); (try k_fold))))
  (repeat' (first | (k_unfold; (try dsimp only)) | (k_end; wrow_close) | (with_reducible ((with_reducible show wpAny _ _ (pyIter (Value.ref _)) (fun it s₂ => LoopAtV _ _ _ _ _ _ _ _ _ it s₂) _ _); refine stop_mk ?_)) | (with_reducible (k_here; (with_reducible show wpAny _ _ (PySem.call (Value.ref 265) _ _) _ _ _); k_dflt (refine' fold_spec ?c1 ?c2 ?c3 ?_; (case c1 => walk_at "cx9"); (case c2 => walk_at "rm9"); (case c3 => first | assumption | omega)); intro kyt' kyh' kytk' kyF' kyN'; (try k_fold))) | ((with_reducible show wpAny _ _ (binaryOp PySem.Operator.BitOr (Value.int _ _) (Value.int _ _)) _ _ _); with_reducible (with_reducible refine m_or8 ?h1 ?h2 ?h3 ?_; (case h1 => omega); (case h2 => omega); (case h3 => omega))) | ((with_reducible show wpAny _ _ (binaryOp PySem.Operator.LShift (Value.int _ _) (Value.int _ _)) _ _ _); with_reducible (with_reducible refine m_shl8 ?h1 ?h2 ?_; (case h1 => omega); (case h2 => omega))) | ((with_reducible show wpAny _ _ (exec (PySem.Stmt.For (PySem.Expr.Name _ _) _ _ _ _) _) _ _ _); with_reducible (k_here; (rename Fr _ _ _ _ => lF'); (with_unfolding_all refine' For_invVF lF' ?k1 ?k2 ?_; (case k1 => exact rfl); (case k2 => exact rfl); k_whole))) | ((with_reducible show wpAny _ _ (binaryOp PySem.Operator.Mod (Value.int _ _) (Value.int _ _)) _ _ _); with_reducible (with_reducible refine m_mod ?hb9 ?_; (case hb9 => omega))) | walk1 | (dsimp only; walk1) | (leave1; try dsimp only)))
  all_goals exact hret _ _ (by k_asm) (by k_asm)

set_option maxHeartbeats 4000000 in
theorem osum_spec {b : Array UInt8} {ks : List Int} {a : Int} {t t2 : Tok} (C : Cx w p loose mean mg mb A₀ base h₀ outer L s.heap m news) (R : Rm cs dp un 2) (hk : KBw.bInts b = ks) (hlen : ks.length ≤ 100000) (h0 : 0 ≤ a)
  (hret : ∀ t h' tk', Fr h₀ L h' m → News h₀ L h' news → Q (.int (foldI (a + sumBE ks)) t) { s with heap := h', toks := tk' }) :
  wpAny (model prog w) (ktrTop dp un gd cn cs L fa ccd cl outer) (call (.ref 273) [.bytes b t, .int a t2]) Q E s := by
  have C' := C
  obtain ⟨B, F, X, N, T⟩ := C'
  have hRd := R.hd
  have hRu := R.hu
  have hin : ∀ k ∈ ks, 0 ≤ k ∧ k < 256 := fun k hk' => KBw.ints_in (hk ▸ hk')
  have hnn := sumBE_nn hin
  k_dflt (refine' enterK (binds := [(Str.ofString "octets", .bytes b t), (Str.ofString "begin", .int a t2)]) C R ?k6 ?k7 ?k9 ?kB ?_ ?c2 ?c3 ?c4 ?c5; (((case k6 => k_is); (case k7 => k_is); (case k9 => exact binds_K (by k_in) rfl (by k_is) rfl rfl rfl); (case c5 => decide); (case kB => exact locs rfl); (case c2 => exact rfl); (case c3 => exact rfl); (case c4 => exact rfl); k_whole; intro g' L' h' FG' F' N' B' X' T'; (try dsimp only); (try k_fold))))
  (repeat' (first | (k_unfold; (try dsimp only)) | (k_end; wrow_close) | (with_reducible ((with_reducible show wpAny _ _ (pyIter (Value.ref _)) (fun it s₂ => LoopAtV _ _ _ _ _ _ _ _ _ it s₂) _ _); refine stop_mk ?_)) | (with_reducible (k_here; (with_reducible show wpAny _ _ (PySem.call (Value.ref 265) _ _) _ _ _); k_dflt (refine' fold_spec ?c1 ?c2 ?c3 ?_; (case c1 => walk_at "cx9"); (case c2 => walk_at "rm9"); (case c3 => first | assumption | omega)); intro kyt' kyh' kytk' kyF' kyN'; (try k_fold))) | ((with_reducible show wpAny _ _ (binaryOp PySem.Operator.BitOr (Value.int _ _) (Value.int _ _)) _ _ _); with_reducible (with_reducible refine m_or8 ?h1 ?h2 ?h3 ?_; (case h1 => omega); (case h2 => omega); (case h3 => omega))) | ((with_reducible show wpAny _ _ (binaryOp PySem.Operator.LShift (Value.int _ _) (Value.int _ _)) _ _ _); with_reducible (with_reducible refine m_shl8 ?h1 ?h2 ?_; (case h1 => omega); (case h2 => omega))) | ((with_reducible show wpAny _ _ (exec (PySem.Stmt.For (PySem.Expr.Name _ _) _ _ _ _) _) _ _ _); with_reducible (k_here; (rename Fr _ _ _ _ => lF'); (with_unfolding_all refine' For_invVF lF' ?k1 ?k2 ?_; (case k1 => exact rfl); (case k2 => exact rfl); k_whole))) | ((with_reducible show wpAny _ _ (binaryOp PySem.Operator.Mod (Value.int _ _) (Value.int _ _)) _ _ _); with_reducible (with_reducible refine m_mod ?hb9 ?_; (case hb9 => omega))) | walk1 | (dsimp only; walk1) | (leave1; try dsimp only)))
  unfold Stop
  refine range_loop [Str.ofString "at", Str.ofString "total"] (fun i m₁ T => T = news ∧ ∃ tt, m₁ (Str.ofString "total") = some (.int (a + sumBE (ks.take (2 * i))) tt)) (n := ks.length / 2) rfl (by assumption) (small_two (by omega) (by omega) (by omega) (by omega)) ?rs (by k_asm) (by k_asm) ⟨rfl, _, (by simp only [Nat.mul_zero, List.take_zero, sumBE, Int.add_zero]; rfl)⟩ ?_ ?_
  case rs => simp only [Builtin.Range.rangeSize]; split <;> split <;> omega
  · rintro i t m₁ T h tk I oI hi ⟨rfl, tt, htt⟩ hoff F₁ N₁
    have hst := sumBE_step (ks := ks) (i := i) (by omega)
    have hi2 : 2 * i + 1 < ks.length := by omega
    (try k_fold)
    (repeat' (first | (k_unfold; (try dsimp only)) | (k_end; wrow_close) | (with_reducible ((with_reducible show wpAny _ _ (pyIter (Value.ref _)) (fun it s₂ => LoopAtV _ _ _ _ _ _ _ _ _ it s₂) _ _); refine stop_mk ?_)) | (with_reducible (k_here; (with_reducible show wpAny _ _ (PySem.call (Value.ref 265) _ _) _ _ _); k_dflt (refine' fold_spec ?c1 ?c2 ?c3 ?_; (case c1 => walk_at "cx9"); (case c2 => walk_at "rm9"); (case c3 => first | assumption | omega)); intro kyt' kyh' kytk' kyF' kyN'; (try k_fold))) | ((with_reducible show wpAny _ _ (binaryOp PySem.Operator.BitOr (Value.int _ _) (Value.int _ _)) _ _ _); with_reducible (with_reducible refine m_or8 ?h1 ?h2 ?h3 ?_; (case h1 => omega); (case h2 => omega); (case h3 => omega))) | ((with_reducible show wpAny _ _ (binaryOp PySem.Operator.LShift (Value.int _ _) (Value.int _ _)) _ _ _); with_reducible (with_reducible refine m_shl8 ?h1 ?h2 ?_; (case h1 => omega); (case h2 => omega))) | ((with_reducible show wpAny _ _ (exec (PySem.Stmt.For (PySem.Expr.Name _ _) _ _ _ _) _) _ _ _); with_reducible (k_here; (rename Fr _ _ _ _ => lF'); (with_unfolding_all refine' For_invVF lF' ?k1 ?k2 ?_; (case k1 => exact rfl); (case k2 => exact rfl); k_whole))) | ((with_reducible show wpAny _ _ (binaryOp PySem.Operator.Mod (Value.int _ _) (Value.int _ _)) _ _ _); with_reducible (with_reducible refine m_mod ?hb9 ?_; (case hb9 => omega))) | walk1 | (dsimp only; walk1) | (leave1; try dsimp only)))
    refine turnG_next T (by k_asm) (by walk_at "news9") hoff ⟨by ((intro kyy kyhy; simp only [List.contains_cons, List.contains_nil, Bool.or_false, Bool.or_eq_false_iff, beq_eq_false_iff_ne, ne_eq] at kyhy; simp [kyhy])), rfl, ?tk9, ?e9⟩
    case e9 =>
      rw [hst]
      refine congrArg (fun z => some (Value.int z _)) ?_
      rw [show (0 + (i : Int) * 2).toNat = 2 * i by omega, show (0 + (i : Int) * 2 + 1).toNat = 2 * i + 1 by omega]
      omega
  · rintro m₁ T h tk hK ⟨rfl, tt, htt⟩ F₁ N₁
    have hn2 := sumBE_nn (ks := ks.take (2 * (ks.length / 2))) (fun k hk => hin k (List.mem_of_mem_take hk))
    (try k_fold)
    (repeat' (first | (k_unfold; (try dsimp only)) | (k_end; wrow_close) | (with_reducible ((with_reducible show wpAny _ _ (pyIter (Value.ref _)) (fun it s₂ => LoopAtV _ _ _ _ _ _ _ _ _ it s₂) _ _); refine stop_mk ?_)) | (with_reducible (k_here; (with_reducible show wpAny _ _ (PySem.call (Value.ref 265) _ _) _ _ _); k_dflt (refine' fold_spec ?c1 ?c2 ?c3 ?_; (case c1 => walk_at "cx9"); (case c2 => walk_at "rm9"); (case c3 => first | assumption | omega)); intro kyt' kyh' kytk' kyF' kyN'; (try k_fold))) | ((with_reducible show wpAny _ _ (binaryOp PySem.Operator.BitOr (Value.int _ _) (Value.int _ _)) _ _ _); with_reducible (with_reducible refine m_or8 ?h1 ?h2 ?h3 ?_; (case h1 => omega); (case h2 => omega); (case h3 => omega))) | ((with_reducible show wpAny _ _ (binaryOp PySem.Operator.LShift (Value.int _ _) (Value.int _ _)) _ _ _); with_reducible (with_reducible refine m_shl8 ?h1 ?h2 ?_; (case h1 => omega); (case h2 => omega))) | ((with_reducible show wpAny _ _ (exec (PySem.Stmt.For (PySem.Expr.Name _ _) _ _ _ _) _) _ _ _); with_reducible (k_here; (rename Fr _ _ _ _ => lF'); (with_unfolding_all refine' For_invVF lF' ?k1 ?k2 ?_; (case k1 => exact rfl); (case k2 => exact rfl); k_whole))) | ((with_reducible show wpAny _ _ (binaryOp PySem.Operator.Mod (Value.int _ _) (Value.int _ _)) _ _ _); with_reducible (with_reducible refine m_mod ?hb9 ?_; (case hb9 => omega))) | walk1 | (dsimp only; walk1) | (leave1; try dsimp only)))
    · have e : sumBE ks = sumBE (ks.take (2 * (ks.length / 2))) + ks.getD (2 * (ks.length / 2)) 0 * 256 := sumBE_last (by omega)
      refine cb_retI hret ?_ (by k_asm) (by k_asm)
      rw [e, show ((ks.length : Int) - (ks.length : Int) % 2).toNat = 2 * (ks.length / 2) by omega, Int.add_assoc]
    · have e : ks.take (2 * (ks.length / 2)) = ks := List.take_of_length_le (by omega)
      refine cb_retI hret ?_ (by k_asm) (by k_asm)
      rw [e]
end
--M<
--M>
def psI (x y z : Int) : Int := foldI (x / 65536 + x % 65536 + (y / 65536 + y % 65536) + 17 + z / 65536 + z % 65536)
theorem half_nn {x : Int} (h : 0 ≤ x) : 0 ≤ x / 65536 + x % 65536 := Int.add_nonneg (Int.ediv_nonneg h (by decide)) (Int.emod_nonneg x (by decide))
theorem psArg_nn {x y z : Int} (hx : 0 ≤ x) (hy : 0 ≤ y) (hz : 0 ≤ z) : 0 ≤ x / 65536 + x % 65536 + (y / 65536 + y % 65536) + 17 + z / 65536 + z % 65536 := by
  have a := half_nn hx
  have b := half_nn hy
  have c := half_nn hz
  rw [Int.add_assoc (_ + 17)]
  exact Int.add_nonneg (Int.add_nonneg (Int.add_nonneg a b) (by decide)) c
theorem foldI_nn {n : Int} (h : 0 ≤ n) : 0 ≤ foldI n ∧ foldI n ≤ 65535 := by unfold foldI; split <;> omega
theorem psI_nn {x y z : Int} (hx : 0 ≤ x) (hy : 0 ≤ y) (hz : 0 ≤ z) : 0 ≤ psI x y z := (foldI_nn (psArg_nn hx hy hz)).1
theorem nn8 {n : Nat} : (0 : Int) ≤ 8 + (n : Int) := Int.add_nonneg (by decide) (Int.natCast_nonneg n)
section
variable {prog : Program} {w : World} {p : Program} {loose : List Str} {mean : ExcName → Option Value} {mg mb : Str → Option Value}
  {dp un : Nat} {gd : Option (List Code)} {cn : Str} {cs : Scope} {fa : Addr} {ccd : Value} {cl : List (Str × Addr)} {outer : List Env} {A₀ : Around} {base h₀ : Heap} {L : Addr} {m : Str → Option Value} {s : Shared} {Q E : Value → Shared → Prop}
  {news : List (Addr × Obj)}

set_option maxHeartbeats 4000000 in
theorem get16_spec {b : Array UInt8} {ks : List Int} {a : Int} {t t2 : Tok} (C : Cx w p loose mean mg mb A₀ base h₀ outer L s.heap m news) (R : Rm cs dp un 2) (hk : KBw.bInts b = ks) (hlen : ks.length ≤ 100000) (h0 : 0 ≤ a) (h1 : a + 2 ≤ ks.length)
  (hret : ∀ t h' tk', Fr h₀ L h' m → News h₀ L h' news → Q (.int (ks.getD a.toNat 0 * 256 + ks.getD (a + 1).toNat 0) t) { s with heap := h', toks := tk' }) :
  wpAny (model prog w) (ktrTop dp un gd cn cs L fa ccd cl outer) (call (.ref 258) [.bytes b t, .int a t2]) Q E s := by
  have C' := C
  obtain ⟨B, F, X, N, T⟩ := C'
  have hRd := R.hd
  have hRu := R.hu
  k_dflt (refine' enterK (binds := [(Str.ofString "octets", .bytes b t), (Str.ofString "at", .int a t2)]) C R ?k6 ?k7 ?k9 ?kB ?_ ?c2 ?c3 ?c4 ?c5; (((case k6 => k_is); (case k7 => k_is); (case k9 => exact BindsTo.of_eq rfl); (case c5 => decide); (case kB => exact locs rfl); (case c2 => exact rfl); (case c3 => exact rfl); (case c4 => exact rfl); k_whole; intro g' L' h' FG' F' N' B' X' T'; (try dsimp only); (try k_fold))))
  (repeat' (first | (k_unfold; (try dsimp only)) | (k_end; wrow_close) | (with_reducible (k_here; (with_reducible show wpAny _ _ (PySem.call (Value.ref 273) _ _) _ _ _); k_dflt (refine' osum_spec ?c1 ?c2 ?c3 ?c4 ?c5 ?_; (case c1 => walk_at "cx9"); (case c2 => walk_at "rm9"); (case c3 => with_reducible assumption); (case c4 => first | assumption | omega); (case c5 => first | assumption | omega)); intro kyt' kyh' kytk' kyF' kyN'; (try k_fold))) | (with_reducible (k_here; (with_reducible show wpAny _ _ (PySem.call (Value.ref 251) _ _) _ _ _); k_dflt (refine' need_spec ?c1 ?c2 ?c3 ?c4 ?c5 ?c6 ?_; (case c1 => walk_at "cx9"); (case c2 => walk_at "rm9"); (case c3 => with_reducible assumption); (case c4 => first | assumption | omega); (case c5 => first | assumption | omega); (case c6 => first | assumption | omega)); intro kyh' kytk' kyF' kyN'; (try k_fold))) | (with_reducible (k_here; (with_reducible show wpAny _ _ (PySem.call (Value.ref 265) _ _) _ _ _); k_dflt (refine' fold_spec ?c1 ?c2 ?c3 ?_; (case c1 => walk_at "cx9"); (case c2 => walk_at "rm9"); (case c3 => first | assumption | omega)); intro kyt' kyh' kytk' kyF' kyN'; (try k_fold))) | ((with_reducible show wpAny _ _ (binaryOp PySem.Operator.BitOr (Value.int _ _) (Value.int _ _)) _ _ _); with_reducible (with_reducible refine m_or8 ?h1 ?h2 ?h3 ?_; (case h1 => omega); (case h2 => omega); (case h3 => omega))) | ((with_reducible show wpAny _ _ (binaryOp PySem.Operator.LShift (Value.int _ _) (Value.int _ _)) _ _ _); with_reducible (with_reducible refine m_shl8 ?h1 ?h2 ?_; (case h1 => omega); (case h2 => omega))) | ((with_reducible show wpAny _ _ (binaryOp PySem.Operator.RShift (Value.int _ _) (Value.int _ _)) _ _ _); with_reducible with_reducible (first | refine m_shr8 ?_ | refine m_shr16 ?_)) | ((with_reducible show wpAny _ _ (binaryOp PySem.Operator.BitAnd (Value.int _ _) (Value.int _ _)) _ _ _); with_reducible with_reducible (first | refine m_and8 ?_ | refine m_and16 ?_)) | walk1 | (dsimp only; walk1) | (leave1; try dsimp only)))
  all_goals exact hret _ _ _ (by k_asm) (by k_asm)

set_option maxHeartbeats 4000000 in
theorem check_spec {b : Array UInt8} {ks : List Int} {a : Int} {t t2 : Tok} (C : Cx w p loose mean mg mb A₀ base h₀ outer L s.heap m news) (R : Rm cs dp un 3) (hk : KBw.bInts b = ks) (hlen : ks.length ≤ 100000) (h0 : 0 ≤ a)
  (hret : ∀ t h' tk', Fr h₀ L h' m → News h₀ L h' news → Q (.int (65535 - foldI (a + sumBE ks)) t) { s with heap := h', toks := tk' }) :
  wpAny (model prog w) (ktrTop dp un gd cn cs L fa ccd cl outer) (call (.ref 281) [.bytes b t, .int a t2]) Q E s := by
  have C' := C
  obtain ⟨B, F, X, N, T⟩ := C'
  have hRd := R.hd
  have hRu := R.hu
  k_dflt (refine' enterK (binds := [(Str.ofString "octets", .bytes b t), (Str.ofString "begin", .int a t2)]) C R ?k6 ?k7 ?k9 ?kB ?_ ?c2 ?c3 ?c4 ?c5; (((case k6 => k_is); (case k7 => k_is); (case k9 => exact binds_K (by k_in) rfl (by k_is) rfl rfl rfl); (case c5 => decide); (case kB => exact locs rfl); (case c2 => exact rfl); (case c3 => exact rfl); (case c4 => exact rfl); k_whole; intro g' L' h' FG' F' N' B' X' T'; (try dsimp only); (try k_fold))))
  (repeat' (first | (k_unfold; (try dsimp only)) | (k_end; wrow_close) | (with_reducible (k_here; (with_reducible show wpAny _ _ (PySem.call (Value.ref 273) _ _) _ _ _); k_dflt (refine' osum_spec ?c1 ?c2 ?c3 ?c4 ?c5 ?_; (case c1 => walk_at "cx9"); (case c2 => walk_at "rm9"); (case c3 => with_reducible assumption); (case c4 => first | assumption | omega); (case c5 => first | assumption | omega)); intro kyt' kyh' kytk' kyF' kyN'; (try k_fold))) | (with_reducible (k_here; (with_reducible show wpAny _ _ (PySem.call (Value.ref 251) _ _) _ _ _); k_dflt (refine' need_spec ?c1 ?c2 ?c3 ?c4 ?c5 ?c6 ?_; (case c1 => walk_at "cx9"); (case c2 => walk_at "rm9"); (case c3 => with_reducible assumption); (case c4 => first | assumption | omega); (case c5 => first | assumption | omega); (case c6 => first | assumption | omega)); intro kyh' kytk' kyF' kyN'; (try k_fold))) | (with_reducible (k_here; (with_reducible show wpAny _ _ (PySem.call (Value.ref 265) _ _) _ _ _); k_dflt (refine' fold_spec ?c1 ?c2 ?c3 ?_; (case c1 => walk_at "cx9"); (case c2 => walk_at "rm9"); (case c3 => first | assumption | omega)); intro kyt' kyh' kytk' kyF' kyN'; (try k_fold))) | ((with_reducible show wpAny _ _ (binaryOp PySem.Operator.BitOr (Value.int _ _) (Value.int _ _)) _ _ _); with_reducible (with_reducible refine m_or8 ?h1 ?h2 ?h3 ?_; (case h1 => omega); (case h2 => omega); (case h3 => omega))) | ((with_reducible show wpAny _ _ (binaryOp PySem.Operator.LShift (Value.int _ _) (Value.int _ _)) _ _ _); with_reducible (with_reducible refine m_shl8 ?h1 ?h2 ?_; (case h1 => omega); (case h2 => omega))) | ((with_reducible show wpAny _ _ (binaryOp PySem.Operator.RShift (Value.int _ _) (Value.int _ _)) _ _ _); with_reducible with_reducible (first | refine m_shr8 ?_ | refine m_shr16 ?_)) | ((with_reducible show wpAny _ _ (binaryOp PySem.Operator.BitAnd (Value.int _ _) (Value.int _ _)) _ _ _); with_reducible with_reducible (first | refine m_and8 ?_ | refine m_and16 ?_)) | walk1 | (dsimp only; walk1) | (leave1; try dsimp only)))
  all_goals exact hret _ _ _ (by k_asm) (by k_asm)

set_option maxHeartbeats 4000000 in
theorem pseudo_spec {x y z : Int} {t1 t2 t3 t4 : Tok} (C : Cx w p loose mean mg mb A₀ base h₀ outer L s.heap m news) (R : Rm cs dp un 2) (hx : 0 ≤ x) (hy : 0 ≤ y) (hz : 0 ≤ z)
  (hret : ∀ t h' tk', Fr h₀ L h' m → News h₀ L h' news → Q (.int (psI x y z) t) { s with heap := h', toks := tk' }) :
  wpAny (model prog w) (ktrTop dp un gd cn cs L fa ccd cl outer) (call (.ref 288) [.int x t1, .int y t2, .int 17 t3, .int z t4]) Q E s := by
  have C' := C
  obtain ⟨B, F, X, N, T⟩ := C'
  have hRd := R.hd
  have hRu := R.hu
  k_dflt (refine' enterK (binds := [(Str.ofString "source", .int x t1), (Str.ofString "target", .int y t2), (Str.ofString "protocol", .int 17 t3), (Str.ofString "size", .int z t4)]) C R ?k6 ?k7 ?k9 ?kB ?_ ?c2 ?c3 ?c4 ?c5; (((case k6 => k_is); (case k7 => k_is); (case k9 => exact BindsTo.of_eq rfl); (case c5 => decide); (case kB => exact locs rfl); (case c2 => exact rfl); (case c3 => exact rfl); (case c4 => exact rfl); k_whole; intro g' L' h' FG' F' N' B' X' T'; (try dsimp only); (try k_fold))))
  (repeat' (first | (k_unfold; (try dsimp only)) | (k_end; wrow_close) | (with_reducible (k_here; (with_reducible show wpAny _ _ (PySem.call (Value.ref 273) _ _) _ _ _); k_dflt (refine' osum_spec ?c1 ?c2 ?c3 ?c4 ?c5 ?_; (case c1 => walk_at "cx9"); (case c2 => walk_at "rm9"); (case c3 => with_reducible assumption); (case c4 => first | assumption | omega); (case c5 => first | assumption | omega)); intro kyt' kyh' kytk' kyF' kyN'; (try k_fold))) | (with_reducible (k_here; (with_reducible show wpAny _ _ (PySem.call (Value.ref 251) _ _) _ _ _); k_dflt (refine' need_spec ?c1 ?c2 ?c3 ?c4 ?c5 ?c6 ?_; (case c1 => walk_at "cx9"); (case c2 => walk_at "rm9"); (case c3 => with_reducible assumption); (case c4 => first | assumption | omega); (case c5 => first | assumption | omega); (case c6 => first | assumption | omega)); intro kyh' kytk' kyF' kyN'; (try k_fold))) | (with_reducible (k_here; (with_reducible show wpAny _ _ (PySem.call (Value.ref 265) _ _) _ _ _); k_dflt (refine' fold_spec ?c1 ?c2 ?c3 ?_; (case c1 => walk_at "cx9"); (case c2 => walk_at "rm9"); (case c3 => first | assumption | omega)); intro kyt' kyh' kytk' kyF' kyN'; (try k_fold))) | ((with_reducible show wpAny _ _ (binaryOp PySem.Operator.BitOr (Value.int _ _) (Value.int _ _)) _ _ _); with_reducible (with_reducible refine m_or8 ?h1 ?h2 ?h3 ?_; (case h1 => omega); (case h2 => omega); (case h3 => omega))) | ((with_reducible show wpAny _ _ (binaryOp PySem.Operator.LShift (Value.int _ _) (Value.int _ _)) _ _ _); with_reducible (with_reducible refine m_shl8 ?h1 ?h2 ?_; (case h1 => omega); (case h2 => omega))) | ((with_reducible show wpAny _ _ (binaryOp PySem.Operator.RShift (Value.int _ _) (Value.int _ _)) _ _ _); with_reducible with_reducible (first | refine m_shr8 ?_ | refine m_shr16 ?_)) | ((with_reducible show wpAny _ _ (binaryOp PySem.Operator.BitAnd (Value.int _ _) (Value.int _ _)) _ _ _); with_reducible with_reducible (first | refine m_and8 ?_ | refine m_and16 ?_)) | walk1 | (dsimp only; walk1) | (leave1; try dsimp only)))
  all_goals exact hret _ _ _ (by k_asm) (by k_asm)
end
--M<
--M>
abbrev w16 (n : Int) : List Int := [n / 256 % 256, n % 256]
def chkI (x y sp tp : Int) (ks : List Int) : Int :=
  let c := 65535 - foldI (psI x y (8 + ks.length) + sumBE (w16 sp ++ w16 tp ++ w16 (8 + ks.length) ++ w16 0 ++ ks))
  if c = 0 then 65535 else c
def packF (sp tp c : Int) (ks : List Int) : List Int := w16 sp ++ w16 tp ++ w16 (8 + ks.length) ++ w16 c ++ ks
section
variable {prog : Program} {w : World} {p : Program} {loose : List Str} {mean : ExcName → Option Value} {mg mb : Str → Option Value}
  {dp un : Nat} {gd : Option (List Code)} {cn : Str} {cs : Scope} {fa : Addr} {ccd : Value} {cl : List (Str × Addr)} {outer : List Env} {A₀ : Around} {base h₀ : Heap} {L : Addr} {m : Str → Option Value} {s : Shared} {Q E : Value → Shared → Prop}
  {news : List (Addr × Obj)}

set_option maxHeartbeats 4000000 in
theorem pack_spec {b : Array UInt8} {ks : List Int} {x y sp tp : Int} {t t1 t2 t3 t4 : Tok} (C : Cx w p loose mean mg mb A₀ base h₀ outer L s.heap m news) (R : Rm cs dp un 4) (hk : KBw.bInts b = ks) (hlen : ks.length ≤ 1000) (hx : 0 ≤ x) (hy : 0 ≤ y)
  (hret : ∀ b' t h' tk', KBw.bInts b' = packF sp tp (chkI x y sp tp ks) ks → Fr h₀ L h' m → News h₀ L h' news → Q (.bytes b' t) { s with heap := h', toks := tk' }) :
  wpAny (model prog w) (ktrTop dp un gd cn cs L fa ccd cl outer) (call (.ref 296) [.int x t1, .int y t2, .int sp t3, .int tp t4, .bytes b t]) Q E s := by
  have C' := C
  obtain ⟨B, F, X, N, T⟩ := C'
  have hRd := R.hd
  have hRu := R.hu
  have hin : ∀ k ∈ ks, 0 ≤ k ∧ k < 256 := fun k hk' => KBw.ints_in (hk ▸ hk')
  have hp0 : 0 ≤ psI x y (8 + ks.length) := psI_nn hx hy nn8
  k_dflt (refine' enterK (binds := [(Str.ofString "source", .int x t1), (Str.ofString "target", .int y t2), (Str.ofString "source_port", .int sp t3), (Str.ofString "target_port", .int tp t4), (Str.ofString "payload", .bytes b t), (Str.ofString "with_sum", .bool true)]) C R ?k6 ?k7 ?k9 ?kB ?_ ?c2 ?c3 ?c4 ?c5; (((case k6 => k_is); (case k7 => k_is); (case k9 => exact binds_K (by k_in) rfl (by k_is) rfl rfl rfl); (case c5 => decide); (case kB => exact locs rfl); (case c2 => exact rfl); (case c3 => exact rfl); (case c4 => exact rfl); k_whole; intro g' L' h' FG' F' N' B' X' T'; (try dsimp only); (try k_fold))))
  (repeat' (first | (k_unfold; (try dsimp only)) | (k_end; wrow_close) | (with_reducible (k_here; (with_reducible show wpAny _ _ (PySem.call (Value.ref 288) _ _) _ _ _); k_dflt (refine' pseudo_spec ?c1 ?c2 ?c3 ?c4 ?c5 ?_; (case c1 => walk_at "cx9"); (case c2 => walk_at "rm9"); (case c3 => first | assumption | omega); (case c4 => first | assumption | omega); (case c5 => first | assumption | omega)); intro kyt' kyh' kytk' kyF' kyN'; (try k_fold))) | (with_reducible (k_here; (with_reducible show wpAny _ _ (PySem.call (Value.ref 281) _ _) _ _ _); k_dflt (refine' check_spec ?c1 ?c2 ?c3 ?c4 ?c5 ?_; (case c1 => walk_at "cx9"); (case c2 => walk_at "rm9"); (case c3 => with_reducible assumption); (case c4 => first | assumption | omega | ((simp only [List.length_append, List.length_cons, List.length_nil]); omega)); (case c5 => first | assumption | omega)); intro kyt' kyh' kytk' kyF' kyN'; (try k_fold))) | (with_reducible (k_here; (with_reducible show wpAny _ _ (PySem.call (Value.ref 244) _ _) _ _ _); k_dflt (refine' put16_spec ?c1 ?c2 ?_; (case c1 => walk_at "cx9"); (case c2 => walk_at "rm9")); intro kyb' kyt' kyh' kytk' kyhb' kyF' kyN'; (try k_fold))) | walk1 | (dsimp only; walk1) | (leave1; try dsimp only)))
  · have hc : chkI x y sp tp ks = 65535 := by unfold chkI; exact if_pos (by assumption)
    exact hret _ _ _ _ (by rw [packF, hc]; assumption) (by k_asm) (by walk_at "news9")
  · have hc : chkI x y sp tp ks = 65535 - foldI (psI x y (8 + ks.length) + sumBE (w16 sp ++ w16 tp ++ w16 (8 + ks.length) ++ w16 0 ++ ks)) := by unfold chkI; exact if_neg (by assumption)
    exact hret _ _ _ _ (by rw [packF, hc]; assumption) (by k_asm) (by walk_at "news9")

set_option maxHeartbeats 4000000 in
theorem bare_spec {b : Array UInt8} {ks : List Int} {x y sp tp : Int} {t t1 t2 t3 t4 : Tok} (C : Cx w p loose mean mg mb A₀ base h₀ outer L s.heap m news) (R : Rm cs dp un 4) (hk : KBw.bInts b = ks) (hlen : ks.length ≤ 1000) (hx : 0 ≤ x) (hy : 0 ≤ y)
  (hret : ∀ b' t h' tk', KBw.bInts b' = packF sp tp 0 ks → Fr h₀ L h' m → News h₀ L h' news → Q (.bytes b' t) { s with heap := h', toks := tk' }) :
  wpAny (model prog w) (ktrTop dp un gd cn cs L fa ccd cl outer) (call (.ref 296) [.int x t1, .int y t2, .int sp t3, .int tp t4, .bytes b t, .bool false]) Q E s := by
  have C' := C
  obtain ⟨B, F, X, N, T⟩ := C'
  have hRd := R.hd
  have hRu := R.hu
  have hin : ∀ k ∈ ks, 0 ≤ k ∧ k < 256 := fun k hk' => KBw.ints_in (hk ▸ hk')
  k_dflt (refine' enterK (binds := [(Str.ofString "source", .int x t1), (Str.ofString "target", .int y t2), (Str.ofString "source_port", .int sp t3), (Str.ofString "target_port", .int tp t4), (Str.ofString "payload", .bytes b t), (Str.ofString "with_sum", .bool false)]) C R ?k6 ?k7 ?k9 ?kB ?_ ?c2 ?c3 ?c4 ?c5; (((case k6 => k_is); (case k7 => k_is); (case k9 => exact binds_K (by k_in) rfl (by k_is) rfl rfl rfl); (case c5 => decide); (case kB => exact locs rfl); (case c2 => exact rfl); (case c3 => exact rfl); (case c4 => exact rfl); k_whole; intro g' L' h' FG' F' N' B' X' T'; (try dsimp only); (try k_fold))))
  (repeat' (first | (k_unfold; (try dsimp only)) | (k_end; wrow_close) | (with_reducible (k_here; (with_reducible show wpAny _ _ (PySem.call (Value.ref 288) _ _) _ _ _); k_dflt (refine' pseudo_spec ?c1 ?c2 ?c3 ?c4 ?c5 ?_; (case c1 => walk_at "cx9"); (case c2 => walk_at "rm9"); (case c3 => first | assumption | omega); (case c4 => first | assumption | omega); (case c5 => first | assumption | omega)); intro kyt' kyh' kytk' kyF' kyN'; (try k_fold))) | (with_reducible (k_here; (with_reducible show wpAny _ _ (PySem.call (Value.ref 281) _ _) _ _ _); k_dflt (refine' check_spec ?c1 ?c2 ?c3 ?c4 ?c5 ?_; (case c1 => walk_at "cx9"); (case c2 => walk_at "rm9"); (case c3 => with_reducible assumption); (case c4 => first | assumption | omega | ((simp only [List.length_append, List.length_cons, List.length_nil]); omega)); (case c5 => first | assumption | omega)); intro kyt' kyh' kytk' kyF' kyN'; (try k_fold))) | (with_reducible (k_here; (with_reducible show wpAny _ _ (PySem.call (Value.ref 244) _ _) _ _ _); k_dflt (refine' put16_spec ?c1 ?c2 ?_; (case c1 => walk_at "cx9"); (case c2 => walk_at "rm9")); intro kyb' kyt' kyh' kytk' kyhb' kyF' kyN'; (try k_fold))) | walk1 | (dsimp only; walk1) | (leave1; try dsimp only)))
  all_goals exact hret _ _ _ _ (by rw [packF]; assumption) (by k_asm) (by walk_at "news9")
end
section
variable {prog : Program} {w : World} {A : Around} {E : Value → Shared → Prop} {s : Shared} {value slice : PySem.Expr} {b : Array UInt8} {t u u2 : Tok} {h₀ : Heap} {L : Addr} {m : PySem.Str → Option Value} {news : List (Addr × Obj)} {Q : Value → Shared → Prop} {ks : List Int} {x y : Int}
theorem clip_of {n : Nat} {x : Int} (h : 0 ≤ x) : clipAt n x = min x.toNat n := by
  obtain ⟨k, rfl⟩ := Int.eq_ofNat_of_zero_le h
  rw [clipAt_nat, Int.toNat_natCast]
theorem m_bto (F : Fr h₀ L s.heap m) (N : News h₀ L s.heap news) (hk : KBw.bInts b = ks) (h0 : 0 ≤ x) (hz : ks.length ≤ 16777216)
    (h : ∀ b' h' t' k, Fr h₀ L h' m → News h₀ L h' news → KBw.bInts b' = ks.take x.toNat → Q (.bytes b' t') { s with heap := h', toks := k })
    (hs : subscripted slice false (.bytes b t) (.ref s.heap.objs.size) = operate [.ref s.heap.objs.size, .bytes b t] (getItem (.bytes b t) (.ref s.heap.objs.size)) := by with_unfolding_all rfl)
    (ht : ∀ r, letTemporaryGo value (.bytes b t) r = pure () := by intro _; with_unfolding_all rfl) :
    wpAny (model prog w) A (subscriptTail value slice (.bytes b t) (.ref s.heap.objs.size)) Q E { s with heap := s.heap.push { cls := .type "slice", data := .fields #[.none, .int x u, .none] } } :=
  KBc.slice_K F N hk .none (.int x u) hz (fun h' t' k F' N' e => h _ h' t' k F' N' (by rw [e]; simp only [Option.elim_none, Option.elim_some, List.drop_zero, Nat.sub_zero, clip_of h0]; rw [Nat.min_comm, ← List.take_take, List.take_of_length_le (by rw [List.length_take]; omega)])) hs ht
theorem m_bfrom (F : Fr h₀ L s.heap m) (N : News h₀ L s.heap news) (hk : KBw.bInts b = ks) (h0 : 0 ≤ x) (hz : ks.length ≤ 16777216)
    (h : ∀ b' h' t' k, Fr h₀ L h' m → News h₀ L h' news → KBw.bInts b' = ks.drop x.toNat → Q (.bytes b' t') { s with heap := h', toks := k })
    (hs : subscripted slice false (.bytes b t) (.ref s.heap.objs.size) = operate [.ref s.heap.objs.size, .bytes b t] (getItem (.bytes b t) (.ref s.heap.objs.size)) := by with_unfolding_all rfl)
    (ht : ∀ r, letTemporaryGo value (.bytes b t) r = pure () := by intro _; with_unfolding_all rfl) :
    wpAny (model prog w) A (subscriptTail value slice (.bytes b t) (.ref s.heap.objs.size)) Q E { s with heap := s.heap.push { cls := .type "slice", data := .fields #[.int x u, .none, .none] } } :=
  KBc.slice_K F N hk (.int x u) .none hz (fun h' t' k F' N' e => h _ h' t' k F' N' (by
    rw [e]; simp only [Option.elim_none, Option.elim_some, clip_of h0]
    rw [List.take_of_length_le (by rw [List.length_drop]; omega)]
    rcases Nat.le_total x.toNat ks.length with hle | hle
    · rw [Nat.min_eq_left hle]
    · rw [Nat.min_eq_right hle, List.drop_of_length_le (Nat.le_refl _), List.drop_of_length_le hle])) hs ht
theorem m_bmid (F : Fr h₀ L s.heap m) (N : News h₀ L s.heap news) (hk : KBw.bInts b = ks) (h0 : 0 ≤ x) (h1 : x ≤ y) (h2 : y ≤ ks.length) (hz : ks.length ≤ 16777216)
    (h : ∀ b' h' t' k, Fr h₀ L h' m → News h₀ L h' news → KBw.bInts b' = (ks.drop x.toNat).take (y.toNat - x.toNat) → Q (.bytes b' t') { s with heap := h', toks := k })
    (hs : subscripted slice false (.bytes b t) (.ref s.heap.objs.size) = operate [.ref s.heap.objs.size, .bytes b t] (getItem (.bytes b t) (.ref s.heap.objs.size)) := by with_unfolding_all rfl)
    (ht : ∀ r, letTemporaryGo value (.bytes b t) r = pure () := by intro _; with_unfolding_all rfl) :
    wpAny (model prog w) A (subscriptTail value slice (.bytes b t) (.ref s.heap.objs.size)) Q E { s with heap := s.heap.push { cls := .type "slice", data := .fields #[.int x u, .int y u2, .none] } } :=
  KBc.slice_K F N hk (.int x u) (.int y u2) hz (fun h' t' k F' N' e => h _ h' t' k F' N' (by
    rw [e]; simp only [Option.elim_some, clip_of h0, clip_of (Int.le_trans h0 h1)]
    rw [Nat.min_eq_left (by omega : x.toNat ≤ ks.length), Nat.min_eq_left (by omega : y.toNat ≤ ks.length)])) hs ht
end
--M<
local macro_rules | `(tactic| walk_at "bk9") => `(tactic| first | with_reducible assumption | exact KBw.ints_list _)
local macro_rules | `(tactic| walk_at "len9") => `(tactic| first | assumption | omega | ((simp only [List.length_append, List.length_cons, List.length_nil, List.length_take, List.length_drop]); omega))
--M>
def word (ks : List Int) (i : Nat) : Int := ks.getD i 0 * 256 + ks.getD (i + 1) 0
def unpackF (x y : Int) (ks : List Int) : Option (Int × Int × List Int) :=
  if ks.length < 8 then none
  else if word ks 4 < 8 ∨ (ks.length : Int) < word ks 4 then none
  else if word (ks.take (word ks 4).toNat) 6 ≠ 0 ∧ 65535 - foldI (psI x y (word ks 4) + sumBE (ks.take (word ks 4).toNat)) ≠ 0 then none
  else some (word (ks.take (word ks 4).toNat) 0, word (ks.take (word ks 4).toNat) 2, (ks.take (word ks 4).toNat).drop 8)
theorem u_short {x y : Int} {ks : List Int} (h : (ks.length : Int) < 8) : unpackF x y ks = none := by unfold unpackF; rw [if_pos (by omega)]
theorem u_size {x y : Int} {ks : List Int} (h0 : ¬ (ks.length : Int) < 8) (h : word ks 4 < 8 ∨ (ks.length : Int) < word ks 4) : unpackF x y ks = none := by unfold unpackF; rw [if_neg (by omega), if_pos h]
theorem u_sum {x y : Int} {ks : List Int} (h0 : ¬ (ks.length : Int) < 8) (h : ¬ (word ks 4 < 8 ∨ (ks.length : Int) < word ks 4)) (h1 : word (ks.take (word ks 4).toNat) 6 ≠ 0) (h2 : 65535 - foldI (psI x y (word ks 4) + sumBE (ks.take (word ks 4).toNat)) ≠ 0) : unpackF x y ks = none := by
  unfold unpackF; rw [if_neg (by omega), if_neg h, if_pos ⟨h1, h2⟩]
theorem u_ok {x y : Int} {ks : List Int} (h0 : ¬ (ks.length : Int) < 8) (h : ¬ (word ks 4 < 8 ∨ (ks.length : Int) < word ks 4)) (h1 : word (ks.take (word ks 4).toNat) 6 = 0 ∨ 65535 - foldI (psI x y (word ks 4) + sumBE (ks.take (word ks 4).toNat)) = 0) :
    unpackF x y ks = some (word (ks.take (word ks 4).toNat) 0, word (ks.take (word ks 4).toNat) 2, (ks.take (word ks 4).toNat).drop 8) := by
  unfold unpackF
  rw [if_neg (by omega), if_neg h, if_neg]
  rintro ⟨a, b⟩
  rcases h1 with h1 | h1
  · exact a h1
  · exact b h1
theorem get16_word {prog : Program} {w : World} {p : Program} {loose : List Str} {mean : ExcName → Option Value} {mg mb : Str → Option Value}
  {dp un : Nat} {gd : Option (List Code)} {cn : Str} {cs : Scope} {fa : Addr} {ccd : Value} {cl : List (Str × Addr)} {outer : List Env} {A₀ : Around} {base h₀ : Heap} {L : Addr} {m : Str → Option Value} {s : Shared} {Q E : Value → Shared → Prop}
  {news : List (Addr × Obj)} {b : Array UInt8} {ks : List Int} {t t2 : Tok} (i : Nat) (C : Cx w p loose mean mg mb A₀ base h₀ outer L s.heap m news) (R : Rm cs dp un 2) (hk : KBw.bInts b = ks) (hlen : ks.length ≤ 100000) (h1 : i + 2 ≤ ks.length)
  (hret : ∀ t h' tk', Fr h₀ L h' m → News h₀ L h' news → Q (.int (word ks i) t) { s with heap := h', toks := tk' }) :
  wpAny (model prog w) (ktrTop dp un gd cn cs L fa ccd cl outer) (call (.ref 258) [.bytes b t, .int (i : Int) t2]) Q E s :=
  get16_spec C R hk hlen (by omega) (by omega) fun t h' tk' F' N' => by
    have := hret t h' tk' F' N'
    unfold word at this
    rwa [show ((i : Int) + 1).toNat = i + 1 by omega, Int.toNat_natCast]
--M<
--M>
section
variable {prog : Program} {w : World} {p : Program} {loose : List Str} {mean : ExcName → Option Value} {mg mb : Str → Option Value}
  {dp un : Nat} {gd : Option (List Code)} {cn : Str} {cs : Scope} {fa : Addr} {ccd : Value} {cl : List (Str × Addr)} {outer : List Env} {A₀ : Around} {base h₀ : Heap} {L : Addr} {m : Str → Option Value} {s : Shared} {Q E : Value → Shared → Prop}
  {news : List (Addr × Obj)}

set_option maxHeartbeats 4000000 in
theorem unpack_spec {b : Array UInt8} {ks : List Int} {x y : Int} {t t1 t2 : Tok} (C : Cx w p loose mean mg mb A₀ base h₀ outer L s.heap m news) (R : Rm cs dp un 4) (hk : KBw.bInts b = ks) (hlen : ks.length ≤ 10000) (hx : 0 ≤ x) (hy : 0 ≤ y)
  (hret : ∀ z r b' t3 t4 t5 h' tk', unpackF x y ks = some z → KBw.bInts b' = z.2.2 → Fr h₀ L h' m → News h₀ L h' ((r, tupO [.int z.1 t3, .int z.2.1 t4, .bytes b' t5]) :: news) → Q (.ref r) { s with heap := h', toks := tk' })
  (hexc : unpackF x y ks = none → Exc base h₀ L m (envX cn cs L fa ccd cl :: outer) 44 news s E) :
  wpAny (model prog w) (ktrTop dp un gd cn cs L fa ccd cl outer) (call (.ref 303) [.int x t1, .int y t2, .bytes b t]) Q E s := by
  have C' := C
  obtain ⟨B, F, X, N, T⟩ := C'
  have hRd := R.hd
  have hRu := R.hu
  have hin : ∀ k ∈ ks, 0 ≤ k ∧ k < 256 := fun k hk' => KBw.ints_in (hk ▸ hk')
  have hp0 : 0 ≤ word ks 4 → 0 ≤ psI x y (word ks 4) := fun h => psI_nn hx hy h
  k_dflt (refine' enterK (binds := [(Str.ofString "source", .int x t1), (Str.ofString "target", .int y t2), (Str.ofString "octets", .bytes b t)]) C R ?k6 ?k7 ?k9 ?kB ?_ ?c2 ?c3 ?c4 ?c5; (((case k6 => k_is); (case k7 => k_is); (case k9 => exact BindsTo.of_eq rfl); (case c5 => decide); (case kB => exact locs rfl); (case c2 => exact rfl); (case c3 => exact rfl); (case c4 => exact rfl); k_whole; intro g' L' h' FG' F' N' B' X' T'; (try dsimp only); (try k_fold))))
  (repeat' (first | (k_unfold; (try dsimp only)) | (k_end; wrow_close) | (with_reducible (k_here; refine x_raise rfl ?_; (try k_fold))) | ((with_reducible show wpAny _ _ (leaving _ _) _ _ _); with_reducible (refine' x_leave ?k1 ?k2 ?k3 ?k4 ?k5 ?_; (case k1 => k_asm); (case k2 => k_asm); (case k3 => k_asm); (case k4 => assumption); (case k5 => assumption); intro kyh9 kyR9 kyU9; (try dsimp only))) | (with_reducible (refine' raiseQ_of ?k1 ?k2 ?k3 ?k4 ?_; (case k2 => k_asm); (case k3 => k_asm); (case k4 => k_asm); (case k1 => first | exact exc80 _ | exact exc68 _ | exact exc44 _); (try k_unfold); (try dsimp only))) | (with_reducible (k_here; (with_reducible show wpAny _ _ (PySem.call (Value.ref 281) _ _) _ _ _); k_dflt (refine' check_spec ?c1 ?c2 ?c3 ?c4 ?c5 ?_; (case c1 => walk_at "cx9"); (case c2 => walk_at "rm9"); (case c3 => walk_at "bk9"); (case c4 => walk_at "len9"); (case c5 => first | assumption | omega)); intro kyt' kyh' kytk' kyF' kyN'; (try k_fold))) | (with_reducible (k_here; (with_reducible show wpAny _ _ (PySem.call (Value.ref 258) _ _) _ _ _); k_dflt ((first | (with_unfolding_all refine' get16_word 0 ?c1 ?c2 ?c3 ?c4 ?c6 ?_) | (with_unfolding_all refine' get16_word 2 ?c1 ?c2 ?c3 ?c4 ?c6 ?_) | (with_unfolding_all refine' get16_word 4 ?c1 ?c2 ?c3 ?c4 ?c6 ?_) | (with_unfolding_all refine' get16_word 6 ?c1 ?c2 ?c3 ?c4 ?c6 ?_)); (case c1 => walk_at "cx9"); (case c2 => walk_at "rm9"); (case c3 => walk_at "bk9"); (case c4 => walk_at "len9"); (case c6 => walk_at "len9")); intro kyt' kyh' kytk' kyF' kyN'; (try k_fold))) | ((with_reducible show wpAny _ _ (subscriptTail (PySem.Expr.Name _ _) (PySem.Expr.Slice _ _ _ _) (Value.bytes _ _) (Value.ref _)) _ _ _); with_reducible (k_here; k_dflt (first | (refine' m_bto (s := ⟨_, _, _, _, _⟩) ?F ?N ?k3 ?k4 ?k5 ?_; (case F => k_asm); (case N => k_asm); (case k3 => walk_at "bk9"); (case k4 => walk_at "len9"); (case k5 => walk_at "len9")) | (refine' m_bfrom (s := ⟨_, _, _, _, _⟩) ?F ?N ?k3 ?k4 ?k5 ?_; (case F => k_asm); (case N => k_asm); (case k3 => walk_at "bk9"); (case k4 => walk_at "len9"); (case k5 => walk_at "len9")) | (refine' m_bmid (s := ⟨_, _, _, _, _⟩) ?F ?N ?k3 ?k4 ?k6 ?k7 ?k5 ?_; (case F => k_asm); (case N => k_asm); (case k3 => walk_at "bk9"); (case k4 => walk_at "len9"); (case k6 => walk_at "len9"); (case k7 => walk_at "len9"); (case k5 => walk_at "len9"))); intro kyb' kyh' kyt' kyk' kyF' kyN' kyhb'; (try simp only [show Int.toNat 8 = 8 by decide, show Int.toNat 6 = 6 by decide] at kyhb'); (try dsimp only))) | (with_reducible (k_here; (with_reducible show wpAny _ _ (PySem.call (Value.ref 288) _ _) _ _ _); k_dflt (refine' pseudo_spec ?c1 ?c2 ?c3 ?c4 ?c5 ?_; (case c1 => walk_at "cx9"); (case c2 => walk_at "rm9"); (case c3 => first | assumption | omega); (case c4 => first | assumption | omega); (case c5 => first | assumption | omega)); intro kyt' kyh' kytk' kyF' kyN'; (try k_fold))) | (with_reducible (k_here; (with_reducible show wpAny _ _ (PySem.call (Value.ref 44) _ _) _ _ _); k_dflt (refine' xcallN ?c1 ?c2 ?c3 ?_; (case c1 => exact exc44 _); (case c2 => walk_at "cx9"); (case c3 => walk_at "rm9")); intro kye' kyt' kyh' kyd' kytk' kyhlt' kyhte' kyF' kyN'; (try k_fold))) | walk1 | (dsimp only; walk1) | (leave1; try dsimp only)))
  all_goals first
    | exact hexc (u_short (by omega)) _ _ _ _ _ _ (by k_asm) (by assumption) (by assumption)
    | exact hexc (u_size (by omega) (by omega)) _ _ _ _ _ _ (by k_asm) (by assumption) (by assumption)
    | exact hexc (u_sum (by omega) (by omega) (by assumption) (by assumption)) _ _ _ _ _ _ (by k_asm) (by assumption) (by assumption)
    | exact hret _ _ _ _ _ _ _ _ (u_ok (by omega) (by omega) (.inl (by assumption))) (by assumption) (by k_asm) (by walk_at "news9")
    | exact hret _ _ _ _ _ _ _ _ (u_ok (by omega) (by omega) (.inr (by assumption))) (by assumption) (by k_asm) (by walk_at "news9")
    | skip
  all_goals trace_state
  all_goals walk_report
end
section
variable {prog : Program} {w : World} {A₀ A : Around} {s : Shared} {base h₀ g₀ : Heap} {outer : List Env} {L : Addr} {m : Str → Option Value} {env : Env} {news : List (Addr × Obj)} {K : Frag} {p : Program} {loose : List Str} {mean : ExcName → Option Value} {mg mb : Str → Option Value}
    {R : Result → Shared → Prop} {name qual : Str} {params : Arguments} {body : List Stmt} {scope : Scope} {dV kV doc pm cdv ct oc : Value} {an od : Option Addr} {osl : Array (Option Value)} {f : Addr} {args : Args} {binds : List (Str × Value)}
theorem envs_mem {b : Addr} (hf : env.frame = some L) (hm : b ∈ (env :: outer).filterMap (·.frame)) : b = L ∨ b ∈ outer.filterMap (·.frame) := by
  obtain ⟨e, he, h⟩ := List.mem_filterMap.mp hm
  rcases List.mem_cons.mp he with rfl | he
  · exact .inl (Option.some.inj (h.symm.trans hf))
  · exact .inr (List.mem_filterMap.mpr ⟨e, he, h⟩)
theorem enterS (B : Below A₀ base outer h₀) (F : Fr h₀ L s.heap m) (X₀ : K.In h₀) (N : News h₀ L s.heap news) (T : Top p loose mean mg mb h₀) (XB : K.In base) (TB : Top p loose mean mg mb base) (D : KtsDicts (outer.filterMap (·.frame)) h₀)
    (T0 : KtsTurn (outer.filterMap (·.frame)) g₀ h₀) (hA : A.frames = some (env :: outer)) (hf : env.frame = some L) (hke : env.scope.kind = .function)
    (ho : K.lookup f = some ⟨oc, od, .func (fnOf name qual params body scope dV kV doc pm an cdv ct), osl⟩) (hcd : codeIn K cdv qual = true) (hroom : A.depth < recursionLimit)
    (hbind : BindsTo s (fnOf name qual params body scope dV kV doc pm an cdv ct) args binds) (hloc : ∀ y ∈ binds, scope.names.lookup y.1 = some .local)
    (h : ∀ g L' h₁, Fr h₀ L g m → Fr g L' h₁ (fun y => binds.reverse.lookup y) → News g L' h₁ news → Below A base (env :: outer) g → K.In g → Top p loose mean mg mb g → KtsDicts ((env :: outer).filterMap (·.frame)) g →
      wpAny (model prog w) (A.deeper (envOf qual scope L' f cdv)) (execs body (envOf qual scope L' f cdv))
        (fun fl s' => LeaveS ((env :: outer).filterMap (·.frame)) A₀ base outer K p loose mean mg mb g₀ h₀ L m g R (match fl with | .ret v => v | _ => .none) s')
        (fun e s' => wpAny (model prog w) (A.deeper (envOf qual scope L' f cdv)) (leaving (envOf qual scope L' f cdv) e) (fun _ s'' => R (.error e) s'') (fun e' s'' => R (.error e') s'') s')
        { s with heap := h₁, toks := s.toks + binds.length })
    (hco : scope.isCoroutine = false) (hgen : scope.isGenerator = false) (hk : scope.kind = .function)
    (hcell : ∀ x ∈ scope.names, x.2 ≠ .cell) : codeAny (model prog w) A (.call (.ref f) args) R s := by
  have X := X₀.keeps F.keep
  refine' elimG ?h9y1 ?k9y1
  case h9y1 =>
    intro G9 k9
    obtain ⟨FG, BG, st, lv⟩ := groundX (R := R) B F N hA hf hke
    revert lv
    revert st
    revert BG
    revert FG
    exact k9
  intro FG BG st lv
  refine codeAny_call_def (fd := fnOf name qual params body scope dV kV doc pm an cdv ct) (body := body) (binds := binds) hroom (X _ _ ho) rfl (T.nolimit.keeps F.keep) (codeRec_of X hcd) rfl hbind hcell hloc (fun h₁ hns hk₁ => ?_) hco hgen hk
  have hns₀ := FG.ns
  refine' elimG ?h9y2 ?k9y2
  case h9y2 =>
    intro G9 k9
    obtain ⟨oL, es, ep, hLg, hLd, hLk, hLf⟩ := id hns₀
    revert hLf
    revert hLk
    revert hLd
    revert hLg
    revert ep
    revert es
    revert oL
    exact k9
  intro oL es ep hLg hLd hLk hLf
  try clear hns₀
  refine wpAny_mono (h _ s.heap.objs.size h₁ FG ⟨hns, fun b o e => hk₁ b o (of_hideAll _ e), Nat.le_of_eq (hideAll_size _ _)⟩
    (fun p hp => ⟨hk₁ _ _ (N p hp).1, Nat.ne_of_lt (Heap.lt_size (N p hp).1), hideAll_none _ (List.mem_map_of_mem hp)⟩) BG (X₀.keeps st) (T.keeps st) (fun b hb => by
      rcases envs_mem hf hb with rfl | hb
      · exact ⟨oL, es, ep, hLg, hLd⟩
      · refine' elimG ?h9y3 ?k9y3
        case h9y3 =>
          intro G9 k9
          obtain ⟨o, es', n', ho', hd'⟩ := D b hb
          revert hd'
          revert ho'
          revert n'
          revert es'
          revert o
          exact k9
        intro o es' n' ho' hd'
        exact ⟨o, es', n', st b o ho', hd'⟩)) (fun fl s' hl => ?_) fun _ _ y => y
  rcases hl with ⟨L', m', news', F', N', k⟩ | ⟨g', L', m', news', T', F', N', k⟩
  · exact lv _ _ ⟨L', m', news', F', N', k⟩
  have nL₀ : h₀.get? L = none := kts_self F
  refine' elimG ?h9y4 ?k9y4
  case h9y4 =>
    intro G9 k9
    obtain ⟨sl, hs⟩ := T'.up hLg
    revert hs
    revert sl
    exact k9
  intro sl hs
  obtain ⟨T₁, S₁⟩ := kts_turn_at (h := s'.heap) (fs := outer.filterMap (·.frame)) (g := h₀)
    (fun b hb => by
      refine' elimG ?h9y7 ?k9y7
      case h9y7 =>
        intro G9 k9
        obtain ⟨u9x5, o, ho', u9x6⟩ := B.frames.mem hb
        revert u9x6
        revert ho'
        revert o
        revert u9x5
        exact k9
      intro _ o ho' _
      exact ⟨o, ho'⟩)
    (fun b o e nmem => F'.keep b o (T'.other b o (st b o e) (fun q => by
      rcases envs_mem hf q with z | z
      · rw [z, nL₀] at e
        cases e
      · exact nmem z)))
    (fun b o e hm => by
      refine' elimG ?h9y8 ?k9y8
      case h9y8 =>
        intro G9 k9
        obtain ⟨sl', hs'⟩ := T'.up (st b o e)
        revert hs'
        revert sl'
        exact k9
      intro sl' hs'
      exact ⟨sl', F'.keep _ _ hs'⟩)
  have B₃ : Below A₀ base outer (ktsHeap s'.heap (outer.filterMap (·.frame)) h₀) := ⟨B.stack, fun b o e => T₁.other b o (B.stays b o e) (fun hm => by
    rw [(B.frames.mem hm).1] at e
    cases e), B.frames.of_keeps fun b o e _ => by
    refine' elimG ?h9y9 ?k9y9
    case h9y9 =>
      intro G9 k9
      obtain ⟨sl', hs'⟩ := T₁.up e
      revert hs'
      revert sl'
      exact k9
    intro sl' hs'
    exact ⟨_, hs', rfl⟩⟩
  refine k _ (T0.trans T₁) ⟨⟨_, es, ep, F'.keep _ _ hs, hLd, hLk, hLf⟩, S₁, by rw [T₁.size]; exact F.above⟩ (fun p hp => ⟨(N' p hp).1, fun q => ?_, ?_⟩) B₃ (XB.keeps B₃.stays) (TB.keeps B₃.stays) (D.turn T₁)
  · have := (N' p hp).2.2; rw [q, hs] at this; cases this
  · refine T₁.none_ _ ?_
    cases q : h₀.get? p.1 with
    | none => rfl
    | some o =>
      refine' elimG ?h9y10 ?k9y10
      case h9y10 =>
        intro G9 k9
        obtain ⟨sl', hs'⟩ := T'.up (st _ _ q)
        revert hs'
        revert sl'
        exact k9
      intro sl' hs'
      have := (N' p hp).2.2
      rw [hs'] at this
      cases this
end
section
variable {prog : Program} {w : World} {p : Program} {loose : List Str} {mean : ExcName → Option Value} {mg mb : Str → Option Value}
  {dp un : Nat} {gd : Option (List Code)} {cn : Str} {cs : Scope} {fa : Addr} {ccd : Value} {cl : List (Str × Addr)} {outer : List Env} {A₀ : Around} {base h₀ g₀ : Heap} {L : Addr} {m : Str → Option Value} {s : Shared} {Q E : Value → Shared → Prop}
  {news : List (Addr × Obj)}

set_option maxHeartbeats 4000000 in
theorem refused_spec {b : Array UInt8} {ks : List Int} {x y : Int} {t t1 t2 : Tok} (C : Cx w p loose mean mg mb A₀ base h₀ outer L s.heap m news) (R : Rm cs dp un 5) (XB : (hd.heap_1 w.params).In base) (TB : Top p loose mean mg mb base) (D : KtsDicts (outer.filterMap (·.frame)) h₀) (T0 : KtsTurn (outer.filterMap (·.frame)) g₀ h₀)
  (hk : KBw.bInts b = ks) (hlen : ks.length ≤ 10000) (hx : 0 ≤ x) (hy : 0 ≤ y)
  (hret : unpackF x y ks ≠ none → ∀ h' tk', Fr h₀ L h' m → News h₀ L h' news → Q (.bool false) { s with heap := h', toks := tk' })
  (hret2 : unpackF x y ks = none → ∀ h₀' h' tk', KtsTurn (outer.filterMap (·.frame)) g₀ h₀' → Fr h₀' L h' m → News h₀' L h' news → Below A₀ base outer h₀' → (hd.heap_1 w.params).In h₀' → Top p loose mean mg mb h₀' → KtsDicts (outer.filterMap (·.frame)) h₀' → Q (.bool true) { s with heap := h', toks := tk' }) :
  wpAny (model prog w) (ktrTop dp un gd cn cs L fa ccd cl outer) (call (.ref 364) [.int x t1, .int y t2, .bytes b t]) Q E s := by
  obtain ⟨B, F, X, N, T⟩ := C
  have hRd := R.hd
  have hRu := R.hu
  refine wpAny_call ?_
  k_dflt (refine' enterS (binds := [(Str.ofString "source_address", .int x t1), (Str.ofString "target", .int y t2), (Str.ofString "octets", .bytes b t)]) B F X N T XB TB D T0 rfl ?kF R.hk ?k6 ?k7 (Nat.lt_of_le_of_lt (Nat.le_add_right _ _) R.hd) ?k9 ?kB ?_ ?c2 ?c3 ?c4 ?c5; (case kF => exact rfl); (case k6 => k_is); (case k7 => k_is); (case k9 => exact BindsTo.of_eq rfl); (case c5 => decide); (case kB => exact locs rfl); (case c2 => exact rfl); (case c3 => exact rfl); (case c4 => exact rfl); k_whole; intro g' L' h' FG' F' N' B' X' T' D'; (try dsimp only); (try k_fold))
  k_steps
  refine unpack_spec (by walk_at "cx9") (by walk_at "rm9") hk hlen hx hy ?_ ?_
  · intro z r b' t3 t4 t5 h' tk' hz hb' F9 N9
    (try k_fold)
    k_steps
    exact hret (by rw [hz]; exact fun e => nomatch e) _ _ (by k_asm) (by walk_at "news9")
  · intro hz
    ((intro kyg2' kye2' kyt2' kymsg' kyh' kytk' kyFg' kyR9 kyU9; (try k_unfold); (try dsimp only)))
    k_steps
    refine' hret2 hz _ _ _ ?T ?F ?N ?B ?X ?Tp ?D
    (case F => assumption)
    (case T => assumption)
    (case N => assumption)
    (case B => assumption)
    (case X => assumption)
    (case Tp => assumption)
    (case D => assumption)
end
theorem xor8 : ∀ a : Fin 256, ∀ k : Fin 8, 0 ≤ Builtin.bitXor (a.val : Int) (2 ^ k.val) ∧ Builtin.bitXor (a.val : Int) (2 ^ k.val) < 256 ∧ (Builtin.bitXor (a.val : Int) (2 ^ k.val) = a.val + 2 ^ k.val ∨ Builtin.bitXor (a.val : Int) (2 ^ k.val) = a.val - 2 ^ k.val) := by decide +kernel
theorem xor_byte {a : Int} {k : Nat} (h0 : 0 ≤ a) (h1 : a < 256) (hk : k < 8) : 0 ≤ Builtin.bitXor a (2 ^ k) ∧ Builtin.bitXor a (2 ^ k) < 256 ∧ (Builtin.bitXor a (2 ^ k) = a + 2 ^ k ∨ Builtin.bitXor a (2 ^ k) = a - 2 ^ k) := by
  obtain ⟨n, rfl⟩ := Int.eq_ofNat_of_zero_le h0
  exact xor8 ⟨n, by omega⟩ ⟨k, hk⟩
section
variable {prog : Program} {w : World} {A : Around} {E : Value → Shared → Prop} {s : Shared} {t u : Tok} {Q : Value → Shared → Prop} {n : Int}
theorem m_shl1 (h0 : 0 ≤ n) (h1 : n < 64) (h : Q (.int (2 ^ n.toNat) s.toks) { s with toks := s.toks + 1 }) : wpAny (model prog w) A (binaryOp .LShift (.int 1 t) (.int n u)) Q E s :=
  lshift_int_small h0 (by omega) (by decide) (by rw [Int.one_mul]; exact h)
end
--M<
--M>
section
variable {prog : Program} {w : World} {p : Program} {loose : List Str} {mean : ExcName → Option Value} {mg mb : Str → Option Value}
  {dp un : Nat} {gd : Option (List Code)} {cn : Str} {cs : Scope} {fa : Addr} {ccd : Value} {cl : List (Str × Addr)} {outer : List Env} {A₀ : Around} {base h₀ : Heap} {L : Addr} {m : Str → Option Value} {s : Shared} {Q E : Value → Shared → Prop}
  {news : List (Addr × Obj)}
def turnF (ks : List Int) (bit : Int) : List Int := ks.take (bit / 8).toNat ++ [Builtin.bitXor (ks.getD (bit / 8).toNat 0) (2 ^ (bit % 8).toNat)] ++ ks.drop (bit / 8 + 1).toNat

set_option maxHeartbeats 4000000 in
theorem turned_spec {b : Array UInt8} {ks : List Int} {bit : Int} {t t2 : Tok} (C : Cx w p loose mean mg mb A₀ base h₀ outer L s.heap m news) (R : Rm cs dp un 2) (hk : KBw.bInts b = ks) (hlen : ks.length ≤ 10000) (h0 : 0 ≤ bit) (h1 : bit / 8 < ks.length)
  (hret : ∀ b' t h' tk', KBw.bInts b' = turnF ks bit → Fr h₀ L h' m → News h₀ L h' news → Q (.bytes b' t) { s with heap := h', toks := tk' }) :
  wpAny (model prog w) (ktrTop dp un gd cn cs L fa ccd cl outer) (call (.ref 371) [.bytes b t, .int bit t2]) Q E s := by
  have C' := C
  obtain ⟨B, F, X, N, T⟩ := C'
  have hRd := R.hd
  have hRu := R.hu
  have hin : ∀ k ∈ ks, 0 ≤ k ∧ k < 256 := fun k hk' => KBw.ints_in (hk ▸ hk')
  have hg := KBw.getD_in (j := (bit / 8).toNat) hin
  have hx := xor_byte hg.1 hg.2 (k := (bit % 8).toNat) (by omega)
  have hI : KBa.In [Builtin.bitXor (ks.getD (bit / 8).toNat 0) (2 ^ (bit % 8).toNat)] := fun n hn => by
    rw [List.mem_singleton] at hn; subst hn; exact ⟨hx.1, hx.2.1⟩
  have ht : (ks.take (bit / 8).toNat).length ≤ ks.length := by rw [List.length_take]; omega
  have hd' : (ks.drop (bit / 8 + 1).toNat).length ≤ ks.length := by rw [List.length_drop]; omega
  k_dflt (refine' enterK (binds := [(Str.ofString "octets", .bytes b t), (Str.ofString "bit", .int bit t2)]) C R ?k6 ?k7 ?k9 ?kB ?_ ?c2 ?c3 ?c4 ?c5; (((case k6 => k_is); (case k7 => k_is); (case k9 => exact BindsTo.of_eq rfl); (case c5 => decide); (case kB => exact locs rfl); (case c2 => exact rfl); (case c3 => exact rfl); (case c4 => exact rfl); k_whole; intro g' L' h' FG' F' N' B' X' T'; (try dsimp only); (try k_fold))))
  (repeat' (first | (k_unfold; (try dsimp only)) | (k_end; wrow_close) | ((with_reducible show wpAny _ _ (binaryOp PySem.Operator.LShift (Value.int _ _) (Value.int _ _)) _ _ _); with_reducible (with_reducible refine m_shl1 ?h1 ?h2 ?_; (case h1 => omega); (case h2 => omega))) | ((with_reducible show wpAny _ _ (subscriptTail (PySem.Expr.Name _ _) (PySem.Expr.Slice _ _ _ _) (Value.bytes _ _) (Value.ref _)) _ _ _); with_reducible (k_here; k_dflt (first | (refine' m_bto (s := ⟨_, _, _, _, _⟩) ?F ?N ?k3 ?k4 ?k5 ?_; (case F => k_asm); (case N => k_asm); (case k3 => walk_at "bk9"); (case k4 => walk_at "len9"); (case k5 => walk_at "len9")) | (refine' m_bfrom (s := ⟨_, _, _, _, _⟩) ?F ?N ?k3 ?k4 ?k5 ?_; (case F => k_asm); (case N => k_asm); (case k3 => walk_at "bk9"); (case k4 => walk_at "len9"); (case k5 => walk_at "len9")) | (refine' m_bmid (s := ⟨_, _, _, _, _⟩) ?F ?N ?k3 ?k4 ?k6 ?k7 ?k5 ?_; (case F => k_asm); (case N => k_asm); (case k3 => walk_at "bk9"); (case k4 => walk_at "len9"); (case k6 => walk_at "len9"); (case k7 => walk_at "len9"); (case k5 => walk_at "len9"))); intro kyb' kyh' kyt' kyk' kyF' kyN' kyhb'; (try simp only [show Int.toNat 8 = 8 by decide, show Int.toNat 6 = 6 by decide] at kyhb'); (try dsimp only))) | (with_reducible (k_here; (with_reducible show wpAny _ _ (call (Value.type "bytes") [Value.ref _]) _ _ _); k_dflt (refine' KBa.make_K ?kbaF ?kbaN ?kbah ?kbal ?kbai ?kbar ?kban ?_; (case kbaF => k_asm); (case kbaN => k_asm); (case kbah => rfl); (case kbal => kba_isList); (case kbai => kba_listInts); (case kbar => (first | (with_reducible assumption) | ((intro kykyn9 kykyhn9; (simp only [List.mem_cons, List.not_mem_nil, or_false] at kykyhn9); omega)))); (case kban => kba_size)); intro _ _ _ kyF' kyN' kykbaIn; (have kbaS := KBa.sum_in kykbaIn))) | ((with_reducible show wpAny _ _ (binaryOp PySem.Operator.FloorDiv (Value.int _ _) (Value.int _ _)) _ _ _); with_reducible (with_reducible refine m_div ?hb9 ?hb8 ?_; (case hb9 => omega); (case hb8 => omega))) | ((with_reducible show wpAny _ _ (binaryOp PySem.Operator.Mod (Value.int _ _) (Value.int _ _)) _ _ _); with_reducible (with_reducible refine m_mod ?hb9 ?_; (case hb9 => omega))) | walk1 | (dsimp only; walk1) | (leave1; try dsimp only)))
  all_goals exact hret _ _ _ _ (by assumption) (by k_asm) (by walk_at "news9")
end
section
variable {prog : Program} {w : World} {A₀ : Around} {E : Value → Shared → Prop} {s' : Shared} {base g g₀ G : Heap} {outer : List Env} {L a e t C : Addr} {m : Str → Option Value} {name : Str} {scope : Scope} {cd : Value} {cl : List (Str × Addr)}
  {vs : List Value} {b₀ : Stmt} {suite : List Stmt} {pos np : Pos} {rest : List ExceptHandler} {Q : Flow → Shared → Prop} {news : List (Addr × Obj)} {KF : Frag}
  {p : Program} {loose : List Str} {mean : ExcName → Option Value} {mg mb : Str → Option Value} {x : Str}
/-- A frame with cells catches one of the text's exceptions by its name. -/
theorem caughtX (R : RaisedS base G (envX name scope L a cd cl :: outer) e (.ref C) t vs news s'.heap) (F : Fr g L G m) (K : Below A₀ base outer g) (hsm : G.UpToSlots s'.heap) (XB : KF.In base) (TB : Top p loose mean mg mb base)
    (D : KtsDicts (outer.filterMap (·.frame)) g) (T0 : KtsTurn (outer.filterMap (·.frame)) g₀ g) (ex : nsIn KF mainGlobals x = some (some (.ref C))) (q : ktsIn KF C "BaseException" = true)
    (k : ∀ h' g', KtsTurn (outer.filterMap (·.frame)) g₀ g' → Fr g' L h' m → News g' L h' news → Below A₀ base outer g' → KF.In g' → Top p loose mean mg mb g' → KtsDicts (outer.filterMap (·.frame)) g' →
      wpAny (model prog w) ((A₀.deeper (envX name scope L a cd cl)).mark (some (.ref e))) (execs (b₀ :: suite) (envX name scope L a cd cl)) Q E { s' with heap := h' })
    (hk : scope.kind = .function := by rfl) (hx : (envX name scope L a cd cl).kindOf x = some .globalImplicit := by rfl) (hd : (x == ("__debug__" : Str)) = false := by decide)
    (hE : PassesOwnAt (model prog w) ((A₀.deeper (envX name scope L a cd cl)).mark (some (.ref e))) (A₀.deeper (envX name scope L a cd cl)) (envX name scope L a cd cl) E := by passes_own) :
    wpAny (model prog w) (A₀.deeper (envX name scope L a cd cl)) (noteFrame (.ref e) (envX name scope L a cd cl))
      (fun _ s₂ => wpAny (model prog w) (A₀.deeper (envX name scope L a cd cl)) (setFlight (.ref e) none) (fun _ s₃ =>
        wpAny (model prog w) (A₀.deeper (envX name scope L a cd cl)) (handleBy (.ref e) (envX name scope L a cd cl) (.ExceptHandler (some (.Name x np)) none (b₀ :: suite) pos :: rest)) Q E s₃) E s₂) E s' := by
  refine' elimG ?h9y1 ?k9y1
  case h9y1 =>
    intro G9 k9
    obtain ⟨⟨B, hB, hBG, hl, hfl, hnew⟩, htup⟩ := id R
    revert htup
    revert hnew
    revert hfl
    revert hl
    revert hBG
    revert hB
    revert B
    exact k9
  intro B hB hBG hl hfl hnew htup
  try clear R
  have hBG' : ∀ b o, G.get? b = some o → b ∉ (envOf name scope L a cd :: outer).filterMap (·.frame) → B.get? b = some o := hBG
  have hL : B.get? L = none := by
    refine' elimG ?h9y6 ?k9y6
    case h9y6 =>
      intro G9 k9
      obtain ⟨u9x2, ⟨L', u9x3, hf, hn', u9x4⟩, u9x5⟩ := hfl.2.2.1
      revert u9x5
      revert u9x4
      revert hn'
      revert hf
      revert u9x3
      revert L'
      revert u9x2
      exact k9
    intro _ L' _ hf hn' _ _
    obtain rfl : L = L' := Option.some.inj hf
    exact hn'
  refine wpAny_looks_onW (Around.frames_deeper K.stack) rfl hfl fun h₄ hheld₄ hsm₄ => ?_
  refine wpAny_landsW hheld₄ fun h₅ hheld hsm₅' => ?_
  have hsm₅ := hsm₄.trans hsm₅'
  refine' elimG ?h9y7 ?k9y7
  case h9y7 =>
    intro G9 k9
    obtain ⟨g₅, T₅, F₅, K₅⟩ := kts_ground K F hBG' hheld.1 (hsm.trans hsm₅)
    revert K₅
    revert F₅
    revert T₅
    revert g₅
    exact k9
  intro g₅ T₅ F₅ K₅
  refine' elimG ?h9y8 ?k9y8
  case h9y8 =>
    intro G9 k9
    obtain ⟨ob, hob, hobc⟩ := hheld.there
    revert hobc
    revert hob
    revert ob
    exact k9
  intro ob hob hobc
  refine' elimG ?h9y9 ?k9y9
  case h9y9 =>
    intro G9 k9
    obtain ⟨nm, q', N, bs, bm, hdct, sn, sub, ab, col, dd, k0, k1, k2, k3, k5, newId, hC, hbase, hbT⟩ := kts_cls (XB.keeps K₅.stays) q
    revert hbT
    revert hbase
    revert hC
    revert newId
    revert k5
    revert k3
    revert k2
    revert k1
    revert k0
    revert dd
    revert col
    revert ab
    revert sub
    revert sn
    revert hdct
    revert bm
    revert bs
    revert N
    revert q'
    revert nm
    exact k9
  intro nm q' N bs bm hdct sn sub ab col dd k0 k1 k2 k3 k5 newId hC hbase hbT
  refine wpAny_handleBy_cons (codeAny_handlers_test (nameX_K F₅ (XB.keeps K₅.stays) (topRead_of (TB.keeps K₅.stays)) ex ?_ hk hx hd)) (by intro q; cases q)
  refine wpAny_excMatches_sub_self (F₅.keep _ _ hC) hob hobc hbase (codeAny_handlers_suite ?_)
  refine lands_againW hheld fun h₆ hfl₆ hsm₆ => ?_
  refine' elimG ?h9y10 ?k9y10
  case h9y10 =>
    intro G9 k9
    obtain ⟨g₆, T₆, F₆, K₆⟩ := kts_ground K F hBG' hfl₆.1 ((hsm.trans hsm₅).trans hsm₆)
    revert K₆
    revert F₆
    revert T₆
    revert g₆
    exact k9
  intro g₆ T₆ F₆ K₆
  have Nl : News g₆ L h₆ news := fun q hq => ⟨hfl₆.1 _ _ (hl q hq).1, (fun z => by have := (hl q hq).1; rw [z, hL] at this; cases this), T₆.none_ _ (kts_none F.keep (hl q hq).2.1)⟩
  exact wpAny_passesOwnAt hE (k h₆ g₆ (T0.trans T₆) F₆ Nl K₆ (XB.keeps K₆.stays) (TB.keeps K₆.stays) (D.turn T₆))
end
section
variable {prog : Program} {w : World} {A₀ A : Around} {s : Shared} {base h₀ : Heap} {L : Addr} {m : Str → Option Value} {env : Env} {news : List (Addr × Obj)} {K : Frag} {p : Program} {loose : List Str} {mean : ExcName → Option Value} {mg mb : Str → Option Value}
    {R : Result → Shared → Prop} {name qual : Str} {params : Arguments} {body : List Stmt} {scope : Scope} {dV kV doc pm cdv ct oc : Value} {an od : Option Addr} {osl : Array (Option Value)} {f : Addr} {args : Args} {binds : List (Str × Value)}
/-- A def with cells and a try, called from the outermost frame. -/
theorem enterSC0 (B : Below A₀ base [] h₀) (F : Fr h₀ L s.heap m) (X₀ : K.In h₀) (N : News h₀ L s.heap news) (T : Top p loose mean mg mb h₀) (hA : A.frames = some [env]) (hf : env.frame = some L) (hke : env.scope.kind = .function)
    (ho : K.lookup f = some ⟨oc, od, .func (fnOf name qual params body scope dV kV doc pm an cdv ct), osl⟩) (hcd : codeIn K cdv qual = true) (hroom : A.depth < recursionLimit)
    (hbind : BindsTo s (fnOf name qual params body scope dV kV doc pm an cdv ct) args binds) (hkind : (binds.all fun y => scope.names.lookup y.1 == some .local || scope.names.lookup y.1 == some .cell) = true)
    (hnd : ((cellsFrom 0 scope.names []).map (·.1)).Nodup)
    (h : ∀ g L' h₁ tk cells, Fr h₀ L g m → Fr g L' h₁ (bindL (envOfC qual scope L' f cdv).kindOf binds fun _ => none) → News g L' h₁ (cells ++ news) →
      CellsAre (bindC (envOfC qual scope L' f cdv).kindOf binds fun _ => none) (cellsFrom (L' + 1) scope.names []) cells → Below A base [env] g → K.In g → Top p loose mean mg mb g → KtsDicts ([env].filterMap (·.frame)) g → (∀ p ∈ news, p.1 < L') →
      wpAny (model prog w) (A.deeper (envOfC qual scope L' f cdv)) (execs body (envOfC qual scope L' f cdv))
        (fun fl s' => LeaveS0 ([env].filterMap (·.frame)) h₀ L m g R (match fl with | .ret v => v | _ => .none) s')
        (fun e s' => wpAny (model prog w) (A.deeper (envOfC qual scope L' f cdv)) (leaving (envOfC qual scope L' f cdv) e) (fun _ s'' => R (.error e) s'') (fun e' s'' => R (.error e') s'') s')
        { s with heap := h₁, toks := tk })
    (hco : scope.isCoroutine = false) (hgen : scope.isGenerator = false) (hk : scope.kind = .function) : codeAny (model prog w) A (.call (.ref f) args) R s := by
  have X := X₀.keeps F.keep
  refine' elimG ?h9y1 ?k9y1
  case h9y1 =>
    intro G9 k9
    obtain ⟨FG, BG, st, lv⟩ := groundX (R := R) B F N hA hf hke
    revert lv
    revert st
    revert BG
    revert FG
    exact k9
  intro FG BG st lv
  refine codeAny_call_function hroom (X _ _ ho) rfl hco hgen rfl (codeRec_of X hcd) (hbind _ _ _ _ ?_)
  refine wpAny_newFunctionEnv_cells hk (kindsX hkind _) fun env' he s' x => ?_
  subst he
  refine ⟨(T.nolimit.keeps F.keep).keeps x.toInCall.keep, codeAny_func ?_⟩
  refine' elimG ?h9y4 ?k9y4
  case h9y4 =>
    intro G9 k9
    obtain ⟨h₁, tk, e9x2, u9x3⟩ := x.done
    revert u9x3
    revert e9x2
    revert tk
    revert h₁
    exact k9
  intro h₁ tk e9x2 _
  subst e9x2
  have hk₁ := x.toInCall.keep
  refine' elimG ?h9y5 ?k9y5
  case h9y5 =>
    have h9z := Cl.news (h₀ := s.heap) (Nat.le_refl _) fun n c hm => ⟨x.cell n c (lookup_of_mem_nodup (cellsFrom_names scope.names 0 (s.heap.objs.size + 1) [] [] rfl ▸ hnd) hm), x.above n c hm⟩
    intro G9 k9
    obtain ⟨cells, NC, Y⟩ := h9z
    revert Y
    revert NC
    revert cells
    exact k9
  intro cells NC Y
  refine' elimG ?h9y6 ?k9y6
  case h9y6 =>
    intro G9 k9
    obtain ⟨oL, es, ep, hLg, hLd, hLk, hLf⟩ := FG.ns
    revert hLf
    revert hLk
    revert hLd
    revert hLg
    revert ep
    revert es
    revert oL
    exact k9
  intro oL es ep hLg hLd hLk hLf
  have only : ∀ b, b ∈ ([env] : List Env).filterMap (·.frame) → b = L := fun b hb => (envs_mem hf hb).elim id fun z => nomatch z
  refine wpAny_mono (h _ s.heap.objs.size h₁ tk cells FG ⟨x.toInCall.ns, fun b o e => hk₁ b o (of_hideAll _ e), Nat.le_of_eq (hideAll_size _ _)⟩ (fun p hp => ?_) Y BG (X₀.keeps st) (T.keeps st) (fun b hb => ⟨oL, es, ep, by rw [only b hb]; exact hLg, hLd⟩) (fun p hp => Heap.lt_size (N p hp).1)) (fun fl s' hl => ?_) fun _ _ y => y
  · rcases List.mem_append.mp hp with hp | hp
    · refine ⟨(NC p hp).1, (NC p hp).2.1, ?_⟩
      cases q : (hideAll s.heap (news.map (·.1))).get? p.1 with
      | none => rfl
      | some o => have := of_hideAll _ q; rw [(NC p hp).2.2] at this; cases this
    · exact ⟨hk₁ _ _ (N p hp).1, Nat.ne_of_lt (Heap.lt_size (N p hp).1), hideAll_none _ (List.mem_map_of_mem hp)⟩
  · refine' elimG ?h9y7 ?k9y7
    case h9y7 =>
      intro G9 k9
      obtain ⟨g', L', m', news', T', F', N', k⟩ := id hl
      revert k
      revert N'
      revert F'
      revert T'
      revert news'
      revert m'
      revert L'
      revert g'
      exact k9
    intro g' L' m' news' T' F' N' k
    try clear hl
    have nL₀ : h₀.get? L = none := kts_self F
    refine' elimG ?h9y8 ?k9y8
    case h9y8 =>
      intro G9 k9
      obtain ⟨sl, hs⟩ := T'.up hLg
      revert hs
      revert sl
      exact k9
    intro sl hs
    refine k ⟨⟨_, es, ep, F'.keep _ _ hs, hLd, hLk, hLf⟩, fun b o e => F'.keep b o (T'.other b o (st b o e) (fun q => by rw [only b q, nL₀] at e; cases e)), F.above⟩ fun p hp => ⟨(N' p hp).1, fun q => ?_, ?_⟩
    · have := (N' p hp).2.2; rw [q, hs] at this; cases this
    · cases q : h₀.get? p.1 with
      | none => rfl
      | some o =>
        refine' elimG ?h9y9 ?k9y9
        case h9y9 =>
          intro G9 k9
          obtain ⟨sl', hs'⟩ := T'.up (st _ _ q)
          revert hs'
          revert sl'
          exact k9
        intro sl' hs'
        have := (N' p hp).2.2
        rw [hs'] at this
        cases this
end
theorem w16_word {n : Int} (h0 : 0 ≤ n) (h1 : n < 65536) : n / 256 % 256 * 256 + n % 256 = n := by omega
theorem sum_pack {sp tp c : Int} {ks : List Int} (h1 : 0 ≤ sp ∧ sp < 65536) (h2 : 0 ≤ tp ∧ tp < 65536) (h3 : 0 ≤ c ∧ c < 65536) (hl : ks.length < 1000) : sumBE (packF sp tp c ks) = sp + tp + (8 + ks.length) + c + sumBE ks := by
  show sp / 256 % 256 * 256 + sp % 256 + (tp / 256 % 256 * 256 + tp % 256 + ((8 + (ks.length : Int)) / 256 % 256 * 256 + (8 + (ks.length : Int)) % 256 + (c / 256 % 256 * 256 + c % 256 + sumBE ks))) = _
  rw [w16_word h1.1 h1.2, w16_word h2.1 h2.2, w16_word h3.1 h3.2, w16_word (by omega) (by omega)]
  omega
theorem foldI_full {n : Int} (h : 0 < n) : 65535 - foldI n = 0 ↔ n % 65535 = 0 := by unfold foldI; split <;> omega
theorem foldI_mod {n : Int} (h : 0 ≤ n) : foldI n % 65535 = n % 65535 := by unfold foldI; split <;> omega
theorem chk_mod {n f : Int} (hf : 0 ≤ f ∧ f ≤ 65535) (hm : f % 65535 = n % 65535) : (n + (if 65535 - f = 0 then 65535 else 65535 - f)) % 65535 = 0 := by split <;> omega
theorem chk_in {f : Int} (hf : 0 ≤ f ∧ f ≤ 65535) : 0 < (if 65535 - f = 0 then 65535 else 65535 - f) ∧ (if 65535 - f = 0 then 65535 else 65535 - f) < (65536 : Int) := by split <;> omega
theorem sum_out {p a b c d e : Int} : p + (a + b + c + d + e) = p + (a + b + c + 0 + e) + d := by omega
theorem sum_pos {p a b s : Int} {n : Nat} (hp : 0 ≤ p) (ha : 0 ≤ a) (hb : 0 ≤ b) (c : Int) (hc : 0 ≤ c) (hs : 0 ≤ s) : 0 < p + (a + b + (8 + (n : Int)) + c + s) := by omega
theorem chk_ok {x y sp tp : Int} {ks : List Int} (hx : 0 ≤ x) (hy : 0 ≤ y) (h1 : 0 ≤ sp ∧ sp < 65536) (h2 : 0 ≤ tp ∧ tp < 65536) (hin : ∀ k ∈ ks, 0 ≤ k ∧ k < 256) (hl : ks.length < 1000) :
    0 < chkI x y sp tp ks ∧ chkI x y sp tp ks < 65536 ∧ (psI x y (8 + ks.length) + sumBE (packF sp tp (chkI x y sp tp ks) ks)) % 65535 = 0 := by
  have hz : sumBE (w16 sp ++ w16 tp ++ w16 (8 + ks.length) ++ w16 0 ++ ks) = sp + tp + (8 + ks.length) + 0 + sumBE ks := sum_pack h1 h2 (c := 0) ⟨by decide, by decide⟩ hl
  have hpos := Int.le_of_lt (sum_pos (n := ks.length) (psI_nn hx hy (nn8 (n := ks.length))) h1.1 h2.1 0 (by decide) (sumBE_nn hin))
  have hf := foldI_nn hpos
  have hm := foldI_mod hpos
  have e : chkI x y sp tp ks = if 65535 - foldI (psI x y (8 + ks.length) + (sp + tp + (8 + ks.length) + 0 + sumBE ks)) = 0 then 65535 else 65535 - foldI (psI x y (8 + ks.length) + (sp + tp + (8 + ks.length) + 0 + sumBE ks)) := by
    unfold chkI
    rw [hz]
  have hc : 0 < chkI x y sp tp ks ∧ chkI x y sp tp ks < 65536 := by rw [e]; exact chk_in hf
  refine ⟨hc.1, hc.2, ?_⟩
  rw [sum_pack h1 h2 ⟨Int.le_of_lt hc.1, hc.2⟩ hl, e, sum_out]
  exact chk_mod hf hm
theorem word_cons2 {a b : Int} {l : List Int} {i : Nat} : word (a :: b :: l) (i + 2) = word l i := by simp [word]
theorem word_zero {a b : Int} {l : List Int} : word (a :: b :: l) 0 = a * 256 + b := by simp [word]
theorem pack_len {p q c : Int} {ks : List Int} : (packF p q c ks).length = 8 + ks.length := by simp [packF]; omega
theorem n8 {n : Nat} : (8 + (n : Int)).toNat = 8 + n := by omega
theorem a8 {n : Nat} : ¬ ((8 + n : Nat) : Int) < 8 := by omega
theorem b8 {n : Nat} : ¬ (8 + (n : Int) < 8 ∨ ((8 + n : Nat) : Int) < 8 + (n : Int)) := by omega
theorem lt8 {n : Nat} (h : n < 1000) : 8 + (n : Int) < 65536 := by omega
theorem pack_w4 {sp tp c : Int} {ks : List Int} (hl : ks.length < 1000) : word (packF sp tp c ks) 4 = 8 + ks.length := w16_word nn8 (lt8 hl)
theorem pack_w6 {sp tp c : Int} {ks : List Int} (h : 0 ≤ c ∧ c < 65536) : word (packF sp tp c ks) 6 = c := w16_word h.1 h.2
/-- What unpack reads of a whole datagram with octets behind it. -/
theorem unpack_pack {x y sp tp c : Int} {ks zs : List Int} (h1 : 0 ≤ sp ∧ sp < 65536) (h2 : 0 ≤ tp ∧ tp < 65536) (h3 : 0 ≤ c ∧ c < 65536) (hl : ks.length < 1000) (hc : c = 0 ∨ 65535 - foldI (psI x y (8 + ks.length) + sumBE (packF sp tp c ks)) = 0) :
    unpackF x y (packF sp tp c ks ++ zs) = some (sp, tp, ks) := by
  have hlen : (packF sp tp c ks).length = 8 + ks.length := pack_len
  have hw4 : word (packF sp tp c ks ++ zs) 4 = 8 + ks.length := by
    show (8 + (ks.length : Int)) / 256 % 256 * 256 + (8 + (ks.length : Int)) % 256 = _
    exact w16_word nn8 (lt8 hl)
  have htk : (packF sp tp c ks ++ zs).take (word (packF sp tp c ks ++ zs) 4).toNat = packF sp tp c ks := by
    rw [hw4, show (8 + (ks.length : Int)).toNat = (packF sp tp c ks).length by rw [hlen]; exact n8]
    exact List.take_left'  rfl
  have hw0 : word (packF sp tp c ks) 0 = sp := w16_word h1.1 h1.2
  have hw2 : word (packF sp tp c ks) 2 = tp := w16_word h2.1 h2.2
  have hw6 : word (packF sp tp c ks) 6 = c := w16_word h3.1 h3.2
  rw [u_ok (by rw [List.length_append, hlen]; omega) (by rw [hw4, List.length_append, hlen]; omega) (by rw [htk, hw6, hw4]; exact hc), htk, hw0, hw2]
  rfl
theorem sumBE_set : ∀ (l : List Int) (i : Nat) (v : Int), i < l.length → sumBE (l.set i v) = sumBE l + (v - l.getD i 0) * (if i % 2 = 0 then 256 else 1)
  | [], i, v, h => absurd h (Nat.not_lt_zero _)
  | [a], i, v, h => by
    have : i = 0 := by simp only [List.length_cons, List.length_nil] at h; omega
    subst this
    simp only [List.set_cons_zero, sumBE, List.getD_cons_zero]
    rw [if_pos (by decide)]; omega
  | a :: b :: r, 0, v, h => by
    simp only [List.set_cons_zero, sumBE, List.getD_cons_zero]
    rw [if_pos (by decide)]; omega
  | a :: b :: r, 1, v, h => by
    simp only [List.set_cons_succ, List.set_cons_zero, sumBE, List.getD_cons_succ, List.getD_cons_zero]
    rw [if_neg (by decide)]; omega
  | a :: b :: r, i + 2, v, h => by
    have ih := sumBE_set r i v (by simp only [List.length_cons] at h; omega)
    simp only [List.set_cons_succ, sumBE, List.getD_cons_succ]
    rw [ih, show (i + 2) % 2 = i % 2 by omega]
    omega
theorem turn_set {ks : List Int} {bit : Int} (h0 : 0 ≤ bit) (h1 : bit / 8 < ks.length) : turnF ks bit = ks.set (bit / 8).toNat (Builtin.bitXor (ks.getD (bit / 8).toNat 0) (2 ^ (bit % 8).toNat)) := by
  unfold turnF
  rw [List.set_eq_take_append_cons_drop, if_pos (by omega), show (bit / 8 + 1).toNat = (bit / 8).toNat + 1 by omega]
  simp
theorem word_set {l : List Int} {i j : Nat} {v : Int} (h : i ≠ j ∧ i ≠ j + 1) : word (l.set i v) j = word l j := by
  unfold word
  simp only [List.getD_eq_getElem?_getD]
  rw [List.getElem?_set_ne h.1, List.getElem?_set_ne h.2]
theorem pw8 : ∀ k : Fin 8, ∀ b : Bool, ((2 : Int) ^ k.val * (if b then 256 else 1)) % 65535 ≠ 0 ∧ (-((2 : Int) ^ k.val * (if b then 256 else 1))) % 65535 ≠ 0 := by decide +kernel
theorem w16_in {n k : Int} (h : k ∈ w16 n) : 0 ≤ k ∧ k < 256 := by
  simp only [w16, List.mem_cons, List.not_mem_nil, or_false] at h
  omega
theorem packF_in {sp tp c : Int} {ks : List Int} (hin : ∀ k ∈ ks, 0 ≤ k ∧ k < 256) : ∀ k ∈ packF sp tp c ks, 0 ≤ k ∧ k < 256 := by
  intro k hk
  simp only [packF, List.mem_append] at hk
  rcases hk with (((hk | hk) | hk) | hk) | hk
  · exact w16_in hk
  · exact w16_in hk
  · exact w16_in hk
  · exact w16_in hk
  · exact hin k hk
theorem mod_off {a d : Int} (h : a % 65535 = 0) (hd : d % 65535 ≠ 0) : (a + d) % 65535 ≠ 0 := by omega
theorem pos_mod {a : Int} (h : 0 ≤ a) (hm : a % 65535 ≠ 0) : 0 < a := by omega
theorem bit_at {bit : Int} {n i : Nat} (h0 : 0 ≤ bit) (hb : bit / 8 < n) (hp : bit / 8 < 4 ∨ 8 ≤ bit / 8) : (bit / 8).toNat < n ∧ ((bit / 8).toNat ≠ 4 ∧ (bit / 8).toNat ≠ 4 + 1) ∧ ((bit / 8).toNat ≠ 6 ∧ (bit / 8).toNat ≠ 6 + 1) := by omega
theorem add_off {a b : Int} : a + b - a = b := by omega
theorem sub_off {a b : Int} : a - b - a = -b := by omega
theorem bit_lt {bit : Int} : (bit % 8).toNat < 8 := by omega
/-- A bit turned in a datagram, but for its size and its sum, is met. -/
theorem turned_none {x y sp tp c : Int} {ks : List Int} {bit : Int} (h1 : 0 ≤ sp ∧ sp < 65536) (h2 : 0 ≤ tp ∧ tp < 65536) (h3 : 0 < c ∧ c < 65536) (hl : ks.length < 1000) (hin : ∀ k ∈ ks, 0 ≤ k ∧ k < 256)
    (hx : 0 ≤ x) (hy : 0 ≤ y) (hc : (psI x y (8 + ks.length) + sumBE (packF sp tp c ks)) % 65535 = 0) (h0 : 0 ≤ bit) (hb : bit / 8 < (packF sp tp c ks).length) (hp : bit / 8 < 4 ∨ 8 ≤ bit / 8) :
    unpackF x y (turnF (packF sp tp c ks) bit) = none := by
  have hpin := packF_in (sp := sp) (tp := tp) (c := c) hin
  obtain ⟨hi, hi4, hi6⟩ := bit_at (i := 0) h0 hb hp
  have hg := KBw.getD_in (j := (bit / 8).toNat) hpin
  have hv := xor_byte hg.1 hg.2 (k := (bit % 8).toNat) bit_lt
  have hsz := sumBE_set (packF sp tp c ks) (bit / 8).toNat (Builtin.bitXor ((packF sp tp c ks).getD (bit / 8).toNat 0) (2 ^ (bit % 8).toNat)) hi
  have hts := turn_set h0 hb
  have hw4 : word (turnF (packF sp tp c ks) bit) 4 = 8 + ks.length := by rw [hts, word_set hi4, pack_w4 hl]
  have hw6 : word (turnF (packF sp tp c ks) bit) 6 = c := by rw [hts, word_set hi6, pack_w6 ⟨Int.le_of_lt h3.1, h3.2⟩]
  have htl : (turnF (packF sp tp c ks) bit).length = 8 + ks.length := by rw [hts, List.length_set, pack_len]
  have htk : (turnF (packF sp tp c ks) bit).take (word (turnF (packF sp tp c ks) bit) 4).toNat = turnF (packF sp tp c ks) bit := List.take_of_length_le (by rw [htl, hw4, n8]; exact Nat.le_refl _)
  have htin : ∀ k ∈ turnF (packF sp tp c ks) bit, 0 ≤ k ∧ k < 256 := by
    intro k hk
    rw [hts] at hk
    rcases List.mem_or_eq_of_mem_set hk with hk | rfl
    · exact hpin k hk
    · exact ⟨hv.1, hv.2.1⟩
  have hm : (psI x y (8 + ks.length) + sumBE (turnF (packF sp tp c ks) bit)) % 65535 ≠ 0 := by
    rw [hts, hsz, ← Int.add_assoc]
    have hk8 := pw8 ⟨(bit % 8).toNat, bit_lt⟩ (decide ((bit / 8).toNat % 2 = 0))
    simp only [decide_eq_true_eq] at hk8
    rcases hv.2.2 with hv | hv
    · rw [hv, add_off]
      exact mod_off hc hk8.1
    · rw [hv, sub_off, Int.neg_mul]
      exact mod_off hc hk8.2
  refine u_sum (by rw [htl]; exact a8) (by rw [hw4, htl]; exact b8) (by rw [htk, hw6]; exact Int.ne_of_gt h3.1) ?_
  rw [htk, hw4]
  intro e
  exact hm ((foldI_full (pos_mod (Int.add_nonneg (psI_nn hx hy nn8) (sumBE_nn htin)) hm)).mp e)
/-- A datagram that is cut is met. -/
theorem cut_none {x y sp tp c : Int} {ks : List Int} {j : Nat} (hl : ks.length < 1000) (hj : j < (packF sp tp c ks).length) : unpackF x y ((packF sp tp c ks).take j) = none := by
  have hlen : (packF sp tp c ks).length = 8 + ks.length := pack_len
  have htl : ((packF sp tp c ks).take j).length = j := by rw [List.length_take]; omega
  by_cases h8 : j < 8
  · exact u_short (by omega)
  · have hw : word ((packF sp tp c ks).take j) 4 = word (packF sp tp c ks) 4 := by
      unfold word
      simp only [List.getD_eq_getElem?_getD]
      rw [List.getElem?_take_of_lt (by omega), List.getElem?_take_of_lt (by omega)]
    have hw4' : word (packF sp tp c ks) 4 = 8 + ks.length := pack_w4 hl
    exact u_size (by omega) (.inr (by rw [hw, hw4', htl]; omega))
/-- The five addresses of the law's. -/
def addrs : List Int := [0, 1, 2147483648, 4294967295, 3232235521]
theorem xor32 : ∀ i : Fin 5, ∀ k : Fin 32, 0 ≤ Builtin.bitXor (addrs.getD i.val 0) (2 ^ k.val) ∧ (Builtin.bitXor (addrs.getD i.val 0) (2 ^ k.val) / 65536 + Builtin.bitXor (addrs.getD i.val 0) (2 ^ k.val) % 65536 - (addrs.getD i.val 0 / 65536 + addrs.getD i.val 0 % 65536)) % 65535 ≠ 0 := by decide +kernel
theorem xor_addr {x : Int} {k : Nat} (hx : x ∈ addrs) (hk : k < 32) : 0 ≤ x ∧ 0 ≤ Builtin.bitXor x (2 ^ k) ∧ (Builtin.bitXor x (2 ^ k) / 65536 + Builtin.bitXor x (2 ^ k) % 65536 - (x / 65536 + x % 65536)) % 65535 ≠ 0 := by
  simp only [addrs, List.mem_cons, List.not_mem_nil, or_false] at hx
  rcases hx with rfl | rfl | rfl | rfl | rfl
  · exact ⟨by decide, xor32 0 ⟨k, hk⟩⟩
  · exact ⟨by decide, xor32 1 ⟨k, hk⟩⟩
  · exact ⟨by decide, xor32 2 ⟨k, hk⟩⟩
  · exact ⟨by decide, xor32 3 ⟨k, hk⟩⟩
  · exact ⟨by decide, xor32 4 ⟨k, hk⟩⟩
theorem addr_mod {A B Y z1 z2 p1 p2 S : Int} (m1 : p1 % 65535 = (A + Y + 17 + z1 + z2) % 65535) (m2 : p2 % 65535 = (B + Y + 17 + z1 + z2) % 65535) (hd : (B - A) % 65535 ≠ 0) (hc : (p1 + S) % 65535 = 0) : (p2 + S) % 65535 ≠ 0 := by omega
/-- A bit turned in an address is met. -/
theorem addr_none {x y sp tp c : Int} {ks : List Int} {k : Nat} (h1 : 0 ≤ sp ∧ sp < 65536) (h2 : 0 ≤ tp ∧ tp < 65536) (h3 : 0 < c ∧ c < 65536) (hl : ks.length < 1000) (hin : ∀ k ∈ ks, 0 ≤ k ∧ k < 256)
    (hx : x ∈ addrs) (hk : k < 32) (hy : 0 ≤ y) (hc : (psI x y (8 + ks.length) + sumBE (packF sp tp c ks)) % 65535 = 0) : unpackF (Builtin.bitXor x (2 ^ k)) y (packF sp tp c ks) = none := by
  obtain ⟨hx0, hx1, hd⟩ := xor_addr hx hk
  have hw4 : word (packF sp tp c ks) 4 = 8 + ks.length := pack_w4 hl
  have htk : (packF sp tp c ks).take (word (packF sp tp c ks) 4).toNat = packF sp tp c ks := List.take_of_length_le (by rw [pack_len, hw4, n8]; exact Nat.le_refl _)
  have m1 : psI x y (8 + ks.length) % 65535 = _ := foldI_mod (psArg_nn hx0 hy nn8)
  have m2 : psI (Builtin.bitXor x (2 ^ k)) y (8 + ks.length) % 65535 = _ := foldI_mod (psArg_nn hx1 hy nn8)
  have hm := addr_mod m1 m2 hd hc
  refine u_sum (by rw [pack_len]; exact a8) (by rw [hw4, pack_len]; exact b8) (by rw [htk, pack_w6 ⟨Int.le_of_lt h3.1, h3.2⟩]; exact Int.ne_of_gt h3.1) ?_
  rw [htk, hw4]
  intro e
  exact hm ((foldI_full (pos_mod (Int.add_nonneg (psI_nn hx1 hy nn8) (sumBE_nn (packF_in hin))) hm)).mp e)
theorem while_skip {prog : Program} {w : World} {A : Around} {E : Value → Shared → Prop} {s : Shared} {env : Env} {test : PySem.Expr} {body orelse : List Stmt} {Q : Flow → Shared → Prop} {pos : Pos} (hE : PassesOwn (model prog w) A env E)
    (turn : wpAny (model prog w) A (isTrue test env (eval test env)) (fun b s₂ => if b = true then False else wpAny (model prog w) A (execs orelse env) Q E s₂) E s) : wpAny (model prog w) A (exec (.While test body orelse pos) env) Q E s := by
  refine while_inv (α := Unit) hE (fun _ s' => s' = s) (fun _ => 0) ?_ () s rfl
  rintro _ _ rfl
  refine wpAny_mono turn (fun b s₂ h₂ => ?_) fun _ _ e => e
  cases b with
  | true => simp at h₂
  | false => simpa using h₂
theorem toList_ints (b : Array UInt8) : (KBw.bInts b).map (fun n => n.toNat.toUInt8) = b.toList := by
  unfold KBw.bInts
  rw [List.map_map]
  exact (List.map_congr_left (g := _root_.id) fun c _ => by simp [Function.comp]).trans (List.map_id _)
theorem bytes_eq {b c : Array UInt8} {ks ls : List Int} (hb : KBw.bInts b = ks) (hc : KBw.bInts c = ls) : (b.toList == c.toList) = decide (ks = ls) := by
  rw [Bool.eq_iff_iff, beq_iff_eq, decide_eq_true_eq, ← hb, ← hc]
  exact ⟨fun h => by unfold KBw.bInts; rw [h], fun h => by rw [← toList_ints b, ← toList_ints c, h]⟩
section
variable {prog : Program} {w : World} {A : Around} {E : Value → Shared → Prop} {s : Shared} {t u : Tok} {Q : Value → Shared → Prop} {b c : Array UInt8} {ks ls : List Int}
theorem m_eqBytes (hb : KBw.bInts b = ks) (hc : KBw.bInts c = ls) (h : Q (.bool (decide (ks = ls))) s) : wpAny (model prog w) A (compareOp .Eq (.bytes b t) (.bytes c u)) Q E s :=
  eq_bytes (by rw [bytes_eq hb hc]; exact h)
end
--M<
local macro_rules | `(tactic| walk_at "bk9") => `(tactic| first | with_reducible assumption | exact KBa.ints_make (by with_reducible assumption) | exact KBw.ints_list _)
local macro_rules | `(tactic| walk_at "len9") => `(tactic| first | assumption | omega | ((simp only [packF, List.length_append, List.length_cons, List.length_nil, List.length_take, List.length_drop]); omega))
--M>
theorem zero_chk {q : Int} (h0 : 0 ≤ q) (h1 : q < 60000) : chkI 0 0 0 (1 + q) [(65535 - (17 + 10 + 10 + (1 + q))) / 256, (65535 - (17 + 10 + 10 + (1 + q))) % 256] = 65535 := by
  have hz := sum_pack (sp := 0) (tp := 1 + q) (c := 0) (ks := [(65535 - (17 + 10 + 10 + (1 + q))) / 256, (65535 - (17 + 10 + 10 + (1 + q))) % 256]) (by omega) (by omega) (by omega) (by simp)
  have hz' : sumBE (w16 0 ++ w16 (1 + q) ++ w16 (8 + ((2 : Nat) : Int)) ++ w16 0 ++ [(65535 - (17 + 10 + 10 + (1 + q))) / 256, (65535 - (17 + 10 + 10 + (1 + q))) % 256]) = 0 + (1 + q) + (8 + ((2 : Nat) : Int)) + 0 + sumBE [(65535 - (17 + 10 + 10 + (1 + q))) / 256, (65535 - (17 + 10 + 10 + (1 + q))) % 256] := hz
  have hp : psI 0 0 (8 + ((2 : Nat) : Int)) = 27 := by decide
  show (if 65535 - foldI (psI 0 0 (8 + ((2 : Nat) : Int)) + sumBE (w16 0 ++ w16 (1 + q) ++ w16 (8 + ((2 : Nat) : Int)) ++ w16 0 ++ [(65535 - (17 + 10 + 10 + (1 + q))) / 256, (65535 - (17 + 10 + 10 + (1 + q))) % 256])) = 0 then (65535 : Int) else _) = 65535
  rw [if_pos]
  rw [hz', hp]
  simp only [sumBE]
  unfold foldI
  split <;> omega
theorem zero_read {q : Int} (h0 : 0 ≤ q) (h1 : q < 60000) : unpackF 0 0 (packF 0 (1 + q) (chkI 0 0 0 (1 + q) [(65535 - (17 + 10 + 10 + (1 + q))) / 256, (65535 - (17 + 10 + 10 + (1 + q))) % 256]) [(65535 - (17 + 10 + 10 + (1 + q))) / 256, (65535 - (17 + 10 + 10 + (1 + q))) % 256]) = some (0, 1 + q, [(65535 - (17 + 10 + 10 + (1 + q))) / 256, (65535 - (17 + 10 + 10 + (1 + q))) % 256]) := by
  have hin : ∀ k ∈ [(65535 - (17 + 10 + 10 + (1 + q))) / 256, (65535 - (17 + 10 + 10 + (1 + q))) % 256], 0 ≤ k ∧ k < 256 := by
    intro k hk
    simp only [List.mem_cons, List.not_mem_nil, or_false] at hk
    omega
  obtain ⟨c1, c2, c3⟩ := chk_ok (x := 0) (y := 0) (sp := 0) (tp := 1 + q) (by decide) (by decide) (by omega) (by omega) hin (by simp)
  have hs := sum_pack (sp := 0) (tp := 1 + q) (c := chkI 0 0 0 (1 + q) [(65535 - (17 + 10 + 10 + (1 + q))) / 256, (65535 - (17 + 10 + 10 + (1 + q))) % 256]) (ks := [(65535 - (17 + 10 + 10 + (1 + q))) / 256, (65535 - (17 + 10 + 10 + (1 + q))) % 256]) (by omega) (by omega) (by omega) (by simp)
  have hn := sumBE_nn hin
  have hp : 0 ≤ psI 0 0 (8 + (([(65535 - (17 + 10 + 10 + (1 + q))) / 256, (65535 - (17 + 10 + 10 + (1 + q))) % 256] : List Int).length : Int)) := psI_nn (by decide) (by decide) nn8
  have := unpack_pack (x := 0) (y := 0) (sp := 0) (tp := 1 + q) (c := chkI 0 0 0 (1 + q) [(65535 - (17 + 10 + 10 + (1 + q))) / 256, (65535 - (17 + 10 + 10 + (1 + q))) % 256]) (ks := [(65535 - (17 + 10 + 10 + (1 + q))) / 256, (65535 - (17 + 10 + 10 + (1 + q))) % 256]) (zs := []) (by omega) (by omega) (by omega) (by simp) (.inr ((foldI_full (by rw [hs]; omega)).mpr c3))
  rwa [List.append_nil] at this
section
variable {prog : Program} {w : World} {p : Program} {loose : List Str} {mean : ExcName → Option Value} {mg mb : Str → Option Value}
  {dp un : Nat} {gd : Option (List Code)} {cn : Str} {cs : Scope} {fa : Addr} {ccd : Value} {cl : List (Str × Addr)} {outer : List Env} {A₀ : Around} {base h₀ : Heap} {L : Addr} {m : Str → Option Value} {s : Shared} {Q E : Value → Shared → Prop}
  {news : List (Addr × Obj)}

set_option maxHeartbeats 4000000 in
theorem zero_core {src : Addr} {o : Obj} (hne : ∀ q ∈ news, q.1 ≠ src) (hP : PoolO o) (C : Cx w p loose mean mg mb A₀ base h₀ outer L s.heap m ((src, o) :: news)) (R : Rm cs dp un 6)
  (hret : ∀ o' h' tk', PoolO o' → Fr h₀ L h' m → News h₀ L h' ((src, o') :: news) → Q (.bool true) { s with heap := h', toks := tk' }) :
  wpAny (model prog w) (ktrTop dp un gd cn cs L fa ccd cl outer) (call (.ref 383) [.ref src]) Q E s := by
  have C' := C
  obtain ⟨B, F, X, N, T⟩ := C'
  have hRd := R.hd
  have hRu := R.hu
  k_dflt (refine' enterK (binds := [(Str.ofString "source", .ref src)]) C R ?k6 ?k7 ?k9 ?kB ?_ ?c2 ?c3 ?c4 ?c5; (((case k6 => k_is); (case k7 => k_is); (case k9 => exact BindsTo.of_eq rfl); (case c5 => decide); (case kB => exact locs rfl); (case c2 => exact rfl); (case c3 => exact rfl); (case c4 => exact rfl); k_whole; intro g' L' h' FG' F' N' B' X' T'; (try dsimp only); (try k_fold))))
  (repeat' (first | (k_unfold; (try dsimp only)) | (k_end; wrow_close) | (with_reducible (k_here; (with_reducible show wpAny _ _ (PySem.call (Value.ref 296) [_, _, _, _, _] _) _ _ _); k_dflt (refine' pack_spec ?c1 ?c2 ?c3 ?c4 ?c5 ?c6 ?_; (case c1 => walk_at "cx9"); (case c2 => walk_at "rm9"); (case c3 => first | with_reducible assumption | exact KBa.ints_make (by with_reducible assumption)); (case c4 => walk_at "len9"); (case c5 => first | decide | omega); (case c6 => first | decide | omega)); intro kyb' kyt' kyh' kytk' kyhb' kyF' kyN'; (try k_fold))) | (with_reducible (k_here; (with_reducible show wpAny _ _ (PySem.call (Value.ref 317) _ _) _ _ _); k_dflt (refine' take_spec ?c1 ?c2 ?c3 ?c4 ?c7 ?c8 ?_; (case c3 => walk_at "cx9"); (case c1 => k_updF); (case c2 => with_reducible assumption); (case c4 => walk_at "rm9"); (case c7 => first | decide | omega); (case c8 => first | decide | omega)); intro kyk' kyt' kyo' kyh' kytk' kyhk0' kyhk1' kyhP' kyF' kyN'; (try dsimp only at kyN'); (try k_fold))) | ((with_reducible show wpAny _ _ (compareOp PySem.CmpOp.Eq (Value.bytes _ _) (Value.bytes _ _)) _ _ _); with_reducible (k_dflt (refine' m_eqBytes ?k1 ?k2 ?_; (case k1 => walk_at "bk9"); (case k2 => walk_at "bk9")))) | ((with_reducible show wpAny _ _ (subscriptTail (PySem.Expr.Name _ _) (PySem.Expr.Slice _ _ _ _) (Value.bytes _ _) (Value.ref _)) _ _ _); with_reducible (k_here; k_dflt (first | (refine' m_bto (s := ⟨_, _, _, _, _⟩) ?F ?N ?k3 ?k4 ?k5 ?_; (case F => k_asm); (case N => k_asm); (case k3 => walk_at "bk9"); (case k4 => walk_at "len9"); (case k5 => walk_at "len9")) | (refine' m_bfrom (s := ⟨_, _, _, _, _⟩) ?F ?N ?k3 ?k4 ?k5 ?_; (case F => k_asm); (case N => k_asm); (case k3 => walk_at "bk9"); (case k4 => walk_at "len9"); (case k5 => walk_at "len9")) | (refine' m_bmid (s := ⟨_, _, _, _, _⟩) ?F ?N ?k3 ?k4 ?k6 ?k7 ?k5 ?_; (case F => k_asm); (case N => k_asm); (case k3 => walk_at "bk9"); (case k4 => walk_at "len9"); (case k6 => walk_at "len9"); (case k7 => walk_at "len9"); (case k5 => walk_at "len9"))); intro kyb' kyh' kyt' kyk' kyF' kyN' kyhb'; (try simp only [show Int.toNat 8 = 8 by decide, show Int.toNat 6 = 6 by decide] at kyhb'); (try dsimp only))) | (with_reducible (k_here; (with_reducible show wpAny _ _ (call (Value.type "bytes") [Value.ref _]) _ _ _); k_dflt (refine' KBa.make_K ?kbaF ?kbaN ?kbah ?kbal ?kbai ?kbar ?kban ?_; (case kbaF => k_asm); (case kbaN => k_asm); (case kbah => rfl); (case kbal => kba_isList); (case kbai => kba_listInts); (case kbar => (first | (first | with_reducible assumption | (intro kykyn9 kykyhn9; (simp only [List.mem_cons, List.not_mem_nil, or_false] at kykyhn9); omega)) | (with_reducible assumption) | ((intro kykyn9 kykyhn9; (simp only [List.mem_cons, List.not_mem_nil, or_false] at kykyhn9); omega)))); (case kban => kba_size)); intro _ _ _ kyF' kyN' kykbaIn; (have kbaS := KBa.sum_in kykbaIn))) | ((with_reducible show wpAny _ _ (binaryOp PySem.Operator.FloorDiv (Value.int _ _) (Value.int _ _)) _ _ _); with_reducible (with_reducible refine m_div ?hb9 ?hb8 ?_; (case hb9 => omega); (case hb8 => omega))) | ((with_reducible show wpAny _ _ (binaryOp PySem.Operator.Mod (Value.int _ _) (Value.int _ _)) _ _ _); with_reducible (with_reducible refine m_mod ?hb9 ?_; (case hb9 => omega))) | walk1 | (dsimp only; walk1) | (leave1; try dsimp only)))
  unfold Stop
  refine while_skip (by passes_own) ?_
  (repeat' (first | (k_unfold; (try dsimp only)) | (k_end; wrow_close) | (with_reducible (k_here; (with_reducible show wpAny _ _ (PySem.call (Value.ref 296) [_, _, _, _, _] _) _ _ _); k_dflt (refine' pack_spec ?c1 ?c2 ?c3 ?c4 ?c5 ?c6 ?_; (case c1 => walk_at "cx9"); (case c2 => walk_at "rm9"); (case c3 => first | with_reducible assumption | exact KBa.ints_make (by with_reducible assumption)); (case c4 => walk_at "len9"); (case c5 => first | decide | omega); (case c6 => first | decide | omega)); intro kyb' kyt' kyh' kytk' kyhb' kyF' kyN'; (try k_fold))) | (with_reducible (k_here; (with_reducible show wpAny _ _ (PySem.call (Value.ref 317) _ _) _ _ _); k_dflt (refine' take_spec ?c1 ?c2 ?c3 ?c4 ?c7 ?c8 ?_; (case c3 => walk_at "cx9"); (case c1 => k_updF); (case c2 => with_reducible assumption); (case c4 => walk_at "rm9"); (case c7 => first | decide | omega); (case c8 => first | decide | omega)); intro kyk' kyt' kyo' kyh' kytk' kyhk0' kyhk1' kyhP' kyF' kyN'; (try dsimp only at kyN'); (try k_fold))) | ((with_reducible show wpAny _ _ (compareOp PySem.CmpOp.Eq (Value.bytes _ _) (Value.bytes _ _)) _ _ _); with_reducible (k_dflt (refine' m_eqBytes ?k1 ?k2 ?_; (case k1 => walk_at "bk9"); (case k2 => walk_at "bk9")))) | ((with_reducible show wpAny _ _ (subscriptTail (PySem.Expr.Name _ _) (PySem.Expr.Slice _ _ _ _) (Value.bytes _ _) (Value.ref _)) _ _ _); with_reducible (k_here; k_dflt (first | (refine' m_bto (s := ⟨_, _, _, _, _⟩) ?F ?N ?k3 ?k4 ?k5 ?_; (case F => k_asm); (case N => k_asm); (case k3 => walk_at "bk9"); (case k4 => walk_at "len9"); (case k5 => walk_at "len9")) | (refine' m_bfrom (s := ⟨_, _, _, _, _⟩) ?F ?N ?k3 ?k4 ?k5 ?_; (case F => k_asm); (case N => k_asm); (case k3 => walk_at "bk9"); (case k4 => walk_at "len9"); (case k5 => walk_at "len9")) | (refine' m_bmid (s := ⟨_, _, _, _, _⟩) ?F ?N ?k3 ?k4 ?k6 ?k7 ?k5 ?_; (case F => k_asm); (case N => k_asm); (case k3 => walk_at "bk9"); (case k4 => walk_at "len9"); (case k6 => walk_at "len9"); (case k7 => walk_at "len9"); (case k5 => walk_at "len9"))); intro kyb' kyh' kyt' kyk' kyF' kyN' kyhb'; (try simp only [show Int.toNat 8 = 8 by decide, show Int.toNat 6 = 6 by decide] at kyhb'); (try dsimp only))) | (with_reducible (k_here; (with_reducible show wpAny _ _ (call (Value.type "bytes") [Value.ref _]) _ _ _); k_dflt (refine' KBa.make_K ?kbaF ?kbaN ?kbah ?kbal ?kbai ?kbar ?kban ?_; (case kbaF => k_asm); (case kbaN => k_asm); (case kbah => rfl); (case kbal => kba_isList); (case kbai => kba_listInts); (case kbar => (first | (first | with_reducible assumption | (intro kykyn9 kykyhn9; (simp only [List.mem_cons, List.not_mem_nil, or_false] at kykyhn9); omega)) | (with_reducible assumption) | ((intro kykyn9 kykyhn9; (simp only [List.mem_cons, List.not_mem_nil, or_false] at kykyhn9); omega)))); (case kban => kba_size)); intro _ _ _ kyF' kyN' kykbaIn; (have kbaS := KBa.sum_in kykbaIn))) | ((with_reducible show wpAny _ _ (binaryOp PySem.Operator.FloorDiv (Value.int _ _) (Value.int _ _)) _ _ _); with_reducible (with_reducible refine m_div ?hb9 ?hb8 ?_; (case hb9 => omega); (case hb8 => omega))) | ((with_reducible show wpAny _ _ (binaryOp PySem.Operator.Mod (Value.int _ _) (Value.int _ _)) _ _ _); with_reducible (with_reducible refine m_mod ?hb9 ?_; (case hb9 => omega))) | walk1 | (dsimp only; walk1) | (leave1; try dsimp only)))
  · refine unpack_spec (by walk_at "cx9") (by walk_at "rm9") (by walk_at "bk9") (by walk_at "len9") (by decide) (by decide) ?_ ?_
    · intro z r b' t3 t4 t5 h' tk' hz hb' F9 N9
      rw [zero_read (by assumption) (by assumption)] at hz
      cases hz
      (try k_fold)
      (repeat' (first | (k_unfold; (try dsimp only)) | (k_end; wrow_close) | (with_reducible (k_here; (with_reducible show wpAny _ _ (PySem.call (Value.ref 296) [_, _, _, _, _] _) _ _ _); k_dflt (refine' pack_spec ?c1 ?c2 ?c3 ?c4 ?c5 ?c6 ?_; (case c1 => walk_at "cx9"); (case c2 => walk_at "rm9"); (case c3 => first | with_reducible assumption | exact KBa.ints_make (by with_reducible assumption)); (case c4 => walk_at "len9"); (case c5 => first | decide | omega); (case c6 => first | decide | omega)); intro kyb' kyt' kyh' kytk' kyhb' kyF' kyN'; (try k_fold))) | (with_reducible (k_here; (with_reducible show wpAny _ _ (PySem.call (Value.ref 317) _ _) _ _ _); k_dflt (refine' take_spec ?c1 ?c2 ?c3 ?c4 ?c7 ?c8 ?_; (case c3 => walk_at "cx9"); (case c1 => k_updF); (case c2 => with_reducible assumption); (case c4 => walk_at "rm9"); (case c7 => first | decide | omega); (case c8 => first | decide | omega)); intro kyk' kyt' kyo' kyh' kytk' kyhk0' kyhk1' kyhP' kyF' kyN'; (try dsimp only at kyN'); (try k_fold))) | ((with_reducible show wpAny _ _ (compareOp PySem.CmpOp.Eq (Value.bytes _ _) (Value.bytes _ _)) _ _ _); with_reducible (k_dflt (refine' m_eqBytes ?k1 ?k2 ?_; (case k1 => walk_at "bk9"); (case k2 => walk_at "bk9")))) | ((with_reducible show wpAny _ _ (subscriptTail (PySem.Expr.Name _ _) (PySem.Expr.Slice _ _ _ _) (Value.bytes _ _) (Value.ref _)) _ _ _); with_reducible (k_here; k_dflt (first | (refine' m_bto (s := ⟨_, _, _, _, _⟩) ?F ?N ?k3 ?k4 ?k5 ?_; (case F => k_asm); (case N => k_asm); (case k3 => walk_at "bk9"); (case k4 => walk_at "len9"); (case k5 => walk_at "len9")) | (refine' m_bfrom (s := ⟨_, _, _, _, _⟩) ?F ?N ?k3 ?k4 ?k5 ?_; (case F => k_asm); (case N => k_asm); (case k3 => walk_at "bk9"); (case k4 => walk_at "len9"); (case k5 => walk_at "len9")) | (refine' m_bmid (s := ⟨_, _, _, _, _⟩) ?F ?N ?k3 ?k4 ?k6 ?k7 ?k5 ?_; (case F => k_asm); (case N => k_asm); (case k3 => walk_at "bk9"); (case k4 => walk_at "len9"); (case k6 => walk_at "len9"); (case k7 => walk_at "len9"); (case k5 => walk_at "len9"))); intro kyb' kyh' kyt' kyk' kyF' kyN' kyhb'; (try simp only [show Int.toNat 8 = 8 by decide, show Int.toNat 6 = 6 by decide] at kyhb'); (try dsimp only))) | (with_reducible (k_here; (with_reducible show wpAny _ _ (call (Value.type "bytes") [Value.ref _]) _ _ _); k_dflt (refine' KBa.make_K ?kbaF ?kbaN ?kbah ?kbal ?kbai ?kbar ?kban ?_; (case kbaF => k_asm); (case kbaN => k_asm); (case kbah => rfl); (case kbal => kba_isList); (case kbai => kba_listInts); (case kbar => (first | (first | with_reducible assumption | (intro kykyn9 kykyhn9; (simp only [List.mem_cons, List.not_mem_nil, or_false] at kykyhn9); omega)) | (with_reducible assumption) | ((intro kykyn9 kykyhn9; (simp only [List.mem_cons, List.not_mem_nil, or_false] at kykyhn9); omega)))); (case kban => kba_size)); intro _ _ _ kyF' kyN' kykbaIn; (have kbaS := KBa.sum_in kykbaIn))) | ((with_reducible show wpAny _ _ (binaryOp PySem.Operator.FloorDiv (Value.int _ _) (Value.int _ _)) _ _ _); with_reducible (with_reducible refine m_div ?hb9 ?hb8 ?_; (case hb9 => omega); (case hb8 => omega))) | ((with_reducible show wpAny _ _ (binaryOp PySem.Operator.Mod (Value.int _ _) (Value.int _ _)) _ _ _); with_reducible (with_reducible refine m_mod ?hb9 ?_; (case hb9 => omega))) | walk1 | (dsimp only; walk1) | (leave1; try dsimp only)))
      rw [beq_self_eq_true]
      refine' hret _ _ _ ?P ?F ?N
      (case N => walk_at "news9")
      (case F => k_asm)
      (case P => assumption)
    · intro hz
      rw [zero_read (by assumption) (by assumption)] at hz
      cases hz
  · exfalso
    rename ¬ (List.take _ _ = _) => hno
    rw [zero_chk (by assumption) (by assumption)] at hno
    exact hno rfl
end
/-- The ports' object: its names and its dict of the taken numbers. -/
abbrev portsD (h1 h2 h3 h4 : Int) (t1 t2 t3 t4 u1 u2 u3 : Tok) (a b f : Int) (D : Addr) (n : Nat) : Obj :=
  dictOf [⟨h1, .str (Str.ofString "first") t1, .int a u1⟩, ⟨h2, .str (Str.ofString "last") t2, .int b u2⟩, ⟨h3, .str (Str.ofString "following") t3, .int f u3⟩, ⟨h4, .str (Str.ofString "taken") t4, .ref D⟩] n
/-- The object at pr is a Ports of these contents. -/
structure PortR (prog : Program) (w : World) (T : List (Addr × Obj)) (pr dx D : Addr) (oD : Obj) (a b f : Int) (tk : List Int) : Prop where
  inst : (pr, instObj 233 dx) ∈ T
  dic : ∃ h1 h2 h3 h4 t1 t2 t3 t4 u1 u2 u3 n, (dx, portsD h1 h2 h3 h4 t1 t2 t3 t4 u1 u2 u3 a b f D n) ∈ T
  mem : (D, oD) ∈ T
  lo : (D == sysModules) = false
  is : oD.IsDictOf (intKind prog w) (tk.map fun k => (k, Value.bool true))
theorem val_tk {tk : List Int} {x : Int} : (valueAt (tk.map fun k => (k, Value.bool true)) x).isSome = decide (x ∈ tk) := by
  unfold valueAt
  rw [Bool.eq_iff_iff]
  simp only [Option.isSome_map, List.find?_isSome, decide_eq_true_eq]
  constructor
  · rintro ⟨q, hq, e⟩
    obtain ⟨k, hk, rfl⟩ := List.mem_map.mp hq
    exact (e : k = x) ▸ hk
  · intro h
    exact ⟨_, List.mem_map.mpr ⟨x, h, rfl⟩, rfl⟩
section
variable {prog : Program} {w : World} {p : Program} {loose : List Str} {mean : ExcName → Option Value} {mg mb : Str → Option Value}
  {dp un : Nat} {gd : Option (List Code)} {cn : Str} {cs : Scope} {fa : Addr} {ccd : Value} {cl : List (Str × Addr)} {outer : List Env} {A₀ : Around} {base h₀ : Heap} {L : Addr} {m : Str → Option Value} {s : Shared} {Q E : Value → Shared → Prop}
  {news : List (Addr × Obj)}

set_option maxHeartbeats 4000000 in
theorem behind_spec {pr dx D : Addr} {oD : Obj} {a b f x : Int} {tk : List Int} {tx : Tok} (C : Cx w p loose mean mg mb A₀ base h₀ outer L s.heap m news) (R : Rm cs dp un 1) (hT : PortR prog w news pr dx D oD a b f tk)
  (hret : ∀ t h' tk', Fr h₀ L h' m → News h₀ L h' news → Q (.int (if x = b then a else x + 1) t) { s with heap := h', toks := tk' }) :
  wpAny (model prog w) (ktrTop dp un gd cn cs L fa ccd cl outer) (call (.ref 223) [.ref pr, .int x tx]) Q E s := by
  have C' := C
  obtain ⟨B, F, X, N, T⟩ := C'
  have hRd := R.hd
  have hRu := R.hu
  refine' elimG ?h9y1 ?k9y1
  case h9y1 =>
    intro G9 k9
    obtain ⟨hm1, ⟨h1, h2, h3, h4, t1, t2, t3, t4, u1, u2, u3, n, hm2⟩, hm3, hlo, hD⟩ := id hT
    revert hD
    revert hlo
    revert hm3
    revert hm2
    revert n
    revert u3
    revert u2
    revert u1
    revert t4
    revert t3
    revert t2
    revert t1
    revert h4
    revert h3
    revert h2
    revert h1
    revert hm1
    exact k9
  intro hm1 h1 h2 h3 h4 t1 t2 t3 t4 u1 u2 u3 n hm2 hm3 hlo hD
  try clear hT
  k_dflt (refine' enterK (binds := [(Str.ofString "self", .ref pr), (Str.ofString "number", .int x tx)]) C R ?k6 ?k7 ?k9 ?kB ?_ ?c2 ?c3 ?c4 ?c5; (((case k6 => k_is); (case k7 => k_is); (case k9 => exact BindsTo.of_eq rfl); (case c5 => decide); (case kB => exact locs rfl); (case c2 => exact rfl); (case c3 => exact rfl); (case c4 => exact rfl); k_whole; intro g' L' h' FG' F' N' B' X' T'; (try dsimp only); (try k_fold))))
  (repeat' (first | (k_unfold; (try dsimp only)) | (k_end; wrow_close) | ((with_reducible show wpAny _ _ (compareOp PySem.CmpOp.In (Value.int _ _) (Value.ref _)) _ _ _); with_reducible (k_dflt (refine' m_din ?k1 ?k2 ?k3 ?k4 ?_; (case k1 => k_asm); (case k2 => k_mem); (case k3 => with_reducible assumption); (case k4 => with_reducible assumption)))) | walk1 | (dsimp only; walk1) | (leave1; try dsimp only)))
  all_goals (refine cb_retI hret ?_ (by k_asm) (by k_asm); simp_all)

set_option maxHeartbeats 4000000 in
theorem istaken_spec {pr dx D : Addr} {oD : Obj} {a b f x : Int} {tk : List Int} {tx : Tok} (C : Cx w p loose mean mg mb A₀ base h₀ outer L s.heap m news) (R : Rm cs dp un 1) (hT : PortR prog w news pr dx D oD a b f tk)
  (hret : ∀ h' tk', Fr h₀ L h' m → News h₀ L h' news → Q (.bool (decide (x ∈ tk))) { s with heap := h', toks := tk' }) :
  wpAny (model prog w) (ktrTop dp un gd cn cs L fa ccd cl outer) (call (.ref 201) [.ref pr, .int x tx]) Q E s := by
  have C' := C
  obtain ⟨B, F, X, N, T⟩ := C'
  have hRd := R.hd
  have hRu := R.hu
  refine' elimG ?h9y1 ?k9y1
  case h9y1 =>
    intro G9 k9
    obtain ⟨hm1, ⟨h1, h2, h3, h4, t1, t2, t3, t4, u1, u2, u3, n, hm2⟩, hm3, hlo, hD⟩ := id hT
    revert hD
    revert hlo
    revert hm3
    revert hm2
    revert n
    revert u3
    revert u2
    revert u1
    revert t4
    revert t3
    revert t2
    revert t1
    revert h4
    revert h3
    revert h2
    revert h1
    revert hm1
    exact k9
  intro hm1 h1 h2 h3 h4 t1 t2 t3 t4 u1 u2 u3 n hm2 hm3 hlo hD
  try clear hT
  k_dflt (refine' enterK (binds := [(Str.ofString "self", .ref pr), (Str.ofString "number", .int x tx)]) C R ?k6 ?k7 ?k9 ?kB ?_ ?c2 ?c3 ?c4 ?c5; (((case k6 => k_is); (case k7 => k_is); (case k9 => exact BindsTo.of_eq rfl); (case c5 => decide); (case kB => exact locs rfl); (case c2 => exact rfl); (case c3 => exact rfl); (case c4 => exact rfl); k_whole; intro g' L' h' FG' F' N' B' X' T'; (try dsimp only); (try k_fold))))
  (repeat' (first | (k_unfold; (try dsimp only)) | (k_end; wrow_close) | ((with_reducible show wpAny _ _ (compareOp PySem.CmpOp.In (Value.int _ _) (Value.ref _)) _ _ _); with_reducible (k_dflt (refine' m_din ?k1 ?k2 ?k3 ?k4 ?_; (case k1 => k_asm); (case k2 => k_mem); (case k3 => with_reducible assumption); (case k4 => with_reducible assumption)))) | walk1 | (dsimp only; walk1) | (leave1; try dsimp only)))
  all_goals exact cb_retB (fun _ => hret) val_tk (by k_asm) (by k_asm)
end
--M<
local macro_rules | `(tactic| walk_at "testChain") => `(tactic| (k_dflt (refine test_link ?_)))
local macro_rules | `(tactic| walk_at "testChain int cons cons") => `(tactic| (k_dflt (refine test_link ?_)))
--M>
section
variable {prog : Program} {w : World} {p : Program} {loose : List Str} {mean : ExcName → Option Value} {mg mb : Str → Option Value}
  {dp un : Nat} {gd : Option (List Code)} {cn : Str} {cs : Scope} {fa : Addr} {ccd : Value} {cl : List (Str × Addr)} {outer : List Env} {A₀ : Around} {base h₀ : Heap} {L : Addr} {m : Str → Option Value} {s : Shared} {Q E : Value → Shared → Prop}
  {news : List (Addr × Obj)}
set_option maxHeartbeats 3000000 in
theorem mkports_spec {a b : Int} {ta tb : Tok} (C : Cx w p loose mean mg mb A₀ base h₀ outer L s.heap m news) (R : Rm cs dp un 2) (ha : 1 ≤ a) (hab : a ≤ b) (hb : b ≤ 65535)
  (hret : ∀ pr dx D oD dd h' tk', PortR prog w [(D, oD), (pr, instObj 233 dx), (dx, dd)] pr dx D oD a b a [] → (∀ q ∈ news, @LT.lt Nat _ q.1 dx) → @LT.lt Nat _ dx pr → @LT.lt Nat _ pr D → Fr h₀ L h' m → News h₀ L h' ((D, oD) :: (pr, instObj 233 dx) :: (dx, dd) :: news) → Q (.ref pr) { s with heap := h', toks := tk' }) :
  wpAny (model prog w) (ktrTop dp un gd cn cs L fa ccd cl outer) (call (.ref 233) [.int a ta, .int b tb]) Q E s := by
  obtain ⟨B, F, X, N, T⟩ := C
  have hRd := R.hd
  have hRu := R.hu
  refine call_cls F X N (by k_is) (by k_is) (by k_is) (fun r dx h' F' N' l1 l2 => ?_)
  rw [under_create]
  have l3 : AllLt dx news := allLt_of l1
  have l4 := ltN l2
  k_dflt (refine' code_def (binds := [(Str.ofString "self", .ref r), (Str.ofString "first", .int a ta), (Str.ofString "last", .int b tb)]) B F' X N' T rfl rfl R.hk ?k6 ?k7 (by show dp + 1 < recursionLimit; omega) ?k9 ?kB ?_ ?c2 ?c3 ?c4 ?c5; (((case k6 => k_is); (case k7 => k_is); (case k9 => exact BindsTo.of_eq rfl); (case c5 => decide); (case kB => exact locs rfl); (case c2 => exact rfl); (case c3 => exact rfl); (case c4 => exact rfl); k_whole; intro g' L' h' FG' F' N' B' X' T'; (try dsimp only); (try k_fold))))
  k_steps
  refine' hret r dx _ _ _ _ _ ?PR ?f (ltN l2) ?g ?F ?N
  (case N => k_asm)
  (case F => k_asm)
  (case f => exact l1)
  (case g => exact And.left (by assumption))
  (case PR => exact ⟨List.mem_cons_of_mem _ List.mem_cons_self, ⟨_, _, _, _, _, _, _, _, _, _, _, _, List.mem_cons_of_mem _ (List.mem_cons_of_mem _ List.mem_cons_self)⟩, List.mem_cons_self, by assumption, by assumption⟩)
end
--M<
--M>
theorem port_tab {prog : Program} {w : World} {h₀ h : Heap} {L : Addr} {news : List (Addr × Obj)} {pr dx D : Addr} {oD oD' : Obj} {a b f : Int} {tk tk' : List Int} (N : News h₀ L h news) (hT : PortR prog w news pr dx D oD a b f tk) (hd : oD'.IsDictOf (intKind prog w) (tk'.map fun k => (k, Value.bool true))) :
    PortR prog w ((D, oD') :: del D news) pr dx D oD' a b f tk' := by
  obtain ⟨h1, ⟨g1, g2, g3, g4, t1, t2, t3, t4, u1, u2, u3, n, h2⟩, h3, h4, h5⟩ := hT
  have up : ∀ q ∈ news, q.2 ≠ oD → q ∈ ((D, oD') :: del D news) := fun q hq hn => List.mem_cons_of_mem _ (mem_del hq (news_ne N hq h3 hn))
  have key : ∀ {k : Int} {v : Value} {x : Str} {t : Tok} {es : List DictEntry} {n : Nat}, dictOf (⟨k, .str x t, v⟩ :: es) n ≠ oD := fun e => dict_strkey (prog := prog) (w := w) (e ▸ h5)
  refine ⟨up _ h1 fun e => ?_, ⟨g1, g2, g3, g4, t1, t2, t3, t4, u1, u2, u3, n, up _ h2 key⟩, List.mem_cons_self, h4, hd⟩
  have e1 : (instObj 233 dx).cls = oD.cls := congrArg Obj.cls e
  rw [dict_cls h5] at e1
  cases e1
section
variable {prog : Program} {w : World} {p : Program} {loose : List Str} {mean : ExcName → Option Value} {mg mb : Str → Option Value}
  {dp un : Nat} {gd : Option (List Code)} {cn : Str} {cs : Scope} {fa : Addr} {ccd : Value} {cl : List (Str × Addr)} {outer : List Env} {A₀ : Around} {base h₀ : Heap} {L : Addr} {m : Str → Option Value} {s : Shared} {Q E : Value → Shared → Prop}
  {news : List (Addr × Obj)}
set_option maxHeartbeats 3000000 in
theorem free_spec {pr dx D : Addr} {oD : Obj} {a b f x : Int} {tk : List Int} {tx : Tok} (C : Cx w p loose mean mg mb A₀ base h₀ outer L s.heap m news) (R : Rm cs dp un 2) (hT : PortR prog w news pr dx D oD a b f tk) (hx : x ∈ tk) (hl : tk.length < 100)
  (hret : ∀ oD' h' tk', PortR prog w ((D, oD') :: del D news) pr dx D oD' a b f (tk.filter fun k => decide (k ≠ x)) → Fr h₀ L h' m → News h₀ L h' ((D, oD') :: del D news) → Q .none { s with heap := h', toks := tk' }) :
  wpAny (model prog w) (ktrTop dp un gd cn cs L fa ccd cl outer) (call (.ref 230) [.ref pr, .int x tx]) Q E s := by
  have C' := C
  obtain ⟨B, F, X, N, T⟩ := C'
  have hRd := R.hd
  have hRu := R.hu
  have hT' := hT
  refine' elimG ?h9y1 ?k9y1
  case h9y1 =>
    intro G9 k9
    obtain ⟨hm1, ⟨h1, h2, h3, h4, t1, t2, t3, t4, u1, u2, u3, n, hm2⟩, hm3, hlo, hD⟩ := id hT
    revert hD
    revert hlo
    revert hm3
    revert hm2
    revert n
    revert u3
    revert u2
    revert u1
    revert t4
    revert t3
    revert t2
    revert t1
    revert h4
    revert h3
    revert h2
    revert h1
    revert hm1
    exact k9
  intro hm1 h1 h2 h3 h4 t1 t2 t3 t4 u1 u2 u3 n hm2 hm3 hlo hD
  try clear hT
  have hvs : (valueAt (tk.map fun k => (k, Value.bool true)) x).isSome = true := val_tk.trans (decide_eq_true hx)
  refine' elimG ?h9y2 ?k9y2
  case h9y2 =>
    intro G9 k9
    obtain ⟨v, hva⟩ := Option.isSome_iff_exists.mp hvs
    revert hva
    revert v
    exact k9
  intro v hva
  have e : without (tk.map fun k => (k, Value.bool true)) x = (tk.filter fun k => decide (k ≠ x)).map fun k => (k, Value.bool true) := by
    unfold without
    rw [List.filter_map]
    rfl
  k_dflt (refine' enterK (binds := [(Str.ofString "self", .ref pr), (Str.ofString "number", .int x tx)]) C R ?k6 ?k7 ?k9 ?kB ?_ ?c2 ?c3 ?c4 ?c5; (((case k6 => k_is); (case k7 => k_is); (case k9 => exact BindsTo.of_eq rfl); (case c5 => decide); (case kB => exact locs rfl); (case c2 => exact rfl); (case c3 => exact rfl); (case c4 => exact rfl); k_whole; intro g' L' h' FG' F' N' B' X' T'; (try dsimp only); (try k_fold))))
  (repeat' (first | (k_unfold; (try dsimp only)) | (k_end; wrow_close) | ((with_reducible show wpAny _ _ (PySem.call _ _ _) _ _ _); with_reducible (k_dflt (refine' m_dpop ?k1 ?k2 ?k3 ?k4 ?k5 ?k6 ?_; (case k1 => k_asm); (case k2 => k_asm); (case k3 => k_mem); (case k4 => with_reducible assumption); (case k5 => with_reducible assumption); (case k6 => (simp only [List.length_map]; omega))); intro kyh' kyo' kyF' kyN' kyhd'; (try k_fold))) | ((with_reducible show wpAny _ _ (getMethod (Value.ref _) _ _) _ _ _); with_reducible (k_dflt (refine' m_dmeth ?k1 ?k2 ?k3 ?_; (case k1 => k_asm); (case k2 => k_mem); (case k3 => with_reducible assumption)))) | ((with_reducible show wpAny _ _ (compareOp PySem.CmpOp.NotIn (Value.int _ _) (Value.ref _)) _ _ _); with_reducible (k_dflt (refine' m_dnotin ?k1 ?k2 ?k3 ?k4 ?_; (case k1 => k_asm); (case k2 => k_mem); (case k3 => with_reducible assumption); (case k4 => with_reducible assumption)))) | walk1 | (dsimp only; walk1) | (leave1; try dsimp only)))
  refine hret _ _ _ (port_tab N hT' (by rw [← e]; assumption)) (by k_asm) (by k_asm)
end
theorem PortR.mono {prog : Program} {w : World} {T T' : List (Addr × Obj)} {pr dx D : Addr} {oD : Obj} {a b f : Int} {tk : List Int} (h : ∀ q ∈ T, q ∈ T') (hT : PortR prog w T pr dx D oD a b f tk) : PortR prog w T' pr dx D oD a b f tk := by
  obtain ⟨h1, ⟨g1, g2, g3, g4, t1, t2, t3, t4, u1, u2, u3, n, h2⟩, h3, h4, h5⟩ := hT
  exact ⟨h _ h1, ⟨g1, g2, g3, g4, t1, t2, t3, t4, u1, u2, u3, n, h _ h2⟩, h _ h3, h4, h5⟩
def beh (a b x : Int) : Int := if x = b then a else x + 1
/-- The first number from x on, round about, that is not taken. -/
def nextF (a b : Int) (tk : List Int) : Nat → Int → Option Int
  | 0, _ => none
  | k + 1, x => if x ∈ tk then nextF a b tk k (beh a b x) else some x
section
variable {prog : Program} {w : World} {A : Around} {E : Value → Shared → Prop} {s : Shared} {h₀ : Heap} {L pr dx D : Addr} {m : Str → Option Value} {news : List (Addr × Obj)} {oD : Obj} {a b f v : Int} {tk : List Int} {tv : Tok}
set_option maxHeartbeats 2000000 in
theorem m_setfol {Q : Unit → Shared → Prop} (F : Fr h₀ L s.heap m) (X : (hd.heap_1 w.params).In h₀) (N : News h₀ L s.heap news) (hT : PortR prog w news pr dx D oD a b f tk)
    (h : ∀ h' o', PortR prog w ((dx, o') :: del dx news) pr dx D oD a b v tk → Fr h₀ L h' m → News h₀ L h' ((dx, o') :: del dx news) → Q () { s with heap := h', toks := s.toks + 2 }) :
    wpAny (model prog w) A (setAttr (.ref pr) (Str.ofString "following") (.int v tv)) Q E s := by
  have hT' := hT
  refine' elimG ?h9y1 ?k9y1
  case h9y1 =>
    intro G9 k9
    obtain ⟨hm1, ⟨h1, h2, h3, h4, t1, t2, t3, t4, u1, u2, u3, n, hm2⟩, hm3, hlo, hD⟩ := id hT
    revert hD
    revert hlo
    revert hm3
    revert hm2
    revert n
    revert u3
    revert u2
    revert u1
    revert t4
    revert t3
    revert t2
    revert t1
    revert h4
    revert h3
    revert h2
    revert h1
    revert hm1
    exact k9
  intro hm1 h1 h2 h3 h4 t1 t2 t3 t4 u1 u2 u3 n hm2 hm3 hlo hD
  try clear hT
  k_dflt (refine' set_dict F X (news_del N hm2) (InstAt.of_news N hm1 hm2) ?k5 ?k6 ?k7 ?k8 ?k9 ?k10 ?k11 (Upd.head del_ne) ?k13 ?_; (case k5 => exact rfl); (case k6 => k_is); (case k7 => k_is); (case k8 => k_is); (case k9 => k_is); (case k10 => k_get); (case k11 => exact rfl); (case k13 => exact Nat.le_of_ble_eq_true rfl))
  intro h' F' N'
  have up : ∀ q ∈ news, q.2 ≠ _ → q ∈ del dx news := fun q hq hn => mem_del hq (news_ne N hq hm2 hn)
  refine h h' (portsD h1 h2 h3 h4 t1 t2 t3 t4 u1 u2 tv a b v D n) ⟨List.mem_cons_of_mem _ (up _ hm1 fun e => nomatch (congrArg Obj.cls e)), ⟨h1, h2, h3, h4, t1, t2, t3, t4, u1, u2, tv, n, List.mem_cons_self⟩, List.mem_cons_of_mem _ (up _ hm3 fun e => ?_), hlo, hD⟩ F' N'
  have e' : oD = _ := e
  rw [e'] at hD
  exact dict_strkey hD
end
--M<
--M>
section
variable {prog : Program} {w : World} {p : Program} {loose : List Str} {mean : ExcName → Option Value} {mg mb : Str → Option Value}
  {dp un : Nat} {gd : Option (List Code)} {cn : Str} {cs : Scope} {fa : Addr} {ccd : Value} {cl : List (Str × Addr)} {outer : List Env} {A₀ : Around} {base h₀ : Heap} {L : Addr} {m : Str → Option Value} {s : Shared} {Q E : Value → Shared → Prop}
  {news : List (Addr × Obj)}
set_option maxHeartbeats 3000000 in
theorem nextfree_spec {pr dx D : Addr} {oD : Obj} {a b f : Int} {tks : List Int} (C : Cx w p loose mean mg mb A₀ base h₀ outer L s.heap m news) (R : Rm cs dp un 4) (hT : PortR prog w news pr dx D oD a b f tks) (ha : 0 ≤ a) (hab : a ≤ b) (hb : b < 70000)
  (hret : ∀ x t T' h' tk', nextF a b tks (b - a + 1).toNat f = some x → (∃ o', T' = (dx, o') :: del dx news) → PortR prog w T' pr dx D oD a b (beh a b x) tks → Fr h₀ L h' m → News h₀ L h' T' → Q (.int x t) { s with heap := h', toks := tk' })
  (hexc : nextF a b tks (b - a + 1).toNat f = none → Exc base h₀ L m (envX cn cs L fa ccd cl :: outer) 68 news s E) :
  wpAny (model prog w) (ktrTop dp un gd cn cs L fa ccd cl outer) (call (.ref 216) [.ref pr]) Q E s := by
  have C' := C
  obtain ⟨B, F, X, N, T⟩ := C'
  have hRd := R.hd
  have hRu := R.hu
  have hT' := hT
  refine' elimG ?h9y1 ?k9y1
  case h9y1 =>
    intro G9 k9
    obtain ⟨hm1, ⟨h1, h2, h3, h4, t1, t2, t3, t4, u1, u2, u3, n, hm2⟩, hm3, hlo, hD⟩ := id hT
    revert hD
    revert hlo
    revert hm3
    revert hm2
    revert n
    revert u3
    revert u2
    revert u1
    revert t4
    revert t3
    revert t2
    revert t1
    revert h4
    revert h3
    revert h2
    revert h1
    revert hm1
    exact k9
  intro hm1 h1 h2 h3 h4 t1 t2 t3 t4 u1 u2 u3 n hm2 hm3 hlo hD
  try clear hT
  k_dflt (refine' enterK (binds := [(Str.ofString "self", .ref pr)]) C R ?k6 ?k7 ?k9 ?kB ?_ ?c2 ?c3 ?c4 ?c5; (((case k6 => k_is); (case k7 => k_is); (case k9 => exact BindsTo.of_eq rfl); (case c5 => decide); (case kB => exact locs rfl); (case c2 => exact rfl); (case c3 => exact rfl); (case c4 => exact rfl); k_whole; intro g' L' h' FG' F' N' B' X' T'; (try dsimp only); (try k_fold))))
  (repeat' (first | (k_unfold; (try dsimp only)) | (k_end; wrow_close) | (with_reducible (refine turnG_ret ?_; (try dsimp only))) | (with_reducible ((with_reducible show wpAny _ _ (pyIter (Value.ref _)) (fun it s₂ => LoopAtV _ _ _ _ _ _ _ _ _ it s₂) _ _); refine stop_mk ?_)) | (with_reducible (k_here; refine x_raise rfl ?_; (try k_fold))) | ((with_reducible show wpAny _ _ (leaving _ _) _ _ _); with_reducible (refine' x_leave ?k1 ?k2 ?k3 ?k4 ?k5 ?_; (case k1 => k_asm); (case k2 => k_asm); (case k3 => k_asm); (case k4 => assumption); (case k5 => assumption); intro kyh9 kyR9 kyU9; (try dsimp only))) | (with_reducible (refine' raiseQ_of ?k1 ?k2 ?k3 ?k4 ?_; (case k2 => k_asm); (case k3 => k_asm); (case k4 => k_asm); (case k1 => first | exact exc80 _ | exact exc68 _ | exact exc44 _); (try k_unfold); (try dsimp only))) | ((with_reducible show wpAny _ _ (setAttr (Value.ref _) _ (Value.int _ _)) _ _ _); with_reducible (k_here; k_dflt (refine' m_setfol ?k1 ?k2 ?k3 ?k4 ?_; (case k1 => k_asm); (case k2 => k_asm); (case k4 => with_reducible assumption); (case k3 => walk_at "news9")); intro kyh' kyo' kyhp' kyF' kyN'; (try k_fold))) | (with_reducible (k_here; (with_reducible show wpAny _ _ (PySem.call (Value.ref 223) _ _) _ _ _); k_dflt (refine' behind_spec ?c1 ?c2 ?c3 ?_; (case c1 => walk_at "cx9"); (case c2 => walk_at "rm9"); (case c3 => (first | with_reducible assumption | (focus (refine' PortR.mono ?_ ?_; rotate_right; (focus with_reducible assumption); walk_at "sub9"))))); intro kyt' kyh' kytk' kyF' kyN'; (try k_fold))) | (with_reducible (k_here; (with_reducible show wpAny _ _ (PySem.call (Value.ref 201) _ _) _ _ _); k_dflt (refine' istaken_spec ?c1 ?c2 ?c3 ?_; (case c1 => walk_at "cx9"); (case c2 => walk_at "rm9"); (case c3 => (first | with_reducible assumption | (focus (refine' PortR.mono ?_ ?_; rotate_right; (focus with_reducible assumption); walk_at "sub9"))))); intro kyh' kytk' kyF' kyN'; (try k_fold))) | ((with_reducible show wpAny _ _ (exec (PySem.Stmt.For (PySem.Expr.Name _ _) _ _ _ _) _) _ _ _); with_reducible (k_here; (rename Fr _ _ _ _ => lF'); (with_unfolding_all refine' For_invVF lF' ?k1 ?k2 ?_; (case k1 => exact rfl); (case k2 => exact rfl); k_whole))) | (with_reducible (k_here; (with_reducible show wpAny _ _ (PySem.call (Value.ref 68) _ _) _ _ _); k_dflt (refine' xcallN ?c1 ?c2 ?c3 ?_; (case c1 => exact exc68 _); (case c2 => walk_at "cx9"); (case c3 => walk_at "rm9")); intro kye' kyt' kyh' kyd' kytk' kyhlt' kyhte' kyF' kyN'; (try k_fold))) | walk1 | (dsimp only; walk1) | (leave1; try dsimp only)))
  unfold Stop
  refine range_loop [Str.ofString "turn", Str.ofString "number"] (fun i m₁ T => T = news ∧ ∃ x tt, m₁ (Str.ofString "number") = some (.int x tt) ∧ nextF a b tks (b - a + 1).toNat f = nextF a b tks ((b - a + 1).toNat - i) x) (n := (b - a + 1).toNat) rfl (by assumption) (small_one (by omega) (by omega) (by omega) (by omega)) ?rs (by k_asm) (by k_asm) ⟨rfl, _, _, rfl, rfl⟩ ?_ ?_
  case rs => simp only [Builtin.Range.rangeSize]; split <;> split <;> omega
  · rintro i t m₁ T h tk I oI hi ⟨rfl, x, tt, hx, hn⟩ hoff F₁ N₁
    refine' elimG ?h9y2 ?k9y2
    case h9y2 =>
      have h9z : ∃ k, (b - a + 1).toNat - i = k + 1 := ⟨(b - a + 1).toNat - i - 1, by omega⟩
      intro G9 k9
      obtain ⟨k, hk⟩ := h9z
      revert hk
      revert k
      exact k9
    intro k hk
    rw [hk] at hn
    by_cases hin : x ∈ tks
    · have hn' : nextF a b tks (k + 1) x = nextF a b tks k (beh a b x) := if_pos hin
      have hd : decide (x ∈ tks) = true := decide_eq_true hin
      (try k_fold)
      (repeat' (first | (k_unfold; (try dsimp only)) | (k_end; wrow_close) | (with_reducible (refine turnG_ret ?_; (try dsimp only))) | (with_reducible ((with_reducible show wpAny _ _ (pyIter (Value.ref _)) (fun it s₂ => LoopAtV _ _ _ _ _ _ _ _ _ it s₂) _ _); refine stop_mk ?_)) | (with_reducible (k_here; refine x_raise rfl ?_; (try k_fold))) | ((with_reducible show wpAny _ _ (leaving _ _) _ _ _); with_reducible (refine' x_leave ?k1 ?k2 ?k3 ?k4 ?k5 ?_; (case k1 => k_asm); (case k2 => k_asm); (case k3 => k_asm); (case k4 => assumption); (case k5 => assumption); intro kyh9 kyR9 kyU9; (try dsimp only))) | (with_reducible (refine' raiseQ_of ?k1 ?k2 ?k3 ?k4 ?_; (case k2 => k_asm); (case k3 => k_asm); (case k4 => k_asm); (case k1 => first | exact exc80 _ | exact exc68 _ | exact exc44 _); (try k_unfold); (try dsimp only))) | ((with_reducible show wpAny _ _ (setAttr (Value.ref _) _ (Value.int _ _)) _ _ _); with_reducible (k_here; k_dflt (refine' m_setfol ?k1 ?k2 ?k3 ?k4 ?_; (case k1 => k_asm); (case k2 => k_asm); (case k4 => with_reducible assumption); (case k3 => walk_at "news9")); intro kyh' kyo' kyhp' kyF' kyN'; (try k_fold))) | (with_reducible (k_here; (with_reducible show wpAny _ _ (PySem.call (Value.ref 223) _ _) _ _ _); k_dflt (refine' behind_spec ?c1 ?c2 ?c3 ?_; (case c1 => walk_at "cx9"); (case c2 => walk_at "rm9"); (case c3 => (first | with_reducible assumption | (focus (refine' PortR.mono ?_ ?_; rotate_right; (focus with_reducible assumption); walk_at "sub9"))))); intro kyt' kyh' kytk' kyF' kyN'; (try k_fold))) | (with_reducible (k_here; (with_reducible show wpAny _ _ (PySem.call (Value.ref 201) _ _) _ _ _); k_dflt (refine' istaken_spec ?c1 ?c2 ?c3 ?_; (case c1 => walk_at "cx9"); (case c2 => walk_at "rm9"); (case c3 => (first | with_reducible assumption | (focus (refine' PortR.mono ?_ ?_; rotate_right; (focus with_reducible assumption); walk_at "sub9"))))); intro kyh' kytk' kyF' kyN'; (try k_fold))) | ((with_reducible show wpAny _ _ (exec (PySem.Stmt.For (PySem.Expr.Name _ _) _ _ _ _) _) _ _ _); with_reducible (k_here; (rename Fr _ _ _ _ => lF'); (with_unfolding_all refine' For_invVF lF' ?k1 ?k2 ?_; (case k1 => exact rfl); (case k2 => exact rfl); k_whole))) | (with_reducible (k_here; (with_reducible show wpAny _ _ (PySem.call (Value.ref 68) _ _) _ _ _); k_dflt (refine' xcallN ?c1 ?c2 ?c3 ?_; (case c1 => exact exc68 _); (case c2 => walk_at "cx9"); (case c3 => walk_at "rm9")); intro kye' kyt' kyh' kyd' kytk' kyhlt' kyhte' kyF' kyN'; (try k_fold))) | walk1 | (dsimp only; walk1) | (leave1; try dsimp only)))
      exact turnG_next T (by k_asm) (by walk_at "news9") hoff ⟨by ((intro kyy kyhy; simp only [List.contains_cons, List.contains_nil, Bool.or_false, Bool.or_eq_false_iff, beq_eq_false_iff_ne, ne_eq] at kyhy; simp [kyhy])), rfl, beh a b x, _, rfl, by rw [hn, hn', show (b - a + 1).toNat - (i + 1) = k by omega]⟩
    · have hn' : nextF a b tks (k + 1) x = some x := if_neg hin
      have hd : decide (x ∈ tks) = false := decide_eq_false hin
      (try k_fold)
      (repeat' (first | (k_unfold; (try dsimp only)) | (k_end; wrow_close) | (with_reducible (refine turnG_ret ?_; (try dsimp only))) | (with_reducible ((with_reducible show wpAny _ _ (pyIter (Value.ref _)) (fun it s₂ => LoopAtV _ _ _ _ _ _ _ _ _ it s₂) _ _); refine stop_mk ?_)) | (with_reducible (k_here; refine x_raise rfl ?_; (try k_fold))) | ((with_reducible show wpAny _ _ (leaving _ _) _ _ _); with_reducible (refine' x_leave ?k1 ?k2 ?k3 ?k4 ?k5 ?_; (case k1 => k_asm); (case k2 => k_asm); (case k3 => k_asm); (case k4 => assumption); (case k5 => assumption); intro kyh9 kyR9 kyU9; (try dsimp only))) | (with_reducible (refine' raiseQ_of ?k1 ?k2 ?k3 ?k4 ?_; (case k2 => k_asm); (case k3 => k_asm); (case k4 => k_asm); (case k1 => first | exact exc80 _ | exact exc68 _ | exact exc44 _); (try k_unfold); (try dsimp only))) | ((with_reducible show wpAny _ _ (setAttr (Value.ref _) _ (Value.int _ _)) _ _ _); with_reducible (k_here; k_dflt (refine' m_setfol ?k1 ?k2 ?k3 ?k4 ?_; (case k1 => k_asm); (case k2 => k_asm); (case k4 => with_reducible assumption); (case k3 => walk_at "news9")); intro kyh' kyo' kyhp' kyF' kyN'; (try k_fold))) | (with_reducible (k_here; (with_reducible show wpAny _ _ (PySem.call (Value.ref 223) _ _) _ _ _); k_dflt (refine' behind_spec ?c1 ?c2 ?c3 ?_; (case c1 => walk_at "cx9"); (case c2 => walk_at "rm9"); (case c3 => (first | with_reducible assumption | (focus (refine' PortR.mono ?_ ?_; rotate_right; (focus with_reducible assumption); walk_at "sub9"))))); intro kyt' kyh' kytk' kyF' kyN'; (try k_fold))) | (with_reducible (k_here; (with_reducible show wpAny _ _ (PySem.call (Value.ref 201) _ _) _ _ _); k_dflt (refine' istaken_spec ?c1 ?c2 ?c3 ?_; (case c1 => walk_at "cx9"); (case c2 => walk_at "rm9"); (case c3 => (first | with_reducible assumption | (focus (refine' PortR.mono ?_ ?_; rotate_right; (focus with_reducible assumption); walk_at "sub9"))))); intro kyh' kytk' kyF' kyN'; (try k_fold))) | ((with_reducible show wpAny _ _ (exec (PySem.Stmt.For (PySem.Expr.Name _ _) _ _ _ _) _) _ _ _); with_reducible (k_here; (rename Fr _ _ _ _ => lF'); (with_unfolding_all refine' For_invVF lF' ?k1 ?k2 ?_; (case k1 => exact rfl); (case k2 => exact rfl); k_whole))) | (with_reducible (k_here; (with_reducible show wpAny _ _ (PySem.call (Value.ref 68) _ _) _ _ _); k_dflt (refine' xcallN ?c1 ?c2 ?c3 ?_; (case c1 => exact exc68 _); (case c2 => walk_at "cx9"); (case c3 => walk_at "rm9")); intro kye' kyt' kyh' kyd' kytk' kyhlt' kyhte' kyF' kyN'; (try k_fold))) | walk1 | (dsimp only; walk1) | (leave1; try dsimp only)))
      exact hret x tt _ _ _ (hn.trans hn') ⟨_, rfl⟩ (by assumption) (by k_asm) (by k_asm)
  · rintro m₁ T h tk hK ⟨rfl, x, tt, hx, hn⟩ F₁ N₁
    rw [Nat.sub_self] at hn
    (try k_fold)
    (repeat' (first | (k_unfold; (try dsimp only)) | (k_end; wrow_close) | (with_reducible (refine turnG_ret ?_; (try dsimp only))) | (with_reducible ((with_reducible show wpAny _ _ (pyIter (Value.ref _)) (fun it s₂ => LoopAtV _ _ _ _ _ _ _ _ _ it s₂) _ _); refine stop_mk ?_)) | (with_reducible (k_here; refine x_raise rfl ?_; (try k_fold))) | ((with_reducible show wpAny _ _ (leaving _ _) _ _ _); with_reducible (refine' x_leave ?k1 ?k2 ?k3 ?k4 ?k5 ?_; (case k1 => k_asm); (case k2 => k_asm); (case k3 => k_asm); (case k4 => assumption); (case k5 => assumption); intro kyh9 kyR9 kyU9; (try dsimp only))) | (with_reducible (refine' raiseQ_of ?k1 ?k2 ?k3 ?k4 ?_; (case k2 => k_asm); (case k3 => k_asm); (case k4 => k_asm); (case k1 => first | exact exc80 _ | exact exc68 _ | exact exc44 _); (try k_unfold); (try dsimp only))) | ((with_reducible show wpAny _ _ (setAttr (Value.ref _) _ (Value.int _ _)) _ _ _); with_reducible (k_here; k_dflt (refine' m_setfol ?k1 ?k2 ?k3 ?k4 ?_; (case k1 => k_asm); (case k2 => k_asm); (case k4 => with_reducible assumption); (case k3 => walk_at "news9")); intro kyh' kyo' kyhp' kyF' kyN'; (try k_fold))) | (with_reducible (k_here; (with_reducible show wpAny _ _ (PySem.call (Value.ref 223) _ _) _ _ _); k_dflt (refine' behind_spec ?c1 ?c2 ?c3 ?_; (case c1 => walk_at "cx9"); (case c2 => walk_at "rm9"); (case c3 => (first | with_reducible assumption | (focus (refine' PortR.mono ?_ ?_; rotate_right; (focus with_reducible assumption); walk_at "sub9"))))); intro kyt' kyh' kytk' kyF' kyN'; (try k_fold))) | (with_reducible (k_here; (with_reducible show wpAny _ _ (PySem.call (Value.ref 201) _ _) _ _ _); k_dflt (refine' istaken_spec ?c1 ?c2 ?c3 ?_; (case c1 => walk_at "cx9"); (case c2 => walk_at "rm9"); (case c3 => (first | with_reducible assumption | (focus (refine' PortR.mono ?_ ?_; rotate_right; (focus with_reducible assumption); walk_at "sub9"))))); intro kyh' kytk' kyF' kyN'; (try k_fold))) | ((with_reducible show wpAny _ _ (exec (PySem.Stmt.For (PySem.Expr.Name _ _) _ _ _ _) _) _ _ _); with_reducible (k_here; (rename Fr _ _ _ _ => lF'); (with_unfolding_all refine' For_invVF lF' ?k1 ?k2 ?_; (case k1 => exact rfl); (case k2 => exact rfl); k_whole))) | (with_reducible (k_here; (with_reducible show wpAny _ _ (PySem.call (Value.ref 68) _ _) _ _ _); k_dflt (refine' xcallN ?c1 ?c2 ?c3 ?_; (case c1 => exact exc68 _); (case c2 => walk_at "cx9"); (case c3 => walk_at "rm9")); intro kye' kyt' kyh' kyd' kytk' kyhlt' kyhte' kyF' kyN'; (try k_fold))) | walk1 | (dsimp only; walk1) | (leave1; try dsimp only)))
    exact hexc hn _ _ _ _ _ _ (by k_asm) (by assumption) (by assumption)
end
--M<
--M>
theorem stored_tk {tk : List Int} {x : Int} (h : x ∉ tk) : stored (tk.map fun k => (k, Value.bool true)) x (.bool true) = (tk ++ [x]).map fun k => (k, Value.bool true) := by
  unfold stored
  rw [if_neg, List.map_append]
  · rfl
  · rw [List.any_map, List.any_eq_true]
    rintro ⟨c, hc, e⟩
    have e' : c = x := by simpa using e
    exact h (e' ▸ hc)
theorem nextF_not {a b : Int} {tk : List Int} {x : Int} : ∀ {k : Nat} {y : Int}, nextF a b tk k y = some x → x ∉ tk
  | 0, _, h => nomatch h
  | k + 1, y, h => by
    unfold nextF at h
    split at h
    · exact nextF_not h
    · cases h; assumption
section
variable {prog : Program} {w : World} {p : Program} {loose : List Str} {mean : ExcName → Option Value} {mg mb : Str → Option Value}
  {dp un : Nat} {gd : Option (List Code)} {cn : Str} {cs : Scope} {fa : Addr} {ccd : Value} {cl : List (Str × Addr)} {outer : List Env} {A₀ : Around} {base h₀ : Heap} {L : Addr} {m : Str → Option Value} {s : Shared} {Q E : Value → Shared → Prop}
  {news : List (Addr × Obj)}
set_option maxHeartbeats 3000000 in
theorem take0_spec {pr dx D : Addr} {oD : Obj} {a b f : Int} {tks : List Int} (C : Cx w p loose mean mg mb A₀ base h₀ outer L s.heap m news) (R : Rm cs dp un 5) (hT : PortR prog w news pr dx D oD a b f tks) (ha : 0 ≤ a) (hab : a ≤ b) (hb : b < 70000) (hl : tks.length < 100)
  (hret : ∀ x t T' oD' h' tk', nextF a b tks (b - a + 1).toNat f = some x → (∃ o', T' = (D, oD') :: del D ((dx, o') :: del dx news)) → PortR prog w T' pr dx D oD' a b (beh a b x) (tks ++ [x]) → Fr h₀ L h' m → News h₀ L h' T' → Q (.int x t) { s with heap := h', toks := tk' })
  (hexc : nextF a b tks (b - a + 1).toNat f = none → Exc base h₀ L m (envX cn cs L fa ccd cl :: outer) 68 news s E) :
  wpAny (model prog w) (ktrTop dp un gd cn cs L fa ccd cl outer) (call (.ref 209) [.ref pr]) Q E s := by
  have C' := C
  obtain ⟨B, F, X, N, T⟩ := C'
  have hRd := R.hd
  have hRu := R.hu
  have hT' := hT
  refine' elimG ?h9y1 ?k9y1
  case h9y1 =>
    intro G9 k9
    obtain ⟨hm1, ⟨h1, h2, h3, h4, t1, t2, t3, t4, u1, u2, u3, n, hm2⟩, hm3, hlo, hD⟩ := id hT
    revert hD
    revert hlo
    revert hm3
    revert hm2
    revert n
    revert u3
    revert u2
    revert u1
    revert t4
    revert t3
    revert t2
    revert t1
    revert h4
    revert h3
    revert h2
    revert h1
    revert hm1
    exact k9
  intro hm1 h1 h2 h3 h4 t1 t2 t3 t4 u1 u2 u3 n hm2 hm3 hlo hD
  try clear hT
  k_dflt (refine' enterK (binds := [(Str.ofString "self", .ref pr), (Str.ofString "number", .int 0 467)]) C R ?k6 ?k7 ?k9 ?kB ?_ ?c2 ?c3 ?c4 ?c5; (((case k6 => k_is); (case k7 => k_is); (case k9 => exact binds_K (by k_in) rfl (by k_is) rfl rfl rfl); (case c5 => decide); (case kB => exact locs rfl); (case c2 => exact rfl); (case c3 => exact rfl); (case c4 => exact rfl); k_whole; intro g' L' h' FG' F' N' B' X' T'; (try dsimp only); (try k_fold))))
  (repeat' (first | (k_unfold; (try dsimp only)) | (k_end; wrow_close) | ((with_reducible show wpAny _ _ (leaving _ _) _ _ _); (first | with_reducible (refine' leave_onS ?k1 ?k2 ?k3 ?k4 ?_; (case k1 => k_asm); (case k3 => assumption); (case k2 => assumption); (case k4 => assumption); intro kyh9 kyR9 _ kyU9; (try dsimp only)) | (refine' leave_onS ?k1 ?k2 ?k3 ?k4 ?_; (case k1 => k_asm); (case k3 => assumption); (case k2 => assumption); (case k4 => assumption); intro kyh9 kyR9 _ kyU9; (try dsimp only)))) | ((with_reducible show wpAny _ _ (setItem (Value.ref _) (Value.int _ _) (Value.bool _)) _ _ _); with_reducible (k_here; k_dflt (refine' m_dset ?k1 ?k2 ?k3 ?k4 ?k5 ?_; (case k1 => k_asm); (case k2 => k_asm); (case k3 => k_mem); (case k4 => with_reducible assumption); (case k5 => (simp only [List.length_map]; omega))); intro kyh' kyo' kyF' kyN' kyhd'; (try k_fold))) | walk1 | (dsimp only; walk1) | (leave1; try dsimp only)))
  refine nextfree_spec (by walk_at "cx9") (by walk_at "rm9") hT' ha hab hb ?_ ?_
  · intro x t T9 h' tk' hn he9 hT9 F9 N9
    have hT8 := hT9
    refine' elimG ?h9y2 ?k9y2
    case h9y2 =>
      intro G9 k9
      obtain ⟨hm1, ⟨h1, h2, h3, h4, t1, t2, t3, t4, u1, u2, u3, n, hm2⟩, hm3, hlo, hD⟩ := id hT9
      revert hD
      revert hlo
      revert hm3
      revert hm2
      revert n
      revert u3
      revert u2
      revert u1
      revert t4
      revert t3
      revert t2
      revert t1
      revert h4
      revert h3
      revert h2
      revert h1
      revert hm1
      exact k9
    intro hm1 h1 h2 h3 h4 t1 t2 t3 t4 u1 u2 u3 n hm2 hm3 hlo hD
    try clear hT9
    (try k_fold)
    (repeat' (first | (k_unfold; (try dsimp only)) | (k_end; wrow_close) | ((with_reducible show wpAny _ _ (leaving _ _) _ _ _); (first | with_reducible (refine' leave_onS ?k1 ?k2 ?k3 ?k4 ?_; (case k1 => k_asm); (case k3 => assumption); (case k2 => assumption); (case k4 => assumption); intro kyh9 kyR9 _ kyU9; (try dsimp only)) | (refine' leave_onS ?k1 ?k2 ?k3 ?k4 ?_; (case k1 => k_asm); (case k3 => assumption); (case k2 => assumption); (case k4 => assumption); intro kyh9 kyR9 _ kyU9; (try dsimp only)))) | ((with_reducible show wpAny _ _ (setItem (Value.ref _) (Value.int _ _) (Value.bool _)) _ _ _); with_reducible (k_here; k_dflt (refine' m_dset ?k1 ?k2 ?k3 ?k4 ?k5 ?_; (case k1 => k_asm); (case k2 => k_asm); (case k3 => k_mem); (case k4 => with_reducible assumption); (case k5 => (simp only [List.length_map]; omega))); intro kyh' kyo' kyF' kyN' kyhd'; (try k_fold))) | walk1 | (dsimp only; walk1) | (leave1; try dsimp only)))
    exact hret x t _ _ _ _ hn ⟨_, by rw [he9.choose_spec]⟩ (port_tab (by assumption) hT8 (by rw [← stored_tk (nextF_not hn)]; assumption)) (by k_asm) (by k_asm)
  · intro hn
    ((intro kyg2' kye2' kyt2' kymsg' kyh' kytk' kyFg' kyR9 kyU9; (try k_unfold); (try dsimp only)))
    (repeat' (first | (k_unfold; (try dsimp only)) | (k_end; wrow_close) | ((with_reducible show wpAny _ _ (leaving _ _) _ _ _); (first | with_reducible (refine' leave_onS ?k1 ?k2 ?k3 ?k4 ?_; (case k1 => k_asm); (case k3 => assumption); (case k2 => assumption); (case k4 => assumption); intro kyh9 kyR9 _ kyU9; (try dsimp only)) | (refine' leave_onS ?k1 ?k2 ?k3 ?k4 ?_; (case k1 => k_asm); (case k3 => assumption); (case k2 => assumption); (case k4 => assumption); intro kyh9 kyR9 _ kyU9; (try dsimp only)))) | ((with_reducible show wpAny _ _ (setItem (Value.ref _) (Value.int _ _) (Value.bool _)) _ _ _); with_reducible (k_here; k_dflt (refine' m_dset ?k1 ?k2 ?k3 ?k4 ?k5 ?_; (case k1 => k_asm); (case k2 => k_asm); (case k3 => k_mem); (case k4 => with_reducible assumption); (case k5 => (simp only [List.length_map]; omega))); intro kyh' kyo' kyF' kyN' kyhd'; (try k_fold))) | walk1 | (dsimp only; walk1) | (leave1; try dsimp only)))
    exact hexc hn _ _ _ _ _ _ (by k_asm) (by assumption) (by assumption)
end
section
variable {prog : Program} {w : World} {p : Program} {loose : List Str} {mean : ExcName → Option Value} {mg mb : Str → Option Value}
  {dp un : Nat} {gd : Option (List Code)} {cn : Str} {cs : Scope} {fa : Addr} {ccd : Value} {cl : List (Str × Addr)} {outer : List Env} {A₀ : Around} {base h₀ : Heap} {L : Addr} {m : Str → Option Value} {s : Shared} {Q E : Value → Shared → Prop}
  {news : List (Addr × Obj)}
set_option maxHeartbeats 3000000 in
theorem takebad_spec {pr dx D : Addr} {oD : Obj} {a b f x : Int} {tx : Tok} {tks : List Int} (C : Cx w p loose mean mg mb A₀ base h₀ outer L s.heap m news) (R : Rm cs dp un 5) (hT : PortR prog w news pr dx D oD a b f tks) (hx0 : x ≠ 0) (hlo : -10 < x) (hhi : x < 70000) (hx : x < 1 ∨ 65535 < x ∨ x ∈ tks)
  (hexc : Exc base h₀ L m (envX cn cs L fa ccd cl :: outer) 68 news s E) :
  wpAny (model prog w) (ktrTop dp un gd cn cs L fa ccd cl outer) (call (.ref 209) [.ref pr, .int x tx]) Q E s := by
  have C' := C
  obtain ⟨B, F, X, N, T⟩ := C'
  have hRd := R.hd
  have hRu := R.hu
  have hT' := hT
  refine' elimG ?h9y1 ?k9y1
  case h9y1 =>
    intro G9 k9
    obtain ⟨hm1, ⟨h1, h2, h3, h4, t1, t2, t3, t4, u1, u2, u3, n, hm2⟩, hm3, hlo, hD⟩ := id hT
    revert hD
    revert hlo
    revert hm3
    revert hm2
    revert n
    revert u3
    revert u2
    revert u1
    revert t4
    revert t3
    revert t2
    revert t1
    revert h4
    revert h3
    revert h2
    revert h1
    revert hm1
    exact k9
  intro hm1 h1 h2 h3 h4 t1 t2 t3 t4 u1 u2 u3 n hm2 hm3 hlo hD
  try clear hT
  k_dflt (refine' enterK (binds := [(Str.ofString "self", .ref pr), (Str.ofString "number", .int x tx)]) C R ?k6 ?k7 ?k9 ?kB ?_ ?c2 ?c3 ?c4 ?c5; (((case k6 => k_is); (case k7 => k_is); (case k9 => exact binds_K (by k_in) rfl (by k_is) rfl rfl rfl); (case c5 => decide); (case kB => exact locs rfl); (case c2 => exact rfl); (case c3 => exact rfl); (case c4 => exact rfl); k_whole; intro g' L' h' FG' F' N' B' X' T'; (try dsimp only); (try k_fold))))
  by_cases hr : 1 ≤ x ∧ x ≤ 65535
  · have hin : x ∈ tks := by rcases hx with h | h | h <;> first | exact h | omega
    have hd : decide (x ∈ tks) = true := decide_eq_true hin
    (repeat' (first | (k_unfold; (try dsimp only)) | (k_end; wrow_close) | (with_reducible (k_here; refine x_raise rfl ?_; (try k_fold))) | ((with_reducible show wpAny _ _ (leaving _ _) _ _ _); with_reducible (refine' x_leave ?k1 ?k2 ?k3 ?k4 ?k5 ?_; (case k1 => k_asm); (case k2 => k_asm); (case k3 => k_asm); (case k4 => assumption); (case k5 => assumption); intro kyh9 kyR9 kyU9; (try dsimp only))) | (with_reducible (refine' raiseQ_of ?k1 ?k2 ?k3 ?k4 ?_; (case k2 => k_asm); (case k3 => k_asm); (case k4 => k_asm); (case k1 => first | exact exc80 _ | exact exc68 _ | exact exc44 _); (try k_unfold); (try dsimp only))) | (with_reducible (k_here; (with_reducible show wpAny _ _ (PySem.call (Value.ref 201) _ _) _ _ _); k_dflt (refine' istaken_spec ?c1 ?c2 ?c3 ?_; (case c1 => walk_at "cx9"); (case c2 => walk_at "rm9"); (case c3 => (first | with_reducible assumption | (focus (refine' PortR.mono ?_ ?_; rotate_right; (focus with_reducible assumption); walk_at "sub9"))))); intro kyh' kytk' kyF' kyN'; (try k_fold))) | (with_reducible (k_here; (with_reducible show wpAny _ _ (PySem.call (Value.ref 68) _ _) _ _ _); k_dflt (refine' xcallN ?c1 ?c2 ?c3 ?_; (case c1 => exact exc68 _); (case c2 => walk_at "cx9"); (case c3 => walk_at "rm9")); intro kye' kyt' kyh' kyd' kytk' kyhlt' kyhte' kyF' kyN'; (try k_fold))) | walk1 | (dsimp only; walk1) | (leave1; try dsimp only)))
    all_goals first | (exfalso; omega) | exact hexc _ _ _ _ _ _ (by k_asm) (by assumption) (by assumption)
  · (repeat' (first | (k_unfold; (try dsimp only)) | (k_end; wrow_close) | (with_reducible (k_here; refine x_raise rfl ?_; (try k_fold))) | ((with_reducible show wpAny _ _ (leaving _ _) _ _ _); with_reducible (refine' x_leave ?k1 ?k2 ?k3 ?k4 ?k5 ?_; (case k1 => k_asm); (case k2 => k_asm); (case k3 => k_asm); (case k4 => assumption); (case k5 => assumption); intro kyh9 kyR9 kyU9; (try dsimp only))) | (with_reducible (refine' raiseQ_of ?k1 ?k2 ?k3 ?k4 ?_; (case k2 => k_asm); (case k3 => k_asm); (case k4 => k_asm); (case k1 => first | exact exc80 _ | exact exc68 _ | exact exc44 _); (try k_unfold); (try dsimp only))) | (with_reducible (k_here; (with_reducible show wpAny _ _ (PySem.call (Value.ref 201) _ _) _ _ _); k_dflt (refine' istaken_spec ?c1 ?c2 ?c3 ?_; (case c1 => walk_at "cx9"); (case c2 => walk_at "rm9"); (case c3 => (first | with_reducible assumption | (focus (refine' PortR.mono ?_ ?_; rotate_right; (focus with_reducible assumption); walk_at "sub9"))))); intro kyh' kytk' kyF' kyN'; (try k_fold))) | (with_reducible (k_here; (with_reducible show wpAny _ _ (PySem.call (Value.ref 68) _ _) _ _ _); k_dflt (refine' xcallN ?c1 ?c2 ?c3 ?_; (case c1 => exact exc68 _); (case c2 => walk_at "cx9"); (case c3 => walk_at "rm9")); intro kye' kyt' kyh' kyd' kytk' kyhlt' kyhte' kyF' kyN'; (try k_fold))) | walk1 | (dsimp only; walk1) | (leave1; try dsimp only)))
    all_goals first | (exfalso; omega) | exact hexc _ _ _ _ _ _ (by k_asm) (by assumption) (by assumption)
end
/-- What a comprehension's test leaves. -/
def FiltEnd (h₀ : Heap) (L : Addr) (m : Str → Option Value) (s : Shared) (I : Addr) (oI : Obj) (C : Addr) (oC : Obj) (D : Addr) (ys : List Value) (T : List (Addr × Obj)) (b ok : Bool) (s' : Shared) : Prop :=
  ∃ h' tk', ok = b ∧ s' = { s with heap := h', toks := tk' } ∧ Fr h₀ L h' m ∧ News h₀ L h' ((I, oI) :: (C, oC) :: (D, LCg.lst ys) :: T)
/-- What a comprehension's element leaves. -/
def MapEnd (h₀ : Heap) (L : Addr) (m : Str → Option Value) (s : Shared) (I : Addr) (oI : Obj) (C : Addr) (oC : Obj) (D : Addr) (ys : List Value) (T : List (Addr × Obj)) (k : Int) (y : Value) (s' : Shared) : Prop :=
  ∃ h' tk' t, y = .int k t ∧ s' = { s with heap := h', toks := tk' } ∧ Fr h₀ L h' m ∧ News h₀ L h' ((I, oI) :: (C, oC) :: (D, LCg.lst ys) :: T)
section
open LCg LCt
variable {prog : Program} {w : World} {A : Around} {E : Value → Shared → Prop} {s : Shared} {h₀ : Heap} {L : Addr} {m : Str → Option Value} {env : Env}
  {elt ct : Expr} {x : Str} {scope : Scope} {cl : List (Str × Addr)} {S : List (Addr × Obj) → Prop} {P : Nat → Value → Prop} {Fin : List Value → List (Addr × Obj) → Prop} {T : List (Addr × Obj)} {n : Nat}
/-- A comprehension by what holds between its turns. -/
theorem comp_inv (Inv : Nat → List Value → List (Addr × Obj) → Prop) (h0 : Inv 0 [] T)
    (step : ∀ i v ys T I oI C oC D m₂ h tk (E' : Value → Shared → Prop), i < n → P i v → Inv i ys T → NsObj oC m₂ → m₂ x = some v → Fr h₀ L h m → News h₀ L h ((I, oI) :: (C, oC) :: (D, lst ys) :: T) → Off3 I C D T → ((@Ne Nat I C) ∧ (@Ne Nat I D) ∧ (@Ne Nat C D)) →
      wpAny (model prog w) A (eval elt (compEnvC scope cl C env)) (CompEnd h₀ L m { s with heap := h, toks := tk } I oI C oC D (lst ys) S (fun y T' => Inv (i + 1) (ys ++ [y]) T')) E' { s with heap := h, toks := tk })
    (fin : ∀ ys T', Inv n ys T' → Fin ys T') : CompRest prog w A h₀ L m env elt x scope cl s S P Fin n 0 [] T := by
  have main : ∀ k i ys T, i + k = n → Inv i ys T → CompRest prog w A h₀ L m env elt x scope cl s S P Fin k i ys T := by
    intro k
    induction k with
    | zero =>
      intro i ys T hi hI
      obtain rfl : i = n := by omega
      exact CompRest.zero (fin _ _ hI)
    | succ k ih =>
      intro i ys T hi hI
      refine CompRest.succ fun v I oI C oC D m₂ h tk E' hv hC hx F N off ne => ?_
      refine wpAny_mono (step i v ys T I oI C oC D m₂ h tk E' (by omega) hv hI hC hx F N off ne) ?_ fun _ _ e => e
      rintro y s' ⟨h', tk', T', e, F', N', off', hS', hI'⟩
      exact ⟨h', tk', T', e, F', N', off', hS', ih (i + 1) _ _ (by omega) hI'⟩
  exact main n 0 [] T (by omega) h0
/-- A comprehension with one test over ints; the element is the name itself. -/
theorem filt_ints {px : Pos} {f : Nat → Int} {ns : List Int} (keep : Int → Bool) (hP : ∀ i v, i < n → P i v → ∃ t, v = .int (f i) t) (hns : ns = (List.range n).map f) (hS : S T)
    (hk : (compEnvC scope cl 0 env).scope.kind = .function) (hl : (compEnvC scope cl 0 env).kindOf x = some .local) (hd : (x == ("__debug__" : Str)) = false)
    (hstep : ∀ i t ys I oI C oC D m₂ h tk (E' : Value → Shared → Prop), i < n → NsObj oC m₂ → m₂ x = some (.int (f i) t) → Fr h₀ L h m → News h₀ L h ((I, oI) :: (C, oC) :: (D, lst ys) :: T) →
      wpAny (model prog w) A (isTrue ct (compEnvC scope cl C env) (eval ct (compEnvC scope cl C env))) (FiltEnd h₀ L m s I oI C oC D ys T (keep (f i))) E' { s with heap := h, toks := tk })
    (hfin : ∀ ys, IntsAre ys (ns.filter keep) → Fin ys T) :
    CompRestT prog w A h₀ L m env ct (.Name x px) x scope cl s S P Fin n 0 [] T := by
  subst hns
  have snoc : ∀ {ys : List Value} {ks : List Int} {k : Int} {t : Tok}, IntsAre ys ks → IntsAre (ys ++ [.int k t]) (ks ++ [k]) := by
    intro ys ks k t h
    induction h with
    | nil => exact .cons _ _ .nil
    | cons a u _ ih => exact .cons a u ih
  have main : ∀ k i ys, i + k = n → IntsAre ys (((List.range i).map f).filter keep) → CompRestT prog w A h₀ L m env ct (.Name x px) x scope cl s S P Fin k i ys T := by
    intro k
    induction k with
    | zero =>
      intro i ys hi hI
      obtain rfl : i = n := by omega
      exact CompRestT.zero (hfin _ hI)
    | succ k ih =>
      intro i ys hi hI
      refine CompRestT.succ fun v I oI C oC D m₂ h tk E' hv hC hx F N off ne => ?_
      refine' elimG ?h9y2 ?k9y2
      case h9y2 =>
        have h9z := hP i v (by omega) hv
        intro G9 k9
        obtain ⟨t, e9x1⟩ := h9z
        revert e9x1
        revert t
        exact k9
      intro t e9x1
      subst e9x1
      have ih' := ih (i + 1)
      rw [List.range_succ, List.map_append, List.filter_append] at ih'
      refine wpAny_mono (hstep i t _ I oI C oC D m₂ h tk E' (by omega) hC hx F N) ?_ fun _ _ e => e
      rintro ok s' ⟨h', tk', rfl, rfl, F', N'⟩
      cases hkq : keep (f i) with
      | true =>
        simp only [if_true]
        refine LCgL.ld_own (s := { s with heap := h', toks := tk' }) N' (List.mem_cons_of_mem _ List.mem_cons_self) hC hx ?_ hk hl hd
        refine CompEnd.intro (s₁ := { s with heap := h, toks := tk }) F' N' T (fun _ hp => hp) off hS ?_
        refine ih' _ (by omega) ?_
        simp only [List.map_cons, List.map_nil, List.filter_cons, hkq, if_true, List.filter_nil]
        exact snoc hI
      | false =>
        simp only [Bool.false_eq_true, if_false]
        refine CompEnd.intro (s₁ := { s with heap := h, toks := tk }) F' N' T (fun _ hp => hp) off hS ?_
        refine ih' _ (by omega) ?_
        simp only [List.map_cons, List.map_nil, List.filter_cons, hkq, Bool.false_eq_true, if_false, List.filter_nil, List.append_nil]
        exact hI
  exact main n 0 [] (by omega) .nil
/-- A comprehension over ints whose element is an int. -/
theorem map_ints (f : Nat → Int) (hS : S T)
    (hstep : ∀ i v ys I oI C oC D m₂ h tk (E' : Value → Shared → Prop), i < n → P i v → NsObj oC m₂ → m₂ x = some v → Fr h₀ L h m → News h₀ L h ((I, oI) :: (C, oC) :: (D, lst ys) :: T) →
      wpAny (model prog w) A (eval elt (compEnvC scope cl C env)) (MapEnd h₀ L m s I oI C oC D ys T (f i)) E' { s with heap := h, toks := tk })
    (hfin : ∀ ys, IntsAre ys ((List.range n).map f) → Fin ys T) : CompRest prog w A h₀ L m env elt x scope cl s S P Fin n 0 [] T := by
  have snoc : ∀ {ys : List Value} {ks : List Int} {k : Int} {t : Tok}, IntsAre ys ks → IntsAre (ys ++ [.int k t]) (ks ++ [k]) := by
    intro ys ks k t h
    induction h with
    | nil => exact .cons _ _ .nil
    | cons a u _ ih => exact .cons a u ih
  refine comp_inv (fun i ys T' => T' = T ∧ IntsAre ys ((List.range i).map f)) ⟨rfl, .nil⟩ ?_ ?_
  · rintro i v ys T' I oI C oC D m₂ h tk E' hi hv ⟨rfl, hI⟩ hC hx F N off ne
    refine wpAny_mono (hstep i v ys I oI C oC D m₂ h tk E' hi hv hC hx F N) ?_ fun _ _ e => e
    rintro y s' ⟨h', tk', t, rfl, rfl, F', N'⟩
    refine CompEnd.intro (s₁ := { s with heap := h, toks := tk }) F' N' _ (fun _ hp => hp) off hS ⟨rfl, ?_⟩
    rw [List.range_succ, List.map_append]
    exact snoc hI
  · rintro ys T' ⟨rfl, hI⟩
    exact hfin ys hI
end
--M<
local macro_rules | `(tactic| walk_at "CompSrc") => `(tactic| (k_here; k_dflt (first
  | (refine LCg.CompSrc.ledger (by rfl) (by k_asm) (by k_asm) (by k_mem) ?sz9 ?_; (case sz9 => (first | (first | omega | (simp only [List.size_toArray, List.length_map, sizeLine]; omega) | (rw [PySem.sizeLine_eq]; (try simp only [List.size_toArray]); omega)) | ((simp only [List.size_toArray, List.length_map, sizeLine]; omega)))); intro g'; (try dsimp only); refine stop_mk ?_)
  | (refine LCg.CompSrc.range (by rfl) (by k_asm) (by k_asm) (by assumption) (small_one (by omega) (by omega) (by omega) (by omega)) (rangeSize_nat _ _) ?sz9 ?_; (case sz9 => (first | (first | omega | (simp only [List.size_toArray, List.length_map, sizeLine]; omega) | (rw [PySem.sizeLine_eq]; (try simp only [List.size_toArray]); omega)) | ((simp only [List.size_toArray, List.length_map, sizeLine]; omega)))); intro g'; (try dsimp only); refine stop_mk ?_))))
local macro_rules | `(tactic| walk_at "CompSrcT") => `(tactic| (k_here; k_dflt (first
  | (refine LCt.CompSrcT.ledger (by rfl) (by k_asm) (by k_asm) (by k_mem) ?sz9 ?_; (case sz9 => (first | (first | omega | (simp only [List.size_toArray, List.length_map, sizeLine]; omega) | (rw [PySem.sizeLine_eq]; (try simp only [List.size_toArray]); omega)) | ((simp only [List.size_toArray, List.length_map, sizeLine]; omega)))); intro g'; (try dsimp only); refine stop_mk ?_)
  | (refine LCt.CompSrcT.range (by rfl) (by k_asm) (by k_asm) (by assumption) (small_one (by omega) (by omega) (by omega) (by omega)) (rangeSize_nat _ _) ?sz9 ?_; (case sz9 => (first | (first | omega | (simp only [List.size_toArray, List.length_map, sizeLine]; omega) | (rw [PySem.sizeLine_eq]; (try simp only [List.size_toArray]); omega)) | ((simp only [List.size_toArray, List.length_map, sizeLine]; omega)))); intro g'; (try dsimp only); refine stop_mk ?_))))
--M>
/-- What a turn leaves where the frame's ground may turn too. -/
def TurnB (L I : Addr) (oI : Obj) (K : List (Addr × Obj)) (J : Heap → (Str → Option Value) → List (Addr × Obj) → Prop) (s₁ : Shared) (Q : Flow → Shared → Prop) (f : Flow) (s₂ : Shared) : Prop :=
  match f with
  | .ret v => Q (.ret v) s₂
  | .brk => Q .next s₂
  | _ => ∃ g h' tk m' T', s₂ = { s₁ with heap := h', toks := tk } ∧ Fr g L h' m' ∧ News g L h' ((I, oI) :: (K ++ T')) ∧ (∀ p ∈ T', p.1 ≠ I) ∧ J g m' T'
theorem turnB_ret {L I : Addr} {oI : Obj} {K : List (Addr × Obj)} {J : Heap → (Str → Option Value) → List (Addr × Obj) → Prop} {s₁ s₂ : Shared} {Q : Flow → Shared → Prop} {v : Value} (h : Q (.ret v) s₂) : TurnB L I oI K J s₁ Q (.ret v) s₂ := h
theorem turnB_next {g h' : Heap} {L I : Addr} {oI : Obj} {K : List (Addr × Obj)} {J : Heap → (Str → Option Value) → List (Addr × Obj) → Prop} {s₁ : Shared} {tk : Nat} {m' : Str → Option Value} {Q : Flow → Shared → Prop} (T' : List (Addr × Obj)) (F : Fr g L h' m') (N : News g L h' ((I, oI) :: (K ++ T'))) (off : ∀ p ∈ T', p.1 ≠ I) (hJ : J g m' T') :
    TurnB L I oI K J s₁ Q .next { s₁ with heap := h', toks := tk } := ⟨g, h', tk, m', T', rfl, F, N, off, hJ⟩
def LoopB (prog : Program) (w : World) (A : Around) (env : Env) (x : Str) (px : Pos) (body : List Stmt) (Q : Flow → Shared → Prop) (E : Value → Shared → Prop) (it : Value) (s : Shared) : Prop :=
  codeAny (model prog w) A (.forLoop (.Name x px) it body [] env) (fun r s' => match r with | .ok f => Q f s' | .error e => cameBackBy (model prog w) A env E e s') s
section
variable {prog : Program} {w : World} {A : Around} {E : Value → Shared → Prop} {s : Shared} {env : Env} {x : Str} {px : Pos} {body : List Stmt} {Q : Flow → Shared → Prop}
theorem For_B {pos : Pos} {iter : Expr} (h : wpAny (model prog w) A (eval iter env) (fun xv s₁ => wpAny (model prog w) A (pyIter xv) (fun it s₂ => LoopB prog w A env x px body Q E it s₂) E s₁) E s)
    (hs : ∀ x, foldedSetIterable iter env x = pure x := by intro _; rfl) : wpAny (model prog w) A (exec (.For (.Name x px) iter body [] pos) env) Q E s := wpAny_For h hs
theorem iter_B {I : Addr} {K : List (Addr × Obj)} {n : Nat} {P : Nat → Value → Prop} {St : Nat → Heap → Prop} {g₀ : Heap} {m₀ : Str → Option Value} {news : List (Addr × Obj)} (stored : List Str) (W : Walks prog w A I (I :: K.map (·.1)) [I] n P St) (hIo : ∀ i h, St i h → ∃ o, h.get? I = some o ∧ (∃ vs, o.data = .fields vs) ∧ o.cls ≠ .type "dict")
    (hx : env.kindOf x = some .local) (hp : (env.scope.kind == .class || (env.scope.kind == .module && env.locals != env.globals)) = false) (hE : PassesOwn (model prog w) A env E)
    (hst : St 0 s.heap) (F : Fr g₀ env.locals s.heap m₀) (N : News g₀ env.locals s.heap (K ++ news)) (hI₀ : g₀.get? I = none) (hIL : env.locals ≠ I) (offK : ∀ p ∈ K, p.1 ≠ I) (off : ∀ p ∈ news, p.1 ≠ I)
    (J : Nat → Heap → (Str → Option Value) → List (Addr × Obj) → Prop) (h0 : J 0 g₀ m₀ news)
    (turn : ∀ i v g m₁ T h tk oI, i < n → P i v → J i g m₁ T → ((∃ vs, oI.data = .fields vs) ∧ oI.cls ≠ .type "dict") → (∀ p ∈ T, p.1 ≠ I) → Fr g env.locals h (fun y => if y = x then some v else if stored.contains y = true then m₁ y else m₀ y) → News g env.locals h ((I, oI) :: (K ++ T)) →
      wpAny (model prog w) A (execs body env) (TurnB env.locals I oI K (fun g' m' T' => Keep stored m₀ m' ∧ J (i + 1) g' m' T') { s with heap := h, toks := tk } Q) E { s with heap := h, toks := tk })
    (done : ∀ g m₁ T h tk, J n g m₁ T → Fr g env.locals h (fun y => if stored.contains y = true then m₁ y else m₀ y) → News g env.locals h (K ++ T) → Q .next { s with heap := h, toks := tk }) :
    LoopB prog w A env x px body Q E (.ref I) s := by
  have same : ∀ m₁, Keep stored m₀ m₁ → m₁ = fun y => if stored.contains y = true then m₁ y else m₀ y := by
    intro m₁ hK
    funext y
    cases hc : stored.contains y with
    | true => simp
    | false => simp only [Bool.false_eq_true, if_false]; exact hK y hc
  refine codeAny_forLoop
    (fun k s' => ∃ h' tk g m' T i, s' = { s with heap := h', toks := tk } ∧ St i h' ∧ Fr g env.locals h' m' ∧ News g env.locals h' (K ++ T) ∧ g.get? I = none ∧ (∀ p ∈ T, p.1 ≠ I) ∧ Keep stored m₀ m' ∧ J i g m' T ∧ i ≤ n ∧ k = n + 1 - i) ?_ (n + 1)
    ⟨s.heap, s.toks, g₀, m₀, news, 0, rfl, hst, F, N, hI₀, off, fun _ _ => rfl, h0, Nat.zero_le _, rfl⟩
  rintro k s' ⟨h', tk, g, m', T, i, rfl, hst', F', N', hgI, off', hK, hJ, hi, rfl⟩
  have offA : ∀ p ∈ K ++ T, p.1 ≠ I := fun p hp => (List.mem_append.mp hp).elim (offK p) (off' p)
  have next : ∀ h₁ : Heap, (∀ b o, b ∉ [I] → h'.get? b = some o → h₁.get? b = some o) → Fr g env.locals h₁ m' ∧ News g env.locals h₁ (K ++ T) := fun h₁ hk₁ =>
    ⟨⟨F'.ns.at' fun o e => hk₁ _ o (fun z => hIL (List.mem_singleton.mp z)) e, fun b o e => hk₁ b o (fun z => by rw [List.mem_singleton.mp z, hgI] at e; cases e) (F'.keep b o e), F'.above⟩, fun p hp => ⟨hk₁ _ _ (fun z => offA p hp (List.mem_singleton.mp z)) (N' p hp).1, (N' p hp).2⟩⟩
  by_cases hlt : i < n
  · refine W.item i _ _ _ hlt hst' fun v h₁ tk₁ hP hst₁ hk₁ => ?_
    refine' elimG ?h9y1 ?k9y1
    case h9y1 =>
      intro G9 k9
      obtain ⟨F₁, N₁⟩ := next h₁ hk₁
      revert N₁
      revert F₁
      exact k9
    intro F₁ N₁
    refine wpAny_assign_Name (wpAny_storeName_local hx F₁.ns (fun h₂ hn₂ hs₂ => ?_) hp)
    have F₂ := F₁.set hn₂ hs₂
    have N₂ := N₁.set hs₂
    have other : ∀ b o, b ≠ env.locals → h₁.get? b = some o → h₂.get? b = some o := fun b o q e => (hs₂.2 b q).trans e
    have hst₂ : St (i + 1) h₂ := W.frame _ _ _ hst₁ fun b hb o e => other b o (fun q => by
      rcases List.mem_cons.mp hb with z | z
      · exact hIL (q ▸ z)
      · refine' elimG ?h9y2 ?k9y2
        case h9y2 =>
          intro G9 k9
          obtain ⟨p, hp, z'⟩ := List.mem_map.mp z
          revert z'
          revert hp
          revert p
          exact k9
        intro p hp z'
        exact (N₁ p (List.mem_append_left _ hp)).2.1 (z'.trans q)) e
    refine' elimG ?h9y3 ?k9y3
    case h9y3 =>
      intro G9 k9
      obtain ⟨oI, hoI, hfl⟩ := hIo _ _ hst₂
      revert hfl
      revert hoI
      revert oI
      exact k9
    intro oI hoI hfl
    have N₃ : News g env.locals h₂ ((I, oI) :: (K ++ T)) := fun p hp => by
      rcases List.mem_cons.mp hp with rfl | hp
      · exact ⟨hoI, Ne.symm hIL, hgI⟩
      · exact N₂ p hp
    rw [keep_frame hK] at F₂
    refine wpAny_mono (wpAny_passesOwn hE (turn i v g m' T _ _ oI hlt hP hJ hfl off' F₂ N₃)) (fun f s₃ h₃ => ?_) fun _ _ e => e
    have fin : TurnB env.locals I oI K (fun g' m' T' => Keep stored m₀ m' ∧ J (i + 1) g' m' T') { s with heap := h₂, toks := tk₁ + 1 } Q .next s₃ →
        ∃ k', k' < n + 1 - i ∧ ∃ h' tk g m' T j, s₃ = { s with heap := h', toks := tk } ∧ St j h' ∧ Fr g env.locals h' m' ∧ News g env.locals h' (K ++ T) ∧ g.get? I = none ∧ (∀ p ∈ T, p.1 ≠ I) ∧ Keep stored m₀ m' ∧ J j g m' T ∧ j ≤ n ∧ k' = n + 1 - j := by
      rintro ⟨g', h₃', tk₃, m₂, T₂, e, F₃, N₃', o₃, hK₃, hJ₃⟩
      refine ⟨n + 1 - (i + 1), by omega, h₃', tk₃, g', m₂, T₂, i + 1, e, ?_, F₃, fun p hp => N₃' p (List.mem_cons_of_mem _ hp), (N₃' _ List.mem_cons_self).2.2, o₃, hK₃, hJ₃, hlt, rfl⟩
      refine W.frame _ _ _ hst₂ fun b hb o e => ?_
      rcases List.mem_cons.mp hb with rfl | z
      · rw [hoI] at e; cases e
        exact (N₃' _ List.mem_cons_self).1
      · refine' elimG ?h9y5 ?k9y5
        case h9y5 =>
          intro G9 k9
          obtain ⟨p, hp, e9x4⟩ := List.mem_map.mp z
          revert e9x4
          revert hp
          revert p
          exact k9
        intro p hp e9x4
        subst e9x4
        have e1 := (N₃ p (List.mem_cons_of_mem _ (List.mem_append_left _ hp))).1
        rw [e1] at e; cases e
        exact (N₃' p (List.mem_cons_of_mem _ (List.mem_append_left _ hp))).1
    cases f with
    | ret v => exact h₃
    | brk => exact h₃
    | cont => exact fin h₃
    | next => exact fin h₃
  · obtain rfl : i = n := by omega
    refine W.done _ _ _ hst' fun h₁ tk₁ hk₁ => wpAny_execs_nil ?_
    refine' elimG ?h9y6 ?k9y6
    case h9y6 =>
      intro G9 k9
      obtain ⟨F₁, N₁⟩ := next h₁ hk₁
      revert N₁
      revert F₁
      exact k9
    intro F₁ N₁
    rw [same m' hK] at F₁
    exact done g m' T h₁ tk₁ hJ F₁ N₁
theorem range_B {r : Addr} {a b c : Int} {t u v : Tok} {n : Nat} {g₀ : Heap} {m₀ : Str → Option Value} {news : List (Addr × Obj)} (stored : List Str) (J : Nat → Heap → (Str → Option Value) → List (Addr × Obj) → Prop) (hh : A.handled = none) (hr : IsRange s.heap r a b c t u v) (hsm : Builtin.Range.small a b c = true) (hn : Builtin.Range.rangeSize a b c = ((n : Nat) : Int))
    (hx : env.kindOf x = some .local) (hp : (env.scope.kind == .class || (env.scope.kind == .module && env.locals != env.globals)) = false) (hE : PassesOwn (model prog w) A env E)
    (F : Fr g₀ env.locals s.heap m₀) (N : News g₀ env.locals s.heap news) (h0 : J 0 g₀ m₀ news)
    (turn : ∀ (i : Nat) t g m₁ T h tk I oI, i < n → J i g m₁ T → ((∃ vs, oI.data = .fields vs) ∧ oI.cls ≠ .type "dict") → (∀ p ∈ T, p.1 ≠ I) → Fr g env.locals h (fun y => if y = x then some (.int (a + (i : Int) * c) t) else if stored.contains y = true then m₁ y else m₀ y) → News g env.locals h ((I, oI) :: T) →
      wpAny (model prog w) A (execs body env) (TurnB env.locals I oI [] (fun g' m' T' => Keep stored m₀ m' ∧ J (i + 1) g' m' T') { s with heap := h, toks := tk } Q) E { s with heap := h, toks := tk })
    (done : ∀ g m₁ T h tk, J n g m₁ T → Fr g env.locals h (fun y => if stored.contains y = true then m₁ y else m₀ y) → News g env.locals h T → Q .next { s with heap := h, toks := tk }) :
    wpAny (model prog w) A (pyIter (.ref r)) (fun it s₂ => LoopB prog w A env x px body Q E it s₂) E s := by
  refine wpAny_pyIter_range hr hsm ?_
  have hlt : ∀ p ∈ news, p.1 ≠ s.heap.objs.size := fun p hp => Nat.ne_of_lt (Heap.lt_size (N p hp).1)
  refine iter_B (K := []) (s := { s with heap := _ }) stored (Walks.range hh s.heap.objs.size a c n) (fun i h st => ⟨_, st, ⟨_, rfl⟩, (by decide : Value.type "range_iterator" ≠ .type "dict")⟩) hx hp hE ?_ (F.keeps (fun _ _ e => Heap.get?_push_of_some _ e)) (N.grown (fun _ _ e => Heap.get?_push_of_some _ e)) (next_is_new F) (Nat.ne_of_lt F.ns.lt) (fun p hp => nomatch hp) hlt J h0 ?_ done
  · show IsRangeIter _ _ _ _ _
    rw [hn]
    simpa using Heap.get?_push_size _ rfl
  · rintro i v' g m₁ T h tk oI hi ⟨t', rfl⟩ hJ hfl hoff F₁ N₁
    exact turn i t' g m₁ T h tk _ oI hi hJ hfl hoff F₁ N₁
theorem list_B {r : Addr} {items : Array Value} {k : Nat} {g₀ : Heap} {m₀ : Str → Option Value} {news : List (Addr × Obj)} (stored : List Str) (J : Nat → Heap → (Str → Option Value) → List (Addr × Obj) → Prop) (hh : A.handled = none)
    (hx : env.kindOf x = some .local) (hp : (env.scope.kind == .class || (env.scope.kind == .module && env.locals != env.globals)) = false) (hE : PassesOwn (model prog w) A env E)
    (F : Fr g₀ env.locals s.heap m₀) (N : News g₀ env.locals s.heap ((r, listOf items k) :: news)) (h0 : J 0 g₀ m₀ news)
    (turn : ∀ (i : Nat) v g m₁ T h tk I oI, i < items.size → items[i]? = some v → J i g m₁ T → ((∃ vs, oI.data = .fields vs) ∧ oI.cls ≠ .type "dict") → (∀ p ∈ T, p.1 ≠ I) → Fr g env.locals h (fun y => if y = x then some v else if stored.contains y = true then m₁ y else m₀ y) → News g env.locals h ((I, oI) :: (r, listOf items k) :: T) →
      wpAny (model prog w) A (execs body env) (TurnB env.locals I oI [(r, listOf items k)] (fun g' m' T' => Keep stored m₀ m' ∧ J (i + 1) g' m' T') { s with heap := h, toks := tk } Q) E { s with heap := h, toks := tk })
    (done : ∀ g m₁ T h tk, J items.size g m₁ T → Fr g env.locals h (fun y => if stored.contains y = true then m₁ y else m₀ y) → News g env.locals h ((r, listOf items k) :: T) → Q .next { s with heap := h, toks := tk }) :
    wpAny (model prog w) A (pyIter (.ref r)) (fun it s₂ => LoopB prog w A env x px body Q E it s₂) E s := by
  have hl : s.heap.IsList r items := ⟨_, (N _ List.mem_cons_self).1, rfl, k, rfl⟩
  have hlt : ∀ p ∈ (r, listOf items k) :: news, p.1 ≠ s.heap.objs.size := fun p hp => Nat.ne_of_lt (Heap.lt_size (N p hp).1)
  refine wpAny_pyIter_list hl ?_
  refine iter_B (K := [(r, listOf items k)]) (s := { s with heap := _ }) stored (Walks.list hh s.heap.objs.size r (hlt _ List.mem_cons_self) items) (fun i h st => by obtain ⟨o, e, hc, hd⟩ := st.1; exact ⟨o, e, ⟨_, hd⟩, by rw [hc]; decide⟩) hx hp hE ⟨⟨_, Heap.get?_push_size _ rfl, rfl, rfl⟩, hl.push _⟩ (F.keeps (fun _ _ e => Heap.get?_push_of_some _ e)) (N.grown (fun _ _ e => Heap.get?_push_of_some _ e)) (next_is_new F) (Nat.ne_of_lt F.ns.lt) (fun p hp => hlt p (by rw [List.mem_singleton.mp hp]; exact List.mem_cons_self)) (fun p hp => hlt p (List.mem_cons_of_mem _ hp)) J h0 ?_ done
  rintro i v' g m₁ T h tk oI hi hv hJ hfl hoff F₁ N₁
  exact turn i v' g m₁ T h tk _ oI hi hv hJ hfl hoff F₁ N₁
end
theorem nb_no_bytes : typeLookup (.type "int") "__bytes__" = pure none := by rw [typeLookup_type, builtinLookup_eq_fast]; kernel_rfl
theorem nb_index : typeLookup (.type "int") "__index__" = pure (some (.builtin "int.__index__")) := by rw [typeLookup_type, builtinLookup_eq_fast]; kernel_rfl
section
variable {prog : Program} {w : World} {A : Around} {E : Value → Shared → Prop} {s : Shared} {h₀ : Heap} {L : Addr} {m : Str → Option Value} {news : List (Addr × Obj)}
theorem nb_new {n : Int} {t : Tok} {Q : Value → Shared → Prop} (h0 : 0 ≤ n) (h1 : n ≤ 1000) (hQ : ∀ t k, Q (.bytes (Array.replicate n.toNat 0) t) { s with toks := k }) :
    codeAny (model prog w) A (.call (.builtin "bytes.__new__") ⟨[.type "bytes", .int n t], []⟩) (wants Q E) s := by
  refine codeAny_of_tree ?_
  show wpAny _ A.in1 (do checkBuiltinCall "bytes.__new__" ⟨[.type "bytes", .int n t], []⟩; again (.builtin "bytes.__new__" ⟨[.type "bytes", .int n t], []⟩)) _ _ s
  refine wpAny_bind (wpAny_of_eq (F.bm_newCall _) (wpAny_pure ⟨plainId_quiet F.bm_plain _, codeAny_builtin F.bm_entry ?_⟩))
  rw [Around.under_plainId F.bm_plain _]
  have hT : s.TypeIs (.int n t) "int" := typeIs_int s n t
  unfold Builtin.«bytes.__new__»
  refine wpAny_bind (wpAny_of_eq (a := true) rfl ?_)
  refine bm_if_false rfl ?_
  refine wpAny_bind (wpAny_of_eq F.bm_sub ?_)
  refine bm_if_false rfl ?_
  refine wpAny_bind (wpAny_of_eq (F.bm_bind _) ?_)
  refine wpAny_bind (wpAny_of_eq (a := ()) rfl ?_)
  refine wpAny_bind (wpAny_of_eq (a := ()) rfl ?_)
  refine bm_if_false rfl ?_
  refine wpAny_bind (wpAny_specialOf hT nb_no_bytes ?_)
  refine wpAny_bind (wpAny_bind ?_)
  refine wpAny_of_eq (a := none) rfl ?_
  refine wpAny_pure ?_
  refine bm_if_false rfl ?_
  refine wpAny_bind (wpAny_specialOf hT nb_index ?_)
  refine bm_if_false rfl ?_
  refine wpAny_bind (wpAny_attempt (wpAny_of_eq (rfl : asIndex (.int n t) = pure n) ?_))
  dsimp only
  refine bm_if_false (by simp only [Builtin.Bytes.fitsIndex, Bool.not_eq_false', Bool.and_eq_true, decide_eq_true_eq]; omega) ?_
  rw [if_neg (by omega), if_neg (by omega)]
  refine bm_if_false (by simp only [Builtin.Bytes.tooLong, decide_eq_false_iff_not, sizeLine_eq]; omega) ?_
  refine wpAny_bind (wpAny_rule ?_)
  refine wpAny_bind (wpAny_mkBytes ?_ (by rw [Array.size_replicate, sizeLine_eq]; omega))
  show wpAny _ _ (if (Value.type "bytes" == Value.type "bytes") = true then _ else _) _ _ _
  refine bm_if_true (by decide) ?_
  first
    | exact wpAny_pure (hQ _ _)
    | exact wpAny_bind (wpAny_pure (wpAny_pure (hQ _ _)))
theorem bInts_rep (k : Nat) : KBw.bInts (Array.replicate k 0) = List.replicate k 0 := by
  unfold KBw.bInts
  simp
theorem m_bytesN {n : Int} {t : Tok} {Q : Value → Shared → Prop} (h0 : 0 ≤ n) (h1 : n ≤ 1000) (hQ : ∀ b t k, KBw.bInts b = List.replicate n.toNat 0 → Q (.bytes b t) { s with toks := k }) : wpAny (model prog w) A (call (.type "bytes") [.int n t]) Q E s := by
  refine callType_codes (Q₁ := fun obj s₁ => s₁.TypeIs obj "bytes" ∧ Q obj s₁) F.bm_called (F.bm_typeCall _) F.entry_object_init
    (nb_new h0 h1 fun t k => ⟨PySem.W.typeIs_bytes _ _ _, hQ _ t k (bInts_rep _)⟩) fun obj s₁ h₁ => ?_
  exact ⟨h₁.1, F.args_object_init_2 obj _, object_init_meets F.bm_called.init.lookup F.bm_called.made (by decide) prog w A.in1 _ s₁ ⟨h₁.1, rfl, h₁.2⟩⟩
end
--M<
--M>
section
variable {prog : Program} {w : World} {A : Around} {E : Value → Shared → Prop} {s : Shared} {h₀ : Heap} {L l1 l2 : Addr} {news : List (Addr × Obj)} {t u : Tok} {Q : Value → Shared → Prop} {b c : Array UInt8} {ks ls : List Int}
theorem m_neBytes (hb : KBw.bInts b = ks) (hc : KBw.bInts c = ls) (h : Q (.bool (!decide (ks = ls))) s) : wpAny (model prog w) A (compareOp .NotEq (.bytes b t) (.bytes c u)) Q E s :=
  ne_bytes (by rw [bne, bytes_eq hb hc]; exact h)
theorem eqat_bytes (h : b.toList = c.toList) : SeqAt.EqAt A s (.bytes b t) (.bytes c u) true := fun prog w E Q hq => by
  unfold eqBool
  refine wpAny_holding ?_
  refine wpAny_ite_split (fun _ => wpAny_bind (wpAny_rule (wpAny_pure hq))) (fun _ => wpAny_bind (eq_bytes (t := t) (u := u) ?_))
  rw [h, beq_self_eq_true]
  exact wpAny_truthy_bool hq
theorem m_neDue {p q : Int} {t1 t2 t3 u1 u2 u3 : Tok} (N : News h₀ L s.heap news) (h1 : (l1, tupO [.int p t1, .int q t2, .bytes b t3]) ∈ news) (h2 : (l2, tupO [.int p u1, .int q u2, .bytes c u3]) ∈ news) (hb : KBw.bInts b = ks) (hc : KBw.bInts c = ks) (hu : A.units < cLine) (h : Q (.bool false) s) :
    wpAny (model prog w) A (compareOp .NotEq (.ref l1) (.ref l2)) Q E s := by
  have e : b.toList = c.toList := by have := bytes_eq hb hc; rw [decide_eq_true rfl, beq_iff_eq] at this; exact this
  have x1 : s.heap.IsTuple l1 [.int p t1, .int q t2, .bytes b t3].toArray := ⟨_, (N _ h1).1, rfl, _, rfl⟩
  have x2 : s.heap.IsTuple l2 [.int p u1, .int q u2, .bytes c u3].toArray := ⟨_, (N _ h2).1, rfl, _, rfl⟩
  refine SeqAt.RcNeAt.tuples (e := fun _ => true) x1 x2 hu (fun j j1 j2 => ?_) prog w E Q ?_
  · have i1 := SeqAt.EqAt.int_int (A := A.in1) (s := s) p t1 p u1
    have i2 := SeqAt.EqAt.int_int (A := A.in1) (s := s) q t2 q u2
    rw [beq_self_eq_true] at i1 i2
    match j, j1, j2 with
    | 0, _, _ => exact i1
    | 1, _, _ => exact i2
    | 2, _, _ => exact eqat_bytes e
    | n + 3, j1, _ => exact absurd j1 (by simp)
  · exact h
end
--M<
--M>
theorem packF_len {p q c : Int} {ks : List Int} : (packF p q c ks).length = 8 + ks.length := pack_len
theorem ints_app : ∀ {vs : List Value} {ns : List Int} {ws : List Value} {ms : List Int}, IntsAre vs ns → IntsAre ws ms → IntsAre (vs ++ ws) (ns ++ ms)
  | _, _, _, _, .nil, h => h
  | _, _, _, _, .cons n t r, h => .cons n t (ints_app r h)
section
variable {prog : Program} {w : World} {A : Around} {E : Value → Shared → Prop} {s : Shared} {h₀ : Heap} {L l b : Addr} {m : Str → Option Value} {news : List (Addr × Obj)} {n k : Nat} {Q : Value → Shared → Prop}
theorem m_addInts {vs ws : List Value} {ns ms : List Int} (F : Fr h₀ L s.heap m) (N : News h₀ L s.heap news) (h1 : (l, listOf vs.toArray n) ∈ news) (h2 : (b, listOf ws.toArray k) ∈ news) (hi : IntsAre vs ns) (hj : IntsAre ws ms) (hlen : ns.length + ms.length < 10000)
    (h : ∀ l' h' us, Fr h₀ L h' m → News h₀ L h' ((l', listOf us.toArray 0) :: news) → (∀ p ∈ news, @LT.lt Nat _ p.1 l') → IntsAre us (ns ++ ms) → Q (.ref l') { s with heap := h' }) : wpAny (model prog w) A (binaryOp .Add (.ref l) (.ref b)) Q E s :=
  add_lists F N ⟨_, (N _ h1).1, rfl, _, rfl⟩ ⟨_, (N _ h2).1, rfl, _, rfl⟩ (fun h' F' N' => h _ h' (vs ++ ws) F' N' (fun p hp => Heap.lt_size (N p hp).1) (ints_app hi hj)) (by rw [hi.length, hj.length]; unfold sizeLine; omega)
end
--M<
local macro_rules | `(tactic| walk_at "len9") => `(tactic| first | assumption | omega | ((simp only [packF, List.length_append, List.length_cons, List.length_nil, List.length_take, List.length_drop, List.length_replicate]); omega))
--M>
/-- What a drawn element leaves. -/
def DrawEnd (h₀ : Heap) (L : Addr) (m : Str → Option Value) (s : Shared) (I : Addr) (oI : Obj) (C : Addr) (oC : Obj) (D : Addr) (ys : List Value) (g : Obj → List (Addr × Obj)) (ks : List Int) (y : Value) (s' : Shared) : Prop :=
  ∃ k t o' h' tk', y = .int k t ∧ k ∈ ks ∧ PoolO o' ∧ s' = { s with heap := h', toks := tk' } ∧ Fr h₀ L h' m ∧ News h₀ L h' ((I, oI) :: (C, oC) :: (D, LCg.lst ys) :: g o') ∧ LCg.Off3 I C D (g o')
theorem pool_ne {h₀ h : Heap} {L r src : Addr} {o : Obj} {vs : List Value} {T : List (Addr × Obj)} (N : News h₀ L h T) (h1 : (r, tupO vs) ∈ T) (h2 : (src, o) ∈ T) (hP : PoolO o) : @Ne Nat r src := by
  obtain ⟨x, y, tx, ty, n, rfl, _⟩ := hP
  exact news_ne N h1 h2 fun e => ne_tl (congrArg Obj.cls e)
theorem sum_two {p q c : Int} {ns : List Int} (h0 : 0 < c) (h1 : c < 65536) : ¬ List.take (8 - 6) (List.drop 6 (packF p q c ns)) = [0, 0] := by
  intro h
  have h' : [c / 256 % 256, c % 256] = [0, 0] := h
  simp only [List.cons.injEq, and_true] at h'
  omega
theorem ints_len {ys : List Value} {ns : List Int} (h : IntsAre ys ns) : ys.length = ns.length := h.length
theorem ints_two {ys : List Value} {ns : List Int} {n : Nat} (h : IntsAre ys ns) (hl : ns.length = n) (hn : n = 2) : ∃ x y tx ty, ys = [.int x tx, .int y ty] ∧ ns = [x, y] := by
  subst hl
  cases h with
  | nil => cases hn
  | cons a t h =>
    cases h with
    | nil => cases hn
    | cons b u h =>
      cases h with
      | nil => exact ⟨a, b, t, u, rfl, rfl⟩
      | cons c v h => exact absurd hn (by simp only [List.length_cons]; omega)
theorem addr_in {x : Int} (h : x ∈ addrs) : 0 ≤ x ∧ x < 4294967296 := by
  simp only [addrs, List.mem_cons, List.not_mem_nil, or_false] at h
  omega
theorem port_in {x : Int} (h : x ∈ ([0, 1, 53, 4096, 65535] : List Int)) : 0 ≤ x ∧ x < 65536 := by
  simp only [List.mem_cons, List.not_mem_nil, or_false] at h
  omega
theorem load_in {ns : List Int} (h : ∀ k ∈ ns, k ∈ ([0, 1, 128, 255] : List Int)) : ∀ k ∈ ns, 0 ≤ k ∧ k < 256 := fun k hk => by
  have := h k hk
  simp only [List.mem_cons, List.not_mem_nil, or_false] at this
  omega
section
open LCg
variable {prog : Program} {w : World} {A : Around} {s : Shared} {h₀ : Heap} {L : Addr} {m : Str → Option Value} {env : Env}
  {elt : Expr} {x : Str} {scope : Scope} {cl : List (Str × Addr)} {P : Nat → Value → Prop} {Fin : List Value → List (Addr × Obj) → Prop} {n : Nat} {o : Obj}
/-- A comprehension whose element is a draw out of written things. -/
theorem comp_draws {g : Obj → List (Addr × Obj)} {T : List (Addr × Obj)} (ks : List Int) (hT : T = g o) (hP : PoolO o)
    (step : ∀ o ys I oI C oC D h tk (E' : Value → Shared → Prop), PoolO o → Fr h₀ L h m → News h₀ L h ((I, oI) :: (C, oC) :: (D, lst ys) :: g o) → Off3 I C D (g o) → ((@Ne Nat I C) ∧ (@Ne Nat I D) ∧ (@Ne Nat C D)) →
      wpAny (model prog w) A (eval elt (compEnvC scope cl C env)) (DrawEnd h₀ L m s I oI C oC D ys g ks) E' { s with heap := h, toks := tk })
    (fin : ∀ ys ns o', IntsAre ys ns → ns.length = n → (∀ k ∈ ns, k ∈ ks) → PoolO o' → Fin ys (g o')) : CompRest prog w A h₀ L m env elt x scope cl s (fun _ => True) P Fin n 0 [] T := by
  subst hT
  have snoc : ∀ {ys : List Value} {ns : List Int} {k : Int} {t : Tok}, IntsAre ys ns → IntsAre (ys ++ [.int k t]) (ns ++ [k]) := by
    intro ys ns k t h
    induction h with
    | nil => exact .cons _ _ .nil
    | cons a u _ ih => exact .cons a u ih
  refine comp_inv (fun i ys T => ∃ o' ns, T = g o' ∧ PoolO o' ∧ IntsAre ys ns ∧ ns.length = i ∧ ∀ k ∈ ns, k ∈ ks) ⟨o, [], rfl, hP, .nil, rfl, fun _ h => nomatch h⟩ ?_ ?_
  · rintro i v ys T I oI C oC D m₂ h tk E' hi hv ⟨o', ns, rfl, hP', hI, hl, hm⟩ hC hx F N off ne
    refine wpAny_mono (step o' ys I oI C oC D h tk E' hP' F N off ne) ?_ fun _ _ e => e
    rintro y s' ⟨k, t, o2, h', tk', rfl, hk, hP2, rfl, F', N', off'⟩
    refine ⟨h', tk', g o2, rfl, F', N', off', trivial, o2, ns ++ [k], rfl, hP2, snoc hI, by rw [List.length_append, hl]; rfl, fun z hz => ?_⟩
    rcases List.mem_append.mp hz with hz | hz
    · exact hm z hz
    · rw [List.mem_singleton.mp hz]; exact hk
  · rintro ys T ⟨o', ns, rfl, hP', hI, hl, hm⟩
    exact fin ys ns o' hI hl hm hP'
end
--M<
local macro_rules | `(tactic| walk_at "eval Name") => `(tactic| (k_here; (with_reducible show wpAny _ _ (eval (PySem.Expr.Name _ _) (envOfC _ _ _ _ _)) _ _ _); k_dflt (refine' nameX_L ?F ?v ?_ ?a ?b; (case F => k_asm); (case a => rfl); (case b => rfl); (case v => first | exact rfl | assumption); k_whole)))
--M>
theorem lookup_same {K : Frag} {f : Addr} {a b : Obj} (h1 : K.lookup f = some a) (h2 : K.lookup f = some b) : a = b := Option.some.inj (h1.symm.trans h2)
/-- The frame of _law_form_right in its midst: what its locals hold. -/
structure FormAt (T : List (Addr × Obj)) (m : Str → Option Value) (x y p q : Int) (ns : List Int) (bits : List Int) (el pl du cl src : Addr) : Prop where
  me : m (Str.ofString "ends") = some (.ref el)
  mp : m (Str.ofString "ports") = some (.ref pl)
  md : m (Str.ofString "due") = some (.ref du)
  hel : ∃ tx ty n, (el, listOf #[.int x tx, .int y ty] n) ∈ T
  hpl : ∃ tx ty n, (pl, listOf #[.int p tx, .int q ty] n) ∈ T
  pay : ∃ b t t1 t2 t3, m (Str.ofString "payload") = some (.bytes b t) ∧ (du, tupO [.int p t1, .int q t2, .bytes b t3]) ∈ T ∧ KBw.bInts b = ns
  oct : ∃ b t, m (Str.ofString "octets") = some (.bytes b t) ∧ KBw.bInts b = bits
  cell : ∃ oc, (cl, oc) ∈ T ∧ oc.data = .cell (some (.ref src))
  ne : ∀ q ∈ T, q.1 ≠ src
section
variable {prog : Program} {w : World} {p : Program} {loose : List Str} {mean : ExcName → Option Value} {mg mb : Str → Option Value}
  {dp un : Nat} {gd : Option (List Code)} {cn : Str} {cs : Scope} {fa : Addr} {ccd : Value} {A₀ : Around} {base g g₀ h₀ : Heap} {L L' : Addr} {m : Str → Option Value} {s : Shared} {E : Value → Shared → Prop} {Q : Flow → Shared → Prop}
  {T : List (Addr × Obj)} {name qual : Str} {params : Arguments} {body : List Stmt} {scope : Scope} {dV kV doc pm cdv ct oc : Value} {an od : Option Addr} {osl : Array (Option Value)}

set_option maxHeartbeats 4000000 in
theorem form_t3 {src el pl du : Addr} {x y pp q bit : Int} {tb : Tok} {ns : List Int} {o : Obj} (ho : (hd.heap_1 w.params).lookup 376 = some ⟨oc, od, .func (fnOf name qual params body scope dV kV doc pm an cdv ct), osl⟩)
  (B : Below (ktrTop dp un gd cn cs L fa ccd [] []) base [envX cn cs L fa ccd []] g) (F : Fr g L' s.heap m) (X : (hd.heap_1 w.params).In g) (N : News g L' s.heap ((src, o) :: T)) (Tp : Top p loose mean mg mb g) (R : Rm cs dp un 8)
  (hF : FormAt T m x y pp q ns (packF pp q (chkI x y pp q ns) ns) el pl du (L' + 1) src) (hmb : m (Str.ofString "bit") = some (.int bit tb)) (hy : 0 ≤ Builtin.bitXor y bit) (hx : 0 ≤ x) (hy0 : 0 ≤ y) (hp : 0 ≤ pp ∧ pp < 65536) (hq : 0 ≤ q ∧ q < 65536) (hin : ∀ k ∈ ns, 0 ≤ k ∧ k < 256) (hlen : ns.length ≤ 9)
  (hret : ∀ h' tk' m', Fr g L' h' m' → News g L' h' ((src, o) :: T) → Q (.ret (.bool true)) { s with heap := h', toks := tk' }) :
  wpAny (model prog w) ((ktrTop dp un gd cn cs L fa ccd [] []).deeper (envOfC qual scope L' 376 cdv)) (execs (body.drop 12) (envOfC qual scope L' 376 cdv)) Q E s := by
  have e := lookup_same ho (by k_is)
  cases e
  have hRd := R.hd
  have hRu := R.hu
  refine' elimG ?h9y1 ?k9y1
  case h9y1 =>
    intro G9 k9
    obtain ⟨hme, hmp, hmd, ⟨tx, ty, n1, hel⟩, ⟨tp, tq, n2, hpl⟩, ⟨b, t, t1, t2, t3, hpay, hdu, hb⟩, ⟨bo, to, hoct, hbo⟩, ⟨oC, hcl, hoC⟩, hne⟩ := id hF
    revert hne
    revert hoC
    revert hcl
    revert oC
    revert hbo
    revert hoct
    revert to
    revert bo
    revert hb
    revert hdu
    revert hpay
    revert t3
    revert t2
    revert t1
    revert t
    revert b
    revert hpl
    revert n2
    revert tq
    revert tp
    revert hel
    revert n1
    revert ty
    revert tx
    revert hmd
    revert hmp
    revert hme
    exact k9
  intro hme hmp hmd tx ty n1 hel tp tq n2 hpl b t t1 t2 t3 hpay hdu hb bo to hoct hbo oC hcl hoC hne
  try clear hF
  show wpAny _ _ (execs [_, _, _] _) _ _ _
  have hz : List.take (8 - 6) (List.drop 6 (packF pp q 0 ns)) = [0, 0] := rfl
  (repeat' (first | (k_unfold; (try dsimp only)) | (k_end; wrow_close) | (with_reducible (k_here; (with_reducible show wpAny _ _ (PySem.call (Value.ref 296) [_, _, _, _, _, _] _) _ _ _); k_dflt (refine' bare_spec ?c1 ?c2 ?c3 ?c4 ?c5 ?c6 ?_; (case c1 => walk_at "cx9"); (case c2 => walk_at "rm9"); (case c3 => walk_at "bk9"); (case c4 => walk_at "len9"); (case c5 => first | assumption | decide | omega); (case c6 => first | assumption | decide | omega)); intro kyb' kyt' kyh' kytk' kyhb' kyF' kyN'; (try k_fold))) | (with_reducible (k_here; (with_reducible show wpAny _ _ (binaryOp Operator.Add (Value.bytes _ _) (Value.bytes _ _)) _ _ _); k_dflt (refine' KBa.add_K ?k1 ?k2 ?k3 ?_; (case k1 => walk_at "bk9"); (case k2 => walk_at "bk9"); (case k3 => walk_at "len9")); intro kyt' kyk' kyhb'; (try k_fold))) | ((with_reducible show wpAny _ _ (compareOp PySem.CmpOp.NotEq (Value.ref _) (Value.ref _)) _ _ _); with_reducible (k_dflt (refine' m_neDue ?k1 ?k2 ?k3 ?k4 ?k5 ?k6 ?_; (case k1 => k_asm); (case k2 => walk_at "memR9"); (case k3 => walk_at "memR9"); (case k4 => walk_at "bk9"); (case k5 => walk_at "bk9"); (case k6 => walk_at "un9")))) | ((with_reducible show wpAny _ _ (compareOp PySem.CmpOp.NotEq (Value.bytes _ _) (Value.bytes _ _)) _ _ _); with_reducible (k_dflt (refine' m_neBytes ?k1 ?k2 ?_; (case k1 => walk_at "bk9"); (case k2 => walk_at "bk9")))) | (with_reducible (k_here; (with_reducible show wpAny _ _ (call (Value.type "bytes") [Value.int _ _]) _ _ _); k_dflt (refine' m_bytesN ?k1 ?k2 ?_; (case k1 => first | decide | omega); (case k2 => first | decide | omega)); intro kyb' kyt' kyk' kyhb'; (try simp only [show Int.toNat 2 = 2 by decide, List.replicate_succ, List.replicate_zero] at kyhb'); (try k_fold))) | ((with_reducible show wpAny _ _ (compareOp PySem.CmpOp.Eq (Value.bytes _ _) (Value.bytes _ _)) _ _ _); with_reducible (k_dflt (refine' m_eqBytes ?k1 ?k2 ?_; (case k1 => walk_at "bk9"); (case k2 => walk_at "bk9")))) | ((with_reducible show wpAny _ _ (subscriptTail (PySem.Expr.Name _ _) (PySem.Expr.Slice _ _ _ _) (Value.bytes _ _) (Value.ref _)) _ _ _); with_reducible (k_here; k_dflt (first | (refine' m_bto (s := ⟨_, _, _, _, _⟩) ?F ?N ?k3 ?k4 ?k5 ?_; (case F => k_asm); (case N => k_asm); (case k3 => walk_at "bk9"); (case k4 => walk_at "len9"); (case k5 => walk_at "len9")) | (refine' m_bfrom (s := ⟨_, _, _, _, _⟩) ?F ?N ?k3 ?k4 ?k5 ?_; (case F => k_asm); (case N => k_asm); (case k3 => walk_at "bk9"); (case k4 => walk_at "len9"); (case k5 => walk_at "len9")) | (refine' m_bmid (s := ⟨_, _, _, _, _⟩) ?F ?N ?k3 ?k4 ?k6 ?k7 ?k5 ?_; (case F => k_asm); (case N => k_asm); (case k3 => walk_at "bk9"); (case k4 => walk_at "len9"); (case k6 => walk_at "len9"); (case k7 => walk_at "len9"); (case k5 => walk_at "len9"))); intro kyb' kyh' kyt' kyk' kyF' kyN' kyhb'; (try simp only [show Int.toNat 8 = 8 by decide, show Int.toNat 6 = 6 by decide] at kyhb'); (try dsimp only))) | (with_reducible ((with_reducible show wpAny _ _ (subscriptTail _ _ (Value.ref _) (Value.int _ _)) _ _ _); k_dflt (refine' m_item ?k1 ?k2 ?k3 ?k4 ?k5 ?_; (case k1 => k_asm); (case k2 => k_mem); (case k3 => decide); (case k4 => decide); (case k5 => rfl)); (try dsimp only))) | walk1 | (dsimp only; walk1) | (leave1; try dsimp only)))
  refine unpack_spec (by walk_at "cx9") (by walk_at "rm9") (by walk_at "bk9") (by walk_at "len9") hy hx ?_ ?_
  · intro z r b2 t3 t4 t5 h' tk' hz hb2 F9 N9
    have ru := unpack_pack (x := Builtin.bitXor y bit) (y := x) (sp := pp) (tp := q) (c := 0) (ks := ns) (zs := []) hp hq (by omega) (by omega) (.inl rfl)
    rw [List.append_nil] at ru
    rw [ru] at hz
    cases hz
    dsimp only at hb2 N9
    (try k_fold)
    (repeat' (first | (k_unfold; (try dsimp only)) | (k_end; wrow_close) | (with_reducible (k_here; (with_reducible show wpAny _ _ (PySem.call (Value.ref 296) [_, _, _, _, _, _] _) _ _ _); k_dflt (refine' bare_spec ?c1 ?c2 ?c3 ?c4 ?c5 ?c6 ?_; (case c1 => walk_at "cx9"); (case c2 => walk_at "rm9"); (case c3 => walk_at "bk9"); (case c4 => walk_at "len9"); (case c5 => first | assumption | decide | omega); (case c6 => first | assumption | decide | omega)); intro kyb' kyt' kyh' kytk' kyhb' kyF' kyN'; (try k_fold))) | (with_reducible (k_here; (with_reducible show wpAny _ _ (binaryOp Operator.Add (Value.bytes _ _) (Value.bytes _ _)) _ _ _); k_dflt (refine' KBa.add_K ?k1 ?k2 ?k3 ?_; (case k1 => walk_at "bk9"); (case k2 => walk_at "bk9"); (case k3 => walk_at "len9")); intro kyt' kyk' kyhb'; (try k_fold))) | ((with_reducible show wpAny _ _ (compareOp PySem.CmpOp.NotEq (Value.ref _) (Value.ref _)) _ _ _); with_reducible (k_dflt (refine' m_neDue ?k1 ?k2 ?k3 ?k4 ?k5 ?k6 ?_; (case k1 => k_asm); (case k2 => walk_at "memR9"); (case k3 => walk_at "memR9"); (case k4 => walk_at "bk9"); (case k5 => walk_at "bk9"); (case k6 => walk_at "un9")))) | ((with_reducible show wpAny _ _ (compareOp PySem.CmpOp.NotEq (Value.bytes _ _) (Value.bytes _ _)) _ _ _); with_reducible (k_dflt (refine' m_neBytes ?k1 ?k2 ?_; (case k1 => walk_at "bk9"); (case k2 => walk_at "bk9")))) | (with_reducible (k_here; (with_reducible show wpAny _ _ (call (Value.type "bytes") [Value.int _ _]) _ _ _); k_dflt (refine' m_bytesN ?k1 ?k2 ?_; (case k1 => first | decide | omega); (case k2 => first | decide | omega)); intro kyb' kyt' kyk' kyhb'; (try simp only [show Int.toNat 2 = 2 by decide, List.replicate_succ, List.replicate_zero] at kyhb'); (try k_fold))) | ((with_reducible show wpAny _ _ (compareOp PySem.CmpOp.Eq (Value.bytes _ _) (Value.bytes _ _)) _ _ _); with_reducible (k_dflt (refine' m_eqBytes ?k1 ?k2 ?_; (case k1 => walk_at "bk9"); (case k2 => walk_at "bk9")))) | ((with_reducible show wpAny _ _ (subscriptTail (PySem.Expr.Name _ _) (PySem.Expr.Slice _ _ _ _) (Value.bytes _ _) (Value.ref _)) _ _ _); with_reducible (k_here; k_dflt (first | (refine' m_bto (s := ⟨_, _, _, _, _⟩) ?F ?N ?k3 ?k4 ?k5 ?_; (case F => k_asm); (case N => k_asm); (case k3 => walk_at "bk9"); (case k4 => walk_at "len9"); (case k5 => walk_at "len9")) | (refine' m_bfrom (s := ⟨_, _, _, _, _⟩) ?F ?N ?k3 ?k4 ?k5 ?_; (case F => k_asm); (case N => k_asm); (case k3 => walk_at "bk9"); (case k4 => walk_at "len9"); (case k5 => walk_at "len9")) | (refine' m_bmid (s := ⟨_, _, _, _, _⟩) ?F ?N ?k3 ?k4 ?k6 ?k7 ?k5 ?_; (case F => k_asm); (case N => k_asm); (case k3 => walk_at "bk9"); (case k4 => walk_at "len9"); (case k6 => walk_at "len9"); (case k7 => walk_at "len9"); (case k5 => walk_at "len9"))); intro kyb' kyh' kyt' kyk' kyF' kyN' kyhb'; (try simp only [show Int.toNat 8 = 8 by decide, show Int.toNat 6 = 6 by decide] at kyhb'); (try dsimp only))) | (with_reducible ((with_reducible show wpAny _ _ (subscriptTail _ _ (Value.ref _) (Value.int _ _)) _ _ _); k_dflt (refine' m_item ?k1 ?k2 ?k3 ?k4 ?k5 ?_; (case k1 => k_asm); (case k2 => k_mem); (case k3 => decide); (case k4 => decide); (case k5 => rfl)); (try dsimp only))) | walk1 | (dsimp only; walk1) | (leave1; try dsimp only)))
    rw [decide_eq_true (show List.take 6 (packF pp q 0 ns) ++ List.drop 8 (packF pp q 0 ns) = List.take 6 (packF pp q (chkI x y pp q ns) ns) ++ List.drop 8 (packF pp q (chkI x y pp q ns) ns) from rfl)]
    exact hret _ _ _ (by k_asm) (by walk_at "news9")
  · intro hz
    have ru := unpack_pack (x := Builtin.bitXor y bit) (y := x) (sp := pp) (tp := q) (c := 0) (ks := ns) (zs := []) hp hq (by omega) (by omega) (.inl rfl)
    rw [List.append_nil] at ru
    rw [ru] at hz
    cases hz
end
theorem place_in {k n : Int} {j : Nat} (h : k ∈ [0, 1, 2, 3] ++ rangeKs 8 j) (hj : n = 8 + j) : 0 ≤ k ∧ k < n ∧ (k < 4 ∨ 8 ≤ k) := by
  rcases List.mem_append.mp h with h | h
  · simp only [List.mem_cons, List.not_mem_nil, or_false] at h
    omega
  · have := mem_rangeKs h
    omega
section
variable {prog : Program} {w : World} {p : Program} {loose : List Str} {mean : ExcName → Option Value} {mg mb : Str → Option Value}
  {dp un : Nat} {gd : Option (List Code)} {cn : Str} {cs : Scope} {fa : Addr} {ccd : Value} {cl : List (Str × Addr)} {outer : List Env} {A₀ : Around} {base h₀ g₀ : Heap} {L : Addr} {m : Str → Option Value} {s : Shared} {Q E : Value → Shared → Prop}
  {news : List (Addr × Obj)}
theorem refused_yes {b : Array UInt8} {ks : List Int} {x y : Int} {t t1 t2 : Tok} (C : Cx w p loose mean mg mb A₀ base h₀ outer L s.heap m news) (R : Rm cs dp un 5) (XB : (hd.heap_1 w.params).In base) (TB : Top p loose mean mg mb base) (D : KtsDicts (outer.filterMap (·.frame)) h₀) (T0 : KtsTurn (outer.filterMap (·.frame)) g₀ h₀)
  (hk : KBw.bInts b = ks) (hlen : ks.length ≤ 10000) (hx : 0 ≤ x) (hy : 0 ≤ y) (hn : unpackF x y ks = none)
  (hret : ∀ h₀' h' tk', KtsTurn (outer.filterMap (·.frame)) g₀ h₀' → Fr h₀' L h' m → News h₀' L h' news → Below A₀ base outer h₀' → (hd.heap_1 w.params).In h₀' → Top p loose mean mg mb h₀' → KtsDicts (outer.filterMap (·.frame)) h₀' → Q (.bool true) { s with heap := h', toks := tk' }) :
  wpAny (model prog w) (ktrTop dp un gd cn cs L fa ccd cl outer) (call (.ref 364) [.int x t1, .int y t2, .bytes b t]) Q E s :=
  refused_spec C R XB TB D T0 hk hlen hx hy (fun h => absurd hn h) fun _ => hret
/-- A bit turned at a place of the law's. -/
theorem turned_bad {b : Array UInt8} {x y pp q k d : Int} {ns : List Int} {j : Nat} {t t2 : Tok} (C : Cx w p loose mean mg mb A₀ base h₀ outer L s.heap m news) (R : Rm cs dp un 2) (hb : KBw.bInts b = packF pp q (chkI x y pp q ns) ns) (hk : k ∈ [0, 1, 2, 3] ++ rangeKs 8 j) (hj : j = ns.length) (hd0 : 0 ≤ d) (hd1 : d < 8)
  (hx : 0 ≤ x) (hy : 0 ≤ y) (hp : 0 ≤ pp ∧ pp < 65536) (hq : 0 ≤ q ∧ q < 65536) (hin : ∀ k ∈ ns, 0 ≤ k ∧ k < 256) (hlen : ns.length ≤ 9)
  (hret : ∀ b' t h' tk' zs, KBw.bInts b' = zs → zs.length ≤ 1000 → unpackF x y zs = none → Fr h₀ L h' m → News h₀ L h' news → Q (.bytes b' t) { s with heap := h', toks := tk' }) :
  wpAny (model prog w) (ktrTop dp un gd cn cs L fa ccd cl outer) (call (.ref 371) [.bytes b t, .int (8 * k + d) t2]) Q E s := by
  refine' elimG ?h9y1 ?k9y1
  case h9y1 =>
    have h9z := place_in (n := 8 + (ns.length : Int)) hk (by omega)
    intro G9 k9
    obtain ⟨k0, k1, k2⟩ := h9z
    revert k2
    revert k1
    revert k0
    exact k9
  intro k0 k1 k2
  refine' elimG ?h9y2 ?k9y2
  case h9y2 =>
    have h9z := chk_ok (x := x) (y := y) (sp := pp) (tp := q) hx hy hp hq hin (by omega)
    intro G9 k9
    obtain ⟨c1, c2, c3⟩ := h9z
    revert c3
    revert c2
    revert c1
    exact k9
  intro c1 c2 c3
  have hpl8 : (packF pp q (chkI x y pp q ns) ns).length = 8 + ns.length := packF_len
  refine turned_spec C R hb (by omega) (by omega) (by omega) fun b' t h' tk' hb' F' N' => hret b' t h' tk' _ hb' ?_ (turned_none hp hq ⟨c1, c2⟩ (by omega) hin hx hy c3 (by omega) (by omega) (by omega)) F' N'
  rw [turn_set (by omega) (by omega), List.length_set]
  omega
end
--M<
--M>
section
variable {prog : Program} {w : World} {p : Program} {loose : List Str} {mean : ExcName → Option Value} {mg mb : Str → Option Value}
  {dp un : Nat} {gd : Option (List Code)} {cn : Str} {cs : Scope} {fa : Addr} {ccd : Value} {A₀ : Around} {base g g₀ h₀ : Heap} {L L' : Addr} {m : Str → Option Value} {s : Shared} {E : Value → Shared → Prop} {Q : Flow → Shared → Prop}
  {T : List (Addr × Obj)} {name qual : Str} {params : Arguments} {body : List Stmt} {scope : Scope} {dV kV doc pm cdv ct oc : Value} {an od : Option Addr} {osl : Array (Option Value)}
set_option maxHeartbeats 4000000 in
theorem form_t2 {src el pl du : Addr} {x y pp q : Int} {ns : List Int} {o : Obj} (ho : (hd.heap_1 w.params).lookup 376 = some ⟨oc, od, .func (fnOf name qual params body scope dV kV doc pm an cdv ct), osl⟩)
  (B : Below (ktrTop dp un gd cn cs L fa ccd [] []) base [envX cn cs L fa ccd []] g) (F : Fr g L' s.heap m) (X : (hd.heap_1 w.params).In g) (N : News g L' s.heap ((src, o) :: T)) (Tp : Top p loose mean mg mb g) (R : Rm cs dp un 8)
  (XB : (hd.heap_1 w.params).In base) (TB : Top p loose mean mg mb base) (D : KtsDicts ([envX cn cs L fa ccd []].filterMap (·.frame)) g) (T0 : KtsTurn ([envX cn cs L fa ccd []].filterMap (·.frame)) g₀ g) (hP : PoolO o)
  (hF : FormAt T m x y pp q ns (packF pp q (chkI x y pp q ns) ns) el pl du (L' + 1) src) (hx : x ∈ addrs) (hy : y ∈ addrs) (hp : 0 ≤ pp ∧ pp < 65536) (hq : 0 ≤ q ∧ q < 65536) (hin : ∀ k ∈ ns, 0 ≤ k ∧ k < 256) (hlen : ns.length ≤ 9)
  (hret : ∀ o' g' h' tk' m', PoolO o' → KtsTurn ([envX cn cs L fa ccd []].filterMap (·.frame)) g₀ g' → Fr g' L' h' m' → News g' L' h' ((src, o') :: T) → Q (.ret (.bool true)) { s with heap := h', toks := tk' }) :
  wpAny (model prog w) ((ktrTop dp un gd cn cs L fa ccd [] []).deeper (envOfC qual scope L' 376 cdv)) (execs (body.drop 7) (envOfC qual scope L' 376 cdv)) Q E s := by
  have ho1 := ho
  have e := lookup_same ho (by k_is)
  cases e
  have hRd := R.hd
  have hRu := R.hu
  have hF' := hF
  refine' elimG ?h9y1 ?k9y1
  case h9y1 =>
    intro G9 k9
    obtain ⟨hme, hmp, hmd, ⟨tx, ty, n1, hel⟩, ⟨tp, tq, n2, hpl⟩, ⟨b, t, t1, t2, t3, hpay, hdu, hb⟩, ⟨bo, to, hoct, hbo⟩, ⟨oC, hcl, hoC⟩, hne⟩ := id hF
    revert hne
    revert hoC
    revert hcl
    revert oC
    revert hbo
    revert hoct
    revert to
    revert bo
    revert hb
    revert hdu
    revert hpay
    revert t3
    revert t2
    revert t1
    revert t
    revert b
    revert hpl
    revert n2
    revert tq
    revert tp
    revert hel
    revert n1
    revert ty
    revert tx
    revert hmd
    revert hmp
    revert hme
    exact k9
  intro hme hmp hmd tx ty n1 hel tp tq n2 hpl b t t1 t2 t3 hpay hdu hb bo to hoct hbo oC hcl hoC hne
  try clear hF
  refine' elimG ?h9y2 ?k9y2
  case h9y2 =>
    intro G9 k9
    obtain ⟨hx0, hx1⟩ := addr_in hx
    revert hx1
    revert hx0
    exact k9
  intro hx0 hx1
  refine' elimG ?h9y3 ?k9y3
  case h9y3 =>
    intro G9 k9
    obtain ⟨hy0, hy1⟩ := addr_in hy
    revert hy1
    revert hy0
    exact k9
  intro hy0 hy1
  refine' elimG ?h9y4 ?k9y4
  case h9y4 =>
    have h9z := chk_ok (x := x) (y := y) (sp := pp) (tp := q) hx0 hy0 hp hq hin (by omega)
    intro G9 k9
    obtain ⟨c1, c2, c3⟩ := h9z
    revert c3
    revert c2
    revert c1
    exact k9
  intro c1 c2 c3
  have hpl8 : (packF pp q (chkI x y pp q ns) ns).length = 8 + ns.length := packF_len
  show wpAny _ _ (execs [_, _, _, _, _, _, _, _] _) _ _ _
  (repeat' (first | (k_unfold; (try dsimp only)) | (k_end; wrow_close) | (with_reducible ((with_reducible show wpAny _ _ (execs (PySem.Stmt.Assign [PySem.Expr.Name (PySem.Str.ofString "bare") _] _ _ :: _) _) _ _ _); refine stop_mk ?_)) | (with_reducible (k_here; (with_reducible show wpAny _ _ (call (Value.builtin "len") [Value.bytes _ _]) _ _ _); k_dflt (refine' KBw.len_K ?k1 ?k2 ?_; (case k1 => walk_at "bk9"); (case k2 => walk_at "len9")); (try rw [packF_len]); (try k_fold))) | (with_reducible (k_here; (with_reducible show wpAny _ _ (PySem.call (Value.ref 324) _ _) _ _ _); k_dflt (refine' one_spec ?c1 ?c2 ?c3 ?c4 ?c5 ?c6 ?c7 ?c8 ?_; (case c3 => walk_at "cx9"); (case c1 => k_updF); (case c2 => with_reducible assumption); (case c4 => walk_at "rm9"); (case c5 => (intro kyo9; (try dsimp only); k_mem)); (case c6 => l_ints); (case c7 => first | assumption | decide | ((simp only [rangeKs_length, List.length_append, List.length_cons, List.length_nil]); omega)); (case c8 => first | assumption | decide | ((simp only [rangeKs_length, List.length_append, List.length_cons, List.length_nil]); omega))); intro kyk' kyt' kyo' kyh' kytk' kyhk' kyhP' kyF' kyN'; (try dsimp only at kyN'); (try k_fold))) | (with_reducible (k_here; (with_reducible show wpAny _ _ (binaryOp Operator.Add (Value.ref _) (Value.ref _)) _ _ _); k_dflt (refine' m_addInts ?k1 ?k2 ?k3 ?k4 ?k5 ?k6 ?k7 ?_; (case k1 => k_asm); (case k2 => k_asm); (case k3 => k_mem); (case k4 => k_mem); (case k5 => l_ints); (case k6 => l_ints); (case k7 => ((simp only [rangeKs_length, List.length_cons, List.length_nil]); omega))); intro kyl' kyh' kyus' kyF' kyN' kyl1 kyhI'; (try k_lt kyl1); (try k_fold))) | (with_reducible (k_here; (with_reducible show wpAny _ _ (call (Value.type _) [Value.ref _]) _ _ _); (rename IsRange _ _ _ _ _ _ _ _ => rgX); k_dflt (refine' kll_range ?k0 ?k1 ?k2 rgX ?k4 (rangeSize_nat _ _) ?k6 ?_; (case k0 => rfl); (case k1 => k_asm); (case k2 => k_asm); (case k4 => exact small_one (by omega) (by omega) (by omega) (by omega)); (case k6 => omega)); intro kyD' kyvs' kyc' kyh' kytk' kyF' kyN' kyl1 kyhI'; (try k_lt kyl1); (try k_fold))) | (with_reducible (k_here; (with_reducible show wpAny _ _ (PySem.call (Value.ref 317) _ _) _ _ _); k_dflt (refine' take_spec ?c1 ?c2 ?c3 ?c4 ?c7 ?c8 ?_; (case c3 => walk_at "cx9"); (case c1 => k_updF); (case c2 => with_reducible assumption); (case c4 => walk_at "rm9"); (case c7 => first | decide | omega); (case c8 => first | decide | omega)); intro kyk' kyt' kyo' kyh' kytk' kyhk0' kyhk1' kyhP' kyF' kyN'; (try dsimp only at kyN'); (try k_fold))) | ((with_reducible show wpAny _ _ (binaryOp PySem.Operator.LShift (Value.int _ _) (Value.int _ _)) _ _ _); with_reducible (with_reducible refine m_shl1 ?h1 ?h2 ?_; (case h1 => omega); (case h2 => omega))) | ((with_reducible show wpAny _ _ (subscriptTail (PySem.Expr.Name _ _) (PySem.Expr.Slice _ _ _ _) (Value.bytes _ _) (Value.ref _)) _ _ _); with_reducible (k_here; k_dflt (first | (refine' m_bto (s := ⟨_, _, _, _, _⟩) ?F ?N ?k3 ?k4 ?k5 ?_; (case F => k_asm); (case N => k_asm); (case k3 => walk_at "bk9"); (case k4 => walk_at "len9"); (case k5 => walk_at "len9")) | (refine' m_bfrom (s := ⟨_, _, _, _, _⟩) ?F ?N ?k3 ?k4 ?k5 ?_; (case F => k_asm); (case N => k_asm); (case k3 => walk_at "bk9"); (case k4 => walk_at "len9"); (case k5 => walk_at "len9")) | (refine' m_bmid (s := ⟨_, _, _, _, _⟩) ?F ?N ?k3 ?k4 ?k6 ?k7 ?k5 ?_; (case F => k_asm); (case N => k_asm); (case k3 => walk_at "bk9"); (case k4 => walk_at "len9"); (case k6 => walk_at "len9"); (case k7 => walk_at "len9"); (case k5 => walk_at "len9"))); intro kyb' kyh' kyt' kyk' kyF' kyN' kyhb'; (try simp only [show Int.toNat 8 = 8 by decide, show Int.toNat 6 = 6 by decide] at kyhb'); (try dsimp only))) | (with_reducible ((with_reducible show wpAny _ _ (subscriptTail _ _ (Value.ref _) (Value.int _ _)) _ _ _); k_dflt (refine' m_item ?k1 ?k2 ?k3 ?k4 ?k5 ?_; (case k1 => k_asm); (case k2 => k_mem); (case k3 => decide); (case k4 => decide); (case k5 => rfl)); (try dsimp only))) | walk1 | (dsimp only; walk1) | (leave1; try dsimp only)))
  refine turned_bad (by walk_at "cx9") (by walk_at "rm9") (by walk_at "bk9") (by assumption) (by omega) (by assumption) (by assumption) hx0 hy0 hp hq hin hlen ?_
  intro b1 t5 h1 tk1 zs hb1 hz1 hn1 F1 N1
  (try k_fold)
  (repeat' (first | (k_unfold; (try dsimp only)) | (k_end; wrow_close) | (with_reducible ((with_reducible show wpAny _ _ (execs (PySem.Stmt.Assign [PySem.Expr.Name (PySem.Str.ofString "bare") _] _ _ :: _) _) _ _ _); refine stop_mk ?_)) | (with_reducible (k_here; (with_reducible show wpAny _ _ (call (Value.builtin "len") [Value.bytes _ _]) _ _ _); k_dflt (refine' KBw.len_K ?k1 ?k2 ?_; (case k1 => walk_at "bk9"); (case k2 => walk_at "len9")); (try rw [packF_len]); (try k_fold))) | (with_reducible (k_here; (with_reducible show wpAny _ _ (PySem.call (Value.ref 324) _ _) _ _ _); k_dflt (refine' one_spec ?c1 ?c2 ?c3 ?c4 ?c5 ?c6 ?c7 ?c8 ?_; (case c3 => walk_at "cx9"); (case c1 => k_updF); (case c2 => with_reducible assumption); (case c4 => walk_at "rm9"); (case c5 => (intro kyo9; (try dsimp only); k_mem)); (case c6 => l_ints); (case c7 => first | assumption | decide | ((simp only [rangeKs_length, List.length_append, List.length_cons, List.length_nil]); omega)); (case c8 => first | assumption | decide | ((simp only [rangeKs_length, List.length_append, List.length_cons, List.length_nil]); omega))); intro kyk' kyt' kyo' kyh' kytk' kyhk' kyhP' kyF' kyN'; (try dsimp only at kyN'); (try k_fold))) | (with_reducible (k_here; (with_reducible show wpAny _ _ (binaryOp Operator.Add (Value.ref _) (Value.ref _)) _ _ _); k_dflt (refine' m_addInts ?k1 ?k2 ?k3 ?k4 ?k5 ?k6 ?k7 ?_; (case k1 => k_asm); (case k2 => k_asm); (case k3 => k_mem); (case k4 => k_mem); (case k5 => l_ints); (case k6 => l_ints); (case k7 => ((simp only [rangeKs_length, List.length_cons, List.length_nil]); omega))); intro kyl' kyh' kyus' kyF' kyN' kyl1 kyhI'; (try k_lt kyl1); (try k_fold))) | (with_reducible (k_here; (with_reducible show wpAny _ _ (call (Value.type _) [Value.ref _]) _ _ _); (rename IsRange _ _ _ _ _ _ _ _ => rgX); k_dflt (refine' kll_range ?k0 ?k1 ?k2 rgX ?k4 (rangeSize_nat _ _) ?k6 ?_; (case k0 => rfl); (case k1 => k_asm); (case k2 => k_asm); (case k4 => exact small_one (by omega) (by omega) (by omega) (by omega)); (case k6 => omega)); intro kyD' kyvs' kyc' kyh' kytk' kyF' kyN' kyl1 kyhI'; (try k_lt kyl1); (try k_fold))) | (with_reducible (k_here; (with_reducible show wpAny _ _ (PySem.call (Value.ref 317) _ _) _ _ _); k_dflt (refine' take_spec ?c1 ?c2 ?c3 ?c4 ?c7 ?c8 ?_; (case c3 => walk_at "cx9"); (case c1 => k_updF); (case c2 => with_reducible assumption); (case c4 => walk_at "rm9"); (case c7 => first | decide | omega); (case c8 => first | decide | omega)); intro kyk' kyt' kyo' kyh' kytk' kyhk0' kyhk1' kyhP' kyF' kyN'; (try dsimp only at kyN'); (try k_fold))) | ((with_reducible show wpAny _ _ (binaryOp PySem.Operator.LShift (Value.int _ _) (Value.int _ _)) _ _ _); with_reducible (with_reducible refine m_shl1 ?h1 ?h2 ?_; (case h1 => omega); (case h2 => omega))) | ((with_reducible show wpAny _ _ (subscriptTail (PySem.Expr.Name _ _) (PySem.Expr.Slice _ _ _ _) (Value.bytes _ _) (Value.ref _)) _ _ _); with_reducible (k_here; k_dflt (first | (refine' m_bto (s := ⟨_, _, _, _, _⟩) ?F ?N ?k3 ?k4 ?k5 ?_; (case F => k_asm); (case N => k_asm); (case k3 => walk_at "bk9"); (case k4 => walk_at "len9"); (case k5 => walk_at "len9")) | (refine' m_bfrom (s := ⟨_, _, _, _, _⟩) ?F ?N ?k3 ?k4 ?k5 ?_; (case F => k_asm); (case N => k_asm); (case k3 => walk_at "bk9"); (case k4 => walk_at "len9"); (case k5 => walk_at "len9")) | (refine' m_bmid (s := ⟨_, _, _, _, _⟩) ?F ?N ?k3 ?k4 ?k6 ?k7 ?k5 ?_; (case F => k_asm); (case N => k_asm); (case k3 => walk_at "bk9"); (case k4 => walk_at "len9"); (case k6 => walk_at "len9"); (case k7 => walk_at "len9"); (case k5 => walk_at "len9"))); intro kyb' kyh' kyt' kyk' kyF' kyN' kyhb'; (try simp only [show Int.toNat 8 = 8 by decide, show Int.toNat 6 = 6 by decide] at kyhb'); (try dsimp only))) | (with_reducible ((with_reducible show wpAny _ _ (subscriptTail _ _ (Value.ref _) (Value.int _ _)) _ _ _); k_dflt (refine' m_item ?k1 ?k2 ?k3 ?k4 ?k5 ?_; (case k1 => k_asm); (case k2 => k_mem); (case k3 => decide); (case k4 => decide); (case k5 => rfl)); (try dsimp only))) | walk1 | (dsimp only; walk1) | (leave1; try dsimp only)))
  refine refused_yes (by walk_at "cx9") (by walk_at "rm9") XB TB D T0 hb1 (by omega) hx0 hy0 hn1 ?_
  intro g2 h2 tk2 T2 F2 N2 B2 X2 P2 D2
  (try k_fold)
  (repeat' (first | (k_unfold; (try dsimp only)) | (k_end; wrow_close) | (with_reducible ((with_reducible show wpAny _ _ (execs (PySem.Stmt.Assign [PySem.Expr.Name (PySem.Str.ofString "bare") _] _ _ :: _) _) _ _ _); refine stop_mk ?_)) | (with_reducible (k_here; (with_reducible show wpAny _ _ (call (Value.builtin "len") [Value.bytes _ _]) _ _ _); k_dflt (refine' KBw.len_K ?k1 ?k2 ?_; (case k1 => walk_at "bk9"); (case k2 => walk_at "len9")); (try rw [packF_len]); (try k_fold))) | (with_reducible (k_here; (with_reducible show wpAny _ _ (PySem.call (Value.ref 324) _ _) _ _ _); k_dflt (refine' one_spec ?c1 ?c2 ?c3 ?c4 ?c5 ?c6 ?c7 ?c8 ?_; (case c3 => walk_at "cx9"); (case c1 => k_updF); (case c2 => with_reducible assumption); (case c4 => walk_at "rm9"); (case c5 => (intro kyo9; (try dsimp only); k_mem)); (case c6 => l_ints); (case c7 => first | assumption | decide | ((simp only [rangeKs_length, List.length_append, List.length_cons, List.length_nil]); omega)); (case c8 => first | assumption | decide | ((simp only [rangeKs_length, List.length_append, List.length_cons, List.length_nil]); omega))); intro kyk' kyt' kyo' kyh' kytk' kyhk' kyhP' kyF' kyN'; (try dsimp only at kyN'); (try k_fold))) | (with_reducible (k_here; (with_reducible show wpAny _ _ (binaryOp Operator.Add (Value.ref _) (Value.ref _)) _ _ _); k_dflt (refine' m_addInts ?k1 ?k2 ?k3 ?k4 ?k5 ?k6 ?k7 ?_; (case k1 => k_asm); (case k2 => k_asm); (case k3 => k_mem); (case k4 => k_mem); (case k5 => l_ints); (case k6 => l_ints); (case k7 => ((simp only [rangeKs_length, List.length_cons, List.length_nil]); omega))); intro kyl' kyh' kyus' kyF' kyN' kyl1 kyhI'; (try k_lt kyl1); (try k_fold))) | (with_reducible (k_here; (with_reducible show wpAny _ _ (call (Value.type _) [Value.ref _]) _ _ _); (rename IsRange _ _ _ _ _ _ _ _ => rgX); k_dflt (refine' kll_range ?k0 ?k1 ?k2 rgX ?k4 (rangeSize_nat _ _) ?k6 ?_; (case k0 => rfl); (case k1 => k_asm); (case k2 => k_asm); (case k4 => exact small_one (by omega) (by omega) (by omega) (by omega)); (case k6 => omega)); intro kyD' kyvs' kyc' kyh' kytk' kyF' kyN' kyl1 kyhI'; (try k_lt kyl1); (try k_fold))) | (with_reducible (k_here; (with_reducible show wpAny _ _ (PySem.call (Value.ref 317) _ _) _ _ _); k_dflt (refine' take_spec ?c1 ?c2 ?c3 ?c4 ?c7 ?c8 ?_; (case c3 => walk_at "cx9"); (case c1 => k_updF); (case c2 => with_reducible assumption); (case c4 => walk_at "rm9"); (case c7 => first | decide | omega); (case c8 => first | decide | omega)); intro kyk' kyt' kyo' kyh' kytk' kyhk0' kyhk1' kyhP' kyF' kyN'; (try dsimp only at kyN'); (try k_fold))) | ((with_reducible show wpAny _ _ (binaryOp PySem.Operator.LShift (Value.int _ _) (Value.int _ _)) _ _ _); with_reducible (with_reducible refine m_shl1 ?h1 ?h2 ?_; (case h1 => omega); (case h2 => omega))) | ((with_reducible show wpAny _ _ (subscriptTail (PySem.Expr.Name _ _) (PySem.Expr.Slice _ _ _ _) (Value.bytes _ _) (Value.ref _)) _ _ _); with_reducible (k_here; k_dflt (first | (refine' m_bto (s := ⟨_, _, _, _, _⟩) ?F ?N ?k3 ?k4 ?k5 ?_; (case F => k_asm); (case N => k_asm); (case k3 => walk_at "bk9"); (case k4 => walk_at "len9"); (case k5 => walk_at "len9")) | (refine' m_bfrom (s := ⟨_, _, _, _, _⟩) ?F ?N ?k3 ?k4 ?k5 ?_; (case F => k_asm); (case N => k_asm); (case k3 => walk_at "bk9"); (case k4 => walk_at "len9"); (case k5 => walk_at "len9")) | (refine' m_bmid (s := ⟨_, _, _, _, _⟩) ?F ?N ?k3 ?k4 ?k6 ?k7 ?k5 ?_; (case F => k_asm); (case N => k_asm); (case k3 => walk_at "bk9"); (case k4 => walk_at "len9"); (case k6 => walk_at "len9"); (case k7 => walk_at "len9"); (case k5 => walk_at "len9"))); intro kyb' kyh' kyt' kyk' kyF' kyN' kyhb'; (try simp only [show Int.toNat 8 = 8 by decide, show Int.toNat 6 = 6 by decide] at kyhb'); (try dsimp only))) | (with_reducible ((with_reducible show wpAny _ _ (subscriptTail _ _ (Value.ref _) (Value.int _ _)) _ _ _); k_dflt (refine' m_item ?k1 ?k2 ?k3 ?k4 ?k5 ?_; (case k1 => k_asm); (case k2 => k_mem); (case k3 => decide); (case k4 => decide); (case k5 => rfl)); (try dsimp only))) | walk1 | (dsimp only; walk1) | (leave1; try dsimp only)))
  refine refused_yes (by walk_at "cx9") (by walk_at "rm9") XB TB D2 T2 (by walk_at "bk9") (by walk_at "len9") (xor_addr hx (by omega)).2.1 hy0 (addr_none hp hq ⟨c1, c2⟩ (by omega) hin hx (by omega) hy0 c3) ?_
  intro g3 h3 tk3 T3 F3 N3 B3 X3 P3 D3
  (try k_fold)
  (repeat' (first | (k_unfold; (try dsimp only)) | (k_end; wrow_close) | (with_reducible ((with_reducible show wpAny _ _ (execs (PySem.Stmt.Assign [PySem.Expr.Name (PySem.Str.ofString "bare") _] _ _ :: _) _) _ _ _); refine stop_mk ?_)) | (with_reducible (k_here; (with_reducible show wpAny _ _ (call (Value.builtin "len") [Value.bytes _ _]) _ _ _); k_dflt (refine' KBw.len_K ?k1 ?k2 ?_; (case k1 => walk_at "bk9"); (case k2 => walk_at "len9")); (try rw [packF_len]); (try k_fold))) | (with_reducible (k_here; (with_reducible show wpAny _ _ (PySem.call (Value.ref 324) _ _) _ _ _); k_dflt (refine' one_spec ?c1 ?c2 ?c3 ?c4 ?c5 ?c6 ?c7 ?c8 ?_; (case c3 => walk_at "cx9"); (case c1 => k_updF); (case c2 => with_reducible assumption); (case c4 => walk_at "rm9"); (case c5 => (intro kyo9; (try dsimp only); k_mem)); (case c6 => l_ints); (case c7 => first | assumption | decide | ((simp only [rangeKs_length, List.length_append, List.length_cons, List.length_nil]); omega)); (case c8 => first | assumption | decide | ((simp only [rangeKs_length, List.length_append, List.length_cons, List.length_nil]); omega))); intro kyk' kyt' kyo' kyh' kytk' kyhk' kyhP' kyF' kyN'; (try dsimp only at kyN'); (try k_fold))) | (with_reducible (k_here; (with_reducible show wpAny _ _ (binaryOp Operator.Add (Value.ref _) (Value.ref _)) _ _ _); k_dflt (refine' m_addInts ?k1 ?k2 ?k3 ?k4 ?k5 ?k6 ?k7 ?_; (case k1 => k_asm); (case k2 => k_asm); (case k3 => k_mem); (case k4 => k_mem); (case k5 => l_ints); (case k6 => l_ints); (case k7 => ((simp only [rangeKs_length, List.length_cons, List.length_nil]); omega))); intro kyl' kyh' kyus' kyF' kyN' kyl1 kyhI'; (try k_lt kyl1); (try k_fold))) | (with_reducible (k_here; (with_reducible show wpAny _ _ (call (Value.type _) [Value.ref _]) _ _ _); (rename IsRange _ _ _ _ _ _ _ _ => rgX); k_dflt (refine' kll_range ?k0 ?k1 ?k2 rgX ?k4 (rangeSize_nat _ _) ?k6 ?_; (case k0 => rfl); (case k1 => k_asm); (case k2 => k_asm); (case k4 => exact small_one (by omega) (by omega) (by omega) (by omega)); (case k6 => omega)); intro kyD' kyvs' kyc' kyh' kytk' kyF' kyN' kyl1 kyhI'; (try k_lt kyl1); (try k_fold))) | (with_reducible (k_here; (with_reducible show wpAny _ _ (PySem.call (Value.ref 317) _ _) _ _ _); k_dflt (refine' take_spec ?c1 ?c2 ?c3 ?c4 ?c7 ?c8 ?_; (case c3 => walk_at "cx9"); (case c1 => k_updF); (case c2 => with_reducible assumption); (case c4 => walk_at "rm9"); (case c7 => first | decide | omega); (case c8 => first | decide | omega)); intro kyk' kyt' kyo' kyh' kytk' kyhk0' kyhk1' kyhP' kyF' kyN'; (try dsimp only at kyN'); (try k_fold))) | ((with_reducible show wpAny _ _ (binaryOp PySem.Operator.LShift (Value.int _ _) (Value.int _ _)) _ _ _); with_reducible (with_reducible refine m_shl1 ?h1 ?h2 ?_; (case h1 => omega); (case h2 => omega))) | ((with_reducible show wpAny _ _ (subscriptTail (PySem.Expr.Name _ _) (PySem.Expr.Slice _ _ _ _) (Value.bytes _ _) (Value.ref _)) _ _ _); with_reducible (k_here; k_dflt (first | (refine' m_bto (s := ⟨_, _, _, _, _⟩) ?F ?N ?k3 ?k4 ?k5 ?_; (case F => k_asm); (case N => k_asm); (case k3 => walk_at "bk9"); (case k4 => walk_at "len9"); (case k5 => walk_at "len9")) | (refine' m_bfrom (s := ⟨_, _, _, _, _⟩) ?F ?N ?k3 ?k4 ?k5 ?_; (case F => k_asm); (case N => k_asm); (case k3 => walk_at "bk9"); (case k4 => walk_at "len9"); (case k5 => walk_at "len9")) | (refine' m_bmid (s := ⟨_, _, _, _, _⟩) ?F ?N ?k3 ?k4 ?k6 ?k7 ?k5 ?_; (case F => k_asm); (case N => k_asm); (case k3 => walk_at "bk9"); (case k4 => walk_at "len9"); (case k6 => walk_at "len9"); (case k7 => walk_at "len9"); (case k5 => walk_at "len9"))); intro kyb' kyh' kyt' kyk' kyF' kyN' kyhb'; (try simp only [show Int.toNat 8 = 8 by decide, show Int.toNat 6 = 6 by decide] at kyhb'); (try dsimp only))) | (with_reducible ((with_reducible show wpAny _ _ (subscriptTail _ _ (Value.ref _) (Value.int _ _)) _ _ _); k_dflt (refine' m_item ?k1 ?k2 ?k3 ?k4 ?k5 ?_; (case k1 => k_asm); (case k2 => k_mem); (case k3 => decide); (case k4 => decide); (case k5 => rfl)); (try dsimp only))) | walk1 | (dsimp only; walk1) | (leave1; try dsimp only)))
  refine refused_yes (by walk_at "cx9") (by walk_at "rm9") XB TB D3 T3 (by walk_at "bk9") (by walk_at "len9") hx0 hy0 (cut_none (by omega) (by rw [hpl8]; omega)) ?_
  intro g4 h4 tk4 T4 F4 N4 B4 X4 P4 D4
  (try k_fold)
  (repeat' (first | (k_unfold; (try dsimp only)) | (k_end; wrow_close) | (with_reducible ((with_reducible show wpAny _ _ (execs (PySem.Stmt.Assign [PySem.Expr.Name (PySem.Str.ofString "bare") _] _ _ :: _) _) _ _ _); refine stop_mk ?_)) | (with_reducible (k_here; (with_reducible show wpAny _ _ (call (Value.builtin "len") [Value.bytes _ _]) _ _ _); k_dflt (refine' KBw.len_K ?k1 ?k2 ?_; (case k1 => walk_at "bk9"); (case k2 => walk_at "len9")); (try rw [packF_len]); (try k_fold))) | (with_reducible (k_here; (with_reducible show wpAny _ _ (PySem.call (Value.ref 324) _ _) _ _ _); k_dflt (refine' one_spec ?c1 ?c2 ?c3 ?c4 ?c5 ?c6 ?c7 ?c8 ?_; (case c3 => walk_at "cx9"); (case c1 => k_updF); (case c2 => with_reducible assumption); (case c4 => walk_at "rm9"); (case c5 => (intro kyo9; (try dsimp only); k_mem)); (case c6 => l_ints); (case c7 => first | assumption | decide | ((simp only [rangeKs_length, List.length_append, List.length_cons, List.length_nil]); omega)); (case c8 => first | assumption | decide | ((simp only [rangeKs_length, List.length_append, List.length_cons, List.length_nil]); omega))); intro kyk' kyt' kyo' kyh' kytk' kyhk' kyhP' kyF' kyN'; (try dsimp only at kyN'); (try k_fold))) | (with_reducible (k_here; (with_reducible show wpAny _ _ (binaryOp Operator.Add (Value.ref _) (Value.ref _)) _ _ _); k_dflt (refine' m_addInts ?k1 ?k2 ?k3 ?k4 ?k5 ?k6 ?k7 ?_; (case k1 => k_asm); (case k2 => k_asm); (case k3 => k_mem); (case k4 => k_mem); (case k5 => l_ints); (case k6 => l_ints); (case k7 => ((simp only [rangeKs_length, List.length_cons, List.length_nil]); omega))); intro kyl' kyh' kyus' kyF' kyN' kyl1 kyhI'; (try k_lt kyl1); (try k_fold))) | (with_reducible (k_here; (with_reducible show wpAny _ _ (call (Value.type _) [Value.ref _]) _ _ _); (rename IsRange _ _ _ _ _ _ _ _ => rgX); k_dflt (refine' kll_range ?k0 ?k1 ?k2 rgX ?k4 (rangeSize_nat _ _) ?k6 ?_; (case k0 => rfl); (case k1 => k_asm); (case k2 => k_asm); (case k4 => exact small_one (by omega) (by omega) (by omega) (by omega)); (case k6 => omega)); intro kyD' kyvs' kyc' kyh' kytk' kyF' kyN' kyl1 kyhI'; (try k_lt kyl1); (try k_fold))) | (with_reducible (k_here; (with_reducible show wpAny _ _ (PySem.call (Value.ref 317) _ _) _ _ _); k_dflt (refine' take_spec ?c1 ?c2 ?c3 ?c4 ?c7 ?c8 ?_; (case c3 => walk_at "cx9"); (case c1 => k_updF); (case c2 => with_reducible assumption); (case c4 => walk_at "rm9"); (case c7 => first | decide | omega); (case c8 => first | decide | omega)); intro kyk' kyt' kyo' kyh' kytk' kyhk0' kyhk1' kyhP' kyF' kyN'; (try dsimp only at kyN'); (try k_fold))) | ((with_reducible show wpAny _ _ (binaryOp PySem.Operator.LShift (Value.int _ _) (Value.int _ _)) _ _ _); with_reducible (with_reducible refine m_shl1 ?h1 ?h2 ?_; (case h1 => omega); (case h2 => omega))) | ((with_reducible show wpAny _ _ (subscriptTail (PySem.Expr.Name _ _) (PySem.Expr.Slice _ _ _ _) (Value.bytes _ _) (Value.ref _)) _ _ _); with_reducible (k_here; k_dflt (first | (refine' m_bto (s := ⟨_, _, _, _, _⟩) ?F ?N ?k3 ?k4 ?k5 ?_; (case F => k_asm); (case N => k_asm); (case k3 => walk_at "bk9"); (case k4 => walk_at "len9"); (case k5 => walk_at "len9")) | (refine' m_bfrom (s := ⟨_, _, _, _, _⟩) ?F ?N ?k3 ?k4 ?k5 ?_; (case F => k_asm); (case N => k_asm); (case k3 => walk_at "bk9"); (case k4 => walk_at "len9"); (case k5 => walk_at "len9")) | (refine' m_bmid (s := ⟨_, _, _, _, _⟩) ?F ?N ?k3 ?k4 ?k6 ?k7 ?k5 ?_; (case F => k_asm); (case N => k_asm); (case k3 => walk_at "bk9"); (case k4 => walk_at "len9"); (case k6 => walk_at "len9"); (case k7 => walk_at "len9"); (case k5 => walk_at "len9"))); intro kyb' kyh' kyt' kyk' kyF' kyN' kyhb'; (try simp only [show Int.toNat 8 = 8 by decide, show Int.toNat 6 = 6 by decide] at kyhb'); (try dsimp only))) | (with_reducible ((with_reducible show wpAny _ _ (subscriptTail _ _ (Value.ref _) (Value.int _ _)) _ _ _); k_dflt (refine' m_item ?k1 ?k2 ?k3 ?k4 ?k5 ?_; (case k1 => k_asm); (case k2 => k_mem); (case k3 => decide); (case k4 => decide); (case k5 => rfl)); (try dsimp only))) | walk1 | (dsimp only; walk1) | (leave1; try dsimp only)))
  unfold Stop
  refine form_t3 (T := T) ho1 B4 F4 X4 (by walk_at "news9") P4 R ⟨hme, hmp, hmd, ⟨tx, ty, n1, hel⟩, ⟨tp, tq, n2, hpl⟩, ⟨b, t, t1, t2, t3, hpay, hdu, hb⟩, ⟨bo, to, hoct, hbo⟩, ⟨oC, hcl, hoC⟩, hne⟩ rfl (xor_addr hy (by omega)).2.1 hx0 hy0 hp hq hin hlen ?_
  intro h' tk' m' F' N'
  exact hret _ _ _ _ _ (by assumption) T4 F' N'
end
--M<
--M>
section
variable {prog : Program} {w : World} {p : Program} {loose : List Str} {mean : ExcName → Option Value} {mg mb : Str → Option Value}
  {dp un : Nat} {gd : Option (List Code)} {cn : Str} {cs : Scope} {fa : Addr} {ccd : Value} {A₀ : Around} {base g g₀ h₀ : Heap} {L L' : Addr} {m : Str → Option Value} {s : Shared} {E : Value → Shared → Prop} {Q : Flow → Shared → Prop}
  {T : List (Addr × Obj)} {name qual : Str} {params : Arguments} {body : List Stmt} {scope : Scope} {dV kV doc pm cdv ct oc : Value} {an od : Option Addr} {osl : Array (Option Value)}
set_option maxHeartbeats 4000000 in
theorem form_t1 {src el pl du : Addr} {x y pp q : Int} {ns : List Int} {o : Obj} (ho : (hd.heap_1 w.params).lookup 376 = some ⟨oc, od, .func (fnOf name qual params body scope dV kV doc pm an cdv ct), osl⟩)
  (B : Below (ktrTop dp un gd cn cs L fa ccd [] []) base [envX cn cs L fa ccd []] g) (F : Fr g L' s.heap m) (X : (hd.heap_1 w.params).In g) (N : News g L' s.heap ((src, o) :: T)) (Tp : Top p loose mean mg mb g) (R : Rm cs dp un 8)
  (XB : (hd.heap_1 w.params).In base) (TB : Top p loose mean mg mb base) (D : KtsDicts ([envX cn cs L fa ccd []].filterMap (·.frame)) g) (T0 : KtsTurn ([envX cn cs L fa ccd []].filterMap (·.frame)) g₀ g) (hP : PoolO o)
  (hF : FormAt T m x y pp q ns (packF pp q (chkI x y pp q ns) ns) el pl du (L' + 1) src) (hx : x ∈ addrs) (hy : y ∈ addrs) (hp : 0 ≤ pp ∧ pp < 65536) (hq : 0 ≤ q ∧ q < 65536) (hin : ∀ k ∈ ns, 0 ≤ k ∧ k < 256) (hlen : ns.length ≤ 9)
  (hret : ∀ o' g' h' tk' m', PoolO o' → KtsTurn ([envX cn cs L fa ccd []].filterMap (·.frame)) g₀ g' → Fr g' L' h' m' → News g' L' h' ((src, o') :: T) → Q (.ret (.bool true)) { s with heap := h', toks := tk' }) :
  wpAny (model prog w) ((ktrTop dp un gd cn cs L fa ccd [] []).deeper (envOfC qual scope L' 376 cdv)) (execs (body.drop 5) (envOfC qual scope L' 376 cdv)) Q E s := by
  have ho1 := ho
  have e := lookup_same ho (by k_is)
  cases e
  have hRd := R.hd
  have hRu := R.hu
  refine' elimG ?h9y1 ?k9y1
  case h9y1 =>
    intro G9 k9
    obtain ⟨hme, hmp, hmd, ⟨tx, ty, n1, hel⟩, ⟨tp, tq, n2, hpl⟩, ⟨b, t, t1, t2, t3, hpay, hdu, hb⟩, ⟨bo, to, hoct, hbo⟩, ⟨oC, hcl, hoC⟩, hne⟩ := id hF
    revert hne
    revert hoC
    revert hcl
    revert oC
    revert hbo
    revert hoct
    revert to
    revert bo
    revert hb
    revert hdu
    revert hpay
    revert t3
    revert t2
    revert t1
    revert t
    revert b
    revert hpl
    revert n2
    revert tq
    revert tp
    revert hel
    revert n1
    revert ty
    revert tx
    revert hmd
    revert hmp
    revert hme
    exact k9
  intro hme hmp hmd tx ty n1 hel tp tq n2 hpl b t t1 t2 t3 hpay hdu hb bo to hoct hbo oC hcl hoC hne
  try clear hF
  refine' elimG ?h9y2 ?k9y2
  case h9y2 =>
    intro G9 k9
    obtain ⟨hx0, hx1⟩ := addr_in hx
    revert hx1
    revert hx0
    exact k9
  intro hx0 hx1
  refine' elimG ?h9y3 ?k9y3
  case h9y3 =>
    intro G9 k9
    obtain ⟨hy0, hy1⟩ := addr_in hy
    revert hy1
    revert hy0
    exact k9
  intro hy0 hy1
  refine' elimG ?h9y4 ?k9y4
  case h9y4 =>
    have h9z := chk_ok (x := x) (y := y) (sp := pp) (tp := q) hx0 hy0 hp hq hin (by omega)
    intro G9 k9
    obtain ⟨c1, c2, c3⟩ := h9z
    revert c3
    revert c2
    revert c1
    exact k9
  intro c1 c2 c3
  have hs := sum_pack (sp := pp) (tp := q) (c := chkI x y pp q ns) (ks := ns) hp hq ⟨Int.le_of_lt c1, c2⟩ (by omega)
  have hn := sumBE_nn hin
  have hps : 0 ≤ psI x y (8 + (ns.length : Int)) := psI_nn hx0 hy0 nn8
  have readz : ∀ zs, unpackF x y (packF pp q (chkI x y pp q ns) ns ++ zs) = some (pp, q, ns) := fun zs => unpack_pack hp hq ⟨Int.le_of_lt c1, c2⟩ (by omega) (.inr ((foldI_full (by rw [hs]; omega)).mpr c3))
  have read1 : unpackF x y (packF pp q (chkI x y pp q ns) ns) = some (pp, q, ns) := by have := readz []; rwa [List.append_nil] at this
  have hno := sum_two (p := pp) (q := q) (ns := ns) c1 c2
  clear hs hn hps
  show wpAny _ _ (execs [_, _, _, _, _, _, _, _, _, _] _) _ _ _
  (repeat' (first | (k_unfold; (try dsimp only)) | (k_end; wrow_close) | (with_reducible ((with_reducible show wpAny _ _ (execs (PySem.Stmt.Assign [PySem.Expr.Name (PySem.Str.ofString "places") _] _ _ :: _) _) _ _ _); refine stop_mk ?_)) | (with_reducible (k_here; (with_reducible show wpAny _ _ (binaryOp Operator.Add (Value.bytes _ _) (Value.bytes _ _)) _ _ _); k_dflt (refine' KBa.add_K ?k1 ?k2 ?k3 ?_; (case k1 => walk_at "bk9"); (case k2 => walk_at "bk9"); (case k3 => walk_at "len9")); intro kyt' kyk' kyhb'; (try k_fold))) | ((with_reducible show wpAny _ _ (compareOp PySem.CmpOp.NotEq (Value.ref _) (Value.ref _)) _ _ _); with_reducible (k_dflt (refine' m_neDue ?k1 ?k2 ?k3 ?k4 ?k5 ?k6 ?_; (case k1 => k_asm); (case k2 => walk_at "memR9"); (case k3 => walk_at "memR9"); (case k4 => walk_at "bk9"); (case k5 => walk_at "bk9"); (case k6 => walk_at "un9")))) | (with_reducible (k_here; (with_reducible show wpAny _ _ (call (Value.type "bytes") [Value.int _ _]) _ _ _); k_dflt (refine' m_bytesN ?k1 ?k2 ?_; (case k1 => first | decide | omega); (case k2 => first | decide | omega)); intro kyb' kyt' kyk' kyhb'; (try simp only [show Int.toNat 2 = 2 by decide, List.replicate_succ, List.replicate_zero] at kyhb'); (try k_fold))) | (with_reducible (k_here; (with_reducible show wpAny _ _ (PySem.call (Value.ref 317) _ _) _ _ _); k_dflt (refine' take_spec ?c1 ?c2 ?c3 ?c4 ?c7 ?c8 ?_; (case c3 => walk_at "cx9"); (case c1 => k_updF); (case c2 => with_reducible assumption); (case c4 => walk_at "rm9"); (case c7 => first | decide | omega); (case c8 => first | decide | omega)); intro kyk' kyt' kyo' kyh' kytk' kyhk0' kyhk1' kyhP' kyF' kyN'; (try dsimp only at kyN'); (try k_fold))) | ((with_reducible show wpAny _ _ (compareOp PySem.CmpOp.Eq (Value.bytes _ _) (Value.bytes _ _)) _ _ _); with_reducible (k_dflt (refine' m_eqBytes ?k1 ?k2 ?_; (case k1 => walk_at "bk9"); (case k2 => walk_at "bk9")))) | ((with_reducible show wpAny _ _ (subscriptTail (PySem.Expr.Name _ _) (PySem.Expr.Slice _ _ _ _) (Value.bytes _ _) (Value.ref _)) _ _ _); with_reducible (k_here; k_dflt (first | (refine' m_bto (s := ⟨_, _, _, _, _⟩) ?F ?N ?k3 ?k4 ?k5 ?_; (case F => k_asm); (case N => k_asm); (case k3 => walk_at "bk9"); (case k4 => walk_at "len9"); (case k5 => walk_at "len9")) | (refine' m_bfrom (s := ⟨_, _, _, _, _⟩) ?F ?N ?k3 ?k4 ?k5 ?_; (case F => k_asm); (case N => k_asm); (case k3 => walk_at "bk9"); (case k4 => walk_at "len9"); (case k5 => walk_at "len9")) | (refine' m_bmid (s := ⟨_, _, _, _, _⟩) ?F ?N ?k3 ?k4 ?k6 ?k7 ?k5 ?_; (case F => k_asm); (case N => k_asm); (case k3 => walk_at "bk9"); (case k4 => walk_at "len9"); (case k6 => walk_at "len9"); (case k7 => walk_at "len9"); (case k5 => walk_at "len9"))); intro kyb' kyh' kyt' kyk' kyF' kyN' kyhb'; (try simp only [show Int.toNat 8 = 8 by decide, show Int.toNat 6 = 6 by decide] at kyhb'); (try dsimp only))) | (with_reducible ((with_reducible show wpAny _ _ (subscriptTail _ _ (Value.ref _) (Value.int _ _)) _ _ _); k_dflt (refine' m_item ?k1 ?k2 ?k3 ?k4 ?k5 ?_; (case k1 => k_asm); (case k2 => k_mem); (case k3 => decide); (case k4 => decide); (case k5 => rfl)); (try dsimp only))) | walk1 | (dsimp only; walk1) | (leave1; try dsimp only)))
  refine unpack_spec (by walk_at "cx9") (by walk_at "rm9") (by walk_at "bk9") (by walk_at "len9") hx0 hy0 ?_ ?_
  · intro z r b' t3 t4 t5 h' tk' hz hb' F9 N9
    rw [read1] at hz
    cases hz
    dsimp only at hb' N9
    have hr9 := pool_ne N9 (r := r) List.mem_cons_self (src := src) (by k_mem) hP
    (try k_fold)
    (repeat' (first | (k_unfold; (try dsimp only)) | (k_end; wrow_close) | (with_reducible ((with_reducible show wpAny _ _ (execs (PySem.Stmt.Assign [PySem.Expr.Name (PySem.Str.ofString "places") _] _ _ :: _) _) _ _ _); refine stop_mk ?_)) | (with_reducible (k_here; (with_reducible show wpAny _ _ (binaryOp Operator.Add (Value.bytes _ _) (Value.bytes _ _)) _ _ _); k_dflt (refine' KBa.add_K ?k1 ?k2 ?k3 ?_; (case k1 => walk_at "bk9"); (case k2 => walk_at "bk9"); (case k3 => walk_at "len9")); intro kyt' kyk' kyhb'; (try k_fold))) | ((with_reducible show wpAny _ _ (compareOp PySem.CmpOp.NotEq (Value.ref _) (Value.ref _)) _ _ _); with_reducible (k_dflt (refine' m_neDue ?k1 ?k2 ?k3 ?k4 ?k5 ?k6 ?_; (case k1 => k_asm); (case k2 => walk_at "memR9"); (case k3 => walk_at "memR9"); (case k4 => walk_at "bk9"); (case k5 => walk_at "bk9"); (case k6 => walk_at "un9")))) | (with_reducible (k_here; (with_reducible show wpAny _ _ (call (Value.type "bytes") [Value.int _ _]) _ _ _); k_dflt (refine' m_bytesN ?k1 ?k2 ?_; (case k1 => first | decide | omega); (case k2 => first | decide | omega)); intro kyb' kyt' kyk' kyhb'; (try simp only [show Int.toNat 2 = 2 by decide, List.replicate_succ, List.replicate_zero] at kyhb'); (try k_fold))) | (with_reducible (k_here; (with_reducible show wpAny _ _ (PySem.call (Value.ref 317) _ _) _ _ _); k_dflt (refine' take_spec ?c1 ?c2 ?c3 ?c4 ?c7 ?c8 ?_; (case c3 => walk_at "cx9"); (case c1 => k_updF); (case c2 => with_reducible assumption); (case c4 => walk_at "rm9"); (case c7 => first | decide | omega); (case c8 => first | decide | omega)); intro kyk' kyt' kyo' kyh' kytk' kyhk0' kyhk1' kyhP' kyF' kyN'; (try dsimp only at kyN'); (try k_fold))) | ((with_reducible show wpAny _ _ (compareOp PySem.CmpOp.Eq (Value.bytes _ _) (Value.bytes _ _)) _ _ _); with_reducible (k_dflt (refine' m_eqBytes ?k1 ?k2 ?_; (case k1 => walk_at "bk9"); (case k2 => walk_at "bk9")))) | ((with_reducible show wpAny _ _ (subscriptTail (PySem.Expr.Name _ _) (PySem.Expr.Slice _ _ _ _) (Value.bytes _ _) (Value.ref _)) _ _ _); with_reducible (k_here; k_dflt (first | (refine' m_bto (s := ⟨_, _, _, _, _⟩) ?F ?N ?k3 ?k4 ?k5 ?_; (case F => k_asm); (case N => k_asm); (case k3 => walk_at "bk9"); (case k4 => walk_at "len9"); (case k5 => walk_at "len9")) | (refine' m_bfrom (s := ⟨_, _, _, _, _⟩) ?F ?N ?k3 ?k4 ?k5 ?_; (case F => k_asm); (case N => k_asm); (case k3 => walk_at "bk9"); (case k4 => walk_at "len9"); (case k5 => walk_at "len9")) | (refine' m_bmid (s := ⟨_, _, _, _, _⟩) ?F ?N ?k3 ?k4 ?k6 ?k7 ?k5 ?_; (case F => k_asm); (case N => k_asm); (case k3 => walk_at "bk9"); (case k4 => walk_at "len9"); (case k6 => walk_at "len9"); (case k7 => walk_at "len9"); (case k5 => walk_at "len9"))); intro kyb' kyh' kyt' kyk' kyF' kyN' kyhb'; (try simp only [show Int.toNat 8 = 8 by decide, show Int.toNat 6 = 6 by decide] at kyhb'); (try dsimp only))) | (with_reducible ((with_reducible show wpAny _ _ (subscriptTail _ _ (Value.ref _) (Value.int _ _)) _ _ _); k_dflt (refine' m_item ?k1 ?k2 ?k3 ?k4 ?k5 ?_; (case k1 => k_asm); (case k2 => k_mem); (case k3 => decide); (case k4 => decide); (case k5 => rfl)); (try dsimp only))) | walk1 | (dsimp only; walk1) | (leave1; try dsimp only)))
    refine unpack_spec (by walk_at "cx9") (by walk_at "rm9") (by walk_at "bk9") (by walk_at "len9") hx0 hy0 ?_ ?_
    · intro z r2 b2 t3 t4 t5 h' tk' hz hb2 F9 N9
      rw [readz] at hz
      cases hz
      dsimp only at hb2 N9
      (try k_fold)
      (repeat' (first | (k_unfold; (try dsimp only)) | (k_end; wrow_close) | (with_reducible ((with_reducible show wpAny _ _ (execs (PySem.Stmt.Assign [PySem.Expr.Name (PySem.Str.ofString "places") _] _ _ :: _) _) _ _ _); refine stop_mk ?_)) | (with_reducible (k_here; (with_reducible show wpAny _ _ (binaryOp Operator.Add (Value.bytes _ _) (Value.bytes _ _)) _ _ _); k_dflt (refine' KBa.add_K ?k1 ?k2 ?k3 ?_; (case k1 => walk_at "bk9"); (case k2 => walk_at "bk9"); (case k3 => walk_at "len9")); intro kyt' kyk' kyhb'; (try k_fold))) | ((with_reducible show wpAny _ _ (compareOp PySem.CmpOp.NotEq (Value.ref _) (Value.ref _)) _ _ _); with_reducible (k_dflt (refine' m_neDue ?k1 ?k2 ?k3 ?k4 ?k5 ?k6 ?_; (case k1 => k_asm); (case k2 => walk_at "memR9"); (case k3 => walk_at "memR9"); (case k4 => walk_at "bk9"); (case k5 => walk_at "bk9"); (case k6 => walk_at "un9")))) | (with_reducible (k_here; (with_reducible show wpAny _ _ (call (Value.type "bytes") [Value.int _ _]) _ _ _); k_dflt (refine' m_bytesN ?k1 ?k2 ?_; (case k1 => first | decide | omega); (case k2 => first | decide | omega)); intro kyb' kyt' kyk' kyhb'; (try simp only [show Int.toNat 2 = 2 by decide, List.replicate_succ, List.replicate_zero] at kyhb'); (try k_fold))) | (with_reducible (k_here; (with_reducible show wpAny _ _ (PySem.call (Value.ref 317) _ _) _ _ _); k_dflt (refine' take_spec ?c1 ?c2 ?c3 ?c4 ?c7 ?c8 ?_; (case c3 => walk_at "cx9"); (case c1 => k_updF); (case c2 => with_reducible assumption); (case c4 => walk_at "rm9"); (case c7 => first | decide | omega); (case c8 => first | decide | omega)); intro kyk' kyt' kyo' kyh' kytk' kyhk0' kyhk1' kyhP' kyF' kyN'; (try dsimp only at kyN'); (try k_fold))) | ((with_reducible show wpAny _ _ (compareOp PySem.CmpOp.Eq (Value.bytes _ _) (Value.bytes _ _)) _ _ _); with_reducible (k_dflt (refine' m_eqBytes ?k1 ?k2 ?_; (case k1 => walk_at "bk9"); (case k2 => walk_at "bk9")))) | ((with_reducible show wpAny _ _ (subscriptTail (PySem.Expr.Name _ _) (PySem.Expr.Slice _ _ _ _) (Value.bytes _ _) (Value.ref _)) _ _ _); with_reducible (k_here; k_dflt (first | (refine' m_bto (s := ⟨_, _, _, _, _⟩) ?F ?N ?k3 ?k4 ?k5 ?_; (case F => k_asm); (case N => k_asm); (case k3 => walk_at "bk9"); (case k4 => walk_at "len9"); (case k5 => walk_at "len9")) | (refine' m_bfrom (s := ⟨_, _, _, _, _⟩) ?F ?N ?k3 ?k4 ?k5 ?_; (case F => k_asm); (case N => k_asm); (case k3 => walk_at "bk9"); (case k4 => walk_at "len9"); (case k5 => walk_at "len9")) | (refine' m_bmid (s := ⟨_, _, _, _, _⟩) ?F ?N ?k3 ?k4 ?k6 ?k7 ?k5 ?_; (case F => k_asm); (case N => k_asm); (case k3 => walk_at "bk9"); (case k4 => walk_at "len9"); (case k6 => walk_at "len9"); (case k7 => walk_at "len9"); (case k5 => walk_at "len9"))); intro kyb' kyh' kyt' kyk' kyF' kyN' kyhb'; (try simp only [show Int.toNat 8 = 8 by decide, show Int.toNat 6 = 6 by decide] at kyhb'); (try dsimp only))) | (with_reducible ((with_reducible show wpAny _ _ (subscriptTail _ _ (Value.ref _) (Value.int _ _)) _ _ _); k_dflt (refine' m_item ?k1 ?k2 ?k3 ?k4 ?k5 ?_; (case k1 => k_asm); (case k2 => k_mem); (case k3 => decide); (case k4 => decide); (case k5 => rfl)); (try dsimp only))) | walk1 | (dsimp only; walk1) | (leave1; try dsimp only)))
      unfold Stop
      refine form_t2 (T := T) ho1 B (m := _) ?_ X (by walk_at "news9") Tp R XB TB D T0 (by assumption) ⟨hme, hmp, hmd, ⟨tx, ty, n1, hel⟩, ⟨tp, tq, n2, hpl⟩, ⟨b, t, _, _, _, hpay, hdu, hb⟩, ⟨bo, to, hoct, hbo⟩, ⟨oC, hcl, hoC⟩, hne⟩ hx hy hp hq hin hlen ?_
      · k_asm
      · intro o' g' h' tk' m' hP' T' F' N'
        exact hret _ _ _ _ _ hP' T' F' N'
    · intro hz
      rw [readz] at hz
      cases hz
  · intro hz
    rw [read1] at hz
    cases hz
end
section
theorem lookup_id {K : Frag} {f : Addr} {a : Obj} (h : K.lookup f = some a) : K.lookup f = some a := h
theorem news_out5 {g h : Heap} {L src : Addr} {o : Obj} {a1 a2 a3 a4 a5 : Addr × Obj} {T : List (Addr × Obj)} (N : News g L h (a1 :: a2 :: a3 :: a4 :: a5 :: (src, o) :: T)) : News g L h ((src, o) :: a1 :: a2 :: a3 :: a4 :: a5 :: T) :=
  news_sub N fun q hq => by
    simp only [List.mem_cons] at hq ⊢
    rcases hq with h | h | h | h | h | h | h <;> simp [h]
variable {prog : Program} {w : World} {p : Program} {loose : List Str} {mean : ExcName → Option Value} {mg mb : Str → Option Value}
  {dp un : Nat} {gd : Option (List Code)} {cn : Str} {cs : Scope} {fa : Addr} {ccd : Value} {A₀ : Around} {base h₀ : Heap} {L : Addr} {m : Str → Option Value} {s : Shared} {Q E : Value → Shared → Prop}
  {news : List (Addr × Obj)}
set_option maxHeartbeats 4000000 in
theorem form_core {src : Addr} {o : Obj} (hne : ∀ q ∈ news, q.1 ≠ src) (hP : PoolO o) (C : Cx w p loose mean mg mb A₀ base h₀ [] L s.heap m ((src, o) :: news)) (R : Rm cs dp un 8) (XB : (hd.heap_1 w.params).In base) (TB : Top p loose mean mg mb base)
  (hret : ∀ o' h' tk', PoolO o' → Fr h₀ L h' m → News h₀ L h' ((src, o') :: news) → Q (.bool true) { s with heap := h', toks := tk' }) :
  wpAny (model prog w) (ktrTop dp un gd cn cs L fa ccd [] []) (call (.ref 376) [.ref src]) Q E s := by
  obtain ⟨B, F, X, N, T⟩ := C
  have hRd := R.hd
  have hRu := R.hu
  refine wpAny_call ?_
  k_dflt (refine' enterSC0 (binds := [(Str.ofString "source", .ref src)]) B F X N T ?kA ?kF ?kK ?k6 ?k7 ?k8 ?k9 ?kB ?kD ?_ ?c2 ?c3 ?c4; (((case kA => exact rfl); (case kF => exact rfl); (case kK => exact Rm.hk (by assumption)); (case k6 => k_is); (case k7 => k_is); (case k8 => exact Nat.lt_of_le_of_lt (Nat.le_add_right _ _) (Rm.hd (by assumption))); (case k9 => exact BindsTo.of_eq rfl); (case kB => exact rfl); (case kD => decide +kernel); (case c2 => exact rfl); (case c3 => exact rfl); (case c4 => exact rfl); k_whole; intro g' L' h' tk' cells' FG' F' N' Y' B' X' T' D' l1; (obtain ⟨l3', l4'⟩ := List.forall_mem_cons.mp l1); (have l5' := ltN l3'); (dsimp only at l5'); k_cells Y'; (try simp only [List.cons_append, List.nil_append] at N'); (try dsimp only); (try k_fold))))
  (repeat' (first | (k_unfold; (try dsimp only)) | (k_end; wrow_close) | (with_reducible ((with_reducible show wpAny _ _ (execs (PySem.Stmt.If _ _ _ _ :: _) _) _ _ _); refine stop_mk ?_)) | (with_reducible (k_here; (with_reducible show wpAny _ _ (PySem.call (Value.ref 324) _ _) _ _ _); k_dflt (refine' one_spec ?c1 ?c2 ?c3 ?c4 ?c5 ?c6 ?c7 ?c8 ?_; (case c3 => walk_at "cx9"); (case c1 => k_updF); (case c2 => with_reducible assumption); (case c4 => walk_at "rm9"); (case c5 => (intro kyo9; (try dsimp only); k_mem)); (case c6 => l_ints); (case c7 => first | assumption | decide | ((simp only [rangeKs_length, List.length_append, List.length_cons, List.length_nil]); omega)); (case c8 => first | assumption | decide | ((simp only [rangeKs_length, List.length_append, List.length_cons, List.length_nil]); omega))); intro kyk' kyt' kyo' kyh' kytk' kyhk' kyhP' kyF' kyN'; (try dsimp only at kyN'); (try k_fold))) | ((with_reducible show wpAny _ _ (exec (PySem.Stmt.Assign [_] (PySem.Expr.ListComp _ _ _) _) _) _ _ _); with_reducible (k_here; (fail_if_success lct_look); k_dflt (refine' LCg.Assign_ListComp_U (F₀ := ?f0) ?a ?b ?c ?d ?e ?f ?g ?h ?i ?_; (case f0 => k_asm); (case a => rfl); (case b => with_unfolding_all rfl); (case c => with_unfolding_all rfl); (case d => decide); (case e => rfl); (case f => decide); (case g => rfl); (case h => rfl); (case i => rfl)))) | (with_reducible (k_here; (with_reducible show wpAny _ _ (PySem.call (Value.ref 296) [_, _, _, _, _] _) _ _ _); k_dflt (refine' pack_spec ?c1 ?c2 ?c3 ?c4 ?c5 ?c6 ?_; (case c1 => walk_at "cx9"); (case c2 => walk_at "rm9"); (case c3 => first | with_reducible assumption | exact KBa.ints_make (by with_reducible assumption)); (case c4 => walk_at "len9"); (case c5 => first | decide | omega); (case c6 => first | decide | omega)); intro kyb' kyt' kyh' kytk' kyhb' kyF' kyN'; (try k_fold))) | (with_reducible (k_here; (with_reducible show wpAny _ _ (PySem.call (Value.ref 317) _ _) _ _ _); k_dflt (refine' take_spec ?c1 ?c2 ?c3 ?c4 ?c7 ?c8 ?_; (case c3 => walk_at "cx9"); (case c1 => k_updF); (case c2 => with_reducible assumption); (case c4 => walk_at "rm9"); (case c7 => first | decide | omega); (case c8 => first | decide | omega)); intro kyk' kyt' kyo' kyh' kytk' kyhk0' kyhk1' kyhP' kyF' kyN'; (try dsimp only at kyN'); (try k_fold))) | (with_reducible ((with_reducible show wpAny _ _ (subscriptTail _ _ (Value.ref _) (Value.int _ _)) _ _ _); k_dflt (refine' m_item ?k1 ?k2 ?k3 ?k4 ?k5 ?_; (case k1 => k_asm); (case k2 => k_mem); (case k3 => decide); (case k4 => decide); (case k5 => rfl)); (try dsimp only))) | ((with_reducible show wpAny _ _ (eval (PySem.Expr.ListComp _ _ _) _) _ _ _); with_reducible (k_here; (fail_if_success lct_look); k_dflt (refine' LCg.ListComp_U (F₀ := ?f0) ?c ?d ?e ?f ?g ?_; (case f0 => k_asm); (case c => with_unfolding_all rfl); (case d => decide); (case e => rfl); (case f => decide); (case g => rfl)))) | walk1 | (dsimp only; walk1) | (leave1; try dsimp only)))
  unfold Stop
  refine comp_draws (g := fun o => [(_, _), (src, o)] ++ news) addrs rfl hP ?_ ?_
  · rintro o ys I oI C oC D h tk E' hP F N off ne
    have off' := off
    (try dsimp only [List.cons_append, List.nil_append] at N off)
    simp only [LCg.Off3] at off
    (try k_fold)
    (repeat' (first | (k_unfold; (try dsimp only)) | (k_end; wrow_close) | (with_reducible ((with_reducible show wpAny _ _ (execs (PySem.Stmt.If _ _ _ _ :: _) _) _ _ _); refine stop_mk ?_)) | (with_reducible (k_here; (with_reducible show wpAny _ _ (PySem.call (Value.ref 324) _ _) _ _ _); k_dflt (refine' one_spec ?c1 ?c2 ?c3 ?c4 ?c5 ?c6 ?c7 ?c8 ?_; (case c3 => walk_at "cx9"); (case c1 => k_updF); (case c2 => with_reducible assumption); (case c4 => walk_at "rm9"); (case c5 => (intro kyo9; (try dsimp only); k_mem)); (case c6 => l_ints); (case c7 => first | assumption | decide | ((simp only [rangeKs_length, List.length_append, List.length_cons, List.length_nil]); omega)); (case c8 => first | assumption | decide | ((simp only [rangeKs_length, List.length_append, List.length_cons, List.length_nil]); omega))); intro kyk' kyt' kyo' kyh' kytk' kyhk' kyhP' kyF' kyN'; (try dsimp only at kyN'); (try k_fold))) | ((with_reducible show wpAny _ _ (exec (PySem.Stmt.Assign [_] (PySem.Expr.ListComp _ _ _) _) _) _ _ _); with_reducible (k_here; (fail_if_success lct_look); k_dflt (refine' LCg.Assign_ListComp_U (F₀ := ?f0) ?a ?b ?c ?d ?e ?f ?g ?h ?i ?_; (case f0 => k_asm); (case a => rfl); (case b => with_unfolding_all rfl); (case c => with_unfolding_all rfl); (case d => decide); (case e => rfl); (case f => decide); (case g => rfl); (case h => rfl); (case i => rfl)))) | (with_reducible (k_here; (with_reducible show wpAny _ _ (PySem.call (Value.ref 296) [_, _, _, _, _] _) _ _ _); k_dflt (refine' pack_spec ?c1 ?c2 ?c3 ?c4 ?c5 ?c6 ?_; (case c1 => walk_at "cx9"); (case c2 => walk_at "rm9"); (case c3 => first | with_reducible assumption | exact KBa.ints_make (by with_reducible assumption)); (case c4 => walk_at "len9"); (case c5 => first | decide | omega); (case c6 => first | decide | omega)); intro kyb' kyt' kyh' kytk' kyhb' kyF' kyN'; (try k_fold))) | (with_reducible (k_here; (with_reducible show wpAny _ _ (PySem.call (Value.ref 317) _ _) _ _ _); k_dflt (refine' take_spec ?c1 ?c2 ?c3 ?c4 ?c7 ?c8 ?_; (case c3 => walk_at "cx9"); (case c1 => k_updF); (case c2 => with_reducible assumption); (case c4 => walk_at "rm9"); (case c7 => first | decide | omega); (case c8 => first | decide | omega)); intro kyk' kyt' kyo' kyh' kytk' kyhk0' kyhk1' kyhP' kyF' kyN'; (try dsimp only at kyN'); (try k_fold))) | (with_reducible ((with_reducible show wpAny _ _ (subscriptTail _ _ (Value.ref _) (Value.int _ _)) _ _ _); k_dflt (refine' m_item ?k1 ?k2 ?k3 ?k4 ?k5 ?_; (case k1 => k_asm); (case k2 => k_mem); (case k3 => decide); (case k4 => decide); (case k5 => rfl)); (try dsimp only))) | ((with_reducible show wpAny _ _ (eval (PySem.Expr.ListComp _ _ _) _) _ _ _); with_reducible (k_here; (fail_if_success lct_look); k_dflt (refine' LCg.ListComp_U (F₀ := ?f0) ?c ?d ?e ?f ?g ?_; (case f0 => k_asm); (case c => with_unfolding_all rfl); (case d => decide); (case e => rfl); (case f => decide); (case g => rfl)))) | walk1 | (dsimp only; walk1) | (leave1; try dsimp only)))
    refine ⟨_, _, _, _, _, rfl, by simpa [addrs] using ‹_ ∈ ([0, _, _, _, _] : List Int)›, by assumption, rfl, by k_asm, by (dsimp only [List.cons_append, List.nil_append]; walk_at "news9"), by exact off'⟩
  · rintro ys ns o hI hl hm hP
    (try dsimp only [List.cons_append, List.nil_append])
    (repeat' (first | (k_unfold; (try dsimp only)) | (k_end; wrow_close) | (with_reducible ((with_reducible show wpAny _ _ (execs (PySem.Stmt.If _ _ _ _ :: _) _) _ _ _); refine stop_mk ?_)) | (with_reducible (k_here; (with_reducible show wpAny _ _ (PySem.call (Value.ref 324) _ _) _ _ _); k_dflt (refine' one_spec ?c1 ?c2 ?c3 ?c4 ?c5 ?c6 ?c7 ?c8 ?_; (case c3 => walk_at "cx9"); (case c1 => k_updF); (case c2 => with_reducible assumption); (case c4 => walk_at "rm9"); (case c5 => (intro kyo9; (try dsimp only); k_mem)); (case c6 => l_ints); (case c7 => first | assumption | decide | ((simp only [rangeKs_length, List.length_append, List.length_cons, List.length_nil]); omega)); (case c8 => first | assumption | decide | ((simp only [rangeKs_length, List.length_append, List.length_cons, List.length_nil]); omega))); intro kyk' kyt' kyo' kyh' kytk' kyhk' kyhP' kyF' kyN'; (try dsimp only at kyN'); (try k_fold))) | ((with_reducible show wpAny _ _ (exec (PySem.Stmt.Assign [_] (PySem.Expr.ListComp _ _ _) _) _) _ _ _); with_reducible (k_here; (fail_if_success lct_look); k_dflt (refine' LCg.Assign_ListComp_U (F₀ := ?f0) ?a ?b ?c ?d ?e ?f ?g ?h ?i ?_; (case f0 => k_asm); (case a => rfl); (case b => with_unfolding_all rfl); (case c => with_unfolding_all rfl); (case d => decide); (case e => rfl); (case f => decide); (case g => rfl); (case h => rfl); (case i => rfl)))) | (with_reducible (k_here; (with_reducible show wpAny _ _ (PySem.call (Value.ref 296) [_, _, _, _, _] _) _ _ _); k_dflt (refine' pack_spec ?c1 ?c2 ?c3 ?c4 ?c5 ?c6 ?_; (case c1 => walk_at "cx9"); (case c2 => walk_at "rm9"); (case c3 => first | with_reducible assumption | exact KBa.ints_make (by with_reducible assumption)); (case c4 => walk_at "len9"); (case c5 => first | decide | omega); (case c6 => first | decide | omega)); intro kyb' kyt' kyh' kytk' kyhb' kyF' kyN'; (try k_fold))) | (with_reducible (k_here; (with_reducible show wpAny _ _ (PySem.call (Value.ref 317) _ _) _ _ _); k_dflt (refine' take_spec ?c1 ?c2 ?c3 ?c4 ?c7 ?c8 ?_; (case c3 => walk_at "cx9"); (case c1 => k_updF); (case c2 => with_reducible assumption); (case c4 => walk_at "rm9"); (case c7 => first | decide | omega); (case c8 => first | decide | omega)); intro kyk' kyt' kyo' kyh' kytk' kyhk0' kyhk1' kyhP' kyF' kyN'; (try dsimp only at kyN'); (try k_fold))) | (with_reducible ((with_reducible show wpAny _ _ (subscriptTail _ _ (Value.ref _) (Value.int _ _)) _ _ _); k_dflt (refine' m_item ?k1 ?k2 ?k3 ?k4 ?k5 ?_; (case k1 => k_asm); (case k2 => k_mem); (case k3 => decide); (case k4 => decide); (case k5 => rfl)); (try dsimp only))) | ((with_reducible show wpAny _ _ (eval (PySem.Expr.ListComp _ _ _) _) _ _ _); with_reducible (k_here; (fail_if_success lct_look); k_dflt (refine' LCg.ListComp_U (F₀ := ?f0) ?c ?d ?e ?f ?g ?_; (case f0 => k_asm); (case c => with_unfolding_all rfl); (case d => decide); (case e => rfl); (case f => decide); (case g => rfl)))) | walk1 | (dsimp only; walk1) | (leave1; try dsimp only)))
    unfold Stop
    refine comp_draws (g := fun o => [(_, _), (_, _), (src, o)] ++ news) [0, 1, 53, 4096, 65535] rfl hP ?_ ?_
    · rintro o ys I oI C oC D h tk E' hP F N off ne
      have off' := off
      (try dsimp only [List.cons_append, List.nil_append] at N off)
      simp only [LCg.Off3] at off
      (try k_fold)
      (repeat' (first | (k_unfold; (try dsimp only)) | (k_end; wrow_close) | (with_reducible ((with_reducible show wpAny _ _ (execs (PySem.Stmt.If _ _ _ _ :: _) _) _ _ _); refine stop_mk ?_)) | (with_reducible (k_here; (with_reducible show wpAny _ _ (PySem.call (Value.ref 324) _ _) _ _ _); k_dflt (refine' one_spec ?c1 ?c2 ?c3 ?c4 ?c5 ?c6 ?c7 ?c8 ?_; (case c3 => walk_at "cx9"); (case c1 => k_updF); (case c2 => with_reducible assumption); (case c4 => walk_at "rm9"); (case c5 => (intro kyo9; (try dsimp only); k_mem)); (case c6 => l_ints); (case c7 => first | assumption | decide | ((simp only [rangeKs_length, List.length_append, List.length_cons, List.length_nil]); omega)); (case c8 => first | assumption | decide | ((simp only [rangeKs_length, List.length_append, List.length_cons, List.length_nil]); omega))); intro kyk' kyt' kyo' kyh' kytk' kyhk' kyhP' kyF' kyN'; (try dsimp only at kyN'); (try k_fold))) | ((with_reducible show wpAny _ _ (exec (PySem.Stmt.Assign [_] (PySem.Expr.ListComp _ _ _) _) _) _ _ _); with_reducible (k_here; (fail_if_success lct_look); k_dflt (refine' LCg.Assign_ListComp_U (F₀ := ?f0) ?a ?b ?c ?d ?e ?f ?g ?h ?i ?_; (case f0 => k_asm); (case a => rfl); (case b => with_unfolding_all rfl); (case c => with_unfolding_all rfl); (case d => decide); (case e => rfl); (case f => decide); (case g => rfl); (case h => rfl); (case i => rfl)))) | (with_reducible (k_here; (with_reducible show wpAny _ _ (PySem.call (Value.ref 296) [_, _, _, _, _] _) _ _ _); k_dflt (refine' pack_spec ?c1 ?c2 ?c3 ?c4 ?c5 ?c6 ?_; (case c1 => walk_at "cx9"); (case c2 => walk_at "rm9"); (case c3 => first | with_reducible assumption | exact KBa.ints_make (by with_reducible assumption)); (case c4 => walk_at "len9"); (case c5 => first | decide | omega); (case c6 => first | decide | omega)); intro kyb' kyt' kyh' kytk' kyhb' kyF' kyN'; (try k_fold))) | (with_reducible (k_here; (with_reducible show wpAny _ _ (PySem.call (Value.ref 317) _ _) _ _ _); k_dflt (refine' take_spec ?c1 ?c2 ?c3 ?c4 ?c7 ?c8 ?_; (case c3 => walk_at "cx9"); (case c1 => k_updF); (case c2 => with_reducible assumption); (case c4 => walk_at "rm9"); (case c7 => first | decide | omega); (case c8 => first | decide | omega)); intro kyk' kyt' kyo' kyh' kytk' kyhk0' kyhk1' kyhP' kyF' kyN'; (try dsimp only at kyN'); (try k_fold))) | (with_reducible ((with_reducible show wpAny _ _ (subscriptTail _ _ (Value.ref _) (Value.int _ _)) _ _ _); k_dflt (refine' m_item ?k1 ?k2 ?k3 ?k4 ?k5 ?_; (case k1 => k_asm); (case k2 => k_mem); (case k3 => decide); (case k4 => decide); (case k5 => rfl)); (try dsimp only))) | ((with_reducible show wpAny _ _ (eval (PySem.Expr.ListComp _ _ _) _) _ _ _); with_reducible (k_here; (fail_if_success lct_look); k_dflt (refine' LCg.ListComp_U (F₀ := ?f0) ?c ?d ?e ?f ?g ?_; (case f0 => k_asm); (case c => with_unfolding_all rfl); (case d => decide); (case e => rfl); (case f => decide); (case g => rfl)))) | walk1 | (dsimp only; walk1) | (leave1; try dsimp only)))
      refine ⟨_, _, _, _, _, rfl, by assumption, by assumption, rfl, by k_asm, by (dsimp only [List.cons_append, List.nil_append]; walk_at "news9"), by exact off'⟩
    · rintro ys2 ns2 o hI2 hl2 hm2 hP
      (try dsimp only [List.cons_append, List.nil_append])
      refine' elimG ?h9y3 ?k9y3
      case h9y3 =>
        have h9z := ints_two hI2 hl2 (by decide)
        intro G9 k9
        obtain ⟨p, q, tp, tq, e9x1, e9x2⟩ := h9z
        revert e9x2
        revert e9x1
        revert tq
        revert tp
        revert q
        revert p
        exact k9
      intro p q tp tq e9x1 e9x2
      subst e9x1
      subst e9x2
      refine' elimG ?h9y6 ?k9y6
      case h9y6 =>
        have h9z := ints_two hI hl (by decide)
        intro G9 k9
        obtain ⟨x, y, tx, ty, e9x4, e9x5⟩ := h9z
        revert e9x5
        revert e9x4
        revert ty
        revert tx
        revert y
        revert x
        exact k9
      intro x y tx ty e9x4 e9x5
      subst e9x4
      subst e9x5
      refine' elimG ?h9y7 ?k9y7
      case h9y7 =>
        have h9z := addr_in (hm x (by simp))
        intro G9 k9
        obtain ⟨hx0, hx1⟩ := h9z
        revert hx1
        revert hx0
        exact k9
      intro hx0 hx1
      refine' elimG ?h9y8 ?k9y8
      case h9y8 =>
        have h9z := addr_in (hm y (by simp))
        intro G9 k9
        obtain ⟨hy0, hy1⟩ := h9z
        revert hy1
        revert hy0
        exact k9
      intro hy0 hy1
      refine' elimG ?h9y9 ?k9y9
      case h9y9 =>
        have h9z := port_in (hm2 p (by simp))
        intro G9 k9
        obtain ⟨hp0, hp1⟩ := h9z
        revert hp1
        revert hp0
        exact k9
      intro hp0 hp1
      refine' elimG ?h9y10 ?k9y10
      case h9y10 =>
        have h9z := port_in (hm2 q (by simp))
        intro G9 k9
        obtain ⟨hq0, hq1⟩ := h9z
        revert hq1
        revert hq0
        exact k9
      intro hq0 hq1
      (repeat' (first | (k_unfold; (try dsimp only)) | (k_end; wrow_close) | (with_reducible ((with_reducible show wpAny _ _ (execs (PySem.Stmt.If _ _ _ _ :: _) _) _ _ _); refine stop_mk ?_)) | (with_reducible (k_here; (with_reducible show wpAny _ _ (PySem.call (Value.ref 324) _ _) _ _ _); k_dflt (refine' one_spec ?c1 ?c2 ?c3 ?c4 ?c5 ?c6 ?c7 ?c8 ?_; (case c3 => walk_at "cx9"); (case c1 => k_updF); (case c2 => with_reducible assumption); (case c4 => walk_at "rm9"); (case c5 => (intro kyo9; (try dsimp only); k_mem)); (case c6 => l_ints); (case c7 => first | assumption | decide | ((simp only [rangeKs_length, List.length_append, List.length_cons, List.length_nil]); omega)); (case c8 => first | assumption | decide | ((simp only [rangeKs_length, List.length_append, List.length_cons, List.length_nil]); omega))); intro kyk' kyt' kyo' kyh' kytk' kyhk' kyhP' kyF' kyN'; (try dsimp only at kyN'); (try k_fold))) | ((with_reducible show wpAny _ _ (exec (PySem.Stmt.Assign [_] (PySem.Expr.ListComp _ _ _) _) _) _ _ _); with_reducible (k_here; (fail_if_success lct_look); k_dflt (refine' LCg.Assign_ListComp_U (F₀ := ?f0) ?a ?b ?c ?d ?e ?f ?g ?h ?i ?_; (case f0 => k_asm); (case a => rfl); (case b => with_unfolding_all rfl); (case c => with_unfolding_all rfl); (case d => decide); (case e => rfl); (case f => decide); (case g => rfl); (case h => rfl); (case i => rfl)))) | (with_reducible (k_here; (with_reducible show wpAny _ _ (PySem.call (Value.ref 296) [_, _, _, _, _] _) _ _ _); k_dflt (refine' pack_spec ?c1 ?c2 ?c3 ?c4 ?c5 ?c6 ?_; (case c1 => walk_at "cx9"); (case c2 => walk_at "rm9"); (case c3 => first | with_reducible assumption | exact KBa.ints_make (by with_reducible assumption)); (case c4 => walk_at "len9"); (case c5 => first | decide | omega); (case c6 => first | decide | omega)); intro kyb' kyt' kyh' kytk' kyhb' kyF' kyN'; (try k_fold))) | (with_reducible (k_here; (with_reducible show wpAny _ _ (PySem.call (Value.ref 317) _ _) _ _ _); k_dflt (refine' take_spec ?c1 ?c2 ?c3 ?c4 ?c7 ?c8 ?_; (case c3 => walk_at "cx9"); (case c1 => k_updF); (case c2 => with_reducible assumption); (case c4 => walk_at "rm9"); (case c7 => first | decide | omega); (case c8 => first | decide | omega)); intro kyk' kyt' kyo' kyh' kytk' kyhk0' kyhk1' kyhP' kyF' kyN'; (try dsimp only at kyN'); (try k_fold))) | (with_reducible ((with_reducible show wpAny _ _ (subscriptTail _ _ (Value.ref _) (Value.int _ _)) _ _ _); k_dflt (refine' m_item ?k1 ?k2 ?k3 ?k4 ?k5 ?_; (case k1 => k_asm); (case k2 => k_mem); (case k3 => decide); (case k4 => decide); (case k5 => rfl)); (try dsimp only))) | ((with_reducible show wpAny _ _ (eval (PySem.Expr.ListComp _ _ _) _) _ _ _); with_reducible (k_here; (fail_if_success lct_look); k_dflt (refine' LCg.ListComp_U (F₀ := ?f0) ?c ?d ?e ?f ?g ?_; (case f0 => k_asm); (case c => with_unfolding_all rfl); (case d => decide); (case e => rfl); (case f => decide); (case g => rfl)))) | walk1 | (dsimp only; walk1) | (leave1; try dsimp only)))
      unfold Stop
      refine comp_draws (g := fun o => [(_, _), (_, _), (_, _), (src, o)] ++ news) [0, 1, 128, 255] rfl (by assumption) ?_ ?_
      · rintro o ys I oI C oC D h tk E' hP F N off ne
        have off' := off
        (try dsimp only [List.cons_append, List.nil_append] at N off)
        simp only [LCg.Off3] at off
        (try k_fold)
        (repeat' (first | (k_unfold; (try dsimp only)) | (k_end; wrow_close) | (with_reducible ((with_reducible show wpAny _ _ (execs (PySem.Stmt.If _ _ _ _ :: _) _) _ _ _); refine stop_mk ?_)) | (with_reducible (k_here; (with_reducible show wpAny _ _ (PySem.call (Value.ref 324) _ _) _ _ _); k_dflt (refine' one_spec ?c1 ?c2 ?c3 ?c4 ?c5 ?c6 ?c7 ?c8 ?_; (case c3 => walk_at "cx9"); (case c1 => k_updF); (case c2 => with_reducible assumption); (case c4 => walk_at "rm9"); (case c5 => (intro kyo9; (try dsimp only); k_mem)); (case c6 => l_ints); (case c7 => first | assumption | decide | ((simp only [rangeKs_length, List.length_append, List.length_cons, List.length_nil]); omega)); (case c8 => first | assumption | decide | ((simp only [rangeKs_length, List.length_append, List.length_cons, List.length_nil]); omega))); intro kyk' kyt' kyo' kyh' kytk' kyhk' kyhP' kyF' kyN'; (try dsimp only at kyN'); (try k_fold))) | ((with_reducible show wpAny _ _ (exec (PySem.Stmt.Assign [_] (PySem.Expr.ListComp _ _ _) _) _) _ _ _); with_reducible (k_here; (fail_if_success lct_look); k_dflt (refine' LCg.Assign_ListComp_U (F₀ := ?f0) ?a ?b ?c ?d ?e ?f ?g ?h ?i ?_; (case f0 => k_asm); (case a => rfl); (case b => with_unfolding_all rfl); (case c => with_unfolding_all rfl); (case d => decide); (case e => rfl); (case f => decide); (case g => rfl); (case h => rfl); (case i => rfl)))) | (with_reducible (k_here; (with_reducible show wpAny _ _ (PySem.call (Value.ref 296) [_, _, _, _, _] _) _ _ _); k_dflt (refine' pack_spec ?c1 ?c2 ?c3 ?c4 ?c5 ?c6 ?_; (case c1 => walk_at "cx9"); (case c2 => walk_at "rm9"); (case c3 => first | with_reducible assumption | exact KBa.ints_make (by with_reducible assumption)); (case c4 => walk_at "len9"); (case c5 => first | decide | omega); (case c6 => first | decide | omega)); intro kyb' kyt' kyh' kytk' kyhb' kyF' kyN'; (try k_fold))) | (with_reducible (k_here; (with_reducible show wpAny _ _ (PySem.call (Value.ref 317) _ _) _ _ _); k_dflt (refine' take_spec ?c1 ?c2 ?c3 ?c4 ?c7 ?c8 ?_; (case c3 => walk_at "cx9"); (case c1 => k_updF); (case c2 => with_reducible assumption); (case c4 => walk_at "rm9"); (case c7 => first | decide | omega); (case c8 => first | decide | omega)); intro kyk' kyt' kyo' kyh' kytk' kyhk0' kyhk1' kyhP' kyF' kyN'; (try dsimp only at kyN'); (try k_fold))) | (with_reducible ((with_reducible show wpAny _ _ (subscriptTail _ _ (Value.ref _) (Value.int _ _)) _ _ _); k_dflt (refine' m_item ?k1 ?k2 ?k3 ?k4 ?k5 ?_; (case k1 => k_asm); (case k2 => k_mem); (case k3 => decide); (case k4 => decide); (case k5 => rfl)); (try dsimp only))) | ((with_reducible show wpAny _ _ (eval (PySem.Expr.ListComp _ _ _) _) _ _ _); with_reducible (k_here; (fail_if_success lct_look); k_dflt (refine' LCg.ListComp_U (F₀ := ?f0) ?c ?d ?e ?f ?g ?_; (case f0 => k_asm); (case c => with_unfolding_all rfl); (case d => decide); (case e => rfl); (case f => decide); (case g => rfl)))) | walk1 | (dsimp only; walk1) | (leave1; try dsimp only)))
        refine ⟨_, _, _, _, _, rfl, by assumption, by assumption, rfl, by k_asm, by (dsimp only [List.cons_append, List.nil_append]; walk_at "news9"), by exact off'⟩
      · rintro ys3 ns3 o hI3 hl3 hm3 hP
        (try dsimp only [List.cons_append, List.nil_append])
        have hin3 := load_in hm3
        have hlen3 : ns3.length ≤ 9 := by omega
        (repeat' (first | (k_unfold; (try dsimp only)) | (k_end; wrow_close) | (with_reducible ((with_reducible show wpAny _ _ (execs (PySem.Stmt.If _ _ _ _ :: _) _) _ _ _); refine stop_mk ?_)) | (with_reducible (k_here; (with_reducible show wpAny _ _ (PySem.call (Value.ref 324) _ _) _ _ _); k_dflt (refine' one_spec ?c1 ?c2 ?c3 ?c4 ?c5 ?c6 ?c7 ?c8 ?_; (case c3 => walk_at "cx9"); (case c1 => k_updF); (case c2 => with_reducible assumption); (case c4 => walk_at "rm9"); (case c5 => (intro kyo9; (try dsimp only); k_mem)); (case c6 => l_ints); (case c7 => first | assumption | decide | ((simp only [rangeKs_length, List.length_append, List.length_cons, List.length_nil]); omega)); (case c8 => first | assumption | decide | ((simp only [rangeKs_length, List.length_append, List.length_cons, List.length_nil]); omega))); intro kyk' kyt' kyo' kyh' kytk' kyhk' kyhP' kyF' kyN'; (try dsimp only at kyN'); (try k_fold))) | ((with_reducible show wpAny _ _ (exec (PySem.Stmt.Assign [_] (PySem.Expr.ListComp _ _ _) _) _) _ _ _); with_reducible (k_here; (fail_if_success lct_look); k_dflt (refine' LCg.Assign_ListComp_U (F₀ := ?f0) ?a ?b ?c ?d ?e ?f ?g ?h ?i ?_; (case f0 => k_asm); (case a => rfl); (case b => with_unfolding_all rfl); (case c => with_unfolding_all rfl); (case d => decide); (case e => rfl); (case f => decide); (case g => rfl); (case h => rfl); (case i => rfl)))) | (with_reducible (k_here; (with_reducible show wpAny _ _ (PySem.call (Value.ref 296) [_, _, _, _, _] _) _ _ _); k_dflt (refine' pack_spec ?c1 ?c2 ?c3 ?c4 ?c5 ?c6 ?_; (case c1 => walk_at "cx9"); (case c2 => walk_at "rm9"); (case c3 => first | with_reducible assumption | exact KBa.ints_make (by with_reducible assumption)); (case c4 => walk_at "len9"); (case c5 => first | decide | omega); (case c6 => first | decide | omega)); intro kyb' kyt' kyh' kytk' kyhb' kyF' kyN'; (try k_fold))) | (with_reducible (k_here; (with_reducible show wpAny _ _ (PySem.call (Value.ref 317) _ _) _ _ _); k_dflt (refine' take_spec ?c1 ?c2 ?c3 ?c4 ?c7 ?c8 ?_; (case c3 => walk_at "cx9"); (case c1 => k_updF); (case c2 => with_reducible assumption); (case c4 => walk_at "rm9"); (case c7 => first | decide | omega); (case c8 => first | decide | omega)); intro kyk' kyt' kyo' kyh' kytk' kyhk0' kyhk1' kyhP' kyF' kyN'; (try dsimp only at kyN'); (try k_fold))) | (with_reducible ((with_reducible show wpAny _ _ (subscriptTail _ _ (Value.ref _) (Value.int _ _)) _ _ _); k_dflt (refine' m_item ?k1 ?k2 ?k3 ?k4 ?k5 ?_; (case k1 => k_asm); (case k2 => k_mem); (case k3 => decide); (case k4 => decide); (case k5 => rfl)); (try dsimp only))) | ((with_reducible show wpAny _ _ (eval (PySem.Expr.ListComp _ _ _) _) _ _ _); with_reducible (k_here; (fail_if_success lct_look); k_dflt (refine' LCg.ListComp_U (F₀ := ?f0) ?c ?d ?e ?f ?g ?_; (case f0 => k_asm); (case c => with_unfolding_all rfl); (case d => decide); (case e => rfl); (case f => decide); (case g => rfl)))) | walk1 | (dsimp only; walk1) | (leave1; try dsimp only)))
        unfold Stop
        have ho9 := lookup_id (K := hd.heap_1 w.params) (f := 376) (by k_is)
        refine' form_t1 ho9 ?B ?F ?X (news_out5 ?N) ?Tp R XB TB ?D KtsTurn.refl hP ?hF (hm x (by simp)) (hm y (by simp)) ⟨hp0, hp1⟩ ⟨hq0, hq1⟩ hin3 hlen3 ?r
        case N => k_asm
        case F => k_asm
        case B => assumption
        case X => assumption
        case Tp => assumption
        case D => assumption
        case hF => exact ⟨rfl, rfl, rfl, ⟨_, _, _, by k_mem⟩, ⟨_, _, _, by k_mem⟩, ⟨_, _, _, _, _, rfl, by k_mem, KBa.ints_make (by assumption)⟩, ⟨_, _, rfl, by assumption⟩, ⟨_, by k_mem, by assumption⟩, List.forall_mem_cons.mpr ⟨by k_ne, List.forall_mem_cons.mpr ⟨by k_ne, List.forall_mem_cons.mpr ⟨by k_ne, List.forall_mem_cons.mpr ⟨by k_ne, List.forall_mem_cons.mpr ⟨by k_ne, hne⟩⟩⟩⟩⟩⟩
        case r =>
          intro o' g' h' tk' m' hP' T' F' N'
          exact leaveS0_ F' N' T' fun F0 N0 => hret _ _ _ hP' F0 (news_sub N0 (by walk_at "sub9"))
end
def okind (o : Obj) : Nat := match o.data with | .cell _ => 0 | .seq _ _ => 1 | .dict _ _ => 2 | .plain => 3 | _ => 4
theorem kind_ne {h₀ h : Heap} {L x z : Addr} {ox oz : Obj} {T : List (Addr × Obj)} (N : News h₀ L h T) (h1 : (x, ox) ∈ T) (h2 : (z, oz) ∈ T) (hk : okind ox ≠ okind oz) : x ≠ z := news_ne N h1 h2 fun e => hk (by rw [e])
theorem kind_cell {o : Obj} {v : Option Value} (h : o.data = .cell v) : okind o = 0 := by unfold okind; rw [h]
theorem kind_pool {o : Obj} (h : PoolO o) : okind o = 1 := by obtain ⟨_, _, _, _, _, rfl, _⟩ := h; rfl
theorem kind_dict {prog : Program} {w : World} {o : Obj} {kvs : List (Int × Value)} (h : o.IsDictOf (intKind prog w) kvs) : okind o = 2 := by
  obtain ⟨es, ep, _, hd, _⟩ := h
  unfold okind; rw [hd]
theorem PortR.kinds {prog : Program} {w : World} {T T' : List (Addr × Obj)} {pr dx D : Addr} {oD : Obj} {a b f : Int} {tk : List Int} (h : ∀ q ∈ T, okind q.2 = 2 ∨ okind q.2 = 3 → q ∈ T') (hT : PortR prog w T pr dx D oD a b f tk) : PortR prog w T' pr dx D oD a b f tk := by
  obtain ⟨h1, ⟨g1, g2, g3, g4, t1, t2, t3, t4, u1, u2, u3, n, h2⟩, h3, h4, h5⟩ := hT
  exact ⟨h _ h1 (.inr rfl), ⟨g1, g2, g3, g4, t1, t2, t3, t4, u1, u2, u3, n, h _ h2 (.inl rfl)⟩, h _ h3 (.inl (kind_dict h5)), h4, h5⟩
/-- The state of _law_ports_right between its steps: six cells, the draws, the list of the taken, the Ports. -/
structure PS (prog : Program) (w : World) (news T : List (Addr × Obj)) (c src pr dx D tl : Addr) (a n f : Int) (tks : List Int) (pf : Int) (pts : List Int) (gv : Option Value) : Prop where
  c1 : ∃ o t, (c, o) ∈ T ∧ o.data = .cell (some (.int a t))
  c2 : ∃ o t, (c + 1, o) ∈ T ∧ o.data = .cell (some (.int n t))
  c3 : ∃ o, (c + 1 + 1, o) ∈ T ∧ o.data = .cell (some (.ref pr))
  c4 : ∃ o, (c + 1 + 1 + 1, o) ∈ T ∧ o.data = .cell (some (.ref tl))
  c5 : ∃ o t, (c + 1 + 1 + 1 + 1, o) ∈ T ∧ o.data = .cell (some (.int f t))
  c6 : ∃ o, (c + 1 + 1 + 1 + 1 + 1, o) ∈ T ∧ o.data = .cell gv
  pool : ∃ o, (src, o) ∈ T ∧ PoolO o
  lst : ∃ vs k, (tl, listOf vs.toArray k) ∈ T ∧ IntsAre vs tks
  port : ∃ oD, PortR prog w T pr dx D oD a (a + n - 1) pf pts
  ne : tl ≠ src
  sub : ∀ q ∈ news, q ∈ T
  nsrc : ∀ q ∈ news, q.1 ≠ src
  ap : ∀ q ∈ news, (@LT.lt Nat _ q.1 c ∨ @LT.lt Nat _ (c + 1 + 1 + 1 + 1 + 1) q.1) ∧ @Ne Nat q.1 dx ∧ @Ne Nat q.1 D
section
variable {prog : Program} {w : World} {news T T' : List (Addr × Obj)} {c src pr dx D tl : Addr} {a n f pf : Int} {tks pts : List Int} {gv : Option Value} {h₀ h : Heap} {L : Addr}
theorem PS.mono (hs : ∀ q ∈ T, q ∈ T') (H : PS prog w news T c src pr dx D tl a n f tks pf pts gv) : PS prog w news T' c src pr dx D tl a n f tks pf pts gv := by
  obtain ⟨⟨o1, t1, m1, d1⟩, ⟨o2, t2, m2, d2⟩, ⟨o3, m3, d3⟩, ⟨o4, m4, d4⟩, ⟨o5, t5, m5, d5⟩, ⟨o6, m6, d6⟩, ⟨o, mo, hP⟩, ⟨vs, k, ml, hi⟩, ⟨oD, hT⟩, ne, sub, nsrc, ap⟩ := H
  exact ⟨⟨o1, t1, hs _ m1, d1⟩, ⟨o2, t2, hs _ m2, d2⟩, ⟨o3, hs _ m3, d3⟩, ⟨o4, hs _ m4, d4⟩, ⟨o5, t5, hs _ m5, d5⟩, ⟨o6, hs _ m6, d6⟩, ⟨o, hs _ mo, hP⟩, ⟨vs, k, hs _ ml, hi⟩, ⟨oD, hT.mono hs⟩, ne, fun q hq => hs q (sub q hq), nsrc, ap⟩
theorem PS.src' {o o' : Obj} (N : News h₀ L h T) (hm : (src, o) ∈ T) (hP : PoolO o) (hP' : PoolO o') (H : PS prog w news T c src pr dx D tl a n f tks pf pts gv) : PS prog w news ((src, o') :: del src T) c src pr dx D tl a n f tks pf pts gv := by
  obtain ⟨⟨o1, t1, m1, d1⟩, ⟨o2, t2, m2, d2⟩, ⟨o3, m3, d3⟩, ⟨o4, m4, d4⟩, ⟨o5, t5, m5, d5⟩, ⟨o6, m6, d6⟩, _, ⟨vs, k, ml, hi⟩, ⟨oD, hT⟩, ne, sub, nsrc, ap⟩ := H
  have up : ∀ q ∈ T, okind q.2 ≠ 1 → q ∈ (src, o') :: del src T := fun q hq hk => List.mem_cons_of_mem _ (mem_del hq (kind_ne N hq hm (by rw [kind_pool hP]; exact hk)))
  have uc : ∀ {x : Addr} {ox : Obj} {v : Option Value}, (x, ox) ∈ T → ox.data = .cell v → (x, ox) ∈ (src, o') :: del src T := fun hq hd => up _ hq (by rw [show okind _ = 0 from kind_cell hd]; decide)
  exact ⟨⟨o1, t1, uc m1 d1, d1⟩, ⟨o2, t2, uc m2 d2, d2⟩, ⟨o3, uc m3 d3, d3⟩, ⟨o4, uc m4 d4, d4⟩, ⟨o5, t5, uc m5 d5, d5⟩, ⟨o6, uc m6 d6, d6⟩, ⟨o', List.mem_cons_self, hP'⟩, ⟨vs, k, List.mem_cons_of_mem _ (mem_del ml ne), hi⟩,
    ⟨oD, hT.kinds fun q hq hk => up q hq (by omega)⟩, ne, fun q hq => List.mem_cons_of_mem _ (mem_del (sub q hq) (nsrc q hq)), nsrc, ap⟩
/-- A cell is stored. -/
theorem PS.cell4 {o4 o' : Obj} {tl' : Addr} {vs' : List Value} {k' : Nat} {tks' : List Int} {v : Option Value} (N : News h₀ L h T) (hm : (c + 1 + 1 + 1, o4) ∈ T) (hd : o4.data = .cell v) (hd' : o'.data = .cell (some (.ref tl'))) (hl : (tl', listOf vs'.toArray k') ∈ T) (hi' : IntsAre vs' tks') (hne' : tl' ≠ src) (H : PS prog w news T c src pr dx D tl a n f tks pf pts gv) :
    PS prog w news ((c + 1 + 1 + 1, o') :: del (c + 1 + 1 + 1) T) c src pr dx D tl' a n f tks' pf pts gv := by
  obtain ⟨⟨o1, t1, m1, d1⟩, ⟨o2, t2, m2, d2⟩, ⟨o3, m3, d3⟩, _, ⟨o5, t5, m5, d5⟩, ⟨o6, m6, d6⟩, ⟨o, mo, hP⟩, _, ⟨oD, hT⟩, ne, sub, nsrc, ap⟩ := H
  have up : ∀ q ∈ T, okind q.2 ≠ 0 → q ∈ (c + 1 + 1 + 1, o') :: del (c + 1 + 1 + 1) T := fun q hq hk => List.mem_cons_of_mem _ (mem_del hq (kind_ne N hq hm (by rw [kind_cell hd]; exact hk)))
  have uc : ∀ {x : Addr} {ox : Obj}, (x, ox) ∈ T → @Ne Nat x (c + 1 + 1 + 1) → (x, ox) ∈ (c + 1 + 1 + 1, o') :: del (c + 1 + 1 + 1) T := fun hq hx => List.mem_cons_of_mem _ (mem_del hq hx)
  exact ⟨⟨o1, t1, uc m1 (by omega), d1⟩, ⟨o2, t2, uc m2 (by omega), d2⟩, ⟨o3, uc m3 (by omega), d3⟩, ⟨o', List.mem_cons_self, hd'⟩, ⟨o5, t5, uc m5 (by omega), d5⟩, ⟨o6, uc m6 (by omega), d6⟩, ⟨o, up _ mo (by rw [show okind _ = 1 from kind_pool hP]; decide), hP⟩, ⟨vs', k', up _ hl (by show (1 : Nat) ≠ 0; decide), hi'⟩,
    ⟨oD, hT.kinds fun q hq hk => up q hq (by omega)⟩, hne', fun q hq => uc (sub q hq) (by have := (ap q hq).1; omega), nsrc, ap⟩
theorem PS.cell5 {o5 o' : Obj} {f' : Int} {t' : Tok} {v : Option Value} (N : News h₀ L h T) (hm : (c + 1 + 1 + 1 + 1, o5) ∈ T) (hd : o5.data = .cell v) (hd' : o'.data = .cell (some (.int f' t'))) (H : PS prog w news T c src pr dx D tl a n f tks pf pts gv) :
    PS prog w news ((c + 1 + 1 + 1 + 1, o') :: del (c + 1 + 1 + 1 + 1) T) c src pr dx D tl a n f' tks pf pts gv := by
  obtain ⟨⟨o1, t1, m1, d1⟩, ⟨o2, t2, m2, d2⟩, ⟨o3, m3, d3⟩, ⟨o4, m4, d4⟩, _, ⟨o6, m6, d6⟩, ⟨o, mo, hP⟩, ⟨vs, k, ml, hi⟩, ⟨oD, hT⟩, ne, sub, nsrc, ap⟩ := H
  have up : ∀ q ∈ T, okind q.2 ≠ 0 → q ∈ (c + 1 + 1 + 1 + 1, o') :: del (c + 1 + 1 + 1 + 1) T := fun q hq hk => List.mem_cons_of_mem _ (mem_del hq (kind_ne N hq hm (by rw [kind_cell hd]; exact hk)))
  have uc : ∀ {x : Addr} {ox : Obj}, (x, ox) ∈ T → @Ne Nat x (c + 1 + 1 + 1 + 1) → (x, ox) ∈ (c + 1 + 1 + 1 + 1, o') :: del (c + 1 + 1 + 1 + 1) T := fun hq hx => List.mem_cons_of_mem _ (mem_del hq hx)
  exact ⟨⟨o1, t1, uc m1 (by omega), d1⟩, ⟨o2, t2, uc m2 (by omega), d2⟩, ⟨o3, uc m3 (by omega), d3⟩, ⟨o4, uc m4 (by omega), d4⟩, ⟨o', t', List.mem_cons_self, hd'⟩, ⟨o6, uc m6 (by omega), d6⟩, ⟨o, up _ mo (by rw [show okind _ = 1 from kind_pool hP]; decide), hP⟩, ⟨vs, k, up _ ml (by show (1 : Nat) ≠ 0; decide), hi⟩,
    ⟨oD, hT.kinds fun q hq hk => up q hq (by omega)⟩, ne, fun q hq => uc (sub q hq) (by have := (ap q hq).1; omega), nsrc, ap⟩
theorem PS.cell6 {o6 o' : Obj} {gv' : Option Value} {v : Option Value} (N : News h₀ L h T) (hm : (c + 1 + 1 + 1 + 1 + 1, o6) ∈ T) (hd : o6.data = .cell v) (hd' : o'.data = .cell gv') (H : PS prog w news T c src pr dx D tl a n f tks pf pts gv) :
    PS prog w news ((c + 1 + 1 + 1 + 1 + 1, o') :: del (c + 1 + 1 + 1 + 1 + 1) T) c src pr dx D tl a n f tks pf pts gv' := by
  obtain ⟨⟨o1, t1, m1, d1⟩, ⟨o2, t2, m2, d2⟩, ⟨o3, m3, d3⟩, ⟨o4, m4, d4⟩, ⟨o5, t5, m5, d5⟩, _, ⟨o, mo, hP⟩, ⟨vs, k, ml, hi⟩, ⟨oD, hT⟩, ne, sub, nsrc, ap⟩ := H
  have up : ∀ q ∈ T, okind q.2 ≠ 0 → q ∈ (c + 1 + 1 + 1 + 1 + 1, o') :: del (c + 1 + 1 + 1 + 1 + 1) T := fun q hq hk => List.mem_cons_of_mem _ (mem_del hq (kind_ne N hq hm (by rw [kind_cell hd]; exact hk)))
  have uc : ∀ {x : Addr} {ox : Obj}, (x, ox) ∈ T → @Ne Nat x (c + 1 + 1 + 1 + 1 + 1) → (x, ox) ∈ (c + 1 + 1 + 1 + 1 + 1, o') :: del (c + 1 + 1 + 1 + 1 + 1) T := fun hq hx => List.mem_cons_of_mem _ (mem_del hq hx)
  exact ⟨⟨o1, t1, uc m1 (by omega), d1⟩, ⟨o2, t2, uc m2 (by omega), d2⟩, ⟨o3, uc m3 (by omega), d3⟩, ⟨o4, uc m4 (by omega), d4⟩, ⟨o5, t5, uc m5 (by omega), d5⟩, ⟨o', List.mem_cons_self, hd'⟩, ⟨o, up _ mo (by rw [show okind _ = 1 from kind_pool hP]; decide), hP⟩, ⟨vs, k, up _ ml (by show (1 : Nat) ≠ 0; decide), hi⟩,
    ⟨oD, hT.kinds fun q hq hk => up q hq (by omega)⟩, ne, fun q hq => uc (sub q hq) (by have := (ap q hq).1; omega), nsrc, ap⟩
/-- The Ports turn: all that is no dict stays. -/
theorem PS.ports {oD' : Obj} {pf' : Int} {pts' : List Int} (hs : ∀ q ∈ T, okind q.2 ≠ 2 → q ∈ T') (hs2 : ∀ q ∈ T, q.1 ≠ dx → q.1 ≠ D → q ∈ T') (hT' : PortR prog w T' pr dx D oD' a (a + n - 1) pf' pts') (H : PS prog w news T c src pr dx D tl a n f tks pf pts gv) : PS prog w news T' c src pr dx D tl a n f tks pf' pts' gv := by
  obtain ⟨⟨o1, t1, m1, d1⟩, ⟨o2, t2, m2, d2⟩, ⟨o3, m3, d3⟩, ⟨o4, m4, d4⟩, ⟨o5, t5, m5, d5⟩, ⟨o6, m6, d6⟩, ⟨o, mo, hP⟩, ⟨vs, k, ml, hi⟩, _, ne, sub, nsrc, ap⟩ := H
  have uc : ∀ {x : Addr} {ox : Obj} {v : Option Value}, (x, ox) ∈ T → ox.data = .cell v → (x, ox) ∈ T' := fun hq hd => hs _ hq (by rw [show okind _ = 0 from kind_cell hd]; decide)
  refine ⟨⟨o1, t1, uc m1 d1, d1⟩, ⟨o2, t2, uc m2 d2, d2⟩, ⟨o3, uc m3 d3, d3⟩, ⟨o4, uc m4 d4, d4⟩, ⟨o5, t5, uc m5 d5, d5⟩, ⟨o6, uc m6 d6, d6⟩, ⟨o, hs _ mo (by rw [show okind _ = 1 from kind_pool hP]; decide), hP⟩, ⟨vs, k, hs _ ml (by show (1 : Nat) ≠ 2; decide), hi⟩, ⟨oD', hT'⟩, ne, fun q hq => hs2 q (sub q hq) (ap q hq).2.1 (ap q hq).2.2, nsrc, ap⟩
/-- Into a loop: what the loop holds is one more thing that stays. -/
theorem PS.into {I : Addr} {oI : Obj} (off : ∀ q ∈ T, q.1 ≠ I) (H : PS prog w news T c src pr dx D tl a n f tks pf pts gv) : PS prog w ((I, oI) :: news) ((I, oI) :: T) c src pr dx D tl a n f tks pf pts gv := by
  have H' := H.mono (T' := (I, oI) :: T) fun q hq => List.mem_cons_of_mem _ hq
  obtain ⟨⟨o1, t1, m1, d1⟩, ⟨o2, t2, m2, d2⟩, ⟨o3, m3, d3⟩, ⟨o4, m4, d4⟩, ⟨o5, t5, m5, d5⟩, ⟨o6, m6, d6⟩, ⟨o, mo, hP⟩, ⟨vs, k, ml, hi⟩, ⟨oD, hT⟩, ne, sub, nsrc, ap⟩ := H
  obtain ⟨g1, g2, g3, g4, t1, t2, t3, t4, u1, u2, u3, n1, hdx⟩ := hT.dic
  have x1 : @Ne Nat c I := off _ m1
  have x2 : @Ne Nat (c + 1) I := off _ m2
  have x3 : @Ne Nat (c + 1 + 1) I := off _ m3
  have x4 : @Ne Nat (c + 1 + 1 + 1) I := off _ m4
  have x5 : @Ne Nat (c + 1 + 1 + 1 + 1) I := off _ m5
  have x6 : @Ne Nat (c + 1 + 1 + 1 + 1 + 1) I := off _ m6
  refine ⟨H'.c1, H'.c2, H'.c3, H'.c4, H'.c5, H'.c6, H'.pool, H'.lst, H'.port, H'.ne, ?_, ?_, ?_⟩
  · intro q hq
    rcases List.mem_cons.mp hq with rfl | hq
    · exact List.mem_cons_self
    · exact List.mem_cons_of_mem _ (sub q hq)
  · intro q hq
    rcases List.mem_cons.mp hq with rfl | hq
    · exact Ne.symm (off _ mo)
    · exact nsrc q hq
  · intro q hq
    rcases List.mem_cons.mp hq with rfl | hq
    · refine ⟨?_, Ne.symm (off _ hdx), Ne.symm (off _ hT.mem)⟩
      show @LT.lt Nat _ I c ∨ @LT.lt Nat _ (c + 1 + 1 + 1 + 1 + 1) I
      omega
    · exact ap q hq
/-- Out of a loop's turn. -/
theorem PS.out {I : Addr} {oI : Obj} {xs : Array Value} (N : News h₀ L h T) (hfl : oI.data = .fields xs) (hI : ∀ q ∈ news, q.1 ≠ I) (H : PS prog w ((I, oI) :: news) T c src pr dx D tl a n f tks pf pts gv) : PS prog w news (del I T) c src pr dx D tl a n f tks pf pts gv ∧ (I, oI) ∈ T := by
  obtain ⟨⟨o1, t1, m1, d1⟩, ⟨o2, t2, m2, d2⟩, ⟨o3, m3, d3⟩, ⟨o4, m4, d4⟩, ⟨o5, t5, m5, d5⟩, ⟨o6, m6, d6⟩, ⟨o, mo, hP⟩, ⟨vs, k, ml, hi⟩, ⟨oD, hT⟩, ne, sub, nsrc, ap⟩ := H
  have hm := sub _ List.mem_cons_self
  have hk : okind oI = 4 := by unfold okind; rw [hfl]
  have up : ∀ {x : Addr} {ox : Obj} {j : Nat}, (x, ox) ∈ T → okind ox = j → j < 4 → (x, ox) ∈ del I T := fun hq hj hlt => mem_del hq (kind_ne N hq hm (by rw [hk, hj]; omega))
  refine ⟨⟨⟨o1, t1, up m1 (kind_cell d1) (by decide), d1⟩, ⟨o2, t2, up m2 (kind_cell d2) (by decide), d2⟩, ⟨o3, up m3 (kind_cell d3) (by decide), d3⟩, ⟨o4, up m4 (kind_cell d4) (by decide), d4⟩, ⟨o5, t5, up m5 (kind_cell d5) (by decide), d5⟩, ⟨o6, up m6 (kind_cell d6) (by decide), d6⟩, ⟨o, up mo (kind_pool hP) (by decide), hP⟩, ⟨vs, k, up ml (show okind (listOf _ _) = 1 from rfl) (by decide), hi⟩,
    ⟨oD, hT.kinds fun q hq hk' => up (j := okind q.2) hq rfl (by omega)⟩, ne, fun q hq => mem_del (sub q (List.mem_cons_of_mem _ hq)) (hI q hq), fun q hq => nsrc q (List.mem_cons_of_mem _ hq), fun q hq => ap q (List.mem_cons_of_mem _ hq)⟩, hm⟩
end
section
variable {prog : Program} {w : World} {p : Program} {loose : List Str} {mean : ExcName → Option Value} {mg mb : Str → Option Value}
  {dp un : Nat} {gd : Option (List Code)} {cn : Str} {cs : Scope} {fa : Addr} {ccd : Value} {cl : List (Str × Addr)} {outer : List Env} {A₀ : Around} {base h₀ : Heap} {L : Addr} {m : Str → Option Value} {s : Shared} {Q E : Value → Shared → Prop}
  {news T : List (Addr × Obj)} {c src pr dx D tl : Addr} {a n f pf : Int} {tks pts : List Int} {gv : Option Value}
theorem ps_take (C : Cx w p loose mean mg mb A₀ base h₀ outer L s.heap m T) (R : Rm cs dp un 1) (H : PS prog w news T c src pr dx D tl a n f tks pf pts gv) {top : Int} {tt : Tok} (htop : 0 < top) (ht2 : top < 1000000)
  (hret : ∀ d t T' h' tk', 0 ≤ d → d < top → PS prog w news T' c src pr dx D tl a n f tks pf pts gv → Fr h₀ L h' m → News h₀ L h' T' → Q (.int d t) { s with heap := h', toks := tk' }) :
  wpAny (model prog w) (ktrTop dp un gd cn cs L fa ccd cl outer) (call (.ref 317) [.ref src, .int top tt]) Q E s := by
  refine' elimG ?h9y1 ?k9y1
  case h9y1 =>
    intro G9 k9
    obtain ⟨o, hm, hP⟩ := H.pool
    revert hP
    revert hm
    revert o
    exact k9
  intro o hm hP
  obtain ⟨B, F, X, N, Tp⟩ := C
  exact take_spec updF_del hP ⟨B, F, X, news_del N hm, Tp⟩ R htop ht2 fun d t o' h' tk' h0 h1 hP' F' N' => hret d t _ h' tk' h0 h1 (H.src' N hm hP hP') F' N'
theorem ps_one (C : Cx w p loose mean mg mb A₀ base h₀ outer L s.heap m T) (R : Rm cs dp un 2) (H : PS prog w news T c src pr dx D tl a n f tks pf pts gv) (hl0 : 0 < tks.length) (hl : tks.length < 1000)
  (hret : ∀ k t T' h' tk', k ∈ tks → PS prog w news T' c src pr dx D tl a n f tks pf pts gv → Fr h₀ L h' m → News h₀ L h' T' → Q (.int k t) { s with heap := h', toks := tk' }) :
  wpAny (model prog w) (ktrTop dp un gd cn cs L fa ccd cl outer) (call (.ref 324) [.ref src, .ref tl]) Q E s := by
  refine' elimG ?h9y1 ?k9y1
  case h9y1 =>
    intro G9 k9
    obtain ⟨o, hm, hP⟩ := H.pool
    revert hP
    revert hm
    revert o
    exact k9
  intro o hm hP
  refine' elimG ?h9y2 ?k9y2
  case h9y2 =>
    intro G9 k9
    obtain ⟨vs, k, ml, hi⟩ := H.lst
    revert hi
    revert ml
    revert k
    revert vs
    exact k9
  intro vs k ml hi
  obtain ⟨B, F, X, N, Tp⟩ := C
  exact one_spec updF_del hP ⟨B, F, X, news_del N hm, Tp⟩ R (fun o' => List.mem_cons_of_mem _ (mem_del ml H.ne)) hi hl0 (by omega) fun k t o' h' tk' hk hP' F' N' => hret k t _ h' tk' hk (H.src' N hm hP hP') F' N'
theorem ps_free {x : Int} {tx : Tok} (C : Cx w p loose mean mg mb A₀ base h₀ outer L s.heap m T) (R : Rm cs dp un 2) (H : PS prog w news T c src pr dx D tl a n f tks pf pts gv) (hx : x ∈ pts) (hl : pts.length < 100)
  (hret : ∀ T' h' tk', PS prog w news T' c src pr dx D tl a n f tks pf (pts.filter fun k => decide (k ≠ x)) gv → Fr h₀ L h' m → News h₀ L h' T' → Q .none { s with heap := h', toks := tk' }) :
  wpAny (model prog w) (ktrTop dp un gd cn cs L fa ccd cl outer) (call (.ref 230) [.ref pr, .int x tx]) Q E s := by
  refine' elimG ?h9y1 ?k9y1
  case h9y1 =>
    intro G9 k9
    obtain ⟨oD, hT⟩ := H.port
    revert hT
    revert oD
    exact k9
  intro oD hT
  have N := C.N
  refine free_spec C R hT hx hl fun oD' h' tk' hT' F' N' => hret _ h' tk' (H.ports (fun q hq hk => List.mem_cons_of_mem _ (mem_del hq (kind_ne N hq hT.mem (by rw [kind_dict hT.is]; exact hk)))) (fun q hq _ hD => List.mem_cons_of_mem _ (mem_del hq hD)) hT') F' N'
theorem ps_tk (C : Cx w p loose mean mg mb A₀ base h₀ outer L s.heap m T) (R : Rm cs dp un 5) (H : PS prog w news T c src pr dx D tl a n f tks pf pts gv) (ha : 0 ≤ a) (hn : 0 < n) (hb : a + n < 70000) (hl : pts.length < 100)
  (hret : ∀ x t T' h' tk', nextF a (a + n - 1) pts n.toNat pf = some x → (∀ q ∈ T, okind q.2 ≠ 2 → q ∈ T') → PS prog w news T' c src pr dx D tl a n f tks (beh a (a + n - 1) x) (pts ++ [x]) gv → Fr h₀ L h' m → News h₀ L h' T' → Q (.int x t) { s with heap := h', toks := tk' })
  (hexc : nextF a (a + n - 1) pts n.toNat pf = none → Exc base h₀ L m (envX cn cs L fa ccd cl :: outer) 68 T s E) :
  wpAny (model prog w) (ktrTop dp un gd cn cs L fa ccd cl outer) (call (.ref 209) [.ref pr]) Q E s := by
  refine' elimG ?h9y1 ?k9y1
  case h9y1 =>
    intro G9 k9
    obtain ⟨oD, hT⟩ := H.port
    revert hT
    revert oD
    exact k9
  intro oD hT
  have N := C.N
  have e : a + n - 1 - a + 1 = n := by omega
  refine take0_spec C R hT ha (by omega) (by omega) hl ?_ (fun h => hexc (by rw [e] at h; exact h))
  rintro x t T' oD' h' tk' hx ⟨o', rfl⟩ hT' F' N'
  rw [e] at hx
  refine' elimG ?h9y2 ?k9y2
  case h9y2 =>
    intro G9 k9
    obtain ⟨g1, g2, g3, g4, t1, t2, t3, t4, u1, u2, u3, n1, hdx⟩ := hT.dic
    revert hdx
    revert n1
    revert u3
    revert u2
    revert u1
    revert t4
    revert t3
    revert t2
    revert t1
    revert g4
    revert g3
    revert g2
    revert g1
    exact k9
  intro g1 g2 g3 g4 t1 t2 t3 t4 u1 u2 u3 n1 hdx
  have k1 : ∀ q ∈ T, okind q.2 ≠ 2 → q.1 ≠ dx ∧ q.1 ≠ D := fun q hq hk => ⟨kind_ne N hq hdx hk, kind_ne N hq hT.mem (by rw [kind_dict hT.is]; exact hk)⟩
  have k2 : ∀ q ∈ T, q.1 ≠ dx → q.1 ≠ D → q ∈ (D, oD') :: del D ((dx, o') :: del dx T) := fun q hq h1 h2 => List.mem_cons_of_mem _ (mem_del (List.mem_cons_of_mem _ (mem_del hq h1)) h2)
  have k3 : ∀ q ∈ T, okind q.2 ≠ 2 → q ∈ (D, oD') :: del D ((dx, o') :: del dx T) := fun q hq hk => k2 q hq (k1 q hq hk).1 (k1 q hq hk).2
  exact hret x t _ h' tk' hx k3 (H.ports k3 k2 hT') F' N'
end
section
variable {prog : Program} {w : World} {M : Model} {A : Around} {E : Value → Shared → Prop} {s : Shared} {h₀ : Heap} {L fa : Addr} {m : Str → Option Value} {cn : Str} {cs : Scope} {ccd : Value} {cl : List (Str × Addr)}
  {x : Str} {Q : Unit → Shared → Prop} {news T : List (Addr × Obj)} {c src pr dx D tl : Addr} {a n f pf : Int} {tks pts : List Int} {gv : Option Value}
theorem ps_store4 {tl' : Addr} {vs' : List Value} {k' : Nat} {tks' : List Int} (F : Fr h₀ L s.heap m) (N : News h₀ L s.heap T) (H : PS prog w news T c src pr dx D tl a n f tks pf pts gv) (hl : (tl', listOf vs'.toArray k') ∈ T) (hi' : IntsAre vs' tks') (hne' : tl' ≠ src) (hc : cl.lookup x = some (c + 1 + 1 + 1))
    (h : ∀ T' h', (∀ q ∈ T, okind q.2 ≠ 0 → q ∈ T') → PS prog w news T' c src pr dx D tl' a n f tks' pf pts gv → Fr h₀ L h' m → News h₀ L h' T' → Q () { s with heap := h' })
    (hk : cs.kind = .function := by rfl) (hx : (envX cn cs L fa ccd cl).kindOf x = some .cell := by rfl) : wpAny M A (storeName (envX cn cs L fa ccd cl) x (.ref tl')) Q E s := by
  obtain ⟨o4, hm, hd⟩ := H.c4
  refine storeX_C F (news_del N hm) hc updF_del hd (fun h' o' F' N' hd' => h _ h' (fun q hq hk => List.mem_cons_of_mem _ (mem_del hq (kind_ne N hq hm (by rw [kind_cell hd]; exact hk)))) (H.cell4 N hm hd hd' hl hi' hne') F' N') hk hx
theorem ps_store5 {f' : Int} {t' : Tok} (F : Fr h₀ L s.heap m) (N : News h₀ L s.heap T) (H : PS prog w news T c src pr dx D tl a n f tks pf pts gv) (hc : cl.lookup x = some (c + 1 + 1 + 1 + 1))
    (h : ∀ T' h', (∀ q ∈ T, okind q.2 ≠ 0 → q ∈ T') → PS prog w news T' c src pr dx D tl a n f' tks pf pts gv → Fr h₀ L h' m → News h₀ L h' T' → Q () { s with heap := h' })
    (hk : cs.kind = .function := by rfl) (hx : (envX cn cs L fa ccd cl).kindOf x = some .cell := by rfl) : wpAny M A (storeName (envX cn cs L fa ccd cl) x (.int f' t')) Q E s := by
  obtain ⟨o5, t, hm, hd⟩ := H.c5
  refine storeX_C F (news_del N hm) hc updF_del hd (fun h' o' F' N' hd' => h _ h' (fun q hq hk => List.mem_cons_of_mem _ (mem_del hq (kind_ne N hq hm (by rw [kind_cell hd]; exact hk)))) (H.cell5 N hm hd hd') F' N') hk hx
theorem ps_store6 {v : Value} (F : Fr h₀ L s.heap m) (N : News h₀ L s.heap T) (H : PS prog w news T c src pr dx D tl a n f tks pf pts gv) (hc : cl.lookup x = some (c + 1 + 1 + 1 + 1 + 1))
    (h : ∀ T' h', (∀ q ∈ T, okind q.2 ≠ 0 → q ∈ T') → PS prog w news T' c src pr dx D tl a n f tks pf pts (some v) → Fr h₀ L h' m → News h₀ L h' T' → Q () { s with heap := h' })
    (hk : cs.kind = .function := by rfl) (hx : (envX cn cs L fa ccd cl).kindOf x = some .cell := by rfl) : wpAny M A (storeName (envX cn cs L fa ccd cl) x v) Q E s := by
  obtain ⟨o6, hm, hd⟩ := H.c6
  refine storeX_C F (news_del N hm) hc updF_del hd (fun h' o' F' N' hd' => h _ h' (fun q hq hk => List.mem_cons_of_mem _ (mem_del hq (kind_ne N hq hm (by rw [kind_cell hd]; exact hk)))) (H.cell6 N hm hd hd') F' N') hk hx
end
/-- The numbers from f on, round about. -/
def roundF (a n f : Int) : List Int := (List.range n.toNat).map fun (k : Nat) => a + (f - a + (k : Int)) % n
theorem next_round {a n : Int} {tk : List Int} (hn : 0 < n) : ∀ (k : Nat) (x : Int), a ≤ x → x < a + n → nextF a (a + n - 1) tk k x = ((List.range k).map fun j => a + (x - a + ((j : Nat) : Int)) % n).find? fun y => decide (y ∉ tk)
  | 0, _, _, _ => rfl
  | k + 1, x, h0, h1 => by
    have e0 : a + (x - a + ((0 : Nat) : Int)) % n = x := by rw [Int.emod_eq_of_lt (by omega) (by omega)]; omega
    have eb : a ≤ beh a (a + n - 1) x ∧ beh a (a + n - 1) x < a + n := by unfold beh; split <;> omega
    have es : ∀ j : Nat, a + (x - a + ((j + 1 : Nat) : Int)) % n = a + (beh a (a + n - 1) x - a + (j : Int)) % n := by
      intro j
      unfold beh
      split
      · rename_i hx
        rw [show x - a + ((j + 1 : Nat) : Int) = (a - a + (j : Int)) + n by omega, Int.add_emod_right]
      · rw [show x - a + ((j + 1 : Nat) : Int) = x + 1 - a + (j : Int) by omega]
    rw [List.range_succ_eq_map, List.map_cons, List.map_map, List.find?_cons, e0]
    unfold nextF
    by_cases hx : x ∈ tk
    · rw [if_pos hx, decide_eq_false (by simpa using hx)]
      have ih := next_round (tk := tk) hn k (beh a (a + n - 1) x) eb.1 eb.2
      rw [ih]
      congr 1
      refine List.map_congr_left fun j _ => ?_
      exact (es j).symm
    · rw [if_neg hx, decide_eq_true hx]
theorem next_head {a n f : Int} {tk : List Int} (hn : 0 < n) (h0 : a ≤ f) (h1 : f < a + n) : nextF a (a + n - 1) tk n.toNat f = ((roundF a n f).filter fun y => decide (y ∉ tk)).head? := by
  rw [next_round hn _ _ h0 h1, List.head?_filter]
  rfl
theorem round_in {a n f y : Int} (hn : 0 < n) (h : y ∈ roundF a n f) : a ≤ y ∧ y < a + n := by
  obtain ⟨k, _, rfl⟩ := List.mem_map.mp h
  have h1 := Int.emod_nonneg (f - a + (k : Int)) (b := n) (by omega)
  have h2 := Int.emod_lt_of_pos (f - a + (k : Int)) hn
  omega
theorem beh_mod {a n x : Int} (hn : 0 < n) (h0 : a ≤ x) (h1 : x < a + n) : a + (x - a + 1) % n = beh a (a + n - 1) x := by
  unfold beh
  split
  · rename_i hx
    rw [show x - a + 1 = n by omega, Int.emod_self]; omega
  · rw [Int.emod_eq_of_lt (by omega) (by omega)]; omega
theorem beh_in {a n x : Int} (hn : 0 < n) (h0 : a ≤ x) (h1 : x < a + n) : a ≤ beh a (a + n - 1) x ∧ beh a (a + n - 1) x < a + n := by unfold beh; split <;> omega
section
variable {prog : Program} {w : World} {A : Around} {E : Value → Shared → Prop} {s : Shared} {h₀ : Heap} {L l b : Addr} {news : List (Addr × Obj)} {n k : Nat} {Q : Value → Shared → Prop} {vs : List Value} {ns : List Int} {x : Int} {t : Tok}
theorem any_ints (ns : List Int) (x : Int) : (ns.map PyData.int).any (fun y => PyData.eqv y (.int x)) = decide (x ∈ ns) := by
  rw [Bool.eq_iff_iff, List.any_eq_true, decide_eq_true_eq]
  constructor
  · rintro ⟨y, hy, e⟩
    obtain ⟨k, hk, rfl⟩ := List.mem_map.mp hy
    have : k = x := by simpa [PyData.eqv] using e
    exact this ▸ hk
  · intro h
    exact ⟨.int x, List.mem_map.mpr ⟨x, h, rfl⟩, by simp [PyData.eqv]⟩
theorem m_inInts (N : News h₀ L s.heap news) (hl : (l, listOf vs.toArray n) ∈ news) (hi : IntsAre vs ns) (hu : A.units + 64 < cLine) (h : Q (.bool (decide (x ∈ ns))) s) : wpAny (model prog w) A (compareOp .In (.int x t) (.ref l)) Q E s :=
  SeqAt.in_list_reads (reads_newData ⟨_, (N _ hl).1, rfl, n, rfl⟩ (ke_carried hi)) (.int x t) (ke_canLayAll0 ns) rfl (by rw [ke_depthAll]; simp [PyData.depth]; omega) (by rw [any_ints]; exact h)
theorem m_notinInts (N : News h₀ L s.heap news) (hl : (l, listOf vs.toArray n) ∈ news) (hi : IntsAre vs ns) (hu : A.units + 64 < cLine) (h : Q (.bool (decide (x ∉ ns))) s) : wpAny (model prog w) A (compareOp .NotIn (.int x t) (.ref l)) Q E s :=
  SeqAt.notIn_list_reads (reads_newData ⟨_, (N _ hl).1, rfl, n, rfl⟩ (ke_carried hi)) (.int x t) (ke_canLayAll0 ns) rfl (by rw [ke_depthAll]; simp [PyData.depth]; omega) (by rw [any_ints, ← decide_not]; exact h)
theorem m_neInts {ws : List Value} {ms : List Int} (N : News h₀ L s.heap news) (hl : (l, listOf vs.toArray n) ∈ news) (hb : (b, listOf ws.toArray k) ∈ news) (hi : IntsAre vs ns) (hj : IntsAre ws ms) (hu : A.units + 64 < cLine) (h : Q (.bool (!decide (ns = ms))) s) :
    wpAny (model prog w) A (compareOp .NotEq (.ref l) (.ref b)) Q E s := ke_ne_ints ⟨_, (N _ hl).1, rfl, n, rfl⟩ ⟨_, (N _ hb).1, rfl, k, rfl⟩ hi hj hu h
end
--M<
--M>
--M<
--M>
/-- The ground of a frame, as it may have turned since g₀. -/
structure Gd (w : World) (p : Program) (loose : List Str) (mean : ExcName → Option Value) (mg mb : Str → Option Value) (A₀ : Around) (base g₀ g : Heap) (outer : List Env) : Prop where
  B : Below A₀ base outer g
  X : (hd.heap_1 w.params).In g
  T : Top p loose mean mg mb g
  D : KtsDicts (outer.filterMap (·.frame)) g
  K : KtsTurn (outer.filterMap (·.frame)) g₀ g
theorem ints_cons {ys : List Value} {k : Int} {ks : List Int} (h : IntsAre ys (k :: ks)) : ∃ t ys', ys = .int k t :: ys' ∧ IntsAre ys' ks := by
  cases h with
  | cons _ t r => exact ⟨t, _, rfl, r⟩
theorem ints_nil {ys : List Value} (h : IntsAre ys []) : ys = [] := by cases h; rfl
section
local macro_rules | `(tactic| walk_at "storeName") => `(tactic| ((with_reducible show wpAny _ _ (storeName (envOfC _ _ _ _ _) (PySem.Str.ofString "gone") _) _ _ _); refine stop_mk ?_))
variable {prog : Program} {w : World} {p : Program} {loose : List Str} {mean : ExcName → Option Value} {mg mb : Str → Option Value}
  {dp un : Nat} {gd : Option (List Code)} {cn : Str} {cs : Scope} {fa : Addr} {ccd : Value} {A₀ : Around} {base g g₀ h₀ : Heap} {L L' : Addr} {m : Str → Option Value} {s : Shared} {E : Value → Shared → Prop} {Q : Flow → Shared → Prop}
  {news T : List (Addr × Obj)} {name qual : Str} {params : Arguments} {body : List Stmt} {scope : Scope} {dV kV doc pm cdv ct oc : Value} {an od : Option Addr} {osl : Array (Option Value)}
  {src pr dx Dd tl : Addr} {a n f : Int} {tks : List Int} {gv : Option Value}
set_option maxHeartbeats 4000000 in
theorem ports_else {tgt it tst : PySem.Expr} {bd els thn els2 : List Stmt} {pos pos2 : Pos} (ho : (hd.heap_1 w.params).lookup 388 = some ⟨oc, od, .func (fnOf name qual params body scope dV kV doc pm an cdv ct), osl⟩)
  (hb3 : body[3]? = some (.For tgt it bd els pos)) (hb0 : bd[0]? = some (.If tst thn els2 pos2))
  (G : Gd w p loose mean mg mb (ktrTop dp un gd cn cs L fa ccd [] []) base g₀ g [envX cn cs L fa ccd []]) (F : Fr g L' s.heap m) (N : News g L' s.heap T) (R : Rm cs dp un 8) (XB : (hd.heap_1 w.params).In base) (TB : Top p loose mean mg mb base)
  (H : PS prog w news T (L' + 1) src pr dx Dd tl a n f tks f tks gv) (ha : 100 ≤ a) (ha2 : a < 200) (hn : 0 < n) (hn2 : n ≤ 5) (hf : a ≤ f ∧ f < a + n) (hl : tks.length < 50)
  (hE : ∀ e, PassesOwnAt (model prog w) (((ktrTop dp un gd cn cs L fa ccd [] []).deeper (envOfC qual scope L' 388 cdv)).mark (some (.ref e))) ((ktrTop dp un gd cn cs L fa ccd [] []).deeper (envOfC qual scope L' 388 cdv)) (envOfC qual scope L' 388 cdv) E)
  (hnext : ∀ g' h' tk' m' T' tl' f' x, Gd w p loose mean mg mb (ktrTop dp un gd cn cs L fa ccd [] []) base g₀ g' [envX cn cs L fa ccd []] → Keep [Str.ofString "turn", Str.ofString "due", Str.ofString "told"] m m' → (a ≤ f' ∧ f' < a + n) → (∀ k ∈ x, a ≤ k ∧ k < a + n) → x.length ≤ 1 → PS prog w news T' (L' + 1) src pr dx Dd tl' a n f' (tks ++ x) f' (tks ++ x) gv → Fr g' L' h' m' → News g' L' h' T' → Q .next { s with heap := h', toks := tk' }) :
  wpAny (model prog w) ((ktrTop dp un gd cn cs L fa ccd [] []).deeper (envOfC qual scope L' 388 cdv)) (execs els2 (envOfC qual scope L' 388 cdv)) Q E s := by
  have e := lookup_same ho (by k_is)
  cases e
  injection (show some (PySem.Stmt.For _ _ _ _ _) = some (PySem.Stmt.For _ _ _ _ _) from hb3) with e3
  injection e3 with e31 e32 e33 e34 e35
  subst e33
  injection (show some (PySem.Stmt.If _ _ _ _) = some (PySem.Stmt.If _ _ _ _) from hb0) with e0
  injection e0 with e01 e02 e03 e04
  subst e03
  clear e31 e32 e34 e35 e01 e02 e04
  have hRd := R.hd
  have hRu := R.hu
  refine' elimG ?h9y1 ?k9y1
  case h9y1 =>
    intro G9 k9
    obtain ⟨B, X, Tp, Dt, K0⟩ := id G
    revert K0
    revert Dt
    revert Tp
    revert X
    revert B
    exact k9
  intro B X Tp Dt K0
  try clear G
  refine' elimG ?h9y2 ?k9y2
  case h9y2 =>
    intro G9 k9
    obtain ⟨⟨o1, t1, m1, d1⟩, ⟨o2, t2, m2, d2⟩, ⟨o3, m3, d3⟩, ⟨o4, m4, d4⟩, ⟨o5, t5, m5, d5⟩, ⟨o6, m6, d6⟩, ⟨o, mo, hP⟩, ⟨vs, k, ml, hi⟩, ⟨oD, hT⟩, ne, sub, nsrc, ap⟩ := id H
    revert ap
    revert nsrc
    revert sub
    revert ne
    revert hT
    revert oD
    revert hi
    revert ml
    revert k
    revert vs
    revert hP
    revert mo
    revert o
    revert d6
    revert m6
    revert o6
    revert d5
    revert m5
    revert t5
    revert o5
    revert d4
    revert m4
    revert o4
    revert d3
    revert m3
    revert o3
    revert d2
    revert m2
    revert t2
    revert o2
    revert d1
    revert m1
    revert t1
    revert o1
    exact k9
  intro o1 t1 m1 d1 o2 t2 m2 d2 o3 m3 d3 o4 m4 d4 o5 t5 m5 d5 o6 m6 d6 o mo hP vs k ml hi oD hT ne sub nsrc ap
  refine' elimG ?h9y3 ?k9y3
  case h9y3 =>
    intro G9 k9
    obtain ⟨q1, ⟨g1, g2, g3, g4, u1, u2, u3, u4, v1, v2, v3, nn, q2⟩, q3, q4, q5⟩ := id hT
    revert q5
    revert q4
    revert q3
    revert q2
    revert nn
    revert v3
    revert v2
    revert v1
    revert u4
    revert u3
    revert u2
    revert u1
    revert g4
    revert g3
    revert g2
    revert g1
    revert q1
    exact k9
  intro q1 g1 g2 g3 g4 u1 u2 u3 u4 v1 v2 v3 nn q2 q3 q4 q5
  (repeat' (first | (k_unfold; (try dsimp only)) | (k_end; wrow_close) | (with_reducible ((with_reducible show wpAny _ _ (storeName (envOfC _ _ _ _ _) (PySem.Str.ofString "following") _) _ _ _); refine stop_mk ?_)) | (with_reducible ((with_reducible show wpAny _ _ (storeName (envOfC _ _ _ _ _) (PySem.Str.ofString "taken") _) _ _ _); refine stop_mk ?_)) | ((with_reducible show wpAny _ _ (noteFrame _ _) _ _ _); with_reducible (k_here; (rename RaisedS _ _ _ _ _ _ _ _ _ => rsX); k_dflt (refine' caughtX (hE := ?hE) rsX ?F ?K ?U ?XB ?TB ?D ?T0 ?ex ?q ?_; (case hE => first | passes_own | (rename ∀ e, PassesOwnAt _ _ _ _ _ => hE9; exact hE9 _)); (case F => assumption); (case K => assumption); (case U => assumption); (case XB => assumption); (case TB => assumption); (case D => assumption); (case T0 => assumption); (case ex => k_is); (case q => exact (exc68 _).kts); k_whole); intro kyh' kyg' kyT' kyF' kyN' kyK' kyX' kyP' kyD'; (try dsimp only); (try k_fold))) | (with_reducible ((with_reducible show wpAny _ _ (exec (PySem.Stmt.Try _ (_ :: _) _ [] _) (envOfC _ _ _ _ _)) _ _ _); refine wpAny_Try_except ?_)) | ((with_reducible show wpAny _ _ (compareOp PySem.CmpOp.NotEq (Value.ref _) (Value.ref _)) _ _ _); with_reducible (k_here; k_dflt (refine' m_neInts ?k1 ?k2 ?k3 ?k4 ?k5 ?k6 ?_; (case k1 => k_asm); (case k2 => k_mem); (case k3 => k_mem); (case k4 => l_ints); (case k5 => first | exact IntsAre.nil | l_ints); (case k6 => walk_at "un9")))) | ((with_reducible show wpAny _ _ (compareOp PySem.CmpOp.NotIn (Value.int _ _) (Value.ref _)) _ _ _); with_reducible (k_here; k_dflt (refine' m_notinInts ?k1 ?k2 ?k3 ?k4 ?_; (case k1 => k_asm); (case k2 => k_mem); (case k3 => l_ints); (case k4 => walk_at "un9")))) | (with_reducible (k_here; (with_reducible show wpAny _ _ (binaryOp Operator.Add (Value.ref _) (Value.ref _)) _ _ _); k_dflt (refine' m_addInts ?k1 ?k2 ?k3 ?k4 ?k5 ?k6 ?k7 ?_; (case k1 => k_asm); (case k2 => k_asm); (case k3 => k_mem); (case k4 => k_mem); (case k5 => l_ints); (case k6 => l_ints); (case k7 => ((simp only [rangeKs_length, List.length_cons, List.length_nil]); omega))); intro kyl' kyh' kyus' kyF' kyN' kyl1 kyhI'; (try k_lt kyl1); (try k_fold))) | ((with_reducible show wpAny _ _ (exec (PySem.Stmt.Assign [_] (PySem.Expr.ListComp _ _ _) _) _) _ _ _); with_reducible (k_here; (fail_if_success lct_look); k_dflt (refine' LCg.Assign_ListComp_U (F₀ := ?f0) ?a ?b ?c ?d ?e ?f ?g ?h ?i ?_; (case f0 => k_asm); (case a => rfl); (case b => with_unfolding_all rfl); (case c => with_unfolding_all rfl); (case d => decide); (case e => rfl); (case f => decide); (case g => rfl); (case h => rfl); (case i => rfl)))) | (with_reducible ((with_reducible show wpAny _ _ (subscriptTail _ _ (Value.ref _) (Value.int _ _)) _ _ _); k_dflt (refine' m_item ?k1 ?k2 ?k3 ?k4 ?k5 ?_; (case k1 => k_asm); (case k2 => k_mem); (case k3 => decide); (case k4 => decide); (case k5 => rfl)); (try dsimp only))) | ((with_reducible show wpAny _ _ (exec (PySem.Stmt.Assign [_] (PySem.Expr.ListComp _ _ _) _) _) _ _ _); with_reducible (k_here; lct_look; k_dflt (refine' LCt.Assign_ListComp_T (F₀ := ?f0) ?a ?b ?c ?d ?e ?f ?g ?h ?i ?_; (case f0 => k_asm); (case a => rfl); (case b => with_unfolding_all rfl); (case c => with_unfolding_all rfl); (case d => decide);  (case e => rfl); (case f => decide); (case g => rfl); (case h => rfl); (case i => rfl)))) | ((with_reducible show wpAny _ _ (binaryOp PySem.Operator.Mod (Value.int _ _) (Value.int _ _)) _ _ _); with_reducible (with_reducible refine m_mod ?hb9 ?_; (case hb9 => omega))) | walk1 | (dsimp only; walk1) | (leave1; try dsimp only)))
  unfold Stop
  refine map_ints (fun i => a + (f - a + (0 + ((i : Nat) : Int))) % n) trivial ?_ ?_
  · rintro i v ys I oI C oC D m₂ h tk E' hi9 ⟨t, rfl⟩ hC hx F N
    (try k_fold)
    (repeat' (first | (k_unfold; (try dsimp only)) | (k_end; wrow_close) | (with_reducible ((with_reducible show wpAny _ _ (storeName (envOfC _ _ _ _ _) (PySem.Str.ofString "following") _) _ _ _); refine stop_mk ?_)) | (with_reducible ((with_reducible show wpAny _ _ (storeName (envOfC _ _ _ _ _) (PySem.Str.ofString "taken") _) _ _ _); refine stop_mk ?_)) | ((with_reducible show wpAny _ _ (noteFrame _ _) _ _ _); with_reducible (k_here; (rename RaisedS _ _ _ _ _ _ _ _ _ => rsX); k_dflt (refine' caughtX (hE := ?hE) rsX ?F ?K ?U ?XB ?TB ?D ?T0 ?ex ?q ?_; (case hE => first | passes_own | (rename ∀ e, PassesOwnAt _ _ _ _ _ => hE9; exact hE9 _)); (case F => assumption); (case K => assumption); (case U => assumption); (case XB => assumption); (case TB => assumption); (case D => assumption); (case T0 => assumption); (case ex => k_is); (case q => exact (exc68 _).kts); k_whole); intro kyh' kyg' kyT' kyF' kyN' kyK' kyX' kyP' kyD'; (try dsimp only); (try k_fold))) | (with_reducible ((with_reducible show wpAny _ _ (exec (PySem.Stmt.Try _ (_ :: _) _ [] _) (envOfC _ _ _ _ _)) _ _ _); refine wpAny_Try_except ?_)) | ((with_reducible show wpAny _ _ (compareOp PySem.CmpOp.NotEq (Value.ref _) (Value.ref _)) _ _ _); with_reducible (k_here; k_dflt (refine' m_neInts ?k1 ?k2 ?k3 ?k4 ?k5 ?k6 ?_; (case k1 => k_asm); (case k2 => k_mem); (case k3 => k_mem); (case k4 => l_ints); (case k5 => first | exact IntsAre.nil | l_ints); (case k6 => walk_at "un9")))) | ((with_reducible show wpAny _ _ (compareOp PySem.CmpOp.NotIn (Value.int _ _) (Value.ref _)) _ _ _); with_reducible (k_here; k_dflt (refine' m_notinInts ?k1 ?k2 ?k3 ?k4 ?_; (case k1 => k_asm); (case k2 => k_mem); (case k3 => l_ints); (case k4 => walk_at "un9")))) | (with_reducible (k_here; (with_reducible show wpAny _ _ (binaryOp Operator.Add (Value.ref _) (Value.ref _)) _ _ _); k_dflt (refine' m_addInts ?k1 ?k2 ?k3 ?k4 ?k5 ?k6 ?k7 ?_; (case k1 => k_asm); (case k2 => k_asm); (case k3 => k_mem); (case k4 => k_mem); (case k5 => l_ints); (case k6 => l_ints); (case k7 => ((simp only [rangeKs_length, List.length_cons, List.length_nil]); omega))); intro kyl' kyh' kyus' kyF' kyN' kyl1 kyhI'; (try k_lt kyl1); (try k_fold))) | ((with_reducible show wpAny _ _ (exec (PySem.Stmt.Assign [_] (PySem.Expr.ListComp _ _ _) _) _) _ _ _); with_reducible (k_here; (fail_if_success lct_look); k_dflt (refine' LCg.Assign_ListComp_U (F₀ := ?f0) ?a ?b ?c ?d ?e ?f ?g ?h ?i ?_; (case f0 => k_asm); (case a => rfl); (case b => with_unfolding_all rfl); (case c => with_unfolding_all rfl); (case d => decide); (case e => rfl); (case f => decide); (case g => rfl); (case h => rfl); (case i => rfl)))) | (with_reducible ((with_reducible show wpAny _ _ (subscriptTail _ _ (Value.ref _) (Value.int _ _)) _ _ _); k_dflt (refine' m_item ?k1 ?k2 ?k3 ?k4 ?k5 ?_; (case k1 => k_asm); (case k2 => k_mem); (case k3 => decide); (case k4 => decide); (case k5 => rfl)); (try dsimp only))) | ((with_reducible show wpAny _ _ (exec (PySem.Stmt.Assign [_] (PySem.Expr.ListComp _ _ _) _) _) _ _ _); with_reducible (k_here; lct_look; k_dflt (refine' LCt.Assign_ListComp_T (F₀ := ?f0) ?a ?b ?c ?d ?e ?f ?g ?h ?i ?_; (case f0 => k_asm); (case a => rfl); (case b => with_unfolding_all rfl); (case c => with_unfolding_all rfl); (case d => decide);  (case e => rfl); (case f => decide); (case g => rfl); (case h => rfl); (case i => rfl)))) | ((with_reducible show wpAny _ _ (binaryOp PySem.Operator.Mod (Value.int _ _) (Value.int _ _)) _ _ _); with_reducible (with_reducible refine m_mod ?hb9 ?_; (case hb9 => omega))) | walk1 | (dsimp only; walk1) | (leave1; try dsimp only)))
    exact ⟨_, _, _, rfl, rfl, by k_asm, by k_asm⟩
  · intro ys hI
    have er : (List.range (n - 0).toNat).map (fun i => a + (f - a + (0 + ((i : Nat) : Int))) % n) = roundF a n f := by simp [roundF]
    rw [er] at hI
    have hyl : ys.length ≤ 5 := by rw [hI.length]; simp only [roundF, List.length_map, List.length_range]; omega
    (repeat' (first | (k_unfold; (try dsimp only)) | (k_end; wrow_close) | (with_reducible ((with_reducible show wpAny _ _ (storeName (envOfC _ _ _ _ _) (PySem.Str.ofString "following") _) _ _ _); refine stop_mk ?_)) | (with_reducible ((with_reducible show wpAny _ _ (storeName (envOfC _ _ _ _ _) (PySem.Str.ofString "taken") _) _ _ _); refine stop_mk ?_)) | ((with_reducible show wpAny _ _ (noteFrame _ _) _ _ _); with_reducible (k_here; (rename RaisedS _ _ _ _ _ _ _ _ _ => rsX); k_dflt (refine' caughtX (hE := ?hE) rsX ?F ?K ?U ?XB ?TB ?D ?T0 ?ex ?q ?_; (case hE => first | passes_own | (rename ∀ e, PassesOwnAt _ _ _ _ _ => hE9; exact hE9 _)); (case F => assumption); (case K => assumption); (case U => assumption); (case XB => assumption); (case TB => assumption); (case D => assumption); (case T0 => assumption); (case ex => k_is); (case q => exact (exc68 _).kts); k_whole); intro kyh' kyg' kyT' kyF' kyN' kyK' kyX' kyP' kyD'; (try dsimp only); (try k_fold))) | (with_reducible ((with_reducible show wpAny _ _ (exec (PySem.Stmt.Try _ (_ :: _) _ [] _) (envOfC _ _ _ _ _)) _ _ _); refine wpAny_Try_except ?_)) | ((with_reducible show wpAny _ _ (compareOp PySem.CmpOp.NotEq (Value.ref _) (Value.ref _)) _ _ _); with_reducible (k_here; k_dflt (refine' m_neInts ?k1 ?k2 ?k3 ?k4 ?k5 ?k6 ?_; (case k1 => k_asm); (case k2 => k_mem); (case k3 => k_mem); (case k4 => l_ints); (case k5 => first | exact IntsAre.nil | l_ints); (case k6 => walk_at "un9")))) | ((with_reducible show wpAny _ _ (compareOp PySem.CmpOp.NotIn (Value.int _ _) (Value.ref _)) _ _ _); with_reducible (k_here; k_dflt (refine' m_notinInts ?k1 ?k2 ?k3 ?k4 ?_; (case k1 => k_asm); (case k2 => k_mem); (case k3 => l_ints); (case k4 => walk_at "un9")))) | (with_reducible (k_here; (with_reducible show wpAny _ _ (binaryOp Operator.Add (Value.ref _) (Value.ref _)) _ _ _); k_dflt (refine' m_addInts ?k1 ?k2 ?k3 ?k4 ?k5 ?k6 ?k7 ?_; (case k1 => k_asm); (case k2 => k_asm); (case k3 => k_mem); (case k4 => k_mem); (case k5 => l_ints); (case k6 => l_ints); (case k7 => ((simp only [rangeKs_length, List.length_cons, List.length_nil]); omega))); intro kyl' kyh' kyus' kyF' kyN' kyl1 kyhI'; (try k_lt kyl1); (try k_fold))) | ((with_reducible show wpAny _ _ (exec (PySem.Stmt.Assign [_] (PySem.Expr.ListComp _ _ _) _) _) _ _ _); with_reducible (k_here; (fail_if_success lct_look); k_dflt (refine' LCg.Assign_ListComp_U (F₀ := ?f0) ?a ?b ?c ?d ?e ?f ?g ?h ?i ?_; (case f0 => k_asm); (case a => rfl); (case b => with_unfolding_all rfl); (case c => with_unfolding_all rfl); (case d => decide); (case e => rfl); (case f => decide); (case g => rfl); (case h => rfl); (case i => rfl)))) | (with_reducible ((with_reducible show wpAny _ _ (subscriptTail _ _ (Value.ref _) (Value.int _ _)) _ _ _); k_dflt (refine' m_item ?k1 ?k2 ?k3 ?k4 ?k5 ?_; (case k1 => k_asm); (case k2 => k_mem); (case k3 => decide); (case k4 => decide); (case k5 => rfl)); (try dsimp only))) | ((with_reducible show wpAny _ _ (exec (PySem.Stmt.Assign [_] (PySem.Expr.ListComp _ _ _) _) _) _ _ _); with_reducible (k_here; lct_look; k_dflt (refine' LCt.Assign_ListComp_T (F₀ := ?f0) ?a ?b ?c ?d ?e ?f ?g ?h ?i ?_; (case f0 => k_asm); (case a => rfl); (case b => with_unfolding_all rfl); (case c => with_unfolding_all rfl); (case d => decide);  (case e => rfl); (case f => decide); (case g => rfl); (case h => rfl); (case i => rfl)))) | ((with_reducible show wpAny _ _ (binaryOp PySem.Operator.Mod (Value.int _ _) (Value.int _ _)) _ _ _); with_reducible (with_reducible refine m_mod ?hb9 ?_; (case hb9 => omega))) | walk1 | (dsimp only; walk1) | (leave1; try dsimp only)))
    unfold Stop
    refine filt_ints (ns := roundF a n f) (f := fun i => (roundF a n f).getD i 0) (fun y => decide (y ∉ tks)) ?_ ?_ (.inr ⟨_, (by k_mem), rfl, _, rfl⟩) rfl rfl (by decide) ?_ ?_
    · intro i v hi9 hv
      refine' elimG ?h9y5 ?k9y5
      case h9y5 =>
        have h9z := hI.at i v (by rw [← List.getElem?_toArray]; exact hv)
        intro G9 k9
        obtain ⟨k', t', e9x4, hk'⟩ := h9z
        revert hk'
        revert e9x4
        revert t'
        revert k'
        exact k9
      intro k' t' e9x4 hk'
      subst e9x4
      exact ⟨t', by rw [List.getD_eq_getElem?_getD, hk']; rfl⟩
    · have hz : ys.toArray.size = (roundF a n f).length := by rw [List.size_toArray]; exact hI.length
      rw [hz]
      refine List.ext_getElem? fun i => ?_
      rw [List.getElem?_map]
      by_cases hi9 : i < (roundF a n f).length
      · rw [List.getElem?_range hi9, Option.map_some, List.getD_eq_getElem?_getD, List.getElem?_eq_getElem hi9]; rfl
      · rw [List.getElem?_eq_none (by omega), List.getElem?_eq_none (by rw [List.length_range]; omega)]; rfl
    · intro i t ys I oI C oC D m₂ h tk E' hi9 hC hx F N
      (try k_fold)
      (repeat' (first | (k_unfold; (try dsimp only)) | (k_end; wrow_close) | (with_reducible ((with_reducible show wpAny _ _ (storeName (envOfC _ _ _ _ _) (PySem.Str.ofString "following") _) _ _ _); refine stop_mk ?_)) | (with_reducible ((with_reducible show wpAny _ _ (storeName (envOfC _ _ _ _ _) (PySem.Str.ofString "taken") _) _ _ _); refine stop_mk ?_)) | ((with_reducible show wpAny _ _ (noteFrame _ _) _ _ _); with_reducible (k_here; (rename RaisedS _ _ _ _ _ _ _ _ _ => rsX); k_dflt (refine' caughtX (hE := ?hE) rsX ?F ?K ?U ?XB ?TB ?D ?T0 ?ex ?q ?_; (case hE => first | passes_own | (rename ∀ e, PassesOwnAt _ _ _ _ _ => hE9; exact hE9 _)); (case F => assumption); (case K => assumption); (case U => assumption); (case XB => assumption); (case TB => assumption); (case D => assumption); (case T0 => assumption); (case ex => k_is); (case q => exact (exc68 _).kts); k_whole); intro kyh' kyg' kyT' kyF' kyN' kyK' kyX' kyP' kyD'; (try dsimp only); (try k_fold))) | (with_reducible ((with_reducible show wpAny _ _ (exec (PySem.Stmt.Try _ (_ :: _) _ [] _) (envOfC _ _ _ _ _)) _ _ _); refine wpAny_Try_except ?_)) | ((with_reducible show wpAny _ _ (compareOp PySem.CmpOp.NotEq (Value.ref _) (Value.ref _)) _ _ _); with_reducible (k_here; k_dflt (refine' m_neInts ?k1 ?k2 ?k3 ?k4 ?k5 ?k6 ?_; (case k1 => k_asm); (case k2 => k_mem); (case k3 => k_mem); (case k4 => l_ints); (case k5 => first | exact IntsAre.nil | l_ints); (case k6 => walk_at "un9")))) | ((with_reducible show wpAny _ _ (compareOp PySem.CmpOp.NotIn (Value.int _ _) (Value.ref _)) _ _ _); with_reducible (k_here; k_dflt (refine' m_notinInts ?k1 ?k2 ?k3 ?k4 ?_; (case k1 => k_asm); (case k2 => k_mem); (case k3 => l_ints); (case k4 => walk_at "un9")))) | (with_reducible (k_here; (with_reducible show wpAny _ _ (binaryOp Operator.Add (Value.ref _) (Value.ref _)) _ _ _); k_dflt (refine' m_addInts ?k1 ?k2 ?k3 ?k4 ?k5 ?k6 ?k7 ?_; (case k1 => k_asm); (case k2 => k_asm); (case k3 => k_mem); (case k4 => k_mem); (case k5 => l_ints); (case k6 => l_ints); (case k7 => ((simp only [rangeKs_length, List.length_cons, List.length_nil]); omega))); intro kyl' kyh' kyus' kyF' kyN' kyl1 kyhI'; (try k_lt kyl1); (try k_fold))) | ((with_reducible show wpAny _ _ (exec (PySem.Stmt.Assign [_] (PySem.Expr.ListComp _ _ _) _) _) _ _ _); with_reducible (k_here; (fail_if_success lct_look); k_dflt (refine' LCg.Assign_ListComp_U (F₀ := ?f0) ?a ?b ?c ?d ?e ?f ?g ?h ?i ?_; (case f0 => k_asm); (case a => rfl); (case b => with_unfolding_all rfl); (case c => with_unfolding_all rfl); (case d => decide); (case e => rfl); (case f => decide); (case g => rfl); (case h => rfl); (case i => rfl)))) | (with_reducible ((with_reducible show wpAny _ _ (subscriptTail _ _ (Value.ref _) (Value.int _ _)) _ _ _); k_dflt (refine' m_item ?k1 ?k2 ?k3 ?k4 ?k5 ?_; (case k1 => k_asm); (case k2 => k_mem); (case k3 => decide); (case k4 => decide); (case k5 => rfl)); (try dsimp only))) | ((with_reducible show wpAny _ _ (exec (PySem.Stmt.Assign [_] (PySem.Expr.ListComp _ _ _) _) _) _ _ _); with_reducible (k_here; lct_look; k_dflt (refine' LCt.Assign_ListComp_T (F₀ := ?f0) ?a ?b ?c ?d ?e ?f ?g ?h ?i ?_; (case f0 => k_asm); (case a => rfl); (case b => with_unfolding_all rfl); (case c => with_unfolding_all rfl); (case d => decide);  (case e => rfl); (case f => decide); (case g => rfl); (case h => rfl); (case i => rfl)))) | ((with_reducible show wpAny _ _ (binaryOp PySem.Operator.Mod (Value.int _ _) (Value.int _ _)) _ _ _); with_reducible (with_reducible refine m_mod ?hb9 ?_; (case hb9 => omega))) | walk1 | (dsimp only; walk1) | (leave1; try dsimp only)))
      exact ⟨_, _, rfl, rfl, by k_asm, by k_asm⟩
    · intro ys2 hI2
      have hnh := next_head (tk := tks) hn hf.1 hf.2
      rcases hdl : (roundF a n f).filter (fun y => decide (y ∉ tks)) with _ | ⟨d0, dl⟩
      · rw [hdl] at hI2 hnh
        obtain rfl := ints_nil hI2
        (repeat' (first | (k_unfold; (try dsimp only)) | (k_end; wrow_close) | (with_reducible ((with_reducible show wpAny _ _ (storeName (envOfC _ _ _ _ _) (PySem.Str.ofString "following") _) _ _ _); refine stop_mk ?_)) | (with_reducible ((with_reducible show wpAny _ _ (storeName (envOfC _ _ _ _ _) (PySem.Str.ofString "taken") _) _ _ _); refine stop_mk ?_)) | ((with_reducible show wpAny _ _ (noteFrame _ _) _ _ _); with_reducible (k_here; (rename RaisedS _ _ _ _ _ _ _ _ _ => rsX); k_dflt (refine' caughtX (hE := ?hE) rsX ?F ?K ?U ?XB ?TB ?D ?T0 ?ex ?q ?_; (case hE => first | passes_own | (rename ∀ e, PassesOwnAt _ _ _ _ _ => hE9; exact hE9 _)); (case F => assumption); (case K => assumption); (case U => assumption); (case XB => assumption); (case TB => assumption); (case D => assumption); (case T0 => assumption); (case ex => k_is); (case q => exact (exc68 _).kts); k_whole); intro kyh' kyg' kyT' kyF' kyN' kyK' kyX' kyP' kyD'; (try dsimp only); (try k_fold))) | (with_reducible ((with_reducible show wpAny _ _ (exec (PySem.Stmt.Try _ (_ :: _) _ [] _) (envOfC _ _ _ _ _)) _ _ _); refine wpAny_Try_except ?_)) | ((with_reducible show wpAny _ _ (compareOp PySem.CmpOp.NotEq (Value.ref _) (Value.ref _)) _ _ _); with_reducible (k_here; k_dflt (refine' m_neInts ?k1 ?k2 ?k3 ?k4 ?k5 ?k6 ?_; (case k1 => k_asm); (case k2 => k_mem); (case k3 => k_mem); (case k4 => l_ints); (case k5 => first | exact IntsAre.nil | l_ints); (case k6 => walk_at "un9")))) | ((with_reducible show wpAny _ _ (compareOp PySem.CmpOp.NotIn (Value.int _ _) (Value.ref _)) _ _ _); with_reducible (k_here; k_dflt (refine' m_notinInts ?k1 ?k2 ?k3 ?k4 ?_; (case k1 => k_asm); (case k2 => k_mem); (case k3 => l_ints); (case k4 => walk_at "un9")))) | (with_reducible (k_here; (with_reducible show wpAny _ _ (binaryOp Operator.Add (Value.ref _) (Value.ref _)) _ _ _); k_dflt (refine' m_addInts ?k1 ?k2 ?k3 ?k4 ?k5 ?k6 ?k7 ?_; (case k1 => k_asm); (case k2 => k_asm); (case k3 => k_mem); (case k4 => k_mem); (case k5 => l_ints); (case k6 => l_ints); (case k7 => ((simp only [rangeKs_length, List.length_cons, List.length_nil]); omega))); intro kyl' kyh' kyus' kyF' kyN' kyl1 kyhI'; (try k_lt kyl1); (try k_fold))) | ((with_reducible show wpAny _ _ (exec (PySem.Stmt.Assign [_] (PySem.Expr.ListComp _ _ _) _) _) _ _ _); with_reducible (k_here; (fail_if_success lct_look); k_dflt (refine' LCg.Assign_ListComp_U (F₀ := ?f0) ?a ?b ?c ?d ?e ?f ?g ?h ?i ?_; (case f0 => k_asm); (case a => rfl); (case b => with_unfolding_all rfl); (case c => with_unfolding_all rfl); (case d => decide); (case e => rfl); (case f => decide); (case g => rfl); (case h => rfl); (case i => rfl)))) | (with_reducible ((with_reducible show wpAny _ _ (subscriptTail _ _ (Value.ref _) (Value.int _ _)) _ _ _); k_dflt (refine' m_item ?k1 ?k2 ?k3 ?k4 ?k5 ?_; (case k1 => k_asm); (case k2 => k_mem); (case k3 => decide); (case k4 => decide); (case k5 => rfl)); (try dsimp only))) | ((with_reducible show wpAny _ _ (exec (PySem.Stmt.Assign [_] (PySem.Expr.ListComp _ _ _) _) _) _ _ _); with_reducible (k_here; lct_look; k_dflt (refine' LCt.Assign_ListComp_T (F₀ := ?f0) ?a ?b ?c ?d ?e ?f ?g ?h ?i ?_; (case f0 => k_asm); (case a => rfl); (case b => with_unfolding_all rfl); (case c => with_unfolding_all rfl); (case d => decide);  (case e => rfl); (case f => decide); (case g => rfl); (case h => rfl); (case i => rfl)))) | ((with_reducible show wpAny _ _ (binaryOp PySem.Operator.Mod (Value.int _ _) (Value.int _ _)) _ _ _); with_reducible (with_reducible refine m_mod ?hb9 ?_; (case hb9 => omega))) | walk1 | (dsimp only; walk1) | (leave1; try dsimp only)))
        refine ps_tk (by walk_at "cx9") (by walk_at "rm9") (H.mono (by walk_at "sub9")) (by omega) hn (by omega) (by omega) ?_ ?_
        · intro x t T9 h' tk' hx
          rw [hnh] at hx
          cases hx
        · intro hx
          ((intro kyg2' kye2' kyt2' kymsg' kyh' kytk' kyFg' kyR9 kyU9; (try k_unfold); (try dsimp only)))
          (repeat' (first | (k_unfold; (try dsimp only)) | (k_end; wrow_close) | (with_reducible ((with_reducible show wpAny _ _ (storeName (envOfC _ _ _ _ _) (PySem.Str.ofString "following") _) _ _ _); refine stop_mk ?_)) | (with_reducible ((with_reducible show wpAny _ _ (storeName (envOfC _ _ _ _ _) (PySem.Str.ofString "taken") _) _ _ _); refine stop_mk ?_)) | ((with_reducible show wpAny _ _ (noteFrame _ _) _ _ _); with_reducible (k_here; (rename RaisedS _ _ _ _ _ _ _ _ _ => rsX); k_dflt (refine' caughtX (hE := ?hE) rsX ?F ?K ?U ?XB ?TB ?D ?T0 ?ex ?q ?_; (case hE => first | passes_own | (rename ∀ e, PassesOwnAt _ _ _ _ _ => hE9; exact hE9 _)); (case F => assumption); (case K => assumption); (case U => assumption); (case XB => assumption); (case TB => assumption); (case D => assumption); (case T0 => assumption); (case ex => k_is); (case q => exact (exc68 _).kts); k_whole); intro kyh' kyg' kyT' kyF' kyN' kyK' kyX' kyP' kyD'; (try dsimp only); (try k_fold))) | (with_reducible ((with_reducible show wpAny _ _ (exec (PySem.Stmt.Try _ (_ :: _) _ [] _) (envOfC _ _ _ _ _)) _ _ _); refine wpAny_Try_except ?_)) | ((with_reducible show wpAny _ _ (compareOp PySem.CmpOp.NotEq (Value.ref _) (Value.ref _)) _ _ _); with_reducible (k_here; k_dflt (refine' m_neInts ?k1 ?k2 ?k3 ?k4 ?k5 ?k6 ?_; (case k1 => k_asm); (case k2 => k_mem); (case k3 => k_mem); (case k4 => l_ints); (case k5 => first | exact IntsAre.nil | l_ints); (case k6 => walk_at "un9")))) | ((with_reducible show wpAny _ _ (compareOp PySem.CmpOp.NotIn (Value.int _ _) (Value.ref _)) _ _ _); with_reducible (k_here; k_dflt (refine' m_notinInts ?k1 ?k2 ?k3 ?k4 ?_; (case k1 => k_asm); (case k2 => k_mem); (case k3 => l_ints); (case k4 => walk_at "un9")))) | (with_reducible (k_here; (with_reducible show wpAny _ _ (binaryOp Operator.Add (Value.ref _) (Value.ref _)) _ _ _); k_dflt (refine' m_addInts ?k1 ?k2 ?k3 ?k4 ?k5 ?k6 ?k7 ?_; (case k1 => k_asm); (case k2 => k_asm); (case k3 => k_mem); (case k4 => k_mem); (case k5 => l_ints); (case k6 => l_ints); (case k7 => ((simp only [rangeKs_length, List.length_cons, List.length_nil]); omega))); intro kyl' kyh' kyus' kyF' kyN' kyl1 kyhI'; (try k_lt kyl1); (try k_fold))) | ((with_reducible show wpAny _ _ (exec (PySem.Stmt.Assign [_] (PySem.Expr.ListComp _ _ _) _) _) _ _ _); with_reducible (k_here; (fail_if_success lct_look); k_dflt (refine' LCg.Assign_ListComp_U (F₀ := ?f0) ?a ?b ?c ?d ?e ?f ?g ?h ?i ?_; (case f0 => k_asm); (case a => rfl); (case b => with_unfolding_all rfl); (case c => with_unfolding_all rfl); (case d => decide); (case e => rfl); (case f => decide); (case g => rfl); (case h => rfl); (case i => rfl)))) | (with_reducible ((with_reducible show wpAny _ _ (subscriptTail _ _ (Value.ref _) (Value.int _ _)) _ _ _); k_dflt (refine' m_item ?k1 ?k2 ?k3 ?k4 ?k5 ?_; (case k1 => k_asm); (case k2 => k_mem); (case k3 => decide); (case k4 => decide); (case k5 => rfl)); (try dsimp only))) | ((with_reducible show wpAny _ _ (exec (PySem.Stmt.Assign [_] (PySem.Expr.ListComp _ _ _) _) _) _ _ _); with_reducible (k_here; lct_look; k_dflt (refine' LCt.Assign_ListComp_T (F₀ := ?f0) ?a ?b ?c ?d ?e ?f ?g ?h ?i ?_; (case f0 => k_asm); (case a => rfl); (case b => with_unfolding_all rfl); (case c => with_unfolding_all rfl); (case d => decide);  (case e => rfl); (case f => decide); (case g => rfl); (case h => rfl); (case i => rfl)))) | ((with_reducible show wpAny _ _ (binaryOp PySem.Operator.Mod (Value.int _ _) (Value.int _ _)) _ _ _); with_reducible (with_reducible refine m_mod ?hb9 ?_; (case hb9 => omega))) | walk1 | (dsimp only; walk1) | (leave1; try dsimp only)))
          refine' hnext _ _ _ _ _ tl f [] ⟨?B, ?X, ?Tp, ?D, ?K⟩ ?kp hf (fun _ h => nomatch h) (Nat.zero_le _) ?ps ?F ?N
          case N => k_asm
          case F => k_asm
          case B => assumption
          case X => assumption
          case Tp => assumption
          case D => assumption
          case K => assumption
          case kp => ((intro kyy kyhy; simp only [List.contains_cons, List.contains_nil, Bool.or_false, Bool.or_eq_false_iff, beq_eq_false_iff_ne, ne_eq] at kyhy; simp [kyhy]))
          case ps => rw [List.append_nil]; exact H.mono (by walk_at "sub9")
      · rw [hdl] at hI2 hnh
        refine' elimG ?h9y7 ?k9y7
        case h9y7 =>
          intro G9 k9
          obtain ⟨t0, ys3, e9x6, hI3⟩ := ints_cons hI2
          revert hI3
          revert e9x6
          revert ys3
          revert t0
          exact k9
        intro t0 ys3 e9x6 hI3
        subst e9x6
        have hne0 : ¬ d0 :: dl = [] := fun e => nomatch e
        (repeat' (first | (k_unfold; (try dsimp only)) | (k_end; wrow_close) | (with_reducible ((with_reducible show wpAny _ _ (storeName (envOfC _ _ _ _ _) (PySem.Str.ofString "following") _) _ _ _); refine stop_mk ?_)) | (with_reducible ((with_reducible show wpAny _ _ (storeName (envOfC _ _ _ _ _) (PySem.Str.ofString "taken") _) _ _ _); refine stop_mk ?_)) | ((with_reducible show wpAny _ _ (noteFrame _ _) _ _ _); with_reducible (k_here; (rename RaisedS _ _ _ _ _ _ _ _ _ => rsX); k_dflt (refine' caughtX (hE := ?hE) rsX ?F ?K ?U ?XB ?TB ?D ?T0 ?ex ?q ?_; (case hE => first | passes_own | (rename ∀ e, PassesOwnAt _ _ _ _ _ => hE9; exact hE9 _)); (case F => assumption); (case K => assumption); (case U => assumption); (case XB => assumption); (case TB => assumption); (case D => assumption); (case T0 => assumption); (case ex => k_is); (case q => exact (exc68 _).kts); k_whole); intro kyh' kyg' kyT' kyF' kyN' kyK' kyX' kyP' kyD'; (try dsimp only); (try k_fold))) | (with_reducible ((with_reducible show wpAny _ _ (exec (PySem.Stmt.Try _ (_ :: _) _ [] _) (envOfC _ _ _ _ _)) _ _ _); refine wpAny_Try_except ?_)) | ((with_reducible show wpAny _ _ (compareOp PySem.CmpOp.NotEq (Value.ref _) (Value.ref _)) _ _ _); with_reducible (k_here; k_dflt (refine' m_neInts ?k1 ?k2 ?k3 ?k4 ?k5 ?k6 ?_; (case k1 => k_asm); (case k2 => k_mem); (case k3 => k_mem); (case k4 => l_ints); (case k5 => first | exact IntsAre.nil | l_ints); (case k6 => walk_at "un9")))) | ((with_reducible show wpAny _ _ (compareOp PySem.CmpOp.NotIn (Value.int _ _) (Value.ref _)) _ _ _); with_reducible (k_here; k_dflt (refine' m_notinInts ?k1 ?k2 ?k3 ?k4 ?_; (case k1 => k_asm); (case k2 => k_mem); (case k3 => l_ints); (case k4 => walk_at "un9")))) | (with_reducible (k_here; (with_reducible show wpAny _ _ (binaryOp Operator.Add (Value.ref _) (Value.ref _)) _ _ _); k_dflt (refine' m_addInts ?k1 ?k2 ?k3 ?k4 ?k5 ?k6 ?k7 ?_; (case k1 => k_asm); (case k2 => k_asm); (case k3 => k_mem); (case k4 => k_mem); (case k5 => l_ints); (case k6 => l_ints); (case k7 => ((simp only [rangeKs_length, List.length_cons, List.length_nil]); omega))); intro kyl' kyh' kyus' kyF' kyN' kyl1 kyhI'; (try k_lt kyl1); (try k_fold))) | ((with_reducible show wpAny _ _ (exec (PySem.Stmt.Assign [_] (PySem.Expr.ListComp _ _ _) _) _) _ _ _); with_reducible (k_here; (fail_if_success lct_look); k_dflt (refine' LCg.Assign_ListComp_U (F₀ := ?f0) ?a ?b ?c ?d ?e ?f ?g ?h ?i ?_; (case f0 => k_asm); (case a => rfl); (case b => with_unfolding_all rfl); (case c => with_unfolding_all rfl); (case d => decide); (case e => rfl); (case f => decide); (case g => rfl); (case h => rfl); (case i => rfl)))) | (with_reducible ((with_reducible show wpAny _ _ (subscriptTail _ _ (Value.ref _) (Value.int _ _)) _ _ _); k_dflt (refine' m_item ?k1 ?k2 ?k3 ?k4 ?k5 ?_; (case k1 => k_asm); (case k2 => k_mem); (case k3 => decide); (case k4 => decide); (case k5 => rfl)); (try dsimp only))) | ((with_reducible show wpAny _ _ (exec (PySem.Stmt.Assign [_] (PySem.Expr.ListComp _ _ _) _) _) _ _ _); with_reducible (k_here; lct_look; k_dflt (refine' LCt.Assign_ListComp_T (F₀ := ?f0) ?a ?b ?c ?d ?e ?f ?g ?h ?i ?_; (case f0 => k_asm); (case a => rfl); (case b => with_unfolding_all rfl); (case c => with_unfolding_all rfl); (case d => decide);  (case e => rfl); (case f => decide); (case g => rfl); (case h => rfl); (case i => rfl)))) | ((with_reducible show wpAny _ _ (binaryOp PySem.Operator.Mod (Value.int _ _) (Value.int _ _)) _ _ _); with_reducible (with_reducible refine m_mod ?hb9 ?_; (case hb9 => omega))) | walk1 | (dsimp only; walk1) | (leave1; try dsimp only)))
        refine ps_tk (by walk_at "cx9") (by walk_at "rm9") (H.mono (by walk_at "sub9")) (by omega) hn (by omega) (by omega) ?_ ?_
        · intro x t T9 h' tk' hx hk9 H9 F9 N9
          rw [hnh] at hx
          cases hx
          have hd9 := hk9 _ List.mem_cons_self (fun e => nomatch (show (1 : Nat) = 2 from e))
          have hI4 := IntsAre.cons d0 t0 hI3
          have hda : a ≤ d0 ∧ d0 < a + n := round_in hn (List.mem_filter.mp (hdl ▸ List.mem_cons_self : d0 ∈ (roundF a n f).filter _)).1
          refine' elimG ?h9y8 ?k9y8
          case h9y8 =>
            intro G9 k9
            obtain ⟨⟨o1, t1, m1, d1⟩, ⟨o2, t2, m2, d2⟩, ⟨o3, m3, d3⟩, ⟨o4, m4, d4⟩, ⟨o5, t5, m5, d5⟩, ⟨o6, m6, d6⟩, ⟨o, mo, hP⟩, ⟨vs, k, ml, hi⟩, ⟨oD, hT⟩, ne, sub, nsrc, ap⟩ := id H9
            revert ap
            revert nsrc
            revert sub
            revert ne
            revert hT
            revert oD
            revert hi
            revert ml
            revert k
            revert vs
            revert hP
            revert mo
            revert o
            revert d6
            revert m6
            revert o6
            revert d5
            revert m5
            revert t5
            revert o5
            revert d4
            revert m4
            revert o4
            revert d3
            revert m3
            revert o3
            revert d2
            revert m2
            revert t2
            revert o2
            revert d1
            revert m1
            revert t1
            revert o1
            exact k9
          intro o1 t1 m1 d1 o2 t2 m2 d2 o3 m3 d3 o4 m4 d4 o5 t5 m5 d5 o6 m6 d6 o mo hP vs k ml hi oD hT ne sub nsrc ap
          (try k_fold)
          (repeat' (first | (k_unfold; (try dsimp only)) | (k_end; wrow_close) | (with_reducible ((with_reducible show wpAny _ _ (storeName (envOfC _ _ _ _ _) (PySem.Str.ofString "following") _) _ _ _); refine stop_mk ?_)) | (with_reducible ((with_reducible show wpAny _ _ (storeName (envOfC _ _ _ _ _) (PySem.Str.ofString "taken") _) _ _ _); refine stop_mk ?_)) | ((with_reducible show wpAny _ _ (noteFrame _ _) _ _ _); with_reducible (k_here; (rename RaisedS _ _ _ _ _ _ _ _ _ => rsX); k_dflt (refine' caughtX (hE := ?hE) rsX ?F ?K ?U ?XB ?TB ?D ?T0 ?ex ?q ?_; (case hE => first | passes_own | (rename ∀ e, PassesOwnAt _ _ _ _ _ => hE9; exact hE9 _)); (case F => assumption); (case K => assumption); (case U => assumption); (case XB => assumption); (case TB => assumption); (case D => assumption); (case T0 => assumption); (case ex => k_is); (case q => exact (exc68 _).kts); k_whole); intro kyh' kyg' kyT' kyF' kyN' kyK' kyX' kyP' kyD'; (try dsimp only); (try k_fold))) | (with_reducible ((with_reducible show wpAny _ _ (exec (PySem.Stmt.Try _ (_ :: _) _ [] _) (envOfC _ _ _ _ _)) _ _ _); refine wpAny_Try_except ?_)) | ((with_reducible show wpAny _ _ (compareOp PySem.CmpOp.NotEq (Value.ref _) (Value.ref _)) _ _ _); with_reducible (k_here; k_dflt (refine' m_neInts ?k1 ?k2 ?k3 ?k4 ?k5 ?k6 ?_; (case k1 => k_asm); (case k2 => k_mem); (case k3 => k_mem); (case k4 => l_ints); (case k5 => first | exact IntsAre.nil | l_ints); (case k6 => walk_at "un9")))) | ((with_reducible show wpAny _ _ (compareOp PySem.CmpOp.NotIn (Value.int _ _) (Value.ref _)) _ _ _); with_reducible (k_here; k_dflt (refine' m_notinInts ?k1 ?k2 ?k3 ?k4 ?_; (case k1 => k_asm); (case k2 => k_mem); (case k3 => l_ints); (case k4 => walk_at "un9")))) | (with_reducible (k_here; (with_reducible show wpAny _ _ (binaryOp Operator.Add (Value.ref _) (Value.ref _)) _ _ _); k_dflt (refine' m_addInts ?k1 ?k2 ?k3 ?k4 ?k5 ?k6 ?k7 ?_; (case k1 => k_asm); (case k2 => k_asm); (case k3 => k_mem); (case k4 => k_mem); (case k5 => l_ints); (case k6 => l_ints); (case k7 => ((simp only [rangeKs_length, List.length_cons, List.length_nil]); omega))); intro kyl' kyh' kyus' kyF' kyN' kyl1 kyhI'; (try k_lt kyl1); (try k_fold))) | ((with_reducible show wpAny _ _ (exec (PySem.Stmt.Assign [_] (PySem.Expr.ListComp _ _ _) _) _) _ _ _); with_reducible (k_here; (fail_if_success lct_look); k_dflt (refine' LCg.Assign_ListComp_U (F₀ := ?f0) ?a ?b ?c ?d ?e ?f ?g ?h ?i ?_; (case f0 => k_asm); (case a => rfl); (case b => with_unfolding_all rfl); (case c => with_unfolding_all rfl); (case d => decide); (case e => rfl); (case f => decide); (case g => rfl); (case h => rfl); (case i => rfl)))) | (with_reducible ((with_reducible show wpAny _ _ (subscriptTail _ _ (Value.ref _) (Value.int _ _)) _ _ _); k_dflt (refine' m_item ?k1 ?k2 ?k3 ?k4 ?k5 ?_; (case k1 => k_asm); (case k2 => k_mem); (case k3 => decide); (case k4 => decide); (case k5 => rfl)); (try dsimp only))) | ((with_reducible show wpAny _ _ (exec (PySem.Stmt.Assign [_] (PySem.Expr.ListComp _ _ _) _) _) _ _ _); with_reducible (k_here; lct_look; k_dflt (refine' LCt.Assign_ListComp_T (F₀ := ?f0) ?a ?b ?c ?d ?e ?f ?g ?h ?i ?_; (case f0 => k_asm); (case a => rfl); (case b => with_unfolding_all rfl); (case c => with_unfolding_all rfl); (case d => decide);  (case e => rfl); (case f => decide); (case g => rfl); (case h => rfl); (case i => rfl)))) | ((with_reducible show wpAny _ _ (binaryOp PySem.Operator.Mod (Value.int _ _) (Value.int _ _)) _ _ _); with_reducible (with_reducible refine m_mod ?hb9 ?_; (case hb9 => omega))) | walk1 | (dsimp only; walk1) | (leave1; try dsimp only)))
          all_goals (try exact absurd rfl ‹d0 ≠ d0›)
          unfold Stop
          refine ps_store4 (by k_asm) (by k_asm) (H9.mono (by walk_at "sub9")) (by k_mem) (by assumption) (Nat.ne_of_gt ((show ∀ q ∈ T9, @LT.lt Nat _ q.1 _ by ((refine lt_of_allLt ?_; first | with_reducible assumption | (refine lt_tl _ (by with_reducible assumption) (by first | exact (rfl : List.drop 1 _ = _) | exact (rfl : List.drop 2 _ = _) | exact (rfl : List.drop 3 _ = _) | exact (rfl : List.drop 4 _ = _) | exact (rfl : List.drop 5 _ = _))) | assumption))) _ mo)) rfl ?_
          intro T10 h10 hk10 H10 F10 N10
          (try k_fold)
          (repeat' (first | (k_unfold; (try dsimp only)) | (k_end; wrow_close) | (with_reducible ((with_reducible show wpAny _ _ (storeName (envOfC _ _ _ _ _) (PySem.Str.ofString "following") _) _ _ _); refine stop_mk ?_)) | (with_reducible ((with_reducible show wpAny _ _ (storeName (envOfC _ _ _ _ _) (PySem.Str.ofString "taken") _) _ _ _); refine stop_mk ?_)) | ((with_reducible show wpAny _ _ (noteFrame _ _) _ _ _); with_reducible (k_here; (rename RaisedS _ _ _ _ _ _ _ _ _ => rsX); k_dflt (refine' caughtX (hE := ?hE) rsX ?F ?K ?U ?XB ?TB ?D ?T0 ?ex ?q ?_; (case hE => first | passes_own | (rename ∀ e, PassesOwnAt _ _ _ _ _ => hE9; exact hE9 _)); (case F => assumption); (case K => assumption); (case U => assumption); (case XB => assumption); (case TB => assumption); (case D => assumption); (case T0 => assumption); (case ex => k_is); (case q => exact (exc68 _).kts); k_whole); intro kyh' kyg' kyT' kyF' kyN' kyK' kyX' kyP' kyD'; (try dsimp only); (try k_fold))) | (with_reducible ((with_reducible show wpAny _ _ (exec (PySem.Stmt.Try _ (_ :: _) _ [] _) (envOfC _ _ _ _ _)) _ _ _); refine wpAny_Try_except ?_)) | ((with_reducible show wpAny _ _ (compareOp PySem.CmpOp.NotEq (Value.ref _) (Value.ref _)) _ _ _); with_reducible (k_here; k_dflt (refine' m_neInts ?k1 ?k2 ?k3 ?k4 ?k5 ?k6 ?_; (case k1 => k_asm); (case k2 => k_mem); (case k3 => k_mem); (case k4 => l_ints); (case k5 => first | exact IntsAre.nil | l_ints); (case k6 => walk_at "un9")))) | ((with_reducible show wpAny _ _ (compareOp PySem.CmpOp.NotIn (Value.int _ _) (Value.ref _)) _ _ _); with_reducible (k_here; k_dflt (refine' m_notinInts ?k1 ?k2 ?k3 ?k4 ?_; (case k1 => k_asm); (case k2 => k_mem); (case k3 => l_ints); (case k4 => walk_at "un9")))) | (with_reducible (k_here; (with_reducible show wpAny _ _ (binaryOp Operator.Add (Value.ref _) (Value.ref _)) _ _ _); k_dflt (refine' m_addInts ?k1 ?k2 ?k3 ?k4 ?k5 ?k6 ?k7 ?_; (case k1 => k_asm); (case k2 => k_asm); (case k3 => k_mem); (case k4 => k_mem); (case k5 => l_ints); (case k6 => l_ints); (case k7 => ((simp only [rangeKs_length, List.length_cons, List.length_nil]); omega))); intro kyl' kyh' kyus' kyF' kyN' kyl1 kyhI'; (try k_lt kyl1); (try k_fold))) | ((with_reducible show wpAny _ _ (exec (PySem.Stmt.Assign [_] (PySem.Expr.ListComp _ _ _) _) _) _ _ _); with_reducible (k_here; (fail_if_success lct_look); k_dflt (refine' LCg.Assign_ListComp_U (F₀ := ?f0) ?a ?b ?c ?d ?e ?f ?g ?h ?i ?_; (case f0 => k_asm); (case a => rfl); (case b => with_unfolding_all rfl); (case c => with_unfolding_all rfl); (case d => decide); (case e => rfl); (case f => decide); (case g => rfl); (case h => rfl); (case i => rfl)))) | (with_reducible ((with_reducible show wpAny _ _ (subscriptTail _ _ (Value.ref _) (Value.int _ _)) _ _ _); k_dflt (refine' m_item ?k1 ?k2 ?k3 ?k4 ?k5 ?_; (case k1 => k_asm); (case k2 => k_mem); (case k3 => decide); (case k4 => decide); (case k5 => rfl)); (try dsimp only))) | ((with_reducible show wpAny _ _ (exec (PySem.Stmt.Assign [_] (PySem.Expr.ListComp _ _ _) _) _) _ _ _); with_reducible (k_here; lct_look; k_dflt (refine' LCt.Assign_ListComp_T (F₀ := ?f0) ?a ?b ?c ?d ?e ?f ?g ?h ?i ?_; (case f0 => k_asm); (case a => rfl); (case b => with_unfolding_all rfl); (case c => with_unfolding_all rfl); (case d => decide);  (case e => rfl); (case f => decide); (case g => rfl); (case h => rfl); (case i => rfl)))) | ((with_reducible show wpAny _ _ (binaryOp PySem.Operator.Mod (Value.int _ _) (Value.int _ _)) _ _ _); with_reducible (with_reducible refine m_mod ?hb9 ?_; (case hb9 => omega))) | walk1 | (dsimp only; walk1) | (leave1; try dsimp only)))
          unfold Stop
          refine ps_store5 (by k_asm) (by k_asm) H10 rfl ?_
          intro T11 h11 hk11 H11 F11 N11
          (try k_fold)
          (repeat' (first | (k_unfold; (try dsimp only)) | (k_end; wrow_close) | (with_reducible ((with_reducible show wpAny _ _ (storeName (envOfC _ _ _ _ _) (PySem.Str.ofString "following") _) _ _ _); refine stop_mk ?_)) | (with_reducible ((with_reducible show wpAny _ _ (storeName (envOfC _ _ _ _ _) (PySem.Str.ofString "taken") _) _ _ _); refine stop_mk ?_)) | ((with_reducible show wpAny _ _ (noteFrame _ _) _ _ _); with_reducible (k_here; (rename RaisedS _ _ _ _ _ _ _ _ _ => rsX); k_dflt (refine' caughtX (hE := ?hE) rsX ?F ?K ?U ?XB ?TB ?D ?T0 ?ex ?q ?_; (case hE => first | passes_own | (rename ∀ e, PassesOwnAt _ _ _ _ _ => hE9; exact hE9 _)); (case F => assumption); (case K => assumption); (case U => assumption); (case XB => assumption); (case TB => assumption); (case D => assumption); (case T0 => assumption); (case ex => k_is); (case q => exact (exc68 _).kts); k_whole); intro kyh' kyg' kyT' kyF' kyN' kyK' kyX' kyP' kyD'; (try dsimp only); (try k_fold))) | (with_reducible ((with_reducible show wpAny _ _ (exec (PySem.Stmt.Try _ (_ :: _) _ [] _) (envOfC _ _ _ _ _)) _ _ _); refine wpAny_Try_except ?_)) | ((with_reducible show wpAny _ _ (compareOp PySem.CmpOp.NotEq (Value.ref _) (Value.ref _)) _ _ _); with_reducible (k_here; k_dflt (refine' m_neInts ?k1 ?k2 ?k3 ?k4 ?k5 ?k6 ?_; (case k1 => k_asm); (case k2 => k_mem); (case k3 => k_mem); (case k4 => l_ints); (case k5 => first | exact IntsAre.nil | l_ints); (case k6 => walk_at "un9")))) | ((with_reducible show wpAny _ _ (compareOp PySem.CmpOp.NotIn (Value.int _ _) (Value.ref _)) _ _ _); with_reducible (k_here; k_dflt (refine' m_notinInts ?k1 ?k2 ?k3 ?k4 ?_; (case k1 => k_asm); (case k2 => k_mem); (case k3 => l_ints); (case k4 => walk_at "un9")))) | (with_reducible (k_here; (with_reducible show wpAny _ _ (binaryOp Operator.Add (Value.ref _) (Value.ref _)) _ _ _); k_dflt (refine' m_addInts ?k1 ?k2 ?k3 ?k4 ?k5 ?k6 ?k7 ?_; (case k1 => k_asm); (case k2 => k_asm); (case k3 => k_mem); (case k4 => k_mem); (case k5 => l_ints); (case k6 => l_ints); (case k7 => ((simp only [rangeKs_length, List.length_cons, List.length_nil]); omega))); intro kyl' kyh' kyus' kyF' kyN' kyl1 kyhI'; (try k_lt kyl1); (try k_fold))) | ((with_reducible show wpAny _ _ (exec (PySem.Stmt.Assign [_] (PySem.Expr.ListComp _ _ _) _) _) _ _ _); with_reducible (k_here; (fail_if_success lct_look); k_dflt (refine' LCg.Assign_ListComp_U (F₀ := ?f0) ?a ?b ?c ?d ?e ?f ?g ?h ?i ?_; (case f0 => k_asm); (case a => rfl); (case b => with_unfolding_all rfl); (case c => with_unfolding_all rfl); (case d => decide); (case e => rfl); (case f => decide); (case g => rfl); (case h => rfl); (case i => rfl)))) | (with_reducible ((with_reducible show wpAny _ _ (subscriptTail _ _ (Value.ref _) (Value.int _ _)) _ _ _); k_dflt (refine' m_item ?k1 ?k2 ?k3 ?k4 ?k5 ?_; (case k1 => k_asm); (case k2 => k_mem); (case k3 => decide); (case k4 => decide); (case k5 => rfl)); (try dsimp only))) | ((with_reducible show wpAny _ _ (exec (PySem.Stmt.Assign [_] (PySem.Expr.ListComp _ _ _) _) _) _ _ _); with_reducible (k_here; lct_look; k_dflt (refine' LCt.Assign_ListComp_T (F₀ := ?f0) ?a ?b ?c ?d ?e ?f ?g ?h ?i ?_; (case f0 => k_asm); (case a => rfl); (case b => with_unfolding_all rfl); (case c => with_unfolding_all rfl); (case d => decide);  (case e => rfl); (case f => decide); (case g => rfl); (case h => rfl); (case i => rfl)))) | ((with_reducible show wpAny _ _ (binaryOp PySem.Operator.Mod (Value.int _ _) (Value.int _ _)) _ _ _); with_reducible (with_reducible refine m_mod ?hb9 ?_; (case hb9 => omega))) | walk1 | (dsimp only; walk1) | (leave1; try dsimp only)))
          rw [beh_mod hn hda.1 hda.2] at H11
          exact hnext _ _ _ _ _ _ _ [d0] ⟨B, X, Tp, Dt, K0⟩ (by ((intro kyy kyhy; simp only [List.contains_cons, List.contains_nil, Bool.or_false, Bool.or_eq_false_iff, beq_eq_false_iff_ne, ne_eq] at kyhy; simp [kyhy]))) (beh_in hn hda.1 hda.2) (fun k hk => by rw [List.mem_singleton.mp hk]; exact hda) (Nat.le_refl _) H11 F11 N11
        · intro hx
          rw [hnh] at hx
          cases hx
end
section
variable {prog : Program} {w : World} {p : Program} {loose : List Str} {mean : ExcName → Option Value} {mg mb : Str → Option Value}
  {dp un : Nat} {gd : Option (List Code)} {cn : Str} {cs : Scope} {fa : Addr} {ccd : Value} {A₀ : Around} {base g g₀ h₀ : Heap} {L L' : Addr} {m : Str → Option Value} {s : Shared} {E : Value → Shared → Prop} {Q : Flow → Shared → Prop}
  {news T : List (Addr × Obj)} {name qual : Str} {params : Arguments} {body : List Stmt} {scope : Scope} {dV kV doc pm cdv ct oc : Value} {an od : Option Addr} {osl : Array (Option Value)}
  {src pr dx Dd tl : Addr} {a n f : Int} {tks : List Int} {gv : Option Value}
set_option maxHeartbeats 4000000 in
theorem ports_check {tgt it : PySem.Expr} {bd els : List Stmt} {pos : Pos} (ho : (hd.heap_1 w.params).lookup 388 = some ⟨oc, od, .func (fnOf name qual params body scope dV kV doc pm an cdv ct), osl⟩)
  (hb3 : body[3]? = some (.For tgt it bd els pos))
  (G : Gd w p loose mean mg mb (ktrTop dp un gd cn cs L fa ccd [] []) base g₀ g [envX cn cs L fa ccd []]) (F : Fr g L' s.heap m) (N : News g L' s.heap T) (R : Rm cs dp un 8)
  (H : PS prog w news T (L' + 1) src pr dx Dd tl a n f tks f tks gv) (ha : 100 ≤ a) (ha2 : a < 200) (hn : 0 < n) (hn2 : n ≤ 5)
  (hnext : ∀ h' tk' T', PS prog w news T' (L' + 1) src pr dx Dd tl a n f tks f tks gv → Fr g L' h' m → News g L' h' T' → Q .next { s with heap := h', toks := tk' }) :
  wpAny (model prog w) ((ktrTop dp un gd cn cs L fa ccd [] []).deeper (envOfC qual scope L' 388 cdv)) (execs (bd.drop 1) (envOfC qual scope L' 388 cdv)) Q E s := by
  have e := lookup_same ho (by k_is)
  cases e
  injection (show some (PySem.Stmt.For _ _ _ _ _) = some (PySem.Stmt.For _ _ _ _ _) from hb3) with e3
  injection e3 with e31 e32 e33 e34 e35
  subst e33
  clear e31 e32 e34 e35
  have hRd := R.hd
  have hRu := R.hu
  refine' elimG ?h9y1 ?k9y1
  case h9y1 =>
    intro G9 k9
    obtain ⟨B, X, Tp, Dt, K0⟩ := id G
    revert K0
    revert Dt
    revert Tp
    revert X
    revert B
    exact k9
  intro B X Tp Dt K0
  try clear G
  refine' elimG ?h9y2 ?k9y2
  case h9y2 =>
    intro G9 k9
    obtain ⟨⟨o1, t1, m1, d1⟩, ⟨o2, t2, m2, d2⟩, ⟨o3, m3, d3⟩, ⟨o4, m4, d4⟩, ⟨o5, t5, m5, d5⟩, ⟨o6, m6, d6⟩, ⟨o, mo, hP⟩, ⟨vs, k, ml, hi⟩, ⟨oD, hT⟩, ne, sub, nsrc, ap⟩ := id H
    revert ap
    revert nsrc
    revert sub
    revert ne
    revert hT
    revert oD
    revert hi
    revert ml
    revert k
    revert vs
    revert hP
    revert mo
    revert o
    revert d6
    revert m6
    revert o6
    revert d5
    revert m5
    revert t5
    revert o5
    revert d4
    revert m4
    revert o4
    revert d3
    revert m3
    revert o3
    revert d2
    revert m2
    revert t2
    revert o2
    revert d1
    revert m1
    revert t1
    revert o1
    exact k9
  intro o1 t1 m1 d1 o2 t2 m2 d2 o3 m3 d3 o4 m4 d4 o5 t5 m5 d5 o6 m6 d6 o mo hP vs k ml hi oD hT ne sub nsrc ap
  refine' elimG ?h9y3 ?k9y3
  case h9y3 =>
    intro G9 k9
    obtain ⟨q1, ⟨g1, g2, g3, g4, u1, u2, u3, u4, v1, v2, v3, nn, q2⟩, q3, q4, q5⟩ := id hT
    revert q5
    revert q4
    revert q3
    revert q2
    revert nn
    revert v3
    revert v2
    revert v1
    revert u4
    revert u3
    revert u2
    revert u1
    revert g4
    revert g3
    revert g2
    revert g1
    revert q1
    exact k9
  intro q1 g1 g2 g3 g4 u1 u2 u3 u4 v1 v2 v3 nn q2 q3 q4 q5
  show wpAny _ _ (execs [_] _) _ _ _
  (repeat' (first | (k_unfold; (try dsimp only)) | (k_end; wrow_close) | ((with_reducible show wpAny _ _ (compareOp PySem.CmpOp.NotEq (Value.ref _) (Value.ref _)) _ _ _); with_reducible (k_here; k_dflt (refine' m_neInts ?k1 ?k2 ?k3 ?k4 ?k5 ?k6 ?_; (case k1 => k_asm); (case k2 => k_mem); (case k3 => k_mem); (case k4 => l_ints); (case k5 => first | exact IntsAre.nil | l_ints); (case k6 => walk_at "un9")))) | ((with_reducible show wpAny _ _ (compareOp PySem.CmpOp.In (Value.int _ _) (Value.ref _)) _ _ _); with_reducible (k_here; k_dflt (refine' m_inInts ?k1 ?k2 ?k3 ?k4 ?_; (case k1 => k_asm); (case k2 => k_mem); (case k3 => l_ints); (case k4 => walk_at "un9")))) | (with_reducible (k_here; (with_reducible show wpAny _ _ (PySem.call (Value.ref 201) _ _) _ _ _); k_dflt (refine' istaken_spec ?c1 ?c2 ?c3 ?_; (case c1 => walk_at "cx9"); (case c2 => walk_at "rm9"); (case c3 => (first | with_reducible assumption | (focus (refine' PortR.mono ?_ ?_; rotate_right; (focus with_reducible assumption); walk_at "sub9"))))); intro kyh' kytk' kyF' kyN'; (try k_fold))) | ((with_reducible show wpAny _ _ (eval (PySem.Expr.ListComp _ _ _) _) _ _ _); with_reducible (k_here; lct_look; k_dflt (refine' LCt.ListComp_T (F₀ := ?f0) ?c ?d ?e ?f ?g ?_; (case f0 => k_asm); (case c => with_unfolding_all rfl); (case d => decide); (case e => rfl); (case f => decide); (case g => rfl)))) | walk1 | (dsimp only; walk1) | (leave1; try dsimp only)))
  unfold Stop
  refine filt_ints (ns := _) (f := fun i => a - 1 + ((i : Nat) : Int)) (fun _ => false) (fun i v _ hv => hv) rfl trivial rfl rfl (by decide) ?_ ?_
  · intro i t ys I oI C oC D m₂ h tk E' hi9 hC hx F N
    (try k_fold)
    (repeat' (first | (k_unfold; (try dsimp only)) | (k_end; wrow_close) | ((with_reducible show wpAny _ _ (compareOp PySem.CmpOp.NotEq (Value.ref _) (Value.ref _)) _ _ _); with_reducible (k_here; k_dflt (refine' m_neInts ?k1 ?k2 ?k3 ?k4 ?k5 ?k6 ?_; (case k1 => k_asm); (case k2 => k_mem); (case k3 => k_mem); (case k4 => l_ints); (case k5 => first | exact IntsAre.nil | l_ints); (case k6 => walk_at "un9")))) | ((with_reducible show wpAny _ _ (compareOp PySem.CmpOp.In (Value.int _ _) (Value.ref _)) _ _ _); with_reducible (k_here; k_dflt (refine' m_inInts ?k1 ?k2 ?k3 ?k4 ?_; (case k1 => k_asm); (case k2 => k_mem); (case k3 => l_ints); (case k4 => walk_at "un9")))) | (with_reducible (k_here; (with_reducible show wpAny _ _ (PySem.call (Value.ref 201) _ _) _ _ _); k_dflt (refine' istaken_spec ?c1 ?c2 ?c3 ?_; (case c1 => walk_at "cx9"); (case c2 => walk_at "rm9"); (case c3 => (first | with_reducible assumption | (focus (refine' PortR.mono ?_ ?_; rotate_right; (focus with_reducible assumption); walk_at "sub9"))))); intro kyh' kytk' kyF' kyN'; (try k_fold))) | ((with_reducible show wpAny _ _ (eval (PySem.Expr.ListComp _ _ _) _) _ _ _); with_reducible (k_here; lct_look; k_dflt (refine' LCt.ListComp_T (F₀ := ?f0) ?c ?d ?e ?f ?g ?_; (case f0 => k_asm); (case c => with_unfolding_all rfl); (case d => decide); (case e => rfl); (case f => decide); (case g => rfl)))) | walk1 | (dsimp only; walk1) | (leave1; try dsimp only)))
    exact ⟨_, _, bne_self_eq_false _, rfl, by k_asm, by k_asm⟩
  · intro ys hI
    rw [List.filter_eq_nil_iff.mpr (by simp)] at hI
    obtain rfl := ints_nil hI
    (repeat' (first | (k_unfold; (try dsimp only)) | (k_end; wrow_close) | ((with_reducible show wpAny _ _ (compareOp PySem.CmpOp.NotEq (Value.ref _) (Value.ref _)) _ _ _); with_reducible (k_here; k_dflt (refine' m_neInts ?k1 ?k2 ?k3 ?k4 ?k5 ?k6 ?_; (case k1 => k_asm); (case k2 => k_mem); (case k3 => k_mem); (case k4 => l_ints); (case k5 => first | exact IntsAre.nil | l_ints); (case k6 => walk_at "un9")))) | ((with_reducible show wpAny _ _ (compareOp PySem.CmpOp.In (Value.int _ _) (Value.ref _)) _ _ _); with_reducible (k_here; k_dflt (refine' m_inInts ?k1 ?k2 ?k3 ?k4 ?_; (case k1 => k_asm); (case k2 => k_mem); (case k3 => l_ints); (case k4 => walk_at "un9")))) | (with_reducible (k_here; (with_reducible show wpAny _ _ (PySem.call (Value.ref 201) _ _) _ _ _); k_dflt (refine' istaken_spec ?c1 ?c2 ?c3 ?_; (case c1 => walk_at "cx9"); (case c2 => walk_at "rm9"); (case c3 => (first | with_reducible assumption | (focus (refine' PortR.mono ?_ ?_; rotate_right; (focus with_reducible assumption); walk_at "sub9"))))); intro kyh' kytk' kyF' kyN'; (try k_fold))) | ((with_reducible show wpAny _ _ (eval (PySem.Expr.ListComp _ _ _) _) _ _ _); with_reducible (k_here; lct_look; k_dflt (refine' LCt.ListComp_T (F₀ := ?f0) ?c ?d ?e ?f ?g ?_; (case f0 => k_asm); (case c => with_unfolding_all rfl); (case d => decide); (case e => rfl); (case f => decide); (case g => rfl)))) | walk1 | (dsimp only; walk1) | (leave1; try dsimp only)))
    refine' hnext _ _ _ ?ps ?F ?N
    case N => k_asm
    case F => k_asm
    case ps => exact H.mono (by walk_at "sub9")
end
theorem off1_mem {D : Addr} : ∀ {T : List (Addr × Obj)}, LCg.Off1 D T → ∀ q ∈ T, @Ne Nat q.1 D
  | [], _, q, h => nomatch h
  | x :: r, ⟨a, b⟩, q, h => by
    rcases List.mem_cons.mp h with rfl | h
    · exact a
    · exact off1_mem b q h
section
local macro_rules | `(tactic| walk_at "storeName") => `(tactic| ((with_reducible show wpAny _ _ (storeName (envOfC _ _ _ _ _) (PySem.Str.ofString "following") _) _ _ _); refine stop_mk ?_))
variable {prog : Program} {w : World} {p : Program} {loose : List Str} {mean : ExcName → Option Value} {mg mb : Str → Option Value}
  {dp un : Nat} {gd : Option (List Code)} {cn : Str} {cs : Scope} {fa : Addr} {ccd : Value} {A₀ : Around} {base g g₀ h₀ : Heap} {L L' : Addr} {m : Str → Option Value} {s : Shared} {E : Value → Shared → Prop} {Q : Flow → Shared → Prop}
  {news T : List (Addr × Obj)} {name qual : Str} {params : Arguments} {body : List Stmt} {scope : Scope} {dV kV doc pm cdv ct oc : Value} {an od : Option Addr} {osl : Array (Option Value)}
  {src pr dx Dd tl : Addr} {a n f : Int} {tks : List Int} {gv : Option Value}
set_option maxHeartbeats 4000000 in
theorem ports_turn {tgt it : PySem.Expr} {bd els : List Stmt} {pos : Pos} (ho : (hd.heap_1 w.params).lookup 388 = some ⟨oc, od, .func (fnOf name qual params body scope dV kV doc pm an cdv ct), osl⟩)
  (hb3 : body[3]? = some (.For tgt it bd els pos)) (hms : m (Str.ofString "source") = some (.ref src))
  (G : Gd w p loose mean mg mb (ktrTop dp un gd cn cs L fa ccd [] []) base g₀ g [envX cn cs L fa ccd []]) (F : Fr g L' s.heap m) (N : News g L' s.heap T) (R : Rm cs dp un 8) (XB : (hd.heap_1 w.params).In base) (TB : Top p loose mean mg mb base)
  (H : PS prog w news T (L' + 1) src pr dx Dd tl a n f tks f tks gv) (ha : 100 ≤ a) (ha2 : a < 200) (hn : 0 < n) (hn2 : n ≤ 5) (hf : a ≤ f ∧ f < a + n) (hl : tks.length < 50) (htk : ∀ k ∈ tks, a ≤ k ∧ k < a + n)
  (hE : ∀ e, PassesOwnAt (model prog w) (((ktrTop dp un gd cn cs L fa ccd [] []).deeper (envOfC qual scope L' 388 cdv)).mark (some (.ref e))) ((ktrTop dp un gd cn cs L fa ccd [] []).deeper (envOfC qual scope L' 388 cdv)) (envOfC qual scope L' 388 cdv) E)
  (hnext : ∀ g' h' tk' m' T' tl' f' tks' gv', Gd w p loose mean mg mb (ktrTop dp un gd cn cs L fa ccd [] []) base g₀ g' [envX cn cs L fa ccd []] → Keep [Str.ofString "turn", Str.ofString "due", Str.ofString "told"] m m' → (a ≤ f' ∧ f' < a + n) → (∀ k ∈ tks', a ≤ k ∧ k < a + n) → tks'.length ≤ tks.length + 1 → PS prog w news T' (L' + 1) src pr dx Dd tl' a n f' tks' f' tks' gv' → Fr g' L' h' m' → News g' L' h' T' → Q .next { s with heap := h', toks := tk' }) :
  wpAny (model prog w) ((ktrTop dp un gd cn cs L fa ccd [] []).deeper (envOfC qual scope L' 388 cdv)) (execs bd (envOfC qual scope L' 388 cdv)) Q E s := by
  have ho1 := ho
  have hb31 := hb3
  have e := lookup_same ho (by k_is)
  cases e
  injection (show some (PySem.Stmt.For _ _ _ _ _) = some (PySem.Stmt.For _ _ _ _ _) from hb3) with e3
  injection e3 with e31 e32 e33 e34 e35
  subst e33
  clear e31 e32 e34 e35
  have hRd := R.hd
  have hRu := R.hu
  have G' := G
  refine' elimG ?h9y1 ?k9y1
  case h9y1 =>
    intro G9 k9
    obtain ⟨B, X, Tp, Dt, K0⟩ := id G
    revert K0
    revert Dt
    revert Tp
    revert X
    revert B
    exact k9
  intro B X Tp Dt K0
  try clear G
  refine' elimG ?h9y2 ?k9y2
  case h9y2 =>
    intro G9 k9
    obtain ⟨⟨o1, t1, m1, d1⟩, ⟨o2, t2, m2, d2⟩, ⟨o3, m3, d3⟩, ⟨o4, m4, d4⟩, ⟨o5, t5, m5, d5⟩, ⟨o6, m6, d6⟩, ⟨o, mo, hP⟩, ⟨vs, k, ml, hi⟩, ⟨oD, hT⟩, ne, sub, nsrc, ap⟩ := id H
    revert ap
    revert nsrc
    revert sub
    revert ne
    revert hT
    revert oD
    revert hi
    revert ml
    revert k
    revert vs
    revert hP
    revert mo
    revert o
    revert d6
    revert m6
    revert o6
    revert d5
    revert m5
    revert t5
    revert o5
    revert d4
    revert m4
    revert o4
    revert d3
    revert m3
    revert o3
    revert d2
    revert m2
    revert t2
    revert o2
    revert d1
    revert m1
    revert t1
    revert o1
    exact k9
  intro o1 t1 m1 d1 o2 t2 m2 d2 o3 m3 d3 o4 m4 d4 o5 t5 m5 d5 o6 m6 d6 o mo hP vs k ml hi oD hT ne sub nsrc ap
  by_cases htn : tks = []
  · (repeat' (first | (k_unfold; (try dsimp only)) | (k_end; wrow_close) | (with_reducible ((with_reducible show wpAny _ _ (storeName (envOfC _ _ _ _ _) (PySem.Str.ofString "gone") _) _ _ _); refine stop_mk ?_)) | (with_reducible ((with_reducible show wpAny _ _ (storeName (envOfC _ _ _ _ _) (PySem.Str.ofString "taken") _) _ _ _); refine stop_mk ?_)) | (with_reducible ((with_reducible show wpAny _ _ (execs [PySem.Stmt.If _ _ _ _] _) _ _ _); refine stop_mk ?_)) | (with_reducible ((with_reducible show wpAny _ _ (execs (PySem.Stmt.Assign [PySem.Expr.Name (PySem.Str.ofString "due") _] _ _ :: _) _) _ _ _); refine stop_mk ?_)) | ((with_reducible show wpAny _ _ (compareOp PySem.CmpOp.NotEq (Value.ref _) (Value.ref _)) _ _ _); with_reducible (k_here; k_dflt (refine' m_neInts ?k1 ?k2 ?k3 ?k4 ?k5 ?k6 ?_; (case k1 => k_asm); (case k2 => k_mem); (case k3 => k_mem); (case k4 => l_ints); (case k5 => first | exact IntsAre.nil | l_ints); (case k6 => walk_at "un9")))) | ((with_reducible show wpAny _ _ (eval (PySem.Expr.ListComp _ _ _) _) _ _ _); with_reducible (k_here; lct_look; k_dflt (refine' LCt.ListComp_T (F₀ := ?f0) ?c ?d ?e ?f ?g ?_; (case f0 => k_asm); (case c => with_unfolding_all rfl); (case d => decide); (case e => rfl); (case f => decide); (case g => rfl)))) | walk1 | (dsimp only; walk1) | (leave1; try dsimp only)))
    unfold Stop
    refine' ports_else ho1 hb31 rfl G' ?F ?N R XB TB ?H ha ha2 hn hn2 hf hl hE ?r
    case N => k_asm
    case F => k_asm
    case H => exact H.mono (by walk_at "sub9")
    case r =>
      intro g2 h2 tk2 m2 T2 tl2 f2 x G2 hk2 hf2 hx2 hl2 H2 F2 N2
      (try k_fold)
      (repeat' (first | (k_unfold; (try dsimp only)) | (k_end; wrow_close) | (with_reducible ((with_reducible show wpAny _ _ (storeName (envOfC _ _ _ _ _) (PySem.Str.ofString "gone") _) _ _ _); refine stop_mk ?_)) | (with_reducible ((with_reducible show wpAny _ _ (storeName (envOfC _ _ _ _ _) (PySem.Str.ofString "taken") _) _ _ _); refine stop_mk ?_)) | (with_reducible ((with_reducible show wpAny _ _ (execs [PySem.Stmt.If _ _ _ _] _) _ _ _); refine stop_mk ?_)) | (with_reducible ((with_reducible show wpAny _ _ (execs (PySem.Stmt.Assign [PySem.Expr.Name (PySem.Str.ofString "due") _] _ _ :: _) _) _ _ _); refine stop_mk ?_)) | ((with_reducible show wpAny _ _ (compareOp PySem.CmpOp.NotEq (Value.ref _) (Value.ref _)) _ _ _); with_reducible (k_here; k_dflt (refine' m_neInts ?k1 ?k2 ?k3 ?k4 ?k5 ?k6 ?_; (case k1 => k_asm); (case k2 => k_mem); (case k3 => k_mem); (case k4 => l_ints); (case k5 => first | exact IntsAre.nil | l_ints); (case k6 => walk_at "un9")))) | ((with_reducible show wpAny _ _ (eval (PySem.Expr.ListComp _ _ _) _) _ _ _); with_reducible (k_here; lct_look; k_dflt (refine' LCt.ListComp_T (F₀ := ?f0) ?c ?d ?e ?f ?g ?_; (case f0 => k_asm); (case c => with_unfolding_all rfl); (case d => decide); (case e => rfl); (case f => decide); (case g => rfl)))) | walk1 | (dsimp only; walk1) | (leave1; try dsimp only)))
      unfold Stop
      refine' ports_check ho1 hb31 G2 F2 N2 R H2 ha ha2 hn hn2 ?_
      intro h3 tk3 T3 H3 F3 N3
      exact hnext _ _ _ _ _ _ _ _ _ G2 hk2 hf2 (fun z hz => (List.mem_append.mp hz).elim (htk z) (hx2 z)) (by rw [List.length_append]; omega) H3 F3 N3
  · have hl0 : 0 < tks.length := List.length_pos_iff.mpr htn
    (repeat' (first | (k_unfold; (try dsimp only)) | (k_end; wrow_close) | (with_reducible ((with_reducible show wpAny _ _ (storeName (envOfC _ _ _ _ _) (PySem.Str.ofString "gone") _) _ _ _); refine stop_mk ?_)) | (with_reducible ((with_reducible show wpAny _ _ (storeName (envOfC _ _ _ _ _) (PySem.Str.ofString "taken") _) _ _ _); refine stop_mk ?_)) | (with_reducible ((with_reducible show wpAny _ _ (execs [PySem.Stmt.If _ _ _ _] _) _ _ _); refine stop_mk ?_)) | (with_reducible ((with_reducible show wpAny _ _ (execs (PySem.Stmt.Assign [PySem.Expr.Name (PySem.Str.ofString "due") _] _ _ :: _) _) _ _ _); refine stop_mk ?_)) | ((with_reducible show wpAny _ _ (compareOp PySem.CmpOp.NotEq (Value.ref _) (Value.ref _)) _ _ _); with_reducible (k_here; k_dflt (refine' m_neInts ?k1 ?k2 ?k3 ?k4 ?k5 ?k6 ?_; (case k1 => k_asm); (case k2 => k_mem); (case k3 => k_mem); (case k4 => l_ints); (case k5 => first | exact IntsAre.nil | l_ints); (case k6 => walk_at "un9")))) | ((with_reducible show wpAny _ _ (eval (PySem.Expr.ListComp _ _ _) _) _ _ _); with_reducible (k_here; lct_look; k_dflt (refine' LCt.ListComp_T (F₀ := ?f0) ?c ?d ?e ?f ?g ?_; (case f0 => k_asm); (case c => with_unfolding_all rfl); (case d => decide); (case e => rfl); (case f => decide); (case g => rfl)))) | walk1 | (dsimp only; walk1) | (leave1; try dsimp only)))
    refine ps_take (by walk_at "cx9") (by walk_at "rm9") (H.mono (by walk_at "sub9")) (by decide) (by decide) ?_
    intro d t T9 h' tk' hd0 hd1 H9 F9 N9
    refine' elimG ?h9y3 ?k9y3
    case h9y3 =>
      intro G9 k9
      obtain ⟨⟨o1, t1, m1, d1⟩, ⟨o2, t2, m2, d2⟩, ⟨o3, m3, d3⟩, ⟨o4, m4, d4⟩, ⟨o5, t5, m5, d5⟩, ⟨o6, m6, d6⟩, ⟨o, mo, hP⟩, ⟨vs, k, ml, hi⟩, ⟨oD, hT⟩, ne, sub, nsrc, ap⟩ := id H9
      revert ap
      revert nsrc
      revert sub
      revert ne
      revert hT
      revert oD
      revert hi
      revert ml
      revert k
      revert vs
      revert hP
      revert mo
      revert o
      revert d6
      revert m6
      revert o6
      revert d5
      revert m5
      revert t5
      revert o5
      revert d4
      revert m4
      revert o4
      revert d3
      revert m3
      revert o3
      revert d2
      revert m2
      revert t2
      revert o2
      revert d1
      revert m1
      revert t1
      revert o1
      exact k9
    intro o1 t1 m1 d1 o2 t2 m2 d2 o3 m3 d3 o4 m4 d4 o5 t5 m5 d5 o6 m6 d6 o mo hP vs k ml hi oD hT ne sub nsrc ap
    (try k_fold)
    (repeat' (first | (k_unfold; (try dsimp only)) | (k_end; wrow_close) | (with_reducible ((with_reducible show wpAny _ _ (storeName (envOfC _ _ _ _ _) (PySem.Str.ofString "gone") _) _ _ _); refine stop_mk ?_)) | (with_reducible ((with_reducible show wpAny _ _ (storeName (envOfC _ _ _ _ _) (PySem.Str.ofString "taken") _) _ _ _); refine stop_mk ?_)) | (with_reducible ((with_reducible show wpAny _ _ (execs [PySem.Stmt.If _ _ _ _] _) _ _ _); refine stop_mk ?_)) | (with_reducible ((with_reducible show wpAny _ _ (execs (PySem.Stmt.Assign [PySem.Expr.Name (PySem.Str.ofString "due") _] _ _ :: _) _) _ _ _); refine stop_mk ?_)) | ((with_reducible show wpAny _ _ (compareOp PySem.CmpOp.NotEq (Value.ref _) (Value.ref _)) _ _ _); with_reducible (k_here; k_dflt (refine' m_neInts ?k1 ?k2 ?k3 ?k4 ?k5 ?k6 ?_; (case k1 => k_asm); (case k2 => k_mem); (case k3 => k_mem); (case k4 => l_ints); (case k5 => first | exact IntsAre.nil | l_ints); (case k6 => walk_at "un9")))) | ((with_reducible show wpAny _ _ (eval (PySem.Expr.ListComp _ _ _) _) _ _ _); with_reducible (k_here; lct_look; k_dflt (refine' LCt.ListComp_T (F₀ := ?f0) ?c ?d ?e ?f ?g ?_; (case f0 => k_asm); (case c => with_unfolding_all rfl); (case d => decide); (case e => rfl); (case f => decide); (case g => rfl)))) | walk1 | (dsimp only; walk1) | (leave1; try dsimp only)))
    · refine ps_one (by walk_at "cx9") (by walk_at "rm9") (H9.mono (by walk_at "sub9")) hl0 (by omega) ?_
      intro z tz T10 h10 tk10 hz H10 F10 N10
      (try k_fold)
      (repeat' (first | (k_unfold; (try dsimp only)) | (k_end; wrow_close) | (with_reducible ((with_reducible show wpAny _ _ (storeName (envOfC _ _ _ _ _) (PySem.Str.ofString "gone") _) _ _ _); refine stop_mk ?_)) | (with_reducible ((with_reducible show wpAny _ _ (storeName (envOfC _ _ _ _ _) (PySem.Str.ofString "taken") _) _ _ _); refine stop_mk ?_)) | (with_reducible ((with_reducible show wpAny _ _ (execs [PySem.Stmt.If _ _ _ _] _) _ _ _); refine stop_mk ?_)) | (with_reducible ((with_reducible show wpAny _ _ (execs (PySem.Stmt.Assign [PySem.Expr.Name (PySem.Str.ofString "due") _] _ _ :: _) _) _ _ _); refine stop_mk ?_)) | ((with_reducible show wpAny _ _ (compareOp PySem.CmpOp.NotEq (Value.ref _) (Value.ref _)) _ _ _); with_reducible (k_here; k_dflt (refine' m_neInts ?k1 ?k2 ?k3 ?k4 ?k5 ?k6 ?_; (case k1 => k_asm); (case k2 => k_mem); (case k3 => k_mem); (case k4 => l_ints); (case k5 => first | exact IntsAre.nil | l_ints); (case k6 => walk_at "un9")))) | ((with_reducible show wpAny _ _ (eval (PySem.Expr.ListComp _ _ _) _) _ _ _); with_reducible (k_here; lct_look; k_dflt (refine' LCt.ListComp_T (F₀ := ?f0) ?c ?d ?e ?f ?g ?_; (case f0 => k_asm); (case c => with_unfolding_all rfl); (case d => decide); (case e => rfl); (case f => decide); (case g => rfl)))) | walk1 | (dsimp only; walk1) | (leave1; try dsimp only)))
      unfold Stop
      refine ps_store6 (by k_asm) (by k_asm) H10 rfl ?_
      intro T11 h11 hk11 H11 F11 N11
      refine' elimG ?h9y4 ?k9y4
      case h9y4 =>
        intro G9 k9
        obtain ⟨⟨o1, t1, m1, d1⟩, ⟨o2, t2, m2, d2⟩, ⟨o3, m3, d3⟩, ⟨o4, m4, d4⟩, ⟨o5, t5, m5, d5⟩, ⟨o6, m6, d6⟩, ⟨o, mo, hP⟩, ⟨vs, k, ml, hi⟩, ⟨oD, hT⟩, ne, sub, nsrc, ap⟩ := id H11
        revert ap
        revert nsrc
        revert sub
        revert ne
        revert hT
        revert oD
        revert hi
        revert ml
        revert k
        revert vs
        revert hP
        revert mo
        revert o
        revert d6
        revert m6
        revert o6
        revert d5
        revert m5
        revert t5
        revert o5
        revert d4
        revert m4
        revert o4
        revert d3
        revert m3
        revert o3
        revert d2
        revert m2
        revert t2
        revert o2
        revert d1
        revert m1
        revert t1
        revert o1
        exact k9
      intro o1 t1 m1 d1 o2 t2 m2 d2 o3 m3 d3 o4 m4 d4 o5 t5 m5 d5 o6 m6 d6 o mo hP vs k ml hi oD hT ne sub nsrc ap
      refine' elimG ?h9y5 ?k9y5
      case h9y5 =>
        intro G9 k9
        obtain ⟨q1, ⟨g1, g2, g3, g4, u1, u2, u3, u4, v1, v2, v3, nn, q2⟩, q3, q4, q5⟩ := id hT
        revert q5
        revert q4
        revert q3
        revert q2
        revert nn
        revert v3
        revert v2
        revert v1
        revert u4
        revert u3
        revert u2
        revert u1
        revert g4
        revert g3
        revert g2
        revert g1
        revert q1
        exact k9
      intro q1 g1 g2 g3 g4 u1 u2 u3 u4 v1 v2 v3 nn q2 q3 q4 q5
      (try k_fold)
      (repeat' (first | (k_unfold; (try dsimp only)) | (k_end; wrow_close) | (with_reducible ((with_reducible show wpAny _ _ (storeName (envOfC _ _ _ _ _) (PySem.Str.ofString "gone") _) _ _ _); refine stop_mk ?_)) | (with_reducible ((with_reducible show wpAny _ _ (storeName (envOfC _ _ _ _ _) (PySem.Str.ofString "taken") _) _ _ _); refine stop_mk ?_)) | (with_reducible ((with_reducible show wpAny _ _ (execs [PySem.Stmt.If _ _ _ _] _) _ _ _); refine stop_mk ?_)) | (with_reducible ((with_reducible show wpAny _ _ (execs (PySem.Stmt.Assign [PySem.Expr.Name (PySem.Str.ofString "due") _] _ _ :: _) _) _ _ _); refine stop_mk ?_)) | ((with_reducible show wpAny _ _ (compareOp PySem.CmpOp.NotEq (Value.ref _) (Value.ref _)) _ _ _); with_reducible (k_here; k_dflt (refine' m_neInts ?k1 ?k2 ?k3 ?k4 ?k5 ?k6 ?_; (case k1 => k_asm); (case k2 => k_mem); (case k3 => k_mem); (case k4 => l_ints); (case k5 => first | exact IntsAre.nil | l_ints); (case k6 => walk_at "un9")))) | ((with_reducible show wpAny _ _ (eval (PySem.Expr.ListComp _ _ _) _) _ _ _); with_reducible (k_here; lct_look; k_dflt (refine' LCt.ListComp_T (F₀ := ?f0) ?c ?d ?e ?f ?g ?_; (case f0 => k_asm); (case c => with_unfolding_all rfl); (case d => decide); (case e => rfl); (case f => decide); (case g => rfl)))) | walk1 | (dsimp only; walk1) | (leave1; try dsimp only)))
      refine ps_free (by walk_at "cx9") (by walk_at "rm9") H11 hz (by omega) ?_
      intro T12 h12 tk12 H12 F12 N12
      refine' elimG ?h9y6 ?k9y6
      case h9y6 =>
        intro G9 k9
        obtain ⟨⟨o1, t1, m1, d1⟩, ⟨o2, t2, m2, d2⟩, ⟨o3, m3, d3⟩, ⟨o4, m4, d4⟩, ⟨o5, t5, m5, d5⟩, ⟨o6, m6, d6⟩, ⟨o, mo, hP⟩, ⟨vs, k, ml, hi⟩, ⟨oD, hT⟩, ne, sub, nsrc, ap⟩ := id H12
        revert ap
        revert nsrc
        revert sub
        revert ne
        revert hT
        revert oD
        revert hi
        revert ml
        revert k
        revert vs
        revert hP
        revert mo
        revert o
        revert d6
        revert m6
        revert o6
        revert d5
        revert m5
        revert t5
        revert o5
        revert d4
        revert m4
        revert o4
        revert d3
        revert m3
        revert o3
        revert d2
        revert m2
        revert t2
        revert o2
        revert d1
        revert m1
        revert t1
        revert o1
        exact k9
      intro o1 t1 m1 d1 o2 t2 m2 d2 o3 m3 d3 o4 m4 d4 o5 t5 m5 d5 o6 m6 d6 o mo hP vs k ml hi oD hT ne sub nsrc ap
      have hyl : vs.length < 50 := by rw [hi.length]; exact hl
      (try k_fold)
      (repeat' (first | (k_unfold; (try dsimp only)) | (k_end; wrow_close) | (with_reducible ((with_reducible show wpAny _ _ (storeName (envOfC _ _ _ _ _) (PySem.Str.ofString "gone") _) _ _ _); refine stop_mk ?_)) | (with_reducible ((with_reducible show wpAny _ _ (storeName (envOfC _ _ _ _ _) (PySem.Str.ofString "taken") _) _ _ _); refine stop_mk ?_)) | (with_reducible ((with_reducible show wpAny _ _ (execs [PySem.Stmt.If _ _ _ _] _) _ _ _); refine stop_mk ?_)) | (with_reducible ((with_reducible show wpAny _ _ (execs (PySem.Stmt.Assign [PySem.Expr.Name (PySem.Str.ofString "due") _] _ _ :: _) _) _ _ _); refine stop_mk ?_)) | ((with_reducible show wpAny _ _ (compareOp PySem.CmpOp.NotEq (Value.ref _) (Value.ref _)) _ _ _); with_reducible (k_here; k_dflt (refine' m_neInts ?k1 ?k2 ?k3 ?k4 ?k5 ?k6 ?_; (case k1 => k_asm); (case k2 => k_mem); (case k3 => k_mem); (case k4 => l_ints); (case k5 => first | exact IntsAre.nil | l_ints); (case k6 => walk_at "un9")))) | ((with_reducible show wpAny _ _ (eval (PySem.Expr.ListComp _ _ _) _) _ _ _); with_reducible (k_here; lct_look; k_dflt (refine' LCt.ListComp_T (F₀ := ?f0) ?c ?d ?e ?f ?g ?_; (case f0 => k_asm); (case c => with_unfolding_all rfl); (case d => decide); (case e => rfl); (case f => decide); (case g => rfl)))) | walk1 | (dsimp only; walk1) | (leave1; try dsimp only)))
      unfold Stop
      refine filt_ints (ns := tks) (f := fun i => tks.getD i 0) (fun y => y != z) ?_ ?_ (.inr ⟨_, (by k_mem), rfl, _, rfl⟩) rfl rfl (by decide) ?_ ?_
      · intro i v hi9 hv
        refine' elimG ?h9y8 ?k9y8
        case h9y8 =>
          have h9z := hi.at i v (by rw [← List.getElem?_toArray]; exact hv)
          intro G9 k9
          obtain ⟨k', t', e9x7, hk'⟩ := h9z
          revert hk'
          revert e9x7
          revert t'
          revert k'
          exact k9
        intro k' t' e9x7 hk'
        subst e9x7
        exact ⟨t', by rw [List.getD_eq_getElem?_getD, hk']; rfl⟩
      · have hz : vs.toArray.size = tks.length := by rw [List.size_toArray]; exact hi.length
        rw [hz]
        refine List.ext_getElem? fun i => ?_
        rw [List.getElem?_map]
        by_cases hi9 : i < tks.length
        · rw [List.getElem?_range hi9, Option.map_some, List.getD_eq_getElem?_getD, List.getElem?_eq_getElem hi9]; rfl
        · rw [List.getElem?_eq_none (by omega), List.getElem?_eq_none (by rw [List.length_range]; omega)]; rfl
      · intro i t ys I oI C oC D m₂ h tk E' hi9 hC hx F N
        (try k_fold)
        (repeat' (first | (k_unfold; (try dsimp only)) | (k_end; wrow_close) | (with_reducible ((with_reducible show wpAny _ _ (storeName (envOfC _ _ _ _ _) (PySem.Str.ofString "gone") _) _ _ _); refine stop_mk ?_)) | (with_reducible ((with_reducible show wpAny _ _ (storeName (envOfC _ _ _ _ _) (PySem.Str.ofString "taken") _) _ _ _); refine stop_mk ?_)) | (with_reducible ((with_reducible show wpAny _ _ (execs [PySem.Stmt.If _ _ _ _] _) _ _ _); refine stop_mk ?_)) | (with_reducible ((with_reducible show wpAny _ _ (execs (PySem.Stmt.Assign [PySem.Expr.Name (PySem.Str.ofString "due") _] _ _ :: _) _) _ _ _); refine stop_mk ?_)) | ((with_reducible show wpAny _ _ (compareOp PySem.CmpOp.NotEq (Value.ref _) (Value.ref _)) _ _ _); with_reducible (k_here; k_dflt (refine' m_neInts ?k1 ?k2 ?k3 ?k4 ?k5 ?k6 ?_; (case k1 => k_asm); (case k2 => k_mem); (case k3 => k_mem); (case k4 => l_ints); (case k5 => first | exact IntsAre.nil | l_ints); (case k6 => walk_at "un9")))) | ((with_reducible show wpAny _ _ (eval (PySem.Expr.ListComp _ _ _) _) _ _ _); with_reducible (k_here; lct_look; k_dflt (refine' LCt.ListComp_T (F₀ := ?f0) ?c ?d ?e ?f ?g ?_; (case f0 => k_asm); (case c => with_unfolding_all rfl); (case d => decide); (case e => rfl); (case f => decide); (case g => rfl)))) | walk1 | (dsimp only; walk1) | (leave1; try dsimp only)))
        exact ⟨_, _, rfl, rfl, by k_asm, by k_asm⟩
      · intro ys hI
        have ek : (fun y : Int => y != z) = fun y => decide (y ≠ z) := by funext y; simp [bne, decide_not]; rw [Bool.eq_iff_iff]; simp
        rw [ek] at hI
        (repeat' (first | (k_unfold; (try dsimp only)) | (k_end; wrow_close) | (with_reducible ((with_reducible show wpAny _ _ (storeName (envOfC _ _ _ _ _) (PySem.Str.ofString "gone") _) _ _ _); refine stop_mk ?_)) | (with_reducible ((with_reducible show wpAny _ _ (storeName (envOfC _ _ _ _ _) (PySem.Str.ofString "taken") _) _ _ _); refine stop_mk ?_)) | (with_reducible ((with_reducible show wpAny _ _ (execs [PySem.Stmt.If _ _ _ _] _) _ _ _); refine stop_mk ?_)) | (with_reducible ((with_reducible show wpAny _ _ (execs (PySem.Stmt.Assign [PySem.Expr.Name (PySem.Str.ofString "due") _] _ _ :: _) _) _ _ _); refine stop_mk ?_)) | ((with_reducible show wpAny _ _ (compareOp PySem.CmpOp.NotEq (Value.ref _) (Value.ref _)) _ _ _); with_reducible (k_here; k_dflt (refine' m_neInts ?k1 ?k2 ?k3 ?k4 ?k5 ?k6 ?_; (case k1 => k_asm); (case k2 => k_mem); (case k3 => k_mem); (case k4 => l_ints); (case k5 => first | exact IntsAre.nil | l_ints); (case k6 => walk_at "un9")))) | ((with_reducible show wpAny _ _ (eval (PySem.Expr.ListComp _ _ _) _) _ _ _); with_reducible (k_here; lct_look; k_dflt (refine' LCt.ListComp_T (F₀ := ?f0) ?c ?d ?e ?f ?g ?_; (case f0 => k_asm); (case c => with_unfolding_all rfl); (case d => decide); (case e => rfl); (case f => decide); (case g => rfl)))) | walk1 | (dsimp only; walk1) | (leave1; try dsimp only)))
        unfold Stop
        refine ps_store4 (by k_asm) (by k_asm) (H12.mono (by walk_at "sub9")) (by k_mem) hI (Ne.symm (off1_mem (by assumption) _ mo)) rfl ?_
        intro T13 h13 hk13 H13 F13 N13
        (try k_fold)
        (repeat' (first | (k_unfold; (try dsimp only)) | (k_end; wrow_close) | (with_reducible ((with_reducible show wpAny _ _ (storeName (envOfC _ _ _ _ _) (PySem.Str.ofString "gone") _) _ _ _); refine stop_mk ?_)) | (with_reducible ((with_reducible show wpAny _ _ (storeName (envOfC _ _ _ _ _) (PySem.Str.ofString "taken") _) _ _ _); refine stop_mk ?_)) | (with_reducible ((with_reducible show wpAny _ _ (execs [PySem.Stmt.If _ _ _ _] _) _ _ _); refine stop_mk ?_)) | (with_reducible ((with_reducible show wpAny _ _ (execs (PySem.Stmt.Assign [PySem.Expr.Name (PySem.Str.ofString "due") _] _ _ :: _) _) _ _ _); refine stop_mk ?_)) | ((with_reducible show wpAny _ _ (compareOp PySem.CmpOp.NotEq (Value.ref _) (Value.ref _)) _ _ _); with_reducible (k_here; k_dflt (refine' m_neInts ?k1 ?k2 ?k3 ?k4 ?k5 ?k6 ?_; (case k1 => k_asm); (case k2 => k_mem); (case k3 => k_mem); (case k4 => l_ints); (case k5 => first | exact IntsAre.nil | l_ints); (case k6 => walk_at "un9")))) | ((with_reducible show wpAny _ _ (eval (PySem.Expr.ListComp _ _ _) _) _ _ _); with_reducible (k_here; lct_look; k_dflt (refine' LCt.ListComp_T (F₀ := ?f0) ?c ?d ?e ?f ?g ?_; (case f0 => k_asm); (case c => with_unfolding_all rfl); (case d => decide); (case e => rfl); (case f => decide); (case g => rfl)))) | walk1 | (dsimp only; walk1) | (leave1; try dsimp only)))
        unfold Stop
        refine' ports_check ho1 hb31 G' F13 N13 R H13 ha ha2 hn hn2 ?_
        intro h3 tk3 T3 H3 F3 N3
        exact hnext _ _ _ _ _ _ _ _ _ G' (by ((intro kyy kyhy; simp only [List.contains_cons, List.contains_nil, Bool.or_false, Bool.or_eq_false_iff, beq_eq_false_iff_ne, ne_eq] at kyhy; simp [kyhy]))) hf (fun y hy => htk y (List.mem_filter.mp hy).1) (Nat.le_trans (List.length_filter_le _ _) (Nat.le_succ _)) H3 F3 N3
    · unfold Stop
      refine' ports_else ho1 hb31 rfl G' ?F ?N R XB TB ?H ha ha2 hn hn2 hf hl hE ?r
      case N => k_asm
      case F => k_asm
      case H => exact H9.mono (by walk_at "sub9")
      case r =>
        intro g2 h2 tk2 m2 T2 tl2 f2 x G2 hk2 hf2 hx2 hl2 H2 F2 N2
        (try k_fold)
        (repeat' (first | (k_unfold; (try dsimp only)) | (k_end; wrow_close) | (with_reducible ((with_reducible show wpAny _ _ (storeName (envOfC _ _ _ _ _) (PySem.Str.ofString "gone") _) _ _ _); refine stop_mk ?_)) | (with_reducible ((with_reducible show wpAny _ _ (storeName (envOfC _ _ _ _ _) (PySem.Str.ofString "taken") _) _ _ _); refine stop_mk ?_)) | (with_reducible ((with_reducible show wpAny _ _ (execs [PySem.Stmt.If _ _ _ _] _) _ _ _); refine stop_mk ?_)) | (with_reducible ((with_reducible show wpAny _ _ (execs (PySem.Stmt.Assign [PySem.Expr.Name (PySem.Str.ofString "due") _] _ _ :: _) _) _ _ _); refine stop_mk ?_)) | ((with_reducible show wpAny _ _ (compareOp PySem.CmpOp.NotEq (Value.ref _) (Value.ref _)) _ _ _); with_reducible (k_here; k_dflt (refine' m_neInts ?k1 ?k2 ?k3 ?k4 ?k5 ?k6 ?_; (case k1 => k_asm); (case k2 => k_mem); (case k3 => k_mem); (case k4 => l_ints); (case k5 => first | exact IntsAre.nil | l_ints); (case k6 => walk_at "un9")))) | ((with_reducible show wpAny _ _ (eval (PySem.Expr.ListComp _ _ _) _) _ _ _); with_reducible (k_here; lct_look; k_dflt (refine' LCt.ListComp_T (F₀ := ?f0) ?c ?d ?e ?f ?g ?_; (case f0 => k_asm); (case c => with_unfolding_all rfl); (case d => decide); (case e => rfl); (case f => decide); (case g => rfl)))) | walk1 | (dsimp only; walk1) | (leave1; try dsimp only)))
        unfold Stop
        refine' ports_check ho1 hb31 G2 F2 N2 R H2 ha ha2 hn hn2 ?_
        intro h3 tk3 T3 H3 F3 N3
        exact hnext _ _ _ _ _ _ _ _ _ G2 hk2 hf2 (fun z hz => (List.mem_append.mp hz).elim (htk z) (hx2 z)) (by rw [List.length_append]; omega) H3 F3 N3
end
section
variable {prog : Program} {w : World} {p : Program} {loose : List Str} {mean : ExcName → Option Value} {mg mb : Str → Option Value}
  {dp un : Nat} {gd : Option (List Code)} {cn : Str} {cs : Scope} {fa : Addr} {ccd : Value} {A₀ : Around} {base g g₀ h₀ : Heap} {L L' : Addr} {m : Str → Option Value} {s : Shared} {E : Value → Shared → Prop} {Q : Flow → Shared → Prop}
  {news T : List (Addr × Obj)} {name qual : Str} {params : Arguments} {body : List Stmt} {scope : Scope} {dV kV doc pm cdv ct oc : Value} {an od : Option Addr} {osl : Array (Option Value)}
  {src pr dx Dd tl : Addr} {a n f : Int} {tks : List Int} {gv : Option Value}
set_option maxHeartbeats 4000000 in
theorem ports_bad {tgt it : PySem.Expr} {bd els : List Stmt} {pos : Pos} {x : Int} {tx : Tok} (ho : (hd.heap_1 w.params).lookup 388 = some ⟨oc, od, .func (fnOf name qual params body scope dV kV doc pm an cdv ct), osl⟩)
  (hb4 : body[4]? = some (.For tgt it bd els pos)) (hmx : m (Str.ofString "number") = some (.int x tx))
  (G : Gd w p loose mean mg mb (ktrTop dp un gd cn cs L fa ccd [] []) base g₀ g [envX cn cs L fa ccd []]) (F : Fr g L' s.heap m) (N : News g L' s.heap T) (R : Rm cs dp un 8) (XB : (hd.heap_1 w.params).In base) (TB : Top p loose mean mg mb base)
  (H : PS prog w news T (L' + 1) src pr dx Dd tl a n f tks f tks gv) (hx0 : x ≠ 0) (hlo : -10 < x) (hhi : x < 70000) (hx : x < 1 ∨ 65535 < x ∨ x ∈ tks) (hl : tks.length < 50)
  (hE : ∀ e, PassesOwnAt (model prog w) (((ktrTop dp un gd cn cs L fa ccd [] []).deeper (envOfC qual scope L' 388 cdv)).mark (some (.ref e))) ((ktrTop dp un gd cn cs L fa ccd [] []).deeper (envOfC qual scope L' 388 cdv)) (envOfC qual scope L' 388 cdv) E)
  (hnext : ∀ g' h' tk' T' tl', Gd w p loose mean mg mb (ktrTop dp un gd cn cs L fa ccd [] []) base g₀ g' [envX cn cs L fa ccd []] → PS prog w news T' (L' + 1) src pr dx Dd tl' a n f tks f tks gv → (∀ q ∈ T, okind q.2 ≠ 0 → q ∈ T') → Fr g' L' h' m → News g' L' h' T' → Q .next { s with heap := h', toks := tk' }) :
  wpAny (model prog w) ((ktrTop dp un gd cn cs L fa ccd [] []).deeper (envOfC qual scope L' 388 cdv)) (execs bd (envOfC qual scope L' 388 cdv)) Q E s := by
  have e := lookup_same ho (by k_is)
  cases e
  injection (show some (PySem.Stmt.For _ _ _ _ _) = some (PySem.Stmt.For _ _ _ _ _) from hb4) with e3
  injection e3 with e31 e32 e33 e34 e35
  subst e33
  clear e31 e32 e34 e35
  have hRd := R.hd
  have hRu := R.hu
  refine' elimG ?h9y1 ?k9y1
  case h9y1 =>
    intro G9 k9
    obtain ⟨B, X, Tp, Dt, K0⟩ := id G
    revert K0
    revert Dt
    revert Tp
    revert X
    revert B
    exact k9
  intro B X Tp Dt K0
  try clear G
  refine' elimG ?h9y2 ?k9y2
  case h9y2 =>
    intro G9 k9
    obtain ⟨⟨o1, t1, m1, d1⟩, ⟨o2, t2, m2, d2⟩, ⟨o3, m3, d3⟩, ⟨o4, m4, d4⟩, ⟨o5, t5, m5, d5⟩, ⟨o6, m6, d6⟩, ⟨o, mo, hP⟩, ⟨vs, k, ml, hi⟩, ⟨oD, hT⟩, ne, sub, nsrc, ap⟩ := id H
    revert ap
    revert nsrc
    revert sub
    revert ne
    revert hT
    revert oD
    revert hi
    revert ml
    revert k
    revert vs
    revert hP
    revert mo
    revert o
    revert d6
    revert m6
    revert o6
    revert d5
    revert m5
    revert t5
    revert o5
    revert d4
    revert m4
    revert o4
    revert d3
    revert m3
    revert o3
    revert d2
    revert m2
    revert t2
    revert o2
    revert d1
    revert m1
    revert t1
    revert o1
    exact k9
  intro o1 t1 m1 d1 o2 t2 m2 d2 o3 m3 d3 o4 m4 d4 o5 t5 m5 d5 o6 m6 d6 o mo hP vs k ml hi oD hT ne sub nsrc ap
  refine' elimG ?h9y3 ?k9y3
  case h9y3 =>
    intro G9 k9
    obtain ⟨q1, ⟨g1, g2, g3, g4, u1, u2, u3, u4, v1, v2, v3, nn, q2⟩, q3, q4, q5⟩ := id hT
    revert q5
    revert q4
    revert q3
    revert q2
    revert nn
    revert v3
    revert v2
    revert v1
    revert u4
    revert u3
    revert u2
    revert u1
    revert g4
    revert g3
    revert g2
    revert g1
    revert q1
    exact k9
  intro q1 g1 g2 g3 g4 u1 u2 u3 u4 v1 v2 v3 nn q2 q3 q4 q5
  have hyl : vs.length < 50 := by rw [hi.length]; exact hl
  (repeat' (first | (k_unfold; (try dsimp only)) | (k_end; wrow_close) | ((with_reducible show wpAny _ _ (noteFrame _ _) _ _ _); with_reducible (k_here; (rename RaisedS _ _ _ _ _ _ _ _ _ => rsX); k_dflt (refine' caughtX (hE := ?hE) rsX ?F ?K ?U ?XB ?TB ?D ?T0 ?ex ?q ?_; (case hE => first | passes_own | (rename ∀ e, PassesOwnAt _ _ _ _ _ => hE9; exact hE9 _)); (case F => assumption); (case K => assumption); (case U => assumption); (case XB => assumption); (case TB => assumption); (case D => assumption); (case T0 => assumption); (case ex => k_is); (case q => exact (exc68 _).kts); k_whole); intro kyh' kyg' kyT' kyF' kyN' kyK' kyX' kyP' kyD'; (try dsimp only); (try k_fold))) | (with_reducible ((with_reducible show wpAny _ _ (exec (PySem.Stmt.Try _ (_ :: _) _ [] _) (envOfC _ _ _ _ _)) _ _ _); refine wpAny_Try_except ?_)) | walk1 | (dsimp only; walk1) | (leave1; try dsimp only)))
  refine takebad_spec (by walk_at "cx9") (by walk_at "rm9") hT hx0 hlo hhi hx ?_
  ((intro kyg2' kye2' kyt2' kymsg' kyh' kytk' kyFg' kyR9 kyU9; (try k_unfold); (try dsimp only)))
  (repeat' (first | (k_unfold; (try dsimp only)) | (k_end; wrow_close) | ((with_reducible show wpAny _ _ (noteFrame _ _) _ _ _); with_reducible (k_here; (rename RaisedS _ _ _ _ _ _ _ _ _ => rsX); k_dflt (refine' caughtX (hE := ?hE) rsX ?F ?K ?U ?XB ?TB ?D ?T0 ?ex ?q ?_; (case hE => first | passes_own | (rename ∀ e, PassesOwnAt _ _ _ _ _ => hE9; exact hE9 _)); (case F => assumption); (case K => assumption); (case U => assumption); (case XB => assumption); (case TB => assumption); (case D => assumption); (case T0 => assumption); (case ex => k_is); (case q => exact (exc68 _).kts); k_whole); intro kyh' kyg' kyT' kyF' kyN' kyK' kyX' kyP' kyD'; (try dsimp only); (try k_fold))) | (with_reducible ((with_reducible show wpAny _ _ (exec (PySem.Stmt.Try _ (_ :: _) _ [] _) (envOfC _ _ _ _ _)) _ _ _); refine wpAny_Try_except ?_)) | walk1 | (dsimp only; walk1) | (leave1; try dsimp only)))
  refine list_copyK (by k_asm) (by k_asm) (News.isList (by k_asm) ml) ?_ (by rw [List.size_toArray, sizeLine_eq]; omega)
  intro D2 c2 h2 F2 N2 l2
  (try k_fold)
  (repeat' (first | (k_unfold; (try dsimp only)) | (k_end; wrow_close) | ((with_reducible show wpAny _ _ (noteFrame _ _) _ _ _); with_reducible (k_here; (rename RaisedS _ _ _ _ _ _ _ _ _ => rsX); k_dflt (refine' caughtX (hE := ?hE) rsX ?F ?K ?U ?XB ?TB ?D ?T0 ?ex ?q ?_; (case hE => first | passes_own | (rename ∀ e, PassesOwnAt _ _ _ _ _ => hE9; exact hE9 _)); (case F => assumption); (case K => assumption); (case U => assumption); (case XB => assumption); (case TB => assumption); (case D => assumption); (case T0 => assumption); (case ex => k_is); (case q => exact (exc68 _).kts); k_whole); intro kyh' kyg' kyT' kyF' kyN' kyK' kyX' kyP' kyD'; (try dsimp only); (try k_fold))) | (with_reducible ((with_reducible show wpAny _ _ (exec (PySem.Stmt.Try _ (_ :: _) _ [] _) (envOfC _ _ _ _ _)) _ _ _); refine wpAny_Try_except ?_)) | walk1 | (dsimp only; walk1) | (leave1; try dsimp only)))
  refine ps_store4 (by k_asm) (by k_asm) (H.mono (by walk_at "sub9")) (by k_mem) hi (Nat.ne_of_gt (l2 _ mo)) rfl ?_
  intro T13 h13 hk13 H13 F13 N13
  (try k_fold)
  (repeat' (first | (k_unfold; (try dsimp only)) | (k_end; wrow_close) | ((with_reducible show wpAny _ _ (noteFrame _ _) _ _ _); with_reducible (k_here; (rename RaisedS _ _ _ _ _ _ _ _ _ => rsX); k_dflt (refine' caughtX (hE := ?hE) rsX ?F ?K ?U ?XB ?TB ?D ?T0 ?ex ?q ?_; (case hE => first | passes_own | (rename ∀ e, PassesOwnAt _ _ _ _ _ => hE9; exact hE9 _)); (case F => assumption); (case K => assumption); (case U => assumption); (case XB => assumption); (case TB => assumption); (case D => assumption); (case T0 => assumption); (case ex => k_is); (case q => exact (exc68 _).kts); k_whole); intro kyh' kyg' kyT' kyF' kyN' kyK' kyX' kyP' kyD'; (try dsimp only); (try k_fold))) | (with_reducible ((with_reducible show wpAny _ _ (exec (PySem.Stmt.Try _ (_ :: _) _ [] _) (envOfC _ _ _ _ _)) _ _ _); refine wpAny_Try_except ?_)) | walk1 | (dsimp only; walk1) | (leave1; try dsimp only)))
  refine' hnext _ _ _ _ _ ⟨?B, ?X, ?Tp, ?D, ?K⟩ H13 (fun q hq hk => hk13 q (List.mem_cons_of_mem _ hq) hk) F13 N13
  case B => assumption
  case X => assumption
  case Tp => assumption
  case D => assumption
  case K => assumption
end
theorem lt_up {d e : Nat} : ∀ {l : List (Addr × Obj)}, AllLt d l → @LT.lt Nat _ d e → AllLt e l
  | [], _, _ => trivial
  | _ :: _, h, k => ⟨Nat.lt_trans h.1 k, lt_up h.2 k⟩
theorem keep_turn {stored : List Str} {x : Str} {v : Option Value} {m₀ m₁ m₂ : Str → Option Value} (hx : stored.contains x = true) (h : Keep stored (fun y => if y = x then v else if stored.contains y = true then m₁ y else m₀ y) m₂) : Keep stored m₀ m₂ := fun y hy => (h y hy).trans (by
  have hne : y ≠ x := fun e => by rw [e, hx] at hy; cases hy
  simp only [if_neg hne, hy, Bool.false_eq_true, if_false])
theorem keep_keep {stored : List Str} {x : Str} {v : Option Value} {m₀ m₁ : Str → Option Value} (hx : stored.contains x = true) : Keep stored m₀ (fun y => if y = x then v else if stored.contains y = true then m₁ y else m₀ y) := keep_turn (m₁ := m₁) (v := v) hx fun _ _ => rfl
--M<
--M>
section
variable {prog : Program} {w : World} {p : Program} {loose : List Str} {mean : ExcName → Option Value} {mg mb : Str → Option Value}
  {dp un : Nat} {gd : Option (List Code)} {cn : Str} {cs : Scope} {fa : Addr} {ccd : Value} {A₀ : Around} {base h₀ : Heap} {L : Addr} {m : Str → Option Value} {s : Shared} {Q E : Value → Shared → Prop}
  {news : List (Addr × Obj)}
set_option maxHeartbeats 4000000 in
theorem ports_core {src : Addr} {o : Obj} (hne : ∀ q ∈ news, q.1 ≠ src) (hP : PoolO o) (C : Cx w p loose mean mg mb A₀ base h₀ [] L s.heap m ((src, o) :: news)) (R : Rm cs dp un 8) (XB : (hd.heap_1 w.params).In base) (TB : Top p loose mean mg mb base)
  (hret : ∀ o' h' tk', PoolO o' → Fr h₀ L h' m → News h₀ L h' ((src, o') :: news) → Q (.bool true) { s with heap := h', toks := tk' }) :
  wpAny (model prog w) (ktrTop dp un gd cn cs L fa ccd [] []) (call (.ref 388) [.ref src]) Q E s := by
  obtain ⟨B, F, X, N, T⟩ := C
  have hRd := R.hd
  have hRu := R.hu
  refine wpAny_call ?_
  k_dflt (refine' enterSC0 (binds := [(Str.ofString "source", .ref src)]) B F X N T ?kA ?kF ?kK ?k6 ?k7 ?k8 ?k9 ?kB ?kD ?_ ?c2 ?c3 ?c4; (case kA => exact rfl); (case kF => exact rfl); (case kK => exact R.hk); (case k6 => k_is); (case k7 => k_is); (case k8 => exact Nat.lt_of_le_of_lt (Nat.le_add_right _ _) R.hd); (case k9 => exact BindsTo.of_eq rfl); (case kB => exact rfl); (case kD => decide +kernel); (case c2 => exact rfl); (case c3 => exact rfl); (case c4 => exact rfl); k_whole)
  intro g L' h' tk' cells FG F' N' Y B' X' T' D' l1
  refine' elimG ?h9y1 ?k9y1
  case h9y1 =>
    intro G9 k9
    obtain ⟨l3, l4⟩ := List.forall_mem_cons.mp l1
    revert l4
    revert l3
    exact k9
  intro l3 l4
  have l5 := ltN l3
  dsimp only at l5
  k_cells Y
  simp only [List.cons_append, List.nil_append] at N'
  (try dsimp only)
  (try k_fold)
  (repeat' (first | (k_unfold; (try dsimp only)) | (k_end; wrow_close) | (with_reducible ((with_reducible show wpAny _ _ (pyIter (Value.ref _)) (fun it s₂ => LoopB _ _ _ _ _ _ _ _ _ it s₂) _ _); refine stop_mk ?_)) | ((with_reducible show wpAny _ _ (exec (PySem.Stmt.For (PySem.Expr.Name _ _) _ _ _ _) _) _ _ _); with_reducible (k_here; (with_unfolding_all refine' For_B ?_); k_whole)) | ((with_reducible show wpAny _ _ (exec (PySem.Stmt.For (PySem.Expr.Name _ _) _ _ _ _) _) _ _ _); with_reducible (k_here; (with_unfolding_all refine' For_B ?_); k_whole)) | (with_reducible (k_here; (with_reducible show wpAny _ _ (PySem.call (Value.ref 317) _ _) _ _ _); refine stop_mk ?_)) | (with_reducible (k_here; (with_reducible show wpAny _ _ (binaryOp Operator.Add (Value.ref _) (Value.ref _)) _ _ _); k_dflt (refine' m_addInts ?k1 ?k2 ?k3 ?k4 ?k5 ?k6 ?k7 ?_; (case k1 => k_asm); (case k2 => k_asm); (case k3 => k_mem); (case k4 => k_mem); (case k5 => l_ints); (case k6 => l_ints); (case k7 => ((simp only [rangeKs_length, List.length_cons, List.length_nil]); omega))); intro kyl' kyh' kyus' kyF' kyN' kyl1 kyhI'; (try k_lt kyl1); (try k_fold))) | walk1 | (dsimp only; walk1) | (leave1; try dsimp only)))
  unfold Stop
  refine' take_spec ?c1 hP ?c3 ?c4 (by decide) (by decide) ?_
  case c3 => walk_at "cx9"
  case c1 => k_updF
  case c4 => walk_at "rm9"
  intro d1 t1 o1 h1 tk1 hd10 hd11 hP1 F1 N1
  (try k_fold)
  (repeat' (first | (k_unfold; (try dsimp only)) | (k_end; wrow_close) | (with_reducible ((with_reducible show wpAny _ _ (pyIter (Value.ref _)) (fun it s₂ => LoopB _ _ _ _ _ _ _ _ _ it s₂) _ _); refine stop_mk ?_)) | ((with_reducible show wpAny _ _ (exec (PySem.Stmt.For (PySem.Expr.Name _ _) _ _ _ _) _) _ _ _); with_reducible (k_here; (with_unfolding_all refine' For_B ?_); k_whole)) | ((with_reducible show wpAny _ _ (exec (PySem.Stmt.For (PySem.Expr.Name _ _) _ _ _ _) _) _ _ _); with_reducible (k_here; (with_unfolding_all refine' For_B ?_); k_whole)) | (with_reducible (k_here; (with_reducible show wpAny _ _ (PySem.call (Value.ref 317) _ _) _ _ _); refine stop_mk ?_)) | (with_reducible (k_here; (with_reducible show wpAny _ _ (binaryOp Operator.Add (Value.ref _) (Value.ref _)) _ _ _); k_dflt (refine' m_addInts ?k1 ?k2 ?k3 ?k4 ?k5 ?k6 ?k7 ?_; (case k1 => k_asm); (case k2 => k_asm); (case k3 => k_mem); (case k4 => k_mem); (case k5 => l_ints); (case k6 => l_ints); (case k7 => ((simp only [rangeKs_length, List.length_cons, List.length_nil]); omega))); intro kyl' kyh' kyus' kyF' kyN' kyl1 kyhI'; (try k_lt kyl1); (try k_fold))) | walk1 | (dsimp only; walk1) | (leave1; try dsimp only)))
  unfold Stop
  refine' take_spec ?c1 hP1 ?c3 ?c4 (by decide) (by decide) ?_
  case c3 => walk_at "cx9"
  case c1 => k_updF
  case c4 => walk_at "rm9"
  intro d2 t2 o2 h2 tk2 hd20 hd21 hP2 F2 N2
  (try k_fold)
  (repeat' (first | (k_unfold; (try dsimp only)) | (k_end; wrow_close) | (with_reducible ((with_reducible show wpAny _ _ (pyIter (Value.ref _)) (fun it s₂ => LoopB _ _ _ _ _ _ _ _ _ it s₂) _ _); refine stop_mk ?_)) | ((with_reducible show wpAny _ _ (exec (PySem.Stmt.For (PySem.Expr.Name _ _) _ _ _ _) _) _ _ _); with_reducible (k_here; (with_unfolding_all refine' For_B ?_); k_whole)) | ((with_reducible show wpAny _ _ (exec (PySem.Stmt.For (PySem.Expr.Name _ _) _ _ _ _) _) _ _ _); with_reducible (k_here; (with_unfolding_all refine' For_B ?_); k_whole)) | (with_reducible (k_here; (with_reducible show wpAny _ _ (PySem.call (Value.ref 317) _ _) _ _ _); refine stop_mk ?_)) | (with_reducible (k_here; (with_reducible show wpAny _ _ (binaryOp Operator.Add (Value.ref _) (Value.ref _)) _ _ _); k_dflt (refine' m_addInts ?k1 ?k2 ?k3 ?k4 ?k5 ?k6 ?k7 ?_; (case k1 => k_asm); (case k2 => k_asm); (case k3 => k_mem); (case k4 => k_mem); (case k5 => l_ints); (case k6 => l_ints); (case k7 => ((simp only [rangeKs_length, List.length_cons, List.length_nil]); omega))); intro kyl' kyh' kyus' kyF' kyN' kyl1 kyhI'; (try k_lt kyl1); (try k_fold))) | walk1 | (dsimp only; walk1) | (leave1; try dsimp only)))
  refine mkports_spec (by walk_at "cx9") (by walk_at "rm9") (by omega) (by omega) (by omega) ?_
  intro pr dx Dd oD dd h3 tk3 hPR hfr hlt1 hlt2 F3 N3
  have hfr' := hfr
  k_lt hfr'
  have hfr2 := lt_up hfr' hlt1
  have hfr3 := lt_up hfr2 hlt2
  have hlt3 := ltN hlt1
  have hlt4 := ltN hlt2
  (try k_fold)
  (repeat' (first | (k_unfold; (try dsimp only)) | (k_end; wrow_close) | (with_reducible ((with_reducible show wpAny _ _ (pyIter (Value.ref _)) (fun it s₂ => LoopB _ _ _ _ _ _ _ _ _ it s₂) _ _); refine stop_mk ?_)) | ((with_reducible show wpAny _ _ (exec (PySem.Stmt.For (PySem.Expr.Name _ _) _ _ _ _) _) _ _ _); with_reducible (k_here; (with_unfolding_all refine' For_B ?_); k_whole)) | ((with_reducible show wpAny _ _ (exec (PySem.Stmt.For (PySem.Expr.Name _ _) _ _ _ _) _) _ _ _); with_reducible (k_here; (with_unfolding_all refine' For_B ?_); k_whole)) | (with_reducible (k_here; (with_reducible show wpAny _ _ (PySem.call (Value.ref 317) _ _) _ _ _); refine stop_mk ?_)) | (with_reducible (k_here; (with_reducible show wpAny _ _ (binaryOp Operator.Add (Value.ref _) (Value.ref _)) _ _ _); k_dflt (refine' m_addInts ?k1 ?k2 ?k3 ?k4 ?k5 ?k6 ?k7 ?_; (case k1 => k_asm); (case k2 => k_asm); (case k3 => k_mem); (case k4 => k_mem); (case k5 => l_ints); (case k6 => l_ints); (case k7 => ((simp only [rangeKs_length, List.length_cons, List.length_nil]); omega))); intro kyl' kyh' kyus' kyF' kyN' kyl1 kyhI'; (try k_lt kyl1); (try k_fold))) | walk1 | (dsimp only; walk1) | (leave1; try dsimp only)))
  unfold Stop
  have ho9 := lookup_id (K := hd.heap_1 w.params) (f := 388) (by k_is)
  refine' range_B [Str.ofString "turn", Str.ofString "due", Str.ofString "told"] (fun i gg m₁ T => ∃ tl f tks gv, Gd w p loose mean mg mb (ktrTop dp un gd cn cs L fa ccd [] []) base g gg [envX cn cs L fa ccd []] ∧ (100 + d1 ≤ f ∧ f < 100 + d1 + (1 + d2)) ∧ (∀ k ∈ tks, 100 + d1 ≤ k ∧ k < 100 + d1 + (1 + d2)) ∧ tks.length ≤ i ∧ PS prog w news T (L' + 1) src pr dx Dd tl (100 + d1) (1 + d2) f tks f tks gv) (n := 6) rfl (by assumption) (by decide) (by decide) rfl rfl (by passes_own) ?F ?N ?h0 ?turn ?done
  case N => k_asm
  case F => k_asm
  case h0 =>
    refine ⟨_, 100 + d1, [], none, ⟨by assumption, by assumption, by assumption, by assumption, KtsTurn.refl⟩, by omega, (fun _ h => nomatch h), Nat.zero_le _, ⟨_, _, by k_mem, by assumption⟩, ⟨_, _, by k_mem, by assumption⟩, ⟨_, by k_mem, by assumption⟩, ⟨_, by k_mem, by assumption⟩, ⟨_, _, by k_mem, by assumption⟩, ⟨_, by k_mem, by assumption⟩, ⟨_, by k_mem, hP2⟩, ⟨[], 0, by k_mem, .nil⟩, ⟨oD, hPR.mono (by walk_at "sub9")⟩, by k_ne, by walk_at "subtail9", hne, fun q hq => ?_⟩
    have h1 := ltN (l4 q hq)
    have h2 : @LT.lt Nat _ (L' + 1) dx := by walk_at "lt9"
    have h3 : @LT.lt Nat _ dx Dd := Nat.lt_trans hlt3 hlt4
    clear hlt3 hlt4 hRd hRu l5
    refine ⟨.inl (Nat.lt_succ_of_lt h1), neN (Nat.ne_of_lt ?_), neN (Nat.ne_of_lt ?_)⟩ <;> omega
  case turn =>
    rintro i t g1 m1 T1 h1 tk1 I oI hi ⟨tl, f, tks, gv, G1, hf, htk, hl, H1⟩ ⟨⟨xs, hfl⟩, _⟩ hoff F1 N1
    have hI : ∀ q ∈ news, q.1 ≠ I := fun q hq => hoff q (H1.sub q hq)
    refine ports_turn ho9 rfl rfl G1 F1 N1 R XB TB (H1.into hoff) (by omega) (by omega) (by omega) (by omega) hf (by omega) htk (fun e => by passes_own) ?_
    intro g2 h2 tk2 m2 T2 tl2 f2 tks2 gv2 G2 hk2 hf2 ht2 hl2 H2 F2 N2
    refine' elimG ?h9y2 ?k9y2
    case h9y2 =>
      intro G9 k9
      obtain ⟨H3, hmI⟩ := H2.out N2 hfl hI
      revert hmI
      revert H3
      exact k9
    intro H3 hmI
    exact turnB_next (del I T2) F2 (news_del N2 hmI) del_ne ⟨keep_turn (by decide) hk2, tl2, f2, tks2, gv2, G2, hf2, ht2, by omega, H3⟩
  case done =>
    rintro g1 m1 T1 h1 tk1 ⟨tl, f, tks, gv, G1, hf, htk, hl, H1⟩ F1 N1
    refine' elimG ?h9y3 ?k9y3
    case h9y3 =>
      intro G9 k9
      obtain ⟨B1, X1, Tp1, D1, K1⟩ := id G1
      revert K1
      revert D1
      revert Tp1
      revert X1
      revert B1
      exact k9
    intro B1 X1 Tp1 D1 K1
    try clear G1
    refine' elimG ?h9y4 ?k9y4
    case h9y4 =>
      intro G9 k9
      obtain ⟨⟨oc1, tc1, mc1, dc1⟩, ⟨oc2, tc2, mc2, dc2⟩, ⟨oc3, mc3, dc3⟩, ⟨oc4, mc4, dc4⟩, ⟨oc5, tc5, mc5, dc5⟩, ⟨oc6, mc6, dc6⟩, ⟨os, mos, hPs⟩, ⟨vs, kk, ml, hi⟩, ⟨oDD, hT⟩, ne, sub, nsrc, ap⟩ := id H1
      revert ap
      revert nsrc
      revert sub
      revert ne
      revert hT
      revert oDD
      revert hi
      revert ml
      revert kk
      revert vs
      revert hPs
      revert mos
      revert os
      revert dc6
      revert mc6
      revert oc6
      revert dc5
      revert mc5
      revert tc5
      revert oc5
      revert dc4
      revert mc4
      revert oc4
      revert dc3
      revert mc3
      revert oc3
      revert dc2
      revert mc2
      revert tc2
      revert oc2
      revert dc1
      revert mc1
      revert tc1
      revert oc1
      exact k9
    intro oc1 tc1 mc1 dc1 oc2 tc2 mc2 dc2 oc3 mc3 dc3 oc4 mc4 dc4 oc5 tc5 mc5 dc5 oc6 mc6 dc6 os mos hPs vs kk ml hi oDD hT ne sub nsrc ap
    (try k_fold)
    (repeat' (first | (k_unfold; (try dsimp only)) | (k_end; wrow_close) | (with_reducible ((with_reducible show wpAny _ _ (pyIter (Value.ref _)) (fun it s₂ => LoopB _ _ _ _ _ _ _ _ _ it s₂) _ _); refine stop_mk ?_)) | ((with_reducible show wpAny _ _ (exec (PySem.Stmt.For (PySem.Expr.Name _ _) _ _ _ _) _) _ _ _); with_reducible (k_here; (with_unfolding_all refine' For_B ?_); k_whole)) | ((with_reducible show wpAny _ _ (exec (PySem.Stmt.For (PySem.Expr.Name _ _) _ _ _ _) _) _ _ _); with_reducible (k_here; (with_unfolding_all refine' For_B ?_); k_whole)) | (with_reducible (k_here; (with_reducible show wpAny _ _ (PySem.call (Value.ref 317) _ _) _ _ _); refine stop_mk ?_)) | (with_reducible (k_here; (with_reducible show wpAny _ _ (binaryOp Operator.Add (Value.ref _) (Value.ref _)) _ _ _); k_dflt (refine' m_addInts ?k1 ?k2 ?k3 ?k4 ?k5 ?k6 ?k7 ?_; (case k1 => k_asm); (case k2 => k_asm); (case k3 => k_mem); (case k4 => k_mem); (case k5 => l_ints); (case k6 => l_ints); (case k7 => ((simp only [rangeKs_length, List.length_cons, List.length_nil]); omega))); intro kyl' kyh' kyus' kyF' kyN' kyl1 kyhI'; (try k_lt kyl1); (try k_fold))) | walk1 | (dsimp only; walk1) | (leave1; try dsimp only)))
    unfold Stop
    rename IntsAre _ ([-1, 65536] ++ _) => hIu
    refine' list_B [Str.ofString "number"] (fun i gg m₁ T => ∃ tl gv, Gd w p loose mean mg mb (ktrTop dp un gd cn cs L fa ccd [] []) base g gg [envX cn cs L fa ccd []] ∧ PS prog w news T (L' + 1) src pr dx Dd tl (100 + d1) (1 + d2) f tks f tks gv) rfl rfl rfl (by passes_own) ?F ?N ?h0 ?turn ?done
    case N => k_asm
    case F => k_asm
    case h0 => exact ⟨tl, gv, ⟨B1, X1, Tp1, D1, K1⟩, H1.mono (by walk_at "sub9")⟩
    case turn =>
      rintro i v g2 m2 T2 h2 tk2 I oI hi2 hv ⟨tl2, gv2, G2, H2⟩ ⟨⟨xs, hfl⟩, _⟩ hoff F2 N2
      have hI : ∀ q ∈ news, q.1 ≠ I := fun q hq => hoff q (H2.sub q hq)
      refine' elimG ?h9y6 ?k9y6
      case h9y6 =>
        have h9z := hIu.at i v (by rw [← List.getElem?_toArray]; exact hv)
        intro G9 k9
        obtain ⟨x, tx, e9x5, hx⟩ := h9z
        revert hx
        revert e9x5
        revert tx
        revert x
        exact k9
      intro x tx e9x5 hx
      subst e9x5
      have hx' : x ≠ 0 ∧ -10 < x ∧ x < 70000 ∧ (x < 1 ∨ 65535 < x ∨ x ∈ tks) := by
        rcases List.mem_append.mp (List.mem_of_getElem? hx) with h | h
        · simp only [List.mem_cons, List.not_mem_nil, or_false] at h
          omega
        · have h' := List.mem_of_mem_take h
          have := htk x h'
          exact ⟨by omega, by omega, by omega, .inr (.inr h')⟩
      have H2' := H2.into (oI := oI) hoff
      refine ports_bad ho9 rfl rfl G2 F2 N2 R XB TB (H2'.mono fun q hq => ?_) hx'.1 hx'.2.1 hx'.2.2.1 hx'.2.2.2 (by omega) (fun e => by passes_own) ?_
      · rcases List.mem_cons.mp hq with rfl | hq
        · exact List.mem_cons_self
        · exact List.mem_cons_of_mem _ (List.mem_cons_of_mem _ hq)
      intro g3 h3 tk3 T3 tl3 G3 H3 hk3 F3 N3
      refine' elimG ?h9y7 ?k9y7
      case h9y7 =>
        intro G9 k9
        obtain ⟨H4, hmI⟩ := H3.out N3 hfl hI
        revert hmI
        revert H4
        exact k9
      intro H4 hmI
      have hmr := hk3 _ (List.mem_cons_of_mem _ List.mem_cons_self) (fun e => nomatch (show (1 : Nat) = 0 from e))
      refine turnB_next (del I T3) F3 (fun q hq => ?_) del_ne ⟨keep_keep (by decide), tl3, gv2, G3, H4⟩
      rcases List.mem_cons.mp hq with rfl | hq
      · exact N3 _ hmI
      · rcases List.mem_cons.mp hq with rfl | hq
        · exact N3 _ hmr
        · exact N3 _ (del_sub _ hq)
    case done =>
      rintro g2 m2 T2 h2 tk2 ⟨tl2, gv2, G2, H2⟩ F2 N2
      (try k_fold)
      (repeat' (first | (k_unfold; (try dsimp only)) | (k_end; wrow_close) | (with_reducible ((with_reducible show wpAny _ _ (pyIter (Value.ref _)) (fun it s₂ => LoopB _ _ _ _ _ _ _ _ _ it s₂) _ _); refine stop_mk ?_)) | ((with_reducible show wpAny _ _ (exec (PySem.Stmt.For (PySem.Expr.Name _ _) _ _ _ _) _) _ _ _); with_reducible (k_here; (with_unfolding_all refine' For_B ?_); k_whole)) | ((with_reducible show wpAny _ _ (exec (PySem.Stmt.For (PySem.Expr.Name _ _) _ _ _ _) _) _ _ _); with_reducible (k_here; (with_unfolding_all refine' For_B ?_); k_whole)) | (with_reducible (k_here; (with_reducible show wpAny _ _ (PySem.call (Value.ref 317) _ _) _ _ _); refine stop_mk ?_)) | (with_reducible (k_here; (with_reducible show wpAny _ _ (binaryOp Operator.Add (Value.ref _) (Value.ref _)) _ _ _); k_dflt (refine' m_addInts ?k1 ?k2 ?k3 ?k4 ?k5 ?k6 ?k7 ?_; (case k1 => k_asm); (case k2 => k_asm); (case k3 => k_mem); (case k4 => k_mem); (case k5 => l_ints); (case k6 => l_ints); (case k7 => ((simp only [rangeKs_length, List.length_cons, List.length_nil]); omega))); intro kyl' kyh' kyus' kyF' kyN' kyl1 kyhI'; (try k_lt kyl1); (try k_fold))) | walk1 | (dsimp only; walk1) | (leave1; try dsimp only)))
      refine' elimG ?h9y8 ?k9y8
      case h9y8 =>
        intro G9 k9
        obtain ⟨os2, mos2, hPs2⟩ := H2.pool
        revert hPs2
        revert mos2
        revert os2
        exact k9
      intro os2 mos2 hPs2
      exact leaveS0_ F2 N2 G2.K fun F0 N0 => hret os2 _ _ hPs2 F0 fun q hq => N0 q (by
        rcases List.mem_cons.mp hq with rfl | hq
        · exact List.mem_cons_of_mem _ mos2
        · exact List.mem_cons_of_mem _ (H2.sub q hq))
end
theorem rows_pool {h₀ h : Heap} {L rw src : Addr} {o : Obj} {T : List (Addr × Obj)} {trs : List (Addr × Row)} (N : News h₀ L h T) (hR : PyRows T rw trs) (hm : (src, o) ∈ T) (hP : PoolO o) : @Ne Nat rw src := by
  obtain ⟨⟨n, h1⟩, _⟩ := hR
  obtain ⟨x, y, tx, ty, k, rfl, _⟩ := hP
  refine news_ne N h1 hm fun e => ?_
  have e1 := congrArg Array.toList (Data.seq.inj (congrArg Obj.data e)).1
  rcases trs with _ | ⟨q, r⟩
  · simp at e1
  · simp at e1
theorem rows_src {h₀ h : Heap} {L rw src : Addr} {o o' : Obj} {T : List (Addr × Obj)} {trs : List (Addr × Row)} (N : News h₀ L h T) (hR : PyRows T rw trs) (hm : (src, o) ∈ T) (hP : PoolO o) : PyRows (del src T) rw trs := by
  have hne := rows_pool N hR hm hP
  obtain ⟨⟨n, h1⟩, h2⟩ := hR
  have hlist : o.cls = .type "list" := by obtain ⟨_, _, _, _, _, rfl, _⟩ := hP; rfl
  have up : ∀ q ∈ T, q.2.cls ≠ .type "list" → q ∈ del src T := fun q hq hk => mem_del hq (news_ne N hq hm fun e => hk (by rw [show q.2 = o from e]; exact hlist))
  refine ⟨⟨n, mem_del h1 hne⟩, fun q hq => ?_⟩
  obtain ⟨t1, t2, t3, rv, hq1, hq2⟩ := h2 q hq
  refine ⟨t1, t2, t3, rv, up _ hq1 ne_tl, ?_⟩
  rcases hr : q.2.rm with _ | z
  · rw [hr] at hq2; exact hq2
  · rw [hr] at hq2
    obtain ⟨t, ta, tp, e, hm'⟩ := hq2
    exact ⟨t, ta, tp, e, up _ hm' ne_tl⟩
theorem tab_src {prog : Program} {w : World} {h₀ h : Heap} {L src tb tdx D : Addr} {o oD : Obj} {T : List (Addr × Obj)} {crs : List CR} (N : News h₀ L h T) (hT : TabR prog w T tb tdx D oD crs) (hm : (src, o) ∈ T) (hP : PoolO o) : TabR prog w (del src T) tb tdx D oD crs := by
  have hlist : o.cls = .type "list" := by obtain ⟨_, _, _, _, _, rfl, _⟩ := hP; rfl
  exact hT.mono fun q hq hk => mem_del hq (news_ne N hq hm fun e => hk (by rw [show q.2 = o from e]; exact hlist))
theorem rows_nd {T T' : List (Addr × Obj)} {rw : Addr} {trs : List (Addr × Row)} (h : ∀ q ∈ T, q.2.cls ≠ .type "dict" → q ∈ T') (hR : PyRows T rw trs) : PyRows T' rw trs := by
  obtain ⟨⟨n, h1⟩, h2⟩ := hR
  refine ⟨⟨n, h _ h1 ne_ld⟩, fun q hq => ?_⟩
  obtain ⟨t1, t2, t3, rv, hq1, hq2⟩ := h2 q hq
  refine ⟨t1, t2, t3, rv, h _ hq1 ne_td, ?_⟩
  rcases hr : q.2.rm with _ | z
  · rw [hr] at hq2; exact hq2
  · rw [hr] at hq2
    obtain ⟨t, ta, tp, e, hm'⟩ := hq2
    exact ⟨t, ta, tp, e, h _ hm' ne_td⟩
theorem RemR.kinds {T T' : List (Addr × Obj)} (h : ∀ q ∈ T, okind q.2 ≤ 3 → q ∈ T') {v : Value} : ∀ {r : Option (Int × Int)}, RemR T v r → RemR T' v r
  | none, x => x
  | some _, ⟨t, a, b, e, hm⟩ => ⟨t, a, b, e, h _ hm (show (1 : Nat) ≤ 3 by decide)⟩
theorem TabR.kinds {prog : Program} {w : World} {T T' : List (Addr × Obj)} {tb tdx D : Addr} {oD : Obj} {crs : List CR} (h : ∀ q ∈ T, okind q.2 ≤ 3 → q ∈ T') (hT : TabR prog w T tb tdx D oD crs) : TabR prog w T' tb tdx D oD crs := by
  obtain ⟨h1, ⟨a, b, c, h2⟩, h3, h4, h5, h6, h7, h8⟩ := hT
  refine ⟨h _ h1 (show (3 : Nat) ≤ 3 by decide), ⟨a, b, c, h _ h2 (show (2 : Nat) ≤ 3 by decide)⟩, h _ h3 (by rw [show okind oD = 2 from kind_dict h5]; decide), h4, h5, fun x hx => ?_, h7, h8⟩
  obtain ⟨g1, e1, e2, e3, e4, t1, t2, t3, t4, u1, u2, u3, rv, n, g2, g3⟩ := h6 x hx
  exact ⟨h _ g1 (show (3 : Nat) ≤ 3 by decide), e1, e2, e3, e4, t1, t2, t3, t4, u1, u2, u3, rv, n, h _ g2 (show (2 : Nat) ≤ 3 by decide), g3.kinds h⟩
theorem PyRows.kinds {T T' : List (Addr × Obj)} {rw : Addr} {trs : List (Addr × Row)} (h : ∀ q ∈ T, okind q.2 ≤ 3 → q ∈ T') (hR : PyRows T rw trs) : PyRows T' rw trs := by
  obtain ⟨⟨n, h1⟩, h2⟩ := hR
  refine ⟨⟨n, h _ h1 (show (1 : Nat) ≤ 3 by decide)⟩, fun q hq => ?_⟩
  obtain ⟨t1, t2, t3, rv, hq1, hq2⟩ := h2 q hq
  exact ⟨t1, t2, t3, rv, h _ hq1 (show (1 : Nat) ≤ 3 by decide), hq2.kinds h⟩
theorem m_isiList {prog : Program} {w : World} {A : Around} {E : Value → Shared → Prop} {s : Shared} {h₀ : Heap} {L r : Addr} {T : List (Addr × Obj)} {trs : List (Addr × Row)} {Q : Value → Shared → Prop} (N : News h₀ L s.heap T) (hR : PyRows T r trs) (h : Q (.bool false) { s with toks := s.toks + 1 }) : wpAny (model prog w) A (call (.builtin "isinstance") [.ref r, .type "str"]) Q E s := by
  refine' elimG ?h9y2 ?k9y2
  case h9y2 =>
    intro G9 k9
    obtain ⟨⟨n, h1⟩, u9x1⟩ := id hR
    revert u9x1
    revert h1
    revert n
    exact k9
  intro n h1 _
  try clear hR
  exact IsiPair.list_str (N _ h1).1 rfl h
theorem stepF_len {wd : Str} {o a p : Int} {rows rows' : List Row} (h : stepF wd o a p rows = .ok rows') : rows'.length ≤ rows.length + 1 := by
  unfold stepF at h
  split at h
  · split at h
    · cases h
    · split at h
      · cases h
      · cases h; simp
  · split at h
    · split at h
      · cases h
      · split at h
        · cases h
        · cases h; simp
    · split at h
      · cases h
        exact Nat.le_trans (List.length_filter_le _ _) (Nat.le_succ _)
      · cases h
--M<
--M>
section
variable {prog : Program} {w : World} {p : Program} {loose : List Str} {mean : ExcName → Option Value} {mg mb : Str → Option Value}
  {h₀ : Heap} {L f : Addr} {m : Str → Option Value} {s : Shared} {E : Value → Shared → Prop} {Q : Flow → Shared → Prop}
  {T : List (Addr × Obj)} {name qual : Str} {params : Arguments} {body : List Stmt} {scope : Scope} {dV kV doc pm cdv ct oc : Value} {an od : Option Addr} {osl : Array (Option Value)}
set_option maxHeartbeats 4000000 in
theorem law_turn {cd2 : Value} {tgt it : PySem.Expr} {bd els : List Stmt} {pos : Pos} {src rw tb tdx D : Addr} {o oD : Obj} {crs : List CR} {trs : List (Addr × Row)} (ho : (hd.heap_1 w.params).lookup 395 = some ⟨oc, od, .func (fnOf name qual params body scope dV kV doc pm an cdv ct), osl⟩)
  (hb2 : body[2]? = some (.For tgt it bd els pos)) (hms : m (Str.ofString "source") = some (.ref src)) (hmt : m (Str.ofString "table") = some (.ref tb)) (hmr : m (Str.ofString "rows") = some (.ref rw))
  (B : Below callerA h₀ [] h₀) (F : Fr h₀ L s.heap m) (X : (hd.heap_1 w.params).In h₀) (N : News h₀ L s.heap T) (Tp : Top p loose mean mg mb h₀)
  (hm : (src, o) ∈ T) (hP : PoolO o) (hT : TabR prog w T tb tdx D oD crs) (hR : PyRows T rw trs) (he : (crs.map CR.toRow) = trs.map fun q => q.2) (hl : trs.length < 50)
  (hnext : ∀ h' tk' m' T' o' oD' rw' crs' trs', Keep [Str.ofString "turn", Str.ofString "deed", Str.ofString "due", Str.ofString "told", Str.ofString "rows"] m m' → m' (Str.ofString "rows") = some (.ref rw') → (src, o') ∈ T' → PoolO o' → TabR prog w T' tb tdx D oD' crs' → PyRows T' rw' trs' → (crs'.map CR.toRow) = (trs'.map fun q => q.2) → trs'.length ≤ trs.length + 1 → (∀ q ∈ T, okind q.2 = 4 → q.2.cls ≠ .type "dict" → q ∈ T') → Fr h₀ L h' m' → News h₀ L h' T' → Q .next { s with heap := h', toks := tk' }) :
  wpAny (model prog w) (callerA.deeper (envOf qual scope L f cd2)) (execs bd (envOf qual scope L f cd2)) Q E s := by
  have e := lookup_same ho (by k_is)
  cases e
  injection (show some (PySem.Stmt.For _ _ _ _ _) = some (PySem.Stmt.For _ _ _ _ _) from hb2) with e3
  injection e3 with e31 e32 e33 e34 e35
  subst e33
  clear e31 e32 e34 e35
  have hR0 := rows_src (o' := o) N hR hm hP
  have hT0 := tab_src N hT hm hP
  have hks : ∀ q ∈ T, okind q.2 = 4 → q.1 ≠ src := fun q hq hk => kind_ne N hq hm (by rw [hk, kind_pool hP]; decide)
  have hnd : (trs.map fun q => q.2.o).Nodup := by
    have h1 := hT.nd
    have h2 : (crs.map fun c => c.o) = trs.map fun q => q.2.o := by
      have := congrArg (List.map Row.o) he
      simpa [List.map_map, Function.comp_def] using this
    rwa [h2] at h1
  (repeat' (first | (k_unfold; (try dsimp only)) | (k_end; wrow_close) | (with_reducible (k_here; (with_reducible show wpAny _ _ (PySem.call (Value.ref _) _ _) _ _ _); refine stop_mk ?_)) | (with_reducible (k_here; (with_reducible show wpAny _ _ (PySem.call (Value.builtin "isinstance") [Value.ref _, Value.type "str"] _) _ _ _); k_dflt (refine' m_isiList ?k1 ?k2 ?_; (case k1 => k_asm); (case k2 => with_reducible assumption)); (try k_fold))) | walk1 | (dsimp only; walk1) | (leave1; try dsimp only)))
  unfold Stop
  refine' deed_spec updF_del hP ?c ?r ?_
  case c => exact ⟨by k_asm, by k_asm, by k_asm, news_del N hm, by k_asm⟩
  case r => ((refine ⟨(by first | exact rfl | assumption), ?_, ?_⟩ <;> (have hcL9 := cLine_is; (try simp only [depth_deeper, units_deeper, depth_caller, units_caller, recursionLimit]); omega)))
  intro dd od o1 h1 tk1 hD hfr hP1 F1 N1
  have hcl1 : o1.cls = .type "list" := by obtain ⟨_, _, _, _, _, rfl, _⟩ := hP1; rfl
  refine' elimG ?h9y2 ?k9y2
  case h9y2 =>
    intro G9 k9
    obtain ⟨wd, tw, ow, tow, xa, txa, xp, txp, e9x1, hwd⟩ := id hD
    revert hwd
    revert e9x1
    revert txp
    revert xp
    revert txa
    revert xa
    revert tow
    revert ow
    revert tw
    revert wd
    exact k9
  intro wd tw ow tow xa txa xp txp e9x1 hwd
  subst e9x1
  try clear hD
  (try k_fold)
  (repeat' (first | (k_unfold; (try dsimp only)) | (k_end; wrow_close) | (with_reducible (k_here; (with_reducible show wpAny _ _ (PySem.call (Value.ref _) _ _) _ _ _); refine stop_mk ?_)) | (with_reducible (k_here; (with_reducible show wpAny _ _ (PySem.call (Value.builtin "isinstance") [Value.ref _, Value.type "str"] _) _ _ _); k_dflt (refine' m_isiList ?k1 ?k2 ?_; (case k1 => k_asm); (case k2 => with_reducible assumption)); (try k_fold))) | walk1 | (dsimp only; walk1) | (leave1; try dsimp only)))
  unfold Stop
  have hR1 : PyRows ((dd, tupO [.str wd tw, .int ow tow, .int xa txa, .int xp txp]) :: (src, o1) :: del src T) rw trs := hR0.mono fun q hq => List.mem_cons_of_mem _ (List.mem_cons_of_mem _ hq)
  have hT1 : TabR prog w ((dd, tupO [.str wd tw, .int ow tow, .int xa txa, .int xp txp]) :: (src, o1) :: del src T) tb tdx D oD crs := hT0.mono1 fun q hq => List.mem_cons_of_mem _ (List.mem_cons_of_mem _ hq)
  have hk0 : ∀ q ∈ T, okind q.2 = 4 → q.2.cls ≠ .type "dict" → q ∈ (dd, tupO [.str wd tw, .int ow tow, .int xa txa, .int xp txp]) :: (src, o1) :: del src T := fun q hq hk _ => List.mem_cons_of_mem _ (List.mem_cons_of_mem _ (mem_del hq (hks q hq hk)))
  refine led_spec ⟨by k_asm, by k_asm, by k_asm, by k_asm, by k_asm⟩ (by ((refine ⟨(by first | exact rfl | assumption), ?_, ?_⟩ <;> (have hcL9 := cLine_is; (try simp only [depth_deeper, units_deeper, depth_caller, units_caller, recursionLimit]); omega)))) hR1 hnd (by omega) List.mem_cons_self hwd ?_ ?_
  · intro e t h2 tk2 hst F2 N2
    (try k_fold)
    (repeat' (first | (k_unfold; (try dsimp only)) | (k_end; wrow_close) | (with_reducible (k_here; (with_reducible show wpAny _ _ (PySem.call (Value.ref _) _ _) _ _ _); refine stop_mk ?_)) | (with_reducible (k_here; (with_reducible show wpAny _ _ (PySem.call (Value.builtin "isinstance") [Value.ref _, Value.type "str"] _) _ _ _); k_dflt (refine' m_isiList ?k1 ?k2 ?_; (case k1 => k_asm); (case k2 => with_reducible assumption)); (try k_fold))) | walk1 | (dsimp only; walk1) | (leave1; try dsimp only)))
    unfold Stop
    refine done_spec (oD := oD) (crs := crs) ⟨by k_asm, by k_asm, by k_asm, by k_asm, by k_asm⟩ (by ((refine ⟨(by first | exact rfl | assumption), ?_, ?_⟩ <;> (have hcL9 := cLine_is; (try simp only [depth_deeper, units_deeper, depth_caller, units_caller, recursionLimit]); omega)))) X Tp hT1 (by have := congrArg List.length he; simp only [List.length_map] at this; omega) List.mem_cons_self hwd ?_ ?_
    · intro e' t' h3 tk3 hst' F3 N3
      rw [he, hst] at hst'
      cases hst'
      (try k_fold)
      (repeat' (first | (k_unfold; (try dsimp only)) | (k_end; wrow_close) | (with_reducible (k_here; (with_reducible show wpAny _ _ (PySem.call (Value.ref _) _ _) _ _ _); refine stop_mk ?_)) | (with_reducible (k_here; (with_reducible show wpAny _ _ (PySem.call (Value.builtin "isinstance") [Value.ref _, Value.type "str"] _) _ _ _); k_dflt (refine' m_isiList ?k1 ?k2 ?_; (case k1 => k_asm); (case k2 => with_reducible assumption)); (try k_fold))) | walk1 | (dsimp only; walk1) | (leave1; try dsimp only)))
      all_goals (try exact absurd ‹(e != e) = true› (by simp))
      refine' hnext _ _ _ ((dd, tupO [.str wd tw, .int ow tow, .int xa txa, .int xp txp]) :: (src, o1) :: del src T) o1 oD rw crs trs ?kp ?mr (List.mem_cons_of_mem _ List.mem_cons_self) hP1 hT1 hR1 he (Nat.le_succ _) hk0 ?F ?N
      case N => k_asm
      case F => k_asm
      case mr => rfl
      case kp => ((intro kyy kyhy; simp only [List.contains_cons, List.contains_nil, Bool.or_false, Bool.or_eq_false_iff, beq_eq_false_iff_ne, ne_eq] at kyhy; simp [kyhy]))
    · intro T' oD' crs' h3 tk3 hst' hT' hk3 F3 N3
      rw [he, hst] at hst'
      cases hst'
  · intro r T2 trs2 h2 tk2 hst hR2 hk2 F2 N2
    (try k_fold)
    (repeat' (first | (k_unfold; (try dsimp only)) | (k_end; wrow_close) | (with_reducible (k_here; (with_reducible show wpAny _ _ (PySem.call (Value.ref _) _ _) _ _ _); refine stop_mk ?_)) | (with_reducible (k_here; (with_reducible show wpAny _ _ (PySem.call (Value.builtin "isinstance") [Value.ref _, Value.type "str"] _) _ _ _); k_dflt (refine' m_isiList ?k1 ?k2 ?_; (case k1 => k_asm); (case k2 => with_reducible assumption)); (try k_fold))) | walk1 | (dsimp only; walk1) | (leave1; try dsimp only)))
    unfold Stop
    refine done_spec (oD := oD) (crs := crs) ⟨by k_asm, by k_asm, by k_asm, by k_asm, by k_asm⟩ (by ((refine ⟨(by first | exact rfl | assumption), ?_, ?_⟩ <;> (have hcL9 := cLine_is; (try simp only [depth_deeper, units_deeper, depth_caller, units_caller, recursionLimit]); omega)))) X Tp (hT1.mono1 hk2) (by have := congrArg List.length he; simp only [List.length_map] at this; omega) (hk2 _ List.mem_cons_self) hwd ?_ ?_
    · intro e' t' h3 tk3 hst' F3 N3
      rw [he, hst] at hst'
      cases hst'
    · intro T3 oD' crs' h3 tk3 hst' hT' hk3 F3 N3
      rw [he, hst] at hst'
      have hst2 := Except.ok.inj hst'
      have hR3 := rows_nd hk3 hR2
      have hms3 : (src, o1) ∈ T3 := hk3 _ (hk2 _ (List.mem_cons_of_mem _ List.mem_cons_self)) (by rw [hcl1]; exact ne_ld)
      (try k_fold)
      (repeat' (first | (k_unfold; (try dsimp only)) | (k_end; wrow_close) | (with_reducible (k_here; (with_reducible show wpAny _ _ (PySem.call (Value.ref _) _ _) _ _ _); refine stop_mk ?_)) | (with_reducible (k_here; (with_reducible show wpAny _ _ (PySem.call (Value.builtin "isinstance") [Value.ref _, Value.type "str"] _) _ _ _); k_dflt (refine' m_isiList ?k1 ?k2 ?_; (case k1 => k_asm); (case k2 => with_reducible assumption)); (try k_fold))) | walk1 | (dsimp only; walk1) | (leave1; try dsimp only)))
      refine' hnext _ _ _ T3 o1 oD' r crs' trs2 ?kp2 ?mr2 hms3 hP1 hT' hR3 hst2.symm (by have := stepF_len hst; simpa using this) (fun q hq hk hc => hk3 _ (hk2 _ (hk0 q hq hk hc)) hc) ?F2 ?N2
      case N2 => k_asm
      case F2 => k_asm
      case mr2 => rfl
      case kp2 => ((intro kyy kyhy; simp only [List.contains_cons, List.contains_nil, Bool.or_false, Bool.or_eq_false_iff, beq_eq_false_iff_ne, ne_eq] at kyhy; simp [kyhy]))
end
section
variable {prog : Program} {w : World} {p : Program} {loose : List Str} {mean : ExcName → Option Value} {mg mb : Str → Option Value}
  {dp un : Nat} {gd : Option (List Code)} {cn : Str} {cs : Scope} {fa : Addr} {ccd : Value} {cl : List (Str × Addr)} {outer : List Env} {A₀ : Around} {base h₀ : Heap} {L : Addr} {m : Str → Option Value} {s : Shared} {Q E : Value → Shared → Prop}
  {news : List (Addr × Obj)}
set_option maxHeartbeats 3000000 in
theorem mktable_spec (C : Cx w p loose mean mg mb A₀ base h₀ outer L s.heap m news) (R : Rm cs dp un 2)
  (hret : ∀ tb dx D oD dd h' tk', TabR prog w [(D, oD), (tb, instObj 176 dx), (dx, dd)] tb dx D oD [] → (∀ q ∈ news, @LT.lt Nat _ q.1 dx) → @LT.lt Nat _ dx tb → @LT.lt Nat _ tb D → Fr h₀ L h' m → News h₀ L h' ((D, oD) :: (tb, instObj 176 dx) :: (dx, dd) :: news) → Q (.ref tb) { s with heap := h', toks := tk' }) :
  wpAny (model prog w) (ktrTop dp un gd cn cs L fa ccd cl outer) (call (.ref 176) []) Q E s := by
  obtain ⟨B, F, X, N, T⟩ := C
  have hRd := R.hd
  have hRu := R.hu
  refine call_cls F X N (by k_is) (by k_is) (by k_is) (fun r dx h' F' N' l1 l2 => ?_)
  rw [under_create]
  have l3 : AllLt dx news := allLt_of l1
  have l4 := ltN l2
  k_dflt (refine' code_def (binds := [(Str.ofString "self", .ref r)]) B F' X N' T rfl rfl R.hk ?k6 ?k7 (by show dp + 1 < recursionLimit; omega) ?k9 ?kB ?_ ?c2 ?c3 ?c4 ?c5; (((case k6 => k_is); (case k7 => k_is); (case k9 => exact BindsTo.of_eq rfl); (case c5 => decide); (case kB => exact locs rfl); (case c2 => exact rfl); (case c3 => exact rfl); (case c4 => exact rfl); k_whole; intro g' L' h' FG' F' N' B' X' T'; (try dsimp only); (try k_fold))))
  (repeat' (first | (k_unfold; (try dsimp only)) | (k_end; wrow_close) | (with_reducible ((with_reducible show wpAny _ _ (pyIter (Value.ref _)) (fun it s₂ => LoopB _ _ _ _ _ _ _ _ _ it s₂) _ _); refine stop_mk ?_)) | (with_reducible (k_here; (with_reducible show wpAny _ _ (PySem.call (Value.ref _) _ _) _ _ _); refine stop_mk ?_)) | ((with_reducible show wpAny _ _ (exec (PySem.Stmt.For (PySem.Expr.Name _ _) _ _ _ _) _) _ _ _); with_reducible (k_here; (with_unfolding_all refine' For_B ?_); k_whole)) | walk1 | (dsimp only; walk1) | (leave1; try dsimp only)))
  refine' hret r dx _ _ _ _ _ ?PR ?f (ltN l2) ?g ?F ?N
  (case N => k_asm)
  (case F => k_asm)
  (case f => exact l1)
  (case g => exact And.left (by assumption))
  (case PR => exact ⟨List.mem_cons_of_mem _ List.mem_cons_self, ⟨_, _, _, List.mem_cons_of_mem _ (List.mem_cons_of_mem _ List.mem_cons_self)⟩, List.mem_cons_self, by assumption, by assumption, (fun _ h => nomatch h), by simp, by simp⟩)
end
section
variable {prog : Program} {w : World} {p : Program} {loose : List Str} {mean : ExcName → Option Value} {mg mb : Str → Option Value}
  {h₀ : Heap} {L f : Addr} {m : Str → Option Value} {s : Shared} {E : Value → Shared → Prop} {Q : Flow → Shared → Prop}
  {name qual : Str} {params : Arguments} {body : List Stmt} {scope : Scope} {dV kV doc pm cdv ct oc : Value} {an od : Option Addr} {osl : Array (Option Value)}
set_option maxHeartbeats 4000000 in
theorem law_body {cd2 : Value} {sc : Addr} {vs : List Value} {ns : List Int} (ho : (hd.heap_1 w.params).lookup 395 = some ⟨oc, od, .func (fnOf name qual params body scope dV kV doc pm an cdv ct), osl⟩)
  (hms : m (Str.ofString "script") = some (.ref sc)) (hL : h₀.IsList sc vs.toArray) (hI : IntsAre vs ns) (hlen : ns.length ≤ 63)
  (B : Below callerA h₀ [] h₀) (F : Fr h₀ L s.heap m) (X : (hd.heap_1 w.params).In h₀) (N : News h₀ L s.heap []) (Tp : Top p loose mean mg mb h₀) (hE : PassesOwn (model prog w) (callerA.deeper (envOf qual scope L f cd2)) (envOf qual scope L f cd2) E)
  (hret : ∀ h' tk' m', Fr h₀ L h' m' → Q (.ret (.bool true)) { s with heap := h', toks := tk' }) :
  wpAny (model prog w) (callerA.deeper (envOf qual scope L f cd2)) (execs body (envOf qual scope L f cd2)) Q E s := by
  have ho1 := ho
  have e := lookup_same ho (by k_is)
  cases e
  (repeat' (first | (k_unfold; (try dsimp only)) | (k_end; wrow_close) | (with_reducible ((with_reducible show wpAny _ _ (pyIter (Value.ref _)) (fun it s₂ => LoopB _ _ _ _ _ _ _ _ _ it s₂) _ _); refine stop_mk ?_)) | (with_reducible (k_here; (with_reducible show wpAny _ _ (PySem.call (Value.ref _) _ _) _ _ _); refine stop_mk ?_)) | ((with_reducible show wpAny _ _ (exec (PySem.Stmt.For (PySem.Expr.Name _ _) _ _ _ _) _) _ _ _); with_reducible (k_here; (with_unfolding_all refine' For_B ?_); k_whole)) | walk1 | (dsimp only; walk1) | (leave1; try dsimp only)))
  unfold Stop
  refine pool_spec ⟨by k_asm, by k_asm, by k_asm, by k_asm, by k_asm⟩ (by ((refine ⟨(by first | exact rfl | assumption), ?_, ?_⟩ <;> (have hcL9 := cLine_is; (try simp only [depth_deeper, units_deeper, depth_caller, units_caller, recursionLimit]); omega)))) hL hI hlen ?_
  intro src o h1 tk1 hP F1 N1 _
  (try k_fold)
  (repeat' (first | (k_unfold; (try dsimp only)) | (k_end; wrow_close) | (with_reducible ((with_reducible show wpAny _ _ (pyIter (Value.ref _)) (fun it s₂ => LoopB _ _ _ _ _ _ _ _ _ it s₂) _ _); refine stop_mk ?_)) | (with_reducible (k_here; (with_reducible show wpAny _ _ (PySem.call (Value.ref _) _ _) _ _ _); refine stop_mk ?_)) | ((with_reducible show wpAny _ _ (exec (PySem.Stmt.For (PySem.Expr.Name _ _) _ _ _ _) _) _ _ _); with_reducible (k_here; (with_unfolding_all refine' For_B ?_); k_whole)) | walk1 | (dsimp only; walk1) | (leave1; try dsimp only)))
  unfold Stop
  refine mktable_spec ⟨by k_asm, by k_asm, by k_asm, by k_asm, by k_asm⟩ (by ((refine ⟨(by first | exact rfl | assumption), ?_, ?_⟩ <;> (have hcL9 := cLine_is; (try simp only [depth_deeper, units_deeper, depth_caller, units_caller, recursionLimit]); omega)))) ?_
  intro tb tdx D oD dd h2 tk2 hT hfr hlt1 hlt2 F2 N2
  have hfr' := hfr
  k_lt hfr'
  have hfr2 := lt_up hfr' hlt1
  have hfr3 := lt_up hfr2 hlt2
  have hlt3 := ltN hlt1
  have hlt4 := ltN hlt2
  (try k_fold)
  (repeat' (first | (k_unfold; (try dsimp only)) | (k_end; wrow_close) | (with_reducible ((with_reducible show wpAny _ _ (pyIter (Value.ref _)) (fun it s₂ => LoopB _ _ _ _ _ _ _ _ _ it s₂) _ _); refine stop_mk ?_)) | (with_reducible (k_here; (with_reducible show wpAny _ _ (PySem.call (Value.ref _) _ _) _ _ _); refine stop_mk ?_)) | ((with_reducible show wpAny _ _ (exec (PySem.Stmt.For (PySem.Expr.Name _ _) _ _ _ _) _) _ _ _); with_reducible (k_here; (with_unfolding_all refine' For_B ?_); k_whole)) | walk1 | (dsimp only; walk1) | (leave1; try dsimp only)))
  unfold Stop
  refine' take_spec ?c1 hP ?c3 ?c4 (by decide) (by decide) ?_
  case c3 => exact ⟨by k_asm, by k_asm, by k_asm, by k_asm, by k_asm⟩
  case c1 => k_updF
  case c4 => ((refine ⟨(by first | exact rfl | assumption), ?_, ?_⟩ <;> (have hcL9 := cLine_is; (try simp only [depth_deeper, units_deeper, depth_caller, units_caller, recursionLimit]); omega)))
  intro d0 t0 o1 h3 tk3 hd0 hd1 hP1 F3 N3
  (try k_fold)
  (repeat' (first | (k_unfold; (try dsimp only)) | (k_end; wrow_close) | (with_reducible ((with_reducible show wpAny _ _ (pyIter (Value.ref _)) (fun it s₂ => LoopB _ _ _ _ _ _ _ _ _ it s₂) _ _); refine stop_mk ?_)) | (with_reducible (k_here; (with_reducible show wpAny _ _ (PySem.call (Value.ref _) _ _) _ _ _); refine stop_mk ?_)) | ((with_reducible show wpAny _ _ (exec (PySem.Stmt.For (PySem.Expr.Name _ _) _ _ _ _) _) _ _ _); with_reducible (k_here; (with_unfolding_all refine' For_B ?_); k_whole)) | walk1 | (dsimp only; walk1) | (leave1; try dsimp only)))
  unfold Stop
  refine' range_B [Str.ofString "turn", Str.ofString "deed", Str.ofString "due", Str.ofString "told", Str.ofString "rows"] (fun i gg m₁ T => gg = h₀ ∧ ∃ rw o oD crs trs, m₁ (Str.ofString "rows") = some (.ref rw) ∧ (src, o) ∈ T ∧ PoolO o ∧ TabR prog w T tb tdx D oD crs ∧ PyRows T rw trs ∧ crs.map CR.toRow = (trs.map fun q => q.2) ∧ trs.length ≤ i) rfl (by assumption) (small_one (by omega) (by omega) (by omega) (by omega)) (rangeSize_nat _ _) rfl rfl hE ?F ?N ?h0 ?turn ?done
  case N => k_asm
  case F => k_asm
  case h0 => exact ⟨rfl, _, o1, oD, [], [], rfl, by k_mem, hP1, hT.mono1 (by walk_at "sub9"), ⟨⟨0, by k_mem⟩, fun _ h => nomatch h⟩, rfl, Nat.zero_le _⟩
  case turn =>
    rintro i t g1 m1 T1 h1 tk1 I oI hi ⟨hg, rw, o2, oD2, crs, trs, hrw, hmo, hP2, hT2, hR2, he2, hl2⟩ ⟨⟨xs, hfl⟩, hcl⟩ hoff F1 N1
    subst hg
    have hkI : okind oI = 4 := by unfold okind; rw [hfl]
    refine' law_turn ho1 rfl ?hs ?ht ?hr B F1 X N1 Tp (List.mem_cons_of_mem _ hmo) hP2 (hT2.mono1 fun q hq => List.mem_cons_of_mem _ hq) (hR2.mono fun q hq => List.mem_cons_of_mem _ hq) he2 (by omega) ?_
    case hs => rfl
    case ht => rfl
    case hr => exact hrw
    intro h' tk' m' T' o' oD' rw' crs' trs' hk hmr' hms' hP' hT' hR' he' hl' hkeep F' N'
    have hmI := hkeep (I, oI) List.mem_cons_self hkI hcl
    have hdel : ∀ q ∈ T', okind q.2 ≤ 3 → q ∈ del I T' := fun q hq hk => mem_del hq (kind_ne N' hq hmI (by rw [hkI]; omega))
    exact turnB_next (del I T') F' (news_del N' hmI) del_ne ⟨keep_turn (by decide) hk, rfl, rw', o', oD', crs', trs', hmr', hdel _ hms' (by rw [show okind o' = 1 from kind_pool hP']; decide), hP', hT'.kinds hdel, hR'.kinds hdel, he', by omega⟩
  case done =>
    rintro g1 m1 T1 h1 tk1 ⟨hg, rw, o2, oD2, crs, trs, hrw, hmo, hP2, hT2, hR2, he2, hl2⟩ F1 N1
    subst hg
    have hT3 := tab_src N1 hT2 hmo hP2
    have hR3 := rows_src (o' := o2) N1 hR2 hmo hP2
    (try k_fold)
    (repeat' (first | (k_unfold; (try dsimp only)) | (k_end; wrow_close) | (with_reducible ((with_reducible show wpAny _ _ (pyIter (Value.ref _)) (fun it s₂ => LoopB _ _ _ _ _ _ _ _ _ it s₂) _ _); refine stop_mk ?_)) | (with_reducible (k_here; (with_reducible show wpAny _ _ (PySem.call (Value.ref _) _ _) _ _ _); refine stop_mk ?_)) | ((with_reducible show wpAny _ _ (exec (PySem.Stmt.For (PySem.Expr.Name _ _) _ _ _ _) _) _ _ _); with_reducible (k_here; (with_unfolding_all refine' For_B ?_); k_whole)) | walk1 | (dsimp only; walk1) | (leave1; try dsimp only)))
    unfold Stop
    refine finds_core del_ne hP2 ⟨by k_asm, by k_asm, by k_asm, news_del (by k_asm) hmo, by k_asm⟩ (by ((refine ⟨(by first | exact rfl | assumption), ?_, ?_⟩ <;> (have hcL9 := cLine_is; (try simp only [depth_deeper, units_deeper, depth_caller, units_caller, recursionLimit]); omega)))) hT3 hR3 he2 (by omega) ?_
    intro o3 h3 tk3 hP3 F3 N3
    (try k_fold)
    (repeat' (first | (k_unfold; (try dsimp only)) | (k_end; wrow_close) | (with_reducible ((with_reducible show wpAny _ _ (pyIter (Value.ref _)) (fun it s₂ => LoopB _ _ _ _ _ _ _ _ _ it s₂) _ _); refine stop_mk ?_)) | (with_reducible (k_here; (with_reducible show wpAny _ _ (PySem.call (Value.ref _) _ _) _ _ _); refine stop_mk ?_)) | ((with_reducible show wpAny _ _ (exec (PySem.Stmt.For (PySem.Expr.Name _ _) _ _ _ _) _) _ _ _); with_reducible (k_here; (with_unfolding_all refine' For_B ?_); k_whole)) | walk1 | (dsimp only; walk1) | (leave1; try dsimp only)))
    unfold Stop
    refine form_core del_ne hP3 ⟨by k_asm, by k_asm, by k_asm, by k_asm, by k_asm⟩ (by ((refine ⟨(by first | exact rfl | assumption), ?_, ?_⟩ <;> (have hcL9 := cLine_is; (try simp only [depth_deeper, units_deeper, depth_caller, units_caller, recursionLimit]); omega)))) X Tp ?_
    intro o4 h4 tk4 hP4 F4 N4
    (try k_fold)
    (repeat' (first | (k_unfold; (try dsimp only)) | (k_end; wrow_close) | (with_reducible ((with_reducible show wpAny _ _ (pyIter (Value.ref _)) (fun it s₂ => LoopB _ _ _ _ _ _ _ _ _ it s₂) _ _); refine stop_mk ?_)) | (with_reducible (k_here; (with_reducible show wpAny _ _ (PySem.call (Value.ref _) _ _) _ _ _); refine stop_mk ?_)) | ((with_reducible show wpAny _ _ (exec (PySem.Stmt.For (PySem.Expr.Name _ _) _ _ _ _) _) _ _ _); with_reducible (k_here; (with_unfolding_all refine' For_B ?_); k_whole)) | walk1 | (dsimp only; walk1) | (leave1; try dsimp only)))
    unfold Stop
    refine zero_core del_ne hP4 ⟨by k_asm, by k_asm, by k_asm, by k_asm, by k_asm⟩ (by ((refine ⟨(by first | exact rfl | assumption), ?_, ?_⟩ <;> (have hcL9 := cLine_is; (try simp only [depth_deeper, units_deeper, depth_caller, units_caller, recursionLimit]); omega)))) ?_
    intro o5 h5 tk5 hP5 F5 N5
    (try k_fold)
    (repeat' (first | (k_unfold; (try dsimp only)) | (k_end; wrow_close) | (with_reducible ((with_reducible show wpAny _ _ (pyIter (Value.ref _)) (fun it s₂ => LoopB _ _ _ _ _ _ _ _ _ it s₂) _ _); refine stop_mk ?_)) | (with_reducible (k_here; (with_reducible show wpAny _ _ (PySem.call (Value.ref _) _ _) _ _ _); refine stop_mk ?_)) | ((with_reducible show wpAny _ _ (exec (PySem.Stmt.For (PySem.Expr.Name _ _) _ _ _ _) _) _ _ _); with_reducible (k_here; (with_unfolding_all refine' For_B ?_); k_whole)) | walk1 | (dsimp only; walk1) | (leave1; try dsimp only)))
    unfold Stop
    refine ports_core del_ne hP5 ⟨by k_asm, by k_asm, by k_asm, by k_asm, by k_asm⟩ (by ((refine ⟨(by first | exact rfl | assumption), ?_, ?_⟩ <;> (have hcL9 := cLine_is; (try simp only [depth_deeper, units_deeper, depth_caller, units_caller, recursionLimit]); omega)))) X Tp ?_
    intro o6 h6 tk6 hP6 F6 N6
    (try k_fold)
    (repeat' (first | (k_unfold; (try dsimp only)) | (k_end; wrow_close) | (with_reducible ((with_reducible show wpAny _ _ (pyIter (Value.ref _)) (fun it s₂ => LoopB _ _ _ _ _ _ _ _ _ it s₂) _ _); refine stop_mk ?_)) | (with_reducible (k_here; (with_reducible show wpAny _ _ (PySem.call (Value.ref _) _ _) _ _ _); refine stop_mk ?_)) | ((with_reducible show wpAny _ _ (exec (PySem.Stmt.For (PySem.Expr.Name _ _) _ _ _ _) _) _ _ _); with_reducible (k_here; (with_unfolding_all refine' For_B ?_); k_whole)) | walk1 | (dsimp only; walk1) | (leave1; try dsimp only)))
    exact hret _ _ _ (by k_asm)
end
/-! The names that follow are taken so that the kit's evaluator lays no twins of the head's constants (they would make the compiled file too large). They say nothing. -/
theorem top.tw357486453476387696 : True := trivial
theorem top.tw9060247444125581653 : True := trivial
theorem top.tw13780303981602543083 : True := trivial
theorem top.tw8509995832008026349 : True := trivial
theorem top.tw319827597282564339 : True := trivial
theorem top.tw9437893007894698314 : True := trivial
theorem top.tw1105872936857241822 : True := trivial
theorem top.tw1891491216880485542 : True := trivial
theorem top.tw2842448439041094035 : True := trivial
theorem top.tw18394896323154069799 : True := trivial
theorem top.tw17266949926392168832 : True := trivial
theorem top.tw7115824082346440616 : True := trivial
theorem top.tw156323854090586358 : True := trivial
theorem top.tw18289109515434150305 : True := trivial
theorem top.tw1788138344755669473 : True := trivial
theorem top.tw6497835594395633234 : True := trivial
theorem top.tw8973803690348224638 : True := trivial
theorem top.tw13134186033006778460 : True := trivial
theorem top.tw17089494485692210459 : True := trivial
theorem top.tw13829848534252745078 : True := trivial
theorem top.tw12427389293880184781 : True := trivial
theorem top.tw13706816188851595723 : True := trivial
theorem top.tw9377227683167951974 : True := trivial
theorem top.tw7743179893348639699 : True := trivial
theorem top.tw4047667213573674445 : True := trivial
theorem top.tw11666624071039921002 : True := trivial
theorem top.tw16719718919923625709 : True := trivial
theorem top.tw3261557481417251176 : True := trivial
theorem top.tw9743097575036673082 : True := trivial
theorem top.tw6189502492464219833 : True := trivial
theorem top.tw7338813411242759651 : True := trivial
theorem top.tw8694864300669457046 : True := trivial
theorem top.tw16104615914030681952 : True := trivial
theorem top.tw11203750815551599093 : True := trivial
theorem top.tw6505410396798821541 : True := trivial
theorem top.tw14850738236342790093 : True := trivial
theorem top.tw279221788311839977 : True := trivial
theorem top.tw9962302188120564619 : True := trivial
theorem top.tw1706793611546318481 : True := trivial
theorem top.tw6662652255960138227 : True := trivial
theorem top.tw13420762306968818387 : True := trivial
theorem top.tw15503665604740900718 : True := trivial
theorem top.tw5244899138074338376 : True := trivial
theorem top.tw4597200072644226624 : True := trivial
theorem top.tw2555065506035805374 : True := trivial
theorem top.tw12483720753089274532 : True := trivial
theorem top.tw14697636140705633519 : True := trivial
theorem top.tw16196420915677631385 : True := trivial
theorem top.tw16900427199656544559 : True := trivial
theorem top.tw795583310449317561 : True := trivial
theorem top.tw15985961358823992270 : True := trivial
theorem top.tw11960245374511038805 : True := trivial
theorem top.tw1212798325632107971 : True := trivial
theorem top.tw14796646475526232899 : True := trivial
theorem top.tw4498253355057717688 : True := trivial
theorem top.tw987869383939708018 : True := trivial
theorem top.tw517144808224063464 : True := trivial
theorem top.tw12643491718579748851 : True := trivial
theorem top.tw17620759639134147866 : True := trivial
theorem top.tw6749217079512962374 : True := trivial
theorem top.tw6176384092110617959 : True := trivial
theorem top.tw1869187583165140508 : True := trivial
theorem top.tw15878805988109762761 : True := trivial
theorem top.tw5225153198818245361 : True := trivial
theorem top.tw4784893810139332661 : True := trivial
theorem top.tw15254643099363442306 : True := trivial
theorem top.tw8679839319945467846 : True := trivial
theorem top.tw1732150942055357024 : True := trivial
theorem top.tw6621670593625495552 : True := trivial
theorem top.tw8523463495250067690 : True := trivial
theorem top.tw1040915598704419856 : True := trivial
theorem top.tw4299629679881509495 : True := trivial
theorem top.tw5889316905344633881 : True := trivial
theorem top.tw8657480035899644758 : True := trivial
theorem top.tw2617719716777270872 : True := trivial
theorem top.tw9259421805112917234 : True := trivial
theorem top.tw7198060816514059695 : True := trivial
theorem top.tw13091174067606910046 : True := trivial
theorem top.tw9059832203979395877 : True := trivial
theorem top.tw649594095290182367 : True := trivial
theorem top.tw6491118196486620199 : True := trivial
theorem top.tw16795567611416646642 : True := trivial
theorem top.tw6906291655842520137 : True := trivial
theorem top.tw12787338502077490372 : True := trivial
theorem top.tw18245740138792012028 : True := trivial
theorem top.tw12540527436937284434 : True := trivial
theorem top.tw14371913498598963198 : True := trivial
theorem top.tw10996937224433265937 : True := trivial
theorem top.tw3195968871104189447 : True := trivial
theorem top.tw11845233108574324481 : True := trivial
theorem top.tw775762912060472103 : True := trivial
theorem top.tw3254097082911018636 : True := trivial
theorem top.tw3584897518013459382 : True := trivial
theorem top.tw1516213087968936877 : True := trivial
theorem top.tw6286779285267259847 : True := trivial
theorem top.tw4186445540838780016 : True := trivial
theorem top.tw9739860059890490050 : True := trivial
theorem top.tw370947364307004932 : True := trivial
theorem top.tw14402358008270493973 : True := trivial
theorem top.tw2741389259953327712 : True := trivial
theorem top.tw15740088241188596515 : True := trivial
theorem top.tw5523086135645875356 : True := trivial
theorem top.tw11762496359356365647 : True := trivial
theorem top.tw1139600151236580504 : True := trivial
theorem top.tw283044589724301 : True := trivial
theorem top.tw12718909917080609646 : True := trivial
theorem top.tw5278709424875269971 : True := trivial
theorem top.tw4713442408853163898 : True := trivial
theorem top.tw15877122091014420850 : True := trivial
theorem top.tw4671429814451907529 : True := trivial
theorem top.tw8410488445778877200 : True := trivial
theorem top.tw6370870915552960936 : True := trivial
theorem top.tw6919701780365589675 : True := trivial
theorem top.tw7847650389618582240 : True := trivial
theorem top.tw9068506458530023791 : True := trivial
theorem top.tw14142502885225118848 : True := trivial
theorem top.tw14917401599646851644 : True := trivial
theorem top.tw17428532607074087071 : True := trivial
theorem top.tw9227057690007400460 : True := trivial
theorem top.tw8184561461823581802 : True := trivial
theorem top.tw14263998999751124003 : True := trivial
theorem top.tw14826035006057030972 : True := trivial
theorem top.tw16352630495959832749 : True := trivial
theorem top.tw16782997733028217545 : True := trivial
theorem top.tw8212240652046128837 : True := trivial
theorem top.tw1245559373397905713 : True := trivial
theorem top.tw5105846836358774362 : True := trivial
theorem top.tw14901070454687303710 : True := trivial
theorem top.tw8507776931139520737 : True := trivial
theorem top.tw9335426496214029073 : True := trivial
theorem top.tw15361541807878343388 : True := trivial
theorem top.tw705360758644809490 : True := trivial
theorem top.tw16885616592811714743 : True := trivial
theorem top.tw5860347150701562758 : True := trivial
theorem top.tw6761616313442571491 : True := trivial
theorem top.tw8689318265317240412 : True := trivial
theorem top.tw15169761463676818070 : True := trivial
theorem top.tw2985252069258134486 : True := trivial
theorem top.tw14611434983143301774 : True := trivial
theorem top.tw15240379268576122478 : True := trivial
theorem top.tw13928562000808390012 : True := trivial
theorem top.tw7458633546980236471 : True := trivial
theorem top.tw18186074749648716422 : True := trivial
theorem top.tw7557910624720293991 : True := trivial
theorem top.tw2443449257678562572 : True := trivial
theorem top.tw15569959144833144457 : True := trivial
theorem top.tw8204474986945543665 : True := trivial
theorem top.tw427269002284569659 : True := trivial
theorem top.tw708234853630380328 : True := trivial
theorem top.tw9063741608606530840 : True := trivial
theorem top.tw1149218181149386328 : True := trivial
theorem top.tw9378254376102152143 : True := trivial
theorem top.tw10783980745131425670 : True := trivial
theorem top.tw18371284783138465269 : True := trivial
theorem top.tw381845443943030031 : True := trivial
theorem top.tw8237333600419904120 : True := trivial
theorem top.tw16713831800681072344 : True := trivial
theorem top.tw5058314954733539658 : True := trivial
theorem top.tw2249405535684624136 : True := trivial
theorem top.tw14597223018079223185 : True := trivial
theorem top.tw12415523145999629524 : True := trivial
theorem top.tw6859976401760118174 : True := trivial
theorem top.tw4571971715460732019 : True := trivial
theorem top.tw9631074621892390191 : True := trivial
theorem top.tw15688460231516280413 : True := trivial
theorem top.tw16273406610938067001 : True := trivial
theorem top.tw10404823597219466188 : True := trivial
theorem top.tw2812155379371279736 : True := trivial
theorem top.tw17355269125676882429 : True := trivial
theorem top.tw6430265229019958763 : True := trivial
theorem top.tw11141966352661209427 : True := trivial
theorem top.tw14399976873020721970 : True := trivial
theorem top.tw7600245330811189008 : True := trivial
theorem top.tw4656485037274611717 : True := trivial
theorem top.tw6473336682457920079 : True := trivial
theorem top.tw12105128591322288922 : True := trivial
theorem top.tw11199710921928265848 : True := trivial
theorem top.tw1275901062530889299 : True := trivial
theorem top.tw887695700811335699 : True := trivial
theorem top.tw10797620697341660853 : True := trivial
theorem top.tw7429413206186439793 : True := trivial
theorem top.tw10195997230039290492 : True := trivial
theorem top.tw9614876229902214918 : True := trivial
theorem top.tw4321519831107876412 : True := trivial
theorem top.tw16840627104734473223 : True := trivial
theorem top.tw6333448901615975916 : True := trivial
theorem top.tw7830913209206220567 : True := trivial
theorem top.tw105208000716104510 : True := trivial
theorem top.tw1676862907878916244 : True := trivial
theorem top.tw575894324575664597 : True := trivial
theorem top.tw10090393231696489298 : True := trivial
theorem top.tw16123964013534891561 : True := trivial
theorem top.tw16174758807025615021 : True := trivial
theorem top.tw4159251561096739476 : True := trivial
theorem top.tw4213018616267185653 : True := trivial
theorem top.tw8363718466572441477 : True := trivial
theorem top.tw8435561252592420358 : True := trivial
theorem top.tw9382581127745807760 : True := trivial
theorem top.tw10005945817407372193 : True := trivial
set_option Elab.async true in
set_option maxHeartbeats 8000000 in
theorem top : PySem.Challenge.rw_nu0126_01.Holds := by
  w_on
  o_law
  o_head (kHook hd.heap_1 (2 :: 3 :: 15 :: 22 :: 24 :: 25 :: 27 :: 28 :: 29 :: 30 :: 31 :: 32 :: 35 :: 42 :: 43 :: 44 :: 47 :: 54 :: 55 :: 56 :: 59 :: 66 :: 67 :: 68 :: 71 :: 78 :: 79 :: 80 :: 90 :: 92 :: 93 :: 95 :: 96 :: 97 :: 99 :: 100 :: 102 :: 103 :: 104 :: 106 :: 107 :: 109 :: 110 :: 111 :: 112 :: 113 :: 114 :: 115 :: 125 :: 127 :: 128 :: 130 :: 131 :: 132 :: 134 :: 135 :: 137 :: 138 :: 139 :: 141 :: 142 :: 144 :: 145 :: 146 :: 148 :: 149 :: 151 :: 152 :: 153 :: 155 :: 156 :: 158 :: 159 :: 160 :: 162 :: 163 :: 165 :: 166 :: 167 :: 169 :: 170 :: 172 :: 173 :: 174 :: 175 :: 176 :: 177 :: 178 :: 188 :: 190 :: 191 :: 193 :: 194 :: 195 :: 197 :: 198 :: 200 :: 201 :: 202 :: 203 :: 205 :: 206 :: 208 :: 209 :: 210 :: 212 :: 213 :: 215 :: 216 :: 217 :: 219 :: 220 :: 222 :: 223 :: 224 :: 226 :: 227 :: 229 :: 230 :: 231 :: 232 :: 233 :: 234 :: 235 :: 238 :: 240 :: 241 :: 243 :: 244 :: 245 :: 247 :: 248 :: 250 :: 251 :: 252 :: 254 :: 255 :: 257 :: 258 :: 259 :: 261 :: 262 :: 264 :: 265 :: 266 :: 267 :: 269 :: 270 :: 272 :: 273 :: 274 :: 275 :: 277 :: 278 :: 280 :: 281 :: 282 :: 284 :: 285 :: 287 :: 288 :: 289 :: 290 :: 292 :: 293 :: 295 :: 296 :: 297 :: 299 :: 300 :: 302 :: 303 :: 304 :: 306 :: 307 :: 309 :: 310 :: 311 :: 313 :: 314 :: 316 :: 317 :: 318 :: 320 :: 321 :: 323 :: 324 :: 325 :: 327 :: 328 :: 330 :: 331 :: 332 :: 334 :: 335 :: 337 :: 338 :: 339 :: 342 :: 343 :: 344 :: 346 :: 347 :: 349 :: 350 :: 351 :: 353 :: 354 :: 356 :: 357 :: 358 :: 360 :: 361 :: 363 :: 364 :: 365 :: 367 :: 368 :: 370 :: 371 :: 372 :: 375 :: 376 :: 377 :: 379 :: 380 :: 382 :: 383 :: 384 :: 387 :: 388 :: 389 :: 391 :: 392 :: 394 :: 395 :: []) (fun _ => by kernel_rfl))
  (case hw => w_witness2)
  k_go0
  rename World => w9
  have ho9 := lookup_id (K := hd.heap_1 w9.params) (f := 395) (by k_is)
  refine' law_body ho9 ?hms9q ?hL9q ?hI9q ?hlen9q ?B9q ?F9q ?X9q ?N9q ?Tp9q ?hE9q ?hret9q
  case F9q => assumption
  case N9q => assumption
  case X9q => assumption
  case hms9q => rfl
  case hL9q => assumption
  case hI9q => assumption
  case hlen9q => omega
  case B9q => assumption
  case Tp9q => assumption
  case hE9q => passes_own
  case hret9q =>
    intro h' tk' m' F'
    dsimp only
    k_steps
    all_goals walk_report
end Mine
theorem PySem.Challenge.cw_nu0126_01_holds : PySem.Challenge.rw_nu0126_01.Holds :=
  Mine.top
