import PyProof.Rows.All
import Wide.All
import OpenK.AllK
import Wide.FinOn
import PySem.Challenge.RW_pc0166_01
open PySem PySem.W PyProof.Rows
set_option Elab.async false
set_option linter.unusedVariables false
set_option rowWalk.seconds 0
namespace Mine
set_option maxRecDepth 100000 in
set_option maxHeartbeats 8000000 in
open_top hd for PySem.Challenge.rw_pc0166_01
-- Tac
local macro_rules | `(tactic| k_all) => `(tactic| with_reducible assumption)
local macro_rules | `(tactic| k_room) => `(tactic| ktr_room)
local macro_rules | `(tactic| k_units) => `(tactic| ktr_units)
local macro_rules | `(tactic| k_enter) => `(tactic| first | ktr_enter | (refine' code_def ?k1 ?k2 ?k3 ?k4 ?k5 ?kA ?kF ?kK ?k6 ?k7 ?k8 ?k9 ?kB ?_ ?c2 ?c3 ?c4 ?c5; (case kA => exact rfl); (case kF => exact rfl); (case kK => exact rfl); (case k1 => k_asm); (case k2 => k_asm); (case k3 => k_asm); (case k4 => k_asm); (case k5 => k_asm); (case k6 => k_is); (case k7 => k_is); (case k8 => ktr_room); (case k9 => first | exact BindsTo.of_eq rfl | exact binds_K (by k_in) rfl (by k_is) rfl rfl rfl); (case c5 => decide); (case kB => exact locs rfl); (case c2 => exact rfl); (case c3 => exact rfl); (case c4 => exact rfl); k_whole; intro g' L' h' FG' F' N' B' X' T'; (try dsimp only); (try k_lift B'); (try k_fold)))
local macro_rules | `(tactic| k_enter) => `(tactic| first | ktr_enter | (refine' code_defC ?k1 ?k2 ?k3 ?k4 ?k5 ?kA ?kF ?kK ?k6 ?k7 ?k8 ?k9 ?kB ?kD ?_ ?c2 ?c3 ?c4; (case kA => exact rfl); (case kF => exact rfl); (case kK => first | exact rfl | with_reducible assumption); (case k1 => k_asm); (case k2 => k_asm); (case k3 => k_asm); (case k4 => k_asm); (case k5 => k_asm); (case k6 => k_is); (case k7 => k_is); (case k8 => ktr_room); (case k9 => first | exact BindsTo.of_eq rfl | exact binds_K (by k_in) rfl (by k_is) rfl rfl rfl); (case kB => exact rfl); (case kD => decide +kernel); (case c2 => exact rfl); (case c3 => exact rfl); (case c4 => exact rfl); k_whole; intro g' L' h' tk' cells' FG' F' N' Y' B' X' T' l1; (try k_lt l1); k_cells Y'; (try simp only [List.cons_append, List.nil_append] at N'); (try dsimp only); (try k_lift B'); (try k_fold)))
inductive Halt (P : Prop) : Prop
  | on (h : P) : Halt P
theorem Halt.of {P : Prop} (h : Halt P) : P := by cases h; assumption
-- W0
abbrev Led := List (Addr × Obj)
abbrev wkv (gr fns frs : Addr) (made : Int) (tm : Tok) : List (Str × Value) := [(Str.ofString "ground", .ref gr), (Str.ofString "functions", .ref fns), (Str.ofString "frames", .ref frs), (Str.ofString "made", .int made tm)]
abbrev fkv (bs : Int) (tb : Tok) (kept own cl : Addr) : List (Str × Value) := [(Str.ofString "base", .int bs tb), (Str.ofString "kept", .ref kept), (Str.ofString "own", .ref own), (Str.ofString "cells", .ref cl)]
abbrev gdD (P : Params) (k1 k2 : Tok) (stk opn : Addr) : Obj := dictOf [⟨PyData.keyHash P (Str.ofString "stack"), .str (Str.ofString "stack") k1, .ref stk⟩, ⟨PyData.keyHash P (Str.ofString "open_upvals"), .str (Str.ofString "open_upvals") k2, .ref opn⟩] 2
structure UT where
  (k1 k2 k3 k4 k5 k6 t1 t2 t3 ti : Tok)
abbrev upD (P : Params) (T : UT) (th : Value) (i : Int) (va : Value) : Obj := dictOf [
  ⟨PyData.keyHash P (Str.ofString "number"), .str (Str.ofString "number") T.k1, .int 0 T.t1⟩,
  ⟨PyData.keyHash P (Str.ofString "mark"), .str (Str.ofString "mark") T.k2, .int 0 T.t2⟩,
  ⟨PyData.keyHash P (Str.ofString "size"), .str (Str.ofString "size") T.k3, .int 4 T.t3⟩,
  ⟨PyData.keyHash P (Str.ofString "thread"), .str (Str.ofString "thread") T.k4, th⟩,
  ⟨PyData.keyHash P (Str.ofString "index"), .str (Str.ofString "index") T.k5, .int i T.ti⟩,
  ⟨PyData.keyHash P (Str.ofString "value"), .str (Str.ofString "value") T.k6, va⟩] 6
/-- an open variable: its object, its dict, its index -/
structure UpR where
  (u d : Addr) (T : UT) (i : Int)
def UpsIn (P : Params) (gr : Addr) (ups : List UpR) (rest : Led) : Prop := ∀ r ∈ ups, (r.u, instObj 197 r.d) ∈ rest ∧ (r.d, upD P r.T (.ref gr) r.i .none) ∈ rest
theorem UpsIn.inst {P : Params} {gr : Addr} {ups : List UpR} {rest : Led} {r : UpR} (h : UpsIn P gr ups rest) (hr : r ∈ ups) : (r.u, instObj 197 r.d) ∈ rest := (h r hr).1
theorem UpsIn.dict {P : Params} {gr : Addr} {ups : List UpR} {rest : Led} {r : UpR} (h : UpsIn P gr ups rest) (hr : r ∈ ups) : (r.d, upD P r.T (.ref gr) r.i .none) ∈ rest := (h r hr).2
abbrev refsL {α : Type} (f : α → Addr) (xs : List α) (n : Nat) : Obj := listOf (xs.map fun x => Value.ref (f x)).toArray n
abbrev intsL (xs : List (Int × Tok)) (n : Nat) : Obj := listOf (xs.map fun x => Value.int x.1 x.2).toArray n

theorem allLt_all {d : Addr} : ∀ {l : Led}, AllLt d l → ∀ p ∈ l, p.1 < d
  | [], _, _, h => nomatch h
  | _ :: _, x, p, h => by
    rcases List.mem_cons.mp h with rfl | h
    · exact x.1
    · exact allLt_all x.2 p h
theorem allLt_ne {d : Addr} {l : Led} (h : AllLt d l) : ∀ p ∈ l, p.1 ≠ d := fun p hp => Nat.ne_of_lt (allLt_all h p hp)
theorem news_sub {h₀ h : Heap} {L : Addr} {l l' : Led} (N : News h₀ L h l) (hs : ∀ p ∈ l', p ∈ l) : News h₀ L h l' := fun p hp => N p (hs p hp)

section
variable {prog : Program} {w : World} {A : Around} {E : Value → Shared → Prop} {s : Shared} {h₀ : Heap} {L : Addr} {m : Str → Option Value} {news news' : Led}
theorem isl_of {l : Addr} {its : Array Value} {n : Nat} (N : News h₀ L s.heap news) (hm : (l, listOf its n) ∈ news) : s.heap.IsList l its := PySem.IsL.isList (n := n) (N _ hm).1
/-- an item of a mapped list at an open place -/
theorem getItem_map {α : Type} {f : α → Value} {xs : List α} {l : Addr} {n : Nat} {k : Int} {u : Tok} {Q : Value → Shared → Prop} (N : News h₀ L s.heap news) (hm : (l, listOf (xs.map f).toArray n) ∈ news)
    (h0 : 0 ≤ k) (h1 : k < xs.length) (hfit : k < 2 ^ 63) (h : ∀ x, xs[k.toNat]? = some x → x ∈ xs → Q (f x) s) : wpAny (model prog w) A (getItem (.ref l) (.int k u)) Q E s := by
  have hk : k.toNat < xs.length := by omega
  exact wpAny_getItem_list (isl_of N hm) h0 hfit (x := f xs[k.toNat]) (by simp [hk]) (h _ (List.getElem?_eq_getElem hk) (List.getElem_mem hk))
theorem item_map {α : Type} {f : α → Value} {xs : List α} {value slice : Expr} {l : Addr} {n : Nat} {k : Int} {u : Tok} {Q : Value → Shared → Prop} (N : News h₀ L s.heap news) (hm : (l, listOf (xs.map f).toArray n) ∈ news)
    (h0 : 0 ≤ k) (h1 : k < xs.length) (hfit : k < 2 ^ 63) (h : ∀ x, xs[k.toNat]? = some x → x ∈ xs → Q (f x) s)
    (hs : subscripted slice false (.ref l) (.int k u) = operate [.ref l, .int k u] (getItem (.ref l) (.int k u)) := by with_unfolding_all rfl) :
    wpAny (model prog w) A (subscriptTail value slice (.ref l) (.int k u)) Q E s :=
  tail_any (isl_of N hm).typeIs slot_list_getitem.lookup (getItem_map N hm h0 h1 hfit h) hs
theorem len_map {α : Type} {f : α → Value} {xs : List α} {l : Addr} {n : Nat} {Q : Value → Shared → Prop} (N : News h₀ L s.heap news) (hm : (l, listOf (xs.map f).toArray n) ∈ news) (hfit : xs.length < 2 ^ 62)
    (h : Q (.int (xs.length : Nat) (s.toks + 1)) { s with toks := s.toks + 1 + 1 }) : wpAny (model prog w) A (call (.builtin "len") [.ref l]) Q E s := by
  have e : (xs.map f).toArray.size = xs.length := by simp
  refine Calls.call_len_list (isl_of N hm) (by omega) ?_
  rw [e]
  exact h
end
-- the walk's lines
local macro_rules | `(tactic| k_all) => `(tactic| exact allLt_ne (by with_reducible assumption))
local macro_rules | `(tactic| walk_at "my fact") => `(tactic| with_reducible exact UpsIn.inst (by with_reducible assumption) (by with_reducible assumption))
local macro_rules | `(tactic| walk_at "my fact") => `(tactic| with_reducible exact UpsIn.dict (by with_reducible assumption) (by with_reducible assumption))
local macro_rules | `(tactic| walk_at "my fact") => `(tactic| ktr_member)
local macro_rules | `(tactic| walk_at "my mem") => `(tactic| first | with_reducible exact List.mem_cons_self | exact List.mem_cons_self | (refine List.mem_cons_of_mem _ ?_; walk_at "my mem") | walk_at "my fact")
local macro_rules | `(tactic| k_mem) => `(tactic| walk_at "my mem")
local macro_rules | `(tactic| walk_at "subscriptTail Name Constant ref str") => `(tactic| (k_here; k_dflt (refine kda_item (knd := PySem.strKind _ _) (by k_asm) (by walk_at "my mem") (by k_asm) (strKind_is _ _ _ _) (by rfl) ?_)))
local macro_rules | `(tactic| walk_at "subscriptTail") => `(tactic| (k_here; (with_reducible show wpAny _ _ (subscriptTail _ _ (Value.ref _) (Value.int _ _)) _ _ _); (with_unfolding_all refine' item_map ?k1 ?k2 ?k3 ?k4 ?k5 ?_ ?k6; (case k1 => k_asm); (case k2 => k_mem); (case k3 => l_idx); (case k4 => l_idx); (case k5 => l_idx); (case k6 => with_unfolding_all rfl)); intro xI hxI hmI; (try dsimp only)))
local macro_rules | `(tactic| walk_at "call builtin:len") => `(tactic| (k_here; (with_reducible show wpAny _ _ (call (Value.builtin _) [Value.ref _]) _ _ _); (with_unfolding_all refine' len_map ?k1 ?k2 ?k3 ?_; (case k1 => k_asm); (case k2 => k_mem); (case k3 => l_fit)); (try simp only [List.length_append, List.length_cons, List.length_nil, Nat.zero_add])))
-- W1
section
variable {prog : Program} {w : World} {A : Around} {E : Value → Shared → Prop} {Q : Flow → Shared → Prop} {s : Shared} {env : Env} {h₀ : Heap} {L : Addr}
def W1Post (h₀ : Heap) (L : Addr) (s : Shared) (y : Str) (m₀ : Str → Option Value) (news : Led) (I : Int → Prop) (mu : Int → Nat) (Q : Flow → Shared → Prop) (a : Int) (f : Flow) (s₂ : Shared) : Prop :=
  match f with
  | .ret v => Q (.ret v) s₂
  | .brk => Q .next s₂
  | _ => ∃ h' tk m' a' ta' news', s₂ = { s with heap := h', toks := tk } ∧ Fr h₀ L h' m' ∧ News h₀ L h' news' ∧ (∀ p ∈ news, p ∈ news') ∧ m' y = some (.int a' ta') ∧ (∀ z, z ≠ y → m' z = m₀ z) ∧ I a' ∧ mu a' < mu a
theorem W1Post.intro {s : Shared} {y : Str} {m₀ m' : Str → Option Value} {news news' : Led} {I : Int → Prop} {mu : Int → Nat} {a a' : Int} {ta' : Tok} {h' : Heap} {tk : Nat}
    (F : Fr h₀ L h' m') (N : News h₀ L h' news') (hn : ∀ p ∈ news, p ∈ news') (hy : m' y = some (.int a' ta')) (hm : ∀ z, z ≠ y → m' z = m₀ z) (hi : I a') (hmu : mu a' < mu a) :
    W1Post h₀ L s y m₀ news I mu Q a .next { s with heap := h', toks := tk } := ⟨h', tk, m', a', ta', news', rfl, F, N, hn, hy, hm, hi, hmu⟩
theorem while_int {test : Expr} {body : List Stmt} {pos : Pos} {m₀ : Str → Option Value} {news : Led} {y : Str} {a₀ : Int} {t₀ : Tok} (I : Int → Prop) (mu : Int → Nat)
    (F : Fr h₀ L s.heap m₀) (N : News h₀ L s.heap news) (hy : m₀ y = some (.int a₀ t₀)) (hi : I a₀)
    (turn : ∀ a ta h tk, I a → Fr h₀ L h (fun z => if z = y then some (.int a ta) else m₀ z) → News h₀ L h news →
      wpAny (model prog w) A (isTrue test env (eval test env)) (fun b s₂ =>
        if b = true then wpAny (model prog w) A (execs body env) (W1Post h₀ L s y m₀ news I mu Q a) E s₂ else Q .next s₂) E { s with heap := h, toks := tk })
    (hE : PassesOwn (model prog w) A env E := by passes_own) :
    wpAny (model prog w) A (exec (.While test body [] pos) env) Q E s := by
  refine While_inv2 (fun n m nx => nx = news ∧ ∃ a ta, mu a = n ∧ m y = some (.int a ta) ∧ I a ∧ ∀ z, z ≠ y → m z = m₀ z) F N ⟨rfl, a₀, t₀, rfl, hy, hi, fun _ _ => rfl⟩ ?_ hE
  rintro n m₁ nx h tk F₁ N₁ ⟨hnx, a, ta, hsz, hv, hI, hm⟩
  rw [hnx] at N₁
  rw [← hsz]
  have e : (fun z => if z = y then some (Value.int a ta) else m₀ z) = m₁ := by
    funext z
    by_cases h1 : z = y
    · subst h1; simp [hv]
    · simp only [if_neg h1]; exact (hm z h1).symm
  refine wpAny_mono (turn a ta h tk hI (by rw [e]; exact F₁) N₁) (fun b s₂ p => ?_) fun _ _ x => x
  cases b with
  | false => simpa using p
  | true =>
    simp only [if_true] at p ⊢
    refine wpAny_mono p (fun f s₃ q => ?_) fun _ _ x => x
    cases f with
    | ret v => exact q
    | brk => exact q
    | next =>
      obtain ⟨h', tk', m', a', ta', news', rfl, F', N', hn, hv', hm', hI', hs⟩ := q
      exact ⟨h', tk', m', news, mu a', rfl, F', fun p hp => N' p (hn p hp), hs, rfl, a', ta', rfl, hv', hI', hm'⟩
    | cont =>
      obtain ⟨h', tk', m', a', ta', news', rfl, F', N', hn, hv', hm', hI', hs⟩ := q
      exact ⟨h', tk', m', news, mu a', rfl, F', fun p hp => N' p (hn p hp), hs, rfl, a', ta', rfl, hv', hI', hm'⟩
end
-- W2
section
variable {prog : Program} {w : World} {A : Around} {E : Value → Shared → Prop} {s : Shared} {h₀ : Heap} {L D : Addr} {m : Str → Option Value} {news news' : Led} {α : Type} {f : α → Value} {xs : List α} {x : α} {n : Nat} {u : Tok}
theorem small_line {k : Nat} (h : k < 4000) : k ≤ sizeLine := by rw [sizeLine_eq]; omega
theorem fits_nat {k : Nat} (h : k < 4000) : Builtin.List.listFitsIndex (k : Int) = true := by
  unfold Builtin.List.listFitsIndex; simp; omega
theorem insert_map {k : Nat} {v : Value} {Q : Value → Shared → Prop} (F : Fr h₀ L s.heap m) (N : News h₀ L s.heap news) (e : f x = v) (U : Upd D (listOf (xs.map f).toArray n) (listOf ((xs.insertIdx k x).map f).toArray (n + 1)) news news') (hk : k ≤ xs.length) (hl : xs.length < 2000)
    (h : ∀ h', Fr h₀ L h' m → News h₀ L h' news' → Q .none { s with heap := h' }) : wpAny (model prog w) A (call (.builtin "list.insert") [.ref D, .int (k : Int) u, v]) Q E s := by
  subst e
  refine kl_insert F N (fits_nat (by omega)) (l := (xs.insertIdx k x).map f) ?_ U (small_line (by simp; omega)) h
  unfold kl_ins
  have hk0 : ¬ ((k : Int) < 0) := by omega
  have hk1 : min ((k : Int).toNat) ((xs.map f).toArray.toList.length) = k := by simp; omega
  rw [if_neg hk0, hk1]
  have hz : ∀ (ys : List α) (j : Nat), j ≤ ys.length → (ys.map f).take j ++ f x :: (ys.map f).drop j = (ys.insertIdx j x).map f := by
    intro ys
    induction ys with
    | nil => intro j hj; simp at hj; subst hj; simp
    | cons y r ih =>
      intro j hj
      cases j with
      | zero => simp
      | succ j => simp only [List.map_cons, List.take_succ_cons, List.drop_succ_cons, List.insertIdx_succ_cons, List.cons_append]; rw [ih j (by simpa using hj)]
  simpa using hz xs k hk
theorem pop0_map {Q : Value → Shared → Prop} (F : Fr h₀ L s.heap m) (N : News h₀ L s.heap news) (U : Upd D (listOf ((x :: xs).map f).toArray n) (listOf (xs.map f).toArray (n + 1)) news news') (hl : xs.length < 2000)
    (h : ∀ h', Fr h₀ L h' m → News h₀ L h' news' → Q (f x) { s with heap := h' }) : wpAny (model prog w) A (call (.builtin "list.pop") [.ref D, .int 0 u]) Q E s :=
  kl_popAt (its := ((x :: xs).map f).toArray) (i := 0) (k := 0) (p := []) (q := xs.map f) (y := f x) F N (fits_nat (k := 0) (by omega)) (by unfold seqIndex?; simp) (by simp [kl_cut]) (by simpa using U) (small_line (by simp; omega)) h
theorem popl_map {Q : Value → Shared → Prop} (F : Fr h₀ L s.heap m) (N : News h₀ L s.heap news) (U : Upd D (listOf ((xs ++ [x]).map f).toArray n) (listOf (xs.map f).toArray (n + 1)) news news') (hl : xs.length < 2000)
    (h : ∀ h', Fr h₀ L h' m → News h₀ L h' news' → Q (f x) { s with heap := h' }) : wpAny (model prog w) A (call (.builtin "list.pop") [.ref D]) Q E s :=
  kl_pop (p := xs.map f) (y := f x) F N (by
    have : ∀ l : List Value, kl_last (l ++ [f x]) = some (l, f x) := by
      intro l
      induction l with
      | nil => rfl
      | cons y r ih => simp only [List.cons_append, kl_last, ih]
    simpa using this (xs.map f)) U (small_line (by simp; omega)) h
theorem append_map {v : Value} {Q : Value → Shared → Prop} (F : Fr h₀ L s.heap m) (N : News h₀ L s.heap news) (e : f x = v) (U : Upd D (listOf (xs.map f).toArray n) (listOf ((xs ++ [x]).map f).toArray (n + 1)) news news') (hl : xs.length < 2000)
    (h : ∀ h', Fr h₀ L h' m → News h₀ L h' news' → Q .none { s with heap := h' }) : wpAny (model prog w) A (call (.builtin "list.append") [.ref D, v]) Q E s := by
  subst e
  refine append_K (its := (xs.map f).toArray) (n := n) F N ?_ h (small_line (by simp; omega))
  simpa using U
theorem set_map {k : Int} {x' : α} {v : Value} {Q : Unit → Shared → Prop} (F : Fr h₀ L s.heap m) (N : News h₀ L s.heap news) (e : f x' = v) (U : Upd D (listOf (xs.map f).toArray n) (listOf ((xs.set k.toNat x').map f).toArray n) news news') (h0 : 0 ≤ k) (h1 : k < xs.length) (hfit : k < 2 ^ 63)
    (h : ∀ h', Fr h₀ L h' m → News h₀ L h' news' → Q () { s with heap := h' }) : wpAny (model prog w) A (setItem (.ref D) (.int k u) v) Q E s := by
  subst e
  obtain ⟨pre, post, rfl, rfl, a, b⟩ := U.split
  have z := N (D, listOf (xs.map f).toArray n) (List.mem_append.mpr (.inr (.head _)))
  refine ki_setAt z.1 h0 hfit (by simp; omega) (h _ (F.change (Heap.SameBut.update ..) z.2.1 z.2.2) (ki_turn _ N a b ?_ ?_))
  · apply Array.toList_inj.mp
    simp [List.map_set]
  · simp
theorem extend_map {b : Addr} {ys : List α} {n2 : Nat} {Q : Value → Shared → Prop} (F : Fr h₀ L s.heap m) (N : News h₀ L s.heap news) (hb : (b, listOf (ys.map f).toArray n2) ∈ news) (hne : ys ≠ [])
    (U : Upd D (listOf (xs.map f).toArray n) (listOf ((xs ++ ys).map f).toArray (n + 1)) news news') (hl : xs.length < 2000) (hl2 : ys.length < 2000)
    (h : ∀ h', Fr h₀ L h' m → News h₀ L h' news' → Q .none { s with heap := h' }) : wpAny (model prog w) A (call (.builtin "list.extend") [.ref D, .ref b]) Q E s := by
  refine kl_extend (l := (xs ++ ys).map f) F N hb (by simp) (by simpa using hne) U ?_ (small_line (by simp; omega)) (by rw [sizeLine_eq]; simp; omega) h
  unfold Builtin.List.listTooLong
  have hz : xs.length + ys.length ≤ sizeLine := by rw [sizeLine_eq]; omega
  simp; intro _; omega
end
theorem updF_rest {d : Addr} {o : Obj} {news : Led} {g : Obj → Led} (U : UpdF d o news g) : ∃ rest : Led, (∀ p ∈ rest, p.1 ≠ d) ∧ (∀ p ∈ news, p = (d, o) ∨ p ∈ rest) ∧ (∀ p ∈ (d, o) :: rest, p ∈ news) ∧ ∀ o', ∀ p ∈ g o', p ∈ (d, o') :: rest := by
  obtain ⟨pre, post, rfl, hg, a, b⟩ := U.split
  refine ⟨pre ++ post, fun p hp => ?_, fun p hp => ?_, fun p hp => ?_, fun o' p hp => ?_⟩
  · rcases List.mem_append.mp hp with h | h
    · exact a p h
    · exact b p h
  · rcases List.mem_append.mp hp with h | h
    · exact .inr (List.mem_append_left _ h)
    · rcases List.mem_cons.mp h with h | h
      · exact .inl h
      · exact .inr (List.mem_append_right _ h)
  · rcases List.mem_cons.mp hp with h | h
    · subst h; exact List.mem_append_right _ List.mem_cons_self
    · rcases List.mem_append.mp h with h | h
      · exact List.mem_append_left _ h
      · exact List.mem_append_right _ (List.mem_cons_of_mem _ h)
  · rw [hg] at hp
    rcases List.mem_append.mp hp with h | h
    · exact List.mem_cons_of_mem _ (List.mem_append_left _ h)
    · rcases List.mem_cons.mp h with h | h
      · subst h; exact List.mem_cons_self
      · exact List.mem_cons_of_mem _ (List.mem_append_right _ h)
theorem dict_list : (Value.type "dict") ≠ (Value.type "list") := by intro h; injection h with h; revert h; decide
theorem mem_rest {d a : Addr} {o x : Obj} {news rest : Led} (h2 : ∀ p ∈ news, p = (d, o) ∨ p ∈ rest) (hm : (a, x) ∈ news) (hne : x.cls ≠ o.cls) : (a, x) ∈ rest := by
  rcases h2 _ hm with h | h
  · cases h; exact absurd rfl hne
  · exact h
theorem UpsIn.rest {P : Params} {gr d : Addr} {o : Obj} {ups : List UpR} {news rest : Led} (h : UpsIn P gr ups news) (h2 : ∀ p ∈ news, p = (d, o) ∨ p ∈ rest) (ho : o.cls = .type "list") : UpsIn P gr ups rest := fun r hr =>
  ⟨mem_rest h2 (h r hr).1 (by rw [ho]; nofun), mem_rest h2 (h r hr).2 (by rw [ho]; exact dict_list)⟩
local macro_rules | `(tactic| is_list) => `(tactic| exact isl_of (by k_asm) (by k_mem))
local macro_rules | `(tactic| walk_at "call builtin:list.insert") => `(tactic| (k_here; (with_reducible show wpAny _ _ (call (Value.builtin _) [Value.ref _, Value.int _ _, _]) _ _ _); k_dflt (refine' insert_map ?F ?N ?e ?U ?hk ?hl ?_; (case F => k_asm); (case N => k_asm); (case U => k_upd); (case e => exact rfl); (case hk => first | with_reducible assumption | omega); (case hl => first | with_reducible assumption | omega)); intro h' F' N'; (try k_sweep)))
local macro_rules | `(tactic| walk_at "call builtin:list.pop") => `(tactic| (k_here; (with_reducible show wpAny _ _ (call (Value.builtin _) [Value.ref _, Value.int 0 _]) _ _ _); k_dflt (refine' pop0_map ?F ?N ?U ?hl ?_; (case F => k_asm); (case N => k_asm); (case U => k_upd); (case hl => first | with_reducible assumption | omega)); intro h' F' N'; (try dsimp only); (try k_sweep)))
local macro_rules | `(tactic| walk_at "call builtin:list.pop") => `(tactic| (k_here; (with_reducible show wpAny _ _ (call (Value.builtin _) [Value.ref _]) _ _ _); k_dflt (refine' popl_map ?F ?N ?U ?hl ?_; (case F => k_asm); (case N => k_asm); (case U => k_upd); (case hl => first | with_reducible assumption | omega)); intro h' F' N'; (try dsimp only); (try k_sweep)))
local macro_rules | `(tactic| walk_at "call builtin:list.append") => `(tactic| (k_here; (with_reducible show wpAny _ _ (call (Value.builtin _) [Value.ref _, _]) _ _ _); k_dflt (refine' append_map ?F ?N ?e ?U ?hl ?_; (case F => k_asm); (case N => k_asm); (case U => k_upd); (case e => exact rfl); (case hl => first | with_reducible assumption | omega)); intro h' F' N'; (try k_sweep)))
local macro_rules | `(tactic| walk_at "setItem ref int") => `(tactic| (k_here; (with_reducible show wpAny _ _ (setItem (Value.ref _) (Value.int _ _) _) _ _ _); k_dflt (refine' set_map ?F ?N ?e ?U ?h0 ?h1 ?hf ?_; (case F => k_asm); (case N => k_asm); (case U => k_upd); (case e => exact rfl); (case h0 => l_idx); (case h1 => l_idx); (case hf => l_idx)); intro h' F' N'; (try k_sweep)))
local macro_rules | `(tactic| walk_at "call builtin:list.extend") => `(tactic| (k_here; (with_reducible show wpAny _ _ (call (Value.builtin _) [Value.ref _, Value.ref _]) _ _ _); k_dflt (refine' extend_map ?F ?N ?b ?ne ?U ?hl ?hl2 ?_; (case F => k_asm); (case N => k_asm); (case b => k_mem); (case U => k_upd); (case ne => simp); (case hl => first | with_reducible assumption | omega); (case hl2 => first | with_reducible assumption | simp)); intro h' F' N'; (try k_sweep)))
section
variable {prog : Program} {w : World} {A : Around} {E : Value → Shared → Prop} {s : Shared} {h₀ : Heap} {L D : Addr} {m : Str → Option Value} {news news' : Led} {xs : List (Int × Tok)} {n : Nat} {u : Tok}
theorem set_ints {k v : Int} {t : Tok} {Q : Unit → Shared → Prop} (F : Fr h₀ L s.heap m) (N : News h₀ L s.heap news) (U : Upd D (intsL xs n) (intsL (xs.set k.toNat (v, t)) n) news news') (h0 : 0 ≤ k) (h1 : k < xs.length) (hfit : k < 2 ^ 63)
    (h : ∀ h', Fr h₀ L h' m → News h₀ L h' news' → Q () { s with heap := h' }) : wpAny (model prog w) A (setItem (.ref D) (.int k u) (.int v t)) Q E s := set_map (x' := (v, t)) F N rfl U h0 h1 hfit h
theorem append_ints {v : Int} {t : Tok} {Q : Value → Shared → Prop} (F : Fr h₀ L s.heap m) (N : News h₀ L s.heap news) (U : Upd D (intsL xs n) (intsL (xs ++ [(v, t)]) (n + 1)) news news') (hl : xs.length < 2000)
    (h : ∀ h', Fr h₀ L h' m → News h₀ L h' news' → Q .none { s with heap := h' }) : wpAny (model prog w) A (call (.builtin "list.append") [.ref D, .int v t]) Q E s := append_map (x := (v, t)) F N rfl U hl h
end
local macro_rules | `(tactic| walk_at "setItem ref int") => `(tactic| (k_here; (with_reducible show wpAny _ _ (setItem (Value.ref _) (Value.int _ _) (Value.int _ _)) _ _ _); k_dflt (refine' set_ints ?F ?N ?U ?h0 ?h1 ?hf ?_; (case F => k_asm); (case N => k_asm); (case U => k_upd); (case h0 => l_idx); (case h1 => l_idx); (case hf => l_idx)); intro h' F' N'; (try k_sweep)))
local macro_rules | `(tactic| walk_at "call builtin:list.append") => `(tactic| (k_here; (with_reducible show wpAny _ _ (call (Value.builtin _) [Value.ref _, Value.int _ _]) _ _ _); k_dflt (refine' append_ints ?F ?N ?U ?hl ?_; (case F => k_asm); (case N => k_asm); (case U => k_upd); (case hl => first | with_reducible assumption | omega)); intro h' F' N'; (try k_sweep)))
-- C1
theorem take_step {ups : List UpR} {a : Int} {x : UpR} {index : Int} (h0 : 0 ≤ a) (hx : ups[a.toNat]? = some x) (hi : ∀ r ∈ ups.take a.toNat, r.i > index) (hg : index < x.i) : ∀ r ∈ ups.take (a + 1).toNat, r.i > index := by
  have e : (a + 1).toNat = a.toNat + 1 := by omega
  rw [e, List.take_add_one, hx]
  intro r hr
  rcases List.mem_append.mp hr with h | h
  · exact hi r h
  · simp at h; subst h; exact hg
section
variable {prog : Program} {w : World} {p : Program} {loose : List Str} {mean : ExcName → Option Value} {mg mb : Str → Option Value}
  {dp un : Nat} {gdd : Option (List Code)} {cn : Str} {cs : Scope} {a : Addr} {ccd : Value} {cl : List (Str × Addr)} {outer : List Env} {A₀ : Around} {base h₀ : Heap} {L : Addr} {m : Str → Option Value} {s : Shared} {Q E : Value → Shared → Prop}
  (B : Below A₀ base outer h₀) (F : Fr h₀ L s.heap m) (X : (Mine.hd.heap_39 w.params).In h₀) (T : Top p loose mean mg mb h₀) (hk : cs.kind = .function)
include B F X T hk
set_option maxRecDepth 100000 in
set_option maxHeartbeats 4000000 in
theorem spot_spec {rest : Led} {gr gd stk opn : Addr} {k1 k2 : Tok} {ups : List UpR} {on : Nat} {index : Int} {ti : Tok}
  (N : News h₀ L s.heap rest)
  (hgr : (gr, instObj 216 gd) ∈ rest) (hgd : (gd, gdD w.params k1 k2 stk opn) ∈ rest) (hop : (opn, refsL UpR.u ups on) ∈ rest) (hu : UpsIn w.params gr ups rest) (hlen : ups.length < 1000)
  (hroom : dp + 1 < recursionLimit) (hunits : un + 8 < cLine)
  (ret : ∀ (k : Nat) (tr : Tok) (h' : Heap) (tk' : Nat), Fr h₀ L h' m → News h₀ L h' rest → k ≤ ups.length → (∀ r ∈ ups.take k, r.i > index) → (∀ r, ups[k]? = some r → r.i ≤ index) → Q (.int (k : Int) tr) { s with heap := h', toks := tk' }) :
  wpAny (model prog w) (ktrTop dp un gdd cn cs L a ccd cl outer) (call (.ref 227) [.ref gr, .int index ti]) Q E s := by
  w_top off
  k_with_none
  k_with "exec While BoolOp cons nil" => (refine' while_int (y := Str.ofString "at") (fun k => 0 ≤ k ∧ k ≤ ups.length ∧ ∀ r ∈ ups.take k.toNat, r.i > index) (fun k => ups.length - k.toNat) ?F ?N ?y ?i ?t; (case F => k_asm); (case N => k_asm); (case y => rfl); (case i => exact ⟨by omega, by omega, by simp⟩); intro a' ta' h' tk' hI F' N'; obtain ⟨hI0, hI1, hI2⟩ := hI; (try k_fold))
  k_steps
  case _ => exact W1Post.intro (by assumption) (by assumption) (fun p hp => hp) (by rfl) (by intro z hz; simp [hz]) ⟨by omega, by omega, take_step hI0 (by assumption) hI2 (by assumption)⟩ (by omega)
  case _ =>
    rename ups[a'.toNat]? = some _ => hxI
    obtain ⟨k, rfl⟩ : ∃ k : Nat, a' = k := ⟨a'.toNat, by omega⟩
    exact ret k _ _ _ (by assumption) (by assumption) (by omega) (by simpa using hI2) (by intro r hr; rw [Int.toNat_natCast] at hxI; rw [hr] at hxI; cases hxI; omega)
  case _ =>
    obtain ⟨k, rfl⟩ : ∃ k : Nat, a' = k := ⟨a'.toNat, by omega⟩
    exact ret k _ _ _ (by assumption) (by assumption) (by omega) (by simpa using hI2) (by intro r hr; have := List.getElem?_eq_some_iff.mp hr; obtain ⟨h1, _⟩ := this; omega)
end
-- C2
section
theorem UpsIn.cons {P : Params} {gr : Addr} {ups : List UpR} {rest : Led} {x : Addr × Obj} (h : UpsIn P gr ups rest) : UpsIn P gr ups (x :: rest) := fun r hr => ⟨List.mem_cons_of_mem _ (h r hr).1, List.mem_cons_of_mem _ (h r hr).2⟩
local macro_rules | `(tactic| walk_at "my ups") => `(tactic| (repeat (first | with_reducible assumption | refine UpsIn.cons ?_)))
local macro_rules | `(tactic| walk_at "call ref") => `(tactic| (k_here; (with_reducible show wpAny _ _ (call (Value.ref 227) [Value.ref _, Value.int _ _]) _ _ _); k_dflt (refine' spot_spec ?k1 ?k2 ?k3 ?k4 ?kK ?N ?hgr ?hgd ?hop ?hu ?hlen ?kd ?ku ?_; (case k1 => k_asm); (case k2 => k_asm); (case k3 => k_asm); (case k4 => k_asm); (case kK => first | exact rfl | with_reducible assumption); (case N => k_asm); (case hgr => k_mem); (case hgd => k_mem); (case hop => k_mem); (case hu => walk_at "my ups"); (case hlen => with_reducible assumption); (case kd => ktr_room); (case ku => ktr_units)); intro k9 t9 h9 tk9 F9 N9 hk9 ht9 hg9; (try dsimp only); (try k_fold)))
theorem lt_of_spot {ups : List UpR} {k : Nat} {index : Int} {x : UpR} (hg : ∀ r, ups[k]? = some r → r.i ≤ index) (hx : ups[((k : Nat) : Int).toNat]? = some x) (hne : x.i ≠ index) : ∀ r, ups[k]? = some r → r.i < index := by
  intro r hr
  rw [Int.toNat_natCast, hr] at hx
  cases hx
  have := hg _ hr
  omega
section
variable {prog : Program} {w : World} {p : Program} {loose : List Str} {mean : ExcName → Option Value} {mg mb : Str → Option Value}
  {dp un : Nat} {gdd : Option (List Code)} {cn : Str} {cs : Scope} {a : Addr} {ccd : Value} {cl : List (Str × Addr)} {outer : List Env} {A₀ : Around} {base h₀ : Heap} {L : Addr} {m : Str → Option Value} {s : Shared} {Q E : Value → Shared → Prop}
  (B : Below A₀ base outer h₀) (F : Fr h₀ L s.heap m) (X : (Mine.hd.heap_39 w.params).In h₀) (T : Top p loose mean mg mb h₀) (hk : cs.kind = .function)
include B F X T hk
set_option maxRecDepth 100000 in
set_option maxHeartbeats 4000000 in
theorem openat_spec {rest : Led} {gr gd stk opn : Addr} {k1 k2 : Tok} {ups : List UpR} {on : Nat} {index : Int} {ti : Tok}
  (N : News h₀ L s.heap rest)
  (hgr : (gr, instObj 216 gd) ∈ rest) (hgd : (gd, gdD w.params k1 k2 stk opn) ∈ rest) (hop : (opn, refsL UpR.u ups on) ∈ rest) (hu : UpsIn w.params gr ups rest) (hlen : ups.length < 1000)
  (hroom : dp + 2 < recursionLimit) (hunits : un + 16 < cLine)
  (ret1 : ∀ (r : UpR) (h' : Heap) (tk' : Nat), Fr h₀ L h' m → News h₀ L h' rest → r ∈ ups → r.i = index → Q (.ref r.u) { s with heap := h', toks := tk' })
  (ret2 : ∀ (k : Nat) (h' : Heap) (tk' : Nat), Fr h₀ L h' m → News h₀ L h' rest → (∀ r ∈ ups.take k, r.i > index) → (∀ r, ups[k]? = some r → r.i < index) → Q .none { s with heap := h', toks := tk' }) :
  wpAny (model prog w) (ktrTop dp un gdd cn cs L a ccd cl outer) (call (.ref 234) [.ref gr, .int index ti]) Q E s := by
  w_top off
  k_with_none
  k_steps
  case _ => exact ret1 _ _ _ (by assumption) (by assumption) (by assumption) (by rename_i x1 h1 m1 e1 x2 h2 m2 f1 f2 f3 f4; rw [h1] at h2; cases h2; exact e1)
  case _ => exact ret2 _ _ _ (by assumption) (by assumption) (by assumption) (lt_of_spot (by assumption) (by assumption) (by assumption))
  case _ => exact ret2 _ _ _ (by assumption) (by assumption) (by assumption) (by intro r hr; obtain ⟨h1, _⟩ := List.getElem?_eq_some_iff.mp hr; omega)
set_option maxRecDepth 100000 in
set_option maxHeartbeats 4000000 in
theorem putopen_spec0 {rest : Led} {gr gd stk opn : Addr} {k1 k2 : Tok} {ups : List UpR} {on : Nat} {x : UpR}
  (N : News h₀ L s.heap ((opn, refsL UpR.u ups on) :: rest)) (hne : ∀ p ∈ rest, p.1 ≠ opn)
  (hgr : (gr, instObj 216 gd) ∈ rest) (hgd : (gd, gdD w.params k1 k2 stk opn) ∈ rest) (hu : UpsIn w.params gr ups rest) (hlen : ups.length < 1000)
  (hx : UpsIn w.params gr [x] rest)
  (hroom : dp + 2 < recursionLimit) (hunits : un + 16 < cLine)
  (ret : ∀ (k : Nat) (h' : Heap) (tk' : Nat), Fr h₀ L h' m → News h₀ L h' ((opn, refsL UpR.u (ups.insertIdx k x) (on + 1)) :: rest) → k ≤ ups.length → (∀ r ∈ ups.take k, r.i > x.i) → (∀ r, ups[k]? = some r → r.i ≤ x.i) → Q .none { s with heap := h', toks := tk' }) :
  wpAny (model prog w) (ktrTop dp un gdd cn cs L a ccd cl outer) (call (.ref 241) [.ref gr, .ref x.u]) Q E s := by
  w_top off
  k_with_none
  have hx1 := hx.inst (r := x) (by simp)
  have hx2 := hx.dict (r := x) (by simp)
  k_steps
  exact ret _ _ _ (by assumption) (by assumption) (by assumption) (by assumption) (by assumption)
theorem putopen_spec {news : Led} {g : Obj → Led} {gr gd stk opn : Addr} {k1 k2 : Tok} {ups : List UpR} {on : Nat} {x : UpR} {xu : Addr}
  (N : News h₀ L s.heap news) (U : UpdF opn (refsL UpR.u ups on) news g)
  (hgr : (gr, instObj 216 gd) ∈ news) (hgd : (gd, gdD w.params k1 k2 stk opn) ∈ news) (hu : UpsIn w.params gr ups news) (hlen : ups.length < 1000)
  (hx : UpsIn w.params gr [x] news) (ex : x.u = xu)
  (hroom : dp + 2 < recursionLimit) (hunits : un + 16 < cLine)
  (ret : ∀ (k : Nat) (h' : Heap) (tk' : Nat), Fr h₀ L h' m → News h₀ L h' (g (refsL UpR.u (ups.insertIdx k x) (on + 1))) → k ≤ ups.length → (∀ r ∈ ups.take k, r.i > x.i) → (∀ r, ups[k]? = some r → r.i ≤ x.i) → Q .none { s with heap := h', toks := tk' }) :
  wpAny (model prog w) (ktrTop dp un gdd cn cs L a ccd cl outer) (call (.ref 241) [.ref gr, .ref xu]) Q E s := by
  subst ex
  obtain ⟨rest, r1, r2, r3, r4⟩ := updF_rest U
  exact putopen_spec0 B F X T hk (news_sub N r3) r1 (mem_rest r2 hgr nofun) (mem_rest r2 hgd dict_list) (hu.rest r2 rfl) hlen (hx.rest r2 rfl) hroom hunits
    fun k h' tk' F' N' a1 a2 a3 => ret k h' tk' F' (news_sub N' (r4 _)) a1 a2 a3
end
local macro_rules | `(tactic| walk_at "call ref") => `(tactic| (k_here; (with_reducible show wpAny _ _ (call (Value.ref 234) [Value.ref _, Value.int _ _]) _ _ _); k_dflt (refine' openat_spec ?k1 ?k2 ?k3 ?k4 ?kK ?N ?hgr ?hgd ?hop ?hu ?hlen ?kd ?ku ?r1 ?r2; (case k1 => k_asm); (case k2 => k_asm); (case k3 => k_asm); (case k4 => k_asm); (case kK => first | exact rfl | with_reducible assumption); (case N => k_asm); (case hgr => k_mem); (case hgd => k_mem); (case hop => k_mem); (case hu => walk_at "my ups"); (case hlen => with_reducible assumption); (case kd => ktr_room); (case ku => ktr_units)); all_goals (intro x9 h9 tk9 F9 N9 ha9 hb9; (try dsimp only); (try k_fold))))
end
-- C3
section
local macro_rules | `(tactic| walk_at "my ups") => `(tactic| (repeat (first | with_reducible assumption | refine UpsIn.cons ?_)))
local macro_rules | `(tactic| walk_at "call ref") => `(tactic| (k_here; (with_reducible show wpAny _ _ (call (Value.ref 227) [Value.ref _, Value.int _ _]) _ _ _); k_dflt (refine' spot_spec ?k1 ?k2 ?k3 ?k4 ?kK ?N ?hgr ?hgd ?hop ?hu ?hlen ?kd ?ku ?_; (case k1 => k_asm); (case k2 => k_asm); (case k3 => k_asm); (case k4 => k_asm); (case kK => first | exact rfl | with_reducible assumption); (case N => k_asm); (case hgr => k_mem); (case hgd => k_mem); (case hop => k_mem); (case hu => walk_at "my ups"); (case hlen => with_reducible assumption); (case kd => ktr_room); (case ku => ktr_units)); intro k9 t9 h9 tk9 F9 N9 hk9 ht9 hg9; (try dsimp only); (try k_fold)))
local macro_rules | `(tactic| walk_at "call ref") => `(tactic| (k_here; (with_reducible show wpAny _ _ (call (Value.ref 234) [Value.ref _, Value.int _ _]) _ _ _); k_dflt (refine' openat_spec ?k1 ?k2 ?k3 ?k4 ?kK ?N ?hgr ?hgd ?hop ?hu ?hlen ?kd ?ku ?r1 ?r2; (case k1 => k_asm); (case k2 => k_asm); (case k3 => k_asm); (case k4 => k_asm); (case kK => first | exact rfl | with_reducible assumption); (case N => k_asm); (case hgr => k_mem); (case hgd => k_mem); (case hop => k_mem); (case hu => walk_at "my ups"); (case hlen => with_reducible assumption); (case kd => ktr_room); (case ku => ktr_units)); all_goals (intro x9 h9 tk9 F9 N9 ha9 hb9; (try dsimp only); (try k_fold))))
theorem UpsIn.one {P : Params} {gr u d : Addr} {k1 k2 k3 k4 k5 k6 t1 t2 t3 ti : Tok} {i : Int} {rest : Led} (h1 : (u, instObj 197 d) ∈ rest)
    (h2 : (d, upD P ⟨k1, k2, k3, k4, k5, k6, t1, t2, t3, ti⟩ (.ref gr) i .none) ∈ rest) : UpsIn P gr [⟨u, d, ⟨k1, k2, k3, k4, k5, k6, t1, t2, t3, ti⟩, i⟩] rest := fun r hr => by
  rw [List.mem_singleton.mp hr]; exact ⟨h1, h2⟩
local macro_rules | `(tactic| walk_at "call ref") => `(tactic| (k_here; (with_reducible show wpAny _ _ (call (Value.ref 241) [Value.ref _, Value.ref _]) _ _ _); k_dflt (refine' putopen_spec ?k1 ?k2 ?k3 ?k4 ?kK ?N ?U ?hgr ?hgd ?hu ?hlen ?hx ?ex ?kd ?ku ?_; (case k1 => k_asm); (case k2 => k_asm); (case k3 => k_asm); (case k4 => k_asm); (case kK => first | exact rfl | with_reducible assumption); (case N => k_asm); (case hgr => k_mem); (case hgd => k_mem); (case U => k_updF);  (case hu => walk_at "my ups"); (case hlen => with_reducible assumption); (case hx => exact UpsIn.one (by k_mem) (by k_mem)); (case ex => exact rfl); (case kd => ktr_room); (case ku => ktr_units)); intro k9 h9 tk9 F9 N9 ha9 hb9 hc9; (try dsimp only at N9); (try dsimp only); (try k_fold)))
theorem spot_lt {ups : List UpR} {k k₀ : Nat} {index : Int} (h2 : ∀ r, ups[k₀]? = some r → r.i < index) (h1 : ∀ r ∈ ups.take k₀, r.i > index) (h4 : ∀ r, ups[k]? = some r → r.i ≤ index) (h3 : ∀ r ∈ ups.take k, r.i > index) : ∀ r, ups[k]? = some r → r.i < index := by
  intro r hr
  rcases Nat.lt_trichotomy k k₀ with h | h | h
  · have := h1 r (List.mem_take_iff_getElem.mpr (by obtain ⟨hl, e⟩ := List.getElem?_eq_some_iff.mp hr; exact ⟨k, by omega, e⟩)); have := h4 r hr; omega
  · subst h; exact h2 r hr
  · obtain ⟨hl, _⟩ := List.getElem?_eq_some_iff.mp hr
    have e : ups[k₀]? = some (ups[k₀]'(by omega)) := List.getElem?_eq_getElem (by omega)
    have := h2 _ e
    have := h3 (ups[k₀]'(by omega)) (List.mem_take_iff_getElem.mpr ⟨k₀, by omega, rfl⟩)
    omega
section
variable {prog : Program} {w : World} {p : Program} {loose : List Str} {mean : ExcName → Option Value} {mg mb : Str → Option Value}
  {dp un : Nat} {gdd : Option (List Code)} {cn : Str} {cs : Scope} {a : Addr} {ccd : Value} {cl : List (Str × Addr)} {outer : List Env} {A₀ : Around} {base h₀ : Heap} {L : Addr} {m : Str → Option Value} {s : Shared} {Q E : Value → Shared → Prop}
  (B : Below A₀ base outer h₀) (F : Fr h₀ L s.heap m) (X : (Mine.hd.heap_39 w.params).In h₀) (T : Top p loose mean mg mb h₀) (hk : cs.kind = .function)
include B F X T hk
set_option maxRecDepth 100000 in
set_option maxHeartbeats 4000000 in
theorem find_spec0 {rest : Led} {gr gd stk opn : Addr} {k1 k2 : Tok} {ups : List UpR} {on : Nat} {index : Int} {ti : Tok}
  (N : News h₀ L s.heap ((opn, refsL UpR.u ups on) :: rest)) (hne : ∀ p ∈ rest, p.1 ≠ opn)
  (hgr : (gr, instObj 216 gd) ∈ rest) (hgd : (gd, gdD w.params k1 k2 stk opn) ∈ rest) (hu : UpsIn w.params gr ups rest) (hlen : ups.length < 1000)
  (hroom : dp + 4 < recursionLimit) (hunits : un + 40 < cLine)
  (ret1 : ∀ (r : UpR) (h' : Heap) (tk' : Nat), Fr h₀ L h' m → News h₀ L h' ((opn, refsL UpR.u ups on) :: rest) → r ∈ ups → r.i = index → Q (.ref r.u) { s with heap := h', toks := tk' })
  (ret2 : ∀ (x : UpR) (k : Nat) (h' : Heap) (tk' : Nat), Fr h₀ L h' m → News h₀ L h' ((x.u, instObj 197 x.d) :: (x.d, upD w.params x.T (.ref gr) x.i .none) :: (opn, refsL UpR.u (ups.insertIdx k x) (on + 1)) :: rest) →
    x.i = index → (∀ p ∈ rest, p.1 < x.d) → opn < x.d → x.d < x.u → k ≤ ups.length → (∀ r ∈ ups.take k, r.i > index) → (∀ r, ups[k]? = some r → r.i < index) → Q (.ref x.u) { s with heap := h', toks := tk' }) :
  wpAny (model prog w) (ktrTop dp un gdd cn cs L a ccd cl outer) (call (.ref 248) [.ref gr, .int index ti]) Q E s := by
  w_top off
  k_with_none
  k_steps
  case _ => exact ret1 _ _ _ (by assumption) (by assumption) (by assumption) (by assumption)
  obtain ⟨ho, hl⟩ : opn < _ ∧ AllLt _ rest := by assumption
  exact ret2 ⟨_, _, ⟨_, _, _, _, _, _, _, _, _, _⟩, _⟩ _ _ _ (by assumption) (by assumption) rfl (allLt_all hl) ho (by assumption) (by assumption) (by assumption) (spot_lt (by assumption) (by assumption) (by assumption) (by assumption))
theorem find_spec {news : Led} {g : Obj → Led} {gr gd stk opn : Addr} {k1 k2 : Tok} {ups : List UpR} {on : Nat} {index : Int} {ti : Tok}
  (N : News h₀ L s.heap news) (U : UpdF opn (refsL UpR.u ups on) news g)
  (hgr : (gr, instObj 216 gd) ∈ news) (hgd : (gd, gdD w.params k1 k2 stk opn) ∈ news) (hu : UpsIn w.params gr ups news) (hlen : ups.length < 1000)
  (hroom : dp + 4 < recursionLimit) (hunits : un + 40 < cLine)
  (ret1 : ∀ (r : UpR) (h' : Heap) (tk' : Nat), Fr h₀ L h' m → News h₀ L h' (g (refsL UpR.u ups on)) → r ∈ ups → r.i = index → Q (.ref r.u) { s with heap := h', toks := tk' })
  (ret2 : ∀ (x : UpR) (k : Nat) (h' : Heap) (tk' : Nat), Fr h₀ L h' m → News h₀ L h' ((x.u, instObj 197 x.d) :: (x.d, upD w.params x.T (.ref gr) x.i .none) :: g (refsL UpR.u (ups.insertIdx k x) (on + 1))) →
    x.i = index → (∀ p ∈ news, p.1 < x.d) → x.d < x.u → k ≤ ups.length → (∀ r ∈ ups.take k, r.i > index) → (∀ r, ups[k]? = some r → r.i < index) → Q (.ref x.u) { s with heap := h', toks := tk' }) :
  wpAny (model prog w) (ktrTop dp un gdd cn cs L a ccd cl outer) (call (.ref 248) [.ref gr, .int index ti]) Q E s := by
  obtain ⟨rest, r1, r2, r3, r4⟩ := updF_rest U
  refine find_spec0 B F X T hk (news_sub N r3) r1 (mem_rest r2 hgr nofun) (mem_rest r2 hgd dict_list) (hu.rest r2 rfl) hlen hroom hunits
    (fun r h' tk' F' N' a1 a2 => ret1 r h' tk' F' (news_sub N' (r4 _)) a1 a2) fun x k h' tk' F' N' a1 a2 a3 a4 a5 a6 a7 => ret2 x k h' tk' F' (news_sub N' fun p hp => ?_) a1 (fun p hp => ?_) a4 a5 a6 a7
  · rcases List.mem_cons.mp hp with h | hp
    · subst h; exact List.mem_cons_self
    · rcases List.mem_cons.mp hp with h | hp
      · subst h; exact List.mem_cons_of_mem _ List.mem_cons_self
      · exact List.mem_cons_of_mem _ (List.mem_cons_of_mem _ (r4 _ p hp))
  · rcases r2 p hp with h | h
    · rw [h]; exact a3
    · exact a2 p h
end
end
-- C4
section
variable {prog : Program} {w : World} {p : Program} {loose : List Str} {mean : ExcName → Option Value} {mg mb : Str → Option Value}
  {dp un : Nat} {gdd : Option (List Code)} {cn : Str} {cs : Scope} {a : Addr} {ccd : Value} {cl : List (Str × Addr)} {outer : List Env} {A₀ : Around} {base h₀ : Heap} {L : Addr} {m : Str → Option Value} {s : Shared} {Q E : Value → Shared → Prop}
  (B : Below A₀ base outer h₀) (F : Fr h₀ L s.heap m) (X : (Mine.hd.heap_39 w.params).In h₀) (T : Top p loose mean mg mb h₀) (hk : cs.kind = .function)
include B F X T hk
/-- the word's number -/
abbrev wordI (b : Bool) (n : Int) : Int := n * 8388608 + (if b then 4 else 0)
set_option maxRecDepth 100000 in
set_option maxHeartbeats 4000000 in
theorem word_spec {news : Led} {b : Bool} {n : Int} {tn : Tok}
  (N : News h₀ L s.heap news) (h0 : 0 ≤ n) (h3 : n < 3)
  (hroom : dp + 1 < recursionLimit) (hunits : un + 8 < cLine)
  (ret : ∀ (t : Tok) (h' : Heap) (tk' : Nat), Fr h₀ L h' m → News h₀ L h' news → Q (.int (wordI b n) t) { s with heap := h', toks := tk' }) :
  wpAny (model prog w) (ktrTop dp un gdd cn cs L a ccd cl outer) (call (.ref 28) [.bool b, .int n tn]) Q E s := by
  w_top off
  k_with_none
  obtain rfl | rfl | rfl : n = 0 ∨ n = 1 ∨ n = 2 := by omega
  all_goals (cases b)
  all_goals k_steps
  all_goals (exact ret _ _ _ (by assumption) (by assumption))
set_option maxRecDepth 100000 in
set_option maxHeartbeats 4000000 in
theorem isk_spec {news : Led} {b : Bool} {n : Int} {tn : Tok}
  (N : News h₀ L s.heap news) (h0 : 0 ≤ n) (h3 : n < 3)
  (hroom : dp + 1 < recursionLimit) (hunits : un + 8 < cLine)
  (ret : ∀ (h' : Heap) (tk' : Nat), Fr h₀ L h' m → News h₀ L h' news → Q (.bool b) { s with heap := h', toks := tk' }) :
  wpAny (model prog w) (ktrTop dp un gdd cn cs L a ccd cl outer) (call (.ref 35) [.int (wordI b n) tn]) Q E s := by
  w_top off
  k_with_none
  obtain rfl | rfl | rfl : n = 0 ∨ n = 1 ∨ n = 2 := by omega
  all_goals (cases b)
  all_goals (simp only [wordI] at *)
  all_goals k_steps
  all_goals (exact ret _ _ (by assumption) (by assumption))
end
-- C5
def BoxOk (g : Addr) (o : Obj) : Prop := ∃ pos tp seed ts bn, o = listOf #[.ref g, .int pos tp, .int seed ts] bn ∧ 0 ≤ pos ∧ 0 ≤ seed ∧ seed < 2000000
def GivenOk (g : Addr) (news : Led) : Prop := ∃ gv gs gn, (g, listOf (gv : List Value).toArray gn) ∈ news ∧ IntsAre gv gs ∧ gs.length ≤ 24
theorem GivenOk.cons {g : Addr} {news : Led} {x : Addr × Obj} (h : GivenOk g news) : GivenOk g (x :: news) := let ⟨a, b, c, d, e⟩ := h; ⟨a, b, c, List.mem_cons_of_mem _ d, e⟩
local macro_rules | `(tactic| walk_at "my given") => `(tactic| (repeat (first | assumption | refine GivenOk.cons ?_)))
section
variable {prog : Program} {w : World} {p : Program} {loose : List Str} {mean : ExcName → Option Value} {mg mb : Str → Option Value}
  {dp un : Nat} {gdd : Option (List Code)} {cn : Str} {cs : Scope} {a : Addr} {ccd : Value} {cl : List (Str × Addr)} {outer : List Env} {A₀ : Around} {base h₀ : Heap} {L : Addr} {m : Str → Option Value} {s : Shared} {Q E : Value → Shared → Prop}
  (B : Below A₀ base outer h₀) (F : Fr h₀ L s.heap m) (X : (Mine.hd.heap_39 w.params).In h₀) (T : Top p loose mean mg mb h₀) (hk : cs.kind = .function)
include B F X T hk
set_option maxRecDepth 100000 in
set_option maxHeartbeats 4000000 in
theorem draw_spec0 {rest : Led} {b g : Addr} {gv : List Value} {gs : List Int} {gn bn : Nat} {pos seed many : Int} {tp ts tm : Tok}
  (N : News h₀ L s.heap ((b, listOf #[.ref g, .int pos tp, .int seed ts] bn) :: rest)) (hg : (g, listOf gv.toArray gn) ∈ rest) (hr : ∀ p ∈ rest, p.1 ≠ b)
  (hi : IntsAre gv gs) (h24 : gs.length ≤ 24) (hp0 : 0 ≤ pos) (hs0 : 0 ≤ seed) (hs1 : seed < 2000000) (hm : 0 < many) (hm' : many < 2000)
  (hroom : dp + 1 < recursionLimit) (hunits : un + 8 < cLine)
  (ret : ∀ (r pos' seed' : Int) (tr tp' ts' : Tok) (bn' : Nat) (h' : Heap) (tk' : Nat), Fr h₀ L h' m → News h₀ L h' ((b, listOf #[.ref g, .int pos' tp', .int seed' ts'] bn') :: rest) →
     0 ≤ r → r < many → 0 ≤ pos' → 0 ≤ seed' → seed' < 2000000 → Q (.int r tr) { s with heap := h', toks := tk' }) :
  wpAny (model prog w) (ktrTop dp un gdd cn cs L a ccd cl outer) (call (.ref 267) [.ref b, .int many tm]) Q E s := by
  w_top off
  k_with_none
  k_steps
  case _ => exact ret _ _ _ _ _ _ _ _ _ (by assumption) (by assumption) (fmod_lo _ hm) (fmod_hi _ hm) (by omega) hs0 hs1
  case _ => exact ret _ _ _ _ _ _ _ _ _ (by assumption) (by assumption) (fmod_lo _ hm) (fmod_hi _ hm) (by omega) (fmod_lo _ (by decide)) (Int.lt_trans (fmod_hi _ (by decide)) (by decide))
theorem draw_spec {news : Led} {g' : Obj → Led} {b g : Addr} {ob : Obj} {many : Int} {tm : Tok}
  (N : News h₀ L s.heap news) (U : UpdF b ob news g') (hb : BoxOk g ob) (hg : GivenOk g news) (hne : @Ne Nat g b) (hm : 0 < many) (hm' : many < 2000)
  (hroom : dp + 1 < recursionLimit) (hunits : un + 8 < cLine)
  (ret : ∀ (r : Int) (tr : Tok) (ob' : Obj) (h' : Heap) (tk' : Nat), Fr h₀ L h' m → News h₀ L h' (g' ob') → BoxOk g ob' → 0 ≤ r → r < many → Q (.int r tr) { s with heap := h', toks := tk' }) :
  wpAny (model prog w) (ktrTop dp un gdd cn cs L a ccd cl outer) (call (.ref 267) [.ref b, .int many tm]) Q E s := by
  obtain ⟨rest, r1, r2, r3, r4⟩ := updF_rest U
  obtain ⟨pos, tp, seed, ts, bn, rfl, h1, h2, h3⟩ := hb
  obtain ⟨gv, gs, gn, q1, q2, q3⟩ := hg
  have q4 : (g, listOf gv.toArray gn) ∈ rest := by
    rcases r2 _ q1 with h | h
    · cases h; exact absurd rfl hne
    · exact h
  exact draw_spec0 B F X T hk (news_sub N r3) q4 r1 q2 q3 h1 h2 h3 hm hm' hroom hunits fun r pos' seed' tr tp' ts' bn' h' tk' F' N' a1 a2 a3 a4 a5 =>
    ret r tr _ h' tk' F' (news_sub N' (r4 _)) ⟨pos', tp', seed', ts', bn', rfl, a3, a4, a5⟩ a1 a2
set_option maxRecDepth 100000 in
set_option maxHeartbeats 4000000 in
theorem cell_spec0 {wd gr fns frs : Addr} {od : Obj} {made v : Int} {tm tv : Tok} {rest : Led}
  (N : News h₀ L s.heap ((wd, od) :: rest)) (hr : ∀ p ∈ rest, p.1 ≠ wd)
  (hd : od.IsDictOf (strKind prog w) (wkv gr fns frs made tm))
  (hm : 0 ≤ made) (hm' : made < 1000)
  (hroom : dp + 1 < recursionLimit) (hunits : un + 8 < cLine)
  (ret : ∀ (x : Addr) (od' : Obj) (tm' : Tok) (h' : Heap) (tk' : Nat), Fr h₀ L h' m → News h₀ L h' ((x, listOf #[.int v tv, .int (made + 1) tm'] 0) :: (wd, od') :: rest) →
     (∀ p ∈ rest, p.1 < x) → @LT.lt Nat _ wd x → od'.IsDictOf (strKind prog w) (wkv gr fns frs (made + 1) tm') → Q (.ref x) { s with heap := h', toks := tk' }) :
  wpAny (model prog w) (ktrTop dp un gdd cn cs L a ccd cl outer) (call (.ref 274) [.ref wd, .int v tv]) Q E s := by
  w_top off
  k_with_none
  k_steps
  obtain ⟨ho, hl⟩ : wd < _ ∧ AllLt _ rest := by assumption
  exact ret _ _ _ _ _ (by assumption) (by assumption) (allLt_all hl) ho (by assumption)
theorem cell_spec {wd gr fns frs : Addr} {od : Obj} {made v : Int} {tm tv : Tok} {news : Led} {g' : Obj → Led}
  (N : News h₀ L s.heap news) (U : UpdF wd od news g')
  (hd : od.IsDictOf (strKind prog w) (wkv gr fns frs made tm))
  (hm : 0 ≤ made) (hm' : made < 1000)
  (hroom : dp + 1 < recursionLimit) (hunits : un + 8 < cLine)
  (ret : ∀ (x : Addr) (od' : Obj) (tm' : Tok) (h' : Heap) (tk' : Nat), Fr h₀ L h' m → News h₀ L h' ((x, listOf #[.int v tv, .int (made + 1) tm'] 0) :: g' od') →
     (∀ p ∈ news, p.1 < x) → od'.IsDictOf (strKind prog w) (wkv gr fns frs (made + 1) tm') → Q (.ref x) { s with heap := h', toks := tk' }) :
  wpAny (model prog w) (ktrTop dp un gdd cn cs L a ccd cl outer) (call (.ref 274) [.ref wd, .int v tv]) Q E s := by
  obtain ⟨rest, r1, r2, r3, r4⟩ := updF_rest U
  refine cell_spec0 B F X T hk (news_sub N r3) r1 hd hm hm' hroom hunits fun x od' tm' h' tk' F' N' a1 a2 a3 =>
    ret x od' tm' h' tk' F' (news_sub N' fun p hp => ?_) (fun p hp => ?_) a3
  · rcases List.mem_cons.mp hp with h | hp
    · subst h; exact List.mem_cons_self
    · exact List.mem_cons_of_mem _ (r4 _ p hp)
  · rcases r2 p hp with h | h
    · rw [h]; exact a2
    · exact a1 p h
end
-- C6
structure CT where
  (k1 k2 k3 k4 k5 k6 t1 t2 t3 : Tok)
abbrev cloD (P : Params) (T : CT) (sz : Int) (pr ul : Addr) : Obj := dictOf [
  ⟨PyData.keyHash P (Str.ofString "number"), .str (Str.ofString "number") T.k1, .int 0 T.t1⟩,
  ⟨PyData.keyHash P (Str.ofString "mark"), .str (Str.ofString "mark") T.k2, .int 0 T.t2⟩,
  ⟨PyData.keyHash P (Str.ofString "size"), .str (Str.ofString "size") T.k3, .int sz T.t3⟩,
  ⟨PyData.keyHash P (Str.ofString "proto"), .str (Str.ofString "proto") T.k4, .ref pr⟩,
  ⟨PyData.keyHash P (Str.ofString "upvals"), .str (Str.ofString "upvals") T.k5, .ref ul⟩,
  ⟨PyData.keyHash P (Str.ofString "env"), .str (Str.ofString "env") T.k6, .none⟩] 6
def UpOpen (P : Params) (news : Led) (gr : Addr) (st : List (Int × Tok)) (d : Addr) (v : Int) : Prop := ∃ T i t, (d, upD P T (.ref gr) i .none) ∈ news ∧ 0 ≤ i ∧ st[i.toNat]? = some (v, t)
def UpClosed (P : Params) (news : Led) (d : Addr) (v : Int) : Prop := ∃ T t, (d, upD P T .none (-1) (.int v t)) ∈ news
def UpReads (P : Params) (news : Led) (gr : Addr) (st : List (Int × Tok)) (u : Addr) (v : Int) : Prop := ∃ d, (u, instObj 197 d) ∈ news ∧ (UpOpen P news gr st d v ∨ UpClosed P news d v)
section
variable {prog : Program} {w : World} {p : Program} {loose : List Str} {mean : ExcName → Option Value} {mg mb : Str → Option Value}
  {dp un : Nat} {gdd : Option (List Code)} {cn : Str} {cs : Scope} {a : Addr} {ccd : Value} {cl : List (Str × Addr)} {outer : List Env} {A₀ : Around} {base h₀ : Heap} {L : Addr} {m : Str → Option Value} {s : Shared} {Q E : Value → Shared → Prop}
  (B : Below A₀ base outer h₀) (F : Fr h₀ L s.heap m) (X : (Mine.hd.heap_39 w.params).In h₀) (T : Top p loose mean mg mb h₀) (hk : cs.kind = .function)
include B F X T hk
set_option maxRecDepth 100000 in
set_option maxHeartbeats 4000000 in
theorem get_spec {news : Led} {u gr gd stk opn : Addr} {k1 k2 : Tok} {st : List (Int × Tok)} {sn : Nat} {v : Int}
  (N : News h₀ L s.heap news) (hgr : (gr, instObj 216 gd) ∈ news) (hgd : (gd, gdD w.params k1 k2 stk opn) ∈ news) (hst : (stk, intsL st sn) ∈ news) (hl : st.length < 1000)
  (hu : UpReads w.params news gr st u v)
  (hroom : dp + 1 < recursionLimit) (hunits : un + 8 < cLine)
  (ret : ∀ (t : Tok) (h' : Heap) (tk' : Nat), Fr h₀ L h' m → News h₀ L h' news → Q (.int v t) { s with heap := h', toks := tk' }) :
  wpAny (model prog w) (ktrTop dp un gdd cn cs L a ccd cl outer) (call (.ref 180) [.ref u]) Q E s := by
  w_top off
  k_with_none
  obtain ⟨d, hu1, ⟨T1, i, t, h1, h2, h3⟩ | ⟨T1, t, h1⟩⟩ := hu
  · have h4 : i < st.length := by obtain ⟨h4, _⟩ := List.getElem?_eq_some_iff.mp h3; omega
    k_steps
    rename_i x1 e1 m1 f1 f2 f3 f4
    rw [h3] at e1; cases e1
    exact ret _ _ _ (by assumption) (by assumption)
  · k_steps
    exact ret _ _ _ (by assumption) (by assumption)
set_option maxRecDepth 100000 in
set_option maxHeartbeats 4000000 in
theorem setc_spec {rest : Led} {u d : Addr} {T1 : UT} {v0 v : Int} {t0 tv : Tok}
  (N : News h₀ L s.heap ((d, upD w.params T1 .none (-1) (.int v0 t0)) :: rest)) (hne : ∀ p ∈ rest, p.1 ≠ d) (hu : (u, instObj 197 d) ∈ rest)
  (hroom : dp + 1 < recursionLimit) (hunits : un + 8 < cLine)
  (ret : ∀ (h' : Heap) (tk' : Nat), Fr h₀ L h' m → News h₀ L h' ((d, upD w.params T1 .none (-1) (.int v tv)) :: rest) → Q .none { s with heap := h', toks := tk' }) :
  wpAny (model prog w) (ktrTop dp un gdd cn cs L a ccd cl outer) (call (.ref 187) [.ref u, .int v tv]) Q E s := by
  w_top off
  k_with_none
  k_steps
  exact ret _ _ (by assumption) (by assumption)
set_option maxRecDepth 100000 in
set_option maxHeartbeats 4000000 in
theorem seto_spec {rest : Led} {u d gr gd stk opn : Addr} {k1 k2 : Tok} {st : List (Int × Tok)} {sn : Nat} {T1 : UT} {i v : Int} {tv : Tok}
  (N : News h₀ L s.heap ((stk, intsL st sn) :: rest)) (hne : ∀ p ∈ rest, p.1 ≠ stk) (hu : (u, instObj 197 d) ∈ rest) (hd : (d, upD w.params T1 (.ref gr) i .none) ∈ rest)
  (hgr : (gr, instObj 216 gd) ∈ rest) (hgd : (gd, gdD w.params k1 k2 stk opn) ∈ rest) (hl : st.length < 1000) (hi0 : 0 ≤ i) (hi1 : i < st.length)
  (hroom : dp + 1 < recursionLimit) (hunits : un + 8 < cLine)
  (ret : ∀ (h' : Heap) (tk' : Nat), Fr h₀ L h' m → News h₀ L h' ((stk, intsL (st.set i.toNat (v, tv)) sn) :: rest) → Q .none { s with heap := h', toks := tk' }) :
  wpAny (model prog w) (ktrTop dp un gdd cn cs L a ccd cl outer) (call (.ref 187) [.ref u, .int v tv]) Q E s := by
  w_top off
  k_with_none
  k_steps
  exact ret _ _ (by assumption) (by assumption)
set_option maxRecDepth 100000 in
set_option maxHeartbeats 4000000 in
theorem close_spec {rest : Led} {u d gr gd stk opn : Addr} {k1 k2 : Tok} {st : List (Int × Tok)} {sn : Nat} {T1 : UT} {i v : Int} {tv : Tok}
  (N : News h₀ L s.heap ((d, upD w.params T1 (.ref gr) i .none) :: rest)) (hne : ∀ p ∈ rest, p.1 ≠ d) (hu : (u, instObj 197 d) ∈ rest) (hst : (stk, intsL st sn) ∈ rest)
  (hgr : (gr, instObj 216 gd) ∈ rest) (hgd : (gd, gdD w.params k1 k2 stk opn) ∈ rest) (hl : st.length < 1000) (hi0 : 0 ≤ i) (hi1 : st[i.toNat]? = some (v, tv))
  (hroom : dp + 1 < recursionLimit) (hunits : un + 8 < cLine)
  (ret : ∀ (T2 : UT) (h' : Heap) (tk' : Nat), Fr h₀ L h' m → News h₀ L h' ((d, upD w.params T2 .none (-1) (.int v tv)) :: rest) → Q .none { s with heap := h', toks := tk' }) :
  wpAny (model prog w) (ktrTop dp un gdd cn cs L a ccd cl outer) (call (.ref 194) [.ref u]) Q E s := by
  w_top off
  k_with_none
  obtain ⟨k1', k2', k3', k4', k5', k6', t1', t2', t3', ti'⟩ := T1
  have h4 : i < st.length := by obtain ⟨h4, _⟩ := List.getElem?_eq_some_iff.mp hi1; omega
  k_steps
  rename st[i.toNat]? = some _ => e1
  rw [hi1] at e1
  cases e1
  rename News h₀ L _ _ => kN
  dsimp only at kN
  exact ret ⟨_, _, _, _, _, _, _, _, _, _⟩ _ _ (by assumption) kN
end
-- C11
section
variable {prog : Program} {w : World} {p : Program} {loose : List Str} {mean : ExcName → Option Value} {mg mb : Str → Option Value}
  {dp un : Nat} {gdd : Option (List Code)} {cn : Str} {cs : Scope} {a : Addr} {ccd : Value} {cl : List (Str × Addr)} {outer : List Env} {A₀ : Around} {base h₀ : Heap} {L : Addr} {m : Str → Option Value} {s : Shared} {Q E : Value → Shared → Prop}
  (B : Below A₀ base outer h₀) (F : Fr h₀ L s.heap m) (X : (Mine.hd.heap_39 w.params).In h₀) (T : Top p loose mean mg mb h₀) (hk : cs.kind = .function)
include B F X T hk
set_option maxRecDepth 100000 in
set_option maxHeartbeats 4000000 in
theorem proto_spec {news : Led} (N : News h₀ L s.heap news)
  (hroom : dp + 4 < recursionLimit) (hunits : un + 40 < cLine)
  (ret : ∀ (x : Addr) (h' : Heap) (tk' : Nat), Fr h₀ L h' m → News h₀ L h' news → (∀ p ∈ news, @LT.lt Nat _ p.1 x) → Q (.ref x) { s with heap := h', toks := tk' }) :
  wpAny (model prog w) (ktrTop dp un gdd cn cs L a ccd cl outer) (call (.ref 149) []) Q E s := by
  w_top off
  k_with_none
  k_steps
  rename News h₀ L _ _ => kN
  rename ∀ p ∈ news, p.1 < _ => lA
  rename (_ : Nat) < _ => lB
  refine ret _ _ _ (by assumption) (news_sub kN ?_) (fun p hp => Nat.lt_trans (lA p hp) lB)
  intro p hp
  repeat (first | exact hp | refine List.mem_cons_of_mem _ ?_)
set_option maxRecDepth 100000 in
set_option maxHeartbeats 4000000 in
theorem clo_spec {news : Led} {pr fl : Addr} {us : List Addr} {un' : Nat} (N : News h₀ L s.heap news) (hfl : (fl, refsL (fun x : Addr => x) us un') ∈ news) (hul : us.length < 100)
  (hroom : dp + 4 < recursionLimit) (hunits : un + 40 < cLine)
  (ret : ∀ (c cd : Addr) (T : CT) (sz : Int) (h' : Heap) (tk' : Nat), Fr h₀ L h' m → News h₀ L h' ((c, instObj 109 cd) :: (cd, cloD w.params T sz pr fl) :: news) → (∀ p ∈ news, @LT.lt Nat _ p.1 cd) → @LT.lt Nat _ cd c → Q (.ref c) { s with heap := h', toks := tk' }) :
  wpAny (model prog w) (ktrTop dp un gdd cn cs L a ccd cl outer) (call (.ref 109) [.ref pr, .ref fl, .none]) Q E s := by
  w_top off
  k_with_none
  k_steps
  rename News h₀ L _ _ => kN
  rename ∀ p ∈ news, p.1 < _ => lA
  rename (_ : Nat) < _ => lB
  exact ret _ _ ⟨_, _, _, _, _, _, _, _, _⟩ _ _ _ (by assumption) kN lA lB
end
-- W3
section
variable {prog : Program} {w : World} {A : Around} {E : Value → Shared → Prop} {Q : Flow → Shared → Prop} {s : Shared} {env : Env} {h₀ : Heap} {L : Addr} {σ : Type}
def WSPost (h₀ : Heap) (L : Addr) (s : Shared) (y : Str) (m₀ : Str → Option Value) (led : σ → Led) (I : σ → Prop) (mu : σ → Nat) (Q : Flow → Shared → Prop) (a : σ) (f : Flow) (s₂ : Shared) : Prop :=
  match f with
  | .ret v => Q (.ret v) s₂
  | .brk => Q .next s₂
  | _ => ∃ h' tk m' a' news', s₂ = { s with heap := h', toks := tk } ∧ Fr h₀ L h' m' ∧ News h₀ L h' news' ∧ (∀ p ∈ led a', p ∈ news') ∧ (∀ z, z ≠ y → m' z = m₀ z) ∧ I a' ∧ mu a' < mu a
theorem WSPost.intro {s : Shared} {y : Str} {m₀ m' : Str → Option Value} {led : σ → Led} {news' : Led} {I : σ → Prop} {mu : σ → Nat} {a : σ} (a' : σ) {h' : Heap} {tk : Nat}
    (F : Fr h₀ L h' m') (N : News h₀ L h' news') (hn : ∀ p ∈ led a', p ∈ news') (hm : ∀ z, z ≠ y → m' z = m₀ z) (hi : I a') (hmu : mu a' < mu a) :
    WSPost h₀ L s y m₀ led I mu Q a .next { s with heap := h', toks := tk } := ⟨h', tk, m', a', news', rfl, F, N, hn, hm, hi, hmu⟩
theorem while_st {test : Expr} {body : List Stmt} {pos : Pos} {m₀ : Str → Option Value} {y : Str} {a₀ : σ} (led : σ → Led) (I : σ → Prop) (mu : σ → Nat)
    (F : Fr h₀ L s.heap m₀) (N : News h₀ L s.heap (led a₀)) (hi : I a₀)
    (turn : ∀ a (u : Option Value) h tk, I a → Fr h₀ L h (fun z => if z = y then u else m₀ z) → News h₀ L h (led a) →
      wpAny (model prog w) A (isTrue test env (eval test env)) (fun b s₂ =>
        if b = true then wpAny (model prog w) A (execs body env) (WSPost h₀ L s y m₀ led I mu Q a) E s₂ else Q .next s₂) E { s with heap := h, toks := tk })
    (hE : PassesOwn (model prog w) A env E := by passes_own) :
    wpAny (model prog w) A (exec (.While test body [] pos) env) Q E s := by
  refine While_inv2 (fun n m nx => ∃ a, nx = led a ∧ mu a = n ∧ I a ∧ ∀ z, z ≠ y → m z = m₀ z) F N ⟨a₀, rfl, rfl, hi, fun _ _ => rfl⟩ ?_ hE
  rintro n m₁ nx h tk F₁ N₁ ⟨a, hnx, hsz, hI, hm⟩
  rw [hnx] at N₁
  rw [← hsz]
  have e : (fun z => if z = y then m₁ y else m₀ z) = m₁ := by
    funext z
    by_cases h1 : z = y
    · subst h1; simp
    · simp only [if_neg h1]; exact (hm z h1).symm
  refine wpAny_mono (turn a (m₁ y) h tk hI (by rw [e]; exact F₁) N₁) (fun b s₂ p => ?_) fun _ _ x => x
  cases b with
  | false => simpa using p
  | true =>
    simp only [if_true] at p ⊢
    refine wpAny_mono p (fun f s₃ q => ?_) fun _ _ x => x
    cases f with
    | ret v => exact q
    | brk => exact q
    | next =>
      obtain ⟨h', tk', m', a', news', rfl, F', N', hn, hm', hI', hs⟩ := q
      exact ⟨h', tk', m', led a', mu a', rfl, F', fun p hp => N' p (hn p hp), hs, a', rfl, rfl, hI', hm'⟩
    | cont =>
      obtain ⟨h', tk', m', a', news', rfl, F', N', hn, hm', hI', hs⟩ := q
      exact ⟨h', tk', m', led a', mu a', rfl, F', fun p hp => N' p (hn p hp), hs, a', rfl, rfl, hI', hm'⟩
end
section
variable {prog : Program} {w : World} {A : Around} {E : Value → Shared → Prop} {s : Shared} {h₀ : Heap} {L : Addr} {m : Str → Option Value} {news news' : Led}
theorem item0 {α : Type} {f : α → Value} {x : α} {xs : List α} {value slice : Expr} {l : Addr} {n : Nat} {u : Tok} {Q : Value → Shared → Prop} (N : News h₀ L s.heap news) (hm : (l, listOf ((x :: xs).map f).toArray n) ∈ news)
    (h : Q (f x) s)
    (hs : subscripted slice false (.ref l) (.int 0 u) = operate [.ref l, .int 0 u] (getItem (.ref l) (.int 0 u)) := by with_unfolding_all rfl) :
    wpAny (model prog w) A (subscriptTail value slice (.ref l) (.int 0 u)) Q E s :=
  item_map N hm (by decide) (by simp) (by decide) (fun y hy _ => by simp at hy; subst hy; exact h) hs
theorem item_known {α : Type} {f : α → Value} {x : α} {xs : List α} {value slice : Expr} {l : Addr} {n : Nat} {k : Int} {u : Tok} {Q : Value → Shared → Prop} (N : News h₀ L s.heap news) (hm : (l, listOf (xs.map f).toArray n) ∈ news)
    (hx : xs[k.toNat]? = some x) (h0 : 0 ≤ k) (hfit : k < 2 ^ 63) (h : Q (f x) s)
    (hs : subscripted slice false (.ref l) (.int k u) = operate [.ref l, .int k u] (getItem (.ref l) (.int k u)) := by with_unfolding_all rfl) :
    wpAny (model prog w) A (subscriptTail value slice (.ref l) (.int k u)) Q E s :=
  item_map N hm h0 (by obtain ⟨h1, _⟩ := List.getElem?_eq_some_iff.mp hx; omega) hfit (fun y hy _ => by rw [hx] at hy; cases hy; exact h) hs
end
local macro_rules | `(tactic| walk_at "subscriptTail Name") => `(tactic| (k_here; (with_reducible show wpAny _ _ (subscriptTail _ _ (Value.ref _) (Value.int _ _)) _ _ _); (with_unfolding_all refine' item_map ?k1 ?k2 ?k3 ?k4 ?k5 ?_ ?k6; (case k1 => k_asm); (case k2 => k_mem); (case k3 => l_idx); (case k4 => l_idx); (case k5 => l_idx); (case k6 => with_unfolding_all rfl)); intro xI hxI hmI; (try dsimp only)))
local macro_rules | `(tactic| walk_at "subscriptTail Attribute") => `(tactic| (k_here; (with_reducible show wpAny _ _ (subscriptTail _ _ (Value.ref _) (Value.int _ _)) _ _ _); (with_unfolding_all refine' item_map ?k1 ?k2 ?k3 ?k4 ?k5 ?_ ?k6; (case k1 => k_asm); (case k2 => k_mem); (case k3 => l_idx); (case k4 => l_idx); (case k5 => l_idx); (case k6 => with_unfolding_all rfl)); intro xI hxI hmI; (try dsimp only)))
local macro_rules | `(tactic| walk_at "subscriptTail Name Name ref int") => `(tactic| (k_here; (with_reducible show wpAny _ _ (subscriptTail _ _ (Value.ref _) (Value.int _ _)) _ _ _); (with_unfolding_all refine' item_map ?k1 ?k2 ?k3 ?k4 ?k5 ?_ ?k6; (case k1 => k_asm); (case k2 => k_mem); (case k3 => l_idx); (case k4 => l_idx); (case k5 => l_idx); (case k6 => with_unfolding_all rfl)); intro xI hxI hmI; (try dsimp only)))
local macro_rules | `(tactic| walk_at "subscriptTail Attribute Name ref int") => `(tactic| (k_here; (with_reducible show wpAny _ _ (subscriptTail _ _ (Value.ref _) (Value.int _ _)) _ _ _); (with_unfolding_all refine' item_map ?k1 ?k2 ?k3 ?k4 ?k5 ?_ ?k6; (case k1 => k_asm); (case k2 => k_mem); (case k3 => l_idx); (case k4 => l_idx); (case k5 => l_idx); (case k6 => with_unfolding_all rfl)); intro xI hxI hmI; (try dsimp only)))
local macro_rules | `(tactic| walk_at "subscriptTail") => `(tactic| (k_here; (with_reducible show wpAny _ _ (subscriptTail _ _ (Value.ref _) (Value.int _ _)) _ _ _); (with_unfolding_all refine' item_known ?k1 ?k2 ?kx ?k3 ?k5 ?_ ?k6; (case k1 => k_asm); (case k2 => k_mem); (case kx => with_reducible assumption); (case k3 => l_idx); (case k5 => l_idx); (case k6 => with_unfolding_all rfl)); (try dsimp only)))
local macro_rules | `(tactic| walk_at "subscriptTail Name") => `(tactic| (k_here; (with_reducible show wpAny _ _ (subscriptTail _ _ (Value.ref _) (Value.int _ _)) _ _ _); (with_unfolding_all refine' item_known ?k1 ?k2 ?kx ?k3 ?k5 ?_ ?k6; (case k1 => k_asm); (case k2 => k_mem); (case kx => with_reducible assumption); (case k3 => l_idx); (case k5 => l_idx); (case k6 => with_unfolding_all rfl)); (try dsimp only)))
local macro_rules | `(tactic| walk_at "subscriptTail Attribute") => `(tactic| (k_here; (with_reducible show wpAny _ _ (subscriptTail _ _ (Value.ref _) (Value.int _ _)) _ _ _); (with_unfolding_all refine' item_known ?k1 ?k2 ?kx ?k3 ?k5 ?_ ?k6; (case k1 => k_asm); (case k2 => k_mem); (case kx => with_reducible assumption); (case k3 => l_idx); (case k5 => l_idx); (case k6 => with_unfolding_all rfl)); (try dsimp only)))
local macro_rules | `(tactic| walk_at "subscriptTail Name Name ref int") => `(tactic| (k_here; (with_reducible show wpAny _ _ (subscriptTail _ _ (Value.ref _) (Value.int _ _)) _ _ _); (with_unfolding_all refine' item_known ?k1 ?k2 ?kx ?k3 ?k5 ?_ ?k6; (case k1 => k_asm); (case k2 => k_mem); (case kx => with_reducible assumption); (case k3 => l_idx); (case k5 => l_idx); (case k6 => with_unfolding_all rfl)); (try dsimp only)))
local macro_rules | `(tactic| walk_at "subscriptTail Name Constant ref int") => `(tactic| (k_here; (with_reducible show wpAny _ _ (subscriptTail _ _ (Value.ref _) (Value.int _ _)) _ _ _); (with_unfolding_all refine' item_known ?k1 ?k2 ?kx ?k3 ?k5 ?_ ?k6; (case k1 => k_asm); (case k2 => k_mem); (case kx => with_reducible assumption); (case k3 => l_idx); (case k5 => l_idx); (case k6 => with_unfolding_all rfl)); (try dsimp only)))
local macro_rules | `(tactic| walk_at "subscriptTail Attribute Constant ref int") => `(tactic| (k_here; (with_reducible show wpAny _ _ (subscriptTail _ _ (Value.ref _) (Value.int _ _)) _ _ _); (with_unfolding_all refine' item_known ?k1 ?k2 ?kx ?k3 ?k5 ?_ ?k6; (case k1 => k_asm); (case k2 => k_mem); (case kx => with_reducible assumption); (case k3 => l_idx); (case k5 => l_idx); (case k6 => with_unfolding_all rfl)); (try dsimp only)))
local macro_rules | `(tactic| walk_at "subscriptTail Attribute Name ref int") => `(tactic| (k_here; (with_reducible show wpAny _ _ (subscriptTail _ _ (Value.ref _) (Value.int _ _)) _ _ _); (with_unfolding_all refine' item_known ?k1 ?k2 ?kx ?k3 ?k5 ?_ ?k6; (case k1 => k_asm); (case k2 => k_mem); (case kx => with_reducible assumption); (case k3 => l_idx); (case k5 => l_idx); (case k6 => with_unfolding_all rfl)); (try dsimp only)))
local macro_rules | `(tactic| walk_at "subscriptTail") => `(tactic| (k_here; (with_reducible show wpAny _ _ (subscriptTail _ _ (Value.ref _) (Value.int 0 _)) _ _ _); (with_unfolding_all refine' item0 ?k1 ?k2 ?_ ?k6; (case k1 => k_asm); (case k2 => k_mem); (case k6 => with_unfolding_all rfl)); (try dsimp only)))
local macro_rules | `(tactic| walk_at "subscriptTail Name") => `(tactic| (k_here; (with_reducible show wpAny _ _ (subscriptTail _ _ (Value.ref _) (Value.int 0 _)) _ _ _); (with_unfolding_all refine' item0 ?k1 ?k2 ?_ ?k6; (case k1 => k_asm); (case k2 => k_mem); (case k6 => with_unfolding_all rfl)); (try dsimp only)))
local macro_rules | `(tactic| walk_at "subscriptTail Attribute") => `(tactic| (k_here; (with_reducible show wpAny _ _ (subscriptTail _ _ (Value.ref _) (Value.int 0 _)) _ _ _); (with_unfolding_all refine' item0 ?k1 ?k2 ?_ ?k6; (case k1 => k_asm); (case k2 => k_mem); (case k6 => with_unfolding_all rfl)); (try dsimp only)))
local macro_rules | `(tactic| walk_at "subscriptTail Name Name ref int") => `(tactic| (k_here; (with_reducible show wpAny _ _ (subscriptTail _ _ (Value.ref _) (Value.int 0 _)) _ _ _); (with_unfolding_all refine' item0 ?k1 ?k2 ?_ ?k6; (case k1 => k_asm); (case k2 => k_mem); (case k6 => with_unfolding_all rfl)); (try dsimp only)))
local macro_rules | `(tactic| walk_at "subscriptTail Name Constant ref int") => `(tactic| (k_here; (with_reducible show wpAny _ _ (subscriptTail _ _ (Value.ref _) (Value.int 0 _)) _ _ _); (with_unfolding_all refine' item0 ?k1 ?k2 ?_ ?k6; (case k1 => k_asm); (case k2 => k_mem); (case k6 => with_unfolding_all rfl)); (try dsimp only)))
local macro_rules | `(tactic| walk_at "subscriptTail Attribute Constant ref int") => `(tactic| (k_here; (with_reducible show wpAny _ _ (subscriptTail _ _ (Value.ref _) (Value.int 0 _)) _ _ _); (with_unfolding_all refine' item0 ?k1 ?k2 ?_ ?k6; (case k1 => k_asm); (case k2 => k_mem); (case k6 => with_unfolding_all rfl)); (try dsimp only)))
local macro_rules | `(tactic| walk_at "subscriptTail Attribute Name ref int") => `(tactic| (k_here; (with_reducible show wpAny _ _ (subscriptTail _ _ (Value.ref _) (Value.int 0 _)) _ _ _); (with_unfolding_all refine' item0 ?k1 ?k2 ?_ ?k6; (case k1 => k_asm); (case k2 => k_mem); (case k6 => with_unfolding_all rfl)); (try dsimp only)))
-- C7
section
section
variable {prog : Program} {w : World} {p : Program} {loose : List Str} {mean : ExcName → Option Value} {mg mb : Str → Option Value}
  {dp un : Nat} {gdd : Option (List Code)} {cn : Str} {cs : Scope} {a : Addr} {ccd : Value} {cl : List (Str × Addr)} {outer : List Env} {A₀ : Around} {base h₀ : Heap} {L : Addr} {m : Str → Option Value} {s : Shared} {Q E : Value → Shared → Prop}
  (B : Below A₀ base outer h₀) (F : Fr h₀ L s.heap m) (X : (Mine.hd.heap_39 w.params).In h₀) (T : Top p loose mean mg mb h₀) (hk : cs.kind = .function)
include B F X T hk
theorem close_specU {news : Led} {g : Obj → Led} {u d gr gd stk opn : Addr} {k1 k2 : Tok} {st : List (Int × Tok)} {sn : Nat} {T1 : UT} {i v : Int} {tv : Tok}
  (N : News h₀ L s.heap news) (U : UpdF d (upD w.params T1 (.ref gr) i .none) news g) (hu : (u, instObj 197 d) ∈ news) (hst : (stk, intsL st sn) ∈ news)
  (hgr : (gr, instObj 216 gd) ∈ news) (hgd : (gd, gdD w.params k1 k2 stk opn) ∈ news) (hne : gd ≠ d) (hl : st.length < 1000) (hi0 : 0 ≤ i) (hi1 : st[i.toNat]? = some (v, tv))
  (hroom : dp + 1 < recursionLimit) (hunits : un + 8 < cLine)
  (ret : ∀ (T2 : UT) (h' : Heap) (tk' : Nat), Fr h₀ L h' m → News h₀ L h' (g (upD w.params T2 .none (-1) (.int v tv))) → Q .none { s with heap := h', toks := tk' }) :
  wpAny (model prog w) (ktrTop dp un gdd cn cs L a ccd cl outer) (call (.ref 194) [.ref u]) Q E s := by
  obtain ⟨rest, r1, r2, r3, r4⟩ := updF_rest U
  have q1 : (gd, gdD w.params k1 k2 stk opn) ∈ rest := by
    rcases r2 _ hgd with h | h
    · exact absurd (congrArg Prod.fst h) hne
    · exact h
  exact close_spec B F X T hk (news_sub N r3) r1 (mem_rest r2 hu nofun) (mem_rest r2 hst (Ne.symm dict_list)) (mem_rest r2 hgr nofun) q1 hl hi0 hi1 hroom hunits
    fun T2 h' tk' F' N' => ret T2 h' tk' F' (news_sub N' (r4 _))
end
def upEnts (P : Params) (gr : Addr) (ups : List UpR) : Led := ups.map fun r => (r.d, upD P r.T (.ref gr) r.i .none)
/-- what the closing leaves: an entry for each that was closed -/
def ClosedAre (P : Params) (st : List (Int × Tok)) : List UpR → Led → Prop
  | [], l => l = []
  | r :: rs, l => ∃ T v t l', l = (r.d, upD P T .none (-1) (.int v t)) :: l' ∧ st[r.i.toNat]? = some (v, t) ∧ ClosedAre P st rs l'
theorem ClosedAre.snoc {P : Params} {st : List (Int × Tok)} {r : UpR} {T : UT} {v : Int} {t : Tok} (h : st[r.i.toNat]? = some (v, t)) : ∀ {rs : List UpR} {l : Led}, ClosedAre P st rs l → ClosedAre P st (rs ++ [r]) (l ++ [(r.d, upD P T .none (-1) (.int v t))])
  | [], _, e => by cases e; exact ⟨T, v, t, [], rfl, h, rfl⟩
  | _ :: _, _, ⟨T', v', t', l', e, h', r'⟩ => by subst e; exact ⟨T', v', t', _, rfl, h', ClosedAre.snoc h r'⟩
theorem ClosedAre.map_fst {P : Params} {st : List (Int × Tok)} : ∀ {rs : List UpR} {l : Led}, ClosedAre P st rs l → l.map (·.1) = rs.map (·.d)
  | [], _, e => by cases e; rfl
  | _ :: _, _, ⟨T', v', t', l', e, h', r'⟩ => by subst e; simp [ClosedAre.map_fst r']
structure TcSt where
  (dn td : List UpR) (C : Led) (xs : List Addr) (n on : Nat)

theorem mem_fst {l : Led} {p : Addr × Obj} (h : p ∈ l) : p.1 ∈ l.map (·.1) := List.mem_map.mpr ⟨p, h, rfl⟩
theorem upEnts_fst {P : Params} {gr : Addr} {l : List UpR} : (upEnts P gr l).map (·.1) = l.map (·.d) := by
  unfold upEnts; rw [List.map_map]; rfl
theorem tc_facts {P : Params} {gr opn : Addr} {dn tl : List UpR} {r : UpR} {C rest : Led} (hnd : ((opn :: ((dn ++ r :: tl).map (·.d) ++ rest.map (·.1)) : List Addr)).Nodup) (hC : C.map (·.1) = dn.map (·.d)) :
    (∀ p ∈ C ++ upEnts P gr tl ++ rest, p.1 ≠ r.d) ∧ (∀ p ∈ C ++ upEnts P gr tl ++ rest, p.1 ≠ opn) ∧ @Ne Nat opn r.d := by
  have key : ∀ p ∈ C ++ upEnts P gr tl ++ rest, p.1 ∈ dn.map (·.d) ∨ p.1 ∈ tl.map (·.d) ∨ p.1 ∈ rest.map (·.1) := by
    intro p hp
    rcases List.mem_append.mp hp with hp | hp
    · rcases List.mem_append.mp hp with hp | hp
      · exact .inl (hC ▸ mem_fst hp)
      · exact .inr (.inl (upEnts_fst (P := P) (gr := gr) ▸ mem_fst hp))
    · exact .inr (.inr (mem_fst hp))
  simp only [List.nodup_cons, List.map_append, List.map_cons, List.nodup_append, List.mem_append, List.mem_cons, not_or] at hnd
  obtain ⟨⟨⟨n1, n2, n3⟩, n4⟩, ⟨h1, ⟨h2, h3⟩, h4⟩, h5, h6⟩ := hnd
  refine ⟨fun p hp e => ?_, fun p hp e => ?_, n2⟩
  · rcases key p hp with h | h | h
    · exact h4 _ h r.d (.inl rfl) e
    · rw [e] at h; exact h2 h
    · exact h6 r.d (.inr (.inl rfl)) _ h e.symm
  · rcases key p hp with h | h | h <;> rw [e] at h
    · exact n1 h
    · exact n3 h
    · exact n4 h
theorem tc_lt {P : Params} {gr fl : Addr} {dn tl : List UpR} {r : UpR} {C rest : Led} (hl : AllLt fl (upEnts P gr (dn ++ r :: tl) ++ rest)) (hC : C.map (·.1) = dn.map (·.d)) :
    (∀ p ∈ C ++ upEnts P gr tl ++ rest, p.1 ≠ fl) ∧ @LT.lt Nat _ r.d fl := by
  have hl' := allLt_all hl
  have key : ∀ x ∈ dn ++ r :: tl, x.d < fl := fun x hx => hl' (x.d, upD P x.T (.ref gr) x.i .none) (List.mem_append_left _ (List.mem_map.mpr ⟨x, hx, rfl⟩))
  refine ⟨fun p hp => Nat.ne_of_lt ?_, key r (by simp)⟩
  rcases List.mem_append.mp hp with hp | hp
  · rcases List.mem_append.mp hp with hp | hp
    · have : p.1 ∈ dn.map (·.d) := hC ▸ mem_fst hp
      obtain ⟨x, hx, e⟩ := List.mem_map.mp this
      rw [← e]; exact key x (by simp [hx])
    · obtain ⟨x, hx, e⟩ := List.mem_map.mp hp
      rw [← e]; exact key x (by simp [hx])
  · exact hl' p (List.mem_append_right _ hp)
local macro_rules | `(tactic| walk_at "call ref") => `(tactic| (k_here; (try dsimp only [List.cons_append, List.nil_append]); (with_reducible show wpAny _ _ (call (Value.ref 194) [Value.ref _]) _ _ _); k_dflt (refine' close_specU ?k1 ?k2 ?k3 ?k4 ?kK ?N ?U ?hu ?hst ?hgr ?hgd ?hne ?hl ?hi0 ?hi1 ?kd ?ku ?_; (case k1 => k_asm); (case k2 => k_asm); (case k3 => k_asm); (case k4 => k_asm); (case kK => first | exact rfl | with_reducible assumption); (case N => k_asm); (case hu => k_mem); (case U => k_updF); (case hgr => k_mem); (case hgd => k_mem); (case hst => k_mem); (case hne => with_reducible assumption); (case hl => with_reducible assumption); (case hi0 => with_reducible assumption); (case hi1 => with_reducible assumption); (case kd => ktr_room); (case ku => ktr_units)); intro T9 h9 tk9 F9 N9; (try dsimp only at N9); (try dsimp only); (try k_fold)))
section
variable {prog : Program} {w : World} {p : Program} {loose : List Str} {mean : ExcName → Option Value} {mg mb : Str → Option Value}
  {dp un : Nat} {gdd : Option (List Code)} {cn : Str} {cs : Scope} {a : Addr} {ccd : Value} {cl : List (Str × Addr)} {outer : List Env} {A₀ : Around} {base h₀ : Heap} {L : Addr} {m : Str → Option Value} {s : Shared} {Q E : Value → Shared → Prop}
  (B : Below A₀ base outer h₀) (F : Fr h₀ L s.heap m) (X : (Mine.hd.heap_39 w.params).In h₀) (T : Top p loose mean mg mb h₀) (hk : cs.kind = .function)
include B F X T hk
set_option maxRecDepth 100000 in
set_option maxHeartbeats 4000000 in
theorem take_spec {rest : Led} {gr gd stk opn : Addr} {k1 k2 : Tok} {st : List (Int × Tok)} {sn on : Nat} {ups : List UpR} {level : Int} {tl : Tok}
  (N : News h₀ L s.heap ((opn, refsL UpR.u ups on) :: (upEnts w.params gr ups ++ rest)))
  (hnd : ((opn :: (ups.map (·.d) ++ rest.map (·.1)) : List Addr)).Nodup)
  (hgr : (gr, instObj 216 gd) ∈ rest) (hgd : (gd, gdD w.params k1 k2 stk opn) ∈ rest) (hst : (stk, intsL st sn) ∈ rest) (hl : st.length < 1000) (hlen : ups.length < 1000)
  (hin : ∀ r ∈ ups, (r.u, instObj 197 r.d) ∈ rest ∧ 0 ≤ r.i ∧ r.i < st.length)
  (hroom : dp + 2 < recursionLimit) (hunits : un + 16 < cLine)
  (ret : ∀ (fl : Addr) (dn td : List UpR) (C : Led) (on' : Nat) (h' : Heap) (tk' : Nat), Fr h₀ L h' m → News h₀ L h' ((opn, refsL UpR.u td on') :: (C ++ upEnts w.params gr td ++ rest)) →
    ups = dn ++ td → ClosedAre w.params st dn C → (∀ r ∈ dn, level ≤ r.i) → (∀ r ∈ td.head?, r.i < level) → Q (.ref fl) { s with heap := h', toks := tk' }) :
  wpAny (model prog w) (ktrTop dp un gdd cn cs L a ccd cl outer) (call (.ref 255) [.ref gr, .int level tl]) Q E s := by
  w_top off
  k_with_none
  k_with "exec While BoolOp cons nil" => (refine Halt.of ?_)
  k_steps
  rename_i fl h1 l1 h2 F' N'
  refine Halt.on ?_
  refine while_st (σ := TcSt) (y := Str.ofString "upval") (a₀ := ⟨[], ups, [], [], 0, on⟩) (fun a => (fl, refsL id a.xs a.n) :: (opn, refsL UpR.u a.td a.on) :: (a.C ++ upEnts w.params gr a.td ++ rest))
    (fun a => ups = a.dn ++ a.td ∧ ClosedAre w.params st a.dn a.C ∧ (∀ r ∈ a.dn, level ≤ r.i) ∧ a.xs.length = a.dn.length) (fun a => a.td.length) F' N' ⟨rfl, rfl, by simp, rfl⟩ ?_
  clear F' N'
  rintro ⟨dn, td, C, xs, n, on'⟩ u h tk ⟨e1, e2, e3, e4⟩ F2 N2
  dsimp only at e1 e2 e3 e4 F2 N2
  have hC := e2.map_fst
  cases td with
  | nil =>
    have rR : ∀ p ∈ rest, p ∈ C ++ upEnts w.params gr [] ++ rest := fun p hp => List.mem_append_right _ hp
    have g1 := rR _ hgr
    have g2 := rR _ hgd
    generalize hR : C ++ upEnts w.params gr [] ++ rest = R at N2 g1 g2
    clear rR
    (try k_fold)
    k_steps
    rename News h₀ L _ _ => kN
    exact ret fl dn [] C on' _ _ (by assumption) (news_sub kN (by rw [hR]; exact fun p hp => List.mem_cons_of_mem _ hp)) e1 e2 e3 (by simp)
  | cons r tl =>
    subst e1
    obtain ⟨q1, q2, q3⟩ := tc_facts (P := w.params) (gr := gr) hnd hC
    obtain ⟨q4, q5⟩ := tc_lt l1.2 hC
    have q6 : @LT.lt Nat _ opn fl := l1.1
    obtain ⟨w1, w2, w3⟩ := hin r (by simp)
    have q7 : tl.length < 1000 := by simp at hlen; omega
    obtain ⟨v, tv, hv⟩ : ∃ v tv, st[r.i.toNat]? = some (v, tv) := ⟨_, _, List.getElem?_eq_getElem (by omega)⟩
    have N3 : News _ _ _ ((fl, refsL id xs n) :: (opn, refsL UpR.u (r :: tl) on') :: (r.d, upD w.params r.T (.ref gr) r.i .none) :: (C ++ upEnts w.params gr tl ++ rest)) := news_sub N2 (by
      intro p hp
      simp only [List.mem_cons, List.mem_append, upEnts, List.map_cons] at hp ⊢
      rcases hp with h | h | h | (h | h) | h <;> simp [h])
    have rR : ∀ p ∈ rest, p ∈ C ++ upEnts w.params gr tl ++ rest := fun p hp => List.mem_append_right _ hp
    have g1 := rR _ hgr
    have g2 := rR _ hgd
    have g3 := rR _ hst
    have g4 := rR _ w1
    have g5 : gd ≠ r.d := q1 _ g2
    generalize hR : C ++ upEnts w.params gr tl ++ rest = R at *
    clear N2 hgr hgd hst
    (try k_fold)
    k_steps
    case _ =>
      rename UT => T2
      rename News _ _ _ _ => N9
      refine WSPost.intro (a' := ⟨dn ++ [r], tl, C ++ [(r.d, upD w.params T2 .none (-1) (.int v tv))], xs ++ [r.u], n + 1, on' + 1⟩) (by assumption) N9 ?_ ?_ ⟨by simp, e2.snoc hv, ?_, by simp [e4]⟩ (by simp)
      · subst hR
        intro p hp
        simp only [List.mem_cons, List.mem_append] at hp ⊢
        rcases hp with h | h | ((h | h | h) | h) | h
        · subst h; left; simp
        all_goals simp_all
      · intro z hz; simp [hz]
      · intro x hx
        rcases List.mem_append.mp hx with h | h
        · exact e3 x h
        · rw [List.mem_singleton.mp h]; assumption
    case _ =>
      rename News h₀ L _ _ => kN
      exact ret fl dn (r :: tl) C on' _ _ (by assumption) (news_sub kN (by
        subst hR
        intro p hp
        simp only [List.mem_cons, List.mem_append, upEnts, List.map_cons] at hp ⊢
        rcases hp with h | (h | h | h) | h <;> simp [h])) rfl e2 e3 (by intro x hx; simp at hx; subst hx; omega)
end
end
-- C8
section
local macro_rules | `(tactic| walk_at "my pad") => `(tactic| fail)
local macro_rules | `(tactic| walk_at "call ref") => `(tactic| (k_here; (try dsimp only [List.cons_append, List.nil_append]); (with_reducible show wpAny _ _ (call (Value.ref 180) [Value.ref _]) _ _ _); k_dflt (refine' get_spec ?k1 ?k2 ?k3 ?k4 ?kK ?N ?hgr ?hgd ?hst ?hl ?hu ?kd ?ku ?_; (case k1 => k_asm); (case k2 => k_asm); (case k3 => k_asm); (case k4 => k_asm); (case kK => first | exact rfl | with_reducible assumption); (case N => k_asm); (case hgr => k_mem); (case hgd => k_mem); (case hst => k_mem); (case hl => with_reducible assumption); (case hu => walk_at "my reads"); (case kd => ktr_room); (case ku => ktr_units)); intro t9 h9 tk9 F9 N9; (try dsimp only); (try k_fold)))
set_option maxRecDepth 100000 in
set_option maxHeartbeats 4000000 in
theorem getmeth_up {prog : Program} {w : World} {A : Around} {E : Value → Shared → Prop} {s : Shared} {h₀ : Heap} {L : Addr} {m : Str → Option Value} {news : Led} {gr : Addr} {st : List (Int × Tok)} {u : Addr} {v : Int} {pl : Sem Bool} {Q : Value × List Value → Shared → Prop}
    (F : Fr h₀ L s.heap m) (X : (Mine.hd.heap_39 w.params).In h₀) (N : News h₀ L s.heap news) (hu : UpReads w.params news gr st u v) (h : Q (.ref 180, [.ref u]) s) :
    wpAny (model prog w) A (getMethod (.ref u) (Str.ofString "get") pl) Q E s := by
  w_top off
  obtain ⟨d, hu1, ⟨T1, i, t, h1, h2, h3⟩ | ⟨T1, t, h1⟩⟩ := hu
  · walk1
    exact h
  · walk1
    exact h
theorem UpReads.at {P : Params} {news : Led} {gr : Addr} {st : List (Int × Tok)} {us : List (Addr × Int)} {x : Addr × Int} (h : ∀ x ∈ us, UpReads P news gr st x.1 x.2) (hx : x ∈ us) : UpReads P news gr st x.1 x.2 := h x hx
local macro_rules | `(tactic| walk_at "my reads") => `(tactic| first | with_reducible assumption | exact UpReads.at (by with_reducible assumption) (by with_reducible assumption))
local macro_rules | `(tactic| walk_at "getMethod ref") => `(tactic| (k_here; (with_reducible show wpAny _ _ (getMethod (Value.ref _) (Str.ofString "get") _) _ _ _); k_dflt (refine' getmeth_up ?F ?X ?N ?hu ?_; (case F => k_asm); (case X => k_asm); (case N => k_asm); (case hu => walk_at "my reads"))))
section
variable {prog : Program} {w : World} {p : Program} {loose : List Str} {mean : ExcName → Option Value} {mg mb : Str → Option Value}
  {dp un : Nat} {gdd : Option (List Code)} {cn : Str} {cs : Scope} {a : Addr} {ccd : Value} {cl : List (Str × Addr)} {outer : List Env} {A₀ : Around} {base h₀ : Heap} {L : Addr} {m : Str → Option Value} {s : Shared} {Q E : Value → Shared → Prop}
  (B : Below A₀ base outer h₀) (F : Fr h₀ L s.heap m) (X : (Mine.hd.heap_39 w.params).In h₀) (T : Top p loose mean mg mb h₀) (hk : cs.kind = .function)
include B F X T hk
set_option maxRecDepth 100000 in
set_option maxHeartbeats 4000000 in
theorem getup_spec {news : Led} {c cd pr ul gr gd stk opn : Addr} {CT1 : CT} {sz : Int} {k1 k2 : Tok} {st : List (Int × Tok)} {sn un' : Nat} {us : List (Addr × Int)} {at' : Int} {ta : Tok}
  (N : News h₀ L s.heap news) (hc : (c, instObj 109 cd) ∈ news) (hcd : (cd, cloD w.params CT1 sz pr ul) ∈ news) (hul : (ul, refsL (fun x : Addr × Int => x.1) us un') ∈ news)
  (hgr : (gr, instObj 216 gd) ∈ news) (hgd : (gd, gdD w.params k1 k2 stk opn) ∈ news) (hst : (stk, intsL st sn) ∈ news) (hl : st.length < 1000) (hl2 : us.length < 1000)
  (hu : ∀ x ∈ us, UpReads w.params news gr st x.1 x.2) (h0 : 0 ≤ at') (h1 : at' < us.length)
  (hroom : dp + 2 < recursionLimit) (hunits : un + 16 < cLine)
  (ret : ∀ (x : Addr × Int) (t : Tok) (h' : Heap) (tk' : Nat), us[at'.toNat]? = some x → Fr h₀ L h' m → News h₀ L h' news → Q (.int x.2 t) { s with heap := h', toks := tk' }) :
  wpAny (model prog w) (ktrTop dp un gdd cn cs L a ccd cl outer) (call (.ref 92) [.ref c, .int at' ta]) Q E s := by
  w_top off
  k_with_none
  k_steps
  exact ret _ _ _ _ (by assumption) (by assumption) (by assumption)
set_option maxRecDepth 100000 in
set_option maxHeartbeats 4000000 in
theorem count_spec {news : Led} {c cd pr ul : Addr} {CT1 : CT} {sz : Int} {un' : Nat} {us : List (Addr × Int)} {ta : Tok}
  (N : News h₀ L s.heap news) (hc : (c, instObj 109 cd) ∈ news) (hcd : (cd, cloD w.params CT1 sz pr ul) ∈ news) (hul : (ul, refsL (fun x : Addr × Int => x.1) us un') ∈ news)
  (hl2 : us.length < 1000)
  (hroom : dp + 2 < recursionLimit) (hunits : un + 16 < cLine)
  (ret : ∀ (t : Tok) (h' : Heap) (tk' : Nat), Fr h₀ L h' m → News h₀ L h' news → Q (.int us.length t) { s with heap := h', toks := tk' }) :
  wpAny (model prog w) (ktrTop dp un gdd cn cs L a ccd cl outer) (call (.ref 84) [.ref c]) Q E s := by
  w_top off
  k_with_none
  k_steps
  exact ret _ _ _ (by assumption) (by assumption)
end
end
-- C9
section
local macro_rules | `(tactic| walk_at "call ref") => `(tactic| (k_here; (try dsimp only [List.cons_append, List.nil_append]); (with_reducible show wpAny _ _ (call (Value.ref 194) [Value.ref _]) _ _ _); k_dflt (refine' close_specU ?k1 ?k2 ?k3 ?k4 ?kK ?N ?U ?hu ?hst ?hgr ?hgd ?hne ?hl ?hi0 ?hi1 ?kd ?ku ?_; (case k1 => k_asm); (case k2 => k_asm); (case k3 => k_asm); (case k4 => k_asm); (case kK => first | exact rfl | with_reducible assumption); (case N => k_asm); (case hu => k_mem); (case U => k_updF); (case hgr => k_mem); (case hgd => k_mem); (case hst => k_mem); (case hne => with_reducible assumption); (case hl => with_reducible assumption); (case hi0 => with_reducible assumption); (case hi1 => with_reducible assumption); (case kd => ktr_room); (case ku => ktr_units)); intro T9 h9 tk9 F9 N9; (try dsimp only at N9); (try dsimp only); (try k_fold)))
local macro_rules | `(tactic| walk_at "call ref") => `(tactic| (k_here; (try dsimp only [List.cons_append, List.nil_append]); (with_reducible show wpAny _ _ (call (Value.ref 180) [Value.ref _]) _ _ _); k_dflt (refine' get_spec ?k1 ?k2 ?k3 ?k4 ?kK ?N ?hgr ?hgd ?hst ?hl ?hu ?kd ?ku ?_; (case k1 => k_asm); (case k2 => k_asm); (case k3 => k_asm); (case k4 => k_asm); (case kK => first | exact rfl | with_reducible assumption); (case N => k_asm); (case hgr => k_mem); (case hgd => k_mem); (case hst => k_mem); (case hl => with_reducible assumption); (case hu => walk_at "my reads"); (case kd => ktr_room); (case ku => ktr_units)); intro t9 h9 tk9 F9 N9; (try dsimp only); (try k_fold)))
local macro_rules | `(tactic| walk_at "my reads") => `(tactic| first | with_reducible assumption | exact UpReads.at (by with_reducible assumption) (by with_reducible assumption))
local macro_rules | `(tactic| walk_at "getMethod ref") => `(tactic| (k_here; (with_reducible show wpAny _ _ (getMethod (Value.ref _) (Str.ofString "get") _) _ _ _); k_dflt (refine' getmeth_up ?F ?X ?N ?hu ?_; (case F => k_asm); (case X => k_asm); (case N => k_asm); (case hu => walk_at "my reads"))))
section
variable {prog : Program} {w : World} {p : Program} {loose : List Str} {mean : ExcName → Option Value} {mg mb : Str → Option Value}
  {dp un : Nat} {gdd : Option (List Code)} {cn : Str} {cs : Scope} {a : Addr} {ccd : Value} {cl : List (Str × Addr)} {outer : List Env} {A₀ : Around} {base h₀ : Heap} {L : Addr} {m : Str → Option Value} {s : Shared} {Q E : Value → Shared → Prop}
  (B : Below A₀ base outer h₀) (F : Fr h₀ L s.heap m) (X : (Mine.hd.heap_39 w.params).In h₀) (T : Top p loose mean mg mb h₀) (hk : cs.kind = .function)
include B F X T hk
theorem setc_specU {news : Led} {g : Obj → Led} {u d : Addr} {T1 : UT} {v0 v : Int} {t0 tv : Tok}
  (N : News h₀ L s.heap news) (U : UpdF d (upD w.params T1 .none (-1) (.int v0 t0)) news g) (hu : (u, instObj 197 d) ∈ news)
  (hroom : dp + 1 < recursionLimit) (hunits : un + 8 < cLine)
  (ret : ∀ (h' : Heap) (tk' : Nat), Fr h₀ L h' m → News h₀ L h' (g (upD w.params T1 .none (-1) (.int v tv))) → Q .none { s with heap := h', toks := tk' }) :
  wpAny (model prog w) (ktrTop dp un gdd cn cs L a ccd cl outer) (call (.ref 187) [.ref u, .int v tv]) Q E s := by
  obtain ⟨rest, r1, r2, r3, r4⟩ := updF_rest U
  exact setc_spec B F X T hk (news_sub N r3) r1 (mem_rest r2 hu nofun) hroom hunits fun h' tk' F' N' => ret h' tk' F' (news_sub N' (r4 _))
theorem seto_specU {news : Led} {g : Obj → Led} {u d gr gd stk opn : Addr} {k1 k2 : Tok} {st : List (Int × Tok)} {sn : Nat} {T1 : UT} {i v : Int} {tv : Tok}
  (N : News h₀ L s.heap news) (U : UpdF stk (intsL st sn) news g) (hu : (u, instObj 197 d) ∈ news) (hd : (d, upD w.params T1 (.ref gr) i .none) ∈ news)
  (hgr : (gr, instObj 216 gd) ∈ news) (hgd : (gd, gdD w.params k1 k2 stk opn) ∈ news) (hl : st.length < 1000) (hi0 : 0 ≤ i) (hi1 : i < st.length)
  (hroom : dp + 1 < recursionLimit) (hunits : un + 8 < cLine)
  (ret : ∀ (h' : Heap) (tk' : Nat), Fr h₀ L h' m → News h₀ L h' (g (intsL (st.set i.toNat (v, tv)) sn)) → Q .none { s with heap := h', toks := tk' }) :
  wpAny (model prog w) (ktrTop dp un gdd cn cs L a ccd cl outer) (call (.ref 187) [.ref u, .int v tv]) Q E s := by
  obtain ⟨rest, r1, r2, r3, r4⟩ := updF_rest U
  exact seto_spec B F X T hk (news_sub N r3) r1 (mem_rest r2 hu nofun) (mem_rest r2 hd dict_list) (mem_rest r2 hgr nofun) (mem_rest r2 hgd dict_list) hl hi0 hi1 hroom hunits fun h' tk' F' N' => ret h' tk' F' (news_sub N' (r4 _))
end
local macro_rules | `(tactic| walk_at "call ref") => `(tactic| (k_here; (try dsimp only [List.cons_append, List.nil_append]); (with_reducible show wpAny _ _ (call (Value.ref 187) [Value.ref _, Value.int _ _]) _ _ _); k_dflt (refine' setc_specU ?k1 ?k2 ?k3 ?k4 ?kK ?N ?U ?hu ?kd ?ku ?_; (case k1 => k_asm); (case k2 => k_asm); (case k3 => k_asm); (case k4 => k_asm); (case kK => first | exact rfl | with_reducible assumption); (case N => k_asm); (case hu => k_mem); (case U => k_updF); (case kd => ktr_room); (case ku => ktr_units)); intro h9 tk9 F9 N9; (try dsimp only at N9); (try dsimp only); (try k_fold)))
local macro_rules | `(tactic| walk_at "call ref") => `(tactic| (k_here; (try dsimp only [List.cons_append, List.nil_append]); (with_reducible show wpAny _ _ (call (Value.ref 187) [Value.ref _, Value.int _ _]) _ _ _); k_dflt (refine' seto_specU ?k1 ?k2 ?k3 ?k4 ?kK ?N ?U ?hu ?hd ?hgr ?hgd ?hl ?hi0 ?hi1 ?kd ?ku ?_; (case k1 => k_asm); (case k2 => k_asm); (case k3 => k_asm); (case k4 => k_asm); (case kK => first | exact rfl | with_reducible assumption); (case N => k_asm); (case hu => k_mem); (case hd => k_mem); (case hgr => k_mem); (case hgd => k_mem); (case U => k_updF); (case hl => with_reducible assumption); (case hi0 => with_reducible assumption); (case hi1 => with_reducible assumption); (case kd => ktr_room); (case ku => ktr_units)); intro h9 tk9 F9 N9; (try dsimp only at N9); (try dsimp only); (try k_fold)))
section
variable {prog : Program} {w : World} {p : Program} {loose : List Str} {mean : ExcName → Option Value} {mg mb : Str → Option Value}
  {dp un : Nat} {gdd : Option (List Code)} {cn : Str} {cs : Scope} {a : Addr} {ccd : Value} {cl : List (Str × Addr)} {outer : List Env} {A₀ : Around} {base h₀ : Heap} {L : Addr} {m : Str → Option Value} {s : Shared} {Q E : Value → Shared → Prop}
  (B : Below A₀ base outer h₀) (F : Fr h₀ L s.heap m) (X : (Mine.hd.heap_39 w.params).In h₀) (T : Top p loose mean mg mb h₀) (hk : cs.kind = .function)
include B F X T hk
set_option maxRecDepth 100000 in
set_option maxHeartbeats 4000000 in
theorem setupc_spec {rest : Led} {c cd pr ul d u : Addr} {CT1 : CT} {sz : Int} {un' : Nat} {us : List Addr} {at' : Int} {ta : Tok} {T1 : UT} {v0 v : Int} {t0 tv : Tok}
  (N : News h₀ L s.heap ((d, upD w.params T1 .none (-1) (.int v0 t0)) :: rest)) (hne : ∀ p ∈ rest, p.1 ≠ d) (hu : (u, instObj 197 d) ∈ rest)
  (hc : (c, instObj 109 cd) ∈ rest) (hcd : (cd, cloD w.params CT1 sz pr ul) ∈ rest) (hul : (ul, refsL (fun x : Addr => x) us un') ∈ rest)
  (h0 : 0 ≤ at') (hx : us[at'.toNat]? = some u) (hl : us.length < 1000)
  (hroom : dp + 2 < recursionLimit) (hunits : un + 16 < cLine)
  (ret : ∀ (h' : Heap) (tk' : Nat), Fr h₀ L h' m → News h₀ L h' ((d, upD w.params T1 .none (-1) (.int v tv)) :: rest) → Q .none { s with heap := h', toks := tk' }) :
  wpAny (model prog w) (ktrTop dp un gdd cn cs L a ccd cl outer) (call (.ref 99) [.ref c, .int at' ta, .int v tv]) Q E s := by
  w_top off
  k_with_none
  have h1 : at' < us.length := by obtain ⟨h1, _⟩ := List.getElem?_eq_some_iff.mp hx; omega
  k_steps
  exact ret _ _ (by assumption) (by assumption)
set_option maxRecDepth 100000 in
set_option maxHeartbeats 4000000 in
theorem setupo_spec {rest : Led} {c cd pr ul d u gr gd stk opn : Addr} {CT1 : CT} {sz : Int} {un' : Nat} {us : List Addr} {at' : Int} {ta : Tok} {T1 : UT} {i v : Int} {tv : Tok} {k1 k2 : Tok} {st : List (Int × Tok)} {sn : Nat}
  (N : News h₀ L s.heap ((stk, intsL st sn) :: rest)) (hne : ∀ p ∈ rest, p.1 ≠ stk) (hu : (u, instObj 197 d) ∈ rest) (hd : (d, upD w.params T1 (.ref gr) i .none) ∈ rest)
  (hgr : (gr, instObj 216 gd) ∈ rest) (hgd : (gd, gdD w.params k1 k2 stk opn) ∈ rest) (hst : st.length < 1000) (hi0 : 0 ≤ i) (hi1 : i < st.length)
  (hc : (c, instObj 109 cd) ∈ rest) (hcd : (cd, cloD w.params CT1 sz pr ul) ∈ rest) (hul : (ul, refsL (fun x : Addr => x) us un') ∈ rest)
  (h0 : 0 ≤ at') (hx : us[at'.toNat]? = some u) (hl : us.length < 1000)
  (hroom : dp + 2 < recursionLimit) (hunits : un + 16 < cLine)
  (ret : ∀ (h' : Heap) (tk' : Nat), Fr h₀ L h' m → News h₀ L h' ((stk, intsL (st.set i.toNat (v, tv)) sn) :: rest) → Q .none { s with heap := h', toks := tk' }) :
  wpAny (model prog w) (ktrTop dp un gdd cn cs L a ccd cl outer) (call (.ref 99) [.ref c, .int at' ta, .int v tv]) Q E s := by
  w_top off
  k_with_none
  have h1 : at' < us.length := by obtain ⟨h1, _⟩ := List.getElem?_eq_some_iff.mp hx; omega
  k_steps
  exact ret _ _ (by assumption) (by assumption)
end
end
-- W4
section
open PySem PySem.W PyProof.Rows PySem.Spec
section
variable {prog : Program} {w : World} {A : Around} {E : Value → Shared → Prop} {s : Shared} {env : Env} {h₀ : Heap} {x : Str} {body : List Stmt} {Q : Flow → Shared → Prop} {α σ : Type} {f : α → Value} {xs : List α}
def FLEnd (h₀ : Heap) (L : Addr) (v : Str) (ys : List Str) (m₀ : Str → Option Value) (it : Addr × Obj) (led : σ → Led) (I : σ → Prop) (s₁ s₂ : Shared) : Prop :=
  ∃ h' tk m' a' news', s₂ = { s₁ with heap := h', toks := tk } ∧ Fr h₀ L h' m' ∧ News h₀ L h' news' ∧ (∀ p ∈ it :: led a', p ∈ news') ∧ (∀ p ∈ led a', p.1 ≠ it.1) ∧ (∀ z, z ≠ v → ys.contains z = false → m' z = m₀ z) ∧ I a'
def FLPost (h₀ : Heap) (L : Addr) (v : Str) (ys : List Str) (m₀ : Str → Option Value) (it : Addr × Obj) (led : σ → Led) (I : σ → Prop) (s₁ : Shared) (Q : Flow → Shared → Prop) (fl : Flow) (s₂ : Shared) : Prop :=
  match fl with
  | .ret r => Q (.ret r) s₂
  | .brk => Q .next s₂
  | _ => FLEnd h₀ L v ys m₀ it led I s₁ s₂
theorem FLPost.intro {L : Addr} {v : Str} {ys : List Str} {m₀ m' : Str → Option Value} {it : Addr × Obj} {led : σ → Led} {I : σ → Prop} {s₁ : Shared} {h' : Heap} {tk : Nat} {news' : Led} (a' : σ)
    (F : Fr h₀ L h' m') (N : News h₀ L h' news') (hn : ∀ p ∈ it :: led a', p ∈ news') (ho : ∀ p ∈ led a', p.1 ≠ it.1) (hm : ∀ z, z ≠ v → ys.contains z = false → m' z = m₀ z) (hi : I a') :
    FLPost h₀ L v ys m₀ it led I s₁ Q .next { s₁ with heap := h', toks := tk } := ⟨h', tk, m', a', news', rfl, F, N, hn, ho, hm, hi⟩
theorem iter_list {l : Addr} {n : Nat} {m₀ : Str → Option Value} {a₀ : σ} (ys : List Str) (led : Nat → σ → Led) (I : Nat → σ → Prop)
    (hh : A.handled = none) (hm : ∀ i a, (l, listOf (xs.map f).toArray n) ∈ led i a) (F : Fr h₀ env.locals s.heap m₀) (N : News h₀ env.locals s.heap (led 0 a₀)) (hi : I 0 a₀)
    (turn : ∀ i a y (u : Str → Option Value) it h tk, xs[i]? = some y → i < xs.length → I i a → (∀ p ∈ led i a, p.1 ≠ it.1) → Fr h₀ env.locals h (fun z => if z = x then some (f y) else if ys.contains z then u z else m₀ z) → News h₀ env.locals h (it :: led i a) →
      wpAny (model prog w) A (execs body env) (FLPost h₀ env.locals x ys m₀ it (led (i + 1)) (I (i + 1)) { s with heap := h, toks := tk } Q) E { s with heap := h, toks := tk })
    (done : ∀ a (u : Str → Option Value) h tk, I xs.length a → Fr h₀ env.locals h (fun z => if z = x then u z else if ys.contains z then u z else m₀ z) → News h₀ env.locals h (led xs.length a) → Q .next { s with heap := h, toks := tk }) :
    wpAny (model prog w) A (pyIter (.ref l)) (fun it s₂ => LoopAtV prog w A h₀ env x body Q E it s₂) E s := by
  have hls : s.heap.IsList l (xs.map f).toArray := isl_of N (hm 0 a₀)
  obtain ⟨ol, hol, _⟩ := id hls
  have hlt : l < s.heap.objs.size := Heap.lt_size hol
  have hne : l ≠ s.heap.objs.size := Nat.ne_of_lt hlt
  refine wpAny_pyIter_list hls ?_
  have W := Walks.list (prog := prog) (w := w) hh s.heap.objs.size l hne (xs.map f).toArray
  have hlen : (xs.map f).toArray.size = xs.length := by simp
  rw [hlen] at W
  let J' : Nat → (Str → Option Value) → Led → Prop := fun i m₁ news₁ => ∃ a, news₁ = led i a ∧ I i a ∧ ∀ z, z ≠ x → ys.contains z = false → m₁ z = m₀ z
  refine ⟨_, _, _, xs.length, _, _, m₀, led 0 a₀, J', rfl, W, ?_, ?_, ?_, ⟨⟨_, Heap.get?_push_size _ rfl, rfl, rfl⟩, hls.at fun o e => Heap.get?_push_of_some _ e⟩, F.push _, (fun p hp => ⟨Heap.get?_push_of_some _ (N p hp).1, (N p hp).2⟩), ⟨a₀, rfl, hi, fun _ _ _ => rfl⟩, ?_, ?_⟩
  · intro hmem
    rcases List.mem_cons.mp hmem with e | hmem
    · exact absurd F.ns.lt (e ▸ Nat.lt_irrefl _)
    · exact (N _ (hm 0 a₀)).2.1 (List.mem_singleton.mp hmem).symm
  · intro b hb
    rw [List.mem_singleton.mp hb]
    exact next_is_new F
  · intro p hp hI
    exact absurd (Heap.lt_size (N p hp).1) ((List.mem_singleton.mp hI) ▸ Nat.lt_irrefl _)
  · rintro i v m₁ news₁ s₁ own ⟨hh', tk', rfl⟩ hin hP ⟨a, rfl, hI, hmm⟩ hoff hown hget hall hst F₁ N₁
    have hv : ∃ y, xs[i]? = some y ∧ v = f y := by
      have hP' : (xs.map f)[i]? = some v := by simpa using hP
      rw [List.getElem?_map] at hP'
      cases hx : xs[i]? with
      | none => rw [hx] at hP'; cases hP'
      | some y => rw [hx] at hP'; exact ⟨y, rfl, (Option.some.inj hP').symm⟩
    obtain ⟨y, hy, rfl⟩ := hv
    obtain ⟨⟨oI, heI, _⟩, _⟩ := hst
    have hI₀ : h₀.get? s.heap.objs.size = none := next_is_new F
    have hIown : (s.heap.objs.size, oI) ∈ own := hall _ (by simp) hI₀ _ heI
    have hsep : ∀ p ∈ led i a, p.1 ≠ s.heap.objs.size := fun p hp e => hoff p hp (List.mem_singleton.mpr e)
    have e : (fun z => if z = x then some (f y) else if ys.contains z then m₁ z else m₀ z) = fun z => if z = x then some (f y) else m₁ z := by
      funext z
      by_cases h1 : z = x
      · simp [h1]
      · simp only [if_neg h1]
        cases h9 : ys.contains z with
        | true => simp
        | false => simp only [Bool.false_eq_true, if_false]; exact (hmm z h1 h9).symm
    rw [← e] at F₁
    have N₂ : News h₀ env.locals hh' ((s.heap.objs.size, oI) :: led i a) := fun p hp => by
      rcases List.mem_cons.mp hp with rfl | hp
      · exact N₁ _ (List.mem_append_left _ hIown)
      · exact N₁ _ (List.mem_append_right _ hp)
    refine wpAny_mono (turn i a y m₁ (s.heap.objs.size, oI) hh' tk' hy hin hI hsep F₁ N₂) (fun fl s₂ p => ?_) fun _ _ e => e
    have fin : FLEnd h₀ env.locals x ys m₀ (s.heap.objs.size, oI) (led (i + 1)) (I (i + 1)) { s with heap := hh', toks := tk' } s₂ → LoopStepU h₀ env.locals [s.heap.objs.size] own (J' (i + 1)) { s with heap := hh', toks := tk' } .next s₂ := by
      rintro ⟨h', tk, m', a', news', e, F', N', hn, ho, hm', hI'⟩
      refine ⟨rfl, h', tk, m', led (i + 1) a', e, F', fun p hp => ?_, fun p hp hq => ho p hp (List.mem_singleton.mp hq), a', rfl, hI', hm'⟩
      rcases List.mem_append.mp hp with hp | hp
      · have h1 := hown p hp
        rcases List.mem_cons.mp h1 with h1 | h1
        · have : p = (s.heap.objs.size, oI) := by
            have e2 := hget p hp
            rw [h1, heI] at e2
            exact Prod.ext h1 (Option.some.inj e2).symm
          rw [this]
          exact N' _ (hn _ List.mem_cons_self)
        · have h2 := List.mem_singleton.mp h1
          have : p = (l, listOf (xs.map f).toArray n) := by
            have e2 := hget p hp
            have e3 := (N₁ _ (List.mem_append_right _ (hm i a))).1
            dsimp only at e3
            rw [h2, e3] at e2
            exact Prod.ext h2 (Option.some.inj e2).symm
          rw [this]
          exact N' _ (hn _ (List.mem_cons_of_mem _ (hm _ _)))
      · exact N' _ (hn _ (List.mem_cons_of_mem _ hp))
    cases fl with
    | ret v => exact .ret p
    | brk => exact .brk p
    | next => exact .next (fin p)
    | cont => exact .cont (fin p)
  · rintro h' tk m' news' F' N' _ ⟨a, rfl, hI, hmm⟩
    refine done a m' h' tk hI ?_ N'
    have e : (fun z => if z = x then m' z else if ys.contains z then m' z else m₀ z) = m' := by
      funext z
      by_cases h1 : z = x
      · simp [h1]
      · simp only [if_neg h1]
        cases h9 : ys.contains z with
        | true => simp
        | false => simp only [Bool.false_eq_true, if_false]; exact (hmm z h1 h9).symm
    rw [e]; exact F'
end
section
variable {prog : Program} {w : World} {A : Around} {E : Value → Shared → Prop} {s : Shared} {h₀ : Heap} {L l : Addr} {m : Str → Option Value} {news : Led} {value slice : PySem.Expr} {vl vu : Value} {lo : Option Int} {x y : Int} {Q : Value → Shared → Prop} {α : Type} {f : α → Value} {xs : List α} {n : Nat}
theorem pick_map (x y : Int) (h0 : 0 ≤ x) (h1 : 0 ≤ y) : slicePick (xs.map f).toArray (some x) (some y) none = (((xs.drop x.toNat).take (y.toNat - x.toNat)).map f).toArray := by
  rw [kms_pick_eq]
  unfold kms_pick kms_lo kms_hi
  simp only [if_neg (show ¬ x < 0 by omega), if_neg (show ¬ y < 0 by omega)]
  congr 1
  apply List.ext_getElem?
  intro i
  simp only [List.getElem?_take, List.getElem?_drop, List.getElem?_map, List.length_map]
  by_cases hi : i < y.toNat - x.toNat
  · rw [if_pos hi]
    by_cases h2 : i < min y.toNat xs.length - min x.toNat xs.length
    · rw [if_pos h2, show min x.toNat xs.length + i = x.toNat + i by omega]
    · rw [if_neg h2, List.getElem?_eq_none (by omega)]; rfl
  · rw [if_neg hi, if_neg (by omega)]; rfl
theorem pick_upto (y : Int) (h1 : 0 ≤ y) : slicePick (xs.map f).toArray none (some y) none = ((xs.take y.toNat).map f).toArray := by
  rw [kms_pick_eq]
  unfold kms_pick kms_lo kms_hi
  simp only [if_neg (show ¬ y < 0 by omega)]
  congr 1
  simp only [List.drop_zero, Nat.sub_zero, List.map_take, List.length_map]
  have := kmk_take_min (xs.map f) y.toNat
  rwa [List.length_map] at this
theorem slice_map (F : Fr h₀ L s.heap m) (N : News h₀ L s.heap news) (hm : (l, listOf (xs.map f).toArray n) ∈ news) (pl : IsPart vl (some x)) (pu : IsPart vu (some y)) (h0 : 0 ≤ x) (h1 : 0 ≤ y) (hl : xs.length < 2000)
    (h : ∀ D h', Fr h₀ L h' m → News h₀ L h' ((D, listOf (((xs.drop x.toNat).take (y.toNat - x.toNat)).map f).toArray 0) :: news) → (∀ p ∈ news, p.1 < D) → Q (.ref D) { s with heap := h' })
    (hs : subscripted slice false (.ref l) (.ref s.heap.objs.size) = operate [.ref s.heap.objs.size, .ref l] (getItem (.ref l) (.ref s.heap.objs.size))) (ht : ∀ r, letTemporaryGo value (.ref l) r = pure ()) :
    wpAny (model prog w) A (subscriptTail value slice (.ref l) (.ref s.heap.objs.size)) Q E { s with heap := s.heap.push { cls := .type "slice", data := .fields #[vl, vu, .none] } } := by
  refine kmk_slice F N (isl_of N hm) pl pu (fun D h' F' N' l1 => h D h' F' ?_ l1) hs ht (small_line (by simp; omega))
  rw [pick_map x y h0 h1] at N'
  exact N'
theorem slice_upto (F : Fr h₀ L s.heap m) (N : News h₀ L s.heap news) (hm : (l, listOf (xs.map f).toArray n) ∈ news) (pl : IsPart vl none) (pu : IsPart vu (some y)) (h1 : 0 ≤ y) (hl : xs.length < 2000)
    (h : ∀ D h', Fr h₀ L h' m → News h₀ L h' ((D, listOf ((xs.take y.toNat).map f).toArray 0) :: news) → (∀ p ∈ news, p.1 < D) → Q (.ref D) { s with heap := h' })
    (hs : subscripted slice false (.ref l) (.ref s.heap.objs.size) = operate [.ref s.heap.objs.size, .ref l] (getItem (.ref l) (.ref s.heap.objs.size))) (ht : ∀ r, letTemporaryGo value (.ref l) r = pure ()) :
    wpAny (model prog w) A (subscriptTail value slice (.ref l) (.ref s.heap.objs.size)) Q E { s with heap := s.heap.push { cls := .type "slice", data := .fields #[vl, vu, .none] } } := by
  refine kmk_slice F N (isl_of N hm) pl pu (fun D h' F' N' l1 => h D h' F' ?_ l1) hs ht (small_line (by simp; omega))
  rw [pick_upto y h1] at N'
  exact N'
end
local macro_rules | `(tactic| walk_at "subscriptTail") => `(tactic| (k_here; (with_reducible show wpAny _ _ (subscriptTail _ (PySem.Expr.Slice _ _ none _) (Value.ref _) (Value.ref _)) _ _ _); k_dflt (refine' slice_map ?F ?N ?l ?p ?q ?h0 ?h1 ?hl ?_ ?s ?t; (case F => k_asm); (case N => k_asm); (case l => k_mem); (case p => exact IsPart.int _ _); (case q => exact IsPart.int _ _); (case h0 => l_idx); (case h1 => l_idx); (case hl => first | with_reducible assumption | omega); (case s => with_unfolding_all rfl); (case t => kmk_pure)); intro D' h' F' N' l1; (try k_lt l1); (try k_sweep)))
local macro_rules | `(tactic| walk_at "subscriptTail") => `(tactic| (k_here; (with_reducible show wpAny _ _ (subscriptTail _ (PySem.Expr.Slice none _ none _) (Value.ref _) (Value.ref _)) _ _ _); k_dflt (refine' slice_upto ?F ?N ?l ?p ?q ?h1 ?hl ?_ ?s ?t; (case F => k_asm); (case N => k_asm); (case l => k_mem); (case p => exact IsPart.none); (case q => exact IsPart.int _ _); (case h1 => l_idx); (case hl => first | with_reducible assumption | omega); (case s => with_unfolding_all rfl); (case t => kmk_pure)); intro D' h' F' N' l1; (try k_lt l1); (try k_sweep)))
end
local macro_rules | `(tactic| walk_at "subscriptTail") => `(tactic| (k_here; (with_reducible show wpAny _ _ (subscriptTail _ (PySem.Expr.Slice _ _ none _) (Value.ref _) (Value.ref _)) _ _ _); k_dflt (refine' slice_map ?F ?N ?l ?p ?q ?h0 ?h1 ?hl ?_ ?s ?t; (case F => k_asm); (case N => k_asm); (case l => k_mem); (case p => exact IsPart.int _ _); (case q => exact IsPart.int _ _); (case h0 => l_idx); (case h1 => l_idx); (case hl => first | with_reducible assumption | omega); (case s => with_unfolding_all rfl); (case t => kmk_pure)); intro D' h' F' N' l1; (try k_lt l1); (try k_sweep)))
local macro_rules | `(tactic| walk_at "subscriptTail") => `(tactic| (k_here; (with_reducible show wpAny _ _ (subscriptTail _ (PySem.Expr.Slice none _ none _) (Value.ref _) (Value.ref _)) _ _ _); k_dflt (refine' slice_upto ?F ?N ?l ?p ?q ?h1 ?hl ?_ ?s ?t; (case F => k_asm); (case N => k_asm); (case l => k_mem); (case p => exact IsPart.none); (case q => exact IsPart.int _ _); (case h1 => l_idx); (case hl => first | with_reducible assumption | omega); (case s => with_unfolding_all rfl); (case t => kmk_pure)); intro D' h' F' N' l1; (try k_lt l1); (try k_sweep)))
-- P1
def newEnts (P : Params) (gr : Addr) (new : List UpR) : Led := new.flatMap fun r => [(r.u, instObj 197 r.d), (r.d, upD P r.T (.ref gr) r.i .none)]
theorem newEnts_snoc {P : Params} {gr : Addr} {new : List UpR} {x : UpR} {p : Addr × Obj} : p ∈ newEnts P gr (new ++ [x]) ↔ p ∈ newEnts P gr new ∨ p = (x.u, instObj 197 x.d) ∨ p = (x.d, upD P x.T (.ref gr) x.i .none) := by
  unfold newEnts
  rw [List.flatMap_append]
  simp
theorem newEnts_fst {P : Params} {gr : Addr} {new : List UpR} {p : Addr × Obj} (h : p ∈ newEnts P gr new) : ∃ r ∈ new, p.1 = r.u ∨ p.1 = r.d := by
  unfold newEnts at h
  obtain ⟨r, hr, h⟩ := List.mem_flatMap.mp h
  simp only [List.mem_cons, List.not_mem_nil, or_false] at h
  rcases h with h | h
  · exact ⟨r, hr, .inl (by rw [h])⟩
  · exact ⟨r, hr, .inr (by rw [h])⟩
theorem newEnts_in {P : Params} {gr : Addr} {new : List UpR} {r : UpR} (hr : r ∈ new) : (r.u, instObj 197 r.d) ∈ newEnts P gr new ∧ (r.d, upD P r.T (.ref gr) r.i .none) ∈ newEnts P gr new := by
  unfold newEnts
  exact ⟨List.mem_flatMap.mpr ⟨r, hr, by simp⟩, List.mem_flatMap.mpr ⟨r, hr, by simp⟩⟩
theorem insert_eq {α : Type} {x : α} : ∀ {l : List α} {k : Nat}, k ≤ l.length → l.insertIdx k x = l.take k ++ x :: l.drop k
  | [], 0, _ => rfl
  | _ :: _, 0, _ => rfl
  | y :: r, k + 1, h => by rw [List.insertIdx_succ_cons, insert_eq (by simpa using h)]; rfl
structure ShSt where
  (ups new : List UpR) (fs : List Addr) (n on : Nat)
/-- what has been found for the first j words -/
structure ShInv (P : Params) (gr : Addr) (rest : Led) (ups : List UpR) (ws : List (Bool × Int)) (ks : List Addr) (bs : Int) (j : Nat) (a : ShSt) : Prop where
  g1 : UpsIn P gr a.ups (newEnts P gr a.new ++ rest)
  g2 : a.ups.Pairwise fun x y => x.i > y.i
  g3 : ∀ r, r ∈ a.ups ↔ r ∈ ups ∨ r ∈ a.new
  g4 : a.fs.length = j
  g4b : ∀ (k : Nat) (w : Bool × Int) (f : Addr), ws[k]? = some w → a.fs[k]? = some f → if w.1 = true then ks[w.2.toNat]? = some f else ∃ r ∈ a.ups, r.i = bs + w.2 ∧ f = r.u
  g5 : ∀ r ∈ a.new, ∃ n, (false, n) ∈ ws ∧ r.i = bs + n
  g6 : ∀ r ∈ a.new, (∀ p ∈ rest, p.1 < r.d) ∧ @LT.lt Nat _ r.d r.u
  g6b : a.new.Pairwise fun x y => @LT.lt Nat _ x.u y.d
  g7 : a.ups.length ≤ ups.length + j
section
variable {P : Params} {gr : Addr} {rest : Led} {ups : List UpR} {ws : List (Bool × Int)} {ks : List Addr} {bs : Int} {i : Nat} {a : ShSt}
theorem ShInv.start {n on : Nat} (hu : UpsIn P gr ups rest) (hso : ups.Pairwise fun x y => x.i > y.i) : ShInv P gr rest ups ws ks bs 0 ⟨ups, [], [], n, on⟩ where
  g1 := hu
  g2 := hso
  g3 := fun r => by simp
  g4 := rfl
  g4b := fun k w f _ h => by simp at h
  g5 := fun r h => by simp at h
  g6 := fun r h => by simp at h
  g6b := .nil
  g7 := Nat.le_refl _
theorem snoc_get {fs : List Addr} {f g : Addr} {k : Nat} (h : (fs ++ [f])[k]? = some g) : fs[k]? = some g ∨ (k = fs.length ∧ g = f) := by
  by_cases hk : k < fs.length
  · rw [List.getElem?_append_left hk] at h; exact .inl h
  · rw [List.getElem?_append_right (by omega)] at h
    have : k - fs.length = 0 := by
      by_cases h0 : k - fs.length = 0
      · exact h0
      · rw [List.getElem?_eq_none (by simp; omega)] at h; cases h
    rw [this] at h
    simp at h
    exact .inr ⟨by omega, h.symm⟩
theorem ShInv.kept {n : Int} {f : Addr} {n' on' : Nat} (H : ShInv P gr rest ups ws ks bs i a) (hw : ws[i]? = some (true, n)) (hf : ks[n.toNat]? = some f) :
    ShInv P gr rest ups ws ks bs (i + 1) ⟨a.ups, a.new, a.fs ++ [f], n', on'⟩ where
  g1 := H.g1
  g2 := H.g2
  g3 := H.g3
  g4 := by simp [H.g4]
  g4b := fun k w g h1 h2 => by
    rcases snoc_get h2 with h | ⟨h, h'⟩
    · exact H.g4b k w g h1 h
    · rw [H.g4] at h; subst h; subst h'; rw [hw] at h1; cases h1; simpa using hf
  g5 := H.g5
  g6 := H.g6
  g6b := H.g6b
  g7 := by have := H.g7; show a.ups.length ≤ _; omega
theorem ShInv.old {n : Int} {r : UpR} {n' on' : Nat} (H : ShInv P gr rest ups ws ks bs i a) (hw : ws[i]? = some (false, n)) (hr : r ∈ a.ups) (hi : r.i = bs + n) :
    ShInv P gr rest ups ws ks bs (i + 1) ⟨a.ups, a.new, a.fs ++ [r.u], n', on'⟩ where
  g1 := H.g1
  g2 := H.g2
  g3 := H.g3
  g4 := by simp [H.g4]
  g4b := fun k w g h1 h2 => by
    rcases snoc_get h2 with h | ⟨h, h'⟩
    · exact H.g4b k w g h1 h
    · rw [H.g4] at h; subst h; subst h'; rw [hw] at h1; cases h1; simpa using ⟨r, hr, hi, rfl⟩
  g5 := H.g5
  g6 := H.g6
  g6b := H.g6b
  g7 := by have := H.g7; show a.ups.length ≤ _; omega
theorem ShInv.new {n : Int} {x : UpR} {k : Nat} {n' on' : Nat} (H : ShInv P gr rest ups ws ks bs i a) (hw : ws[i]? = some (false, n)) (hi : x.i = bs + n) (hk : k ≤ a.ups.length)
    (h1 : ∀ r ∈ a.ups.take k, r.i > bs + n) (h2 : ∀ r, a.ups[k]? = some r → r.i < bs + n) (hfr : ∀ p ∈ newEnts P gr a.new ++ rest, p.1 < x.d) (hdu : @LT.lt Nat _ x.d x.u) :
    ShInv P gr rest ups ws ks bs (i + 1) ⟨a.ups.insertIdx k x, a.new ++ [x], a.fs ++ [x.u], n', on'⟩ := by
  have hm : ∀ r, r ∈ a.ups.insertIdx k x ↔ r ∈ a.ups ∨ r = x := by
    intro r
    rw [insert_eq hk]
    simp only [List.mem_append, List.mem_cons]
    constructor
    · rintro (h | h | h)
      · exact .inl (List.mem_of_mem_take h)
      · exact .inr h
      · exact .inl (List.mem_of_mem_drop h)
    · rintro (h | h)
      · rw [← List.take_append_drop k a.ups] at h
        rcases List.mem_append.mp h with h | h
        · exact .inl h
        · exact .inr (.inr h)
      · exact .inr (.inl h)
  have hdrop : ∀ r ∈ a.ups.drop k, r.i < x.i := by
    intro r hr
    cases hkk : a.ups[k]? with
    | none =>
      have : a.ups.length ≤ k := List.getElem?_eq_none_iff.mp hkk
      rw [List.drop_of_length_le this] at hr
      cases hr
    | some y =>
      have hy := h2 y hkk
      obtain ⟨hl, e⟩ := List.getElem?_eq_some_iff.mp hkk
      rw [List.drop_eq_getElem_cons hl, e] at hr
      have hp := H.g2
      rw [← List.take_append_drop k a.ups, List.drop_eq_getElem_cons hl, e] at hp
      have hp2 := (List.pairwise_append.mp hp).2.1
      rcases List.mem_cons.mp hr with h | h
      · subst h; omega
      · have := (List.pairwise_cons.mp hp2).1 r h; omega
  have sub : ∀ p ∈ newEnts P gr a.new ++ rest, p ∈ newEnts P gr (a.new ++ [x]) ++ rest := fun p hp => by
    rcases List.mem_append.mp hp with h | h
    · exact List.mem_append_left _ (newEnts_snoc.mpr (.inl h))
    · exact List.mem_append_right _ h
  exact {
    g1 := fun r hr => by
      rcases (hm r).mp hr with h | h
      · exact ⟨sub _ (H.g1 r h).1, sub _ (H.g1 r h).2⟩
      · subst h; exact ⟨List.mem_append_left _ (newEnts_in (by simp)).1, List.mem_append_left _ (newEnts_in (by simp)).2⟩
    g2 := by
      show (a.ups.insertIdx k x).Pairwise _
      rw [insert_eq hk]
      have hp := H.g2
      rw [← List.take_append_drop k a.ups] at hp
      obtain ⟨p1, p2, p3⟩ := List.pairwise_append.mp hp
      refine List.pairwise_append.mpr ⟨p1, List.pairwise_cons.mpr ⟨fun r hr => hdrop r hr, p2⟩, fun r hr s hs => ?_⟩
      rcases List.mem_cons.mp hs with h | h
      · subst h; have := h1 r hr; omega
      · exact p3 r hr s h
    g3 := fun r => by
      show r ∈ a.ups.insertIdx k x ↔ r ∈ ups ∨ r ∈ a.new ++ [x]
      rw [hm, H.g3]; simp [or_assoc]
    g4 := by simp [H.g4]
    g4b := fun k' w g e1 e2 => by
      rcases snoc_get e2 with h | ⟨h, h'⟩
      · have := H.g4b k' w g e1 h
        split at this
        · rename_i hw'; rw [if_pos hw']; exact this
        · rename_i hw'; rw [if_neg hw']; obtain ⟨r, q1, q2⟩ := this; exact ⟨r, (hm r).mpr (.inl q1), q2⟩
      · rw [H.g4] at h; subst h; subst h'; rw [hw] at e1; cases e1; simpa using ⟨x, (hm x).mpr (.inr rfl), hi, rfl⟩
    g5 := fun r hr => by
      rcases List.mem_append.mp hr with h | h
      · exact H.g5 r h
      · rw [List.mem_singleton.mp h]; exact ⟨n, List.mem_of_getElem? hw, hi⟩
    g6 := fun r hr => by
      rcases List.mem_append.mp hr with h | h
      · exact H.g6 r h
      · rw [List.mem_singleton.mp h]; exact ⟨fun p hp => hfr p (List.mem_append_right _ hp), hdu⟩
    g6b := by
      refine List.pairwise_append.mpr ⟨H.g6b, List.pairwise_singleton _ _, fun r hr s hs => ?_⟩
      rw [List.mem_singleton.mp hs]
      exact hfr _ (List.mem_append_left _ (newEnts_in hr).1)
    g7 := by
      show (a.ups.insertIdx k x).length ≤ _
      have := H.g7
      rw [List.length_insertIdx, if_pos hk]; omega }
end
-- C10
section
local macro_rules | `(tactic| walk_at "my ups") => `(tactic| (repeat (first | with_reducible assumption | refine UpsIn.cons ?_)))
local macro_rules | `(tactic| walk_at "call ref") => `(tactic| (k_here; (with_reducible show wpAny _ _ (call (Value.ref 227) [Value.ref _, Value.int _ _]) _ _ _); k_dflt (refine' spot_spec ?k1 ?k2 ?k3 ?k4 ?kK ?N ?hgr ?hgd ?hop ?hu ?hlen ?kd ?ku ?_; (case k1 => k_asm); (case k2 => k_asm); (case k3 => k_asm); (case k4 => k_asm); (case kK => first | exact rfl | with_reducible assumption); (case N => k_asm); (case hgr => k_mem); (case hgd => k_mem); (case hop => k_mem); (case hu => walk_at "my ups"); (case hlen => with_reducible assumption); (case kd => ktr_room); (case ku => ktr_units)); intro k9 t9 h9 tk9 F9 N9 hk9 ht9 hg9; (try dsimp only); (try k_fold)))
local macro_rules | `(tactic| walk_at "call ref") => `(tactic| (k_here; (with_reducible show wpAny _ _ (call (Value.ref 234) [Value.ref _, Value.int _ _]) _ _ _); k_dflt (refine' openat_spec ?k1 ?k2 ?k3 ?k4 ?kK ?N ?hgr ?hgd ?hop ?hu ?hlen ?kd ?ku ?r1 ?r2; (case k1 => k_asm); (case k2 => k_asm); (case k3 => k_asm); (case k4 => k_asm); (case kK => first | exact rfl | with_reducible assumption); (case N => k_asm); (case hgr => k_mem); (case hgd => k_mem); (case hop => k_mem); (case hu => walk_at "my ups"); (case hlen => with_reducible assumption); (case kd => ktr_room); (case ku => ktr_units)); all_goals (intro x9 h9 tk9 F9 N9 ha9 hb9; (try dsimp only); (try k_fold))))
local macro_rules | `(tactic| walk_at "call ref") => `(tactic| (k_here; (with_reducible show wpAny _ _ (call (Value.ref 241) [Value.ref _, Value.ref _]) _ _ _); k_dflt (refine' putopen_spec ?k1 ?k2 ?k3 ?k4 ?kK ?N ?U ?hgr ?hgd ?hu ?hlen ?hx ?ex ?kd ?ku ?_; (case k1 => k_asm); (case k2 => k_asm); (case k3 => k_asm); (case k4 => k_asm); (case kK => first | exact rfl | with_reducible assumption); (case N => k_asm); (case hgr => k_mem); (case hgd => k_mem); (case U => k_updF);  (case hu => walk_at "my ups"); (case hlen => with_reducible assumption); (case hx => exact UpsIn.one (by k_mem) (by k_mem)); (case ex => exact rfl); (case kd => ktr_room); (case ku => ktr_units)); intro k9 h9 tk9 F9 N9 ha9 hb9 hc9; (try dsimp only at N9); (try dsimp only); (try k_fold)))
theorem fdiv_word (b : Bool) (n : Int) : (wordI b n).fdiv (2 ^ (23 : Int).toNat) = n := by
  have e : (2 : Int) ^ (23 : Int).toNat = 8388608 := by decide
  rw [e, Int.fdiv_eq_ediv_of_nonneg _ (by decide)]
  unfold wordI
  cases b <;> simp <;> omega
theorem rshift_word {prog : Program} {w : World} {A : Around} {E : Value → Shared → Prop} {s : Shared} {b : Bool} {n : Int} {t u : Tok} {Q : Value → Shared → Prop} (h : Q (.int n s.toks) { s with toks := s.toks + 1 }) :
    wpAny (model prog w) A (binaryOp .RShift (.int (wordI b n) t) (.int 23 u)) Q E s := rshift_int (by decide) (by rw [fdiv_word]; exact h)
local macro_rules | `(tactic| walk_at "binaryOp RShift int int") => `(tactic| (k_here; with_reducible refine rshift_word ?_))
local macro_rules | `(tactic| walk_at "call ref") => `(tactic| (k_here; (with_reducible show wpAny _ _ (call (Value.ref 35) [Value.int _ _]) _ _ _); k_dflt (refine' isk_spec ?k1 ?k2 ?k3 ?k4 ?kK ?N ?h0 ?h3 ?kd ?ku ?_; (case k1 => k_asm); (case k2 => k_asm); (case k3 => k_asm); (case k4 => k_asm); (case kK => first | exact rfl | with_reducible assumption); (case N => k_asm); (case h0 => with_reducible assumption); (case h3 => with_reducible assumption); (case kd => ktr_room); (case ku => ktr_units)); intro h9 tk9 F9 N9; (try dsimp only); (try k_fold)))
local macro_rules | `(tactic| walk_at "call ref") => `(tactic| (k_here; (with_reducible show wpAny _ _ (call (Value.ref 28) [Value.bool _, Value.int _ _]) _ _ _); k_dflt (refine' word_spec ?k1 ?k2 ?k3 ?k4 ?kK ?N ?h0 ?h3 ?kd ?ku ?_; (case k1 => k_asm); (case k2 => k_asm); (case k3 => k_asm); (case k4 => k_asm); (case kK => first | exact rfl | with_reducible assumption); (case N => k_asm); (case h0 => first | with_reducible assumption | decide); (case h3 => first | with_reducible assumption | decide); (case kd => ktr_room); (case ku => ktr_units)); intro t9 h9 tk9 F9 N9; (try dsimp only); (try k_fold)))
local macro_rules | `(tactic| walk_at "call ref") => `(tactic| (k_here; (with_reducible show wpAny _ _ (call (Value.ref 248) [Value.ref _, Value.int _ _]) _ _ _); k_dflt (refine' find_spec ?k1 ?k2 ?k3 ?k4 ?kK ?N ?U ?hgr ?hgd ?hu ?hlen ?kd ?ku ?r1 ?r2; (case k1 => k_asm); (case k2 => k_asm); (case k3 => k_asm); (case k4 => k_asm); (case kK => first | exact rfl | with_reducible assumption); (case N => k_asm); (case hgr => k_mem); (case hgd => k_mem); (case U => k_updF); (case hu => walk_at "my ups"); (case hlen => with_reducible assumption); (case kd => ktr_room); (case ku => ktr_units)); (case' r1 => (intro x9 h9 tk9 F9 N9 ha9 hb9; (try dsimp only at N9); (try dsimp only); (try k_fold))); (case' r2 => (intro x9 k9 h9 tk9 F9 N9 ha9 hb9 hc9 hd9 he9 hf9; (try k_lt hb9); (try k_lt2 hc9); (try dsimp only at N9); (try dsimp only); (try k_fold)))))

theorem word_at {xs : List (Int × Tok)} {ws : List (Bool × Int)} {i : Nat} {y : Int × Tok} (h : xs.map (·.1) = ws.map fun w => wordI w.1 w.2) (hy : xs[i]? = some y) : ∃ b n, ws[i]? = some (b, n) ∧ y.1 = wordI b n := by
  have e : (xs.map (·.1))[i]? = some y.1 := by rw [List.getElem?_map, hy]; rfl
  rw [h, List.getElem?_map] at e
  cases hw : ws[i]? with
  | none => rw [hw] at e; cases e
  | some w => rw [hw] at e; exact ⟨w.1, w.2, rfl, (Option.some.inj e).symm⟩
section
variable {prog : Program} {w : World} {p : Program} {loose : List Str} {mean : ExcName → Option Value} {mg mb : Str → Option Value}
  {dp un : Nat} {gdd : Option (List Code)} {cn : Str} {cs : Scope} {a : Addr} {ccd : Value} {cl : List (Str × Addr)} {outer : List Env} {A₀ : Around} {base h₀ : Heap} {L : Addr} {m : Str → Option Value} {s : Shared} {Q E : Value → Shared → Prop}
  (B : Below A₀ base outer h₀) (F : Fr h₀ L s.heap m) (X : (Mine.hd.heap_39 w.params).In h₀) (T : Top p loose mean mg mb h₀) (hk : cs.kind = .function)
include B F X T hk
set_option maxRecDepth 100000 in
set_option maxHeartbeats 4000000 in
theorem shared_spec0 {rest : Led} {cd kp gr gd stk opn : Addr} {k1 k2 : Tok} {ups : List UpR} {on ccn kn : Nat} {code : List (Int × Tok)} {pc many : Nat} {tp tm tb : Tok} {ks : List Addr} {bs : Int} {ws : List (Bool × Int)}
  (N : News h₀ L s.heap ((opn, refsL UpR.u ups on) :: rest)) (hne : ∀ p ∈ rest, p.1 ≠ opn)
  (hgr : (gr, instObj 216 gd) ∈ rest) (hgd : (gd, gdD w.params k1 k2 stk opn) ∈ rest) (hu : UpsIn w.params gr ups rest) (hlen : ups.length < 500) (hso : ups.Pairwise fun x y => x.i > y.i)
  (hcd : (cd, intsL code ccn) ∈ rest) (hcl : code.length < 100) (hcode : ((code.drop pc).take many).map (·.1) = ws.map fun w => wordI w.1 w.2) (hpc : pc < 100) (hmany : many < 100)
  (hws : ∀ w ∈ ws, 0 ≤ w.2 ∧ w.2 < 3 ∧ (w.1 = true → w.2 < ks.length))
  (hkp : (kp, refsL (fun x : Addr => x) ks kn) ∈ rest) (hkl : ks.length < 100) (hbs : 0 ≤ bs) (hbs' : bs < 1000)
  (hroom : dp + 6 < recursionLimit) (hunits : un + 60 < cLine)
  (ret : ∀ (tup fl : Addr) (a : ShSt) (t : Tok) (tn : Nat) (h' : Heap) (tk' : Nat), Fr h₀ L h' m →
    News h₀ L h' ((tup, { cls := .type "tuple", data := .seq #[.ref fl, .int ((pc : Int) + (many : Int)) t] tn }) :: (fl, refsL (fun x : Addr => x) a.fs a.n) :: (opn, refsL UpR.u a.ups a.on) :: (newEnts w.params gr a.new ++ rest)) →
    ShInv w.params gr rest ups ws ks bs ws.length a → (∀ p ∈ newEnts w.params gr a.new ++ rest, p.1 ≠ opn ∧ p.1 ≠ fl) → @LT.lt Nat _ opn fl → (∀ p ∈ rest, p.1 < fl) → (∀ r ∈ a.new, @LT.lt Nat _ fl r.d) → (∀ p ∈ newEnts w.params gr a.new ++ rest, p.1 < tup) → @LT.lt Nat _ fl tup → @LT.lt Nat _ opn tup → Q (.ref tup) { s with heap := h', toks := tk' }) :
  wpAny (model prog w) (ktrTop dp un gdd cn cs L a ccd cl outer) (call (.ref 42) [.ref cd, .int (pc : Int) tp, .int (many : Int) tm, .ref kp, .ref gr, .int bs tb, .ref 248]) Q E s := by
  w_top off
  k_with_none
  k_with "exec For Name Subscript cons nil" => (refine Halt.of ?_)
  k_steps
  rename_i fl h1 l1 h2 F' N'
  refine Halt.on ?_
  with_unfolding_all refine For_invVF F' rfl rfl ?_
  k_with "pyIter ref" => (refine Halt.of ?_)
  k_steps
  rename_i sl h3 F3 N3 l3
  have ex1 : ((pc : Int)).toNat = pc := by omega
  have ex2 : ((pc : Int) + (many : Int)).toNat - pc = many := by omega
  rw [ex1, ex2] at N3
  have hxl : (List.take many (List.drop pc code)).length ≤ 100 := by simp; omega
  generalize hxs : List.take many (List.drop pc code) = xs at hcode N3 hxl
  obtain ⟨l3a, l3b, l3c⟩ := l3
  obtain ⟨l1a, l1b⟩ := l1
  have r1 := allLt_all l1b
  refine Halt.on ?_
  refine iter_list (σ := ShSt) (a₀ := ⟨ups, [], [], 0, on⟩) (xs := xs) (f := fun x => Value.int x.1 x.2) (l := sl) (n := 0) [Str.ofString "number"] (fun i a => (fl, refsL (fun x : Addr => x) a.fs a.n) :: (opn, refsL UpR.u a.ups a.on) :: (sl, intsL xs 0) :: (newEnts w.params gr a.new ++ rest))
    (fun i a => ShInv w.params gr rest ups ws ks bs i a ∧ ∀ r ∈ a.new, @LT.lt Nat _ sl r.d) rfl (by intro i a; simp) F3 (news_sub N3 (by intro p hp; simp only [List.mem_cons, newEnts, List.flatMap_nil, List.nil_append] at hp ⊢; rcases hp with h | h | h | h <;> simp [h])) ⟨ShInv.start hu hso, by simp⟩ ?turn ?done
  case turn =>
    clear F3 N3
    rintro i ⟨ups', new, fs, fn, on'⟩ ⟨v, t⟩ u ⟨ia, io⟩ h tk hy hil ⟨H, hsl⟩ hit F4 N4
    dsimp only [envOf] at hit F4 N4 hsl
    obtain ⟨b, n, hw, rfl⟩ := word_at hcode hy
    obtain ⟨hn0, hn3, hnk⟩ := hws _ (List.mem_of_getElem? hw)
    dsimp only at hn0 hn3 hnk
    have hR : ∀ p ∈ newEnts w.params gr new ++ rest, p.1 ≠ opn ∧ p.1 ≠ fl := by
      intro p hp
      rcases List.mem_append.mp hp with h | h
      · obtain ⟨r, hr, e⟩ := newEnts_fst h
        have e1 := hsl r hr
        have e2 := (H.g6 r hr).2
        rcases e with e | e <;> rw [e] <;> constructor <;> refine neN ?_ <;> omega
      · exact ⟨hne p h, Nat.ne_of_lt (r1 p h)⟩
    have rR : ∀ p ∈ rest, p ∈ newEnts w.params gr new ++ rest := fun p hp => List.mem_append_right _ hp
    have g1 := H.g1
    have q1 := rR _ hgr
    have q2 := rR _ hgd
    have q3 := rR _ hkp
    have q4 : @Ne Nat fl ia := hit _ List.mem_cons_self
    have q5 : @Ne Nat opn ia := hit _ (List.mem_cons_of_mem _ List.mem_cons_self)
    have q6 : ups'.length < 1000 := by have := H.g7; dsimp only at this; omega
    have q7 : fs.length < 2000 := by have := H.g4; dsimp only at this; omega
    dsimp only at g1
    have hR1 : ∀ p ∈ newEnts w.params gr new ++ rest, p.1 ≠ opn := fun p hp => (hR p hp).1
    have hR2 : ∀ p ∈ newEnts w.params gr new ++ rest, p.1 ≠ fl := fun p hp => (hR p hp).2
    generalize hRR : newEnts w.params gr new ++ rest = R at N4 g1 q1 q2 q3 hR1 hR2
    have q8 : @Ne Nat sl ia := hit _ (List.mem_cons_of_mem _ (List.mem_cons_of_mem _ List.mem_cons_self))
    have hRia : ∀ p ∈ R, p.1 ≠ ia := fun p hp => hit _ (List.mem_cons_of_mem _ (List.mem_cons_of_mem _ (List.mem_cons_of_mem _ (hRR ▸ hp))))
    clear hit
    cases b with
    | true =>
      have hnk' : n < ks.length := hnk rfl
      (try k_fold)
      k_steps
      rename ks[n.toNat]? = some _ => hf
      rename News _ _ _ _ => N9
      refine FLPost.intro ⟨ups', new, fs ++ [_], fn + 1, on'⟩ (by assumption) N9 ?_ ?_ ?_ ⟨H.kept hw hf, hsl⟩
      · dsimp only; rw [hRR]; exact fun p hp => hp
      · dsimp only; rw [hRR]; intro p hp; simp only [List.mem_cons] at hp; rcases hp with h | h | h | h
        · rw [h]; exact q4
        · rw [h]; exact q5
        · rw [h]; exact q8
        · exact hRia p h
      · intro z h1 h2; simp at h2; simp [h1, h2]
    | false =>
      (try k_fold)
      k_steps
      case _ =>
        rename UpR => x9
        rename News _ _ _ _ => N9
        rename _ ≤ ups'.length => hk9
        obtain ⟨b1, b2, b3, b4, b5⟩ : ia < x9.d ∧ fl < x9.d ∧ opn < x9.d ∧ sl < x9.d ∧ AllLt x9.d R := by assumption
        have hdu : @LT.lt Nat _ x9.d x9.u := by assumption
        refine FLPost.intro ⟨ups'.insertIdx _ x9, new ++ [x9], fs ++ [x9.u], fn + 1, on' + 1⟩ (by assumption) N9 ?_ ?_ ?_ ⟨H.new hw (by assumption) hk9 (by assumption) (by assumption) (fun p hp => allLt_all b5 p (hRR ▸ hp)) hdu, ?_⟩
        · dsimp only
          intro p hp
          rw [← hRR]
          simp only [List.mem_cons, List.mem_append, newEnts_snoc] at hp ⊢
          rcases hp with h | h | h | h | (h | h | h) | h <;> simp [h]
        · dsimp only
          intro p hp
          simp only [List.mem_cons, List.mem_append, newEnts_snoc] at hp
          rcases hp with h | h | h | (h | h | h) | h
          · rw [h]; exact q4
          · rw [h]; exact q5
          · rw [h]; exact q8
          · exact hRia p (hRR ▸ List.mem_append_left _ h)
          · rw [h]; refine neN ?_; dsimp only; omega
          · rw [h]; refine neN ?_; dsimp only; omega
          · exact hRia p (hRR ▸ List.mem_append_right _ h)
        · intro z h1 h2; simp at h2; simp [h1, h2]
        · intro r hr
          rcases List.mem_append.mp hr with h | h
          · exact hsl r h
          · rw [List.mem_singleton.mp h]; exact b4
      case _ =>
        rename UpR => x9
        rename News _ _ _ _ => N9
        refine FLPost.intro ⟨ups', new, fs ++ [x9.u], fn + 1, on'⟩ (by assumption) N9 ?_ ?_ ?_ ⟨H.old hw (by assumption) (by assumption), hsl⟩
        · dsimp only; rw [hRR]; exact fun p hp => hp
        · dsimp only; rw [hRR]; intro p hp; simp only [List.mem_cons] at hp; rcases hp with h | h | h | h
          · rw [h]; exact q4
          · rw [h]; exact q5
          · rw [h]; exact q8
          · exact hRia p h
        · intro z h1 h2; simp at h2; simp [h1, h2]
  case done =>
    clear F3 N3
    rintro a u h tk ⟨H, hsl⟩ F4 N4
    dsimp only [envOf] at F4 N4
    (try k_fold)
    k_steps
    rename News h₀ L _ _ => kN
    rename _ < _ ∧ _ < _ ∧ _ < _ ∧ AllLt _ (newEnts w.params gr a.new ++ rest) => lT
    have e9 : xs.length = ws.length := by have := congrArg List.length hcode; simpa using this
    rw [e9] at H
    refine ret _ fl a tk 0 _ _ (by assumption) (news_sub kN ?_) H ?_ l1a r1 (fun r hr => Nat.lt_trans l3a (hsl r hr)) (allLt_all lT.2.2.2) lT.1 lT.2.1
    · intro p hp
      simp only [List.mem_cons] at hp ⊢
      rcases hp with h | h | h | h <;> simp [h]
    · intro p hp
      rcases List.mem_append.mp hp with h | h
      · obtain ⟨r, hr, e⟩ := newEnts_fst h
        have e1 := hsl r hr
        have e2 := (H.g6 r hr).2
        rcases e with e | e <;> rw [e] <;> constructor <;> refine neN ?_ <;> omega
      · exact ⟨hne p h, Nat.ne_of_lt (r1 p h)⟩
end
end
-- W5
section
open PySem PySem.W PyProof.Rows PySem.Spec
section
variable {prog : Program} {w : World} {A : Around} {h₀ : Heap} {L : Addr} {m : Str → Option Value} {env : Env} {elt : Expr} {x : Str} {scope : Scope} {cl : List (Str × Addr)} {s : Shared} {S : Led → Prop} {P : Nat → Value → Prop} {Fin : List Value → Led → Prop} {σ : Type}
theorem comp_state {n : Nat} {a₀ : σ} (led : Nat → σ → Led) (Iv : Nat → σ → List Value → Prop) (hi : Iv 0 a₀ [])
    (turn : ∀ i a v I oI C oC D m₂ ys h tk (E' : Value → Shared → Prop), i < n → P i v → Iv i a ys → LCg.NsObj oC m₂ → m₂ x = some v → Fr h₀ L h m → News h₀ L h ((I, oI) :: (C, oC) :: (D, LCg.lst ys) :: led i a) → LCg.Off3 I C D (led i a) → ((@Ne Nat I C) ∧ (@Ne Nat I D) ∧ (@Ne Nat C D)) →
      wpAny (model prog w) A (eval elt (compEnvC scope cl C env)) (LCg.CompEnd h₀ L m { s with heap := h, toks := tk } I oI C oC D (LCg.lst ys) S (fun y news' => ∃ a', news' = led (i + 1) a' ∧ Iv (i + 1) a' (ys ++ [y]))) E' { s with heap := h, toks := tk })
    (fin : ∀ a ys, Iv n a ys → Fin ys (led n a)) : LCg.CompRest prog w A h₀ L m env elt x scope cl s S P Fin n 0 [] (led 0 a₀) := by
  have key : ∀ (j i : Nat) (a : σ) (ys : List Value), i + j = n → Iv i a ys → LCg.CompRest prog w A h₀ L m env elt x scope cl s S P Fin j i ys (led i a) := by
    intro j
    induction j with
    | zero =>
      intro i a ys hi hy
      obtain rfl : i = n := by omega
      exact LCg.CompRest.zero (fin a ys hy)
    | succ j ih =>
      intro i a ys hi hy
      refine LCg.CompRest.succ ?_
      intro v I oI C oC D m₂ h tk E' hv hC hx F N off ne
      refine wpAny_mono (turn i a v I oI C oC D m₂ ys h tk E' (by omega) hv hy hC hx F N off ne) (fun y s₂ hq => ?_) fun _ _ e => e
      obtain ⟨h', tk', nw, e, F', N', off', hS, a', rfl, hi'⟩ := hq
      exact ⟨h', tk', _, e, F', N', off', hS, ih (i + 1) a' _ (by omega) hi'⟩
  exact key n 0 a₀ [] (by omega) hi
end
theorem off3_of {I C D : Addr} {l : Led} (h : ∀ p ∈ l, p.1 ≠ I ∧ p.1 ≠ C ∧ p.1 ≠ D) : LCg.Off3 I C D l := LCg.Off3.of h
local macro_rules | `(tactic| walk_at "exec Assign cons ListComp") => `(tactic| (refine Halt.of ?_))
local macro_rules | `(tactic| walk_at "eval ListComp") => `(tactic| (refine Halt.of ?_))
local macro_rules | `(tactic| walk_at "CompSrc") => `(tactic| (refine Halt.of ?_))
local macro_rules | `(tactic| walk_at "CompEnd") => `(tactic| (refine Halt.of ?_))
end
local macro_rules | `(tactic| walk_at "exec Assign cons ListComp") => `(tactic| (refine Halt.of ?_))
local macro_rules | `(tactic| walk_at "eval ListComp") => `(tactic| (refine Halt.of ?_))
local macro_rules | `(tactic| walk_at "CompSrc") => `(tactic| (refine Halt.of ?_))
local macro_rules | `(tactic| walk_at "CompEnd") => `(tactic| (refine Halt.of ?_))
-- P2
structure CellR where
  (a : Addr) (v id : Int) (tv ti : Tok)
abbrev CellR.ent (r : CellR) : Addr × Obj := (r.a, listOf #[.int r.v r.tv, .int r.id r.ti] 0)
structure CellSt where
  (cs : List CellR) (o : Obj) (tm : Tok)
structure CellIv (prog : Program) (w : World) (gr fns frs wd : Addr) (made first : Int) (R : Led) (i : Nat) (a : CellSt) (ys : List Value) : Prop where
  c1 : a.cs.length = i
  c2 : ys = a.cs.map fun r => Value.ref r.a
  c3 : ∀ (j : Nat) r, a.cs[j]? = some r → r.v = first + j ∧ r.id = made + j + 1
  c4 : a.cs.Pairwise fun x y => @LT.lt Nat _ x.a y.a
  c5 : ∀ r ∈ a.cs, @LT.lt Nat _ wd r.a ∧ ∀ p ∈ R, @LT.lt Nat _ p.1 r.a
  c6 : a.o.IsDictOf (strKind prog w) (wkv gr fns frs (made + i) a.tm)
section
variable {prog : Program} {w : World} {gr fns frs wd : Addr} {made first : Int} {R : Led} {i : Nat} {a : CellSt} {ys : List Value}
theorem CellIv.start {o : Obj} {tm : Tok} (h : o.IsDictOf (strKind prog w) (wkv gr fns frs made tm)) : CellIv prog w gr fns frs wd made first R 0 ⟨[], o, tm⟩ [] where
  c1 := rfl
  c2 := rfl
  c3 := fun j r h => by simp at h
  c4 := .nil
  c5 := fun r h => by simp at h
  c6 := by simpa using h
theorem CellIv.step {x : Addr} {v : Int} {tv ti : Tok} {o' : Obj} {tm' : Tok} {I C D : Addr × Obj} (H : CellIv prog w gr fns frs wd made first R i a ys) (hv : v = first + i)
    (hl : ∀ p ∈ I :: C :: D :: (wd, a.o) :: (a.cs.map CellR.ent ++ R), @LT.lt Nat _ p.1 x) (hd : o'.IsDictOf (strKind prog w) (wkv gr fns frs (made + i + 1) tm')) :
    CellIv prog w gr fns frs wd made first R (i + 1) ⟨a.cs ++ [⟨x, v, made + i + 1, tv, ti⟩], o', tm'⟩ (ys ++ [.ref x]) where
  c1 := by simp [H.c1]
  c2 := by simp [H.c2]
  c3 := fun j r h => by
    by_cases hj : j < a.cs.length
    · dsimp only at h; rw [List.getElem?_append_left hj] at h; exact H.c3 j r h
    · dsimp only at h
      rw [List.getElem?_append_right (by omega)] at h
      have hz : j - a.cs.length = 0 := by
        by_cases h0 : j - a.cs.length = 0
        · exact h0
        · rw [List.getElem?_eq_none (by simp; omega)] at h; cases h
      rw [hz] at h
      simp at h
      have h1 := H.c1
      have hji : j = i := by omega
      subst h; subst hji; exact ⟨hv, rfl⟩
  c4 := by
    refine List.pairwise_append.mpr ⟨H.c4, List.pairwise_singleton _ _, fun r hr s hs => ?_⟩
    rw [List.mem_singleton.mp hs]
    exact hl r.ent (by simp only [List.mem_cons, List.mem_append]; right; right; right; right; left; exact List.mem_map.mpr ⟨r, hr, rfl⟩)
  c5 := fun r hr => by
    rcases List.mem_append.mp hr with h | h
    · exact H.c5 r h
    · rw [List.mem_singleton.mp h]
      exact ⟨hl (wd, a.o) (by simp), fun p hp => hl p (by simp only [List.mem_cons, List.mem_append]; right; right; right; right; right; exact hp)⟩
  c6 := by
    have e : made + ((i + 1 : Nat) : Int) = made + i + 1 := by omega
    rw [e]; exact hd
end
theorem allLt_iff {d : Addr} {l : Led} : AllLt d l ↔ ∀ p ∈ l, @LT.lt Nat _ p.1 d := ⟨fun h => allLt_all h, fun h => allLt_of h⟩
theorem news_focus {h₀ h : Heap} {L d : Addr} {o : Obj} {news : Led} {g : Obj → Led} (N : News h₀ L h news) (U : UpdF d o news g) : ∃ rest : Led, News h₀ L h ((d, o) :: rest) ∧ (∀ p ∈ rest, p.1 ≠ d) ∧ (∀ p ∈ news, p = (d, o) ∨ p ∈ rest) ∧ (∀ p ∈ rest, p ∈ news) := by
  obtain ⟨rest, r1, r2, r3, r4⟩ := updF_rest U
  exact ⟨rest, news_sub N r3, r1, r2, fun p hp => r3 p (List.mem_cons_of_mem _ hp)⟩
theorem in_rest {d a : Addr} {o x : Obj} {news rest : Led} (h2 : ∀ p ∈ news, p = (d, o) ∨ p ∈ rest) (hm : (a, x) ∈ news) (hne : @Ne Nat a d) : (a, x) ∈ rest := by
  rcases h2 _ hm with h | h
  · exact absurd (congrArg Prod.fst h) hne
  · exact h
theorem in_restD {d a : Addr} {o x : Obj} {v : Data} {news rest : Led} (hd : x.data = v) (h2 : ∀ p ∈ news, p = (d, o) ∨ p ∈ rest) (hm : (a, x) ∈ news) (hne : @Ne Nat a d) : (a, x) ∈ rest := in_rest h2 hm hne
-- P3
section
open PySem PySem.W PyProof.Rows PySem.Spec
theorem updF_mem {d : Addr} {o : Obj} {news : Led} {g : Obj → Led} (U : UpdF d o news g) : ∃ rest : Led, (∀ p ∈ rest, p.1 ≠ d) ∧ (∀ p ∈ news, p = (d, o) ∨ p ∈ rest) ∧ (∀ p ∈ (d, o) :: rest, p ∈ news) ∧ (∀ o', ∀ p ∈ g o', p ∈ (d, o') :: rest) ∧ ∀ o', ∀ p ∈ (d, o') :: rest, p ∈ g o' := by
  obtain ⟨pre, post, rfl, hg, a, b⟩ := U.split
  refine ⟨pre ++ post, fun p hp => ?_, fun p hp => ?_, fun p hp => ?_, fun o' p hp => ?_, fun o' p hp => ?_⟩
  · rcases List.mem_append.mp hp with h | h
    · exact a p h
    · exact b p h
  · rcases List.mem_append.mp hp with h | h
    · exact .inr (List.mem_append_left _ h)
    · rcases List.mem_cons.mp h with h | h
      · exact .inl h
      · exact .inr (List.mem_append_right _ h)
  · rcases List.mem_cons.mp hp with h | h
    · subst h; exact List.mem_append_right _ List.mem_cons_self
    · rcases List.mem_append.mp h with h | h
      · exact List.mem_append_left _ h
      · exact List.mem_append_right _ (List.mem_cons_of_mem _ h)
  · rw [hg] at hp
    rcases List.mem_append.mp hp with h | h
    · exact List.mem_cons_of_mem _ (List.mem_append_left _ h)
    · rcases List.mem_cons.mp h with h | h
      · subst h; exact List.mem_cons_self
      · exact List.mem_cons_of_mem _ (List.mem_append_right _ h)
  · rw [hg]
    rcases List.mem_cons.mp hp with h | h
    · subst h; exact List.mem_append_right _ List.mem_cons_self
    · rcases List.mem_append.mp h with h | h
      · exact List.mem_append_left _ h
      · exact List.mem_append_right _ (List.mem_cons_of_mem _ h)
def CellEnd (prog : Program) (w : World) (h₀ : Heap) (L : Addr) (m : Str → Option Value) (s : Shared) (gr fns frs wd : Addr) (made first : Int) (i : Nat) (base : Led) (R2 : Led) (y : Value) (s₂ : Shared) : Prop :=
  ∃ x h' tk' o' tm' tv ti, y = .ref x ∧ s₂ = { s with heap := h', toks := tk' } ∧ Fr h₀ L h' m ∧ News h₀ L h' ((x, listOf #[.int (first + i) tv, .int (made + i + 1) ti] 0) :: (base ++ (wd, o') :: R2)) ∧
    (∀ p ∈ base ++ (wd, o') :: R2, @LT.lt Nat _ p.1 x) ∧ o'.IsDictOf (strKind prog w) (wkv gr fns frs (made + i + 1) tm')
theorem CellEnd.intro {prog : Program} {w : World} {h₀ h' : Heap} {L : Addr} {m : Str → Option Value} {s : Shared} {gr fns frs wd x : Addr} {made first v id : Int} {i : Nat} {base R2 : Led} {o' : Obj} {tv ti tm' : Tok} {tk' : Nat}
    (N : News h₀ L h' ((x, listOf #[.int v tv, .int id ti] 0) :: (base ++ (wd, o') :: R2))) (F : Fr h₀ L h' m) (hl : AllLt x (base ++ (wd, o') :: R2)) (hd : o'.IsDictOf (strKind prog w) (wkv gr fns frs id tm')) (hv : v = first + i) (hid : id = made + i + 1) :
    CellEnd prog w h₀ L m s gr fns frs wd made first i base R2 (.ref x) { s with heap := h', toks := tk' } := by
  subst hv; subst hid; exact ⟨x, h', tk', o', tm', tv, ti, rfl, rfl, F, N, allLt_all hl, hd⟩
structure CsSt where
  (cs : List CellR) (o : Obj) (tm : Tok) (R : Led)
theorem cells_src {prog : Program} {w : World} {A : Around} {h₀ : Heap} {L : Addr} {m : Str → Option Value} {env : Env} {elt : Expr} {scope : Scope} {cl : List (Str × Addr)} {s₁ : Shared} {y : Str} {Q : Flow → Shared → Prop}
    {news : Led} {g : Obj → Led} {wd gr fns frs r : Addr} {owd : Obj} {made first : Int} {tm t u v : Tok}
    (hh : A.handled = none) (F : Fr h₀ L s₁.heap m) (N : News h₀ L s₁.heap news) (U : UpdF wd owd news g) (hr : IsRange s₁.heap r 0 3 1 t u v) (hd : owd.IsDictOf (strKind prog w) (wkv gr fns frs made tm))
    (turn : ∀ (i : Nat) (R2 : Led) (I C D : Addr) (oI oC oD : Obj) (m₂ : Str → Option Value) (h : Heap) (tk : Nat) (tv : Tok) (o : Obj) (tm' : Tok) (E' : Value → Shared → Prop), i < 3 → (∀ p ∈ news, p.1 ≠ wd → p ∈ R2) → (∀ p ∈ R2, p.1 ≠ wd) →
      LCg.NsObj oC m₂ → m₂ (Str.ofString "at") = some (.int (0 + (i : Int)) tv) → Fr h₀ L h m → News h₀ L h ((I, oI) :: (C, oC) :: (D, oD) :: (wd, o) :: R2) → @Ne Nat wd I → @Ne Nat wd C → @Ne Nat wd D → @Ne Nat I C → @Ne Nat I D → @Ne Nat C D →
      o.IsDictOf (strKind prog w) (wkv gr fns frs (made + i) tm') →
      wpAny (model prog w) A (eval elt (compEnvC scope cl C env)) (CellEnd prog w h₀ L m s₁ gr fns frs wd made first i [(I, oI), (C, oC), (D, oD)] R2) E' { s₁ with heap := h, toks := tk })
    (fin : ∀ (x0 x1 x2 D : Addr) (a0 a1 a2 b0 b1 b2 tm' : Tok) (o : Obj) (h : Heap) (tk : Nat), Fr h₀ L h (fun z => if z = y then some (.ref D) else m z) →
      News h₀ L h ((D, listOf #[.ref x0, .ref x1, .ref x2] 3) :: (x0, listOf #[.int first a0, .int (made + 1) b0] 0) :: (x1, listOf #[.int (first + 1) a1, .int (made + 2) b1] 0) :: (x2, listOf #[.int (first + 2) a2, .int (made + 3) b2] 0) :: g o) →
      (∀ p ∈ news, @LT.lt Nat _ p.1 x0) → @LT.lt Nat _ x0 x1 → @LT.lt Nat _ x1 x2 → (∀ p ∈ news, p.1 ≠ D) → @Ne Nat x0 D → @Ne Nat x1 D → @Ne Nat x2 D → o.IsDictOf (strKind prog w) (wkv gr fns frs (made + 3) tm') → Q .next { s₁ with heap := h, toks := tk }) :
    LCg.CompSrc prog w A h₀ L m env elt (Str.ofString "at") scope cl (fun s₂ => LCg.FinA h₀ L m s₂ y Q) (.ref r) s₁ := by
  obtain ⟨rest, r1, r2, r3, r4, r5⟩ := updF_mem U
  refine LCg.CompSrc.range hh F (news_sub N r3) hr (by decide) (n := 3) (by rfl) (by rw [sizeLine_eq]; decide) fun gg => ?_
  refine comp_state (σ := CellSt) (a₀ := ⟨[], owd, tm⟩) (fun i a => (wd, a.o) :: (a.cs.map CellR.ent ++ rest)) (fun i a ys => CellIv prog w gr fns frs wd made first rest i a ys) (CellIv.start hd) ?_ ?_
  · rintro i ⟨cs, o, tm'⟩ v I oI C oC D m₂ ys h tk E' hi ⟨tv, rfl⟩ hy hC hx F N off ne
    dsimp only at F N off
    have hoff := off.mem
    have q0 := hoff (wd, o) List.mem_cons_self
    have rW : ∀ p ∈ cs.map CellR.ent ++ rest, p.1 ≠ wd := by
      intro p hp
      rcases List.mem_append.mp hp with h | h
      · obtain ⟨r, hr, rfl⟩ := List.mem_map.mp h
        exact (Nat.ne_of_lt (hy.c5 r hr).1).symm
      · exact r1 p h
    refine wpAny_mono (turn i (cs.map CellR.ent ++ rest) I C D oI oC (LCg.lst ys) m₂ h tk tv o tm' E' hi (fun p hp hne => ?_) rW hC hx F N q0.1 q0.2.1 q0.2.2 ne.1 ne.2.1 ne.2.2 hy.c6) (fun y s₂ hq => ?_) fun _ _ e => e
    · rcases r2 p hp with h | h
      · exact absurd (congrArg Prod.fst h) hne
      · exact List.mem_append_right _ h
    · obtain ⟨x, h', tk', o', tm'', tv', ti, rfl, rfl, F', N', hl, hd'⟩ := hq
      refine LCg.CompEnd.intro F' N' ((wd, o') :: ((cs ++ [(⟨x, first + i, made + i + 1, tv', ti⟩ : CellR)]).map CellR.ent ++ rest)) ?_ (LCg.Off3.of ?_) trivial ⟨⟨cs ++ [⟨x, first + i, made + i + 1, tv', ti⟩], o', tm''⟩, rfl, hy.step (I := (I, oI)) (C := (C, oC)) (D := (D, LCg.lst ys)) rfl ?_ hd'⟩
      · intro p hp
        simp only [List.map_append, List.map_cons, List.map_nil, List.mem_cons, List.mem_append, List.not_mem_nil, or_false, List.cons_append, List.nil_append] at hp ⊢
        rcases hp with h | h | h | h | (h | h) | h <;> simp [h]
      · intro p hp
        simp only [List.map_append, List.map_cons, List.map_nil, List.mem_cons, List.mem_append, List.not_mem_nil, or_false] at hp
        rcases hp with h | (h | h) | h
        · rw [h]; exact hoff (wd, o) (by simp)
        · exact hoff p (by simp only [List.mem_cons, List.mem_append]; exact .inr (.inl h))
        · rw [h]; exact ⟨Nat.ne_of_gt (hl (I, oI) (by simp)), Nat.ne_of_gt (hl (C, oC) (by simp)), Nat.ne_of_gt (hl (D, LCg.lst ys) (by simp))⟩
        · exact hoff p (by simp only [List.mem_cons, List.mem_append]; exact .inr (.inr h))
      · intro p hp
        simp only [List.mem_cons] at hp
        rcases hp with h | h | h | h | h
        · rw [h]; exact hl (I, oI) (by simp)
        · rw [h]; exact hl (C, oC) (by simp)
        · rw [h]; exact hl (D, LCg.lst ys) (by simp)
        · rw [h]; exact hl (wd, o') (by simp)
        · exact hl p (by simp only [List.mem_cons, List.mem_append, List.cons_append, List.nil_append]; exact .inr (.inr (.inr (.inr (List.mem_append.mp h)))))
  · rintro ⟨cs, o, tm'⟩ ys H D h tk F' N' off
    dsimp only at N' off
    have hlen := H.c1
    dsimp only at hlen
    obtain ⟨c0, c1, c2, rfl⟩ : ∃ c0 c1 c2, cs = [c0, c1, c2] := by
      match cs, hlen with
      | [a, b, c], _ => exact ⟨a, b, c, rfl⟩
    have k0 := H.c3 0 c0 rfl
    have k1 := H.c3 1 c1 rfl
    have k2 := H.c3 2 c2 rfl
    have hp := H.c4
    dsimp only at hp
    have hys := H.c2
    dsimp only at hys
    subst hys
    obtain ⟨x0, v0, i0, a0, b0⟩ := c0
    obtain ⟨x1, v1, i1, a1, b1⟩ := c1
    obtain ⟨x2, v2, i2, a2, b2⟩ := c2
    obtain ⟨rfl, rfl⟩ := k0
    obtain ⟨rfl, rfl⟩ := k1
    obtain ⟨rfl, rfl⟩ := k2
    have h01 : @LT.lt Nat _ x0 x1 := (List.pairwise_cons.mp hp).1 _ List.mem_cons_self
    have h12 : @LT.lt Nat _ x1 x2 := (List.pairwise_cons.mp (List.pairwise_cons.mp hp).2).1 _ List.mem_cons_self
    have h5 := H.c5 _ List.mem_cons_self
    have offm : ∀ p ∈ (wd, o) :: ([(x0, _), (x1, _), (x2, _)] ++ rest), @Ne Nat p.1 D := fun p hp => by
      have key : ∀ {l : Led}, LCg.Off1 D l → ∀ p ∈ l, @Ne Nat p.1 D := by
        intro l
        induction l with
        | nil => intro _ p hp; cases hp
        | cons a t ih =>
          intro ho p hp
          rcases List.mem_cons.mp hp with h | h
          · rw [h]; exact ho.1
          · exact ih ho.2 p h
      exact key off p hp
    have e1 : made + ((0 : Nat) : Int) + 1 = made + 1 := by omega
    have e2 : made + ((1 : Nat) : Int) + 1 = made + 2 := by omega
    have e3 : made + ((2 : Nat) : Int) + 1 = made + 3 := by omega
    have e4 : first + ((0 : Nat) : Int) = first := by omega
    have e5 : first + ((1 : Nat) : Int) = first + 1 := rfl
    have e6 : first + ((2 : Nat) : Int) = first + 2 := rfl
    rw [e1, e2, e3, e4, e5, e6] at N'
    refine fin x0 x1 x2 D a0 a1 a2 b0 b1 b2 tm' o h tk F' (news_sub N' fun p hp => ?_) (fun p hp => ?_) h01 h12 (fun p hp => ?_) (offm _ (List.mem_cons_of_mem _ (List.mem_append_left _ List.mem_cons_self))) (offm _ (List.mem_cons_of_mem _ (List.mem_append_left _ (List.mem_cons_of_mem _ List.mem_cons_self)))) (offm _ (List.mem_cons_of_mem _ (List.mem_append_left _ (List.mem_cons_of_mem _ (List.mem_cons_of_mem _ List.mem_cons_self))))) H.c6
    · simp only [List.mem_cons] at hp
      simp only [List.map_cons, List.map_nil, List.mem_cons, List.mem_append, List.not_mem_nil, or_false]
      rcases hp with h | h | h | h | h
      · exact .inl h
      · exact .inr (.inr (.inl (.inl h)))
      · exact .inr (.inr (.inl (.inr (.inl h))))
      · exact .inr (.inr (.inl (.inr (.inr h))))
      · rcases List.mem_cons.mp (r4 o p h) with h | h
        · exact .inr (.inl h)
        · exact .inr (.inr (.inr h))
    · rcases r2 p hp with h | h
      · rw [h]; exact h5.1
      · exact h5.2 p h
    · rcases r2 p hp with h | h
      · rw [h]; exact offm (wd, o) (by simp)
      · exact offm p (by simp [h])
end
-- E0
local macro_rules | `(tactic| walk_at "call ref") => `(tactic| (k_here; (with_reducible show wpAny _ _ (call (Value.ref 267) [Value.ref _, Value.int _ _]) _ _ _); k_dflt (refine' draw_spec ?k1 ?k2 ?k3 ?k4 ?kK ?N ?U ?hb ?hg ?hne ?hm ?hm2 ?kd ?ku ?_; (case k1 => k_asm); (case k2 => k_asm); (case k3 => k_asm); (case k4 => k_asm); (case kK => first | exact rfl | with_reducible assumption); (case N => k_asm); (case U => k_updF); (case hb => with_reducible assumption); (case hg => walk_at "my given"); (case hne => first | with_reducible assumption | (refine neN ?_; omega)); (case hm => first | with_reducible assumption | omega | l_fact); (case hm2 => first | with_reducible assumption | omega | l_fact); (case kd => ktr_room); (case ku => ktr_units)); intro r9 t9 o9 h9 tk9 F9 N9 ho9 hr9 hq9; (try dsimp only at N9); (try dsimp only); (try k_fold)))
local macro_rules | `(tactic| walk_at "call ref") => `(tactic| (k_here; (with_reducible show wpAny _ _ (call (Value.ref 274) [Value.ref _, Value.int _ _]) _ _ _); k_dflt (refine' cell_spec ?k1 ?k2 ?k3 ?k4 ?kK ?N ?U ?hd ?hm ?hm2 ?kd ?ku ?_; (case k1 => k_asm); (case k2 => k_asm); (case k3 => k_asm); (case k4 => k_asm); (case kK => first | exact rfl | with_reducible assumption); (case N => k_asm); (case U => k_updF); (case hd => with_reducible assumption); (case hm => omega); (case hm2 => omega); (case kd => ktr_room); (case ku => ktr_units)); intro x9 o9 t9 h9 tk9 F9 N9 l9 hd9; (try k_lt l9); (try dsimp only at N9); (try dsimp only); (try k_fold)))
abbrev tupO (xs : List Value) (n : Nat) : Obj := { cls := .type "tuple", data := .seq xs.toArray n }
structure FnA where
  (tup clo cd ul cl pr : Addr) (ct : CT) (sz : Int) (tn : Nat)
def FnsIn (P : Params) (fns : List FnA) (rest : Led) : Prop := ∀ f ∈ fns, (f.tup, tupO [.ref f.clo, .ref f.cl] f.tn) ∈ rest ∧ (f.clo, instObj 109 f.cd) ∈ rest ∧ (f.cd, cloD P f.ct f.sz f.pr f.ul) ∈ rest
theorem FnsIn.tup {P : Params} {fns : List FnA} {rest : Led} {f : FnA} (h : FnsIn P fns rest) (hf : f ∈ fns) : (f.tup, tupO [.ref f.clo, .ref f.cl] f.tn) ∈ rest := (h f hf).1
theorem FnsIn.clo {P : Params} {fns : List FnA} {rest : Led} {f : FnA} (h : FnsIn P fns rest) (hf : f ∈ fns) : (f.clo, instObj 109 f.cd) ∈ rest := (h f hf).2.1
theorem FnsIn.cd {P : Params} {fns : List FnA} {rest : Led} {f : FnA} (h : FnsIn P fns rest) (hf : f ∈ fns) : (f.cd, cloD P f.ct f.sz f.pr f.ul) ∈ rest := (h f hf).2.2
local macro_rules | `(tactic| walk_at "my fact") => `(tactic| with_reducible exact FnsIn.tup (by with_reducible assumption) (by with_reducible assumption))
local macro_rules | `(tactic| walk_at "my fact") => `(tactic| with_reducible exact FnsIn.clo (by with_reducible assumption) (by with_reducible assumption))
local macro_rules | `(tactic| walk_at "my fact") => `(tactic| with_reducible exact FnsIn.cd (by with_reducible assumption) (by with_reducible assumption))
local macro_rules | `(tactic| walk_at "subscriptTail Subscript") => `(tactic| (k_here; (with_reducible show wpAny _ _ (subscriptTail _ _ (Value.ref _) (Value.int _ _)) _ _ _); (with_unfolding_all refine' item_tupleT ?t ?a ?b ?c ?d ?_; (case t => exact News.isTup (by k_asm) (by k_mem)); (case a => decide); (case b => decide); (case c => rfl); (case d => rfl)); (try dsimp only)))
theorem extend_ints3 {prog : Program} {w : World} {A : Around} {E : Value → Shared → Prop} {s : Shared} {h₀ : Heap} {L D b : Addr} {m : Str → Option Value} {news news' : Led} {xs : List (Int × Tok)} {n n2 : Nat} {i1 i2 i3 : Int} {t1 t2 t3 : Tok} {Q : Value → Shared → Prop}
    (F : Fr h₀ L s.heap m) (N : News h₀ L s.heap news) (hb : (b, listOf [Value.int i1 t1, .int i2 t2, .int i3 t3].toArray n2) ∈ news)
    (U : Upd D (intsL xs n) (intsL (xs ++ [(i1, t1), (i2, t2), (i3, t3)]) (n + 1)) news news') (hl : xs.length < 2000)
    (h : ∀ h', Fr h₀ L h' m → News h₀ L h' news' → Q .none { s with heap := h' }) : wpAny (model prog w) A (call (.builtin "list.extend") [.ref D, .ref b]) Q E s :=
  extend_map (f := fun x : Int × Tok => Value.int x.1 x.2) (ys := [(i1, t1), (i2, t2), (i3, t3)]) F N hb (by simp) U hl (by simp) h
local macro_rules | `(tactic| walk_at "call builtin:list.extend") => `(tactic| (k_here; (with_reducible show wpAny _ _ (call (Value.builtin _) [Value.ref _, Value.ref _]) _ _ _); k_dflt (refine' extend_ints3 ?F ?N ?b ?U ?hl ?_; (case F => k_asm); (case N => k_asm); (case b => walk_at "my mem"); (case U => k_upd); (case hl => first | with_reducible assumption | omega)); intro h' F' N'; (try k_sweep)))
theorem mem_data {a : Addr} {x : Obj} {v : Data} {news : Led} (_hd : x.data = v) (h : (a, x) ∈ news) : (a, x) ∈ news := h
/-- seven addresses apart, and apart from the rest -/
structure Seven (b wd gd stk opn frs fns : Nat) : Prop where
  (h12 : b ≠ wd) (h13 : b ≠ gd) (h14 : b ≠ stk) (h15 : b ≠ opn) (h16 : b ≠ frs) (h17 : b ≠ fns)
  (h23 : wd ≠ gd) (h24 : wd ≠ stk) (h25 : wd ≠ opn) (h26 : wd ≠ frs) (h27 : wd ≠ fns)
  (h34 : gd ≠ stk) (h35 : gd ≠ opn) (h36 : gd ≠ frs) (h37 : gd ≠ fns)
  (h45 : stk ≠ opn) (h46 : stk ≠ frs) (h47 : stk ≠ fns) (h56 : opn ≠ frs) (h57 : opn ≠ fns) (h67 : frs ≠ fns)
local macro_rules | `(tactic| k_ne) => `(tactic| (refine neN ?_; (try dsimp only); first | with_reducible exact Seven.h12 (by with_reducible assumption) | with_reducible exact Seven.h13 (by with_reducible assumption) | with_reducible exact Seven.h14 (by with_reducible assumption) | with_reducible exact Seven.h15 (by with_reducible assumption) | with_reducible exact Seven.h16 (by with_reducible assumption) | with_reducible exact Seven.h17 (by with_reducible assumption) | with_reducible exact Seven.h23 (by with_reducible assumption) | with_reducible exact Seven.h24 (by with_reducible assumption) | with_reducible exact Seven.h25 (by with_reducible assumption) | with_reducible exact Seven.h26 (by with_reducible assumption) | with_reducible exact Seven.h27 (by with_reducible assumption) | with_reducible exact Seven.h34 (by with_reducible assumption) | with_reducible exact Seven.h35 (by with_reducible assumption) | with_reducible exact Seven.h36 (by with_reducible assumption) | with_reducible exact Seven.h37 (by with_reducible assumption) | with_reducible exact Seven.h45 (by with_reducible assumption) | with_reducible exact Seven.h46 (by with_reducible assumption) | with_reducible exact Seven.h47 (by with_reducible assumption) | with_reducible exact Seven.h56 (by with_reducible assumption) | with_reducible exact Seven.h57 (by with_reducible assumption) | with_reducible exact Seven.h67 (by with_reducible assumption) | with_reducible exact Ne.symm (Seven.h12 (by with_reducible assumption)) | with_reducible exact Ne.symm (Seven.h13 (by with_reducible assumption)) | with_reducible exact Ne.symm (Seven.h14 (by with_reducible assumption)) | with_reducible exact Ne.symm (Seven.h15 (by with_reducible assumption)) | with_reducible exact Ne.symm (Seven.h16 (by with_reducible assumption)) | with_reducible exact Ne.symm (Seven.h17 (by with_reducible assumption)) | with_reducible exact Ne.symm (Seven.h23 (by with_reducible assumption)) | with_reducible exact Ne.symm (Seven.h24 (by with_reducible assumption)) | with_reducible exact Ne.symm (Seven.h25 (by with_reducible assumption)) | with_reducible exact Ne.symm (Seven.h26 (by with_reducible assumption)) | with_reducible exact Ne.symm (Seven.h27 (by with_reducible assumption)) | with_reducible exact Ne.symm (Seven.h34 (by with_reducible assumption)) | with_reducible exact Ne.symm (Seven.h35 (by with_reducible assumption)) | with_reducible exact Ne.symm (Seven.h36 (by with_reducible assumption)) | with_reducible exact Ne.symm (Seven.h37 (by with_reducible assumption)) | with_reducible exact Ne.symm (Seven.h45 (by with_reducible assumption)) | with_reducible exact Ne.symm (Seven.h46 (by with_reducible assumption)) | with_reducible exact Ne.symm (Seven.h47 (by with_reducible assumption)) | with_reducible exact Ne.symm (Seven.h56 (by with_reducible assumption)) | with_reducible exact Ne.symm (Seven.h57 (by with_reducible assumption)) | with_reducible exact Ne.symm (Seven.h67 (by with_reducible assumption))))
theorem below_ne {d e : Nat} {l : Led} (h : ∀ p ∈ l, @LT.lt Nat _ p.1 d) (hd : d ≤ e) : ∀ p ∈ l, p.1 ≠ e := fun p hp => Nat.ne_of_lt (Nat.lt_of_lt_of_le (h p hp) hd)
local macro_rules | `(tactic| k_all) => `(tactic| exact below_ne (by with_reducible assumption) (by omega))
abbrev OffOf (rest : Led) (a : Addr) : Prop := ∀ p ∈ rest, p.1 ≠ a

theorem nd_cons {a : Addr} {o : Obj} {l : Led} (h : ∀ p ∈ l, p.1 ≠ a) (hl : (l.map (·.1)).Nodup) : (((a, o) :: l).map (·.1)).Nodup := by
  rw [List.map_cons, List.nodup_cons]
  exact ⟨fun hm => by obtain ⟨p, hp, e⟩ := List.mem_map.mp hm; exact h p hp e, hl⟩
theorem ne_sub {D : Addr} {l l' : Led} (h : ∀ p ∈ l, p.1 ≠ D) (hs : ∀ a ∈ l'.map (·.1), a ∈ l.map (·.1)) : ∀ p ∈ l', p.1 ≠ D := fun p hp e => by
  obtain ⟨q, hq, eq⟩ := List.mem_map.mp (hs p.1 (List.mem_map.mpr ⟨p, hp, rfl⟩))
  exact h q hq (eq.trans e)
theorem ne_cons {D a : Addr} {o : Obj} {l : Led} (h : @Ne Nat a D) (hl : ∀ p ∈ l, p.1 ≠ D) : ∀ p ∈ (a, o) :: l, p.1 ≠ D := fun p hp => by
  rcases List.mem_cons.mp hp with h' | h'
  · rw [h']; exact h
  · exact hl p h'
theorem drop_a {h₀ h : Heap} {L : Addr} {a b c d e g1 g2 g3 g4 : Addr × Obj} {l : Led} (N : News h₀ L h (a :: b :: c :: d :: e :: g1 :: g2 :: g3 :: g4 :: l)) : News h₀ L h (a :: b :: c :: d :: e :: l) := news_sub N fun p hp => by
  simp only [List.mem_cons] at hp ⊢
  rcases hp with h | h | h | h | h | h <;> simp [h]
theorem drop_b {h₀ h : Heap} {L : Addr} {a b c d e g1 g2 g3 g4 e1 e2 : Addr × Obj} {l : Led} (N : News h₀ L h (a :: b :: c :: d :: e :: g1 :: g2 :: e1 :: e2 :: g3 :: g4 :: l)) : News h₀ L h (a :: b :: c :: d :: e :: e1 :: e2 :: l) := news_sub N fun p hp => by
  simp only [List.mem_cons] at hp ⊢
  rcases hp with h | h | h | h | h | h | h | h <;> simp [h]
/-- the seven and the rest, by their addresses -/
theorem seven_of {b wd gd stk opn frs fns : Addr} {o1 o2 o3 o4 o5 o6 o7 : Obj} {rest : Led} (h : (((b, o1) :: (wd, o2) :: (gd, o3) :: (stk, o4) :: (opn, o5) :: (frs, o6) :: (fns, o7) :: rest).map (·.1)).Nodup) :
    Seven b wd gd stk opn frs fns ∧ OffOf rest b ∧ OffOf rest wd ∧ OffOf rest gd ∧ OffOf rest stk ∧ OffOf rest opn ∧ OffOf rest frs ∧ OffOf rest fns := by
  simp only [List.map_cons, List.nodup_cons, List.mem_cons, not_or] at h
  obtain ⟨⟨a1, a2, a3, a4, a5, a6, a7⟩, ⟨b1, b2, b3, b4, b5, b6⟩, ⟨c1, c2, c3, c4, c5⟩, ⟨d1, d2, d3, d4⟩, ⟨e1, e2, e3⟩, ⟨f1, f2⟩, g1, _⟩ := h
  have off : ∀ {x : Addr}, x ∉ rest.map (·.1) → OffOf rest x := fun hx p hp e => hx (e ▸ List.mem_map.mpr ⟨p, hp, rfl⟩)
  exact ⟨⟨a1, a2, a3, a4, a5, a6, b1, b2, b3, b4, b5, c1, c2, c3, c4, d1, d2, d3, e1, e2, f1⟩, off a7, off b6, off c5, off d4, off e3, off f2, off g1⟩
-- E1
section
variable {prog : Program} {w : World} {p : Program} {loose : List Str} {mean : ExcName → Option Value} {mg mb : Str → Option Value}
  {dp un : Nat} {gdd : Option (List Code)} {cn : Str} {cs : Scope} {a : Addr} {ccd : Value} {cl : List (Str × Addr)} {outer : List Env} {A₀ : Around} {base h₀ : Heap} {L : Addr} {m : Str → Option Value} {s : Shared} {Q E : Value → Shared → Prop}
  (B : Below A₀ base outer h₀) (F : Fr h₀ L s.heap m) (X : (Mine.hd.heap_39 w.params).In h₀) (T : Top p loose mean mg mb h₀) (hk : cs.kind = .function)
include B F X T hk
set_option maxRecDepth 100000 in
set_option maxHeartbeats 6000000 in
theorem enter_spec {rest : Led} {b g wd gr gd stk opn frs fns : Addr} {ob owd oo : Obj} {k1 k2 tm : Tok} {made : Int} {st : List (Int × Tok)} {sn fnn frn : Nat} {fs : List FnA} {fds : List Addr}
  (N : News h₀ L s.heap ((b, ob) :: (wd, owd) :: (gd, gdD w.params k1 k2 stk opn) :: (stk, intsL st sn) :: (opn, oo) :: (frs, refsL (fun x : Addr => x) fds frn) :: (fns, refsL FnA.tup fs fnn) :: rest))
  (hnd : (((b, ob) :: (wd, owd) :: (gd, gdD w.params k1 k2 stk opn) :: (stk, intsL st sn) :: (opn, oo) :: (frs, refsL (fun x : Addr => x) fds frn) :: (fns, refsL FnA.tup fs fnn) :: rest).map (·.1)).Nodup)
  (hb : BoxOk g ob) (hg : GivenOk g rest) (hgb : @Ne Nat g b) (hd : owd.IsDictOf (strKind prog w) (wkv gr fns frs made tm)) (hm0 : 0 ≤ made) (hm1 : made < 500)
  (hgr : (gr, instObj 216 gd) ∈ rest) (hst : st.length < 500) (hfs : FnsIn w.params fs rest) (hfl : fs.length < 500) (hfd : fds.length < 500)
  (hroom : dp + 6 < recursionLimit) (hunits : un + 60 < cLine)
  (ret : ∀ (kp ow fd D x0 x1 x2 : Addr) (E : Led) (ob' owd' ofd : Obj) (fv : Int) (tb tm' ft f1 f2 a0 a1 a2 c0 c1 c2 : Tok) (h' : Heap) (tk' : Nat), Fr h₀ L h' m →
    News h₀ L h' ((fd, ofd) :: (D, listOf #[.ref x0, .ref x1, .ref x2] 3) :: (x0, listOf #[.int fv a0, .int (made + 1) c0] 0) :: (x1, listOf #[.int (fv + 1) a1, .int (made + 2) c1] 0) :: (x2, listOf #[.int (fv + 2) a2, .int (made + 3) c2] 0) :: (E ++
      (b, ob') :: (wd, owd') :: (gd, gdD w.params k1 k2 stk opn) :: (stk, intsL (st ++ [(fv, ft), (fv + 1, f1), (fv + 2, f2)]) (sn + 1)) :: (opn, oo) :: (frs, refsL (fun x : Addr => x) (fds ++ [fd]) (frn + 1)) :: (fns, refsL FnA.tup fs fnn) :: rest)) →
    (((fd, ofd) :: (D, listOf #[.ref x0, .ref x1, .ref x2] 3) :: (x0, listOf #[.int fv a0, .int (made + 1) c0] 0) :: (x1, listOf #[.int (fv + 1) a1, .int (made + 2) c1] 0) :: (x2, listOf #[.int (fv + 2) a2, .int (made + 3) c2] 0) :: (E ++
      (b, ob') :: (wd, owd') :: (gd, gdD w.params k1 k2 stk opn) :: (stk, intsL (st ++ [(fv, ft), (fv + 1, f1), (fv + 2, f2)]) (sn + 1)) :: (opn, oo) :: (frs, refsL (fun x : Addr => x) (fds ++ [fd]) (frn + 1)) :: (fns, refsL FnA.tup fs fnn) :: rest)).map (·.1)).Nodup →
    BoxOk g ob' → owd'.IsDictOf (strKind prog w) (wkv gr fns frs (made + 3) tm') → ofd.IsDictOf (strKind prog w) (fkv (st.length : Int) tb kp ow D) →
    ((∃ f ∈ fs, kp = f.ul ∧ ow = f.cl ∧ E = []) ∨ E = [(ow, listOf #[] 0), (kp, listOf #[] 0)]) → 0 ≤ fv → fv < 100 → Q .none { s with heap := h', toks := tk' }) :
  wpAny (model prog w) (ktrTop dp un gdd cn cs L a ccd cl outer) (call (.ref 286) [.ref b, .ref wd]) Q E s := by
  w_top off
  k_with_none
  obtain ⟨S, o1, o2, o3, o4, o5, o6, o7⟩ := seven_of hnd
  refine wpAny_call ?_
  k_dflt k_enter
  rename_i l1 co co2 d1 d2 N1
  have lR : ∀ p ∈ rest, @LT.lt Nat _ p.1 _ := allLt_all l1.2.2.2.2.2.2.2
  k_steps
  all_goals (refine Halt.on ?_)
  all_goals (k_dflt (refine LCg.Assign_ListComp_U (F₀ := by k_asm) (by rfl) (by with_unfolding_all rfl) (by with_unfolding_all rfl) (by decide) (by rfl) (by decide) (by rfl) (by rfl) (by rfl) ?_))
  all_goals k_steps
  all_goals (rename_i t1 u1 v1 hR7 F7 N7 k7)
  all_goals (refine Halt.on ?_)
  case _ =>
    rename Obj.data _ = Data.cell (some (Value.int _ _)) => dfi
    obtain ⟨fv, ft, efi⟩ : ∃ (fv : Int) (ft : Tok), _ = Data.cell (some (Value.int fv ft)) := ⟨_, _, dfi⟩
    have efi2 := efi.symm.trans dfi
    injection efi2 with efi2
    injection efi2 with efi2
    injection efi2 with efi3 efi4
    subst efi3 efi4
    clear efi
    have d2' : co2.data = Data.cell (some (.ref wd)) := d2
    k_dflt (refine cells_src (wd := wd) (owd := owd) (made := made) (first := fv) (gr := gr) (fns := fns) (frs := frs) (tm := tm) (by rfl) F7 N7 (by k_updF) hR7 hd ?turn ?fin)
    case turn =>
      intro i R2 I C D oI oC oD m₂ h tk tv o tm' E' hi hR hRw hC hx F N q1 q2 q3 n1 n2 n3 c6
      have g1 := hR _ (show (_, co2) ∈ _ by walk_at "my mem") (by refine neN ?_; dsimp only; omega)
      have g2 := hR (_, _) (mem_data dfi (by walk_at "my mem")) (by refine neN ?_; dsimp only; omega)
      clear hR hR7 F7 N7 k7
      (try k_fold)
      k_steps
      rename News _ _ _ _ => N9
      rename _ ∧ _ ∧ _ ∧ _ ∧ AllLt _ R2 => l9
      exact CellEnd.intro (base := [(I, oI), (C, oC), (D, oD)]) N9 (by assumption) l9 (by assumption) (by omega) rfl
    case fin =>
      intro x0 x1 x2 D a0 a1 a2 b0 b1 b2 tm' o h tk F N hb0 h01 h12 hD hD0 hD1 hD2 hd9
      clear hR7 F7 N7 k7
      have hDf : @Ne Nat frs D := hD (frs, _) (by walk_at "my mem")
      k_lt hb0
      dsimp only
      (try k_fold)
      k_steps
      rename News h₀ L _ _ => kN
      rename BoxOk g _ => kB
      rename Obj.IsDictOf _ _ (fkv _ _ _ _ _) => kD
      refine ret _ _ _ D x0 x1 x2 [] _ _ _ fv _ _ _ _ _ a0 a1 a2 b0 b1 b2 _ _ (by assumption) (drop_a kN) ?nd kB hd9 kD (.inl ⟨_, by assumption, rfl, rfl, rfl⟩) (by assumption) (by assumption)
      refine nd_cons ?_ (nd_cons (ne_cons hD0 (ne_cons hD1 (ne_cons hD2 (ne_sub hD fun a ha => List.mem_cons_of_mem _ (List.mem_cons_of_mem _ (List.mem_cons_of_mem _ (List.mem_cons_of_mem _ ha))))))) (nd_cons ?_ (nd_cons ?_ (nd_cons ?_ hnd))))
      all_goals ((try dsimp only [List.nil_append]); first | k_all | fail "off")
  case _ =>
    rename Obj.data _ = Data.cell (some (Value.int _ _)) => dfi
    obtain ⟨fv, ft, efi⟩ : ∃ (fv : Int) (ft : Tok), _ = Data.cell (some (Value.int fv ft)) := ⟨_, _, dfi⟩
    have efi2 := efi.symm.trans dfi
    injection efi2 with efi2
    injection efi2 with efi2
    injection efi2 with efi3 efi4
    subst efi3 efi4
    clear efi
    have d2' : co2.data = Data.cell (some (.ref wd)) := d2
    k_dflt (refine cells_src (wd := wd) (owd := owd) (made := made) (first := fv) (gr := gr) (fns := fns) (frs := frs) (tm := tm) (by rfl) F7 N7 (by k_updF) hR7 hd ?turn ?fin)
    case turn =>
      intro i R2 I C D oI oC oD m₂ h tk tv o tm' E' hi hR hRw hC hx F N q1 q2 q3 n1 n2 n3 c6
      have g1 := hR _ (show (_, co2) ∈ _ by walk_at "my mem") (by refine neN ?_; dsimp only; omega)
      have g2 := hR (_, _) (mem_data dfi (by walk_at "my mem")) (by refine neN ?_; dsimp only; omega)
      clear hR hR7 F7 N7 k7
      (try k_fold)
      k_steps
      rename News _ _ _ _ => N9
      rename _ ∧ _ ∧ _ ∧ _ ∧ AllLt _ R2 => l9
      exact CellEnd.intro (base := [(I, oI), (C, oC), (D, oD)]) N9 (by assumption) l9 (by assumption) (by omega) rfl
    case fin =>
      intro x0 x1 x2 D a0 a1 a2 b0 b1 b2 tm' o h tk F N hb0 h01 h12 hD hD0 hD1 hD2 hd9
      clear hR7 F7 N7 k7
      have hDf : @Ne Nat frs D := hD (frs, _) (by walk_at "my mem")
      k_lt hb0
      dsimp only
      (try k_fold)
      k_steps
      rename News h₀ L _ _ => kN
      rename BoxOk g _ => kB
      rename Obj.IsDictOf _ _ (fkv _ _ _ _ _) => kD
      refine ret _ _ _ D x0 x1 x2 [_, _] _ _ _ fv _ _ _ _ _ a0 a1 a2 b0 b1 b2 _ _ (by assumption) (drop_b kN) ?nd2 kB hd9 kD (.inr rfl) (by assumption) (by assumption)
      refine nd_cons ?_ (nd_cons (ne_cons hD0 (ne_cons hD1 (ne_cons hD2 (ne_sub hD ?hs2)))) (nd_cons ?_ (nd_cons ?_ (nd_cons ?_ (nd_cons ?_ (nd_cons ?_ hnd))))))
      case hs2 =>
        intro a ha
        simp only [List.map_cons, List.mem_cons, List.cons_append, List.nil_append] at ha ⊢
        rcases ha with ha | ha | ha
        · exact .inr (.inr (.inl ha))
        · exact .inr (.inr (.inr (.inl ha)))
        · exact .inr (.inr (.inr (.inr (.inr (.inr ha)))))
      all_goals ((try dsimp only [List.nil_append, List.cons_append]); first | k_all | fail "off")
end
-- E2
section
local macro_rules | `(tactic| walk_at "call ref") => `(tactic| (k_here; (try dsimp only [List.cons_append, List.nil_append]); (with_reducible show wpAny _ _ (call (Value.ref 194) [Value.ref _]) _ _ _); k_dflt (refine' close_specU ?k1 ?k2 ?k3 ?k4 ?kK ?N ?U ?hu ?hst ?hgr ?hgd ?hne ?hl ?hi0 ?hi1 ?kd ?ku ?_; (case k1 => k_asm); (case k2 => k_asm); (case k3 => k_asm); (case k4 => k_asm); (case kK => first | exact rfl | with_reducible assumption); (case N => k_asm); (case hu => k_mem); (case U => k_updF); (case hgr => k_mem); (case hgd => k_mem); (case hst => k_mem); (case hne => with_reducible assumption); (case hl => with_reducible assumption); (case hi0 => with_reducible assumption); (case hi1 => with_reducible assumption); (case kd => ktr_room); (case ku => ktr_units)); intro T9 h9 tk9 F9 N9; (try dsimp only at N9); (try dsimp only); (try k_fold)))
local macro_rules | `(tactic| walk_at "subscriptTail Call") => `(tactic| (k_here; (with_reducible show wpAny _ _ (subscriptTail _ _ (Value.ref _) (Value.str _ _)) _ _ _); k_dflt (refine kba_turn (value' := PySem.Expr.Name (PySem.Str.ofString "_") ⟨0, 0, 0, 0⟩) (fun _ => rfl) ?_)))
local macro_rules | `(tactic| walk_at "subscriptTail Subscript") => `(tactic| (k_here; (with_reducible show wpAny _ _ (subscriptTail _ _ (Value.ref _) (Value.str _ _)) _ _ _); k_dflt (refine kba_turn (value' := PySem.Expr.Name (PySem.Str.ofString "_") ⟨0, 0, 0, 0⟩) (fun _ => rfl) ?_)))
local macro_rules | `(tactic| walk_at "subscriptTail Attribute") => `(tactic| (k_here; (with_reducible show wpAny _ _ (subscriptTail _ (PySem.Expr.Slice none _ none _) (Value.ref _) (Value.ref _)) _ _ _); k_dflt (refine' slice_upto ?F ?N ?l ?p ?q ?h1 ?hl ?_ ?s ?t; (case F => k_asm); (case N => k_asm); (case l => walk_at "my mem"); (case p => exact IsPart.none); (case q => exact IsPart.int _ _); (case h1 => l_idx); (case hl => first | with_reducible assumption | omega); (case s => with_unfolding_all rfl); (case t => kmk_pure)); intro D' h' F' N' l1; (try k_lt l1); (try k_sweep)))
local macro_rules | `(tactic| walk_at "subscriptTail Name") => `(tactic| (k_here; (with_reducible show wpAny _ _ (subscriptTail _ (PySem.Expr.Slice none _ none _) (Value.ref _) (Value.ref _)) _ _ _); k_dflt (refine' slice_upto ?F ?N ?l ?p ?q ?h1 ?hl ?_ ?s ?t; (case F => k_asm); (case N => k_asm); (case l => walk_at "my mem"); (case p => exact IsPart.none); (case q => exact IsPart.int _ _); (case h1 => l_idx); (case hl => first | with_reducible assumption | omega); (case s => with_unfolding_all rfl); (case t => kmk_pure)); intro D' h' F' N' l1; (try k_lt l1); (try k_sweep)))
local macro_rules | `(tactic| walk_at "subscriptTail Attribute Slice ref ref") => `(tactic| (k_here; (with_reducible show wpAny _ _ (subscriptTail _ (PySem.Expr.Slice none _ none _) (Value.ref _) (Value.ref _)) _ _ _); k_dflt (refine' slice_upto ?F ?N ?l ?p ?q ?h1 ?hl ?_ ?s ?t; (case F => k_asm); (case N => k_asm); (case l => walk_at "my mem"); (case p => exact IsPart.none); (case q => exact IsPart.int _ _); (case h1 => l_idx); (case hl => first | with_reducible assumption | omega); (case s => with_unfolding_all rfl); (case t => kmk_pure)); intro D' h' F' N' l1; (try k_lt l1); (try k_sweep)))
local macro_rules | `(tactic| walk_at "subscriptTail Name Slice ref ref") => `(tactic| (k_here; (with_reducible show wpAny _ _ (subscriptTail _ (PySem.Expr.Slice none _ none _) (Value.ref _) (Value.ref _)) _ _ _); k_dflt (refine' slice_upto ?F ?N ?l ?p ?q ?h1 ?hl ?_ ?s ?t; (case F => k_asm); (case N => k_asm); (case l => walk_at "my mem"); (case p => exact IsPart.none); (case q => exact IsPart.int _ _); (case h1 => l_idx); (case hl => first | with_reducible assumption | omega); (case s => with_unfolding_all rfl); (case t => kmk_pure)); intro D' h' F' N' l1; (try k_lt l1); (try k_sweep)))
section
variable {prog : Program} {w : World} {p : Program} {loose : List Str} {mean : ExcName → Option Value} {mg mb : Str → Option Value}
  {dp un : Nat} {gdd : Option (List Code)} {cn : Str} {cs : Scope} {a : Addr} {ccd : Value} {cl : List (Str × Addr)} {outer : List Env} {A₀ : Around} {base h₀ : Heap} {L : Addr} {m : Str → Option Value} {s : Shared} {Q E : Value → Shared → Prop}
  (B : Below A₀ base outer h₀) (F : Fr h₀ L s.heap m) (X : (Mine.hd.heap_39 w.params).In h₀) (T : Top p loose mean mg mb h₀) (hk : cs.kind = .function)
include B F X T hk
set_option maxRecDepth 100000 in
set_option maxHeartbeats 4000000 in
theorem leave_spec {rest : Led} {b wd gr gd stk opn frs fns fd kp ow cl' : Addr} {ob owd ofn ofd : Obj} {k1 k2 tm tb : Tok} {made bs : Int} {st : List (Int × Tok)} {sn frn on : Nat} {fds : List Addr} {ups : List UpR}
  (N : News h₀ L s.heap ((b, ob) :: (wd, owd) :: (gd, gdD w.params k1 k2 stk opn) :: (stk, intsL st sn) :: (opn, refsL UpR.u ups on) :: (frs, refsL (fun x : Addr => x) (fds ++ [fd]) frn) :: (fns, ofn) :: (upEnts w.params gr ups ++ rest)))
  (hnd : (((b, ob) :: (wd, owd) :: (gd, gdD w.params k1 k2 stk opn) :: (stk, intsL st sn) :: (opn, refsL UpR.u ups on) :: (frs, refsL (fun x : Addr => x) (fds ++ [fd]) frn) :: (fns, ofn) :: (upEnts w.params gr ups ++ rest)).map (·.1)).Nodup)
  (hd : owd.IsDictOf (strKind prog w) (wkv gr fns frs made tm)) (hfd : (fd, ofd) ∈ rest) (hfo : ofd.IsDictOf (strKind prog w) (fkv bs tb kp ow cl'))
  (hgr : (gr, instObj 216 gd) ∈ rest) (hst : st.length < 500) (hfl : fds.length < 500) (hlen : ups.length < 500) (hbs : 0 ≤ bs) (hbs' : bs < 1000)
  (hin : ∀ r ∈ ups, (r.u, instObj 197 r.d) ∈ rest ∧ 0 ≤ r.i ∧ r.i < st.length)
  (hroom : dp + 6 < recursionLimit) (hunits : un + 60 < cLine)
  (ret1 : ∀ (h' : Heap) (tk' : Nat), fds = [] → Fr h₀ L h' m →
    News h₀ L h' ((b, ob) :: (wd, owd) :: (gd, gdD w.params k1 k2 stk opn) :: (stk, intsL st sn) :: (opn, refsL UpR.u ups on) :: (frs, refsL (fun x : Addr => x) (fds ++ [fd]) frn) :: (fns, ofn) :: (upEnts w.params gr ups ++ rest)) → Q .none { s with heap := h', toks := tk' })
  (ret2 : ∀ (stk' : Addr) (dn td : List UpR) (C : Led) (on' : Nat) (h' : Heap) (tk' : Nat), fds ≠ [] → Fr h₀ L h' m →
    News h₀ L h' ((stk', intsL (st.take bs.toNat) 0) :: (b, ob) :: (wd, owd) :: (gd, gdD w.params k1 k2 stk' opn) :: (opn, refsL UpR.u td on') :: (frs, refsL (fun x : Addr => x) fds (frn + 1)) :: (fns, ofn) :: (C ++ upEnts w.params gr td ++ rest)) →
    ups = dn ++ td → ClosedAre w.params st dn C → (∀ r ∈ dn, bs ≤ r.i) → (∀ r ∈ td.head?, r.i < bs) →
    (∀ p ∈ (b, ob) :: (wd, owd) :: (gd, gdD w.params k1 k2 stk opn) :: (opn, refsL UpR.u ups on) :: (frs, refsL (fun x : Addr => x) (fds ++ [fd]) frn) :: (fns, ofn) :: (upEnts w.params gr ups ++ rest), @LT.lt Nat _ p.1 stk') → Q .none { s with heap := h', toks := tk' }) :
  wpAny (model prog w) (ktrTop dp un gdd cn cs L a ccd cl outer) (call (.ref 293) [.ref wd]) Q E s := by
  w_top off
  k_with_none
  obtain ⟨S, o1, o2, o3, o4, o5, o6, o7⟩ := seven_of hnd
  k_with "call ref" => ((with_reducible show wpAny _ _ (call (Value.ref 255) _) _ _ _); refine Halt.of ?_)
  cases hfc : fds with
  | nil =>
    subst hfc
    have ret1' := ret1
    generalize hR : upEnts w.params gr ups ++ rest = R at N hnd o1 o2 o3 o4 o5 o6 o7 ret1'
    have q1 : (gr, instObj 216 gd) ∈ R := hR ▸ List.mem_append_right _ hgr
    simp only [List.nil_append] at N
    k_steps
    refine ret1' _ _ rfl (by assumption) ?_
    assumption
  | cons f0 ft =>
    generalize hR : upEnts w.params gr ups ++ rest = R at N hnd o1 o2 o3 o4 o5 o6 o7 
    have q1 : (gr, instObj 216 gd) ∈ R := hR ▸ List.mem_append_right _ hgr
    have q2 : (fd, ofd) ∈ R := hR ▸ List.mem_append_right _ hfd
    k_steps
    case _ =>
      rename_i F5 N5
      subst hR
      refine Halt.on ?_
      have hnd2 : ((opn :: (ups.map (·.d) ++ ((b, ob) :: (wd, owd) :: (gd, gdD w.params k1 k2 stk opn) :: (stk, intsL st sn) :: (frs, refsL (fun x : Addr => x) fds (frn + 1)) :: (fns, ofn) :: rest).map (·.1)) : List Addr)).Nodup := by
        refine (List.Perm.nodup_iff (List.perm_iff_count.mpr fun a => ?_)).mp hnd
        simp only [List.map_cons, List.map_append, upEnts_fst, List.count_cons, List.count_append]
        ac_rfl
      k_dflt (refine take_spec (on := on) (rest := (b, ob) :: (wd, owd) :: (gd, gdD w.params k1 k2 stk opn) :: (stk, intsL st sn) :: (frs, refsL (fun x : Addr => x) fds (frn + 1)) :: (fns, ofn) :: rest) (stk := stk) (k1 := k1) (k2 := k2) (st := st) (sn := sn) (gd := gd) (by k_asm) F5 (by k_asm) (by k_asm) (by first | exact rfl | assumption) (news_sub N5 ?sub) hnd2 ?hgr ?hgd ?hst (by omega) (by omega) ?hin (by ktr_room) (by ktr_units) ?ret)
      case sub =>
        intro p hp
        simp only [List.mem_cons, List.mem_append] at hp ⊢
        rcases hp with h | h | h | h | h | h | h | h | h <;> simp [h]
      case hgr => simp only [List.mem_cons]; simp [hgr]
      case hgd => simp
      case hst => simp
      case hin => intro r hr; obtain ⟨a1, a2, a3⟩ := hin r hr; exact ⟨by simp only [List.mem_cons]; simp [a1], a2, a3⟩
      case ret =>
        clear N5 F5
        intro fl dn td C on' h5 tk5 F9 N9 e1 e2 e3 e4
        have hC := e2.map_fst
        have hs : ∀ a ∈ (C ++ upEnts w.params gr td ++ rest).map (·.1), a ∈ (upEnts w.params gr ups ++ rest).map (·.1) := by
          rw [e1]
          intro a ha
          simp only [List.map_append, List.mem_append, upEnts_fst, hC] at ha ⊢
          rcases ha with (h | h) | h
          · exact .inl (.inl h)
          · exact .inl (.inr h)
          · exact .inr h
        have p1 := ne_sub o1 hs
        have p2 := ne_sub o2 hs
        have p3 := ne_sub o3 hs
        have p4 := ne_sub o4 hs
        have p5 := ne_sub o5 hs
        have p6 := ne_sub o6 hs
        have p7 := ne_sub o7 hs
        have N10 : News _ _ _ ((b, ob) :: (wd, owd) :: (gd, gdD w.params k1 k2 stk opn) :: (stk, intsL st sn) :: (opn, refsL UpR.u td on') :: (frs, refsL (fun x : Addr => x) fds (frn + 1)) :: (fns, ofn) :: (C ++ upEnts w.params gr td ++ rest)) := news_sub N9 (by
          intro p hp
          simp only [List.mem_cons, List.mem_append] at hp ⊢
          rcases hp with h | h | h | h | h | h | h | h | h <;> simp [h])
        have g1 : (gr, instObj 216 gd) ∈ C ++ upEnts w.params gr td ++ rest := List.mem_append_right _ hgr
        generalize hR2 : C ++ upEnts w.params gr td ++ rest = R2 at N10 p1 p2 p3 p4 p5 p6 p7 g1
        clear N9 o1 o2 o3 o4 o5 o6 o7 hs
        (try k_fold)
        k_steps
        rename (_ ∧ _ ∧ _ ∧ _ ∧ _ ∧ _ ∧ _ ∧ AllLt _ R2) => l9
        rename News h₀ L _ _ => kN
        rename Addr => D9
        subst hR2
        have lR := allLt_all l9.2.2.2.2.2.2.2
        refine ret2 D9 dn td C on' _ _ (by rw [hfc]; exact List.cons_ne_nil _ _) (by assumption) (news_sub kN ?_) e1 e2 e3 e4 ?_
        · intro p hp
          simp only [List.mem_cons] at hp ⊢
          rcases hp with h | h | h | h | h | h | h | h
          all_goals first | (simp [h, gdD]; done) | exact .inr (.inr (.inr (.inr (.inr (.inr (.inr (.inr h)))))))
        · intro p hp
          simp only [List.mem_cons] at hp
          rcases hp with h | h | h | h | h | h | h
          · rw [h]; exact l9.1
          · rw [h]; exact l9.2.1
          · rw [h]; exact l9.2.2.1
          · rw [h]; exact l9.2.2.2.2.1
          · rw [h]; exact l9.2.2.2.2.2.1
          · rw [h]; exact l9.2.2.2.2.2.2.1
          · have hp2 : p.1 ∈ (C ++ upEnts w.params gr td ++ rest).map (·.1) := by
              have hq : p.1 ∈ (upEnts w.params gr ups ++ rest).map (·.1) := List.mem_map.mpr ⟨p, h, rfl⟩
              rw [e1] at hq
              simp only [List.map_append, List.mem_append, upEnts_fst, hC] at hq ⊢
              exact hq
            obtain ⟨q, hq, eq⟩ := List.mem_map.mp hp2
            have := lR q hq
            rw [← eq]; exact this
    case _ =>
      exfalso
      rename ¬ _ => hh
      have hl := congrArg List.length hfc
      simp only [List.length_cons] at hl
      omega
end
end
-- W6
/-- one entry of the ledger by itself, the others apart from it -/
theorem focus {h₀ h : Heap} {L x : Addr} {o : Obj} {news : Led} (N : News h₀ L h news) (hm : (x, o) ∈ news) :
    ∃ rest : Led, News h₀ L h ((x, o) :: rest) ∧ (∀ p ∈ rest, p.1 ≠ x) ∧ (∀ p ∈ news, p.1 ≠ x → p ∈ rest) ∧ (∀ p ∈ rest, p ∈ news) := by
  refine ⟨news.filter fun p => decide (p.1 ≠ x), fun p hp => ?_, fun p hp => by simpa using (List.mem_filter.mp hp).2, fun p hp h => List.mem_filter.mpr ⟨hp, by simpa using h⟩, fun p hp => (List.mem_filter.mp hp).1⟩
  rcases List.mem_cons.mp hp with h | h
  · subst h; exact N _ hm
  · exact N _ (List.mem_filter.mp h).1
abbrev cellO (v : Int) (tv : Tok) (id : Int) (ti : Tok) (n : Nat) : Obj := listOf #[.int v tv, .int id ti] n
section
variable {prog : Program} {w : World} {A : Around} {E : Value → Shared → Prop} {s : Shared} {h₀ : Heap} {L : Addr} {m : Str → Option Value} {news : Led}
theorem item_last {α : Type} {f : α → Value} {ys : List α} {y : α} {value slice : Expr} {l : Addr} {n : Nat} {k : Int} {u : Tok} {Q : Value → Shared → Prop} (N : News h₀ L s.heap news) (hm : (l, listOf ((ys ++ [y]).map f).toArray n) ∈ news)
    (hk : k = ys.length) (hfit : ys.length < 500) (h : Q (f y) s)
    (hs : subscripted slice false (.ref l) (.int k u) = operate [.ref l, .int k u] (getItem (.ref l) (.int k u)) := by with_unfolding_all rfl) :
    wpAny (model prog w) A (subscriptTail value slice (.ref l) (.int k u)) Q E s := by
  refine item_map N hm (by omega) (by simp; omega) (by omega) (fun x hx _ => ?_) hs
  have e : k.toNat = ys.length := by omega
  rw [e] at hx
  simp at hx
  rw [← hx]; exact h
end
local macro_rules | `(tactic| walk_at "subscriptTail Subscript") => `(tactic| (k_here; (with_reducible show wpAny _ _ (subscriptTail _ _ (Value.ref _) (Value.int _ _)) _ _ _); (with_unfolding_all refine' item_map ?k1 ?k2 ?k3 ?k4 ?k5 ?_ ?k6; (case k1 => k_asm); (case k2 => walk_at "my mem"); (case k3 => with_reducible assumption); (case k4 => omega); (case k5 => omega); (case k6 => with_unfolding_all rfl)); intro xI hxI hmI; (try dsimp only)))
local macro_rules | `(tactic| walk_at "subscriptTail Subscript") => `(tactic| (k_here; (with_reducible show wpAny _ _ (subscriptTail _ (PySem.Expr.BinOp _ _ _ _) (Value.ref _) (Value.int _ _)) _ _ _); (with_unfolding_all refine' item_last ?k1 ?k2 ?k3 ?k5 ?_ ?k6; (case k1 => k_asm); (case k2 => walk_at "my mem"); (case k3 => omega); (case k5 => with_reducible assumption); (case k6 => with_unfolding_all rfl)); (try dsimp only)))
-- E3
section
variable {prog : Program} {w : World} {p : Program} {loose : List Str} {mean : ExcName → Option Value} {mg mb : Str → Option Value}
  {dp un : Nat} {gdd : Option (List Code)} {cn : Str} {cs : Scope} {a : Addr} {ccd : Value} {cl : List (Str × Addr)} {outer : List Env} {A₀ : Around} {base h₀ : Heap} {L : Addr} {m : Str → Option Value} {s : Shared} {Q E : Value → Shared → Prop}
  (B : Below A₀ base outer h₀) (F : Fr h₀ L s.heap m) (X : (Mine.hd.heap_39 w.params).In h₀) (T : Top p loose mean mg mb h₀) (hk : cs.kind = .function)
include B F X T hk
set_option maxRecDepth 100000 in
set_option maxHeartbeats 6000000 in
theorem writep_spec {rest : Led} {b g wd gr gd stk opn frs fns fd kp ow D : Addr} {ob owd oo ofn ofd : Obj} {k1 k2 tm tb : Tok} {made bs : Int} {st : List (Int × Tok)} {sn frn dn : Nat} {fds xs : List Addr}
  (N : News h₀ L s.heap ((b, ob) :: (wd, owd) :: (gd, gdD w.params k1 k2 stk opn) :: (stk, intsL st sn) :: (opn, oo) :: (frs, refsL (fun x : Addr => x) (fds ++ [fd]) frn) :: (fns, ofn) :: rest))
  (hnd : (((b, ob) :: (wd, owd) :: (gd, gdD w.params k1 k2 stk opn) :: (stk, intsL st sn) :: (opn, oo) :: (frs, refsL (fun x : Addr => x) (fds ++ [fd]) frn) :: (fns, ofn) :: rest).map (·.1)).Nodup)
  (hb : BoxOk g ob) (hg : GivenOk g rest) (hgb : @Ne Nat g b) (hd : owd.IsDictOf (strKind prog w) (wkv gr fns frs made tm))
  (hgr : (gr, instObj 216 gd) ∈ rest) (hst : st.length < 500) (hfd : fds.length < 500) (hfdm : (fd, ofd) ∈ rest) (hfo : ofd.IsDictOf (strKind prog w) (fkv bs tb kp ow D))
  (hD : (D, refsL (fun x : Addr => x) xs dn) ∈ rest) (hxl : xs.length = 3) (hbs : 0 ≤ bs) (hbs3 : bs + 3 ≤ st.length)
  (hx : ∀ x ∈ xs, ∃ v tv id ti n, (x, cellO v tv id ti n) ∈ rest)
  (hroom : dp + 6 < recursionLimit) (hunits : un + 60 < cLine)
  (ret : ∀ (ob' : Obj) (number value : Int) (tv t0 ti : Tok) (x : Addr) (v id : Int) (n : Nat) (rest2 : Led) (h' : Heap) (tk' : Nat), BoxOk g ob' → 0 ≤ number → number < 3 → xs[number.toNat]? = some x →
    (x, cellO v t0 id ti n) ∈ rest → Fr h₀ L h' m → News h₀ L h' ((x, cellO value tv id ti n) :: rest2) →
    (∀ p ∈ (b, ob') :: (wd, owd) :: (gd, gdD w.params k1 k2 stk opn) :: (stk, intsL (st.set (bs + number).toNat (value, tv)) sn) :: (opn, oo) :: (frs, refsL (fun x : Addr => x) (fds ++ [fd]) frn) :: (fns, ofn) :: rest, p.1 ≠ x → p ∈ rest2) → Q .none { s with heap := h', toks := tk' }) :
  wpAny (model prog w) (ktrTop dp un gdd cn cs L a ccd cl outer) (call (.ref 298) [.ref b, .ref wd, .bool false]) Q E s := by
  w_top off
  k_with_none
  obtain ⟨S, o1, o2, o3, o4, o5, o6, o7⟩ := seven_of hnd
  k_with "setItem ref int" => ((with_reducible show wpAny _ _ (setItem _ (Value.int 0 _) _) _ _ _); refine Halt.of ?_)
  k_steps
  refine Halt.on ?_
  k_with_none
  rename News _ _ _ _ => N9
  rename xs[_]? = some _ => hxI
  rename _ ∈ xs => hmI
  rename BoxOk g _ => hb9
  obtain ⟨v, t0, id, ti, n, hc⟩ := hx _ hmI
  obtain ⟨rest2, N10, f1, f2, f3⟩ := focus N9 (List.mem_cons_of_mem _ (List.mem_cons_of_mem _ (List.mem_cons_of_mem _ (List.mem_cons_of_mem _ (List.mem_cons_of_mem _ (List.mem_cons_of_mem _ (List.mem_cons_of_mem _ (List.mem_cons_of_mem _ hc))))))))
  clear N9
  (try k_fold)
  k_steps
  rename News h₀ L _ _ => kN
  refine ret _ _ _ _ t0 ti _ v id n rest2 _ _ hb9 (by assumption) (by assumption) hxI hc (by assumption) kN fun p hp hne => f2 p (List.mem_cons_of_mem _ hp) hne
end
-- W7
section
open PySem PySem.W PyProof.Rows PySem.Spec
section
variable {prog : Program} {w : World} {A : Around} {E : Value → Shared → Prop} {s : Shared} {env : Env} {h₀ : Heap} {target : Expr} {body : List Stmt} {Q : Flow → Shared → Prop} {α σ : Type} {f : α → Value} {xs : List α}
def FTPost (h₀ : Heap) (L : Addr) (ys : List Str) (m₀ : Str → Option Value) (it : Addr × Obj) (led : σ → Led) (I : σ → Prop) (s₁ : Shared) (fl : Flow) (s₂ : Shared) : Prop :=
  fl = .next ∧ ∃ h' tk m' a' news', s₂ = { s₁ with heap := h', toks := tk } ∧ Fr h₀ L h' m' ∧ News h₀ L h' news' ∧ (∀ p ∈ it :: led a', p ∈ news') ∧ (∀ p ∈ led a', p.1 ≠ it.1) ∧ (∀ z, ys.contains z = false → m' z = m₀ z) ∧ I a'
theorem FTPost.intro {L : Addr} {ys : List Str} {m₀ m' : Str → Option Value} {it : Addr × Obj} {led : σ → Led} {I : σ → Prop} {s₁ : Shared} {h' : Heap} {tk : Nat} {news' : Led} (a' : σ)
    (F : Fr h₀ L h' m') (N : News h₀ L h' news') (hn : ∀ p ∈ it :: led a', p ∈ news') (ho : ∀ p ∈ led a', p.1 ≠ it.1) (hm : ∀ z, ys.contains z = false → m' z = m₀ z) (hi : I a') :
    FTPost h₀ L ys m₀ it led I s₁ .next { s₁ with heap := h', toks := tk } := ⟨rfl, h', tk, m', a', news', rfl, F, N, hn, ho, hm, hi⟩
theorem iter_listT {l : Addr} {n : Nat} {m₀ : Str → Option Value} {a₀ : σ} (ys : List Str) (led : Nat → σ → Led) (I : Nat → σ → Prop)
    (hh : A.handled = none) (hm : ∀ i a, (l, listOf (xs.map f).toArray n) ∈ led i a) (F : Fr h₀ env.locals s.heap m₀) (N : News h₀ env.locals s.heap (led 0 a₀)) (hi : I 0 a₀)
    (turn : ∀ i a y (u : Str → Option Value) it (s₁ : Shared), xs[i]? = some y → i < xs.length → I i a → (∀ p ∈ led i a, p.1 ≠ it.1) → Fr h₀ env.locals s₁.heap (fun z => if ys.contains z then u z else m₀ z) → News h₀ env.locals s₁.heap (it :: led i a) →
      wpAny (model prog w) A (assign target env (f y)) (fun _ s₃ => wpAny (model prog w) A (execs body env) (FTPost h₀ env.locals ys m₀ it (led (i + 1)) (I (i + 1)) s₁) E s₃) E s₁)
    (done : ∀ a (u : Str → Option Value) h tk, I xs.length a → Fr h₀ env.locals h (fun z => if ys.contains z then u z else m₀ z) → News h₀ env.locals h (led xs.length a) → Q .next { s with heap := h, toks := tk }) :
    wpAny (model prog w) A (pyIter (.ref l)) (fun it s₂ => LoopAtT prog w A h₀ env target body Q E it s₂) E s := by
  have hls : s.heap.IsList l (xs.map f).toArray := isl_of N (hm 0 a₀)
  obtain ⟨ol, hol, _⟩ := id hls
  have hlt : l < s.heap.objs.size := Heap.lt_size hol
  have hne : l ≠ s.heap.objs.size := Nat.ne_of_lt hlt
  refine wpAny_pyIter_list hls ?_
  have W := Walks.list (prog := prog) (w := w) hh s.heap.objs.size l hne (xs.map f).toArray
  have hlen : (xs.map f).toArray.size = xs.length := by simp
  rw [hlen] at W
  let J' : Nat → (Str → Option Value) → Led → Prop := fun i m₁ news₁ => ∃ a, news₁ = led i a ∧ I i a ∧ ∀ z, ys.contains z = false → m₁ z = m₀ z
  refine ⟨_, _, _, xs.length, _, _, m₀, led 0 a₀, J', rfl, W, ?_, ?_, ?_, ⟨⟨_, Heap.get?_push_size _ rfl, rfl, rfl⟩, hls.at fun o e => Heap.get?_push_of_some _ e⟩, F.push _, (fun p hp => ⟨Heap.get?_push_of_some _ (N p hp).1, (N p hp).2⟩), (fun i s' v Q' st hQ' => letGo_listiter st.1 hQ'), ⟨a₀, rfl, hi, fun _ _ => rfl⟩, ?_, ?_⟩
  · intro hmem
    rcases List.mem_cons.mp hmem with e | hmem
    · exact absurd F.ns.lt (e ▸ Nat.lt_irrefl _)
    · exact (N _ (hm 0 a₀)).2.1 (List.mem_singleton.mp hmem).symm
  · intro b hb
    rw [List.mem_singleton.mp hb]
    exact next_is_new F
  · intro p hp hI
    exact absurd (Heap.lt_size (N p hp).1) ((List.mem_singleton.mp hI) ▸ Nat.lt_irrefl _)
  · rintro i v m₁ news₁ s₁ own hin hP ⟨a, rfl, hI, hmm⟩ hoff hown hget hall hst F₁ N₁
    have hv : ∃ y, xs[i]? = some y ∧ v = f y := by
      have hP' : (xs.map f)[i]? = some v := by simpa using hP
      rw [List.getElem?_map] at hP'
      cases hx : xs[i]? with
      | none => rw [hx] at hP'; cases hP'
      | some y => rw [hx] at hP'; exact ⟨y, rfl, (Option.some.inj hP').symm⟩
    obtain ⟨y, hy, rfl⟩ := hv
    obtain ⟨⟨oI, heI, _⟩, _⟩ := hst
    have hI₀ : h₀.get? s.heap.objs.size = none := next_is_new F
    have hIown : (s.heap.objs.size, oI) ∈ own := hall _ (by simp) hI₀ _ heI
    have hsep : ∀ p ∈ led i a, p.1 ≠ s.heap.objs.size := fun p hp e => hoff p hp (List.mem_singleton.mpr e)
    have e : (fun z => if ys.contains z then m₁ z else m₀ z) = fun z => m₁ z := by
      funext z
      cases h9 : ys.contains z with
      | true => simp
      | false => simp only [Bool.false_eq_true, if_false]; exact (hmm z h9).symm
    have F₁' : Fr h₀ env.locals s₁.heap (fun z => if ys.contains z then m₁ z else m₀ z) := by rw [e]; exact F₁
    have N₂ : News h₀ env.locals s₁.heap ((s.heap.objs.size, oI) :: led i a) := fun p hp => by
      rcases List.mem_cons.mp hp with rfl | hp
      · exact N₁ _ (List.mem_append_left _ hIown)
      · exact N₁ _ (List.mem_append_right _ hp)
    refine wpAny_mono (turn i a y m₁ (s.heap.objs.size, oI) s₁ hy hin hI hsep F₁' N₂) (fun _ s₃ p₃ => wpAny_mono p₃ (fun fl s₂ p => ?_) fun _ _ e => e) fun _ _ e => e
    obtain ⟨rfl, h', tk, m', a', news', e, F', N', hn, ho, hm', hI'⟩ := p
    refine ⟨rfl, h', tk, m', led (i + 1) a', e, F', fun p hp => ?_, fun p hp hq => ho p hp (List.mem_singleton.mp hq), a', rfl, hI', hm'⟩
    rcases List.mem_append.mp hp with hp | hp
    · have h1 := hown p hp
      rcases List.mem_cons.mp h1 with h1 | h1
      · have : p = (s.heap.objs.size, oI) := by
          have e2 := hget p hp
          rw [h1, heI] at e2
          exact Prod.ext h1 (Option.some.inj e2).symm
        rw [this]
        exact N' _ (hn _ List.mem_cons_self)
      · have h2 := List.mem_singleton.mp h1
        have : p = (l, listOf (xs.map f).toArray n) := by
          have e2 := hget p hp
          have e3 := (N₁ _ (List.mem_append_right _ (hm i a))).1
          dsimp only at e3
          rw [h2, e3] at e2
          exact Prod.ext h2 (Option.some.inj e2).symm
        rw [this]
        exact N' _ (hn _ (List.mem_cons_of_mem _ (hm _ _)))
    · exact N' _ (hn _ (List.mem_cons_of_mem _ hp))
  · rintro h' tk m' news' F' N' _ ⟨a, rfl, hI, hmm⟩
    refine done a m' h' tk hI ?_ N'
    have e : (fun z => if ys.contains z then m' z else m₀ z) = m' := by
      funext z
      cases h9 : ys.contains z with
      | true => simp
      | false => simp only [Bool.false_eq_true, if_false]; exact (hmm z h9).symm
    rw [e]; exact F'
end
-- list comprehensions of ints that leave the ledger as it is
section
variable {prog : Program} {w : World} {A : Around} {h₀ : Heap} {L : Addr} {m : Str → Option Value} {env : Env} {elt ct : Expr} {x : Str} {scope : Scope} {cl : List (Str × Addr)} {s : Shared} {S : Led → Prop} {P : Nat → Value → Prop} {Fin : List Value → Led → Prop} {σ : Type}
theorem ints_snoc {ys : List Value} {ns : List Int} {i : Nat} {k : Int} {t : Tok} (h : IntsAre ys (ns.take i)) (hk : ns[i]? = some k) : IntsAre (ys ++ [.int k t]) (ns.take (i + 1)) := by
  rw [List.take_add_one, hk]
  exact IntsAre.append h (.cons k t .nil)
def IntEnd (h₀ : Heap) (L : Addr) (m : Str → Option Value) (s₁ : Shared) (news : Led) (k : Int) (y : Value) (s₂ : Shared) : Prop :=
  ∃ t h' tk', y = .int k t ∧ s₂ = { s₁ with heap := h', toks := tk' } ∧ Fr h₀ L h' m ∧ News h₀ L h' news
theorem IntEnd.intro {s₁ : Shared} {news news' : Led} {k : Int} {t : Tok} {h' : Heap} {tk' : Nat} (F : Fr h₀ L h' m) (N : News h₀ L h' news') (hs : ∀ p ∈ news, p ∈ news') :
    IntEnd h₀ L m s₁ news k (.int k t) { s₁ with heap := h', toks := tk' } := ⟨t, h', tk', rfl, rfl, F, news_sub N hs⟩
theorem comp_ints {n : Nat} {news : Led} (ns : List Int) (hn : ns.length = n) (hS : S news)
    (turn : ∀ i k v I oI C oC D m₂ ys h tk (E' : Value → Shared → Prop), i < n → ns[i]? = some k → P i v → LCg.NsObj oC m₂ → m₂ x = some v → Fr h₀ L h m → News h₀ L h ((I, oI) :: (C, oC) :: (D, LCg.lst ys) :: news) → (∀ p ∈ news, p.1 ≠ I ∧ p.1 ≠ C ∧ p.1 ≠ D) → ((@Ne Nat I C) ∧ (@Ne Nat I D) ∧ (@Ne Nat C D)) →
      wpAny (model prog w) A (eval elt (compEnvC scope cl C env)) (IntEnd h₀ L m { s with heap := h, toks := tk } ((I, oI) :: (C, oC) :: (D, LCg.lst ys) :: news) k) E' { s with heap := h, toks := tk })
    (fin : ∀ ys, IntsAre ys ns → Fin ys news) : LCg.CompRest prog w A h₀ L m env elt x scope cl s S P Fin n 0 [] news := by
  refine comp_state (σ := Unit) (a₀ := ()) (fun _ _ => news) (fun i _ ys => IntsAre ys (ns.take i)) (by simpa using IntsAre.nil) ?_ ?_
  · intro i a v I oI C oC D m₂ ys h tk E' hi hv hy hC hx F N off ne
    obtain ⟨k, hk⟩ : ∃ k, ns[i]? = some k := ⟨_, List.getElem?_eq_getElem (by omega)⟩
    refine wpAny_mono (turn i k v I oI C oC D m₂ ys h tk E' hi hk hv hC hx F N off.mem ne) (fun y s₂ hq => ?_) fun _ _ e => e
    obtain ⟨t, h', tk', rfl, rfl, F', N'⟩ := hq
    exact LCg.CompEnd.intro F' N' news (fun p hp => hp) off hS ⟨(), rfl, ints_snoc hy hk⟩
  · intro _ ys hy
    rw [List.take_of_length_le (by omega)] at hy
    exact fin ys hy
end
section
variable {prog : Program} {w : World} {A : Around} {h₀ : Heap} {L : Addr} {m : Str → Option Value} {env : Env} {elt ct : Expr} {x : Str} {scope : Scope} {cl : List (Str × Addr)} {s : Shared} {S : Led → Prop} {P : Nat → Value → Prop} {Fin : List Value → Led → Prop} {α : Type} {f : α → Value} {xs : List α} {keep : α → Bool}
/-- one round of a filter: the test says keep, the item comes back as it is -/
def FilEnd (h₀ : Heap) (L : Addr) (m : Str → Option Value) (s₁ : Shared) (news : Led) (b b' : Bool) (s₂ : Shared) : Prop :=
  b' = b ∧ ∃ h' tk', s₂ = { s₁ with heap := h', toks := tk' } ∧ Fr h₀ L h' m ∧ News h₀ L h' news
theorem FilEnd.intro {s₁ : Shared} {news news' : Led} {b b' : Bool} {h' : Heap} {tk' : Nat} (hb : b' = b) (F : Fr h₀ L h' m) (N : News h₀ L h' news') (hs : ∀ p ∈ news, p ∈ news') :
    FilEnd h₀ L m s₁ news b b' { s₁ with heap := h', toks := tk' } := ⟨hb, h', tk', rfl, F, news_sub N hs⟩
theorem comp_filter {n : Nat} {news : Led} (hn : xs.length = n) (hP : ∀ i v, i < n → P i v → ∃ y, xs[i]? = some y ∧ v = f y) (hS : S news)
    (test : ∀ i y I oI C oC D m₂ ys h tk (E' : Value → Shared → Prop), i < n → xs[i]? = some y → LCg.NsObj oC m₂ → m₂ x = some (f y) → Fr h₀ L h m → News h₀ L h ((I, oI) :: (C, oC) :: (D, LCg.lst ys) :: news) → (∀ p ∈ news, p.1 ≠ I ∧ p.1 ≠ C ∧ p.1 ≠ D) → ((@Ne Nat I C) ∧ (@Ne Nat I D) ∧ (@Ne Nat C D)) →
      wpAny (model prog w) A (isTrue ct (compEnvC scope cl C env) (eval ct (compEnvC scope cl C env))) (FilEnd h₀ L m { s with heap := h, toks := tk } ((I, oI) :: (C, oC) :: (D, LCg.lst ys) :: news) (keep y)) E' { s with heap := h, toks := tk })
    (item : ∀ i y I oI C oC D m₂ ys h tk (E' : Value → Shared → Prop), i < n → xs[i]? = some y → LCg.NsObj oC m₂ → m₂ x = some (f y) → Fr h₀ L h m → News h₀ L h ((I, oI) :: (C, oC) :: (D, LCg.lst ys) :: news) →
      wpAny (model prog w) A (eval elt (compEnvC scope cl C env)) (fun v s₂ => v = f y ∧ ∃ tk', s₂ = { s with heap := h, toks := tk' }) E' { s with heap := h, toks := tk })
    (fin : Fin ((xs.filter keep).map f) news) : LCt.CompRestT prog w A h₀ L m env ct elt x scope cl s S P Fin n 0 [] news := by
  have key : ∀ (j i : Nat) (ys : List Value), i + j = n → ys = ((xs.take i).filter keep).map f → LCt.CompRestT prog w A h₀ L m env ct elt x scope cl s S P Fin j i ys news := by
    intro j
    induction j with
    | zero =>
      intro i ys hi hy
      obtain rfl : i = n := by omega
      rw [List.take_of_length_le (by omega)] at hy
      exact LCt.CompRestT.zero (hy ▸ fin)
    | succ j ih =>
      intro i ys hi hy
      refine LCt.CompRestT.succ ?_
      intro v I oI C oC D m₂ h tk E' hv hC hx F N off ne
      obtain ⟨y, hxy, rfl⟩ := hP i v (by omega) hv
      have ht : (xs.take (i + 1)).filter keep = (xs.take i).filter keep ++ if keep y then [y] else [] := by
        rw [List.take_add_one, hxy, List.filter_append]
        cases hk : keep y <;> simp [hk]
      refine wpAny_mono (test i y I oI C oC D m₂ ys h tk E' (by omega) hxy hC hx F N off.mem ne) (fun b s₂ hq => ?_) fun _ _ e => e
      obtain ⟨rfl, h', tk', rfl, F', N'⟩ := hq
      cases hb : keep y with
      | true =>
        rw [if_pos rfl]
        refine wpAny_mono (item i y I oI C oC D m₂ ys h' tk' E' (by omega) hxy hC hx F' N') (fun v s₃ hq => ?_) fun _ _ e => e
        obtain ⟨rfl, tk'', rfl⟩ := hq
        exact LCg.CompEnd.intro (s₁ := { s with heap := h, toks := tk }) F' N' news (fun p hp => hp) off hS (ih (i + 1) _ (by omega) (by rw [ht, hb, hy]; simp))
      | false =>
        rw [if_neg (by decide)]
        exact LCg.CompEnd.intro (s₁ := { s with heap := h, toks := tk }) F' N' news (fun p hp => hp) off hS (ih (i + 1) _ (by omega) (by rw [ht, hb, hy]; simp))
  exact key n 0 [] (by omega) (by simp)
end
end
-- B1
section
variable {prog : Program} {w : World} {A : Around} {h₀ : Heap} {L : Addr} {m : Str → Option Value} {env : Env} {elt : PySem.Expr} {x : Str} {scope : Scope} {cl : List (Str × Addr)} {s : Shared} {S : Led → Prop} {P : Nat → Value → Prop} {Fin : List Value → Led → Prop}
def IntEndP (h₀ : Heap) (L : Addr) (m : Str → Option Value) (s₁ : Shared) (news : Led) (R : Int → Prop) (y : Value) (s₂ : Shared) : Prop := ∃ k, R k ∧ IntEnd h₀ L m s₁ news k y s₂
theorem IntEndP.intro {R : Int → Prop} {s₁ : Shared} {news news' : Led} {k : Int} {t : Tok} {h' : Heap} {tk' : Nat} (F : Fr h₀ L h' m) (N : News h₀ L h' news') (hs : ∀ p ∈ news, p ∈ news') (hr : R k) :
    IntEndP h₀ L m s₁ news R (.int k t) { s₁ with heap := h', toks := tk' } := ⟨k, hr, IntEnd.intro F N hs⟩
theorem comp_intsP {n : Nat} {news : Led} (R : Int → Prop) (hS : S news)
    (turn : ∀ i v I oI C oC D m₂ ys h tk (E' : Value → Shared → Prop), i < n → P i v → LCg.NsObj oC m₂ → m₂ x = some v → Fr h₀ L h m → News h₀ L h ((I, oI) :: (C, oC) :: (D, LCg.lst ys) :: news) → (∀ p ∈ news, p.1 ≠ I ∧ p.1 ≠ C ∧ p.1 ≠ D) → ((@Ne Nat I C) ∧ (@Ne Nat I D) ∧ (@Ne Nat C D)) →
      wpAny (model prog w) A (eval elt (compEnvC scope cl C env)) (IntEndP h₀ L m { s with heap := h, toks := tk } ((I, oI) :: (C, oC) :: (D, LCg.lst ys) :: news) R) E' { s with heap := h, toks := tk })
    (fin : ∀ ys ns, IntsAre ys ns → ns.length = n → (∀ k ∈ ns, R k) → Fin ys news) : LCg.CompRest prog w A h₀ L m env elt x scope cl s S P Fin n 0 [] news := by
  refine comp_state (σ := Unit) (a₀ := ()) (fun _ _ => news) (fun i _ ys => ∃ ns, IntsAre ys ns ∧ ns.length = i ∧ ∀ k ∈ ns, R k) ⟨[], IntsAre.nil, rfl, fun _ h => by cases h⟩ ?_ ?_
  · rintro i a v I oI C oC D m₂ ys h tk E' hi hv ⟨ns, hy, hl, hr⟩ hC hx F N off ne
    refine wpAny_mono (turn i v I oI C oC D m₂ ys h tk E' hi hv hC hx F N off.mem ne) (fun y s₂ hq => ?_) fun _ _ e => e
    obtain ⟨k, hk, t, h', tk', rfl, rfl, F', N'⟩ := hq
    exact LCg.CompEnd.intro F' N' news (fun p hp => hp) off hS ⟨(), rfl, ns ++ [k], hy.append (IntsAre.cons _ _ IntsAre.nil), by simp [hl], fun q hq => by
      rcases List.mem_append.mp hq with h | h
      · exact hr q h
      · rw [List.mem_singleton.mp h]; exact hk⟩
  · rintro _ ys ⟨ns, hy, hl, hr⟩
    exact fin ys ns hy hl hr
theorem off1_mem {D : Addr} : ∀ {l : Led}, LCg.Off1 D l → ∀ p ∈ l, @Ne Nat p.1 D
  | [], _, _, h => nomatch h
  | _ :: _, ho, p, h => by
    rcases List.mem_cons.mp h with h | h
    · rw [h]; exact ho.1
    · exact off1_mem ho.2 p h
theorem drop_t {h₀ h : Heap} {L : Addr} {a b c d : Addr × Obj} {l : Led} (N : News h₀ L h (a :: b :: c :: d :: l)) : News h₀ L h (a :: c :: l) := news_sub N fun p hp => by
  simp only [List.mem_cons] at hp ⊢
  rcases hp with h | h | h <;> simp [h]
theorem sum_bound {ns : List Int} {c : Int} (hc : 0 ≤ c) (h : ∀ k ∈ ns, 0 ≤ k ∧ k < c) : 0 ≤ ns.sum ∧ ns.sum ≤ c * ns.length := by
  induction ns with
  | nil => simp
  | cons a r ih =>
    have h1 := ih fun k hk => h k (List.mem_cons_of_mem _ hk)
    have h2 := h a List.mem_cons_self
    simp only [List.sum_cons, List.length_cons]
    have e : c * ((r.length + 1 : Nat) : Int) = c * r.length + c := by rw [Int.natCast_add, Int.mul_add]; simp
    rw [e]
    omega
end
section
variable {prog : Program} {w : World} {p : Program} {loose : List Str} {mean : ExcName → Option Value} {mg mb : Str → Option Value}
  {dp un : Nat} {gdd : Option (List Code)} {cn : Str} {cs : Scope} {a : Addr} {ccd : Value} {cl : List (Str × Addr)} {outer : List Env} {A₀ : Around} {base h₀ : Heap} {L : Addr} {m : Str → Option Value} {s : Shared} {Q E : Value → Shared → Prop}
  (B : Below A₀ base outer h₀) (F : Fr h₀ L s.heap m) (X : (Mine.hd.heap_39 w.params).In h₀) (T : Top p loose mean mg mb h₀) (hk : cs.kind = .function)
include B F X T hk
set_option maxRecDepth 100000 in
set_option maxHeartbeats 4000000 in
theorem box_spec {news : Led} {l : Addr} {sv : List Value} {ss : List Int} {sn : Nat} 
  (N : News h₀ L s.heap news) (hl : (l, listOf sv.toArray sn) ∈ news) (hi : IntsAre sv ss) (hlen : ss.length ≤ 63)
  (hroom : dp + 4 < recursionLimit) (hunits : un + 60 < cLine)
  (ret : ∀ (b g : Addr) (ob : Obj) (gv : List Value) (gs : List Int) (gn : Nat) (h' : Heap) (tk' : Nat), Fr h₀ L h' m → News h₀ L h' ((b, ob) :: (g, listOf gv.toArray gn) :: news) → @LT.lt Nat _ g b → (∀ p ∈ news, p.1 ≠ g) → (∀ p ∈ news, @LT.lt Nat _ p.1 b) → IntsAre gv gs → gs.length ≤ 24 → BoxOk g ob → Q (.ref b) { s with heap := h', toks := tk' }) :
  wpAny (model prog w) (ktrTop dp un gdd cn cs L a ccd cl outer) (call (.ref 260) [.ref l]) Q E s := by
  w_top off
  k_with_none
  k_steps
  refine Halt.on ?_
  k_dflt (refine LCg.Assign_ListComp_U (F₀ := by k_asm) (by rfl) (by with_unfolding_all rfl) (by with_unfolding_all rfl) (by decide) (by rfl) (by decide) (by rfl) (by rfl) (by rfl) ?_)
  k_steps
  rename Fr _ _ _ _ => F7
  rename News _ _ _ _ => N7
  rename IntsAre _ (List.take 24 ss) => hI7
  refine Halt.on ?_
  have hlen7 := hI7.length
  k_dflt (refine LCg.CompSrc.ledger (by rfl) F7 N7 (its := List.toArray _) (k := 0) (by walk_at "my mem") (by simp [sizeLine_eq]; omega) ?_)
  intro g9
  refine comp_intsP (fun _ => True) (.inr ⟨_, by walk_at "my mem", rfl, _, rfl⟩) ?turn ?fin
  case turn =>
    intro i v I oI C oC D m₂ ys h tk E' hi hv hC hx F8 N8 off ne
    obtain ⟨n9, t9, rfl, _⟩ := hI7.at i v (by simpa using hv)
    clear F7 N7
    (try k_fold)
    k_steps
    refine IntEndP.intro (by assumption) N8 (fun p hp => hp) trivial
  case fin =>
    intro ys ns hy hl _ D h tk F8 N8 off
    have hl24 : ns.length ≤ 24 := by
      have e : (List.take 24 ss).length ≤ 24 := by rw [List.length_take]; omega
      simp only [List.size_toArray] at hl
      omega
    have hyl := hy.length
    clear F7 N7
    (try k_fold)
    k_steps
    refine Halt.on ?_
    k_dflt (refine LCg.ListComp_U (F₀ := by k_asm) (by rfl) (by decide) (by rfl) (by decide) (by rfl) ?_)
    k_steps
    rename Fr _ _ _ _ => F7
    rename News _ _ _ _ => N7
    refine Halt.on ?_
    k_dflt (refine LCg.CompSrc.ledger (by rfl) F7 N7 (its := ys.toArray) (by walk_at "my mem") (by simp [sizeLine_eq]; omega) ?_)
    intro g8
    refine comp_intsP (fun k => 0 ≤ k ∧ k < 9973) (.inr ⟨_, by walk_at "my mem", rfl, _, rfl⟩) ?turn ?fin
    case turn =>
      intro i v I oI C oC D m₂ ys' h tk E' hi hv hC hx F8 N8 off ne
      obtain ⟨n9, t9, rfl, _⟩ := hy.at i v (by simpa using hv)
      clear F7 N7
      (try k_fold)
      k_steps
      refine IntEndP.intro (by assumption) N8 (fun p hp => hp) ⟨fmod_lo _ (by decide), fmod_hi _ (by decide)⟩
    case fin =>
      intro ys2 ns2 hy2 hl2 hr2 D2 h2 tk2 F9 N9 off2
      have hsb := sum_bound (by decide) hr2
      simp only [List.size_toArray] at hl2
      clear F7 N7
      (try k_fold)
      k_steps
      rename (_ ∧ _ ∧ _ ∧ AllLt _ news) => l9
      rename News h₀ L _ _ => kN
      exact ret _ D _ ys ns _ _ _ (by assumption) (drop_t kN) l9.2.1 (fun p hp => off1_mem off p (List.mem_cons_of_mem _ hp)) (allLt_all l9.2.2.2) hy hl24 ⟨0, _, 19 + ns2.sum, _, _, rfl, by omega, by omega, by omega⟩
end
-- W8
section
open PySem PySem.W PyProof.Rows PySem.Spec
section
variable {prog : Program} {w : World} {A : Around} {E : Value → Shared → Prop} {s : Shared} {h₀ : Heap} {L : Addr} {m : Str → Option Value} {news : Led}
/-- a list against an empty one -/
theorem ne_nil {α : Type} {f : α → Value} {xs : List α} {l b : Addr} {n k : Nat} {Q : Value → Shared → Prop} (N : News h₀ L s.heap news) (hl : (l, listOf (xs.map f).toArray n) ∈ news) (hb : (b, listOf #[] k) ∈ news) (hu : A.units < cLine)
    (h : Q (.bool (!xs.isEmpty)) s) : wpAny (model prog w) A (compareOp .NotEq (.ref l) (.ref b)) Q E s := by
  have i1 := isl_of N hl
  have i2 := isl_of N hb
  cases xs with
  | nil => exact SeqAt.RcNeAt.lists (A := A) (s := s) (e := fun _ => true) i1 i2 rfl hu (fun j h1 _ => absurd h1 (by simp)) prog w E Q (by simpa using h)
  | cons x r => exact SeqAt.RcNeAt.lists_lengths (A := A) (s := s) i1 i2 (by simp) hu prog w E Q (by simpa using h)
/-- an item of a tuple of the ledger -/
theorem item_tupO {vs : List Value} {value slice : Expr} {t : Addr} {tn : Nat} {k : Int} {u : Tok} {x : Value} {Q : Value → Shared → Prop} (N : News h₀ L s.heap news) (ht : (t, tupO vs tn) ∈ news) (h0 : 0 ≤ k) (hk : k < 4) (hx : vs[k.toNat]? = some x) (h : Q x s)
    (hs : subscripted slice false (.ref t) (.int k u) = operate [.ref t, .int k u] (getItem (.ref t) (.int k u)) := by with_unfolding_all rfl) :
    wpAny (model prog w) A (subscriptTail value slice (.ref t) (.int k u)) Q E s := by
  have hT : IsTup s.heap t vs.toArray := ⟨_, (N _ ht).1, rfl, _, rfl⟩
  obtain ⟨hl, _⟩ := List.getElem?_eq_some_iff.mp hx
  have hj : seqIndex? k vs.length = some k.toNat := by
    unfold seqIndex?
    simp only [if_neg (show ¬ k < 0 by omega)]
    first | rw [if_pos (by omega)] | (rw [if_neg (by omega)]) | simp; try omega
  exact item_tupleT hT (by omega) (by omega) hj hx h hs
end
/-- a function with what it shares and its cells -/
structure FnX extends FnA where
  (us xs : List Addr) (un xn : Nat)
structure FnXIn (P : Params) (f : FnX) (rest : Led) : Prop where
  tup : (f.tup, tupO [.ref f.clo, .ref f.cl] f.tn) ∈ rest
  clo : (f.clo, instObj 109 f.cd) ∈ rest
  cd : (f.cd, cloD P f.ct f.sz f.pr f.ul) ∈ rest
  ul : (f.ul, refsL (fun x : Addr => x) f.us f.un) ∈ rest
  cl : (f.cl, refsL (fun x : Addr => x) f.xs f.xn) ∈ rest
  len : f.us.length = f.xs.length
  few : f.xs.length ≤ 2
def FnXsIn (P : Params) (fs : List FnX) (rest : Led) : Prop := ∀ f ∈ fs, FnXIn P f rest
local macro_rules | `(tactic| walk_at "my fact") => `(tactic| with_reducible exact FnXIn.tup (by with_reducible assumption))
local macro_rules | `(tactic| walk_at "my fact") => `(tactic| with_reducible exact FnXIn.clo (by with_reducible assumption))
local macro_rules | `(tactic| walk_at "my fact") => `(tactic| with_reducible exact FnXIn.cd (by with_reducible assumption))
local macro_rules | `(tactic| walk_at "my fact") => `(tactic| with_reducible exact FnXIn.ul (by with_reducible assumption))
local macro_rules | `(tactic| walk_at "my fact") => `(tactic| with_reducible exact FnXIn.cl (by with_reducible assumption))
local macro_rules | `(tactic| walk_at "compareOp NotEq ref ref") => `(tactic| (k_here; (with_reducible show wpAny _ _ (compareOp CmpOp.NotEq (Value.ref _) (Value.ref _)) _ _ _); k_dflt (refine ne_nil (by k_asm) (by walk_at "my mem") (by walk_at "my mem") (by units_room) ?_); (try dsimp only)))
local macro_rules | `(tactic| walk_at "subscriptTail Name Constant ref int") => `(tactic| (k_here; (with_reducible show wpAny _ _ (subscriptTail _ _ (Value.ref _) (Value.int _ _)) _ _ _); (with_unfolding_all refine' item_tupO ?k1 ?k2 ?k3 ?k4 ?k5 ?_ ?k6; (case k1 => k_asm); (case k2 => walk_at "my mem"); (case k3 => decide); (case k4 => decide); (case k5 => rfl); (case k6 => with_unfolding_all rfl)); (try dsimp only)))
end
local macro_rules | `(tactic| walk_at "my fact") => `(tactic| with_reducible exact FnXIn.tup (by with_reducible assumption))
local macro_rules | `(tactic| walk_at "my fact") => `(tactic| with_reducible exact FnXIn.clo (by with_reducible assumption))
local macro_rules | `(tactic| walk_at "my fact") => `(tactic| with_reducible exact FnXIn.cd (by with_reducible assumption))
local macro_rules | `(tactic| walk_at "my fact") => `(tactic| with_reducible exact FnXIn.ul (by with_reducible assumption))
local macro_rules | `(tactic| walk_at "my fact") => `(tactic| with_reducible exact FnXIn.cl (by with_reducible assumption))
local macro_rules | `(tactic| walk_at "compareOp NotEq ref ref") => `(tactic| (k_here; (with_reducible show wpAny _ _ (compareOp CmpOp.NotEq (Value.ref _) (Value.ref _)) _ _ _); k_dflt (refine ne_nil (by k_asm) (by walk_at "my mem") (by walk_at "my mem") (by units_room) ?_); (try dsimp only)))
local macro_rules | `(tactic| walk_at "subscriptTail Name Constant ref int") => `(tactic| (k_here; (with_reducible show wpAny _ _ (subscriptTail _ _ (Value.ref _) (Value.int _ _)) _ _ _); (with_unfolding_all refine' item_tupO ?k1 ?k2 ?k3 ?k4 ?k5 ?_ ?k6; (case k1 => k_asm); (case k2 => walk_at "my mem"); (case k3 => decide); (case k4 => decide); (case k5 => rfl); (case k6 => with_unfolding_all rfl)); (try dsimp only)))
-- E4
section
local macro_rules | `(tactic| walk_at "call ref") => `(tactic| (k_here; (try dsimp only [List.cons_append, List.nil_append]); (with_reducible show wpAny _ _ (call (Value.ref 194) [Value.ref _]) _ _ _); k_dflt (refine' close_specU ?k1 ?k2 ?k3 ?k4 ?kK ?N ?U ?hu ?hst ?hgr ?hgd ?hne ?hl ?hi0 ?hi1 ?kd ?ku ?_; (case k1 => k_asm); (case k2 => k_asm); (case k3 => k_asm); (case k4 => k_asm); (case kK => first | exact rfl | with_reducible assumption); (case N => k_asm); (case hu => k_mem); (case U => k_updF); (case hgr => k_mem); (case hgd => k_mem); (case hst => k_mem); (case hne => with_reducible assumption); (case hl => with_reducible assumption); (case hi0 => with_reducible assumption); (case hi1 => with_reducible assumption); (case kd => ktr_room); (case ku => ktr_units)); intro T9 h9 tk9 F9 N9; (try dsimp only at N9); (try dsimp only); (try k_fold)))
local macro_rules | `(tactic| walk_at "call ref") => `(tactic| (k_here; (try dsimp only [List.cons_append, List.nil_append]); (with_reducible show wpAny _ _ (call (Value.ref 180) [Value.ref _]) _ _ _); k_dflt (refine' get_spec ?k1 ?k2 ?k3 ?k4 ?kK ?N ?hgr ?hgd ?hst ?hl ?hu ?kd ?ku ?_; (case k1 => k_asm); (case k2 => k_asm); (case k3 => k_asm); (case k4 => k_asm); (case kK => first | exact rfl | with_reducible assumption); (case N => k_asm); (case hgr => k_mem); (case hgd => k_mem); (case hst => k_mem); (case hl => with_reducible assumption); (case hu => walk_at "my reads"); (case kd => ktr_room); (case ku => ktr_units)); intro t9 h9 tk9 F9 N9; (try dsimp only); (try k_fold)))
local macro_rules | `(tactic| walk_at "my reads") => `(tactic| first | with_reducible assumption | exact UpReads.at (by with_reducible assumption) (by with_reducible assumption))
local macro_rules | `(tactic| walk_at "getMethod ref") => `(tactic| (k_here; (with_reducible show wpAny _ _ (getMethod (Value.ref _) (Str.ofString "get") _) _ _ _); k_dflt (refine' getmeth_up ?F ?X ?N ?hu ?_; (case F => k_asm); (case X => k_asm); (case N => k_asm); (case hu => walk_at "my reads"))))
local macro_rules | `(tactic| walk_at "call ref") => `(tactic| (k_here; (try dsimp only [List.cons_append, List.nil_append]); (with_reducible show wpAny _ _ (call (Value.ref 187) [Value.ref _, Value.int _ _]) _ _ _); k_dflt (refine' setc_specU ?k1 ?k2 ?k3 ?k4 ?kK ?N ?U ?hu ?kd ?ku ?_; (case k1 => k_asm); (case k2 => k_asm); (case k3 => k_asm); (case k4 => k_asm); (case kK => first | exact rfl | with_reducible assumption); (case N => k_asm); (case hu => k_mem); (case U => k_updF); (case kd => ktr_room); (case ku => ktr_units)); intro h9 tk9 F9 N9; (try dsimp only at N9); (try dsimp only); (try k_fold)))
local macro_rules | `(tactic| walk_at "call ref") => `(tactic| (k_here; (try dsimp only [List.cons_append, List.nil_append]); (with_reducible show wpAny _ _ (call (Value.ref 187) [Value.ref _, Value.int _ _]) _ _ _); k_dflt (refine' seto_specU ?k1 ?k2 ?k3 ?k4 ?kK ?N ?U ?hu ?hd ?hgr ?hgd ?hl ?hi0 ?hi1 ?kd ?ku ?_; (case k1 => k_asm); (case k2 => k_asm); (case k3 => k_asm); (case k4 => k_asm); (case kK => first | exact rfl | with_reducible assumption); (case N => k_asm); (case hu => k_mem); (case hd => k_mem); (case hgr => k_mem); (case hgd => k_mem); (case U => k_updF); (case hl => with_reducible assumption); (case hi0 => with_reducible assumption); (case hi1 => with_reducible assumption); (case kd => ktr_room); (case ku => ktr_units)); intro h9 tk9 F9 N9; (try dsimp only at N9); (try dsimp only); (try k_fold)))
local macro_rules | `(tactic| walk_at "subscriptTail Name") => `(tactic| (k_here; (with_reducible show wpAny _ _ (subscriptTail _ _ (Value.ref _) (Value.int _ _)) _ _ _); (with_unfolding_all refine' item_map ?k1 ?k2 ?k3 ?k4 ?k5 ?_ ?k6; (case k1 => k_asm); (case k2 => walk_at "my mem"); (case k3 => with_reducible assumption); (case k4 => omega); (case k5 => omega); (case k6 => with_unfolding_all rfl)); intro xI hxI hmI; (try dsimp only)))
local macro_rules | `(tactic| walk_at "subscriptTail Name Call ref int") => `(tactic| (k_here; (with_reducible show wpAny _ _ (subscriptTail _ _ (Value.ref _) (Value.int _ _)) _ _ _); (with_unfolding_all refine' item_map ?k1 ?k2 ?k3 ?k4 ?k5 ?_ ?k6; (case k1 => k_asm); (case k2 => walk_at "my mem"); (case k3 => with_reducible assumption); (case k4 => omega); (case k5 => omega); (case k6 => with_unfolding_all rfl)); intro xI hxI hmI; (try dsimp only)))
def isDictO (o : Obj) : Bool := match o.data with | .dict _ _ => true | _ => false
theorem news_ne {h₀ h : Heap} {L a d : Addr} {o o' : Obj} {news : Led} (N : News h₀ L h news) (h1 : (a, o) ∈ news) (h2 : (d, o') ∈ news) (e1 : isDictO o = false) (e2 : isDictO o' = true) : @Ne Nat a d := fun e => by
  subst e
  have q := Option.some.inj ((N _ h1).1.symm.trans (N _ h2).1)
  subst q
  rw [e2] at e1
  cases e1
def key4 (o : Obj) : Option Str := match o.data with | .dict es _ => (match es[3]? with | some q => (match q.key with | .str x _ => some x | _ => none) | none => none) | _ => none
theorem clo_up {P : Params} {T : CT} {sz i : Int} {pr ul : Addr} {T1 : UT} {th v : Value} : cloD P T sz pr ul ≠ upD P T1 th i v := fun e => by
  have q : some (Str.ofString "proto") = some (Str.ofString "thread") := congrArg key4 e
  exact absurd q (by decide)
theorem news_neq {h₀ h : Heap} {L a d : Addr} {o o' : Obj} {news : Led} (N : News h₀ L h news) (h1 : (a, o) ∈ news) (h2 : (d, o') ∈ news) (e1 : o ≠ o') : @Ne Nat a d := fun e => by
  subst e
  exact e1 (Option.some.inj ((N _ h1).1.symm.trans (N _ h2).1))
theorem in10 {rest : Led} {p a1 a2 a3 a4 a5 a6 a7 a8 a9 a10 : Addr × Obj} (h : p ∈ rest) : p ∈ a1 :: a2 :: a3 :: a4 :: a5 :: a6 :: a7 :: a8 :: a9 :: a10 :: rest := by
  simp only [List.mem_cons]; simp [h]
theorem in3 {rest : Led} {p a1 a2 a3 : Addr × Obj} (h : p ∈ rest) : p ∈ a1 :: a2 :: a3 :: rest := by
  simp only [List.mem_cons]; simp [h]
section
variable {prog : Program} {w : World} {p : Program} {loose : List Str} {mean : ExcName → Option Value} {mg mb : Str → Option Value}
  {dp un : Nat} {gdd : Option (List Code)} {cn : Str} {cs : Scope} {a : Addr} {ccd : Value} {cl : List (Str × Addr)} {outer : List Env} {A₀ : Around} {base h₀ : Heap} {L : Addr} {m : Str → Option Value} {s : Shared} {Q E : Value → Shared → Prop}
  (B : Below A₀ base outer h₀) (F : Fr h₀ L s.heap m) (X : (Mine.hd.heap_39 w.params).In h₀) (T : Top p loose mean mg mb h₀) (hk : cs.kind = .function)
include B F X T hk
set_option maxRecDepth 100000 in
set_option maxHeartbeats 6000000 in
theorem writek_spec {rest : Led} {b g wd gr gd stk opn frs fns fd : Addr} {ob owd oo ofd : Obj} {k1 k2 tm : Tok} {made : Int} {st : List (Int × Tok)} {sn frn fnn : Nat} {fds : List Addr} {fs : List FnX}
  (N : News h₀ L s.heap ((b, ob) :: (wd, owd) :: (gd, gdD w.params k1 k2 stk opn) :: (stk, intsL st sn) :: (opn, oo) :: (frs, refsL (fun x : Addr => x) (fds ++ [fd]) frn) :: (fns, refsL (fun f : FnX => f.tup) fs fnn) :: rest))
  (hnd : (((b, ob) :: (wd, owd) :: (gd, gdD w.params k1 k2 stk opn) :: (stk, intsL st sn) :: (opn, oo) :: (frs, refsL (fun x : Addr => x) (fds ++ [fd]) frn) :: (fns, refsL (fun f : FnX => f.tup) fs fnn) :: rest).map (·.1)).Nodup)
  (hb : BoxOk g ob) (hg : GivenOk g rest) (hgb : @Ne Nat g b) (hd : owd.IsDictOf (strKind prog w) (wkv gr fns frs made tm))
  (hgr : (gr, instObj 216 gd) ∈ rest) (hst : st.length < 500) (hfd : fds.length < 500) (hfdm : (fd, ofd) ∈ rest) (hfs : FnXsIn w.params fs rest) (hfl : fs.length < 500)
  (hu : ∀ f ∈ fs, ∀ u ∈ f.us, ∃ d, (u, instObj 197 d) ∈ rest ∧ ((∃ T1 v0 t0, (d, upD w.params T1 .none (-1) (.int v0 t0)) ∈ rest) ∨ ∃ T1 i, (d, upD w.params T1 (.ref gr) i .none) ∈ rest ∧ 0 ≤ i ∧ i < st.length))
  (hx : ∀ f ∈ fs, ∀ x ∈ f.xs, ∃ v tv id ti n, (x, cellO v tv id ti n) ∈ rest)
  (hroom : dp + 6 < recursionLimit) (hunits : un + 60 < cLine)
  (ret0 : ∀ (ob' : Obj) (h' : Heap) (tk' : Nat), BoxOk g ob' → Fr h₀ L h' m → News h₀ L h' ((b, ob') :: (wd, owd) :: (gd, gdD w.params k1 k2 stk opn) :: (stk, intsL st sn) :: (opn, oo) :: (frs, refsL (fun x : Addr => x) (fds ++ [fd]) frn) :: (fns, refsL (fun f : FnX => f.tup) fs fnn) :: rest) → Q .none { s with heap := h', toks := tk' })
  (retc : ∀ (ob' : Obj) (f : FnX) (at' value : Int) (tv t1 t0 ti : Tok) (u d x : Addr) (T1 : UT) (v0 v id : Int) (n : Nat) (rest2 : Led) (h' : Heap) (tk' : Nat), BoxOk g ob' → f ∈ fs → 0 ≤ at' → at' < f.xs.length →
    f.us[at'.toNat]? = some u → f.xs[at'.toNat]? = some x → (u, instObj 197 d) ∈ rest → (d, upD w.params T1 .none (-1) (.int v0 t1)) ∈ rest → (x, cellO v t0 id ti n) ∈ rest → Fr h₀ L h' m → News h₀ L h' ((x, cellO value tv id ti n) :: rest2) →
    (d, upD w.params T1 .none (-1) (.int value tv)) ∈ rest2 → (∀ p ∈ (b, ob') :: (wd, owd) :: (gd, gdD w.params k1 k2 stk opn) :: (stk, intsL st sn) :: (opn, oo) :: (frs, refsL (fun x : Addr => x) (fds ++ [fd]) frn) :: (fns, refsL (fun f : FnX => f.tup) fs fnn) :: rest, p.1 ≠ x → p.1 ≠ d → p ∈ rest2) → Q .none { s with heap := h', toks := tk' })
  (reto : ∀ (ob' : Obj) (f : FnX) (at' value : Int) (tv t0 ti : Tok) (u d x : Addr) (T1 : UT) (i v id : Int) (n : Nat) (rest2 : Led) (h' : Heap) (tk' : Nat), BoxOk g ob' → f ∈ fs → 0 ≤ at' → at' < f.xs.length →
    f.us[at'.toNat]? = some u → f.xs[at'.toNat]? = some x → (u, instObj 197 d) ∈ rest → (d, upD w.params T1 (.ref gr) i .none) ∈ rest → 0 ≤ i → i < st.length → (x, cellO v t0 id ti n) ∈ rest → Fr h₀ L h' m → News h₀ L h' ((x, cellO value tv id ti n) :: rest2) →
    (∀ p ∈ (b, ob') :: (wd, owd) :: (gd, gdD w.params k1 k2 stk opn) :: (stk, intsL (st.set i.toNat (value, tv)) sn) :: (opn, oo) :: (frs, refsL (fun x : Addr => x) (fds ++ [fd]) frn) :: (fns, refsL (fun f : FnX => f.tup) fs fnn) :: rest, p.1 ≠ x → p ∈ rest2) → Q .none { s with heap := h', toks := tk' }) :
  wpAny (model prog w) (ktrTop dp un gdd cn cs L a ccd cl outer) (call (.ref 298) [.ref b, .ref wd, .bool true]) Q E s := by
  w_top off
  k_with_none
  obtain ⟨S, o1, o2, o3, o4, o5, o6, o7⟩ := seven_of hnd
  k_steps
  refine Halt.on ?_
  k_dflt (refine LCt.Assign_ListComp_T (F₀ := by k_asm) (by rfl) (by with_unfolding_all rfl) (by with_unfolding_all rfl) (by decide) (by rfl) (by decide) (by rfl) (by rfl) (by rfl) ?_)
  k_with "CompSrcT" => (refine Halt.of ?_)
  k_steps
  rename_i F7 N7
  refine Halt.on ?_
  k_with_none
  k_dflt (refine LCt.CompSrcT.ledger (by rfl) F7 N7 (ax := fns) (its := (fs.map fun f : FnX => Value.ref f.tup).toArray) (k := fnn) (by k_mem) (by simp [sizeLine_eq]; omega) ?_)
  intro g9
  refine comp_filter (f := fun f : FnX => Value.ref f.tup) (xs := fs) (keep := fun f : FnX => !f.xs.isEmpty) (by simp) (fun i v hi hv => ?hP) (.inr ⟨_, by k_mem, rfl, _, rfl⟩) ?test ?item ?fin
  case hP =>
    have hv' : (fs.map fun f : FnX => Value.ref f.tup)[i]? = some v := by simpa using hv
    rw [List.getElem?_map] at hv'
    cases hx : fs[i]? with
    | none => rw [hx] at hv'; cases hv'
    | some y => rw [hx] at hv'; exact ⟨y, rfl, (Option.some.inj hv').symm⟩
  case test =>
    intro i y I oI C oC D m₂ ys h tk E' hi hxy hC hx9 F8 N8 off ne
    have hy := hfs y (List.mem_of_getElem? hxy)
    clear F7 N7
    (try k_fold)
    k_steps
    rename News _ _ _ _ => N9
    refine FilEnd.intro rfl (by assumption) N9 ?_
    intro p hp
    exact List.mem_cons_of_mem _ hp
  case item =>
    intro i y I oI C oC D m₂ ys h tk E' hi hxy hC hx9 F8 N8
    clear F7 N7
    (try k_fold)
    k_steps
  case fin =>
    intro D h tk F8 N8 off
    have hfk : ∀ f ∈ fs.filter (fun f : FnX => !f.xs.isEmpty), f ∈ fs ∧ f.xs ≠ [] := fun f hf => ⟨(List.mem_filter.mp hf).1, by have := (List.mem_filter.mp hf).2; simpa using this⟩
    have hfkl : (fs.filter (fun f : FnX => !f.xs.isEmpty)).length < 500 := Nat.lt_of_le_of_lt (List.length_filter_le _ _) hfl
    generalize fs.filter (fun f : FnX => !f.xs.isEmpty) = fk at N8 hfk hfkl
    obtain ⟨d0, d1, d2, d3, d4, d5, d6, d7, d8⟩ := off
    have d1 : @Ne Nat b D := d1
    have d2 : @Ne Nat wd D := d2
    have d3 : @Ne Nat gd D := d3
    have d4 : @Ne Nat stk D := d4
    have d5 : @Ne Nat opn D := d5
    have d6 : @Ne Nat frs D := d6
    have d7 : @Ne Nat fns D := d7
    have N9 : News _ _ h ((D, refsL (fun f : FnX => f.tup) fk (fk.map fun f : FnX => Value.ref f.tup).length) :: _) := N8
    clear F7 N7 N8 d0 d8
    (try k_fold)
    k_with "call ref" => ((with_reducible show wpAny _ _ (call (Value.ref 267) _) _ _ _); refine Halt.of ?_)
    k_steps
    case _ =>
      rename News _ _ _ _ => N9
      rename BoxOk g _ => hb9
      exact ret0 _ _ _ hb9 (by assumption) (news_sub N9 fun p hp => in3 hp)
    case _ =>
      refine Halt.on ?_
      have h0 : (0 : Int) < (fk.length : Int) := by
        rename fk.isEmpty = false => ha
        cases fk with
        | nil => cases ha
        | cons a b => simp only [List.length_cons]; omega
      k_with_none
      k_with "assign Tuple ref" => (refine Halt.of ?_)
      k_with "assign" => (refine Halt.of ?_)
      k_steps
      refine Halt.on ?_
      rename fk[_]? = some _ => hxI
      rename _ ∈ fk => hmI
      rename FnX => f
      have hX := hfs _ (hfk _ hmI).1
      have hX0 : (0 : Int) < (f.xs.length : Int) := by
        have := (hfk _ hmI).2
        have := List.length_pos_iff.mpr this
        omega
      have hXl : f.us.length < 1000 := by have := hX.len; have := hX.few; omega
      have hXf : f.xs.length ≤ 2 := hX.few
      have hXx := hx _ (hfk _ hmI).1
      have hXu := hu _ (hfk _ hmI).1
      k_with_none
      k_with "call ref" => ((with_reducible show wpAny _ _ (call (Value.ref 99) _) _ _ _); refine Halt.of ?_)
      k_steps
      refine Halt.on ?_
      rename Fr _ _ _ _ => F9
      rename News _ _ _ _ => N9
      rename BoxOk g _ => hb9
      rename _ < (f.xs.length : Int) => hat1
      rename (0 : Int) ≤ _ => hat0
      have hgen : ∀ k : Int, 0 ≤ k → k < f.xs.length → ∃ u, f.us[k.toNat]? = some u := fun k k0 k1 => ⟨_, List.getElem?_eq_getElem (by have := hX.len; omega)⟩
      obtain ⟨u, hu9⟩ := hgen _ hat0 hat1
      clear hgen
      obtain ⟨d, hud, hcase⟩ := hXu _ (List.mem_of_getElem? hu9)
      rcases hcase with ⟨T1, v0, t0, hdd⟩ | ⟨T1, i, hdd, hi0, hi1⟩
      case inl =>
        obtain ⟨rest2, N10, f1, f2, f3⟩ := focus N9 (in10 hdd)
        have q1 := f2 _ (in10 hud) (news_ne N9 (in10 hud) (in10 hdd) rfl rfl)
        have q2 := f2 _ (in10 hX.clo) (news_ne N9 (in10 hX.clo) (in10 hdd) rfl rfl)
        have q3 : (f.cd, cloD w.params f.ct f.sz f.pr f.ul) ∈ rest2 := f2 _ (in10 hX.cd) (news_neq N9 (in10 hX.cd) (in10 hdd) clo_up)
        have q4 := f2 _ (in10 hX.ul) (news_ne N9 (in10 hX.ul) (in10 hdd) rfl rfl)
        have q5 := f2 _ (in10 hX.cl) (news_ne N9 (in10 hX.cl) (in10 hdd) rfl rfl)
        have q6 : ∀ x v tv id ti n, (x, cellO v tv id ti n) ∈ rest → (x, cellO v tv id ti n) ∈ rest2 := fun x v tv id ti n hh => f2 _ (in10 hh) (news_ne N9 (in10 hh) (in10 hdd) rfl rfl)
        have f2' : ∀ p, p ∈ _ → p.1 ≠ d → p ∈ rest2 := fun p hp => f2 p (in3 hp)
        clear N9 f2 hu hx hfs N
        k_dflt (refine setupc_spec (by k_asm) F9 (by k_asm) (by k_asm) (by first | exact rfl | assumption) N10 f1 q1 q2 q3 q4 hat0 hu9 hXl (by ktr_room) (by ktr_units) ?_)
        intro h5 tk5 F5 N5
        clear N10 F9
        k_with_none
        k_with "setItem ref int" => ((with_reducible show wpAny _ _ (setItem _ (Value.int 0 _) _) _ _ _); refine Halt.of ?_)
        (try dsimp only)
        (try k_fold)
        k_steps
        refine Halt.on ?_
        rename f.xs[_]? = some _ => hxI2
        rename _ ∈ f.xs => hmI2
        obtain ⟨v, t0', id, ti, n, hc⟩ := hXx _ hmI2
        obtain ⟨rest3, N11, g1, g2, g3⟩ := focus N5 (List.mem_cons_of_mem _ (q6 _ _ _ _ _ _ hc))
        clear N5
        k_with_none
        (try k_fold)
        k_steps
        rename News h₀ L _ _ => kN
        refine retc _ f _ _ _ t0 t0' ti u d _ T1 v0 v id n rest3 _ _ hb9 (hfk _ hmI).1 hat0 hat1 hu9 hxI2 hud hdd hc (by assumption) kN ?_ ?_
        · exact g2 _ List.mem_cons_self (Ne.symm (f1 _ (q6 _ _ _ _ _ _ hc)))
        · exact fun p hp px pd => g2 p (List.mem_cons_of_mem _ (f2' p hp pd)) px
      case inr =>
        obtain ⟨rest2, N10, f1, f2, f3⟩ := focus N9 (List.mem_cons_of_mem _ (List.mem_cons_of_mem _ (List.mem_cons_of_mem _ (List.mem_cons_of_mem _ (List.mem_cons_of_mem _ (List.mem_cons_of_mem _ List.mem_cons_self))))))
        have q1 := f2 _ (in10 hud) (o4 _ hud)
        have q2 := f2 _ (in10 hX.clo) (o4 _ hX.clo)
        have q3 := f2 _ (in10 hX.cd) (o4 _ hX.cd)
        have q4 := f2 _ (in10 hX.ul) (o4 _ hX.ul)
        have q5 := f2 _ (in10 hX.cl) (o4 _ hX.cl)
        have q6 := f2 _ (in10 hdd) (o4 _ hdd)
        have q7 := f2 _ (in10 hgr) (o4 _ hgr)
        have q8 : (gd, gdD w.params k1 k2 stk opn) ∈ rest2 := f2 _ (List.mem_cons_of_mem _ (List.mem_cons_of_mem _ (List.mem_cons_of_mem _ (List.mem_cons_of_mem _ (List.mem_cons_of_mem _ List.mem_cons_self))))) S.h34
        have f2' : ∀ p, p ∈ _ → p.1 ≠ stk → p ∈ rest2 := fun p hp => f2 p (in3 hp)
        have hst1 : st.length < 1000 := by omega
        clear N9 f2 hu hx hfs N
        k_dflt (refine setupo_spec (by k_asm) F9 (by k_asm) (by k_asm) (by first | exact rfl | assumption) N10 f1 q1 q6 q7 q8 hst1 hi0 hi1 q2 q3 q4 hat0 hu9 hXl (by ktr_room) (by ktr_units) ?_)
        intro h5 tk5 F5 N5
        clear N10 F9
        k_with_none
        k_with "setItem ref int" => ((with_reducible show wpAny _ _ (setItem _ (Value.int 0 _) _) _ _ _); refine Halt.of ?_)
        (try dsimp only)
        (try k_fold)
        k_steps
        refine Halt.on ?_
        rename f.xs[_]? = some _ => hxI2
        rename _ ∈ f.xs => hmI2
        obtain ⟨v, t0', id, ti, n, hc⟩ := hXx _ hmI2
        have hc2 := f2' _ (List.mem_cons_of_mem _ (List.mem_cons_of_mem _ (List.mem_cons_of_mem _ (List.mem_cons_of_mem _ (List.mem_cons_of_mem _ (List.mem_cons_of_mem _ (List.mem_cons_of_mem _ hc))))))) (o4 _ hc)
        obtain ⟨rest3, N11, g1, g2, g3⟩ := focus N5 (List.mem_cons_of_mem _ hc2)
        clear N5
        k_with_none
        (try k_fold)
        k_steps
        rename News h₀ L _ _ => kN
        refine reto _ f _ _ _ t0' ti u d _ T1 i v id n rest3 _ _ hb9 (hfk _ hmI).1 hat0 hat1 hu9 hxI2 hud hdd hi0 hi1 hc (by assumption) kN ?_
        intro p hp px
        refine g2 p ?_ px
        by_cases hps : p.1 = stk
        · simp only [List.mem_cons] at hp
          rcases hp with h | h | h | h | h | h | h | h
          · exact absurd ((congrArg Prod.fst h).symm.trans hps) S.h14
          · exact absurd ((congrArg Prod.fst h).symm.trans hps) S.h24
          · exact absurd ((congrArg Prod.fst h).symm.trans hps) S.h34
          · rw [h]; exact List.mem_cons_self
          · exact absurd ((congrArg Prod.fst h).symm.trans hps) (Ne.symm S.h45)
          · exact absurd ((congrArg Prod.fst h).symm.trans hps) (Ne.symm S.h46)
          · exact absurd ((congrArg Prod.fst h).symm.trans hps) (Ne.symm S.h47)
          · exact absurd hps (o4 _ h)
        · refine List.mem_cons_of_mem _ (f2' p ?_ hps)
          simp only [List.mem_cons] at hp ⊢
          rcases hp with h | h | h | h | h | h | h | h
          · exact .inl h
          · exact .inr (.inl h)
          · exact .inr (.inr (.inl h))
          · exact absurd (congrArg Prod.fst h) hps
          · exact .inr (.inr (.inr (.inr (.inl h))))
          · exact .inr (.inr (.inr (.inr (.inr (.inl h)))))
          · exact .inr (.inr (.inr (.inr (.inr (.inr (.inl h))))))
          · exact .inr (.inr (.inr (.inr (.inr (.inr (.inr h))))))
end
end
-- W9
section
open PySem PySem.W PyProof.Rows PySem.Spec
section
variable {prog : Program} {w : World} {A : Around} {E : Value → Shared → Prop} {s : Shared} {env : Env} {h₀ : Heap} {x : Str} {body : List Stmt} {Q : Flow → Shared → Prop} {σ : Type}
theorem iter_range {r : Addr} {b : Int} {t₀ u₀ v₀ : Tok} {m₀ : Str → Option Value} {a₀ : σ} (ys : List Str) (led : Nat → σ → Led) (I : Nat → σ → Prop)
    (hh : A.handled = none) (hr : IsRange s.heap r 0 b 1 t₀ u₀ v₀) (hb0 : 0 ≤ b) (hb1 : b < 50) (F : Fr h₀ env.locals s.heap m₀) (N : News h₀ env.locals s.heap (led 0 a₀)) (hi : I 0 a₀)
    (turn : ∀ i a t (u : Str → Option Value) it h tk, i < b.toNat → I i a → (∀ p ∈ led i a, p.1 ≠ it.1) → Fr h₀ env.locals h (fun z => if z = x then some (.int (i : Int) t) else if ys.contains z then u z else m₀ z) → News h₀ env.locals h (it :: led i a) →
      wpAny (model prog w) A (execs body env) (FLPost h₀ env.locals x ys m₀ it (led (i + 1)) (I (i + 1)) { s with heap := h, toks := tk } Q) E { s with heap := h, toks := tk })
    (done : ∀ a (u : Str → Option Value) h tk, I b.toNat a → Fr h₀ env.locals h (fun z => if z = x then u z else if ys.contains z then u z else m₀ z) → News h₀ env.locals h (led b.toNat a) → Q .next { s with heap := h, toks := tk }) :
    wpAny (model prog w) A (pyIter (.ref r)) (fun it s₂ => LoopAtV prog w A h₀ env x body Q E it s₂) E s := by
  have hn : Builtin.Range.rangeSize 0 b 1 = (b.toNat : Int) := by unfold Builtin.Range.rangeSize; simp; omega
  have hsmall : Builtin.Range.small 0 b 1 = true := small_one (by decide) (by decide) (by omega) (by omega)
  refine wpAny_pyIter_range hr hsmall ?_
  have W : Walks prog w A s.heap.objs.size [s.heap.objs.size] [s.heap.objs.size] b.toNat (fun i v => i < b.toNat ∧ ∃ t, v = .int (0 + i * 1) t)
      (fun i h => IsRangeIter h s.heap.objs.size (0 + (i : Nat) * 1) ((b.toNat : Int) - (i : Nat)) 1) := (Walks.range hh _ 0 1 b.toNat).bound
  let J' : Nat → (Str → Option Value) → Led → Prop := fun i m₁ news₁ => ∃ a, news₁ = led i a ∧ I i a ∧ ∀ z, z ≠ x → ys.contains z = false → m₁ z = m₀ z
  refine ⟨_, _, _, b.toNat, _, _, m₀, led 0 a₀, J', rfl, W, ?_, ?_, ?_, (by show IsRangeIter _ _ _ _ _; rw [hn]; simpa using Heap.get?_push_size _ rfl), F.push _, (fun p hp => ⟨Heap.get?_push_of_some _ (N p hp).1, (N p hp).2⟩), ⟨a₀, rfl, hi, fun _ _ _ => rfl⟩, ?_, ?_⟩
  · intro hm
    exact absurd F.ns.lt ((List.mem_singleton.mp hm) ▸ Nat.lt_irrefl _)
  · intro b hb
    rw [List.mem_singleton.mp hb]
    exact next_is_new F
  · intro p hp hI
    exact absurd (Heap.lt_size (N p hp).1) ((List.mem_singleton.mp hI) ▸ Nat.lt_irrefl _)
  · rintro i v m₁ news₁ s₁ own ⟨hh', tk', rfl⟩ hin ⟨_, t, rfl⟩ ⟨a, rfl, hI, hmm⟩ hoff hown hget hall hst F₁ N₁
    obtain ⟨oI, hst'⟩ : ∃ oI, hh'.get? s.heap.objs.size = some oI := ⟨_, hst⟩
    have hI₀ : h₀.get? s.heap.objs.size = none := next_is_new F
    have hIown := hall _ (by simp) hI₀ _ hst'
    have hsep : ∀ p ∈ led i a, p.1 ≠ s.heap.objs.size := fun p hp e => hoff p hp (List.mem_singleton.mpr e)
    have e1 : (0 : Int) + (i : Int) * 1 = (i : Int) := by omega
    rw [e1] at F₁
    have e : (fun z => if z = x then some (Value.int (i : Int) t) else if ys.contains z then m₁ z else m₀ z) = fun z => if z = x then some (Value.int (i : Int) t) else m₁ z := by
      funext z
      by_cases h1 : z = x
      · simp [h1]
      · simp only [if_neg h1]
        cases h9 : ys.contains z with
        | true => simp
        | false => simp only [Bool.false_eq_true, if_false]; exact (hmm z h1 h9).symm
    rw [← e] at F₁
    have N₂ : News h₀ env.locals hh' ((s.heap.objs.size, oI) :: led i a) := fun p hp => by
      rcases List.mem_cons.mp hp with rfl | hp
      · exact N₁ _ (List.mem_append_left _ hIown)
      · exact N₁ _ (List.mem_append_right _ hp)
    refine wpAny_mono (turn i a t m₁ (s.heap.objs.size, oI) hh' tk' hin hI hsep F₁ N₂) (fun fl s₂ p => ?_) fun _ _ e => e
    have fin : FLEnd h₀ env.locals x ys m₀ (s.heap.objs.size, oI) (led (i + 1)) (I (i + 1)) { s with heap := hh', toks := tk' } s₂ → LoopStepU h₀ env.locals [s.heap.objs.size] own (J' (i + 1)) { s with heap := hh', toks := tk' } .next s₂ := by
      rintro ⟨h', tk, m', a', news', e, F', N', hn, ho, hm', hI'⟩
      refine ⟨rfl, h', tk, m', led (i + 1) a', e, F', fun p hp => ?_, fun p hp hq => ho p hp (List.mem_singleton.mp hq), a', rfl, hI', hm'⟩
      rcases List.mem_append.mp hp with hp | hp
      · have h1 := List.mem_singleton.mp (hown p hp)
        have e2 := hget p hp
        rw [h1, hst'] at e2
        have : p = (s.heap.objs.size, oI) := Prod.ext h1 (Option.some.inj e2).symm
        rw [this]
        exact N' _ (hn _ List.mem_cons_self)
      · exact N' _ (hn _ (List.mem_cons_of_mem _ hp))
    cases fl with
    | ret v => exact .ret p
    | brk => exact .brk p
    | next => exact .next (fin p)
    | cont => exact .cont (fin p)
  · rintro h' tk m' news' F' N' _ ⟨a, rfl, hI, hmm⟩
    refine done a m' h' tk hI ?_ N'
    have e : (fun z => if z = x then m' z else if ys.contains z then m' z else m₀ z) = m' := by
      funext z
      by_cases h1 : z = x
      · simp [h1]
      · simp only [if_neg h1]
        cases h9 : ys.contains z with
        | true => simp
        | false => simp only [Bool.false_eq_true, if_false]; exact (hmm z h1 h9).symm
    rw [e]; exact F'
end
local macro_rules | `(tactic| walk_at "call type:range") => `(tactic| (k_here; (with_reducible show wpAny _ _ (call (Value.type "range") [Value.int _ _]) _ _ _); (rename Fr _ _ _ _ => F'); (rename News _ _ _ _ => N'); (with_unfolding_all refine range1_rows F' N' ?_); intro h9 tk9 t9 u9 v9 hR9 F9 N9 k9; (try dsimp only); (try k_fold)))
end
local macro_rules | `(tactic| walk_at "call type:range") => `(tactic| (k_here; (with_reducible show wpAny _ _ (call (Value.type "range") [Value.int _ _]) _ _ _); (rename Fr _ _ _ _ => F'); (rename News _ _ _ _ => N'); (with_unfolding_all refine range1_rows F' N' ?_); intro h9 tk9 t9 u9 v9 hR9 F9 N9 k9; (try dsimp only); (try k_fold)))
-- W10
section
open PySem PySem.W PySem.Calls PyProof.Rows PyProof.V PySem.Spec
set_option maxRecDepth 100000
section
variable {prog : Program} {w : World} {A : Around} {E : Value → Shared → Prop} {s : Shared} {h₀ : Heap} {L : Addr} {m : Str → Option Value} {env : Env}
def EnTest (h₀ : Heap) (L : Addr) (m : Str → Option Value) (s₁ : Shared) (news : Led) (b b' : Bool) (s₂ : Shared) : Prop := b' = b ∧ ∃ h' tk', s₂ = { s₁ with heap := h', toks := tk' } ∧ Fr h₀ L h' m ∧ News h₀ L h' news
theorem EnTest.intro {s₁ : Shared} {news news' : Led} {b b' : Bool} {h' : Heap} {tk' : Nat} (e : b' = b) (F : Fr h₀ L h' m) (N : News h₀ L h' news') (hs : ∀ p ∈ news, p ∈ news') : EnTest h₀ L m s₁ news b b' { s₁ with heap := h', toks := tk' } := ⟨e, h', tk', rfl, F, news_sub N hs⟩
def EnItem (s₁ : Shared) (k : Int) (y : Value) (s₂ : Shared) : Prop := (∃ t, y = .int k t) ∧ ∃ tk', s₂ = { s₁ with toks := tk' }
theorem EnItem.intro {s₁ : Shared} {k : Int} {t : Tok} {tk' : Nat} : EnItem s₁ k (.int k t) { s₁ with toks := tk' } := ⟨⟨t, rfl⟩, tk', rfl⟩
def enumKs (keep : Nat → Bool) (i : Nat) : List Int := ((List.range i).filter keep).map fun j : Nat => (j : Int)
theorem enumKs_succ {keep : Nat → Bool} {i : Nat} : enumKs keep (i + 1) = enumKs keep i ++ if keep i then [(i : Int)] else [] := by
  unfold enumKs
  rw [List.range_succ, List.filter_append, List.map_append]
  cases h : keep i <;> simp [h]
theorem enum_block {elt iter c : PySem.Expr} {a b : Str} {pa pb tp : Pos} {kk : Nat} {scope : Scope} {cl : List (Str × Addr)} {pos : Pos} {s₂ : Shared} {e it l : Addr} {vs : List Value} {n : Nat} {news : Led} {keep : Nat → Bool} {RR : Value → Addr → Result → Shared → Prop}
    (hh : A.handled = none) (hei : e ≠ it) (hsz : vs.length ≤ sizeLine) (hE : IsEnum s₂.heap e it 0 .none) (hI : s₂.heap.IsListIter it l 0) (hlm : (l, listOf vs.toArray n) ∈ news)
    (hcell : ∀ y ∈ scope.names, y.2 ≠ .cell) (hkind : scope.kind = .function) (hxa : scope.names.lookup a = some .local) (hxb : scope.names.lookup b = some .local) (hab : ¬ a = b)
    (F : Fr h₀ L s₂.heap m) (N : News h₀ L s₂.heap news) (hLe : L ≠ e) (hLi : L ≠ it) (he₀ : h₀.get? e = none) (hi₀ : h₀.get? it = none) (off : ∀ p ∈ news, p.1 ≠ e ∧ p.1 ≠ it)
    (test : ∀ i x t oe oi oC C D m₂ ys h tk (E' : Value → Shared → Prop), i < vs.length → vs[i]? = some x → LCg.NsObj oC m₂ → m₂ a = some (.int (i : Int) t) → m₂ b = some x → Fr h₀ L h m → News h₀ L h ((e, oe) :: (it, oi) :: (C, oC) :: (D, LCg.lst ys) :: news) →
      wpAny (model prog w) A (isTrue c (compEnvC scope cl C env) (eval c (compEnvC scope cl C env))) (EnTest h₀ L m { s₂ with heap := h, toks := tk } ((e, oe) :: (it, oi) :: (C, oC) :: (D, LCg.lst ys) :: news) (keep i)) E' { s₂ with heap := h, toks := tk })
    (item : ∀ i x t oe oi oC C D m₂ ys h tk (E' : Value → Shared → Prop), i < vs.length → vs[i]? = some x → LCg.NsObj oC m₂ → m₂ a = some (.int (i : Int) t) → m₂ b = some x → Fr h₀ L h m → News h₀ L h ((e, oe) :: (it, oi) :: (C, oC) :: (D, LCg.lst ys) :: news) →
      wpAny (model prog w) A (eval elt (compEnvC scope cl C env)) (EnItem { s₂ with heap := h, toks := tk } i) E' { s₂ with heap := h, toks := tk })
    (hRR : ∀ D C h tk m' ys, Fr h₀ L h m → News h₀ L h ((D, LCg.lst ys) :: news) → (∀ p ∈ news, p.1 ≠ D) → h.Ns C m' → h₀.get? C = none → h₀.get? D = none → C ≠ L → D ≠ L → C ≠ D → (∀ p ∈ news, p.1 ≠ C) → IntsAre ys (enumKs keep vs.length) → RR (.ref D) C (.ok .next) { s₂ with heap := h, toks := tk }) :
    wpAny (model prog w) A (newList []) (fun acc s₃ => wpAny (model prog w) A (newFunctionEnv scope env.globals cl [] env.qual none .none (some env)) (fun cenv s₄ =>
      codeAny (model prog w) A (.compStart (.ListComp elt [⟨.Tuple [.Name a pa, .Name b pb] kk tp, iter, [c], 0⟩] scope pos) 0 (.ref e) acc { cenv with scope := relabel scope env }) (RR acc cenv.locals) s₄) E s₃) E s₂ := by
  refine wpAny_newObj_type (wpAny_newFunctionEnv hcell (by intro y hy; simp at hy) (fun h₁ hns₁ hsb₁ => ?_) hkind)
  dsimp only at hns₁ hsb₁ ⊢
  generalize hH2 : s₂.heap.push { cls := .type "list", dict := none, data := .seq ([] : List Value).toArray } = H2 at hns₁ hsb₁ ⊢
  have hC : H2.objs.size = s₂.heap.objs.size + 1 := by rw [← hH2, Heap.size_push]
  have hDC : s₂.heap.objs.size ≠ H2.objs.size := by rw [hC]; exact Nat.ne_of_lt (Nat.lt_succ_self _)
  have below : ∀ b, b < s₂.heap.objs.size → b ≠ H2.objs.size ∧ b ≠ s₂.heap.objs.size := fun b hb => ⟨by rw [hC]; exact Nat.ne_of_lt (Nat.lt_succ_of_lt hb), Nat.ne_of_lt hb⟩
  obtain ⟨oe0, he0⟩ : ∃ oe0, s₂.heap.get? e = some oe0 := ⟨_, hE⟩
  obtain ⟨oi0, hi0, _⟩ := id hI
  have hElt : e < s₂.heap.objs.size := Heap.lt_size he0
  have hIlt : it < s₂.heap.objs.size := Heap.lt_size hi0
  have old : ∀ b o, s₂.heap.get? b = some o → h₁.get? b = some o := fun b o e => hsb₁.extBut b o (below b (Heap.lt_size e)).1 (Heap.get?_push_of_some _ (hH2 ▸ Heap.get?_push_of_some _ e))
  have hacc : h₁.get? s₂.heap.objs.size = some (LCg.lst []) := hsb₁.extBut _ _ hDC (Heap.get?_push_of_some _ (hH2 ▸ Heap.get?_push_size _ rfl))
  have fresh : ∀ a, s₂.heap.objs.size ≤ a → s₂.heap.get? a = none := fun a ha => by
    cases e : s₂.heap.get? a with
    | none => rfl
    | some o' => exact absurd (Heap.lt_size e) (Nat.not_lt.mpr ha)
  have fresh₀ : ∀ a, s₂.heap.objs.size ≤ a → h₀.get? a = none := fun a ha => by
    cases e : h₀.get? a with
    | none => rfl
    | some o' => have := F.keep a o' e; rw [fresh a ha] at this; cases this
  have hD₀ : h₀.get? s₂.heap.objs.size = none := fresh₀ _ (Nat.le_refl _)
  have hC₀ : h₀.get? H2.objs.size = none := fresh₀ _ (by rw [hC]; exact Nat.le_succ _)
  have hLlt : L < s₂.heap.objs.size := F.ns.lt
  have hDL : s₂.heap.objs.size ≠ L := Ne.symm (below L hLlt).2
  have hCL : H2.objs.size ≠ L := Ne.symm (below L hLlt).1
  have hCe : e ≠ H2.objs.size := (below e hElt).1
  have hDe : e ≠ s₂.heap.objs.size := (below e hElt).2
  have hCi : it ≠ H2.objs.size := (below it hIlt).1
  have hDi : it ≠ s₂.heap.objs.size := (below it hIlt).2
  have offD : ∀ p ∈ news, p.1 ≠ s₂.heap.objs.size := fun p hp => (below _ (Heap.lt_size (N p hp).1)).2
  have offC : ∀ p ∈ news, p.1 ≠ H2.objs.size := fun p hp => (below _ (Heap.lt_size (N p hp).1)).1
  have hle : l ≠ e := (off _ hlm).1
  have hli : l ≠ it := (off _ hlm).2
  have W := KTurns.ofWalksU (elts := [.Name a pa, .Name b pb]) (k := kk) (pos := tp) (WalksT.enumerate (prog := prog) (w := w) (A := A) hh e it l hei hle hli vs.toArray).toU
  have hsv : vs.toArray.size = vs.length := by simp
  rw [hsv] at W
  have st₀ : (∃ old, IsEnum h₁ e it ((0 : Nat) : Int) old) ∧ h₁.IsListIter it l 0 ∧ h₁.IsList l vs.toArray := by
    refine ⟨⟨.none, old _ _ hE⟩, hI.at fun o e => old _ o e, ?_⟩
    exact (PySem.IsL.isList (n := n) (N _ hlm).1).at fun o e => old _ o e
  have loop : ∀ s₃ : Shared, s₃ = { s₂ with heap := h₁, toks := s₂.toks + ([] : List (Str × Value)).length } →
      codeAny (model prog w) A (.compLoop (.ListComp elt [⟨.Tuple [.Name a pa, .Name b pb] kk tp, iter, [c], 0⟩] scope pos) 0 (.ref e) (.ref s₂.heap.objs.size) (compEnvC scope cl H2.objs.size env))
        (RR (.ref s₂.heap.objs.size) H2.objs.size) s₃ := by
    rintro s₃ rfl
    refine kct_loop
      (fun k s' => ∃ h' tk i ys m', s' = { s₂ with heap := h', toks := tk } ∧ i ≤ vs.length ∧ k = vs.length + 1 - i ∧ ((∃ old, IsEnum h' e it (i : Int) old) ∧ h'.IsListIter it l i ∧ h'.IsList l vs.toArray) ∧ Fr h₀ L h' m ∧ h'.Ns H2.objs.size m' ∧
        News h₀ L h' ((s₂.heap.objs.size, LCg.lst ys) :: news) ∧ IntsAre ys (enumKs keep i)) ?_ (vs.length + 1)
      ⟨h₁, _, 0, [], _, rfl, Nat.zero_le _, rfl, st₀, F.keeps old, hns₁, fun p hp => ?_, IntsAre.nil⟩
    · rintro k s' ⟨h', tk, i, ys, m', rfl, hi, rfl, st', F', hn', N', hys⟩
      by_cases hlt : i < vs.length
      · refine W.item i _ _ _ hlt st' fun v h₂ tk₂ hMd hk₂ => ?_
        refine W.go i v _ _ _ hMd fun h₃ hP hst₃ hk₃ => ?_
        obtain ⟨T, vals, rfl, ⟨t, x, hx, rfl⟩, hT⟩ := hP
        have hx' : vs[i]? = some x := by simpa using hx
        have up₃ : ∀ c o, c ≠ e → c ≠ it → h'.get? c = some o → h₃.get? c = some o := fun c o h1 h2 e => hk₃ c o (by simp [h1, h2]) (hk₂ c o (by simp [h1, h2]) e)
        refine kcp_assign (env := compEnvC scope cl H2.objs.size env) hh hT (lookup_relabel_local hxa) (lookup_relabel_local hxb) (by simp [compEnvC, relabel, hkind]) (hn'.at' fun o e => up₃ _ o (Ne.symm hCe) (Ne.symm hCi) e) fun h₄ tk₄ hn₄ hs₄ => ?_
        have up : ∀ c o, c ≠ e → c ≠ it → c ≠ H2.objs.size → h'.get? c = some o → h₄.get? c = some o := fun c o h1 h2 h3 e => hs₄ c o h3 (up₃ c o h1 h2 e)
        have st₄ : (∃ old, IsEnum h₄ e it ((i + 1 : Nat) : Int) old) ∧ h₄.IsListIter it l (i + 1) ∧ h₄.IsList l vs.toArray := by
          obtain ⟨⟨old', h1⟩, h2, h3⟩ := hst₃
          exact ⟨⟨old', hs₄ _ _ hCe h1⟩, h2.at fun o e => hs₄ _ o hCi e, h3.at fun o e => hs₄ _ o (offC _ hlm) e⟩
        obtain ⟨oe, heE⟩ : ∃ oe, h₄.get? e = some oe := by obtain ⟨⟨old', h1⟩, _⟩ := st₄; exact ⟨_, h1⟩
        obtain ⟨oi, heI⟩ : ∃ oi, h₄.get? it = some oi := by obtain ⟨_, ⟨oi, h1, _⟩, _⟩ := st₄; exact ⟨oi, h1⟩
        obtain ⟨oC, heC, hoC⟩ := LCg.ns_obj hn₄
        have F₄ : Fr h₀ L h₄ m := ⟨F'.ns.at' fun o e => up _ o hLe hLi (Ne.symm hCL) e, fun c o e => up c o (fun q => by rw [q, he₀] at e; cases e) (fun q => by rw [q, hi₀] at e; cases e) (fun q => by rw [q, hC₀] at e; cases e) (F'.keep c o e), F'.above⟩
        have N₄ : News h₀ L h₄ ((e, oe) :: (it, oi) :: (H2.objs.size, oC) :: (s₂.heap.objs.size, LCg.lst ys) :: news) := fun q hq => by
          rcases List.mem_cons.mp hq with rfl | hq
          · exact ⟨heE, Ne.symm hLe, he₀⟩
          · rcases List.mem_cons.mp hq with rfl | hq
            · exact ⟨heI, Ne.symm hLi, hi₀⟩
            · rcases List.mem_cons.mp hq with rfl | hq
              · exact ⟨heC, hCL, hC₀⟩
              · have z := N' q hq
                rcases List.mem_cons.mp hq with rfl | hq
                · exact ⟨up _ _ (Ne.symm hDe) (Ne.symm hDi) hDC z.1, z.2⟩
                · exact ⟨up _ _ (off q hq).1 (off q hq).2 (offC q hq) z.1, z.2⟩
        have fin : ∀ (ys' : List Value) (h₅ : Heap) (tk₅ : Nat), Fr h₀ L h₅ m → News h₀ L h₅ ((e, oe) :: (it, oi) :: (H2.objs.size, oC) :: (s₂.heap.objs.size, LCg.lst ys') :: news) → IntsAre ys' (enumKs keep (i + 1)) →
            ∃ q', q' < vs.length + 1 - i ∧ (∃ h' tk i ys m', ({ s₂ with heap := h₅, toks := tk₅ } : Shared) = { s₂ with heap := h', toks := tk } ∧ i ≤ vs.length ∧ q' = vs.length + 1 - i ∧ ((∃ old, IsEnum h' e it (i : Int) old) ∧ h'.IsListIter it l i ∧ h'.IsList l vs.toArray) ∧ Fr h₀ L h' m ∧ h'.Ns H2.objs.size m' ∧
              News h₀ L h' ((s₂.heap.objs.size, LCg.lst ys) :: news) ∧ IntsAre ys (enumKs keep i)) := by
          intro ys' h₅ tk₅ F₅ N₅ hy₅
          have zE := (N₅ (e, oe) List.mem_cons_self).1
          have zI := (N₅ (it, oi) (List.mem_cons_of_mem _ List.mem_cons_self)).1
          have zC := (N₅ (H2.objs.size, oC) (List.mem_cons_of_mem _ (List.mem_cons_of_mem _ List.mem_cons_self))).1
          have zl := (N₅ (l, listOf vs.toArray n) (List.mem_cons_of_mem _ (List.mem_cons_of_mem _ (List.mem_cons_of_mem _ (List.mem_cons_of_mem _ hlm))))).1
          refine ⟨vs.length + 1 - (i + 1), by omega, h₅, tk₅, i + 1, ys', _, rfl, hlt, rfl, ?_, F₅, hoC.ns zC, fun q hq => N₅ q (List.mem_cons_of_mem _ (List.mem_cons_of_mem _ (List.mem_cons_of_mem _ hq))), hy₅⟩
          refine W.frame (i + 1) h₄ h₅ st₄ fun b hb o hbo => ?_
          have hb' : b = e ∨ b = it ∨ b = l := by simpa using hb
          rcases hb' with rfl | rfl | rfl
          · rw [heE] at hbo; cases hbo; exact zE
          · rw [heI] at hbo; cases hbo; exact zI
          · have := (N₄ (b, listOf vs.toArray n) (List.mem_cons_of_mem _ (List.mem_cons_of_mem _ (List.mem_cons_of_mem _ (List.mem_cons_of_mem _ hlm))))).1
            dsimp only at this
            rw [this] at hbo; cases hbo; exact zl
        refine wpAny_mono (test i x t oe oi oC H2.objs.size s₂.heap.objs.size _ ys h₄ _ _ hlt hx' hoC (by simp [hab]) (by simp) F₄ N₄) (fun okb s₅ hq => ?_) fun _ _ e => e
        obtain ⟨rfl, h₅, tk₅, rfl, F₅, N₅⟩ := hq
        cases hkp : keep i with
        | false =>
          simp only [Bool.false_eq_true, if_false]
          exact fin ys h₅ tk₅ F₅ N₅ (by rw [enumKs_succ, hkp]; simpa using hys)
        | true =>
          simp only [if_true]
          refine wpAny_mono (item i x t oe oi oC H2.objs.size s₂.heap.objs.size _ ys h₅ _ _ hlt hx' hoC (by simp [hab]) (by simp) F₅ N₅) (fun y s₆ hq => ?_) fun _ _ e => e
          obtain ⟨⟨t', rfl⟩, tk₆, rfl⟩ := hq
          have zE := (N₅ (e, oe) List.mem_cons_self).1
          have zI := (N₅ (it, oi) (List.mem_cons_of_mem _ List.mem_cons_self)).1
          have zC := (N₅ (H2.objs.size, oC) (List.mem_cons_of_mem _ (List.mem_cons_of_mem _ List.mem_cons_self))).1
          have zD := (N₅ (s₂.heap.objs.size, LCg.lst ys) (List.mem_cons_of_mem _ (List.mem_cons_of_mem _ (List.mem_cons_of_mem _ List.mem_cons_self)))).1
          have hyl : ys.length ≤ i := by
            rw [hys.length]; unfold enumKs
            rw [List.length_map]
            exact Nat.le_trans (List.length_filter_le _ _) (Nat.le_of_eq List.length_range)
          refine append_at (hsz := by show ys.toArray.size ≤ sizeLine; rw [List.size_toArray]; exact Nat.le_trans hyl (Nat.le_trans hi hsz)) zD fun h₆ hs₆ hD₆ => ?_
          refine fin (ys ++ [.int (i : Int) t']) h₆ _ (F₅.change hs₆ hDL hD₀) (fun q hq => ?_) (by rw [enumKs_succ, hkp]; exact hys.append (IntsAre.cons _ _ IntsAre.nil))
          rcases List.mem_cons.mp hq with rfl | hq
          · exact ⟨hs₆.extBut e oe hDe zE, Ne.symm hLe, he₀⟩
          rcases List.mem_cons.mp hq with rfl | hq
          · exact ⟨hs₆.extBut it oi hDi zI, Ne.symm hLi, hi₀⟩
          rcases List.mem_cons.mp hq with rfl | hq
          · exact ⟨hs₆.extBut _ oC (Ne.symm hDC) zC, hCL, hC₀⟩
          rcases List.mem_cons.mp hq with rfl | hq
          · exact ⟨hD₆.trans (congrArg some (LCg.lst_snoc ys _)), hDL, hD₀⟩
          · have z := N₅ q (List.mem_cons_of_mem _ (List.mem_cons_of_mem _ (List.mem_cons_of_mem _ (List.mem_cons_of_mem _ hq))))
            exact ⟨hs₆.extBut _ _ (offD q hq) z.1, z.2⟩
      · have hin : i = vs.length := Nat.le_antisymm hi (Nat.not_lt.mp hlt)
        subst hin
        refine W.done _ _ _ st' fun h₂ tk₂ hk₂ => ?_
        have hk₂' : ∀ b o, b ≠ e → b ≠ it → h'.get? b = some o → h₂.get? b = some o := fun b o h1 h2 e => hk₂ b o (by simp [h1, h2]) e
        refine hRR _ _ h₂ tk₂ _ ys ⟨F'.ns.at' fun o e => hk₂' _ o hLe hLi e, fun c o e => hk₂' c o (fun q => by rw [q, he₀] at e; cases e) (fun q => by rw [q, hi₀] at e; cases e) (F'.keep c o e), F'.above⟩ (fun p hp => ?_) offD (hn'.at' fun o e => hk₂' _ o (Ne.symm hCe) (Ne.symm hCi) e) hC₀ hD₀ hCL hDL (Ne.symm hDC) offC hys
        have z := N' p hp
        rcases List.mem_cons.mp hp with rfl | hp
        · exact ⟨hk₂' _ _ (Ne.symm hDe) (Ne.symm hDi) z.1, z.2⟩
        · exact ⟨hk₂' _ _ (off p hp).1 (off p hp).2 z.1, z.2⟩
    · rcases List.mem_cons.mp hp with rfl | hp
      · exact ⟨hacc, hDL, hD₀⟩
      · exact ⟨old _ _ (N p hp).1, (N p hp).2⟩
  have hself : wpAny (model prog w) A (pyIter (.ref e)) (fun it' s' => codeAny (model prog w) A (.compLoop (.ListComp elt [⟨.Tuple [.Name a pa, .Name b pb] kk tp, iter, [c], 0⟩] scope pos) 0 it' (.ref s₂.heap.objs.size) (compEnvC scope cl H2.objs.size env)) (RR (.ref s₂.heap.objs.size) H2.objs.size) s')
      (notedBy (model prog w) A (compEnvC scope cl H2.objs.size env) fun x s' => RR (.ref s₂.heap.objs.size) H2.objs.size (.error x) s') { s₂ with heap := h₁, toks := s₂.toks + ([] : List (Str × Value)).length } := wpAny_pyIter_enum (old _ _ hE) (loop _ rfl)
  exact codeAny_compStart_list (loop _ rfl) hself
end
end
-- W11
section
open PySem PySem.W PySem.Calls PyProof.Rows PyProof.V PySem.Spec
set_option maxRecDepth 100000
section
variable {prog : Program} {w : World} {A : Around} {E : Value → Shared → Prop} {s : Shared} {h₀ : Heap} {L : Addr} {m : Str → Option Value} {env : Env}
def EnTests (prog : Program) (w : World) (A : Around) (h₀ : Heap) (L : Addr) (m : Str → Option Value) (env : Env) (c : PySem.Expr) (a b : Str) (scope : Scope) (cl : List (Str × Addr)) (s₂ : Shared) (vs : List Value) (news : Led) (keep : Nat → Bool) : Prop :=
  ∀ i x t e it oe oi oC C D m₂ ys h tk (E' : Value → Shared → Prop), i < vs.length → vs[i]? = some x → LCg.NsObj oC m₂ → m₂ a = some (.int (i : Int) t) → m₂ b = some x → Fr h₀ L h m → News h₀ L h ((e, oe) :: (it, oi) :: (C, oC) :: (D, LCg.lst ys) :: news) →
      wpAny (model prog w) A (isTrue c (compEnvC scope cl C env) (eval c (compEnvC scope cl C env))) (EnTest h₀ L m { s₂ with heap := h, toks := tk } ((e, oe) :: (it, oi) :: (C, oC) :: (D, LCg.lst ys) :: news) (keep i)) E' { s₂ with heap := h, toks := tk }
def EnItems (prog : Program) (w : World) (A : Around) (h₀ : Heap) (L : Addr) (m : Str → Option Value) (env : Env) (elt : PySem.Expr) (a b : Str) (scope : Scope) (cl : List (Str × Addr)) (s₂ : Shared) (vs : List Value) (news : Led) : Prop :=
  ∀ i x t e it oe oi oC C D m₂ ys h tk (E' : Value → Shared → Prop), i < vs.length → vs[i]? = some x → LCg.NsObj oC m₂ → m₂ a = some (.int (i : Int) t) → m₂ b = some x → Fr h₀ L h m → News h₀ L h ((e, oe) :: (it, oi) :: (C, oC) :: (D, LCg.lst ys) :: news) →
      wpAny (model prog w) A (eval elt (compEnvC scope cl C env)) (EnItem { s₂ with heap := h, toks := tk } i) E' { s₂ with heap := h, toks := tk }
def EnSrc (prog : Program) (w : World) (A : Around) (h₀ : Heap) (L : Addr) (m : Str → Option Value) (env : Env) (c elt : PySem.Expr) (a b : Str) (scope : Scope) (cl : List (Str × Addr)) (Fin : Shared → List Value → Led → Prop) (xv : Value) (s₁ : Shared) : Prop :=
  ∃ (e it l : Addr) (vs : List Value) (n : Nat) (news : Led) (keep : Nat → Bool), xv = .ref e ∧ A.handled = none ∧ e ≠ it ∧ vs.length ≤ sizeLine ∧ IsEnum s₁.heap e it 0 .none ∧ s₁.heap.IsListIter it l 0 ∧ (l, listOf vs.toArray n) ∈ news ∧ Fr h₀ L s₁.heap m ∧ News h₀ L s₁.heap news ∧
    L ≠ e ∧ L ≠ it ∧ h₀.get? e = none ∧ h₀.get? it = none ∧ (∀ p ∈ news, p.1 ≠ e ∧ p.1 ≠ it) ∧ EnTests prog w A h₀ L m env c a b scope cl s₁ vs news keep ∧ EnItems prog w A h₀ L m env elt a b scope cl s₁ vs news ∧ ∀ ys, IntsAre ys (enumKs keep vs.length) → Fin s₁ ys news
theorem EnSrc.call {c elt : PySem.Expr} {a b : Str} {scope : Scope} {cl : List (Str × Addr)} {Fin : Shared → List Value → Led → Prop} {l : Addr} {vs : List Value} {n : Nat} {news : Led} (keep : Nat → Bool)
    (hh : A.handled = none) (F : Fr h₀ L s.heap m) (N : News h₀ L s.heap news) (hm : (l, listOf vs.toArray n) ∈ news) (hsz : vs.length < 2000)
    (test : EnTests prog w A h₀ L m env c a b scope cl s vs news keep) (item : EnItems prog w A h₀ L m env elt a b scope cl s vs news)
    (fin : ∀ g ys, IntsAre ys (enumKs keep vs.length) → Fin { s with heap := g } ys news) :
    wpAny (model prog w) A (call (.type "enumerate") [.ref l]) (EnSrc prog w A h₀ L m env c elt a b scope cl Fin) E s := by
  have hl := PySem.IsL.isList (n := n) (N _ hm).1
  refine call_enumerate_list hl fun h' hE hI hsz' hk => ?_
  have fresh₀ : ∀ a, s.heap.objs.size ≤ a → h₀.get? a = none := fun a ha => by
    cases e : h₀.get? a with
    | none => rfl
    | some o' => exact absurd (Heap.lt_size (F.keep a o' e)) (Nat.not_lt.mpr ha)
  refine ⟨s.heap.objs.size + 1, s.heap.objs.size, l, vs, n, news, keep, rfl, hh, Nat.succ_ne_self _, by rw [sizeLine_eq]; omega, hE, hI, hm, F.keeps hk, N.grown hk, ?_, ?_, fresh₀ _ (Nat.le_succ _), fresh₀ _ (Nat.le_refl _), fun p hp => ?_, test, item, fun ys hy => fin h' ys hy⟩
  · exact Nat.ne_of_lt (Nat.lt_succ_of_lt F.ns.lt)
  · exact Nat.ne_of_lt F.ns.lt
  · have := Heap.lt_size (N p hp).1
    exact ⟨Nat.ne_of_lt (Nat.lt_succ_of_lt this), Nat.ne_of_lt this⟩
theorem Assign_enum {elt iter c : PySem.Expr} {x x₂ y : Str} {px px₂ tp py : Pos} {tk} {scope : Scope} {cl : List (Str × Addr)} {pos spos : Pos} {Q : Flow → Shared → Prop} (F₀ : Fr h₀ L s.heap m) (hLe : env.locals = L)
    (hsw : swapsWith (.ListComp elt [⟨.Tuple [.Name x px, .Name x₂ px₂] tk tp, iter, [c], 0⟩] scope pos) (some (.Name y py)) spos.line env = pure true)
    (hclos : closureFor scope env = pure cl) (hcell : ∀ z ∈ scope.names, z.2 ≠ .cell) (hkind : scope.kind = .function)
    (hnames : ∀ z ∈ scope.names, z.2 = .local → scope.names.lookup z.1 = some .local) (hx : scope.names.lookup x = some .local) (hx₂ : scope.names.lookup x₂ = some .local) (hxx : ¬ x = x₂)
    (hy : env.kindOf y = some .local) (hp : (env.scope.kind == .class || (env.scope.kind == .module && env.locals != env.globals)) = false)
    (h : wpAny (model prog w) A (eval iter env) (EnSrc prog w A h₀ L m env c elt x x₂ scope cl (fun s₂ => LCg.FinA h₀ L m s₂ y Q)) E s)
    (hs : ∀ x, foldedSetIterable iter env x = pure x := by intro _; rfl) :
    wpAny (model prog w) A (exec (.Assign [.Name y py] (.ListComp elt [⟨.Tuple [.Name x px, .Name x₂ px₂] tk tp, iter, [c], 0⟩] scope pos) spos) env) Q E s := by
  subst hLe
  rw [exec_Assign_Name_used _ _ _ _ hsw]
  refine wpAny_bind (wpAny_standAt (wpAny_bind ?_))
  show wpAny _ A (do let _ ← comprehension (.ListComp elt [⟨.Tuple [.Name x px, .Name x₂ px₂] tk tp, iter, [c], 0⟩] scope pos) scope env _ (newList []) false (eval iter env) (some (assign (.Name y py) env))) _ _ s
  refine wpAny_bind (wpAny_mono (wpAny_comprehension_free (use := some (assign (.Name y py) env)) (Q := fun _ s' => Q .next s') rfl hs hclos hkind hnames
    (wpAny_mono h (fun xv s₁ h₁ => ?_) fun _ _ e => e)) (fun _ s' hq => wpAny_pure (wpAny_pure hq)) fun _ _ e => e)
  obtain ⟨e, it, l, vs, n, news, keep, rfl, hh, hei, hsz, hE, hI, hlm, F, N, hLe, hLi, he₀, hi₀, off, test, item, fin⟩ := h₁
  refine wpAny_pyIter_enum hE ?_
  refine enum_block hh hei hsz hE hI hlm hcell hkind hx hx₂ hxx F N hLe hLi he₀ hi₀ off (fun i x t oe oi oC C D m₂ ys h tk E' => test i x t e it oe oi oC C D m₂ ys h tk E') (fun i x t oe oi oC C D m₂ ys h tk E' => item i x t e it oe oi oC C D m₂ ys h tk E') ?_
  intro D C h' tk m' ys F' N' o1 hn hC₀ hD₀ hCL hDL hCD offC hys
  show wpAny _ A (assign (.Name y py) env (.ref D)) _ _ _
  refine wpAny_assign_Name (wpAny_storeName_local hy F'.ns (fun h₂ hn₂ hs₂ => ?_) hp)
  have hL₀ : h₀.get? env.locals = none := Heap.get?_none_of_le F'.above
  have F₂ : Fr h₀ env.locals h₂ (fun z => if z = y then some (.ref D) else m z) := ⟨hn₂, fun b o e => hs₂.extBut b o (fun q => by rw [q, hL₀] at e; cases e) (F'.keep b o e), F'.above⟩
  have o1' : LCg.Off1 D news := by
    clear N' hlm N off test item fin offC
    induction news with
    | nil => trivial
    | cons p r ih => exact ⟨o1 p List.mem_cons_self, ih fun q hq => o1 q (List.mem_cons_of_mem _ hq)⟩
  refine ⟨m', hn.sameBut hs₂ hCL, fun h'' hs'' => fin ys hys D h'' _ (F₂.change hs'' hCL hC₀) (fun p hp => ?_) o1'⟩
  have z : h₂.get? p.1 = some p.2 := hs₂.extBut _ _ (N' p hp).2.1 (N' p hp).1
  refine ⟨hs''.extBut _ _ ?_ z, (N' p hp).2⟩
  rcases List.mem_cons.mp hp with rfl | hp
  · exact Ne.symm hCD
  · exact offC p hp
end
end
-- W12
section
open PySem PySem.W PyProof.Rows PySem.Spec
section
variable {prog : Program} {w : World} {A : Around} {E : Value → Shared → Prop} {s : Shared} {env : Env} {h₀ : Heap} {x : Str} {body : List Stmt} {Q : Flow → Shared → Prop} {α σ : Type} {f : α → Value} {xs : List α}
def FVPost (h₀ : Heap) (L : Addr) (x yv : Str) (val : σ → Value) (m₀ : Str → Option Value) (it : Addr × Obj) (led : σ → Led) (I : σ → Prop) (s₁ : Shared) (fl : Flow) (s₂ : Shared) : Prop :=
  fl = .next ∧ ∃ h' tk m' a' news', s₂ = { s₁ with heap := h', toks := tk } ∧ Fr h₀ L h' m' ∧ News h₀ L h' news' ∧ (∀ p ∈ it :: led a', p ∈ news') ∧ (∀ p ∈ led a', p.1 ≠ it.1) ∧ m' yv = some (val a') ∧ (∀ z, z ≠ x → z ≠ yv → m' z = m₀ z) ∧ I a'
theorem FVPost.intro {L : Addr} {yv : Str} {val : σ → Value} {m₀ m' : Str → Option Value} {it : Addr × Obj} {led : σ → Led} {I : σ → Prop} {s₁ : Shared} {h' : Heap} {tk : Nat} {news' : Led} (a' : σ)
    (F : Fr h₀ L h' m') (N : News h₀ L h' news') (hn : ∀ p ∈ it :: led a', p ∈ news') (ho : ∀ p ∈ led a', p.1 ≠ it.1) (hv : m' yv = some (val a')) (hm : ∀ z, z ≠ x → z ≠ yv → m' z = m₀ z) (hi : I a') :
    FVPost h₀ L x yv val m₀ it led I s₁ .next { s₁ with heap := h', toks := tk } := ⟨rfl, h', tk, m', a', news', rfl, F, N, hn, ho, hv, hm, hi⟩
theorem iter_listV {l : Addr} {n : Nat} {m₀ : Str → Option Value} {a₀ : σ} (yv : Str) (val : σ → Value) (led : Nat → σ → Led) (I : Nat → σ → Prop) (hyx : yv ≠ x)
    (hh : A.handled = none) (hm : ∀ i a, (l, listOf (xs.map f).toArray n) ∈ led i a) (F : Fr h₀ env.locals s.heap m₀) (N : News h₀ env.locals s.heap (led 0 a₀)) (hv0 : m₀ yv = some (val a₀)) (hi : I 0 a₀)
    (turn : ∀ i a y it h tk, xs[i]? = some y → i < xs.length → I i a → (∀ p ∈ led i a, p.1 ≠ it.1) → Fr h₀ env.locals h (fun z => if z = x then some (f y) else if z = yv then some (val a) else m₀ z) → News h₀ env.locals h (it :: led i a) →
      wpAny (model prog w) A (execs body env) (FVPost h₀ env.locals x yv val m₀ it (led (i + 1)) (I (i + 1)) { s with heap := h, toks := tk }) E { s with heap := h, toks := tk })
    (done : ∀ a (u : Str → Option Value) h tk, I xs.length a → Fr h₀ env.locals h (fun z => if z = x then u z else if z = yv then some (val a) else m₀ z) → News h₀ env.locals h (led xs.length a) → Q .next { s with heap := h, toks := tk }) :
    wpAny (model prog w) A (pyIter (.ref l)) (fun it s₂ => LoopAtV prog w A h₀ env x body Q E it s₂) E s := by
  have hls : s.heap.IsList l (xs.map f).toArray := isl_of N (hm 0 a₀)
  obtain ⟨ol, hol, _⟩ := id hls
  have hlt : l < s.heap.objs.size := Heap.lt_size hol
  have hne : l ≠ s.heap.objs.size := Nat.ne_of_lt hlt
  refine wpAny_pyIter_list hls ?_
  have W := Walks.list (prog := prog) (w := w) hh s.heap.objs.size l hne (xs.map f).toArray
  have hlen : (xs.map f).toArray.size = xs.length := by simp
  rw [hlen] at W
  let J' : Nat → (Str → Option Value) → Led → Prop := fun i m₁ news₁ => ∃ a, news₁ = led i a ∧ I i a ∧ m₁ yv = some (val a) ∧ ∀ z, z ≠ x → z ≠ yv → m₁ z = m₀ z
  refine ⟨_, _, _, xs.length, _, _, m₀, led 0 a₀, J', rfl, W, ?_, ?_, ?_, ⟨⟨_, Heap.get?_push_size _ rfl, rfl, rfl⟩, hls.at fun o e => Heap.get?_push_of_some _ e⟩, F.push _, (fun p hp => ⟨Heap.get?_push_of_some _ (N p hp).1, (N p hp).2⟩), ⟨a₀, rfl, hi, hv0, fun _ _ _ => rfl⟩, ?_, ?_⟩
  · intro hmem
    rcases List.mem_cons.mp hmem with e | hmem
    · exact absurd F.ns.lt (e ▸ Nat.lt_irrefl _)
    · exact (N _ (hm 0 a₀)).2.1 (List.mem_singleton.mp hmem).symm
  · intro b hb
    rw [List.mem_singleton.mp hb]
    exact next_is_new F
  · intro p hp hI
    exact absurd (Heap.lt_size (N p hp).1) ((List.mem_singleton.mp hI) ▸ Nat.lt_irrefl _)
  · rintro i v m₁ news₁ s₁ own ⟨hh', tk', rfl⟩ hin hP ⟨a, rfl, hI, hmv, hmm⟩ hoff hown hget hall hst F₁ N₁
    have hv : ∃ y, xs[i]? = some y ∧ v = f y := by
      have hP' : (xs.map f)[i]? = some v := by simpa using hP
      rw [List.getElem?_map] at hP'
      cases hx : xs[i]? with
      | none => rw [hx] at hP'; cases hP'
      | some y => rw [hx] at hP'; exact ⟨y, rfl, (Option.some.inj hP').symm⟩
    obtain ⟨y, hy, rfl⟩ := hv
    obtain ⟨⟨oI, heI, _⟩, _⟩ := hst
    have hI₀ : h₀.get? s.heap.objs.size = none := next_is_new F
    have hIown : (s.heap.objs.size, oI) ∈ own := hall _ (by simp) hI₀ _ heI
    have hsep : ∀ p ∈ led i a, p.1 ≠ s.heap.objs.size := fun p hp e => hoff p hp (List.mem_singleton.mpr e)
    have e : (fun z => if z = x then some (f y) else if z = yv then some (val a) else m₀ z) = fun z => if z = x then some (f y) else m₁ z := by
      funext z
      by_cases h1 : z = x
      · simp [h1]
      · simp only [if_neg h1]
        by_cases h2 : z = yv
        · rw [if_pos h2, h2, hmv]
        · rw [if_neg h2]; exact (hmm z h1 h2).symm
    rw [← e] at F₁
    have N₂ : News h₀ env.locals hh' ((s.heap.objs.size, oI) :: led i a) := fun p hp => by
      rcases List.mem_cons.mp hp with rfl | hp
      · exact N₁ _ (List.mem_append_left _ hIown)
      · exact N₁ _ (List.mem_append_right _ hp)
    refine wpAny_mono (turn i a y (s.heap.objs.size, oI) hh' tk' hy hin hI hsep F₁ N₂) (fun fl s₂ p => ?_) fun _ _ e => e
    obtain ⟨rfl, h', tk, m', a', news', e, F', N', hn, ho, hv', hm', hI'⟩ := p
    refine .next ⟨rfl, h', tk, m', led (i + 1) a', e, F', fun p hp => ?_, fun p hp hq => ho p hp (List.mem_singleton.mp hq), a', rfl, hI', hv', hm'⟩
    rcases List.mem_append.mp hp with hp | hp
    · have h1 := hown p hp
      rcases List.mem_cons.mp h1 with h1 | h1
      · have : p = (s.heap.objs.size, oI) := by
          have e2 := hget p hp
          rw [h1, heI] at e2
          exact Prod.ext h1 (Option.some.inj e2).symm
        rw [this]
        exact N' _ (hn _ List.mem_cons_self)
      · have h2 := List.mem_singleton.mp h1
        have : p = (l, listOf (xs.map f).toArray n) := by
          have e2 := hget p hp
          have e3 := (N₁ _ (List.mem_append_right _ (hm i a))).1
          dsimp only at e3
          rw [h2, e3] at e2
          exact Prod.ext h2 (Option.some.inj e2).symm
        rw [this]
        exact N' _ (hn _ (List.mem_cons_of_mem _ (hm _ _)))
    · exact N' _ (hn _ (List.mem_cons_of_mem _ hp))
  · rintro h' tk m' news' F' N' _ ⟨a, rfl, hI, hmv, hmm⟩
    refine done a m' h' tk hI ?_ N'
    have e : (fun z => if z = x then m' z else if z = yv then some (val a) else m₀ z) = m' := by
      funext z
      by_cases h1 : z = x
      · simp [h1]
      · simp only [if_neg h1]
        by_cases h2 : z = yv
        · rw [if_pos h2, h2, hmv]
        · rw [if_neg h2]; exact (hmm z h1 h2).symm
    rw [e]; exact F'
end
section
variable {prog : Program} {w : World} {A : Around} {E : Value → Shared → Prop} {s : Shared} {h₀ : Heap} {L : Addr} {m : Str → Option Value} {news : Led} {Q : Value → Shared → Prop}
theorem add_vals {vs ws : List Value} {l b : Addr} {n1 n2 : Nat} (F : Fr h₀ L s.heap m) (N : News h₀ L s.heap news) (hl : (l, listOf vs.toArray n1) ∈ news) (hb : (b, listOf ws.toArray n2) ∈ news) (hs : vs.length + ws.length < 2000)
    (h : ∀ D h', Fr h₀ L h' m → News h₀ L h' ((D, listOf (vs ++ ws).toArray 0) :: news) → (∀ p ∈ news, p.1 < D) → Q (.ref D) { s with heap := h' }) : wpAny (model prog w) A (binaryOp .Add (.ref l) (.ref b)) Q E s := by
  refine add_lists F N (PySem.IsL.isList (n := n1) (N _ hl).1) (PySem.IsL.isList (n := n2) (N _ hb).1) (fun h' F' N' => ?_) (by rw [sizeLine_eq]; omega)
  exact h _ h' F' N' fun p hp => Heap.lt_size (N p hp).1
theorem ints_ne {vs ws : List Value} {a b : Addr} {n1 n2 : Nat} {ns : List Int} (N : News h₀ L s.heap news) (ha : (a, listOf vs.toArray n1) ∈ news) (hb : (b, listOf ws.toArray n2) ∈ news) (hi : IntsAre vs ns) (hj : IntsAre ws ns) (hu : A.units + 64 < cLine) (h : Q (.bool false) s) :
    wpAny (model prog w) A (compareOp .NotEq (.ref a) (.ref b)) Q E s := ke_ne_ints (PySem.IsL.isList (n := n1) (N _ ha).1) (PySem.IsL.isList (n := n2) (N _ hb).1) hi hj hu (by simpa using h)
theorem ints_eq {vs ws : List Value} {a b : Addr} {n1 n2 : Nat} {ns : List Int} (N : News h₀ L s.heap news) (ha : (a, listOf vs.toArray n1) ∈ news) (hb : (b, listOf ws.toArray n2) ∈ news) (hi : IntsAre vs ns) (hj : IntsAre ws ns) (hu : A.units + 64 < cLine) (h : Q (.bool true) s) :
    wpAny (model prog w) A (compareOp .Eq (.ref a) (.ref b)) Q E s := ke_eq_ints (PySem.IsL.isList (n := n1) (N _ ha).1) (PySem.IsL.isList (n := n2) (N _ hb).1) hi hj hu (by simpa using h)
end
end
-- S1
section
local macro_rules | `(tactic| walk_at "call ref") => `(tactic| (k_here; (try dsimp only [List.cons_append, List.nil_append]); (with_reducible show wpAny _ _ (call (Value.ref 180) [Value.ref _]) _ _ _); k_dflt (refine' get_spec ?k1 ?k2 ?k3 ?k4 ?kK ?N ?hgr ?hgd ?hst ?hl ?hu ?kd ?ku ?_; (case k1 => k_asm); (case k2 => k_asm); (case k3 => k_asm); (case k4 => k_asm); (case kK => first | exact rfl | with_reducible assumption); (case N => k_asm); (case hgr => k_mem); (case hgd => k_mem); (case hst => k_mem); (case hl => with_reducible assumption); (case hu => walk_at "my reads"); (case kd => ktr_room); (case ku => ktr_units)); intro t9 h9 tk9 F9 N9; (try dsimp only); (try k_fold)))
local macro_rules | `(tactic| walk_at "my reads") => `(tactic| first | with_reducible assumption | exact UpReads.at (by with_reducible assumption) (by with_reducible assumption))
local macro_rules | `(tactic| walk_at "getMethod ref") => `(tactic| (k_here; (with_reducible show wpAny _ _ (getMethod (Value.ref _) (Str.ofString "get") _) _ _ _); k_dflt (refine' getmeth_up ?F ?X ?N ?hu ?_; (case F => k_asm); (case X => k_asm); (case N => k_asm); (case hu => walk_at "my reads"))))
structure FdR where
  (fd kp ow D : Addr) (ofd : Obj) (bs : Int) (tb : Tok) (xs : List Addr) (dn : Nat)
structure StandsIn (prog : Program) (w : World) (news : Led) (gr : Addr) (st : List (Int × Tok)) (fds : List FdR) (fs : List FnX) (val idn : Addr → Int) : Prop where
  fr : ∀ r ∈ fds, (r.fd, r.ofd) ∈ news ∧ r.ofd.IsDictOf (strKind prog w) (fkv r.bs r.tb r.kp r.ow r.D) ∧ (r.D, refsL (fun x : Addr => x) r.xs r.dn) ∈ news ∧ r.xs.length = 3
  fn : FnXsIn w.params fs news
  cel : ∀ x, x ∈ fds.flatMap FdR.xs → ∃ tv ti n, (x, cellO (val x) tv (idn x) ti n) ∈ news
  cef : ∀ f ∈ fs, ∀ x ∈ f.xs, ∃ tv ti n, (x, cellO (val x) tv (idn x) ti n) ∈ news
  up : ∀ f ∈ fs, ∀ y ∈ f.us.zip (f.xs.map val), UpReads w.params news gr st y.1 y.2
theorem flat_len {l : List FdR} (h : ∀ r ∈ l, r.xs.length = 3) : (l.flatMap FdR.xs).length = 3 * l.length := by
  induction l with
  | nil => rfl
  | cons r l ih =>
    rw [List.flatMap_cons, List.length_append, ih fun q hq => h q (List.mem_cons_of_mem _ hq), h r List.mem_cons_self, List.length_cons]; omega
theorem flat_take {l : List FdR} {i : Nat} {r : FdR} (h : l[i]? = some r) : (l.take (i + 1)).flatMap FdR.xs = (l.take i).flatMap FdR.xs ++ r.xs := by
  rw [List.take_add_one, h, List.flatMap_append]; simp
theorem news_dropt {h₀ h : Heap} {L : Addr} {a b c : Addr × Obj} {l : Led} (N : News h₀ L h (a :: b :: c :: l)) : News h₀ L h (c :: b :: l) := news_sub N fun p hp => by
  simp only [List.mem_cons] at hp ⊢
  rcases hp with h | h | h <;> simp [h]
local macro_rules | `(tactic| walk_at "binaryOp Add ref ref") => `(tactic| (k_here; (with_reducible show wpAny _ _ (binaryOp _ (Value.ref _) (Value.ref _)) _ _ _); k_dflt (refine' add_vals ?F ?N ?a ?b ?z ?_; (case F => k_asm); (case N => k_asm); (case a => walk_at "my mem"); (case b => walk_at "my mem"); (case z => (simp only [List.length_map, List.length_append, List.length_cons, List.length_nil]; omega))); intro D' h' F' N' l1; (try k_lt l1); (try k_sweep)))
section
variable {prog : Program} {w : World} {A : Around} {E : Value → Shared → Prop} {s : Shared} {h₀ : Heap} {L : Addr} {m : Str → Option Value} {news : Led} {Q : Value → Shared → Prop}
theorem item_c0 {value slice : PySem.Expr} {x : Addr} {v id : Int} {tv ti u : Tok} {n : Nat} (N : News h₀ L s.heap news) (hm : (x, cellO v tv id ti n) ∈ news) (h : Q (.int v tv) s)
    (hs : subscripted slice false (.ref x) (.int 0 u) = operate [.ref x, .int 0 u] (getItem (.ref x) (.int 0 u)) := by with_unfolding_all rfl) :
    wpAny (model prog w) A (subscriptTail value slice (.ref x) (.int 0 u)) Q E s :=
  item_map (f := fun q : Int × Tok => Value.int q.1 q.2) (xs := [(v, tv), (id, ti)]) N hm (by decide) (by simp) (by decide) (fun y hy _ => by cases hy; exact h) hs
theorem item_c1 {value slice : PySem.Expr} {x : Addr} {v id : Int} {tv ti u : Tok} {n : Nat} (N : News h₀ L s.heap news) (hm : (x, cellO v tv id ti n) ∈ news) (h : Q (.int id ti) s)
    (hs : subscripted slice false (.ref x) (.int 1 u) = operate [.ref x, .int 1 u] (getItem (.ref x) (.int 1 u)) := by with_unfolding_all rfl) :
    wpAny (model prog w) A (subscriptTail value slice (.ref x) (.int 1 u)) Q E s :=
  item_map (f := fun q : Int × Tok => Value.int q.1 q.2) (xs := [(v, tv), (id, ti)]) N hm (by decide) (by simp) (by decide) (fun y hy _ => by cases hy; exact h) hs
theorem map_at {α β : Type} {f : α → β} {l : List α} {i : Nat} {k : β} (h : (l.map f)[i]? = some k) : ∃ x, l[i]? = some x ∧ k = f x := by
  rw [List.getElem?_map] at h
  cases hx : l[i]? with
  | none => rw [hx] at h; cases h
  | some y => rw [hx] at h; exact ⟨y, rfl, (Option.some.inj h).symm⟩
theorem ints_map {l : List (Int × Tok)} : IntsAre (l.map fun x => Value.int x.1 x.2) (l.map (·.1)) := by
  induction l with
  | nil => exact .nil
  | cons x r ih => exact .cons _ _ ih
end
local macro_rules | `(tactic| walk_at "subscriptTail Name Constant ref int") => `(tactic| (k_here; (with_reducible show wpAny _ _ (subscriptTail _ _ (Value.ref _) (Value.int _ _)) _ _ _); first | ((with_reducible show wpAny _ _ (subscriptTail _ _ (Value.ref _) (Value.int 0 _)) _ _ _); (with_unfolding_all refine item_c0 (by k_asm) (by walk_at "my mem") ?_)) | ((with_reducible show wpAny _ _ (subscriptTail _ _ (Value.ref _) (Value.int 1 _)) _ _ _); (with_unfolding_all refine item_c1 (by k_asm) (by walk_at "my mem") ?_))))
theorem UpReads.mono {P : Params} {news news' : Led} {gr : Addr} {st : List (Int × Tok)} {u : Addr} {v : Int} (h : UpReads P news gr st u v) (hs : ∀ p ∈ news, p ∈ news') : UpReads P news' gr st u v := by
  obtain ⟨d, h1, ⟨T, i, t, h2, h3⟩ | ⟨T, t, h2⟩⟩ := h
  · exact ⟨d, hs _ h1, .inl ⟨T, i, t, hs _ h2, h3⟩⟩
  · exact ⟨d, hs _ h1, .inr ⟨T, t, hs _ h2⟩⟩
theorem zip_val {f : FnX} {val : Addr → Int} {us : List (Addr × Int)} (hus : f.us.zip (f.xs.map val) = us) {i : Nat} {x : Addr × Int} {k : Int} (h1 : us[i]? = some x) (h2 : (f.xs.map val)[i]? = some k) : x.2 = k := by
  subst hus
  have := List.getElem?_zip_eq_some.mp h1
  rw [this.2] at h2
  exact Option.some.inj h2
theorem flat2_take {fs : List FnX} {g : FnX → List Int} {i : Nat} {f : FnX} (h : fs[i]? = some f) : (fs.take (i + 1)).flatMap g = (fs.take i).flatMap g ++ g f := by
  rw [List.take_add_one, h, List.flatMap_append]; simp
theorem flat2_len {g : FnX → List Int} : ∀ {fs : List FnX}, (∀ f ∈ fs, (g f).length ≤ 2) → (fs.flatMap g).length ≤ 2 * fs.length
  | [], _ => by simp
  | f :: r, h => by
    have h1 := flat2_len (g := g) (fs := r) fun q hq => h q (List.mem_cons_of_mem _ hq)
    have h2 := h f List.mem_cons_self
    rw [List.flatMap_cons, List.length_append, List.length_cons]; omega
theorem drop_23 {h₀ h : Heap} {L : Addr} {a b c : Addr × Obj} {l : Led} (N : News h₀ L h (a :: b :: c :: l)) : News h₀ L h (a :: l) := news_sub N fun p hp => by
  simp only [List.mem_cons] at hp ⊢
  rcases hp with h | h <;> simp [h]
structure K2 where
  (k : Addr) (vs : List Value) (of ok : Obj) (cf : Option Value)
theorem zip_fst {α β : Type} : ∀ {l : List α} {r : List β}, l.length = r.length → (l.zip r).map Prod.fst = l
  | [], _, _ => rfl
  | _ :: _, [], h => by simp at h
  | a :: l, b :: r, h => by simp only [List.zip_cons_cons, List.map_cons]; rw [zip_fst (by simpa using h)]
theorem zip_refs {f : FnX} {val : Addr → Int} (h : f.us.length = f.xs.length) : refsL (fun x : Addr => x) f.us f.un = refsL (fun x : Addr × Int => x.1) (f.us.zip (f.xs.map val)) f.un := by
  show listOf (List.map (fun x : Addr => Value.ref x) f.us).toArray f.un = listOf (List.map (fun x : Addr × Int => Value.ref x.1) _).toArray f.un
  have e := zip_fst (l := f.us) (r := f.xs.map val) (by simpa using h)
  conv => lhs; rw [← e]
  rw [List.map_map]; rfl
local macro_rules | `(tactic| walk_at "call ref") => `(tactic| (k_here; (with_reducible show wpAny _ _ (call (Value.ref 84) [Value.ref _]) _ _ _); k_dflt (refine' count_spec ?k1 ?k2 ?k3 ?k4 ?kK ?N ?c ?cd ?ul ?l ?kd ?ku ?_; (case k1 => k_asm); (case k2 => k_asm); (case k3 => k_asm); (case k4 => k_asm); (case kK => first | exact rfl | with_reducible assumption); (case N => k_asm); (case c => walk_at "my mem"); (case cd => walk_at "my mem"); (case ul => walk_at "my mem"); (case l => with_reducible assumption); (case kd => ktr_room); (case ku => ktr_units)); intro t9 h9 tk9 F9 N9; (try dsimp only); (try k_fold)))
local macro_rules | `(tactic| walk_at "call ref") => `(tactic| (k_here; (try dsimp only [List.cons_append, List.nil_append]); (with_reducible show wpAny _ _ (call (Value.ref 92) [Value.ref _, Value.int _ _]) _ _ _); (refine Halt.of ?_)))
local macro_rules | `(tactic| walk_at "compareOp NotEq ref ref") => `(tactic| (refine Halt.of ?_))
local macro_rules | `(tactic| walk_at "subscriptTail Name Slice ref ref") => `(tactic| (refine Halt.of ?_))
local macro_rules | `(tactic| walk_at "compareOp Eq ref ref") => `(tactic| (refine Halt.of ?_))
section
variable {prog : Program} {w : World} {p : Program} {loose : List Str} {mean : ExcName → Option Value} {mg mb : Str → Option Value}
  {dp un : Nat} {gdd : Option (List Code)} {cn : Str} {cs : Scope} {a : Addr} {ccd : Value} {cl : List (Str × Addr)} {outer : List Env} {A₀ : Around} {base h₀ : Heap} {L : Addr} {m : Str → Option Value} {s : Shared} {Q E : Value → Shared → Prop}
  (B : Below A₀ base outer h₀) (F : Fr h₀ L s.heap m) (X : (Mine.hd.heap_39 w.params).In h₀) (T : Top p loose mean mg mb h₀) (hk : cs.kind = .function)
include B F X T hk
set_option maxRecDepth 100000 in
set_option maxHeartbeats 6000000 in
theorem stands_spec {news : Led} {wd gr gd stk opn frs fns : Addr} {owd : Obj} {k1 k2 tm : Tok} {made : Int} {st : List (Int × Tok)} {ups : List UpR} {sn on frn fnn : Nat} {fds : List FdR} {fs : List FnX} {val idn : Addr → Int}
  (N : News h₀ L s.heap news) (hwd : (wd, owd) ∈ news) (hd : owd.IsDictOf (strKind prog w) (wkv gr fns frs made tm))
  (hgr : (gr, instObj 216 gd) ∈ news) (hgd : (gd, gdD w.params k1 k2 stk opn) ∈ news) (hst : (stk, intsL st sn) ∈ news) (hopn : (opn, refsL UpR.u ups on) ∈ news) (hu : UpsIn w.params gr ups news)
  (hfrs : (frs, refsL FdR.fd fds frn) ∈ news) (hfns : (fns, refsL (fun f : FnX => f.tup) fs fnn) ∈ news) (hin : StandsIn prog w news gr st fds fs val idn)
  (hfd20 : fds.length ≤ 20) (hfs20 : fs.length ≤ 20) (hup : ups.length ≤ 60)
  (hval : st.map (·.1) = (fds.flatMap FdR.xs).map val)
  (hdue : (ups.map UpR.i) = (enumKs (fun i => match (fds.flatMap FdR.xs)[i]? with | some x => (fs.flatMap fun f => f.xs.map idn).any (· == idn x) | none => false) (fds.flatMap FdR.xs).length).reverse)
  (hroom : dp + 8 < recursionLimit) (hunits : un + 150 < cLine)
  (ret : ∀ (h' : Heap) (tk' : Nat), Fr h₀ L h' m → News h₀ L h' news → Q (.bool true) { s with heap := h', toks := tk' }) :
  wpAny (model prog w) (ktrTop dp un gdd cn cs L a ccd cl outer) (call (.ref 303) [.ref wd]) Q E s := by
  w_top off
  k_with_none
  k_with "exec For Name Subscript cons nil" => (refine Halt.of ?_)
  k_steps
  refine Halt.on ?_
  rename Fr _ _ _ _ => F7
  with_unfolding_all refine For_invVF F7 rfl rfl ?_
  k_with "pyIter ref" => (refine Halt.of ?_)
  k_steps
  rename_i g9 L9 hh9 tkk9 FG9 B9 X9 T9 lL of ok0 df dk0 Cx hw1 lCx Kl hw2 lKl Dt hw3 lDt hw4 hw5 hw6 ok N7 dk
  clear hh9 tkk9
  have hfl : ∀ i, ((fds.take i).flatMap FdR.xs).length ≤ 60 := fun i => by
    rw [flat_len fun r hr => (hin.fr r (List.mem_of_mem_take hr)).2.2.2, List.length_take]; omega
  have N8 := news_dropt N7
  refine Halt.on ?_
  refine iter_listV (σ := Addr) (a₀ := Cx) (xs := fds) (f := fun r : FdR => Value.ref r.fd) (l := frs) (n := frn) (Str.ofString "cells") (fun c => .ref c) (fun i c => (c, refsL (fun x : Addr => x) ((fds.take i).flatMap FdR.xs) 0) :: (Kl, listOf #[] 0) :: (L9 + 1 + 1, of) :: (L9 + 1, ok) :: news)
    (fun i c => @LT.lt Nat _ (L9 + 1 + 1) c) (by decide) (by rfl) (fun i c => List.mem_cons_of_mem _ (List.mem_cons_of_mem _ (List.mem_cons_of_mem _ (List.mem_cons_of_mem _ hfrs)))) F7 N8 (by rfl) lCx.1 ?turn ?done
  case turn =>
    clear F7 N7 N8 lDt
    rintro i c r ⟨ia, io⟩ h tk hy hil hcL hit F4 N4
    dsimp only [envOfC, envOf] at hit F4 N4
    obtain ⟨fr1, fr2, fr3, fr4⟩ := hin.fr r (List.mem_of_getElem? hy)
    have hfi := hfl i
    have hit2 : ∀ p ∈ (Kl, listOf #[] 0) :: (L9 + 1 + 1, of) :: (L9 + 1, ok) :: news, p.1 ≠ ia := fun p hp => hit p (List.mem_cons_of_mem _ hp)
    have q1 : @Ne Nat c ia := hit _ List.mem_cons_self
    clear hit
    (try k_fold)
    k_with_none
    k_steps
    rename News _ _ _ _ => N9
    rename Addr => D9
    have hD9 : @LT.lt Nat _ (L9 + 1 + 1) D9 := by rename ia < D9 ∧ _ => lD; exact lD.2.2.2.1
    refine FVPost.intro D9 (by assumption) N9 ?_ ?_ (by rfl) ?_ hD9
    · rw [flat_take hy]
      have e9 : refsL (fun x : Addr => x) ((fds.take i).flatMap FdR.xs ++ r.xs) 0 = listOf (List.map (fun x : Addr => Value.ref x) ((fds.take i).flatMap FdR.xs) ++ List.map (fun x : Addr => Value.ref x) r.xs).toArray 0 := by
        show listOf (List.map (fun x : Addr => Value.ref x) ((fds.take i).flatMap FdR.xs ++ r.xs)).toArray 0 = _
        rw [List.map_append]
      rw [e9]
      intro p hp
      simp only [List.mem_cons] at hp ⊢
      rcases hp with h | h | h | h | h | h
      · exact .inr (.inl h)
      · exact .inl h
      · exact .inr (.inr (.inr (.inl h)))
      · exact .inr (.inr (.inr (.inr (.inl h))))
      · exact .inr (.inr (.inr (.inr (.inr (.inl h)))))
      · exact .inr (.inr (.inr (.inr (.inr (.inr h)))))
    · rename ia < D9 ∧ _ => lD
      exact ne_cons (Nat.ne_of_gt lD.1) hit2
    · intro z h1 h2; simp only [if_neg h1, if_neg h2]; rfl
  case done =>
    clear F7 N7 N8 lDt
    intro c u h tk hcL F4 N4
    dsimp only [envOfC, envOf] at F4 N4
    have hC60 := hfl fds.length
    rw [List.take_length] at N4 hC60
    have hcel := hin.cel
    have hst60 : st.length ≤ 60 := by have := congrArg List.length hval; simp only [List.length_map] at this; omega
    generalize hCS : fds.flatMap FdR.xs = CS at N4 hC60 hcel hval hdue
    (try k_fold)
    k_with_none
    k_steps
    refine Halt.on ?_
    k_dflt (refine LCg.ListComp_U (F₀ := by k_asm) (by rfl) (by decide) (by rfl) (by decide) (by rfl) ?_)
    k_steps
    rename Fr _ _ _ _ => F7
    rename News _ _ _ _ => N7
    refine Halt.on ?_
    k_dflt (refine LCg.CompSrc.ledger (by rfl) F7 N7 (its := List.toArray (CS.map fun x => Value.ref x)) (k := 0) (by walk_at "my mem") (by simp [sizeLine_eq]; omega) ?_)
    intro g9
    refine comp_ints (CS.map val) (by simp) (.inr ⟨_, by walk_at "my mem", rfl, _, rfl⟩) ?turn2 ?fin2
    case turn2 =>
      intro i k v I oI C oC D m₂ ys h tk E' hi hk hv hC hx F8 N8 off ne
      obtain ⟨x9, hx9, rfl⟩ := map_at hk
      obtain ⟨x8, hx8, rfl⟩ := map_at (show (CS.map fun x => Value.ref x)[i]? = some v by simpa using hv)
      rw [hx9] at hx8; cases hx8
      obtain ⟨tv, ti, n9, hc⟩ := hcel _ (List.mem_of_getElem? hx9)
      clear F7 N7
      (try k_fold)
      k_steps
      rename News _ _ _ _ => N9
      exact IntEnd.intro (by assumption) N9 (fun p hp => hp)
    case fin2 =>
      intro ys hys D h tk F8 N8 off
      clear F7 N7
      (try k_fold)
      k_steps
      refine Halt.on ?_
      rename News _ _ _ _ => N9
      k_dflt (refine ints_ne N9 (vs := st.map fun x => Value.int x.1 x.2) (ws := ys) (by walk_at "my mem") (by walk_at "my mem") ints_map (hval ▸ hys) (by units_room) ?_)
      k_with "exec For Tuple Subscript cons nil" => (refine Halt.of ?_)
      k_steps
      refine Halt.on ?_
      rename Fr _ _ _ _ => F7
      with_unfolding_all refine For_invTF F7 ?_ (fun _ => rfl)
      k_with "pyIter ref" => (refine Halt.of ?_)
      k_steps
      rename Fr _ _ _ _ => F7
      rename News _ _ _ _ => N7
      have N10 : News _ _ _ ((Kl, listOf ([] : List Value).toArray 0) :: (L9 + 1 + 1, of) :: (L9 + 1, ok) :: (c, refsL (fun x : Addr => x) CS 0) :: news) := news_sub N7 fun p hp => by
        simp only [List.mem_cons] at hp ⊢
        rcases hp with h | h | h | h | h
        · exact .inr (.inr (.inl h))
        · exact .inr (.inr (.inr (.inl h)))
        · exact .inr (.inr (.inr (.inr (.inl h))))
        · exact .inr (.inl h)
        · exact .inr (.inr (.inr (.inr (.inr h))))
      refine Halt.on ?_
      refine iter_listT (σ := K2) (a₀ := ⟨Kl, [], of, ok, _⟩) (xs := fs) (f := fun f : FnX => Value.ref f.tup) (l := fns) (n := fnn) [Str.ofString "own"] (fun i a => (a.k, listOf a.vs.toArray 0) :: (L9 + 1 + 1, a.of) :: (L9 + 1, a.ok) :: (c, refsL (fun x : Addr => x) CS 0) :: news)
        (fun i a => a.ok.data = Data.cell (some (Value.ref a.k)) ∧ IntsAre a.vs ((fs.take i).flatMap fun f => f.xs.map idn) ∧ a.of.data = Data.cell a.cf ∧ @LT.lt Nat _ (L9 + 1 + 1) a.k) (by rfl) (fun i a => List.mem_cons_of_mem _ (List.mem_cons_of_mem _ (List.mem_cons_of_mem _ (List.mem_cons_of_mem _ hfns)))) F7 N10 ⟨dk, .nil, df, lKl.2.1⟩ ?turn3 ?done3
      case turn3 =>
        clear F7 N7 N10
        rintro i ⟨k, vs, of3, ok3, cf3⟩ f u ⟨ia, io⟩ ⟨h, gns, drn, tk3, os3⟩ hy hil ⟨hok3, hvs3, hof3, hk3⟩ hit F4 N4
        dsimp only [envOfC, envOf] at hit F4 N4 hok3 hvs3 hof3 hk3
        have j1 : @Ne Nat k ia := hit _ List.mem_cons_self
        have j2 : @Ne Nat (L9 + 1 + 1) ia := hit _ (List.mem_cons_of_mem _ List.mem_cons_self)
        have j3 : @Ne Nat (L9 + 1) ia := hit _ (List.mem_cons_of_mem _ (List.mem_cons_of_mem _ List.mem_cons_self))
        have j4 : @Ne Nat c ia := hit _ (List.mem_cons_of_mem _ (List.mem_cons_of_mem _ (List.mem_cons_of_mem _ List.mem_cons_self)))
        have j5 : ∀ p ∈ news, p.1 ≠ ia := fun p hp => hit _ (List.mem_cons_of_mem _ (List.mem_cons_of_mem _ (List.mem_cons_of_mem _ (List.mem_cons_of_mem _ hp))))
        have hX := hin.fn f (List.mem_of_getElem? hy)
        have hXf : f.xs.length ≤ 2 := hX.few
        have hXc := hin.cef f (List.mem_of_getElem? hy)
        have hXup := hin.up f (List.mem_of_getElem? hy)
        have hXul := hX.ul
        rw [zip_refs (val := val) hX.len] at hXul
        generalize hus : f.us.zip (f.xs.map val) = us at hXul hXup
        have husl : us.length < 1000 := by rw [← hus, List.length_zip, List.length_map]; omega
        have husx : us.length = f.xs.length := by rw [← hus, List.length_zip, List.length_map, hX.len]; omega
        have husx2 : f.us.length = f.xs.length := hX.len
        (try k_fold)
        k_with_none
        k_steps
        refine Halt.on ?_
        rename Obj.data _ = Data.cell (some (Value.ref f.clo)) => hof4
        rename Obj => of4
        k_dflt (refine LCg.ListComp_U (F₀ := by k_asm) (by rfl) (by decide) (by rfl) (by decide) (by rfl) ?_)
        k_steps
        refine Halt.on ?_
        rename Fr _ _ _ _ => F7
        rename News _ _ _ _ => N7
        rename IsRange _ _ _ _ _ _ _ _ => hR7
        k_dflt (refine LCg.CompSrc.range (by rfl) F7 N7 hR7 (small_one (by decide) (by decide) (by omega) (by omega)) (n := f.xs.length) (by rw [rangeSize_nat]; omega) (by rw [sizeLine_eq]; omega) ?_)
        intro gg
        refine comp_ints (f.xs.map val) (by rw [List.length_map]) trivial ?turn4 ?fin4
        case turn4 =>
          intro i4 k4 v I oI C oC D m₂ ys h tk E' hi hk hv hC hx F8 N8 off ne
          obtain ⟨t4, rfl⟩ := hv
          clear F7 N7
          (try k_fold)
          k_steps
          refine Halt.on ?_
          rename Fr _ _ _ _ => F9
          rename News _ _ _ _ => N9
          k_dflt (refine getup_spec (us := us) (st := st) (gr := gr) (k1 := k1) (k2 := k2) (stk := stk) (opn := opn) (by k_asm) F9 (by k_asm) (by k_asm) (by first | exact rfl | assumption) N9 (by walk_at "my mem") (by walk_at "my mem") (by walk_at "my mem") (by walk_at "my mem") (by walk_at "my mem") (by walk_at "my mem") (by omega) husl (fun y hy => (hXup y hy).mono fun p hp => by repeat (first | exact hp | refine List.mem_cons_of_mem _ ?_)) (by omega) (by omega) (by ktr_room) (by ktr_units) ?_)
          intro x5 t5 h5 tk5 hx5 F5 N5
          have e5 : ((0 : Int) + (i4 : Int)).toNat = i4 := by omega
          rw [e5] at hx5
          have e6 := zip_val hus hx5 hk
          subst e6
          clear F9 N9
          (try dsimp only)
          (try k_fold)
          k_steps
          exact IntEnd.intro F5 N5 (fun p hp => hp)
        case fin4 =>
          intro ys4 hys4 D4 h tk F8 N8 off4
          clear F7 N7
          (try k_fold)
          k_steps
          refine Halt.on ?_
          k_dflt (refine LCg.ListComp_U (F₀ := by k_asm) (by rfl) (by decide) (by rfl) (by decide) (by rfl) ?_)
          k_steps
          refine Halt.on ?_
          rename Fr _ _ _ _ => F7
          rename News _ _ _ _ => N7
          k_dflt (refine LCg.CompSrc.ledger (by rfl) F7 N7 (its := List.toArray (f.xs.map fun x => Value.ref x)) (k := f.xn) (by walk_at "my mem") (by simp [sizeLine_eq]; omega) ?_)
          intro gg5
          refine comp_ints (f.xs.map val) (by simp) (.inr ⟨_, by walk_at "my mem", rfl, _, rfl⟩) ?turn5 ?fin5
          case turn5 =>
            intro i5 k5 v I oI C oC D m₂ ys h tk E' hi hk hv hC hx F8 N8 off ne
            obtain ⟨x9, hx9, rfl⟩ := map_at hk
            obtain ⟨x8, hx8, rfl⟩ := map_at (show (f.xs.map fun x => Value.ref x)[i5]? = some v by simpa using hv)
            rw [hx9] at hx8; cases hx8
            obtain ⟨tv, ti, n9, hc⟩ := hXc _ (List.mem_of_getElem? hx9)
            clear F7 N7
            (try k_fold)
            k_steps
            rename News _ _ _ _ => N9
            exact IntEnd.intro (by assumption) N9 (fun p hp => hp)
          case fin5 =>
            intro ys5 hys5 D5 h tk F8 N8 off5
            clear F7 N7
            (try k_fold)
            k_steps
            refine Halt.on ?_
            rename News _ _ _ _ => N9
            k_dflt (refine ints_ne N9 (vs := ys4) (ws := ys5) (by walk_at "my mem") (by walk_at "my mem") hys4 hys5 (by units_room) ?_)
            k_steps
            refine Halt.on ?_
            k_dflt (refine LCg.ListComp_U (F₀ := by k_asm) (by rfl) (by decide) (by rfl) (by decide) (by rfl) ?_)
            k_steps
            refine Halt.on ?_
            rename Fr _ _ _ _ => F7
            rename News _ _ _ _ => N7
            k_dflt (refine LCg.CompSrc.ledger (by rfl) F7 N7 (its := List.toArray (f.xs.map fun x => Value.ref x)) (k := f.xn) (by walk_at "my mem") (by simp [sizeLine_eq]; omega) ?_)
            intro gg6
            refine comp_ints (f.xs.map idn) (by simp) (.inr ⟨_, by walk_at "my mem", rfl, _, rfl⟩) ?turn6 ?fin6
            case turn6 =>
              intro i5 k5 v I oI C oC D m₂ ys h tk E' hi hk hv hC hx F8 N8 off ne
              obtain ⟨x9, hx9, rfl⟩ := map_at hk
              obtain ⟨x8, hx8, rfl⟩ := map_at (show (f.xs.map fun x => Value.ref x)[i5]? = some v by simpa using hv)
              rw [hx9] at hx8; cases hx8
              obtain ⟨tv, ti, n9, hc⟩ := hXc _ (List.mem_of_getElem? hx9)
              clear F7 N7
              (try k_fold)
              k_steps
              rename News _ _ _ _ => N9
              exact IntEnd.intro (by assumption) N9 (fun p hp => hp)
            case fin6 =>
              intro ys6 hys6 D6 h tk F8 N8 off6
              have hvl := hvs3.length
              have hvl2 : (List.flatMap (fun f : FnX => List.map idn f.xs) (List.take i fs)).length ≤ 40 := by
                have := flat2_len (g := fun f : FnX => List.map idn f.xs) (fs := fs.take i) fun f hf => by rw [List.length_map]; exact (hin.fn f (List.mem_of_mem_take hf)).few
                rw [List.length_take] at this; omega
              have hyl6 := hys6.length
              rw [List.length_map] at hyl6
              have z6 : @Ne Nat (L9 + 1) D6 := off1_mem off6 (L9 + 1, ok3) (by walk_at "my mem")
              have z7 : @Ne Nat ia D6 := off1_mem off6 (ia, io) (by walk_at "my mem")
              have z8 : @Ne Nat (L9 + 1 + 1) D6 := off1_mem off6 (L9 + 1 + 1, of4) (by walk_at "my mem")
              have N10 := drop_23 N8
              clear F7 N7 N8
              (try k_fold)
              k_steps
              rename News _ _ _ _ => N9
              rename IntsAre _ (_ ++ _) => hI9
              rename Obj.data _ = Data.cell (some (Value.ref _)) => hok9
              rename ((D6 : Nat) < _ ∧ _) => l9
              refine FTPost.intro ⟨_, _, of4, _, _⟩ (by assumption) N9 ?_ ?_ ?_ ⟨hok9, (by rw [flat2_take hy]; exact hI9), hof4, l9.2.2.2.1⟩
              · dsimp only
                intro p hp
                simp only [List.mem_cons] at hp ⊢
                rcases hp with h | h | h | h | h | h
                · exact .inr (.inr (.inl h))
                · exact .inl h
                · exact .inr (.inr (.inr (.inr (.inl h))))
                · exact .inr (.inr (.inr (.inr (.inr (.inl h)))))
                · exact .inr (.inr (.inr (.inr (.inr (.inr (.inl h))))))
                · exact .inr (.inr (.inr (.inr (.inr (.inr (.inr h))))))
              · dsimp only
                exact ne_cons (Nat.ne_of_gt l9.2.1) (ne_cons j2 (ne_cons j3 (ne_cons j4 j5)))
              · intro z hz
                have hz' : ¬ z = Str.ofString "own" := by simpa using hz
                simp only [if_neg hz', hz]
                rfl
      case done3 =>
        clear F7 N7 N10
        rintro ⟨k, vs, of3, ok3, cf3⟩ u h tk ⟨hok3, hvs3, hof3, hk3⟩ F4 N4
        dsimp only [envOfC, envOf] at F4 N4 hok3 hvs3 hof3 hk3
        rw [List.take_length] at hvs3
        generalize (fs.flatMap fun f : FnX => f.xs.map idn) = KS at hvs3 hdue
        (try k_fold)
        k_with_none
        k_with "call type:enumerate" => (refine Halt.of ?_)
        k_steps
        refine Halt.on ?_
        k_dflt (refine Assign_enum (F₀ := by k_asm) (by rfl) (by with_unfolding_all rfl) (by with_unfolding_all rfl) (by decide) (by rfl) (by decide) (by rfl) (by rfl) (by decide) (by rfl) (by rfl) ?_)
        k_steps
        refine Halt.on ?_
        rename Fr _ _ _ _ => F7
        rename News _ _ _ _ => N7
        k_dflt (refine EnSrc.call (vs := CS.map fun x => Value.ref x) (n := 0) (fun i => match CS[i]? with | some x => KS.any (· == idn x) | none => false) (by rfl) F7 N7 (by walk_at "my mem") (by rw [List.length_map]; omega) ?test5 ?item5 ?fin5)
        case test5 =>
          intro i x t e it oe oi oC C D m₂ ys h tk E' hi hx hC ha hb F8 N8
          obtain ⟨x9, hx9, rfl⟩ := map_at hx
          obtain ⟨tv, ti, n9, hc⟩ := hcel _ (List.mem_of_getElem? hx9)
          clear F7 N7
          (try k_fold)
          k_steps
          rename News _ _ _ _ => N9
          exact EnTest.intro (by rw [hx9]) (by assumption) N9 (fun p hp => hp)
        case item5 =>
          intro i x t e it oe oi oC C D m₂ ys h tk E' hi hx hC ha hb F8 N8
          clear F7 N7
          (try k_fold)
          k_steps
          exact EnItem.intro
        case fin5 =>
          intro g7 ysd hysd D5 h tk F8 N8 off5
          rw [List.length_map] at hysd
          clear F7 N7
          (try k_fold)
          k_steps
          refine Halt.on ?_
          k_dflt (refine LCg.ListComp_U (F₀ := by k_asm) (by rfl) (by decide) (by rfl) (by decide) (by rfl) ?_)
          k_steps
          refine Halt.on ?_
          rename Fr _ _ _ _ => F7
          rename News _ _ _ _ => N7
          k_dflt (refine LCg.CompSrc.ledger (by rfl) F7 N7 (its := List.toArray (ups.map fun r => Value.ref r.u)) (k := on) (by walk_at "my mem") (by simp [sizeLine_eq]; omega) ?_)
          intro gg7
          refine comp_ints (ups.map UpR.i) (by simp) (.inr ⟨_, by walk_at "my mem", rfl, _, rfl⟩) ?turn7 ?fin7
          case turn7 =>
            intro i5 k5 v I oI C oC D m₂ ys h tk E' hi hk hv hC hx F8 N8 off ne
            obtain ⟨x9, hx9, rfl⟩ := map_at hk
            obtain ⟨x8, hx8, rfl⟩ := map_at (show (ups.map fun r => Value.ref r.u)[i5]? = some v by simpa using hv)
            rw [hx9] at hx8; cases hx8
            obtain ⟨hu1, hu2⟩ := hu _ (List.mem_of_getElem? hx9)
            clear F7 N7
            (try k_fold)
            k_steps
            rename News _ _ _ _ => N9
            exact IntEnd.intro (by assumption) N9 (fun p hp => hp)
          case fin7 =>
            intro ys7 hys7 D7 h tk F8 N8 off7
            clear F7 N7
            (try k_fold)
            k_steps
            refine Halt.on ?_
            rename Fr _ _ _ _ => F9
            rename News _ _ _ _ => N9
            have hysl := hysd.length
            have hysl2 : ysd.length ≤ 60 := by
              rw [hysl]; unfold enumKs
              rw [List.length_map]
              exact Nat.le_trans (List.length_filter_le _ _) (by rw [List.length_range]; exact hC60)
            k_dflt (refine krv_ints F9 N9 (vs := ysd) (by kmk_list) (by exact IsPart.int _ _) hysd ?_ (by with_unfolding_all rfl) (by kmk_pure) (by simp [sizeLine_eq]; omega))
            intro D9 ws9 h9 F8 N8 l9 hI9 _
            rw [← hdue] at hI9
            clear F9 N9
            (try dsimp only)
            (try k_fold)
            k_steps
            refine Halt.on ?_
            rename News _ _ _ _ => N9
            k_dflt (refine ints_eq N9 (vs := ys7) (ws := ws9) (by walk_at "my mem") (by walk_at "my mem") hys7 hI9 (by units_room) ?_)
            k_steps
            rename News h₀ L _ _ => kN
            refine ret _ _ (by assumption) (news_sub kN ?_)
            intro p hp
            repeat (first | exact hp | refine List.mem_cons_of_mem _ ?_)
end
end
-- M0
theorem newEnts_nodup {P : Params} {gr : Addr} {l : Led} : ∀ {new : List UpR}, (new.Pairwise fun x y => @LT.lt Nat _ x.u y.d) → (∀ r ∈ new, @LT.lt Nat _ r.d r.u) → (∀ r ∈ new, ∀ p ∈ l, @LT.lt Nat _ p.1 r.d) → (l.map (·.1)).Nodup → ((newEnts P gr new ++ l).map (·.1)).Nodup
  | [], _, _, _, h => h
  | r :: new, hp, hd, hl, h => by
    have ih := newEnts_nodup (P := P) (gr := gr) (List.pairwise_cons.mp hp).2 (fun r hr => hd r (List.mem_cons_of_mem _ hr)) (fun r hr => hl r (List.mem_cons_of_mem _ hr)) h
    have hdu := hd r List.mem_cons_self
    have key : ∀ p ∈ newEnts P gr new ++ l, @Ne Nat p.1 r.u ∧ @Ne Nat p.1 r.d := by
      intro p hp'
      rcases List.mem_append.mp hp' with h' | h'
      · obtain ⟨y, hy, e⟩ := newEnts_fst h'
        have a1 : @LT.lt Nat _ r.u y.d := (List.pairwise_cons.mp hp).1 y hy
        have a2 : @LT.lt Nat _ y.d y.u := hd y (List.mem_cons_of_mem _ hy)
        have a3 : @LT.lt Nat _ r.d y.d := Nat.lt_trans hdu a1
        have a4 : @LT.lt Nat _ r.u y.u := Nat.lt_trans a1 a2
        have a5 : @LT.lt Nat _ r.d y.u := Nat.lt_trans a3 a2
        rcases e with e | e <;> rw [e]
        · exact ⟨Nat.ne_of_gt a4, Nat.ne_of_gt a5⟩
        · exact ⟨Nat.ne_of_gt a1, Nat.ne_of_gt a3⟩
      · have a1 : @LT.lt Nat _ p.1 r.d := hl r List.mem_cons_self p h'
        exact ⟨Nat.ne_of_lt (Nat.lt_trans a1 hdu), Nat.ne_of_lt a1⟩
    show ((((r.u, instObj 197 r.d) :: (r.d, upD P r.T (.ref gr) r.i .none) :: (newEnts P gr new ++ l)) : Led).map (·.1)).Nodup
    exact nd_cons (ne_cons (Nat.ne_of_lt hdu) fun p hp => (key p hp).1) (nd_cons (fun p hp => (key p hp).2) ih)
theorem make_end {h₀ h : Heap} {L : Addr} {P : Params} {gr b wd gd stk opn frs fns fl Cl t c cd : Addr} {q1 q1' q2 q3 q4 q5 q5' q6 q7 q7' ot oc ocd ofl oCl : Obj} {new : List UpR} {rest R R3 : Led}
    (kN : News h₀ L h ((t, ot) :: (c, oc) :: (cd, ocd) :: (fns, q7') :: R3))
    (hnd : (((b, q1) :: (wd, q2) :: (gd, q3) :: (stk, q4) :: (opn, q5) :: (frs, q6) :: (fns, q7) :: rest).map (·.1)).Nodup)
    (hR : ∀ p ∈ (Cl, oCl) :: (b, q1') :: (wd, q2) :: (gd, q3) :: (stk, q4) :: (frs, q6) :: (fns, q7) :: rest, p ∈ R)
    (hCl : ∀ p ∈ (b, q1) :: (wd, q2) :: (gd, q3) :: (stk, q4) :: (opn, q5) :: (frs, q6) :: (fns, q7) :: rest, @LT.lt Nat _ p.1 Cl)
    (n2 : @LT.lt Nat _ opn fl) (n3 : ∀ p ∈ R, @LT.lt Nat _ p.1 fl) (n4 : ∀ r ∈ new, @LT.lt Nat _ fl r.d) (g6 : ∀ r ∈ new, (∀ p ∈ R, @LT.lt Nat _ p.1 r.d) ∧ @LT.lt Nat _ r.d r.u) (g6b : new.Pairwise fun x y => @LT.lt Nat _ x.u y.d)
    (e2 : ∀ p ∈ (fl, ofl) :: (opn, q5') :: (newEnts P gr new ++ R), p.1 ≠ fns → p ∈ R3)
    (lcd : @LT.lt Nat _ fns cd) (lcd2 : ∀ p ∈ R3, @LT.lt Nat _ p.1 cd) (lc : @LT.lt Nat _ cd c) (lt : @LT.lt Nat _ c t) :
    News h₀ L h ((b, q1') :: (wd, q2) :: (gd, q3) :: (stk, q4) :: (opn, q5') :: (frs, q6) :: (fns, q7') :: ([(t, ot), (c, oc), (cd, ocd), (fl, ofl), (Cl, oCl)] ++ newEnts P gr new ++ rest)) ∧
    (((b, q1') :: (wd, q2) :: (gd, q3) :: (stk, q4) :: (opn, q5') :: (frs, q6) :: (fns, q7') :: ([(t, ot), (c, oc), (cd, ocd), (fl, ofl), (Cl, oCl)] ++ newEnts P gr new ++ rest)).map (·.1)).Nodup := by
  obtain ⟨S, o1, o2, o3, o4, o5, o6, o7⟩ := seven_of hnd
  have hfnsR : (fns, q7) ∈ R := hR _ (by simp)
  have hfl : @LT.lt Nat _ fns fl := n3 _ hfnsR
  have hClR : (Cl, oCl) ∈ R := hR _ (by simp)
  have hClf : @LT.lt Nat _ fns Cl := hCl (fns, q7) (by simp)
  have inNew : ∀ p ∈ newEnts P gr new, p.1 ≠ fns := by
    intro p hp
    obtain ⟨y, hy, e⟩ := newEnts_fst hp
    have a1 : @LT.lt Nat _ fns y.d := (g6 y hy).1 _ hfnsR
    have a2 := (g6 y hy).2
    rcases e with e | e <;> rw [e]
    · exact Nat.ne_of_gt (Nat.lt_trans a1 a2)
    · exact Nat.ne_of_gt a1
  -- the parts in R3
  have m0 : ∀ p ∈ R, p.1 ≠ fns → p ∈ R3 := fun p hp => e2 p (List.mem_cons_of_mem _ (List.mem_cons_of_mem _ (List.mem_append_right _ hp)))
  have m1 : (b, q1') ∈ R3 := m0 _ (hR _ (by simp)) S.h17
  have m2 : (wd, q2) ∈ R3 := m0 _ (hR _ (by simp)) S.h27
  have m3 : (gd, q3) ∈ R3 := m0 _ (hR _ (by simp)) S.h37
  have m4 : (stk, q4) ∈ R3 := m0 _ (hR _ (by simp)) S.h47
  have m5 : (opn, q5') ∈ R3 := e2 _ (by simp) S.h57
  have m6 : (frs, q6) ∈ R3 := m0 _ (hR _ (by simp)) S.h67
  have m7 : ∀ p ∈ rest, p ∈ R3 := fun p hp => m0 _ (hR p (by simp [hp])) (o7 p hp)
  have m8 : (fl, ofl) ∈ R3 := e2 _ (by simp) (Nat.ne_of_gt hfl)
  have m9 : (Cl, oCl) ∈ R3 := m0 _ hClR (Nat.ne_of_gt hClf)
  have m10 : ∀ p ∈ newEnts P gr new, p ∈ R3 := fun p hp => e2 p (by simp [hp]) (inNew p hp)
  constructor
  · refine news_sub kN fun p hp => ?_
    simp only [List.mem_cons, List.mem_append, List.not_mem_nil, or_false] at hp ⊢
    rcases hp with h | h | h | h | h | h | h | ((h | h | h | h | h) | h) | h
    · exact .inr (.inr (.inr (.inr (h ▸ m1))))
    · exact .inr (.inr (.inr (.inr (h ▸ m2))))
    · exact .inr (.inr (.inr (.inr (h ▸ m3))))
    · exact .inr (.inr (.inr (.inr (h ▸ m4))))
    · exact .inr (.inr (.inr (.inr (h ▸ m5))))
    · exact .inr (.inr (.inr (.inr (h ▸ m6))))
    · exact .inr (.inr (.inr (.inl h)))
    · exact .inl h
    · exact .inr (.inl h)
    · exact .inr (.inr (.inl h))
    · exact .inr (.inr (.inr (.inr (h ▸ m8))))
    · exact .inr (.inr (.inr (.inr (h ▸ m9))))
    · exact .inr (.inr (.inr (.inr (m10 _ h))))
    · exact .inr (.inr (.inr (.inr (m7 _ h))))
  · have base1 : (((Cl, oCl) :: (b, q1') :: (wd, q2) :: (gd, q3) :: (stk, q4) :: (opn, q5') :: (frs, q6) :: (fns, q7') :: rest).map (·.1)).Nodup := by
      refine nd_cons ?_ hnd
      intro p hp
      have : p.1 ∈ ((b, q1') :: (wd, q2) :: (gd, q3) :: (stk, q4) :: (opn, q5') :: (frs, q6) :: (fns, q7') :: rest).map (·.1) := by
        exact (List.mem_map (f := fun q : Addr × Obj => q.1)).mpr ⟨p, hp, rfl⟩
      obtain ⟨q, hq, e⟩ := List.mem_map.mp (show p.1 ∈ ((b, q1) :: (wd, q2) :: (gd, q3) :: (stk, q4) :: (opn, q5) :: (frs, q6) :: (fns, q7) :: rest).map (·.1) from this)
      rw [← e]
      exact Nat.ne_of_lt (hCl q hq)
    have lR : ∀ p ∈ (Cl, oCl) :: (b, q1') :: (wd, q2) :: (gd, q3) :: (stk, q4) :: (opn, q5') :: (frs, q6) :: (fns, q7') :: rest, p.1 = opn ∨ ∃ q ∈ R, q.1 = p.1 := by
      intro p hp
      simp only [List.mem_cons] at hp
      rcases hp with h | h | h | h | h | h | h | h | h
      · exact .inr ⟨_, hClR, by rw [h]⟩
      · exact .inr ⟨(b, q1'), hR _ (by simp), by rw [h]⟩
      · exact .inr ⟨(wd, q2), hR _ (by simp), by rw [h]⟩
      · exact .inr ⟨(gd, q3), hR _ (by simp), by rw [h]⟩
      · exact .inr ⟨(stk, q4), hR _ (by simp), by rw [h]⟩
      · exact .inl (by rw [h])
      · exact .inr ⟨(frs, q6), hR _ (by simp), by rw [h]⟩
      · exact .inr ⟨(fns, q7), hfnsR, by rw [h]⟩
      · exact .inr ⟨p, hR _ (by simp [h]), rfl⟩
    have base2 : (((fl, ofl) :: (Cl, oCl) :: (b, q1') :: (wd, q2) :: (gd, q3) :: (stk, q4) :: (opn, q5') :: (frs, q6) :: (fns, q7') :: rest).map (·.1)).Nodup := by
      refine nd_cons (fun p hp => ?_) base1
      rcases lR p hp with e | ⟨q, hq, e⟩
      · rw [e]; exact Nat.ne_of_lt n2
      · rw [← e]; exact Nat.ne_of_lt (n3 q hq)
    have base3 := newEnts_nodup (P := P) (gr := gr) g6b (fun r hr => (g6 r hr).2) (fun r hr p hp => by
      rcases List.mem_cons.mp hp with h | h
      · rw [h]; exact n4 r hr
      · rcases lR p h with e | ⟨q, hq, e⟩
        · rw [e]; exact Nat.lt_trans n2 (n4 r hr)
        · rw [← e]; exact (g6 r hr).1 q hq) base2
    have l3 : ∀ p ∈ newEnts P gr new ++ (fl, ofl) :: (Cl, oCl) :: (b, q1') :: (wd, q2) :: (gd, q3) :: (stk, q4) :: (opn, q5') :: (frs, q6) :: (fns, q7') :: rest, @LT.lt Nat _ p.1 cd := by
      intro p hp
      simp only [List.mem_cons, List.mem_append] at hp
      rcases hp with h | h | h | h | h | h | h | h | h | h | h
      · exact lcd2 _ (m10 _ h)
      · rw [h]; exact lcd2 _ m8
      · rw [h]; exact lcd2 _ m9
      · rw [h]; exact lcd2 _ m1
      · rw [h]; exact lcd2 _ m2
      · rw [h]; exact lcd2 _ m3
      · rw [h]; exact lcd2 _ m4
      · rw [h]; exact lcd2 _ m5
      · rw [h]; exact lcd2 _ m6
      · rw [h]; exact lcd
      · exact lcd2 _ (m7 _ h)
    have base4 := nd_cons (a := cd) (o := ocd) (fun p hp => Nat.ne_of_lt (l3 p hp)) base3
    have base5 := nd_cons (a := c) (o := oc) (ne_cons (Nat.ne_of_lt lc) fun p hp => Nat.ne_of_lt (Nat.lt_trans (l3 p hp) lc)) base4
    have base6 := nd_cons (a := t) (o := ot) (ne_cons (Nat.ne_of_lt lt) (ne_cons (Nat.ne_of_lt (Nat.lt_trans lc lt)) fun p hp => Nat.ne_of_lt (Nat.lt_trans (l3 p hp) (Nat.lt_trans lc lt)))) base5
    refine (List.Perm.nodup_iff (List.perm_iff_count.mpr fun a => ?_)).mp base6
    simp only [List.map_cons, List.map_append, List.map_nil, List.count_cons, List.count_append, List.count_nil]
    omega
-- M1
section
local macro_rules | `(tactic| walk_at "my ups") => `(tactic| (repeat (first | with_reducible assumption | refine UpsIn.cons ?_)))
local macro_rules | `(tactic| walk_at "call ref") => `(tactic| (k_here; (with_reducible show wpAny _ _ (call (Value.ref 227) [Value.ref _, Value.int _ _]) _ _ _); k_dflt (refine' spot_spec ?k1 ?k2 ?k3 ?k4 ?kK ?N ?hgr ?hgd ?hop ?hu ?hlen ?kd ?ku ?_; (case k1 => k_asm); (case k2 => k_asm); (case k3 => k_asm); (case k4 => k_asm); (case kK => first | exact rfl | with_reducible assumption); (case N => k_asm); (case hgr => k_mem); (case hgd => k_mem); (case hop => k_mem); (case hu => walk_at "my ups"); (case hlen => with_reducible assumption); (case kd => ktr_room); (case ku => ktr_units)); intro k9 t9 h9 tk9 F9 N9 hk9 ht9 hg9; (try dsimp only); (try k_fold)))
local macro_rules | `(tactic| walk_at "call ref") => `(tactic| (k_here; (with_reducible show wpAny _ _ (call (Value.ref 234) [Value.ref _, Value.int _ _]) _ _ _); k_dflt (refine' openat_spec ?k1 ?k2 ?k3 ?k4 ?kK ?N ?hgr ?hgd ?hop ?hu ?hlen ?kd ?ku ?r1 ?r2; (case k1 => k_asm); (case k2 => k_asm); (case k3 => k_asm); (case k4 => k_asm); (case kK => first | exact rfl | with_reducible assumption); (case N => k_asm); (case hgr => k_mem); (case hgd => k_mem); (case hop => k_mem); (case hu => walk_at "my ups"); (case hlen => with_reducible assumption); (case kd => ktr_room); (case ku => ktr_units)); all_goals (intro x9 h9 tk9 F9 N9 ha9 hb9; (try dsimp only); (try k_fold))))
local macro_rules | `(tactic| walk_at "call ref") => `(tactic| (k_here; (with_reducible show wpAny _ _ (call (Value.ref 241) [Value.ref _, Value.ref _]) _ _ _); k_dflt (refine' putopen_spec ?k1 ?k2 ?k3 ?k4 ?kK ?N ?U ?hgr ?hgd ?hu ?hlen ?hx ?ex ?kd ?ku ?_; (case k1 => k_asm); (case k2 => k_asm); (case k3 => k_asm); (case k4 => k_asm); (case kK => first | exact rfl | with_reducible assumption); (case N => k_asm); (case hgr => k_mem); (case hgd => k_mem); (case U => k_updF);  (case hu => walk_at "my ups"); (case hlen => with_reducible assumption); (case hx => exact UpsIn.one (by k_mem) (by k_mem)); (case ex => exact rfl); (case kd => ktr_room); (case ku => ktr_units)); intro k9 h9 tk9 F9 N9 ha9 hb9 hc9; (try dsimp only at N9); (try dsimp only); (try k_fold)))
local macro_rules | `(tactic| walk_at "binaryOp RShift int int") => `(tactic| (k_here; with_reducible refine rshift_word ?_))
local macro_rules | `(tactic| walk_at "call ref") => `(tactic| (k_here; (with_reducible show wpAny _ _ (call (Value.ref 35) [Value.int _ _]) _ _ _); k_dflt (refine' isk_spec ?k1 ?k2 ?k3 ?k4 ?kK ?N ?h0 ?h3 ?kd ?ku ?_; (case k1 => k_asm); (case k2 => k_asm); (case k3 => k_asm); (case k4 => k_asm); (case kK => first | exact rfl | with_reducible assumption); (case N => k_asm); (case h0 => with_reducible assumption); (case h3 => with_reducible assumption); (case kd => ktr_room); (case ku => ktr_units)); intro h9 tk9 F9 N9; (try dsimp only); (try k_fold)))
local macro_rules | `(tactic| walk_at "call ref") => `(tactic| (k_here; (with_reducible show wpAny _ _ (call (Value.ref 28) [Value.bool _, Value.int _ _]) _ _ _); k_dflt (refine' word_spec ?k1 ?k2 ?k3 ?k4 ?kK ?N ?h0 ?h3 ?kd ?ku ?_; (case k1 => k_asm); (case k2 => k_asm); (case k3 => k_asm); (case k4 => k_asm); (case kK => first | exact rfl | with_reducible assumption); (case N => k_asm); (case h0 => first | with_reducible assumption | decide); (case h3 => first | with_reducible assumption | decide); (case kd => ktr_room); (case ku => ktr_units)); intro t9 h9 tk9 F9 N9; (try dsimp only); (try k_fold)))
local macro_rules | `(tactic| walk_at "call ref") => `(tactic| (k_here; (with_reducible show wpAny _ _ (call (Value.ref 248) [Value.ref _, Value.int _ _]) _ _ _); k_dflt (refine' find_spec ?k1 ?k2 ?k3 ?k4 ?kK ?N ?U ?hgr ?hgd ?hu ?hlen ?kd ?ku ?r1 ?r2; (case k1 => k_asm); (case k2 => k_asm); (case k3 => k_asm); (case k4 => k_asm); (case kK => first | exact rfl | with_reducible assumption); (case N => k_asm); (case hgr => k_mem); (case hgd => k_mem); (case U => k_updF); (case hu => walk_at "my ups"); (case hlen => with_reducible assumption); (case kd => ktr_room); (case ku => ktr_units)); (case' r1 => (intro x9 h9 tk9 F9 N9 ha9 hb9; (try dsimp only at N9); (try dsimp only); (try k_fold))); (case' r2 => (intro x9 k9 h9 tk9 F9 N9 ha9 hb9 hc9 hd9 he9 hf9; (try k_lt hb9); (try k_lt2 hc9); (try dsimp only at N9); (try dsimp only); (try k_fold)))))
def fnEnts (P : Params) (f : FnX) : Led := [(f.tup, tupO [.ref f.clo, .ref f.cl] f.tn), (f.clo, instObj 109 f.cd), (f.cd, cloD P f.ct f.sz f.pr f.ul), (f.ul, refsL (fun x : Addr => x) f.us f.un), (f.cl, refsL (fun x : Addr => x) f.xs f.xn)]
structure MkSt where
  (ob : Obj) (ws : List (Bool × Int)) (wt : List (Int × Tok)) (xs : List Addr) (nW nC : Nat)
structure MkInv (g : Addr) (oxs dxs : List Addr) (i : Nat) (a : MkSt) : Prop where
  box : BoxOk g a.ob
  wt : a.wt.map (·.1) = a.ws.map fun w => wordI w.1 w.2
  ws : a.ws.length = i
  xs : a.xs.length = i
  ok : ∀ w ∈ a.ws, 0 ≤ w.2 ∧ w.2 < 3 ∧ (w.1 = true → w.2 < oxs.length)
  at' : ∀ (k : Nat) w x, a.ws[k]? = some w → a.xs[k]? = some x → if w.1 = true then oxs[w.2.toNat]? = some x else dxs[w.2.toNat]? = some x
theorem in3a {rest N : Led} {p a1 a2 a3 : Addr × Obj} (h : p ∈ rest) : p ∈ a1 :: a2 :: a3 :: (N ++ rest) := List.mem_cons_of_mem _ (List.mem_cons_of_mem _ (List.mem_cons_of_mem _ (List.mem_append_right _ h)))
theorem code_mid {α : Type} {x : α} {ys zs : List α} {n : Nat} : ((List.replicate n x ++ ys ++ zs).drop n).take ys.length = ys := by
  rw [List.append_assoc, List.drop_left' (by simp), List.take_left' rfl]
theorem snoc_at {α : Type} {l : List α} {x y : α} {k : Nat} (h : (l ++ [x])[k]? = some y) : (l[k]? = some y) ∨ (k = l.length ∧ y = x) := by
  by_cases hk : k < l.length
  · rw [List.getElem?_append_left hk] at h; exact .inl h
  · rw [List.getElem?_append_right (by omega)] at h
    by_cases h0 : k - l.length = 0
    · rw [h0] at h; simp at h; exact .inr ⟨by omega, h.symm⟩
    · rw [List.getElem?_eq_none (by simp; omega)] at h; cases h
theorem MkInv.step {g : Addr} {oxs dxs : List Addr} {i : Nat} {ob ob' : Obj} {ws : List (Bool × Int)} {wt : List (Int × Tok)} {xs : List Addr} {nW nC nW' nC' : Nat} {b : Bool} {n : Int} {t : Tok} {x : Addr} (H : MkInv g oxs dxs i ⟨ob, ws, wt, xs, nW, nC⟩) (hb : BoxOk g ob') (h0 : 0 ≤ n) (h3 : n < 3) (hl : b = true → n < oxs.length)
    (hx : if b = true then oxs[n.toNat]? = some x else dxs[n.toNat]? = some x) : MkInv g oxs dxs (i + 1) ⟨ob', ws ++ [(b, n)], wt ++ [(wordI b n, t)], xs ++ [x], nW', nC'⟩ where
  box := hb
  wt := by have := H.wt; dsimp only at this ⊢; rw [List.map_append, List.map_append, this]; rfl
  ws := by have := H.ws; dsimp only at this ⊢; simp [this]
  xs := by have := H.xs; dsimp only at this ⊢; simp [this]
  ok := fun w hw => by
    rcases List.mem_append.mp hw with h | h
    · exact H.ok w h
    · rw [List.mem_singleton.mp h]; exact ⟨h0, h3, hl⟩
  at' := fun k w y h1 h2 => by
    have e1 := H.ws
    have e2 := H.xs
    dsimp only at e1 e2 h1 h2
    rcases snoc_at h1 with h | ⟨h, h'⟩
    · rcases snoc_at h2 with h2' | ⟨h2', _⟩
      · exact H.at' k w y h h2'
      · exfalso
        have := (List.getElem?_eq_some_iff.mp h).1
        omega
    · rcases snoc_at h2 with h2' | ⟨_, h2''⟩
      · exfalso
        have := (List.getElem?_eq_some_iff.mp h2').1
        omega
      · subst h'; subst h2''; exact hx
section
variable {prog : Program} {w : World} {A : Around} {E : Value → Shared → Prop} {s : Shared} {Q : Value → Shared → Prop}
theorem gt_yes {a b : Int} {t u : Tok} (hab : b < a) (h : Q (.bool true) s) : wpAny (model prog w) A (compareOp .Gt (.int a t) (.int b u)) Q E s := gt_int (by simpa [hab] using h)
theorem gt_no {a b : Int} {t u : Tok} (hab : ¬ b < a) (h : Q (.bool false) s) : wpAny (model prog w) A (compareOp .Gt (.int a t) (.int b u)) Q E s := gt_int (by simpa [hab] using h)
theorem eq_case {a b : Int} {t u : Tok} (h1 : a = b → Q (.bool true) s) (h2 : a ≠ b → Q (.bool false) s) : wpAny (model prog w) A (compareOp .Eq (.int a t) (.int b u)) Q E s := by
  refine eq_int ?_
  by_cases h : a = b
  · have e : (a == b) = true := by simpa using h
    rw [e]; exact h1 h
  · have e : (a == b) = false := by simpa using h
    rw [e]; exact h2 h
theorem ne_same {x : Str} {t u : Tok} (h : Q (.bool false) s) : wpAny (model prog w) A (compareOp .NotEq (.str x t) (.str x u)) Q E s := ne_str (by simpa using h)
theorem ne_not {a b : Int} {t u : Tok} (hab : a = b) (h : Q (.bool false) s) : wpAny (model prog w) A (compareOp .NotEq (.int a t) (.int b u)) Q E s := ne_int (by simpa [hab] using h)
end
local macro_rules | `(tactic| walk_at "compareOp Gt int int") => `(tactic| (k_here; first | (with_reducible refine gt_yes (by with_reducible assumption) ?_) | (with_reducible refine gt_no (by with_reducible assumption) ?_)))
local macro_rules | `(tactic| walk_at "compareOp NotEq str str") => `(tactic| (k_here; with_reducible refine ne_same ?_))
local macro_rules | `(tactic| walk_at "call ref") => `(tactic| (k_here; (with_reducible show wpAny _ _ (call (Value.ref 28) [Value.bool _, Value.int _ _]) _ _ _); k_dflt (refine' word_spec ?k1 ?k2 ?k3 ?k4 ?kK ?N ?h0 ?h3 ?kd ?ku ?_; (case k1 => k_asm); (case k2 => k_asm); (case k3 => k_asm); (case k4 => k_asm); (case kK => first | exact rfl | with_reducible assumption); (case N => k_asm); (case h0 => first | with_reducible assumption | decide | exact fmod_lo _ (by with_reducible assumption)); (case h3 => first | with_reducible assumption | decide | exact Int.lt_of_lt_of_le (fmod_hi _ (by with_reducible assumption)) (by omega)); (case kd => ktr_room); (case ku => ktr_units)); intro t9 h9 tk9 F9 N9; (try dsimp only); (try k_fold)))
local macro_rules | `(tactic| walk_at "call ref") => `(tactic| (k_here; (with_reducible show wpAny _ _ (call (Value.ref 35) [Value.int _ _]) _ _ _); k_dflt (refine' isk_spec ?k1 ?k2 ?k3 ?k4 ?kK ?N ?h0 ?h3 ?kd ?ku ?_; (case k1 => k_asm); (case k2 => k_asm); (case k3 => k_asm); (case k4 => k_asm); (case kK => first | exact rfl | with_reducible assumption); (case N => k_asm); (case h0 => first | with_reducible assumption | decide | exact fmod_lo _ (by with_reducible assumption)); (case h3 => first | with_reducible assumption | decide | exact Int.lt_of_lt_of_le (fmod_hi _ (by with_reducible assumption)) (by omega)); (case kd => ktr_room); (case ku => ktr_units)); intro h9 tk9 F9 N9; (try dsimp only); (try k_fold)))
local macro_rules | `(tactic| walk_at "compareOp Eq int int") => `(tactic| (refine Halt.of ?_))
local macro_rules | `(tactic| walk_at "compareOp NotEq int int") => `(tactic| (k_here; with_reducible refine ne_not (by simp [wordI]) ?_))
section
variable {prog : Program} {w : World} {A : Around} {E : Value → Shared → Prop} {s : Shared} {h₀ : Heap} {L : Addr} {m : Str → Option Value} {news : Led} {Q : Value → Shared → Prop}
theorem mul_one' {l : Addr} {v x : Int} {t u : Tok} {n : Nat} (F : Fr h₀ L s.heap m) (N : News h₀ L s.heap news) (hm : (l, listOf #[.int v t] n) ∈ news) (hx0 : 0 ≤ x) (hx : x < 100)
    (h : ∀ D h', Fr h₀ L h' m → News h₀ L h' ((D, intsL (List.replicate x.toNat (v, t)) 0) :: news) → (∀ p ∈ news, p.1 < D) → Q (.ref D) { s with heap := h' }) : wpAny (model prog w) A (binaryOp .Mult (.ref l) (.int x u)) Q E s := by
  refine KMa.mul (vs := [.int v t]) F N (PySem.IsL.isList (n := n) (N _ hm).1) (by omega) (by omega) (by simp; omega) (ws := (List.replicate x.toNat (v, t)).map fun x => Value.int x.1 x.2) ?_ h
  generalize x.toNat = k
  induction k with
  | zero => rfl
  | succ k ih => rw [List.replicate_succ, List.flatten_cons, ih, List.replicate_succ]; rfl
theorem add_map {α : Type} {f : α → Value} {xs ys : List α} {l b : Addr} {n1 n2 : Nat} (F : Fr h₀ L s.heap m) (N : News h₀ L s.heap news) (hl : (l, listOf (xs.map f).toArray n1) ∈ news) (hb : (b, listOf (ys.map f).toArray n2) ∈ news) (hs : xs.length + ys.length < 2000)
    (h : ∀ D h', Fr h₀ L h' m → News h₀ L h' ((D, listOf ((xs ++ ys).map f).toArray 0) :: news) → (∀ p ∈ news, p.1 < D) → Q (.ref D) { s with heap := h' }) : wpAny (model prog w) A (binaryOp .Add (.ref l) (.ref b)) Q E s := by
  refine add_lists F N (isl_of N hl) (isl_of N hb) (fun h' F' N' => ?_) (by simp only [List.length_map]; rw [sizeLine_eq]; omega)
  rw [← List.map_append] at N'
  exact h _ h' F' N' fun p hp => Heap.lt_size (N p hp).1
theorem add_ints {xs ys : List (Int × Tok)} {l b : Addr} {n1 n2 : Nat} (F : Fr h₀ L s.heap m) (N : News h₀ L s.heap news) (hl : (l, intsL xs n1) ∈ news) (hb : (b, intsL ys n2) ∈ news) (hs : xs.length + ys.length < 2000)
    (h : ∀ D h', Fr h₀ L h' m → News h₀ L h' ((D, intsL (xs ++ ys) 0) :: news) → (∀ p ∈ news, p.1 < D) → Q (.ref D) { s with heap := h' }) : wpAny (model prog w) A (binaryOp .Add (.ref l) (.ref b)) Q E s := add_map F N hl hb hs h
end
local macro_rules | `(tactic| walk_at "binaryOp Mult ref int") => `(tactic| (k_here; (with_reducible show wpAny _ _ (binaryOp Operator.Mult (Value.ref _) (Value.int _ _)) _ _ _); k_dflt (refine' mul_one' ?F ?N ?l ?lo ?hi ?_; (case F => k_asm); (case N => k_asm); (case l => walk_at "my mem"); (case lo => first | with_reducible assumption | omega | decide); (case hi => first | omega | decide)); intro D' h' F' N' l1; (try k_lt l1); (try k_sweep)))
local macro_rules | `(tactic| walk_at "binaryOp Add ref ref") => `(tactic| (k_here; (with_reducible show wpAny _ _ (binaryOp _ (Value.ref _) (Value.ref _)) _ _ _); k_dflt (refine' add_ints ?F ?N ?a ?b ?z ?_; (case F => k_asm); (case N => k_asm); (case a => walk_at "my mem"); (case b => walk_at "my mem"); (case z => (simp only [List.length_append, List.length_replicate, List.length_cons, List.length_nil]; omega))); intro D' h' F' N' l1; (try k_lt l1); (try k_sweep)))
local macro_rules | `(tactic| walk_at "call ref") => `(tactic| (k_here; (with_reducible show wpAny _ _ (call (Value.ref 149) _) _ _ _); k_dflt (refine' proto_spec ?k1 ?k2 ?k3 ?k4 ?kK ?N ?kd ?ku ?_; (case k1 => k_asm); (case k2 => k_asm); (case k3 => k_asm); (case k4 => k_asm); (case kK => first | exact rfl | with_reducible assumption); (case N => k_asm); (case kd => ktr_room); (case ku => ktr_units)); intro x9 h9 tk9 F9 N9 l9; (try k_lt l9); (try dsimp only); (try k_fold)))
local macro_rules | `(tactic| walk_at "call ref") => `(tactic| (k_here; (with_reducible show wpAny _ _ (call (Value.ref 109) [Value.ref _, Value.ref _, Value.none]) _ _ _); k_dflt (refine' clo_spec ?k1 ?k2 ?k3 ?k4 ?kK ?N ?fl ?ul ?kd ?ku ?_; (case k1 => k_asm); (case k2 => k_asm); (case k3 => k_asm); (case k4 => k_asm); (case kK => first | exact rfl | with_reducible assumption); (case N => k_asm); (case fl => walk_at "my mem"); (case ul => omega); (case kd => ktr_room); (case ku => ktr_units)); intro x9 d9 T9 sz9 h9 tk9 F9 N9 l9 lx9; (try k_lt l9); (try dsimp only); (try k_fold)))
local macro_rules | `(tactic| walk_at "call ref") => `(tactic| ((with_reducible show wpAny _ _ (call (Value.ref 42) _) _ _ _); (refine Halt.of ?_)))
section
variable {prog : Program} {w : World} {p : Program} {loose : List Str} {mean : ExcName → Option Value} {mg mb : Str → Option Value}
  {dp un : Nat} {gdd : Option (List Code)} {cn : Str} {cs : Scope} {a : Addr} {ccd : Value} {cl : List (Str × Addr)} {outer : List Env} {A₀ : Around} {base h₀ : Heap} {L : Addr} {m : Str → Option Value} {s : Shared} {Q E : Value → Shared → Prop}
  (B : Below A₀ base outer h₀) (F : Fr h₀ L s.heap m) (X : (Mine.hd.heap_39 w.params).In h₀) (T : Top p loose mean mg mb h₀) (hk : cs.kind = .function)
include B F X T hk
set_option maxRecDepth 100000 in
set_option maxHeartbeats 6000000 in
theorem make_spec {rest : Led} {b g wd gr gd stk opn frs fns fd kp ow D : Addr} {ob owd ofd ost : Obj} {k1 k2 tm tb : Tok} {made bs : Int} {ups : List UpR} {on frn fnn kn own' dn : Nat} {fds tups ks oxs dxs : List Addr}
  (N : News h₀ L s.heap ((b, ob) :: (wd, owd) :: (gd, gdD w.params k1 k2 stk opn) :: (stk, ost) :: (opn, refsL UpR.u ups on) :: (frs, refsL (fun x : Addr => x) (fds ++ [fd]) frn) :: (fns, refsL (fun x : Addr => x) tups fnn) :: rest))
  (hnd : (((b, ob) :: (wd, owd) :: (gd, gdD w.params k1 k2 stk opn) :: (stk, ost) :: (opn, refsL UpR.u ups on) :: (frs, refsL (fun x : Addr => x) (fds ++ [fd]) frn) :: (fns, refsL (fun x : Addr => x) tups fnn) :: rest).map (·.1)).Nodup)
  (hb : BoxOk g ob) (hg : GivenOk g rest) (hgb : @Ne Nat g b) (hd : owd.IsDictOf (strKind prog w) (wkv gr fns frs made tm))
  (hgr : (gr, instObj 216 gd) ∈ rest) (hfd : fds.length < 500) (hfdm : (fd, ofd) ∈ rest) (hfo : ofd.IsDictOf (strKind prog w) (fkv bs tb kp ow D)) (hft : tups.length < 500)
  (hkp : (kp, refsL (fun x : Addr => x) ks kn) ∈ rest) (how : (ow, refsL (fun x : Addr => x) oxs own') ∈ rest) (hko : ks.length = oxs.length) (hok : oxs.length ≤ 2)
  (hD : (D, refsL (fun x : Addr => x) dxs dn) ∈ rest) (hxl : dxs.length = 3) (hbs : 0 ≤ bs) (hbs' : bs < 500)
  (hu : UpsIn w.params gr ups rest) (hlen : ups.length < 300) (hso : ups.Pairwise fun x y => x.i > y.i)
  (hroom : dp + 8 < recursionLimit) (hunits : un + 80 < cLine)
  (ret : ∀ (f : FnX) (ws : List (Bool × Int)) (wt : List (Int × Tok)) (a : ShSt) (ob' : Obj) (R : Led) (h' : Heap) (tk' : Nat), Fr h₀ L h' m →
    News h₀ L h' ((b, ob') :: (wd, owd) :: (gd, gdD w.params k1 k2 stk opn) :: (stk, ost) :: (opn, refsL UpR.u a.ups a.on) :: (frs, refsL (fun x : Addr => x) (fds ++ [fd]) frn) :: (fns, refsL (fun x : Addr => x) (tups ++ [f.tup]) (fnn + 1)) :: (fnEnts w.params f ++ newEnts w.params gr a.new ++ rest)) → ((((b, ob') :: (wd, owd) :: (gd, gdD w.params k1 k2 stk opn) :: (stk, ost) :: (opn, refsL UpR.u a.ups a.on) :: (frs, refsL (fun x : Addr => x) (fds ++ [fd]) frn) :: (fns, refsL (fun x : Addr => x) (tups ++ [f.tup]) (fnn + 1)) :: (fnEnts w.params f ++ newEnts w.params gr a.new ++ rest)) : Led).map (·.1)).Nodup →
    f.us = a.fs → ws.length ≤ 2 → MkInv g oxs dxs ws.length ⟨ob', ws, wt, f.xs, 0, 0⟩ → ShInv w.params gr R ups ws ks bs ws.length a → (∀ p ∈ R, ∀ r ∈ a.new, p.1 ≠ r.d) → (∀ p ∈ rest, p ∈ R) → Q (.bool true) { s with heap := h', toks := tk' }) :
  wpAny (model prog w) (ktrTop dp un gdd cn cs L a ccd cl outer) (call (.ref 281) [.ref b, .ref wd]) Q E s := by
  w_top off
  k_with_none
  obtain ⟨S, o1, o2, o3, o4, o5, o6, o7⟩ := seven_of hnd
  k_with "exec For Name Call cons nil" => (refine Halt.of ?_)
  k_steps
  refine Halt.on ?_
  rename Fr _ _ _ _ => F7
  with_unfolding_all refine For_invVF F7 rfl rfl ?_
  k_with "pyIter ref" => (refine Halt.of ?_)
  k_steps
  rename_i Wl hw1 lW Cl hw2 lC D3 hw3 lD hw4 hw5 hw6 Nx rN tN oN hw7 tkx Fx Ny hbN hrN0 hrN3 ek1 ek2 hw8 tky tz uz vz hR9 F9 N9 k9
  have N10 : News _ _ _ ((Wl, intsL [] 0) :: (Cl, refsL (fun x : Addr => x) [] 0) :: (b, oN) :: (wd, owd) :: (gd, gdD w.params k1 k2 stk opn) :: (stk, ost) :: (opn, refsL UpR.u ups on) :: (frs, refsL (fun x : Addr => x) (fds ++ [fd]) frn) :: (fns, refsL (fun x : Addr => x) tups fnn) :: rest) := news_sub N9 (by
    intro p hp
    simp only [List.mem_cons] at hp ⊢
    rcases hp with h | h | h | h | h | h | h | h | h | h
    · exact .inr (.inr (.inl h))
    · exact .inr (.inl h)
    all_goals simp [h])
  clear N9 Nx Ny Fx lD k9
  refine Halt.on ?_
  refine iter_range (σ := MkSt) (a₀ := ⟨oN, [], [], [], 0, 0⟩) [Str.ofString "number", Str.ofString "is_kept", Str.ofString "word"] (fun i a => (Wl, intsL a.wt a.nW) :: (Cl, refsL (fun x : Addr => x) a.xs a.nC) :: (b, a.ob) :: (wd, owd) :: (gd, gdD w.params k1 k2 stk opn) :: (stk, ost) :: (opn, refsL UpR.u ups on) :: (frs, refsL (fun x : Addr => x) (fds ++ [fd]) frn) :: (fns, refsL (fun x : Addr => x) tups fnn) :: rest)
    (fun i a => MkInv g oxs dxs i a) (by rfl) hR9 hrN0 (by omega) F9 N10 ⟨hbN, rfl, rfl, rfl, by simp, by simp⟩ ?turn ?done
  case turn =>
    clear F9 N10 hR9
    rintro i ⟨ob2, ws, wt, xs, nW, nC⟩ t u ⟨ia, io⟩ h tk hil H hit F4 N4
    dsimp only [envOf] at hit F4 N4
    have q1 : @Ne Nat Wl ia := hit _ List.mem_cons_self
    have q2 : @Ne Nat Cl ia := hit _ (List.mem_cons_of_mem _ List.mem_cons_self)
    have q3 : @Ne Nat b ia := hit _ (List.mem_cons_of_mem _ (List.mem_cons_of_mem _ List.mem_cons_self))
    have hRia : ∀ p ∈ rest, p.1 ≠ ia := fun p hp => hit _ (List.mem_cons_of_mem _ (List.mem_cons_of_mem _ (List.mem_cons_of_mem _ (List.mem_cons_of_mem _ (List.mem_cons_of_mem _ (List.mem_cons_of_mem _ (List.mem_cons_of_mem _ (List.mem_cons_of_mem _ (List.mem_cons_of_mem _ hp)))))))))
    have hit3 : ∀ p ∈ (wd, owd) :: (gd, gdD w.params k1 k2 stk opn) :: (stk, ost) :: (opn, refsL UpR.u ups on) :: (frs, refsL (fun x : Addr => x) (fds ++ [fd]) frn) :: (fns, refsL (fun x : Addr => x) tups fnn) :: rest, p.1 ≠ ia := fun p hp => hit p (List.mem_cons_of_mem _ (List.mem_cons_of_mem _ (List.mem_cons_of_mem _ hp)))
    clear hit
    have hbI := H.box
    have hw0 := H.ws
    have hx0 := H.xs
    have ht0 := congrArg List.length H.wt
    simp only [List.length_map] at ht0
    dsimp only at hbI hw0 hx0 ht0
    have hwtl : wt.length < 2000 := by omega
    have hxsl : xs.length < 2000 := by omega
    (try k_fold)
    k_with_none
    by_cases ho : (0 : Int) < (oxs.length : Int)
    case pos =>
      k_steps
      refine Halt.on ?_
      refine eq_case (fun h1 => ?_) (fun h1 => ?_)
      case refine_1 =>
        k_steps
        rename News _ _ _ _ => N9
        rename BoxOk g _ => hb9
        rename oxs[_]? = some _ => hx9
        refine FLPost.intro ⟨_, ws ++ [(true, _)], wt ++ [(_, _)], xs ++ [_], nW + 1, nC + 1⟩ (by assumption) N9 (fun p hp => hp) ?_ ?_ (H.step hb9 (fmod_lo _ ho) (Int.lt_of_lt_of_le (fmod_hi _ ho) (by omega)) (fun _ => fmod_hi _ ho) (by rw [if_pos rfl]; exact hx9))
        · exact ne_cons q1 (ne_cons q2 (ne_cons q3 hit3))
        · intro z h1 h2; simp at h2; simp [h1, h2]
      case refine_2 =>
        k_steps
        rename News _ _ _ _ => N9
        rename BoxOk g _ => hb9
        rename dxs[_]? = some _ => hx9
        refine FLPost.intro ⟨_, ws ++ [(false, _)], wt ++ [(_, _)], xs ++ [_], nW + 1, nC + 1⟩ (by assumption) N9 (fun p hp => hp) ?_ ?_ (H.step hb9 (by assumption) (by assumption) (fun h => by cases h) (by rw [if_neg (by decide)]; exact hx9))
        · exact ne_cons q1 (ne_cons q2 (ne_cons q3 hit3))
        · intro z h1 h2; simp at h2; simp [h1, h2]
    case neg =>
      k_steps
      rename News _ _ _ _ => N9
      rename BoxOk g _ => hb9
      rename dxs[_]? = some _ => hx9
      refine FLPost.intro ⟨_, ws ++ [(false, _)], wt ++ [(_, _)], xs ++ [_], nW + 1, nC + 1⟩ (by assumption) N9 (fun p hp => hp) ?_ ?_ (H.step hb9 (by assumption) (by assumption) (fun h => by cases h) (by rw [if_neg (by decide)]; exact hx9))
      · exact ne_cons q1 (ne_cons q2 (ne_cons q3 hit3))
      · intro z h1 h2; simp at h2; simp [h1, h2]
  case done =>
    clear F9 N10 hR9
    rintro ⟨ob2, ws, wt, xs, nW, nC⟩ u h tk H F4 N4
    dsimp only [envOf] at F4 N4
    have hbI := H.box
    have hw0 := H.ws
    have hx0 := H.xs
    have ht0 := congrArg List.length H.wt
    simp only [List.length_map] at ht0
    dsimp only at hbI hw0 hx0 ht0
    have hwtl : wt.length ≤ 2 := by omega
    (try k_fold)
    k_with_none
    k_steps
    refine Halt.on ?_
    rename Fr _ _ _ _ => F9
    rename News _ _ _ _ => N9
    rename BoxOk g _ => hb9
    rename _ < (3 : Int) => hp3
    rename (0 : Int) ≤ _ => hp0
    rename Int => pc
    rename Obj => obN
    obtain ⟨pn, rfl⟩ : ∃ pn : Nat, pc = (pn : Int) := ⟨pc.toNat, by omega⟩
    simp only [Int.toNat_natCast] at N9
    obtain ⟨R, N10, f1, f2, f3⟩ := focus N9 (show (opn, refsL UpR.u ups on) ∈ _ by walk_at "my mem")
    have inR : ∀ p ∈ rest, p ∈ R := fun p hp => f2 p (by repeat (first | exact hp | refine List.mem_cons_of_mem _ ?_)) (o5 p hp)
    have r1 := f2 (wd, owd) (by walk_at "my mem") S.h25
    have r2 := f2 (gd, gdD w.params k1 k2 stk opn) (by walk_at "my mem") S.h35
    have r3 := f2 (Wl, intsL wt nW) (by walk_at "my mem") (by refine neN ?_; dsimp only; omega)
    have r4 := f2 (fns, refsL (fun x : Addr => x) tups fnn) (by walk_at "my mem") (Ne.symm S.h57)
    have r5 := f2 (_, intsL (List.replicate pn _ ++ wt ++ _) 0) List.mem_cons_self (by refine neN ?_; dsimp only; omega)
    k_dflt (refine shared_spec0 (pc := pn) (many := wt.length) (ws := ws) (ks := ks) (by k_asm) F9 (by k_asm) (by k_asm) (by first | exact rfl | assumption) N10 f1 (inR _ hgr) r2 (fun r hr => ⟨inR _ (hu r hr).1, inR _ (hu r hr).2⟩) (by omega) hso r5 (by simp; omega) (by rw [code_mid]; exact H.wt) (by omega) (by omega) (fun w9 hw9 => ⟨(H.ok w9 hw9).1, (H.ok w9 hw9).2.1, fun hq => by rw [hko]; exact (H.ok w9 hw9).2.2 hq⟩) (inR _ hkp) (by omega) hbs (by omega) (by ktr_room) (by ktr_units) ?_)
    intro tup fl a t tn h5 tk5 F5 N5 HI n1 n2 n3 n4 n5 n6 n7
    have ha4 := HI.g4
    have ha7 : a.fs.length ≤ 2 := by omega
    obtain ⟨R3, N6, e1, e2, e3⟩ := focus N5 (in3a r4)
    have y1 := e2 _ List.mem_cons_self (by have := n5 _ (List.mem_append_right _ r4); exact Nat.ne_of_gt this)
    have y2 := e2 _ (List.mem_cons_of_mem _ List.mem_cons_self) (by have := n3 _ r4; exact Nat.ne_of_gt this)
    have y3 := e2 _ (in3a r1) S.h27
    have y4 := e2 _ (in3a r3) (by refine neN ?_; dsimp only; omega)
    have hCl9 : ∀ p ∈ (b, ob) :: (wd, owd) :: (gd, gdD w.params k1 k2 stk opn) :: (stk, ost) :: (opn, refsL UpR.u ups on) :: (frs, refsL (fun x : Addr => x) (fds ++ [fd]) frn) :: (fns, refsL (fun x : Addr => x) tups fnn) :: rest, @LT.lt Nat _ p.1 Cl := by
      obtain ⟨_, _, _, a1, a2, a3, a4, a5, a6, a7, a8⟩ := lC
      intro p hp
      simp only [List.mem_cons] at hp
      rcases hp with h | h | h | h | h | h | h | h
      · rw [h]; exact a1
      · rw [h]; exact a2
      · rw [h]; exact a3
      · rw [h]; exact a4
      · rw [h]; exact a5
      · rw [h]; exact a6
      · rw [h]; exact a7
      · exact allLt_all a8 p h
    have hR9 : ∀ p ∈ (Cl, refsL (fun x : Addr => x) xs nC) :: (b, obN) :: (wd, owd) :: (gd, gdD w.params k1 k2 stk opn) :: (stk, ost) :: (frs, refsL (fun x : Addr => x) (fds ++ [fd]) frn) :: (fns, refsL (fun x : Addr => x) tups fnn) :: rest, p ∈ R := by
      intro p hp
      simp only [List.mem_cons] at hp
      have hfo9 : @Ne Nat Cl opn := Nat.ne_of_gt (hCl9 (opn, refsL UpR.u ups on) (by walk_at "my mem"))
      rcases hp with h | h | h | h | h | h | h | h
      · exact f2 p (by simp [h]) (by rw [h]; exact hfo9)
      · exact f2 p (by rw [h]; walk_at "my mem") (by rw [h]; exact S.h15)
      · exact f2 p (by simp [h]) (by rw [h]; exact S.h25)
      · exact f2 p (by simp [h]) (by rw [h]; exact S.h35)
      · exact f2 p (by simp [h]) (by rw [h]; exact S.h45)
      · exact f2 p (by simp [h]) (by rw [h]; exact Ne.symm S.h56)
      · exact f2 p (by simp [h]) (by rw [h]; exact Ne.symm S.h57)
      · exact inR p h
    clear N9 F9 N10 N5 f2 f3 e3
    (try dsimp only)
    (try k_fold)
    k_steps
    refine Halt.on ?_
    refine eq_case (fun _ => ?_) (fun hne => absurd rfl hne)
    k_steps
    refine Halt.on ?_
    refine eq_case (fun _ => ?_) (fun hne => absurd (by omega) hne)
    k_steps
    rename News h₀ L _ _ => kN
    rename (_ : Nat) < _ => lx
    rename _ ∧ _ ∧ _ ∧ AllLt _ R3 => lt9
    rename fns < _ ∧ AllLt _ R3 => ld9
    obtain ⟨c1, c2⟩ := make_end (ofl := refsL (fun x : Addr => x) a.fs a.n) (q5' := refsL UpR.u a.ups a.on) kN hnd hR9 hCl9 n2 n3 n4 HI.g6 HI.g6b (fun p hp => e2 p (List.mem_cons_of_mem _ hp)) ld9.1 (allLt_all ld9.2) lx lt9.1
    refine ret ⟨⟨_, _, _, fl, Cl, _, _, _, 0⟩, a.fs, xs, a.n, nC⟩ ws wt a obN R _ _ (by assumption) c1 c2 rfl (by omega) ⟨hb9, H.wt, rfl, ?_, H.ok, H.at'⟩ HI (fun p hp r hr => Nat.ne_of_lt ((HI.g6 r hr).1 p hp)) inR
    exact hx0.trans hw0.symm
end
end
-- V0
structure ClR where
  (x : Addr) (tv ti : Tok) (n : Nat)
structure CdU where
  (u d x : Addr) (T : UT) (t : Tok)
structure FdX extends FdR where
  (ks oxs : List Addr) (kn onn : Nat)
structure WSt where
  (b g wd gr gd stk opn frs fns : Addr) (ob owd : Obj) (k1 k2 tm : Tok) (made : Int) (sn on frn fnn : Nat)
  (st : List (Int × Tok)) (cs : List ClR) (ups : List UpR) (cls : List CdU) (fds : List FdX) (fs : List FnX) (im ex : Led) (val idn : Addr → Int)
def cellEnts (val idn : Addr → Int) (cs : List ClR) : Led := cs.map fun c => (c.x, cellO (val c.x) c.tv (idn c.x) c.ti c.n)
def clsEnts (P : Params) (val : Addr → Int) (cls : List CdU) : Led := cls.map fun c => (c.d, upD P c.T .none (-1) (.int (val c.x) c.t))
def WSt.live (a : WSt) : List Addr := a.fds.flatMap fun r => r.xs
def WSt.rest (P : Params) (a : WSt) : Led := cellEnts a.val a.idn a.cs ++ clsEnts P a.val a.cls ++ (a.im ++ a.ex)
def WSt.led (P : Params) (a : WSt) : Led := (a.b, a.ob) :: (a.wd, a.owd) :: (a.gd, gdD P a.k1 a.k2 a.stk a.opn) :: (a.stk, intsL a.st a.sn) :: (a.opn, refsL UpR.u a.ups a.on) :: (a.frs, refsL (fun x : Addr => x) (a.fds.map fun r => r.fd) a.frn) :: (a.fns, refsL (fun x : Addr => x) (a.fs.map fun f => f.tup) a.fnn) :: (upEnts P a.gr a.ups ++ a.rest P)
/-- what ties a shared variable to its cell -/
def Lnk (ups : List UpR) (cls : List CdU) (live : List Addr) (u x : Addr) : Prop := (∃ r ∈ ups, r.u = u ∧ live[r.i.toNat]? = some x) ∨ ∃ c ∈ cls, c.u = u ∧ c.x = x
def Lnks (ups : List UpR) (cls : List CdU) (live : List Addr) (us xs : List Addr) : Prop := us.length = xs.length ∧ xs.length ≤ 2 ∧ ∀ (j : Nat) u x, us[j]? = some u → xs[j]? = some x → Lnk ups cls live u x
structure WInv (prog : Program) (w : World) (i : Nat) (a : WSt) : Prop where
  nd : ((a.led w.params).map (·.1)).Nodup
  gb : @Ne Nat a.g a.b
  box : BoxOk a.g a.ob
  giv : GivenOk a.g a.im
  wdd : a.owd.IsDictOf (strKind prog w) (wkv a.gr a.fns a.frs a.made a.tm)
  m0 : 0 ≤ a.made
  m1 : a.made ≤ 3 + 3 * i
  gri : (a.gr, instObj 216 a.gd) ∈ a.im
  ne : a.fds ≠ []
  fdl : a.fds.length ≤ 1 + i
  fsl : a.fs.length ≤ i
  upl : a.ups.length ≤ 2 * i
  fd : ∀ r ∈ a.fds, (r.fd, r.ofd) ∈ a.im ∧ r.ofd.IsDictOf (strKind prog w) (fkv r.bs r.tb r.kp r.ow r.D) ∧ (r.D, refsL (fun x : Addr => x) r.xs r.dn) ∈ a.im ∧ r.xs.length = 3 ∧ (r.kp, refsL (fun x : Addr => x) r.ks r.kn) ∈ a.im ∧ (r.ow, refsL (fun x : Addr => x) r.oxs r.onn) ∈ a.im
  fdk : ∀ r ∈ a.fds, Lnks a.ups a.cls a.live r.ks r.oxs
  bs : ∀ (k : Nat) r, a.fds[k]? = some r → r.bs = 3 * k
  fn : ∀ f ∈ a.fs, FnXIn w.params f a.im
  fnk : ∀ f ∈ a.fs, Lnks a.ups a.cls a.live f.us f.xs
  lnd : a.live.Nodup
  lcs : ∀ x ∈ a.live, ∃ c ∈ a.cs, c.x = x
  cid : ∀ c ∈ a.cs, a.idn c.x ≤ a.made
  inj : ∀ c ∈ a.cs, ∀ c' ∈ a.cs, a.idn c.x = a.idn c'.x → c.x = c'.x
  stv : a.st.map (·.1) = a.live.map a.val
  uso : a.ups.Pairwise fun x y => x.i > y.i
  uin : ∀ r ∈ a.ups, (r.u, instObj 197 r.d) ∈ a.im ∧ 0 ≤ r.i ∧ r.i < a.live.length
  ufn : ∀ r ∈ a.ups, ∃ f ∈ a.fs, ∃ x ∈ f.xs, a.live[r.i.toNat]? = some x
  cin : ∀ c ∈ a.cls, (c.u, instObj 197 c.d) ∈ a.im ∧ c.x ∉ a.live ∧ ∃ e ∈ a.cs, e.x = c.x
  cnd : (a.cls.map (·.x)).Nodup
theorem nodup_get {α : Type} : ∀ {l : List α} {i j : Nat} {x : α}, l.Nodup → l[i]? = some x → l[j]? = some x → i = j
  | _ :: _, 0, 0, _, _, _, _ => rfl
  | a :: l, 0, j + 1, x, h, h1, h2 => by
    simp at h1 h2
    exact absurd (List.mem_of_getElem? h2) (h1 ▸ (List.nodup_cons.mp h).1)
  | a :: l, i + 1, 0, x, h, h1, h2 => by
    simp at h1 h2
    exact absurd (List.mem_of_getElem? h1) (h2 ▸ (List.nodup_cons.mp h).1)
  | a :: l, i + 1, j + 1, x, h, h1, h2 => by
    simp at h1 h2
    rw [nodup_get (List.nodup_cons.mp h).2 h1 h2]
/-- two lists that grow strictly and have the same members are the same -/
theorem sorted_eq : ∀ {l r : List Int}, l.Pairwise (· < ·) → r.Pairwise (· < ·) → (∀ x, x ∈ l ↔ x ∈ r) → l = r
  | [], [], _, _, _ => rfl
  | [], b :: r, _, _, h => absurd ((h b).mpr List.mem_cons_self) (by simp)
  | a :: l, [], _, _, h => absurd ((h a).mp List.mem_cons_self) (by simp)
  | a :: l, b :: r, hl, hr, h => by
    obtain ⟨hl1, hl2⟩ := List.pairwise_cons.mp hl
    obtain ⟨hr1, hr2⟩ := List.pairwise_cons.mp hr
    have hab : a = b := by
      rcases List.mem_cons.mp ((h a).mp List.mem_cons_self) with e | e
      · exact e
      · rcases List.mem_cons.mp ((h b).mpr List.mem_cons_self) with e' | e'
        · exact e'.symm
        · have := hr1 a e; have := hl1 b e'; omega
    subst hab
    congr 1
    refine sorted_eq hl2 hr2 fun x => ⟨fun hx => ?_, fun hx => ?_⟩
    · rcases List.mem_cons.mp ((h x).mp (List.mem_cons_of_mem _ hx)) with e | e
      · have := hl1 x hx; omega
      · exact e
    · rcases List.mem_cons.mp ((h x).mpr (List.mem_cons_of_mem _ hx)) with e | e
      · have := hr1 x hx; omega
      · exact e
theorem enumKs_mem {keep : Nat → Bool} {n : Nat} {x : Int} : x ∈ enumKs keep n ↔ ∃ i, i < n ∧ keep i = true ∧ x = (i : Int) := by
  unfold enumKs
  simp only [List.mem_map, List.mem_filter, List.mem_range]
  constructor
  · rintro ⟨i, ⟨h1, h2⟩, rfl⟩; exact ⟨i, h1, h2, rfl⟩
  · rintro ⟨i, h1, h2, rfl⟩; exact ⟨i, ⟨h1, h2⟩, rfl⟩
theorem enumKs_sorted {keep : Nat → Bool} {n : Nat} : (enumKs keep n).Pairwise (· < ·) := by
  unfold enumKs
  rw [List.pairwise_map]
  refine (List.Pairwise.filter _ (List.pairwise_lt_range (n := n))).imp fun h => ?_
  omega
theorem WInv.due {prog : Program} {w : World} {i : Nat} {a : WSt} (W : WInv prog w i a) :
    (a.ups.map UpR.i) = (enumKs (fun i => match a.live[i]? with | some x => (a.fs.flatMap fun f => f.xs.map a.idn).any (· == a.idn x) | none => false) a.live.length).reverse := by
  have key : (a.ups.map UpR.i).reverse = enumKs (fun i => match a.live[i]? with | some x => (a.fs.flatMap fun f => f.xs.map a.idn).any (· == a.idn x) | none => false) a.live.length := by
    refine sorted_eq ?_ enumKs_sorted fun x => ?_
    · rw [List.pairwise_reverse, List.pairwise_map]; exact W.uso.imp fun h => h
    · rw [enumKs_mem, List.mem_reverse, List.mem_map]
      constructor
      · rintro ⟨r, hr, rfl⟩
        obtain ⟨_, h0, h1⟩ := W.uin r hr
        refine ⟨r.i.toNat, by omega, ?_, by omega⟩
        obtain ⟨f, hf, y, hy, e⟩ := W.ufn r hr
        rw [e]
        simp only [List.any_eq_true, List.mem_flatMap, List.mem_map]
        exact ⟨a.idn y, ⟨f, hf, y, hy, rfl⟩, by simp⟩
      · rintro ⟨k, hk, hkeep, rfl⟩
        obtain ⟨y, hy⟩ : ∃ y, a.live[k]? = some y := ⟨_, List.getElem?_eq_getElem hk⟩
        rw [hy] at hkeep
        simp only [List.any_eq_true, List.mem_flatMap, List.mem_map] at hkeep
        obtain ⟨_, ⟨f, hf, z, hz, rfl⟩, hzy⟩ := hkeep
        have hzy' : a.idn z = a.idn y := by simpa using hzy
        obtain ⟨j, hj⟩ := List.getElem?_of_mem hz
        obtain ⟨l1, l2, l3⟩ := W.fnk f hf
        have hjl := (List.getElem?_eq_some_iff.mp hj).1
        have hju : f.us[j]? = some (f.us[j]'(by omega)) := List.getElem?_eq_getElem (by omega)
        obtain ⟨cy, hcy, ey⟩ := W.lcs y (List.mem_of_getElem? hy)
        rcases l3 j _ _ hju hj with ⟨r, hr, _, e⟩ | ⟨c, hc, _, e⟩
        · obtain ⟨cz, hcz, ez⟩ := W.lcs z (List.mem_of_getElem? e)
          have : z = y := by rw [← ey, ← ez]; exact W.inj cz hcz cy hcy (by rw [ez, ey]; exact hzy')
          subst this
          obtain ⟨_, h0, h1⟩ := W.uin r hr
          have := nodup_get W.lnd e hy
          exact ⟨r, hr, by omega⟩
        · obtain ⟨_, hnl, cz, hcz, ez⟩ := W.cin c hc
          have : z = y := by rw [← ey, ← e, ← ez]; exact W.inj cz hcz cy hcy (by rw [ez, e, ey]; exact hzy')
          subst this
          exact absurd (e ▸ List.mem_of_getElem? hy) hnl
  rw [← key, List.reverse_reverse]
-- V5
theorem refs_map {α : Type} {f : α → Addr} {xs : List α} {n : Nat} : refsL (fun x : Addr => x) (xs.map f) n = refsL f xs n := by
  show listOf (List.map (fun x : Addr => Value.ref x) (xs.map f)).toArray n = listOf (List.map (fun x => Value.ref (f x)) xs).toArray n
  rw [List.map_map]; rfl
theorem in_led {P : Params} {a : WSt} {p : Addr × Obj} (h : p ∈ upEnts P a.gr a.ups ++ a.rest P) : p ∈ a.led P := by
  unfold WSt.led
  simp only [List.mem_cons]; simp [h]
theorem im_led {P : Params} {a : WSt} {p : Addr × Obj} (h : p ∈ a.im) : p ∈ a.led P := in_led (List.mem_append_right _ (List.mem_append_right _ (List.mem_append_left _ h)))
theorem cs_led {P : Params} {a : WSt} {c : ClR} (h : c ∈ a.cs) : (c.x, cellO (a.val c.x) c.tv (a.idn c.x) c.ti c.n) ∈ a.led P :=
  in_led (List.mem_append_right _ (List.mem_append_left _ (List.mem_append_left _ (List.mem_map.mpr ⟨c, h, rfl⟩))))
theorem cls_led {P : Params} {a : WSt} {c : CdU} (h : c ∈ a.cls) : (c.d, upD P c.T .none (-1) (.int (a.val c.x) c.t)) ∈ a.led P :=
  in_led (List.mem_append_right _ (List.mem_append_left _ (List.mem_append_right _ (List.mem_map.mpr ⟨c, h, rfl⟩))))
theorem ups_led {P : Params} {a : WSt} {r : UpR} (h : r ∈ a.ups) : (r.d, upD P r.T (.ref a.gr) r.i .none) ∈ a.led P :=
  in_led (List.mem_append_left _ (List.mem_map.mpr ⟨r, h, rfl⟩))
theorem FnXIn.mono {P : Params} {f : FnX} {l l' : Led} (h : FnXIn P f l) (hs : ∀ p ∈ l, p ∈ l') : FnXIn P f l' :=
  ⟨hs _ h.tup, hs _ h.clo, hs _ h.cd, hs _ h.ul, hs _ h.cl, h.len, h.few⟩
theorem WInv.live_len {prog : Program} {w : World} {i : Nat} {a : WSt} (W : WInv prog w i a) : a.live.length = 3 * a.fds.length := by
  have : ∀ l : List FdX, (∀ r ∈ l, r.xs.length = 3) → (l.flatMap fun r => r.xs).length = 3 * l.length := by
    intro l
    induction l with
    | nil => intro _; rfl
    | cons r l ih => intro h; rw [List.flatMap_cons, List.length_append, ih fun q hq => h q (List.mem_cons_of_mem _ hq), h r List.mem_cons_self, List.length_cons]; omega
  exact this _ fun r hr => (W.fd r hr).2.2.2.1
theorem WInv.st_len {prog : Program} {w : World} {i : Nat} {a : WSt} (W : WInv prog w i a) : a.st.length = a.live.length := by
  have := congrArg List.length W.stv
  simpa using this
/-- a cell that something shares is there -/
theorem WInv.lnk_cell {prog : Program} {w : World} {i : Nat} {a : WSt} (W : WInv prog w i a) {u x : Addr} (h : Lnk a.ups a.cls a.live u x) : ∃ c ∈ a.cs, c.x = x := by
  rcases h with ⟨r, hr, _, e⟩ | ⟨c, hc, _, rfl⟩
  · exact W.lcs _ (List.mem_of_getElem? e)
  · exact (W.cin c hc).2.2
theorem WInv.lnk_reads {prog : Program} {w : World} {i : Nat} {a : WSt} (W : WInv prog w i a) {u x : Addr} (h : Lnk a.ups a.cls a.live u x) : UpReads w.params (a.led w.params) a.gr a.st u (a.val x) := by
  rcases h with ⟨r, hr, rfl, e⟩ | ⟨c, hc, rfl, rfl⟩
  · obtain ⟨h1, h2, h3⟩ := W.uin r hr
    have e2 : (a.st.map (·.1))[r.i.toNat]? = some (a.val x) := by rw [W.stv, List.getElem?_map, e]; rfl
    rw [List.getElem?_map] at e2
    cases hs : a.st[r.i.toNat]? with
    | none => rw [hs] at e2; cases e2
    | some y =>
      rw [hs] at e2
      obtain ⟨y1, y2⟩ := y
      have : y1 = a.val x := Option.some.inj e2
      subst this
      exact ⟨r.d, im_led h1, .inl ⟨r.T, r.i, y2, ups_led hr, h2, hs⟩⟩
  · exact ⟨c.d, im_led (W.cin c hc).1, .inr ⟨c.T, c.t, cls_led hc⟩⟩
section
variable {prog : Program} {w : World} {p : Program} {loose : List Str} {mean : ExcName → Option Value} {mg mb : Str → Option Value}
  {dp un : Nat} {gdd : Option (List Code)} {cn : Str} {cs : Scope} {a : Addr} {ccd : Value} {cl : List (Str × Addr)} {outer : List Env} {A₀ : Around} {base h₀ : Heap} {L : Addr} {m : Str → Option Value} {s : Shared} {Q E : Value → Shared → Prop}
  (B : Below A₀ base outer h₀) (F : Fr h₀ L s.heap m) (X : (Mine.hd.heap_39 w.params).In h₀) (T : Top p loose mean mg mb h₀) (hk : cs.kind = .function)
include B F X T hk
theorem w_stands {i : Nat} {W : WSt} (V : WInv prog w i W) (hi : i ≤ 10) (N : News h₀ L s.heap (W.led w.params))
  (hroom : dp + 8 < recursionLimit) (hunits : un + 150 < cLine)
  (ret : ∀ (h' : Heap) (tk' : Nat), Fr h₀ L h' m → News h₀ L h' (W.led w.params) → Q (.bool true) { s with heap := h', toks := tk' }) :
  wpAny (model prog w) (ktrTop dp un gdd cn cs L a ccd cl outer) (call (.ref 303) [.ref W.wd]) Q E s := by
  have hlive : (W.fds.map FdX.toFdR).flatMap FdR.xs = W.live := by
    unfold WSt.live
    rw [List.flatMap_map]
  have h7 : ∀ p ∈ [(W.wd, W.owd), (W.gd, gdD w.params W.k1 W.k2 W.stk W.opn), (W.stk, intsL W.st W.sn), (W.opn, refsL UpR.u W.ups W.on), (W.frs, refsL (fun x : Addr => x) (W.fds.map fun r => r.fd) W.frn), (W.fns, refsL (fun x : Addr => x) (W.fs.map fun f => f.tup) W.fnn)], p ∈ W.led w.params := by
    intro p hp
    unfold WSt.led
    simp only [List.mem_cons, List.not_mem_nil, or_false] at hp ⊢
    rcases hp with h | h | h | h | h | h <;> simp [h]
  refine stands_spec (fds := W.fds.map FdX.toFdR) (fs := W.fs) (val := W.val) (idn := W.idn) (ups := W.ups) (st := W.st) (frn := W.frn) (fnn := W.fnn) B F X T hk N (h7 (W.wd, W.owd) (by simp)) V.wdd (im_led V.gri) (h7 (W.gd, gdD w.params W.k1 W.k2 W.stk W.opn) (by simp)) (h7 (W.stk, intsL W.st W.sn) (by simp)) (h7 (W.opn, refsL UpR.u W.ups W.on) (by simp)) (fun r hr => ⟨im_led (V.uin r hr).1, ups_led hr⟩) ?_ ?_ ?_ ?_ ?_ ?_ ?_ ?_ hroom hunits ret
  · have := h7 (W.frs, refsL (fun x : Addr => x) (W.fds.map fun r => r.fd) W.frn) (by simp)
    rw [refs_map] at this
    rw [← refs_map (f := FdR.fd), List.map_map, refs_map]
    exact this
  · have := h7 (W.fns, refsL (fun x : Addr => x) (W.fs.map fun f => f.tup) W.fnn) (by simp)
    rw [refs_map] at this
    exact this
  · exact {
      fr := fun r hr => by
        obtain ⟨r', hr', rfl⟩ := List.mem_map.mp hr
        obtain ⟨q1, q2, q3, q4, _⟩ := V.fd r' hr'
        exact ⟨im_led q1, q2, im_led q3, q4⟩
      fn := fun f hf => (V.fn f hf).mono fun p hp => im_led hp
      cel := fun x hx => by
        rw [hlive] at hx
        obtain ⟨c, hc, rfl⟩ := V.lcs x hx
        exact ⟨_, _, _, cs_led hc⟩
      cef := fun f hf x hx => by
        obtain ⟨j, hj⟩ := List.getElem?_of_mem hx
        obtain ⟨l1, l2, l3⟩ := V.fnk f hf
        have hjl := (List.getElem?_eq_some_iff.mp hj).1
        obtain ⟨c, hc, rfl⟩ := V.lnk_cell (l3 j _ _ (List.getElem?_eq_getElem (by omega)) hj)
        exact ⟨_, _, _, cs_led hc⟩
      up := fun f hf y hy => by
        obtain ⟨j, hj⟩ := List.getElem?_of_mem hy
        obtain ⟨e1, e2⟩ := List.getElem?_zip_eq_some.mp hj
        obtain ⟨x, hx, e3⟩ := map_at e2
        rw [e3]
        exact V.lnk_reads ((V.fnk f hf).2.2 j _ _ e1 hx) }
  · have := V.fdl; rw [List.length_map]; omega
  · have := V.fsl; omega
  · have := V.upl; omega
  · rw [hlive]; exact V.stv
  · rw [hlive]; exact V.due
end
-- V2
theorem GivenOk.mono {g : Addr} {l l' : Led} (h : GivenOk g l) (hs : ∀ p ∈ l, p ∈ l') : GivenOk g l' := let ⟨a, b, c, d, e⟩ := h; ⟨a, b, c, hs _ d, e⟩
theorem cellEnts_congr {val val' idn idn' : Addr → Int} {cs : List ClR} (h : ∀ c ∈ cs, val' c.x = val c.x ∧ idn' c.x = idn c.x) : cellEnts val' idn' cs = cellEnts val idn cs :=
  List.map_congr_left fun c hc => by rw [(h c hc).1, (h c hc).2]
theorem clsEnts_congr {P : Params} {val val' : Addr → Int} {cls : List CdU} (h : ∀ c ∈ cls, val' c.x = val c.x) : clsEnts P val' cls = clsEnts P val cls :=
  List.map_congr_left fun c hc => by rw [h c hc]
theorem cellEnts_fst {val idn : Addr → Int} {cs : List ClR} : (cellEnts val idn cs).map (·.1) = cs.map (·.x) := by
  unfold cellEnts; rw [List.map_map]; rfl
theorem clsEnts_fst {P : Params} {val : Addr → Int} {cls : List CdU} : (clsEnts P val cls).map (·.1) = cls.map (·.d) := by
  unfold clsEnts; rw [List.map_map]; rfl
theorem Lnk.mono {ups : List UpR} {cls : List CdU} {live l2 : List Addr} {u x : Addr} (h : Lnk ups cls live u x) : Lnk ups cls (live ++ l2) u x := by
  rcases h with ⟨r, hr, e1, e2⟩ | h
  · exact .inl ⟨r, hr, e1, by rw [List.getElem?_append_left (List.getElem?_eq_some_iff.mp e2).1]; exact e2⟩
  · exact .inr h
theorem Lnks.mono {ups : List UpR} {cls : List CdU} {live l2 us xs : List Addr} (h : Lnks ups cls live us xs) : Lnks ups cls (live ++ l2) us xs :=
  ⟨h.1, h.2.1, fun j u x h1 h2 => (h.2.2 j u x h1 h2).mono⟩
theorem fns_led {fs : List FnX} {n : Nat} : refsL (fun x : Addr => x) (fs.map fun f => f.tup) n = refsL FnA.tup (fs.map FnX.toFnA) n := by
  rw [refs_map, ← refs_map (f := FnA.tup), List.map_map, ← refs_map]; rfl
section
variable {prog : Program} {w : World} {p : Program} {loose : List Str} {mean : ExcName → Option Value} {mg mb : Str → Option Value}
  {dp un : Nat} {gdd : Option (List Code)} {cn : Str} {cs : Scope} {a : Addr} {ccd : Value} {cl : List (Str × Addr)} {outer : List Env} {A₀ : Around} {base h₀ : Heap} {L : Addr} {m : Str → Option Value} {s : Shared} {Q E : Value → Shared → Prop}
theorem enter_inv {i : Nat} {W : WSt} (V : WInv prog w i W) {kp ow fd D x0 x1 x2 : Addr} {E : Led} {ob' owd' ofd : Obj} {fv : Int} {tb tm' ft f1 f2 a0 a1 a2 c0 c1 c2 : Tok} {h' : Heap}
    (N : News h₀ L h' ((fd, ofd) :: (D, listOf #[.ref x0, .ref x1, .ref x2] 3) :: (x0, listOf #[.int fv a0, .int (W.made + 1) c0] 0) :: (x1, listOf #[.int (fv + 1) a1, .int (W.made + 2) c1] 0) :: (x2, listOf #[.int (fv + 2) a2, .int (W.made + 3) c2] 0) :: (E ++
      (W.b, ob') :: (W.wd, owd') :: (W.gd, gdD w.params W.k1 W.k2 W.stk W.opn) :: (W.stk, intsL (W.st ++ [(fv, ft), (fv + 1, f1), (fv + 2, f2)]) (W.sn + 1)) :: (W.opn, refsL UpR.u W.ups W.on) :: (W.frs, refsL (fun x : Addr => x) (W.fds.map (fun r => r.fd) ++ [fd]) (W.frn + 1)) :: (W.fns, refsL (fun x : Addr => x) (W.fs.map fun f => f.tup) W.fnn) :: (upEnts w.params W.gr W.ups ++ W.rest w.params))))
    (nd : (((fd, ofd) :: (D, listOf #[.ref x0, .ref x1, .ref x2] 3) :: (x0, listOf #[.int fv a0, .int (W.made + 1) c0] 0) :: (x1, listOf #[.int (fv + 1) a1, .int (W.made + 2) c1] 0) :: (x2, listOf #[.int (fv + 2) a2, .int (W.made + 3) c2] 0) :: (E ++
      (W.b, ob') :: (W.wd, owd') :: (W.gd, gdD w.params W.k1 W.k2 W.stk W.opn) :: (W.stk, intsL (W.st ++ [(fv, ft), (fv + 1, f1), (fv + 2, f2)]) (W.sn + 1)) :: (W.opn, refsL UpR.u W.ups W.on) :: (W.frs, refsL (fun x : Addr => x) (W.fds.map (fun r => r.fd) ++ [fd]) (W.frn + 1)) :: (W.fns, refsL (fun x : Addr => x) (W.fs.map fun f => f.tup) W.fnn) :: (upEnts w.params W.gr W.ups ++ W.rest w.params))).map (·.1)).Nodup)
    (hb : BoxOk W.g ob') (hd : owd'.IsDictOf (strKind prog w) (wkv W.gr W.fns W.frs (W.made + 3) tm')) (hfo : ofd.IsDictOf (strKind prog w) (fkv (W.st.length : Int) tb kp ow D))
    (hE : (∃ f ∈ W.fs, kp = f.ul ∧ ow = f.cl ∧ E = []) ∨ E = [(ow, listOf #[] 0), (kp, listOf #[] 0)]) :
    ∃ W' : WSt, WInv prog w (i + 1) W' ∧ W'.b = W.b ∧ W'.wd = W.wd ∧ (∀ p ∈ W.im, p ∈ W'.im) ∧ W'.ex = W.ex ∧ News h₀ L h' (W'.led w.params) := by
  obtain ⟨ks, oxs, kn, onn, hk1, hk2, hk3⟩ : ∃ ks oxs kn onn, (kp, refsL (fun x : Addr => x) ks kn) ∈ W.im ++ E ∧ (ow, refsL (fun x : Addr => x) oxs onn) ∈ W.im ++ E ∧ Lnks W.ups W.cls W.live ks oxs := by
    rcases hE with ⟨f, hf, rfl, rfl, rfl⟩ | rfl
    · exact ⟨f.us, f.xs, f.un, f.xn, List.mem_append_left _ (V.fn f hf).ul, List.mem_append_left _ (V.fn f hf).cl, V.fnk f hf⟩
    · exact ⟨[], [], 0, 0, List.mem_append_right _ (List.mem_cons_of_mem _ List.mem_cons_self), List.mem_append_right _ List.mem_cons_self, rfl, by simp, fun j u x h => by simp at h⟩
  have nd0 := nd
  simp only [List.map_cons, List.map_append, List.nodup_cons, List.mem_cons, List.mem_append, not_or, WSt.rest, cellEnts_fst, clsEnts_fst, upEnts_fst] at nd
  obtain ⟨-, -, ⟨n01, n02, -, -, -, -, -, -, -, -, -, nx0, -⟩, ⟨n12, -, -, -, -, -, -, -, -, -, nx1, -⟩, ⟨-, -, -, -, -, -, -, -, -, nx2, -⟩, -⟩ := id nd
  have hc0 : ∀ c ∈ W.cs, ¬ c.x = x0 := fun c hc e => nx0.1 (List.mem_map.mpr ⟨c, hc, e⟩)
  have hc1 : ∀ c ∈ W.cs, ¬ c.x = x1 := fun c hc e => nx1.1 (List.mem_map.mpr ⟨c, hc, e⟩)
  have hc2 : ∀ c ∈ W.cs, ¬ c.x = x2 := fun c hc e => nx2.1 (List.mem_map.mpr ⟨c, hc, e⟩)
  have hl : ∀ x ∈ W.live, ¬ x = x0 ∧ ¬ x = x1 ∧ ¬ x = x2 := fun x hx => by
    obtain ⟨c, hc, rfl⟩ := V.lcs x hx
    exact ⟨hc0 c hc, hc1 c hc, hc2 c hc⟩
  let val' : Addr → Int := fun y => if y = x0 then fv else if y = x1 then fv + 1 else if y = x2 then fv + 2 else W.val y
  let idn' : Addr → Int := fun y => if y = x0 then W.made + 1 else if y = x1 then W.made + 2 else if y = x2 then W.made + 3 else W.idn y
  have v0 : val' x0 = fv := if_pos rfl
  have v1 : val' x1 = fv + 1 := by show (if x1 = x0 then _ else _) = _; rw [if_neg (Ne.symm n01), if_pos rfl]
  have v2 : val' x2 = fv + 2 := by show (if x2 = x0 then _ else _) = _; rw [if_neg (Ne.symm n02), if_neg (Ne.symm n12), if_pos rfl]
  have i0 : idn' x0 = W.made + 1 := if_pos rfl
  have i1 : idn' x1 = W.made + 2 := by show (if x1 = x0 then _ else _) = _; rw [if_neg (Ne.symm n01), if_pos rfl]
  have i2 : idn' x2 = W.made + 3 := by show (if x2 = x0 then _ else _) = _; rw [if_neg (Ne.symm n02), if_neg (Ne.symm n12), if_pos rfl]
  have vo : ∀ x, ¬ x = x0 → ¬ x = x1 → ¬ x = x2 → val' x = W.val x := fun x h0 h1 h2 => by show (if x = x0 then _ else _) = _; rw [if_neg h0, if_neg h1, if_neg h2]
  have io : ∀ x, ¬ x = x0 → ¬ x = x1 → ¬ x = x2 → idn' x = W.idn x := fun x h0 h1 h2 => by show (if x = x0 then _ else _) = _; rw [if_neg h0, if_neg h1, if_neg h2]
  have voc : ∀ c ∈ W.cs, val' c.x = W.val c.x ∧ idn' c.x = W.idn c.x := fun c hc => ⟨vo _ (hc0 c hc) (hc1 c hc) (hc2 c hc), io _ (hc0 c hc) (hc1 c hc) (hc2 c hc)⟩
  have vocl : ∀ c ∈ W.cls, val' c.x = W.val c.x := fun c hc => by
    obtain ⟨_, _, e, he, q⟩ := V.cin c hc
    rw [← q]; exact (voc e he).1
  let new : FdX := { fd := fd, kp := kp, ow := ow, D := D, ofd := ofd, bs := (W.st.length : Int), tb := tb, xs := [x0, x1, x2], dn := 3, ks := ks, oxs := oxs, kn := kn, onn := onn }
  let W' : WSt := { W with ob := ob', owd := owd', tm := tm', made := W.made + 3, sn := W.sn + 1, frn := W.frn + 1, st := W.st ++ [(fv, ft), (fv + 1, f1), (fv + 2, f2)], cs := W.cs ++ [⟨x0, a0, c0, 0⟩, ⟨x1, a1, c1, 0⟩, ⟨x2, a2, c2, 0⟩], fds := W.fds ++ [new], im := W.im ++ (fd, ofd) :: (D, listOf #[.ref x0, .ref x1, .ref x2] 3) :: E, val := val', idn := idn' }
  have hlive : W'.live = W.live ++ [x0, x1, x2] := by
    show (W.fds ++ [new]).flatMap (fun r => r.xs) = _
    rw [List.flatMap_append]; rfl
  have hrest : W'.rest w.params = (cellEnts W.val W.idn W.cs ++ [(x0, cellO fv a0 (W.made + 1) c0 0), (x1, cellO (fv + 1) a1 (W.made + 2) c1 0), (x2, cellO (fv + 2) a2 (W.made + 3) c2 0)]) ++ clsEnts w.params W.val W.cls ++ ((W.im ++ (fd, ofd) :: (D, listOf #[.ref x0, .ref x1, .ref x2] 3) :: E) ++ W.ex) := by
    show cellEnts val' idn' (W.cs ++ _) ++ clsEnts w.params val' W.cls ++ _ = _
    rw [clsEnts_congr vocl]
    congr 2
    unfold cellEnts
    rw [List.map_append]
    congr 1
    · exact cellEnts_congr voc
    · show [(x0, cellO (val' x0) a0 (idn' x0) c0 0), (x1, cellO (val' x1) a1 (idn' x1) c1 0), (x2, cellO (val' x2) a2 (idn' x2) c2 0)] = _
      rw [v0, v1, v2, i0, i1, i2]
  have hfds : (W'.fds.map fun r => r.fd) = W.fds.map (fun r => r.fd) ++ [fd] := by show ((W.fds ++ [new]).map fun r => r.fd) = _; rw [List.map_append]; rfl
  have hled : W'.led w.params = (W.b, ob') :: (W.wd, owd') :: (W.gd, gdD w.params W.k1 W.k2 W.stk W.opn) :: (W.stk, intsL (W.st ++ [(fv, ft), (fv + 1, f1), (fv + 2, f2)]) (W.sn + 1)) :: (W.opn, refsL UpR.u W.ups W.on) :: (W.frs, refsL (fun x : Addr => x) (W.fds.map (fun r => r.fd) ++ [fd]) (W.frn + 1)) :: (W.fns, refsL (fun x : Addr => x) (W.fs.map fun f => f.tup) W.fnn) :: (upEnts w.params W.gr W.ups ++ ((cellEnts W.val W.idn W.cs ++ [(x0, cellO fv a0 (W.made + 1) c0 0), (x1, cellO (fv + 1) a1 (W.made + 2) c1 0), (x2, cellO (fv + 2) a2 (W.made + 3) c2 0)]) ++ clsEnts w.params W.val W.cls ++ ((W.im ++ (fd, ofd) :: (D, listOf #[.ref x0, .ref x1, .ref x2] 3) :: E) ++ W.ex))) := by
    unfold WSt.led
    rw [hrest, hfds]
  refine ⟨W', ?_, rfl, rfl, fun p hp => List.mem_append_left _ hp, rfl, ?_⟩
  · have hin : ∀ p ∈ W.im, p ∈ W'.im := fun p hp => List.mem_append_left _ hp
    have hin2 : ∀ p ∈ W.im ++ E, p ∈ W'.im := fun p hp => by
      rcases List.mem_append.mp hp with h | h
      · exact List.mem_append_left _ h
      · exact List.mem_append_right _ (List.mem_cons_of_mem _ (List.mem_cons_of_mem _ h))
    have hll := V.live_len
    exact {
      nd := by
        rw [hled]
        have nd' : ((((fd, ofd) :: (D, listOf #[.ref x0, .ref x1, .ref x2] 3) :: (x0, listOf #[.int fv a0, .int (W.made + 1) c0] 0) :: (x1, listOf #[.int (fv + 1) a1, .int (W.made + 2) c1] 0) :: (x2, listOf #[.int (fv + 2) a2, .int (W.made + 3) c2] 0) :: (E ++
      (W.b, ob') :: (W.wd, owd') :: (W.gd, gdD w.params W.k1 W.k2 W.stk W.opn) :: (W.stk, intsL (W.st ++ [(fv, ft), (fv + 1, f1), (fv + 2, f2)]) (W.sn + 1)) :: (W.opn, refsL UpR.u W.ups W.on) :: (W.frs, refsL (fun x : Addr => x) (W.fds.map (fun r => r.fd) ++ [fd]) (W.frn + 1)) :: (W.fns, refsL (fun x : Addr => x) (W.fs.map fun f => f.tup) W.fnn) :: (upEnts w.params W.gr W.ups ++ W.rest w.params))) : Led).map (·.1)).Nodup := nd0
        refine (List.Perm.nodup_iff (List.perm_iff_count.mpr fun a => ?_)).mp nd'
        unfold WSt.rest
        simp only [List.map_cons, List.map_append, List.map_nil, List.count_cons, List.count_append, List.count_nil]
        omega
      gb := V.gb
      box := hb
      giv := V.giv.mono hin
      wdd := hd
      m0 := by have := V.m0; show 0 ≤ W.made + 3; omega
      m1 := by have := V.m1; show W.made + 3 ≤ 3 + 3 * ((i + 1 : Nat) : Int); omega
      gri := hin _ V.gri
      ne := by show W.fds ++ [new] ≠ []; simp
      fdl := by have := V.fdl; show (W.fds ++ [new]).length ≤ _; rw [List.length_append, List.length_singleton]; omega
      fsl := by have := V.fsl; show W.fs.length ≤ _; omega
      upl := by have := V.upl; show W.ups.length ≤ _; omega
      fd := fun r hr => by
        rcases List.mem_append.mp hr with h | h
        · obtain ⟨q1, q2, q3, q4, q5, q6⟩ := V.fd r h
          exact ⟨hin _ q1, q2, hin _ q3, q4, hin _ q5, hin _ q6⟩
        · rw [List.mem_singleton.mp h]
          exact ⟨List.mem_append_right _ List.mem_cons_self, hfo, List.mem_append_right _ (List.mem_cons_of_mem _ List.mem_cons_self), rfl, hin2 _ hk1, hin2 _ hk2⟩
      fdk := fun r hr => by
        rw [hlive]
        rcases List.mem_append.mp hr with h | h
        · exact (V.fdk r h).mono
        · rw [List.mem_singleton.mp h]; exact hk3.mono
      bs := fun k r hr => by
        rcases snoc_at hr with h | ⟨h, h'⟩
        · exact V.bs k r h
        · subst h'; subst h
          show (W.st.length : Int) = _
          rw [V.st_len, hll]; omega
      fn := fun f hf => (V.fn f hf).mono hin
      fnk := fun f hf => by rw [hlive]; exact (V.fnk f hf).mono
      lnd := by
        rw [hlive]
        refine List.nodup_append.mpr ⟨V.lnd, ?_, fun x hx y hy e => ?_⟩
        · simp only [List.nodup_cons, List.mem_cons, List.not_mem_nil, or_false, not_or, List.nodup_nil, not_false_iff, and_true]
          exact ⟨⟨n01, n02⟩, n12⟩
        · subst e
          obtain ⟨h0, h1, h2⟩ := hl x hx
          simp only [List.mem_cons, List.not_mem_nil, or_false] at hy
          rcases hy with h | h | h
          · exact h0 h
          · exact h1 h
          · exact h2 h
      lcs := fun x hx => by
        rw [hlive] at hx
        rcases List.mem_append.mp hx with h | h
        · obtain ⟨c, hc, e⟩ := V.lcs x h
          exact ⟨c, List.mem_append_left _ hc, e⟩
        · simp only [List.mem_cons, List.not_mem_nil, or_false] at h
          rcases h with rfl | rfl | rfl
          · exact ⟨⟨x, a0, c0, 0⟩, List.mem_append_right _ (by simp), rfl⟩
          · exact ⟨⟨x, a1, c1, 0⟩, List.mem_append_right _ (by simp), rfl⟩
          · exact ⟨⟨x, a2, c2, 0⟩, List.mem_append_right _ (by simp), rfl⟩
      cid := fun c hc => by
        show idn' c.x ≤ W.made + 3
        rcases List.mem_append.mp hc with h | h
        · rw [(voc c h).2]; have := V.cid c h; omega
        · simp only [List.mem_cons, List.not_mem_nil, or_false] at h
          rcases h with rfl | rfl | rfl
          · show idn' x0 ≤ _; rw [i0]; omega
          · show idn' x1 ≤ _; rw [i1]; omega
          · show idn' x2 ≤ _; rw [i2]; omega
      inj := fun c hc c' hc' e => by
        have key : ∀ c ∈ W.cs ++ [(⟨x0, a0, c0, 0⟩ : ClR), ⟨x1, a1, c1, 0⟩, ⟨x2, a2, c2, 0⟩], (c ∈ W.cs ∧ idn' c.x = W.idn c.x ∧ W.idn c.x ≤ W.made) ∨ (c.x = x0 ∧ idn' c.x = W.made + 1) ∨ (c.x = x1 ∧ idn' c.x = W.made + 2) ∨ (c.x = x2 ∧ idn' c.x = W.made + 3) := by
          intro c hc
          rcases List.mem_append.mp hc with h | h
          · exact .inl ⟨h, (voc c h).2, V.cid c h⟩
          · simp only [List.mem_cons, List.not_mem_nil, or_false] at h
            rcases h with rfl | rfl | rfl
            · exact .inr (.inl ⟨rfl, i0⟩)
            · exact .inr (.inr (.inl ⟨rfl, i1⟩))
            · exact .inr (.inr (.inr ⟨rfl, i2⟩))
        have e' : idn' c.x = idn' c'.x := e
        rcases key c hc with ⟨p1, p2, p3⟩ | ⟨p1, p2⟩ | ⟨p1, p2⟩ | ⟨p1, p2⟩ <;> rcases key c' hc' with ⟨q1, q2, q3⟩ | ⟨q1, q2⟩ | ⟨q1, q2⟩ | ⟨q1, q2⟩
        · exact V.inj c p1 c' q1 (by rw [← p2, ← q2]; exact e')
        all_goals first | (rw [p1, q1]; done) | (exfalso; omega)
      stv := by
        rw [hlive]
        show (W.st ++ _).map (·.1) = (W.live ++ _).map val'
        rw [List.map_append, List.map_append, V.stv]
        congr 1
        · exact List.map_congr_left fun x hx => (vo x (hl x hx).1 (hl x hx).2.1 (hl x hx).2.2).symm
        · show [fv, fv + 1, fv + 2] = [val' x0, val' x1, val' x2]
          rw [v0, v1, v2]
      uso := V.uso
      uin := fun r hr => by
        obtain ⟨h1, h2, h3⟩ := V.uin r hr
        refine ⟨hin _ h1, h2, ?_⟩
        rw [hlive, List.length_append]; omega
      ufn := fun r hr => by
        obtain ⟨f, hf, x, hx, e⟩ := V.ufn r hr
        exact ⟨f, hf, x, hx, by rw [hlive, List.getElem?_append_left (List.getElem?_eq_some_iff.mp e).1]; exact e⟩
      cin := fun c hc => by
        obtain ⟨h1, h2, e, he, q⟩ := V.cin c hc
        refine ⟨hin _ h1, ?_, e, List.mem_append_left _ he, q⟩
        rw [hlive]
        intro hm
        rcases List.mem_append.mp hm with h | h
        · exact h2 h
        · simp only [List.mem_cons, List.not_mem_nil, or_false] at h
          rw [← q] at h
          rcases h with h | h | h
          · exact hc0 e he h
          · exact hc1 e he h
          · exact hc2 e he h
      cnd := V.cnd }
  · rw [hled]
    refine news_sub N fun p hp => ?_
    unfold WSt.rest
    simp only [List.mem_cons, List.mem_append, List.not_mem_nil, or_false] at hp ⊢
    rcases hp with h | h | h | h | h | h | h | h | ((h | h | h | h) | h) | (h | h | h | h) | h <;> simp [h]
end
section
variable {prog : Program} {w : World} {p : Program} {loose : List Str} {mean : ExcName → Option Value} {mg mb : Str → Option Value}
  {dp un : Nat} {gdd : Option (List Code)} {cn : Str} {cs : Scope} {a : Addr} {ccd : Value} {cl : List (Str × Addr)} {outer : List Env} {A₀ : Around} {base h₀ : Heap} {L : Addr} {m : Str → Option Value} {s : Shared} {Q E : Value → Shared → Prop}
  (B : Below A₀ base outer h₀) (F : Fr h₀ L s.heap m) (X : (Mine.hd.heap_39 w.params).In h₀) (T : Top p loose mean mg mb h₀) (hk : cs.kind = .function)
include B F X T hk
theorem w_enter {i : Nat} {W : WSt} (V : WInv prog w i W) (hi : i ≤ 9) (N : News h₀ L s.heap (W.led w.params))
  (hroom : dp + 6 < recursionLimit) (hunits : un + 60 < cLine)
  (ret : ∀ (W' : WSt) (h' : Heap) (tk' : Nat), WInv prog w (i + 1) W' → W'.b = W.b → W'.wd = W.wd → (∀ p ∈ W.im, p ∈ W'.im) → W'.ex = W.ex → Fr h₀ L h' m → News h₀ L h' (W'.led w.params) → Q .none { s with heap := h', toks := tk' }) :
  wpAny (model prog w) (ktrTop dp un gdd cn cs L a ccd cl outer) (call (.ref 286) [.ref W.b, .ref W.wd]) Q E s := by
  have e1 : W.led w.params = (W.b, W.ob) :: (W.wd, W.owd) :: (W.gd, gdD w.params W.k1 W.k2 W.stk W.opn) :: (W.stk, intsL W.st W.sn) :: (W.opn, refsL UpR.u W.ups W.on) :: (W.frs, refsL (fun x : Addr => x) (W.fds.map fun r => r.fd) W.frn) :: (W.fns, refsL FnA.tup (W.fs.map FnX.toFnA) W.fnn) :: (upEnts w.params W.gr W.ups ++ W.rest w.params) := by
    unfold WSt.led; rw [fns_led]
  have hnd := V.nd
  rw [e1] at N hnd
  have him : ∀ p ∈ W.im, p ∈ upEnts w.params W.gr W.ups ++ W.rest w.params := fun p hp => List.mem_append_right _ (List.mem_append_right _ (List.mem_append_left _ hp))
  have hfds := V.fdl
  have hfsl := V.fsl
  have hll := V.live_len
  have hst := V.st_len
  have hm0 := V.m0
  have hm1 := V.m1
  refine enter_spec (fs := W.fs.map FnX.toFnA) B F X T hk N hnd V.box (V.giv.mono him) V.gb V.wdd hm0 (by omega) (him _ V.gri) (by omega) (fun f hf => ?_) (by rw [List.length_map]; omega) (by rw [List.length_map]; omega) hroom hunits ?_
  · obtain ⟨f', hf', rfl⟩ := List.mem_map.mp hf
    exact ⟨him _ (V.fn f' hf').tup, him _ (V.fn f' hf').clo, him _ (V.fn f' hf').cd⟩
  · intro kp ow fd D x0 x1 x2 E' ob' owd' ofd fv tb tm' ft f1 f2 a0 a1 a2 c0 c1 c2 h' tk' F' N' nd' hb' hd' hfo hE _ _
    rw [← fns_led] at N' nd'
    have hE' : (∃ f ∈ W.fs, kp = f.ul ∧ ow = f.cl ∧ E' = []) ∨ E' = [(ow, listOf #[] 0), (kp, listOf #[] 0)] := by
      rcases hE with ⟨f, hf, q⟩ | q
      · obtain ⟨f', hf', rfl⟩ := List.mem_map.mp hf
        exact .inl ⟨f', hf', q⟩
      · exact .inr q
    obtain ⟨W', V', b1, b2, b3, b4, N''⟩ := enter_inv V N' nd' hb' hd' hfo hE'
    exact ret W' h' tk' V' b1 b2 b3 b4 F' N''
end
-- V1
def instEnts (new : List UpR) : Led := new.map fun r => (r.u, instObj 197 r.d)
theorem newEnts_count {P : Params} {gr : Addr} {a : Addr} : ∀ {new : List UpR}, List.count a ((newEnts P gr new).map (·.1)) = List.count a (new.map (·.u)) + List.count a (new.map (·.d))
  | [] => rfl
  | r :: new => by
    have ih := newEnts_count (P := P) (gr := gr) (a := a) (new := new)
    show List.count a (((((r.u, instObj 197 r.d) :: (r.d, upD P r.T (.ref gr) r.i .none) :: newEnts P gr new) : Led)).map (·.1)) = _
    simp only [List.map_cons, List.count_cons]
    rw [ih]; omega
theorem Lnk.ups {ups ups' : List UpR} {cls : List CdU} {live : List Addr} {u x : Addr} (h : Lnk ups cls live u x) (hs : ∀ r ∈ ups, r ∈ ups') : Lnk ups' cls live u x := by
  rcases h with ⟨r, hr, e⟩ | h
  · exact .inl ⟨r, hs r hr, e⟩
  · exact .inr h
theorem Lnks.ups {ups ups' : List UpR} {cls : List CdU} {live us xs : List Addr} (h : Lnks ups cls live us xs) (hs : ∀ r ∈ ups, r ∈ ups') : Lnks ups' cls live us xs := ⟨h.1, h.2.1, fun j u x h1 h2 => (h.2.2 j u x h1 h2).ups hs⟩
theorem make_inv {prog : Program} {w : World} {h₀ : Heap} {L : Addr} {i : Nat} {W : WSt} (V : WInv prog w i W) {fdl : List FdX} {fr : FdX} (hf : W.fds = fdl ++ [fr]) {f : FnX} {ws : List (Bool × Int)} {wt : List (Int × Tok)} {a : ShSt} {ob' : Obj} {R : Led} {h' : Heap}
    (N : News h₀ L h' ((W.b, ob') :: (W.wd, W.owd) :: (W.gd, gdD w.params W.k1 W.k2 W.stk W.opn) :: (W.stk, intsL W.st W.sn) :: (W.opn, refsL UpR.u a.ups a.on) :: (W.frs, refsL (fun x : Addr => x) (W.fds.map fun r => r.fd) W.frn) :: (W.fns, refsL (fun x : Addr => x) ((W.fs.map fun f => f.tup) ++ [f.tup]) (W.fnn + 1)) :: (fnEnts w.params f ++ newEnts w.params W.gr a.new ++ (upEnts w.params W.gr W.ups ++ W.rest w.params))))
    (nd : ((((W.b, ob') :: (W.wd, W.owd) :: (W.gd, gdD w.params W.k1 W.k2 W.stk W.opn) :: (W.stk, intsL W.st W.sn) :: (W.opn, refsL UpR.u a.ups a.on) :: (W.frs, refsL (fun x : Addr => x) (W.fds.map fun r => r.fd) W.frn) :: (W.fns, refsL (fun x : Addr => x) ((W.fs.map fun f => f.tup) ++ [f.tup]) (W.fnn + 1)) :: (fnEnts w.params f ++ newEnts w.params W.gr a.new ++ (upEnts w.params W.gr W.ups ++ W.rest w.params))) : Led).map (·.1)).Nodup)
    (hus : f.us = a.fs) (hw2 : ws.length ≤ 2) (M : MkInv W.g fr.oxs fr.xs ws.length ⟨ob', ws, wt, f.xs, 0, 0⟩) (S : ShInv w.params W.gr R W.ups ws fr.ks fr.bs ws.length a) (hR : ∀ p ∈ upEnts w.params W.gr W.ups ++ W.rest w.params, p ∈ R) :
    ∃ W' : WSt, WInv prog w (i + 1) W' ∧ W'.b = W.b ∧ W'.wd = W.wd ∧ (∀ p ∈ W.im, p ∈ W'.im) ∧ W'.ex = W.ex ∧ News h₀ L h' (W'.led w.params) := by
  have hfr : fr ∈ W.fds := by rw [hf]; simp
  have hxl := M.xs
  dsimp only at hxl
  have hfl := S.g4
  have hbsv : fr.bs = 3 * (fdl.length : Int) := V.bs fdl.length fr (by rw [hf]; simp)
  have hlive : W.live = (fdl.flatMap fun r => r.xs) ++ fr.xs := by
    unfold WSt.live; rw [hf, List.flatMap_append]; simp
  have hf3 := (V.fd fr hfr).2.2.2.1
  have hl1 : (fdl.flatMap fun r => r.xs).length = 3 * fdl.length := by
    have e1 := V.live_len
    rw [hlive, List.length_append, hf, List.length_append, List.length_singleton] at e1
    omega
  have hat : ∀ (n : Int) x, 0 ≤ n → fr.xs[n.toNat]? = some x → W.live[(fr.bs + n).toNat]? = some x := fun n x hn h => by
    rw [hlive, List.getElem?_append_right (by omega)]
    have : (fr.bs + n).toNat - (fdl.flatMap fun r => r.xs).length = n.toNat := by omega
    rw [this]; exact h
  have hsub : ∀ r ∈ W.ups, r ∈ a.ups := fun r hr => (S.g3 r).mpr (.inl hr)
  let W' : WSt := { W with ob := ob', ups := a.ups, on := a.on, fs := W.fs ++ [f], fnn := W.fnn + 1, im := W.im ++ (fnEnts w.params f ++ instEnts a.new) }
  have hin : ∀ p ∈ W.im, p ∈ W'.im := fun p hp => List.mem_append_left _ hp
  have hfe : ∀ p ∈ fnEnts w.params f, p ∈ W'.im := fun p hp => List.mem_append_right _ (List.mem_append_left _ hp)
  have hperm : a.ups.Perm (W.ups ++ a.new) := by
    refine (List.perm_ext_iff_of_nodup ?_ ?_).mpr fun r => by rw [S.g3, List.mem_append]
    · exact S.g2.imp fun h e => by rw [e] at h; exact absurd h (Int.lt_irrefl _)
    · refine List.nodup_append.mpr ⟨V.uso.imp fun h e => by rw [e] at h; exact absurd h (Int.lt_irrefl _), ?_, fun x hx y hy e => ?_⟩
      · refine List.Pairwise.imp_of_mem (R := fun x y : UpR => @LT.lt Nat _ x.u y.d) (fun {x y} hx hy h e => ?_) S.g6b
        rw [e] at h
        exact absurd (Nat.lt_trans h (S.g6 y hy).2) (Nat.lt_irrefl _)
      · subst e
        have := (S.g6 x hy).1 _ (hR _ (List.mem_append_left _ (List.mem_map.mpr ⟨x, hx, rfl⟩)))
        exact absurd this (Nat.lt_irrefl _)
  have hns : W'.fs.map (fun f => f.tup) = (W.fs.map fun f => f.tup) ++ [f.tup] := by show (W.fs ++ [f]).map _ = _; rw [List.map_append]; rfl
  have hled : W'.led w.params = (W.b, ob') :: (W.wd, W.owd) :: (W.gd, gdD w.params W.k1 W.k2 W.stk W.opn) :: (W.stk, intsL W.st W.sn) :: (W.opn, refsL UpR.u a.ups a.on) :: (W.frs, refsL (fun x : Addr => x) (W.fds.map fun r => r.fd) W.frn) :: (W.fns, refsL (fun x : Addr => x) ((W.fs.map fun f => f.tup) ++ [f.tup]) (W.fnn + 1)) :: (upEnts w.params W.gr a.ups ++ (cellEnts W.val W.idn W.cs ++ clsEnts w.params W.val W.cls ++ ((W.im ++ (fnEnts w.params f ++ instEnts a.new)) ++ W.ex))) := by
    unfold WSt.led
    rw [hns]; rfl
  have hlnk : ∀ (k : Nat) u x, f.us[k]? = some u → f.xs[k]? = some x → Lnk a.ups W.cls W.live u x := by
    intro k u x h1 h2
    rw [hus] at h1
    have hk := (List.getElem?_eq_some_iff.mp h2).1
    obtain ⟨wd', hwd'⟩ : ∃ v, ws[k]? = some v := ⟨_, List.getElem?_eq_getElem (by omega)⟩
    have g := S.g4b k wd' u hwd' h1
    have q := M.at' k wd' x hwd' h2
    obtain ⟨o1, o2, o3⟩ := M.ok wd' (List.mem_of_getElem? hwd')
    cases hb : wd'.1 with
    | true =>
      rw [hb, if_pos rfl] at g q
      exact ((V.fdk fr hfr).2.2 _ u x g q).ups hsub
    | false =>
      rw [hb, if_neg (by decide)] at g q
      obtain ⟨r, hr, e1, e2⟩ := g
      exact .inl ⟨r, hr, e2.symm, by rw [e1]; exact hat _ _ o1 q⟩
  have hnew : ∀ r ∈ a.new, ∃ x ∈ f.xs, W.live[r.i.toNat]? = some x ∧ 0 ≤ r.i := by
    intro r hr
    obtain ⟨n, hn, e⟩ := S.g5 r hr
    obtain ⟨k, hk⟩ := List.getElem?_of_mem hn
    have hkl := (List.getElem?_eq_some_iff.mp hk).1
    obtain ⟨x, hx⟩ : ∃ x, f.xs[k]? = some x := ⟨_, List.getElem?_eq_getElem (by omega)⟩
    have q := M.at' k _ x hk hx
    obtain ⟨o1, o2, o3⟩ := M.ok _ hn
    dsimp only at q o1
    rw [if_neg (by decide)] at q
    refine ⟨x, List.mem_of_getElem? hx, ?_, by omega⟩
    rw [e]; exact hat _ _ o1 q
  refine ⟨W', ?_, rfl, rfl, hin, rfl, ?_⟩
  · exact {
      nd := by
        rw [hled]
        refine (List.Perm.nodup_iff (List.perm_iff_count.mpr fun z => ?_)).mp nd
        have hc : List.count z (a.ups.map (·.d)) = List.count z (W.ups.map (·.d)) + List.count z (a.new.map (·.d)) := by
          rw [(hperm.map _).count_eq, List.map_append, List.count_append]
        have hi : (instEnts a.new).map (·.1) = a.new.map (·.u) := by unfold instEnts; rw [List.map_map]; rfl
        unfold WSt.rest
        simp only [List.map_cons, List.map_append, List.count_cons, List.count_append, upEnts_fst, hc, newEnts_count, hi]
        omega
      gb := V.gb
      box := M.box
      giv := V.giv.mono hin
      wdd := V.wdd
      m0 := V.m0
      m1 := by have := V.m1; show W.made ≤ 3 + 3 * ((i + 1 : Nat) : Int); omega
      gri := hin _ V.gri
      ne := V.ne
      fdl := by have := V.fdl; show W.fds.length ≤ _; omega
      fsl := by have := V.fsl; show (W.fs ++ [f]).length ≤ _; rw [List.length_append, List.length_singleton]; omega
      upl := by have := V.upl; have := S.g7; show a.ups.length ≤ _; omega
      fd := fun r hr => by
        obtain ⟨q1, q2, q3, q4, q5, q6⟩ := V.fd r hr
        exact ⟨hin _ q1, q2, hin _ q3, q4, hin _ q5, hin _ q6⟩
      fdk := fun r hr => (V.fdk r hr).ups hsub
      bs := V.bs
      fn := fun g hg => by
        rcases List.mem_append.mp hg with h | h
        · exact (V.fn g h).mono hin
        · rw [List.mem_singleton.mp h]
          exact ⟨hfe _ (by simp [fnEnts]), hfe _ (by simp [fnEnts]), hfe _ (by simp [fnEnts]), hfe _ (by simp [fnEnts]), hfe _ (by simp [fnEnts]), by rw [hus]; omega, by omega⟩
      fnk := fun g hg => by
        rcases List.mem_append.mp hg with h | h
        · exact (V.fnk g h).ups hsub
        · rw [List.mem_singleton.mp h]
          exact ⟨by rw [hus]; omega, by omega, hlnk⟩
      lnd := V.lnd
      lcs := V.lcs
      cid := V.cid
      inj := V.inj
      stv := V.stv
      uso := S.g2
      uin := fun r hr => by
        rcases (S.g3 r).mp hr with h | h
        · obtain ⟨h1, h2, h3⟩ := V.uin r h
          exact ⟨hin _ h1, h2, h3⟩
        · obtain ⟨x, _, e, h0⟩ := hnew r h
          refine ⟨List.mem_append_right _ (List.mem_append_right _ (List.mem_map.mpr ⟨r, h, rfl⟩)), h0, ?_⟩
          have := (List.getElem?_eq_some_iff.mp e).1
          show r.i < (W.live.length : Int)
          omega
      ufn := fun r hr => by
        rcases (S.g3 r).mp hr with h | h
        · obtain ⟨g, hg, x, hx, e⟩ := V.ufn r h
          exact ⟨g, List.mem_append_left _ hg, x, hx, e⟩
        · obtain ⟨x, hx, e, _⟩ := hnew r h
          exact ⟨f, List.mem_append_right _ (by simp), x, hx, e⟩
      cin := fun c hc => by
        obtain ⟨h1, h2⟩ := V.cin c hc
        exact ⟨hin _ h1, h2⟩
      cnd := V.cnd }
  · rw [hled]
    refine news_sub N fun p hp => ?_
    simp only [List.mem_cons, List.mem_append] at hp ⊢
    rcases hp with h | h | h | h | h | h | h | h | (h | h) | (h | h | h) | h
    · exact .inl h
    · exact .inr (.inl h)
    · exact .inr (.inr (.inl h))
    · exact .inr (.inr (.inr (.inl h)))
    · exact .inr (.inr (.inr (.inr (.inl h))))
    · exact .inr (.inr (.inr (.inr (.inr (.inl h)))))
    · exact .inr (.inr (.inr (.inr (.inr (.inr (.inl h))))))
    · obtain ⟨r, hr, rfl⟩ := List.mem_map.mp (show p ∈ upEnts w.params W.gr a.ups from h)
      rcases (S.g3 r).mp hr with h | h
      · exact .inr (.inr (.inr (.inr (.inr (.inr (.inr (.inr (.inl (List.mem_map.mpr ⟨r, h, rfl⟩)))))))))
      · exact .inr (.inr (.inr (.inr (.inr (.inr (.inr (.inl (.inr (newEnts_in h).2))))))))
    · exact .inr (.inr (.inr (.inr (.inr (.inr (.inr (.inr (.inr (List.mem_append_left _ (List.mem_append_left _ h))))))))))
    · exact .inr (.inr (.inr (.inr (.inr (.inr (.inr (.inr (.inr (List.mem_append_left _ (List.mem_append_right _ h))))))))))
    · exact .inr (.inr (.inr (.inr (.inr (.inr (.inr (.inr (.inr (List.mem_append_right _ (List.mem_append_left _ h))))))))))
    · exact .inr (.inr (.inr (.inr (.inr (.inr (.inr (.inl (.inl h))))))))
    · obtain ⟨r, hr, rfl⟩ := List.mem_map.mp (show p ∈ instEnts a.new from h)
      exact .inr (.inr (.inr (.inr (.inr (.inr (.inr (.inl (.inr (newEnts_in hr).1))))))))
    · exact .inr (.inr (.inr (.inr (.inr (.inr (.inr (.inr (.inr (List.mem_append_right _ (List.mem_append_right _ h))))))))))
section
variable {prog : Program} {w : World} {p : Program} {loose : List Str} {mean : ExcName → Option Value} {mg mb : Str → Option Value}
  {dp un : Nat} {gdd : Option (List Code)} {cn : Str} {cs : Scope} {a : Addr} {ccd : Value} {cl : List (Str × Addr)} {outer : List Env} {A₀ : Around} {base h₀ : Heap} {L : Addr} {m : Str → Option Value} {s : Shared} {Q E : Value → Shared → Prop}
  (B : Below A₀ base outer h₀) (F : Fr h₀ L s.heap m) (X : (Mine.hd.heap_39 w.params).In h₀) (T : Top p loose mean mg mb h₀) (hk : cs.kind = .function)
include B F X T hk
theorem w_make {i : Nat} {W : WSt} (V : WInv prog w i W) (hi : i ≤ 9) (N : News h₀ L s.heap (W.led w.params))
  (hroom : dp + 8 < recursionLimit) (hunits : un + 80 < cLine)
  (ret : ∀ (W' : WSt) (h' : Heap) (tk' : Nat), WInv prog w (i + 1) W' → W'.b = W.b → W'.wd = W.wd → (∀ p ∈ W.im, p ∈ W'.im) → W'.ex = W.ex → Fr h₀ L h' m → News h₀ L h' (W'.led w.params) → Q (.bool true) { s with heap := h', toks := tk' }) :
  wpAny (model prog w) (ktrTop dp un gdd cn cs L a ccd cl outer) (call (.ref 281) [.ref W.b, .ref W.wd]) Q E s := by
  obtain ⟨fdl, fr, hf⟩ : ∃ fdl fr, W.fds = fdl ++ [fr] := ⟨W.fds.dropLast, W.fds.getLast V.ne, (List.dropLast_concat_getLast V.ne).symm⟩
  have hfr : fr ∈ W.fds := by rw [hf]; simp
  have e2 : (W.fds.map fun r => r.fd) = (fdl.map fun r => r.fd) ++ [fr.fd] := by rw [hf, List.map_append]; rfl
  have hnd := V.nd
  unfold WSt.led at N hnd
  rw [e2] at N hnd
  have him : ∀ p ∈ W.im, p ∈ upEnts w.params W.gr W.ups ++ W.rest w.params := fun p hp => List.mem_append_right _ (List.mem_append_right _ (List.mem_append_left _ hp))
  obtain ⟨q1, q2, q3, q4, q5, q6⟩ := V.fd fr hfr
  obtain ⟨l1, l2, l3⟩ := V.fdk fr hfr
  have hfds := V.fdl
  rw [hf, List.length_append, List.length_singleton] at hfds
  have hfsl := V.fsl
  have hup := V.upl
  have hbs := V.bs fdl.length fr (by rw [hf]; simp)
  refine make_spec (ks := fr.ks) (oxs := fr.oxs) (dxs := fr.xs) B F X T hk N hnd V.box (V.giv.mono him) V.gb V.wdd (him _ V.gri) (by rw [List.length_map]; omega) (him _ q1) q2 (by rw [List.length_map]; omega) (him _ q5) (him _ q6) l1 l2 (him _ q3) q4 (by omega) (by omega)
    (fun r hr => ⟨him _ (V.uin r hr).1, List.mem_append_left _ (List.mem_map.mpr ⟨r, hr, rfl⟩)⟩) (by omega) V.uso hroom hunits ?_
  intro f ws wt a ob' R h' tk' F' N' nd' hus hw2 M S _ hR
  rw [← e2] at N' nd'
  obtain ⟨W', V', b1, b2, b3, b4, N''⟩ := make_inv V hf N' nd' hus hw2 M S hR
  exact ret W' h' tk' V' b1 b2 b3 b4 F' N''
end
-- V3
/-- the closed entries that leave makes, as records -/
theorem closed_recs {P : Params} {st : List (Int × Tok)} {live : List Addr} {val : Addr → Int} (hv : st.map (·.1) = live.map val) :
    ∀ {dn : List UpR} {C : Led}, ClosedAre P st dn C → ∃ cls : List CdU, C = clsEnts P val cls ∧ (cls.map fun c => (c.u, c.d)).length = dn.length ∧ ∀ (k : Nat) r, dn[k]? = some r → ∃ c, cls[k]? = some c ∧ c.u = r.u ∧ c.d = r.d ∧ live[r.i.toNat]? = some c.x
  | [], C, h => by
    cases h
    exact ⟨[], rfl, rfl, fun k r h => by simp at h⟩
  | r :: rs, C, ⟨T, v, t, l', e, h1, h2⟩ => by
    obtain ⟨cls, c1, c2, c3⟩ := closed_recs hv h2
    have e2 : (st.map (·.1))[r.i.toNat]? = some v := by rw [List.getElem?_map, h1]; rfl
    rw [hv] at e2
    obtain ⟨x, hx, rfl⟩ := map_at e2
    refine ⟨⟨r.u, r.d, x, T, t⟩ :: cls, ?_, by simpa using c2, fun k r' hk => ?_⟩
    · rw [e, c1]; rfl
    · cases k with
      | zero => simp at hk; subst hk; exact ⟨_, rfl, rfl, rfl, hx⟩
      | succ k => exact c3 k r' (by simpa using hk)
theorem leave_inv {prog : Program} {w : World} {h₀ : Heap} {L : Addr} {i : Nat} {W : WSt} (V : WInv prog w i W) {fdl : List FdX} {fr : FdX} (hf : W.fds = fdl ++ [fr]) (hne : fdl ≠ []) {stk' : Addr} {dn td : List UpR} {C : Led} {on' : Nat} {h' : Heap}
    (N : News h₀ L h' ((stk', intsL (W.st.take fr.bs.toNat) 0) :: (W.b, W.ob) :: (W.wd, W.owd) :: (W.gd, gdD w.params W.k1 W.k2 stk' W.opn) :: (W.opn, refsL UpR.u td on') :: (W.frs, refsL (fun x : Addr => x) (fdl.map fun r => r.fd) (W.frn + 1)) :: (W.fns, refsL (fun x : Addr => x) (W.fs.map fun f => f.tup) W.fnn) :: (C ++ upEnts w.params W.gr td ++ W.rest w.params)))
    (hu : W.ups = dn ++ td) (hC : ClosedAre w.params W.st dn C) (hdn : ∀ r ∈ dn, fr.bs ≤ r.i) (htd : ∀ r ∈ td.head?, r.i < fr.bs)
    (hlt : ∀ p ∈ (W.b, W.ob) :: (W.wd, W.owd) :: (W.gd, gdD w.params W.k1 W.k2 W.stk W.opn) :: (W.opn, refsL UpR.u W.ups W.on) :: (W.frs, refsL (fun x : Addr => x) (W.fds.map fun r => r.fd) W.frn) :: (W.fns, refsL (fun x : Addr => x) (W.fs.map fun f => f.tup) W.fnn) :: (upEnts w.params W.gr W.ups ++ W.rest w.params), @LT.lt Nat _ p.1 stk') :
    ∃ W' : WSt, WInv prog w (i + 1) W' ∧ W'.b = W.b ∧ W'.wd = W.wd ∧ (∀ p ∈ W.im, p ∈ W'.im) ∧ W'.ex = W.ex ∧ News h₀ L h' (W'.led w.params) := by
  obtain ⟨cls2, c1, c2, c3⟩ := closed_recs (P := w.params) V.stv hC
  rw [List.length_map] at c2
  have c4 : ∀ c ∈ cls2, ∃ r ∈ dn, c.u = r.u ∧ c.d = r.d ∧ W.live[r.i.toNat]? = some c.x := fun c hc => by
    obtain ⟨k, hk⟩ := List.getElem?_of_mem hc
    have hkl := (List.getElem?_eq_some_iff.mp hk).1
    obtain ⟨c', h1, h2, h3, h4⟩ := c3 k _ (List.getElem?_eq_getElem (by omega : k < dn.length))
    rw [hk] at h1; cases h1
    exact ⟨_, List.getElem_mem _, h2, h3, h4⟩
  have hbsv : fr.bs = 3 * (fdl.length : Int) := V.bs fdl.length fr (by rw [hf]; simp)
  have hlive : W.live = (fdl.flatMap fun r => r.xs) ++ fr.xs := by
    unfold WSt.live; rw [hf, List.flatMap_append]; simp
  have hl1 : (fdl.flatMap fun r => r.xs).length = 3 * fdl.length := by
    have e1 := V.live_len
    rw [hlive, List.length_append, hf, List.length_append, List.length_singleton] at e1
    have e2 := (V.fd fr (by rw [hf]; simp)).2.2.2.1
    omega
  generalize hL1 : (fdl.flatMap fun r => r.xs) = live1 at hlive hl1
  have hbn : fr.bs.toNat = live1.length := by omega
  -- the open ones that stay lie below
  have htd' : ∀ r ∈ td, r.i < fr.bs := by
    have hs := V.uso
    rw [hu] at hs
    have hs2 := (List.pairwise_append.mp hs).2.1
    intro r hr
    cases td with
    | nil => cases hr
    | cons y ys =>
      have hy := htd y (by simp)
      rcases List.mem_cons.mp hr with h | h
      · rw [h]; exact hy
      · have := (List.pairwise_cons.mp hs2).1 r h; omega
  have hlow : ∀ (k : Nat) x, k < live1.length → W.live[k]? = some x → live1[k]? = some x := fun k x hk h => by
    rw [hlive, List.getElem?_append_left hk] at h; exact h
  have hup' : ∀ (k : Nat) x, live1[k]? = some x → W.live[k]? = some x := fun k x h => by
    rw [hlive, List.getElem?_append_left (List.getElem?_eq_some_iff.mp h).1]; exact h
  have hc2l : ∀ c ∈ cls2, c.x ∈ W.live ∧ c.x ∉ live1 := fun c hc => by
    obtain ⟨r, hr, _, _, e⟩ := c4 c hc
    refine ⟨List.mem_of_getElem? e, fun hm => ?_⟩
    obtain ⟨k, hk⟩ := List.getElem?_of_mem hm
    have hkl := (List.getElem?_eq_some_iff.mp hk).1
    have := nodup_get V.lnd (hup' k _ hk) e
    have := hdn r hr
    omega
  have hlk : ∀ {u x : Addr}, Lnk W.ups W.cls W.live u x → Lnk td (W.cls ++ cls2) live1 u x := by
    rintro u x (⟨r, hr, e1, e2⟩ | ⟨c, hc, e1, e2⟩)
    · rw [hu] at hr
      rcases List.mem_append.mp hr with h | h
      · obtain ⟨k, hk⟩ := List.getElem?_of_mem h
        obtain ⟨c, q1, q2, q3, q4⟩ := c3 k r hk
        refine .inr ⟨c, List.mem_append_right _ (List.mem_of_getElem? q1), q2.trans e1, ?_⟩
        rw [e2] at q4; exact (Option.some.inj q4).symm
      · refine .inl ⟨r, h, e1, hlow _ _ ?_ e2⟩
        have := htd' r h
        have := (V.uin r (by rw [hu]; exact List.mem_append_right _ h)).2.1
        omega
    · exact .inr ⟨c, List.mem_append_left _ hc, e1, e2⟩
  have hlks : ∀ {us xs : List Addr}, Lnks W.ups W.cls W.live us xs → Lnks td (W.cls ++ cls2) live1 us xs := fun h => ⟨h.1, h.2.1, fun j u x h1 h2 => hlk (h.2.2 j u x h1 h2)⟩
  let W' : WSt := { W with stk := stk', st := W.st.take fr.bs.toNat, sn := 0, ups := td, on := on', frn := W.frn + 1, fds := fdl, cls := W.cls ++ cls2 }
  have hW'l : W'.live = live1 := hL1
  have hrest : W'.rest w.params = cellEnts W.val W.idn W.cs ++ (clsEnts w.params W.val W.cls ++ C) ++ (W.im ++ W.ex) := by
    show cellEnts W.val W.idn W.cs ++ clsEnts w.params W.val (W.cls ++ cls2) ++ (W.im ++ W.ex) = _
    rw [c1]; unfold clsEnts; rw [List.map_append]
  have hCf := hC.map_fst
  have hnd := V.nd
  unfold WSt.led WSt.rest at hnd
  have hmem : ∀ r ∈ fdl, r ∈ W.fds := fun r hr => by rw [hf]; exact List.mem_append_left _ hr
  have hstl := V.st_len
  refine ⟨W', ?_, rfl, rfl, fun p hp => hp, rfl, ?_⟩
  · exact {
      nd := by
        have hnd2 : ((((W.b, W.ob) :: (W.wd, W.owd) :: (W.gd, gdD w.params W.k1 W.k2 W.stk W.opn) :: (W.opn, refsL UpR.u W.ups W.on) :: (W.frs, refsL (fun x : Addr => x) (W.fds.map fun r => r.fd) W.frn) :: (W.fns, refsL (fun x : Addr => x) (W.fs.map fun f => f.tup) W.fnn) :: (upEnts w.params W.gr W.ups ++ W.rest w.params)) : Led).map (·.1)).Nodup := by
          refine List.Nodup.sublist ?_ V.nd
          unfold WSt.led
          simp only [List.map_cons]
          exact .cons_cons _ (.cons_cons _ (.cons_cons _ (.cons _ (List.Sublist.refl _))))
        have hnd3 := nd_cons (a := stk') (o := W.ob) (fun p hp => Nat.ne_of_lt (hlt p hp)) hnd2
        refine (List.Perm.nodup_iff (List.perm_iff_count.mpr fun a => ?_)).mp hnd3
        unfold WSt.led
        rw [hrest]
        unfold WSt.rest
        simp only [List.map_cons, List.map_append, List.count_cons, List.count_append, upEnts_fst, hCf, hu, W']
        omega
      gb := V.gb
      box := V.box
      giv := V.giv
      wdd := V.wdd
      m0 := V.m0
      m1 := by have := V.m1; show W.made ≤ 3 + 3 * ((i + 1 : Nat) : Int); omega
      gri := V.gri
      ne := hne
      fdl := by have := V.fdl; rw [hf, List.length_append] at this; show fdl.length ≤ _; omega
      fsl := by have := V.fsl; show W.fs.length ≤ _; omega
      upl := by have := V.upl; rw [hu, List.length_append] at this; show td.length ≤ _; omega
      fd := fun r hr => V.fd r (hmem r hr)
      fdk := fun r hr => by rw [hW'l]; exact hlks (V.fdk r (hmem r hr))
      bs := fun k r hr => V.bs k r (by
        have hk := (List.getElem?_eq_some_iff.mp hr).1
        rw [hf, List.getElem?_append_left hk]; exact hr)
      fn := V.fn
      fnk := fun f hff => by rw [hW'l]; exact hlks (V.fnk f hff)
      lnd := by
        have := V.lnd
        rw [hlive] at this
        rw [hW'l]; exact (List.nodup_append.mp this).1
      lcs := fun x hx => by
        rw [hW'l] at hx
        exact V.lcs x (by rw [hlive]; exact List.mem_append_left _ hx)
      cid := V.cid
      inj := V.inj
      stv := by
        rw [hW'l]
        show (W.st.take fr.bs.toNat).map (·.1) = live1.map W.val
        rw [List.map_take, V.stv, hlive, List.map_append, hbn]
        exact List.take_left' (by simp)
      uso := by
        have hs := V.uso
        rw [hu] at hs
        exact (List.pairwise_append.mp hs).2.1
      uin := fun r hr => by
        obtain ⟨h1, h2, h3⟩ := V.uin r (by rw [hu]; exact List.mem_append_right _ hr)
        refine ⟨h1, h2, ?_⟩
        rw [hW'l]
        have := htd' r hr
        omega
      ufn := fun r hr => by
        obtain ⟨f, hff, x, hx, e⟩ := V.ufn r (by rw [hu]; exact List.mem_append_right _ hr)
        refine ⟨f, hff, x, hx, ?_⟩
        rw [hW'l]
        refine hlow _ _ ?_ e
        have := htd' r hr
        have := (V.uin r (by rw [hu]; exact List.mem_append_right _ hr)).2.1
        omega
      cin := fun c hc => by
        rw [hW'l]
        rcases List.mem_append.mp hc with h | h
        · obtain ⟨h1, h2, h3⟩ := V.cin c h
          exact ⟨h1, fun hm => h2 (by rw [hlive]; exact List.mem_append_left _ hm), h3⟩
        · obtain ⟨r, hr, q1, q2, q3⟩ := c4 c h
          obtain ⟨h1, h2⟩ := hc2l c h
          refine ⟨?_, h2, V.lcs _ h1⟩
          rw [q1, q2]
          exact (V.uin r (by rw [hu]; exact List.mem_append_left _ hr)).1
      cnd := by
        show ((W.cls ++ cls2).map (·.x)).Nodup
        rw [List.map_append]
        refine List.nodup_append.mpr ⟨V.cnd, ?_, fun x hx y hy e => ?_⟩
        · rw [List.nodup_iff_pairwise_ne, List.pairwise_map]
          rw [List.pairwise_iff_getElem]
          intro k1 k2 h1 h2 hlt2 e
          have hs := V.uso
          rw [hu] at hs
          have hs1 := List.pairwise_iff_getElem.mp (List.pairwise_append.mp hs).1 k1 k2 (by omega) (by omega) hlt2
          obtain ⟨d1, p1, _, _, p4⟩ := c3 k1 _ (List.getElem?_eq_getElem (by omega : k1 < dn.length))
          obtain ⟨d2, r1, _, _, r4⟩ := c3 k2 _ (List.getElem?_eq_getElem (by omega : k2 < dn.length))
          rw [List.getElem?_eq_getElem h1] at p1
          rw [List.getElem?_eq_getElem h2] at r1
          cases p1; cases r1
          rw [e] at p4
          have := nodup_get V.lnd p4 r4
          have z1 := (V.uin dn[k1] (by rw [hu]; exact List.mem_append_left _ (List.getElem_mem _))).2.1
          have z2 := (V.uin dn[k2] (by rw [hu]; exact List.mem_append_left _ (List.getElem_mem _))).2.1
          omega
        · obtain ⟨c, hc, rfl⟩ := List.mem_map.mp hx
          obtain ⟨c', hc', e'⟩ := List.mem_map.mp hy
          subst e
          exact (V.cin c hc).2.1 (e' ▸ (hc2l c' hc').1) }
  · unfold WSt.led
    rw [hrest]
    refine news_sub N fun p hp => ?_
    unfold WSt.rest
    simp only [List.mem_cons, List.mem_append, W'] at hp ⊢
    rcases hp with h | h | h | h | h | h | h | h | (h | h | h) | h | h <;> simp [h]
theorem WInv.next {prog : Program} {w : World} {i : Nat} {W : WSt} (V : WInv prog w i W) : WInv prog w (i + 1) W :=
  { V with
    m1 := by have := V.m1; show W.made ≤ 3 + 3 * ((i + 1 : Nat) : Int); omega
    fdl := by have := V.fdl; omega
    fsl := by have := V.fsl; omega
    upl := by have := V.upl; omega }
theorem WInv.top {prog : Program} {w : World} {i : Nat} {W : WSt} (V : WInv prog w i W) : ∃ fdl fr, W.fds = fdl ++ [fr] := ⟨W.fds.dropLast, W.fds.getLast V.ne, (List.dropLast_concat_getLast V.ne).symm⟩
section
variable {prog : Program} {w : World} {p : Program} {loose : List Str} {mean : ExcName → Option Value} {mg mb : Str → Option Value}
  {dp un : Nat} {gdd : Option (List Code)} {cn : Str} {cs : Scope} {a : Addr} {ccd : Value} {cl : List (Str × Addr)} {outer : List Env} {A₀ : Around} {base h₀ : Heap} {L : Addr} {m : Str → Option Value} {s : Shared} {Q E : Value → Shared → Prop}
  (B : Below A₀ base outer h₀) (F : Fr h₀ L s.heap m) (X : (Mine.hd.heap_39 w.params).In h₀) (T : Top p loose mean mg mb h₀) (hk : cs.kind = .function)
include B F X T hk
theorem w_leave {i : Nat} {W : WSt} (V : WInv prog w i W) (hi : i ≤ 9) (N : News h₀ L s.heap (W.led w.params))
  (hroom : dp + 6 < recursionLimit) (hunits : un + 60 < cLine)
  (ret : ∀ (W' : WSt) (h' : Heap) (tk' : Nat), WInv prog w (i + 1) W' → W'.b = W.b → W'.wd = W.wd → (∀ p ∈ W.im, p ∈ W'.im) → W'.ex = W.ex → Fr h₀ L h' m → News h₀ L h' (W'.led w.params) → Q .none { s with heap := h', toks := tk' }) :
  wpAny (model prog w) (ktrTop dp un gdd cn cs L a ccd cl outer) (call (.ref 293) [.ref W.wd]) Q E s := by
  obtain ⟨fdl, fr, hf⟩ := V.top
  have e1 : W.led w.params = (W.b, W.ob) :: (W.wd, W.owd) :: (W.gd, gdD w.params W.k1 W.k2 W.stk W.opn) :: (W.stk, intsL W.st W.sn) :: (W.opn, refsL UpR.u W.ups W.on) :: (W.frs, refsL (fun x : Addr => x) ((fdl.map fun r => r.fd) ++ [fr.fd]) W.frn) :: (W.fns, refsL (fun x : Addr => x) (W.fs.map fun f => f.tup) W.fnn) :: (upEnts w.params W.gr W.ups ++ W.rest w.params) := by
    unfold WSt.led; rw [hf, List.map_append]; rfl
  have hnd := V.nd
  have N0 := N
  rw [e1] at N hnd
  have him : ∀ p ∈ W.im, p ∈ W.rest w.params := fun p hp => List.mem_append_right _ (List.mem_append_left _ hp)
  obtain ⟨q1, q2, q3, q4, q5, q6⟩ := V.fd fr (by rw [hf]; simp)
  have hfds := V.fdl
  rw [hf, List.length_append, List.length_singleton] at hfds
  have hll := V.live_len
  rw [hf, List.length_append, List.length_singleton] at hll
  have hst := V.st_len
  have hup := V.upl
  have hbs := V.bs fdl.length fr (by rw [hf]; simp)
  refine leave_spec B F X T hk N hnd V.wdd (him _ q1) q2 (him _ V.gri) (by omega) (by rw [List.length_map]; omega) (by omega) (by omega) (by omega) (fun r hr => ?_) hroom hunits ?_ ?_
  · obtain ⟨h1, h2, h3⟩ := V.uin r hr
    exact ⟨him _ h1, h2, by rw [hst]; exact h3⟩
  · intro h' tk' _ F' N'
    rw [← e1] at N'
    exact ret W h' tk' V.next rfl rfl (fun p hp => hp) rfl F' N'
  · intro stk' dn td C on' h' tk' hne F' N' hu hC hdn htd hlt
    have hlt' : ∀ p ∈ (W.b, W.ob) :: (W.wd, W.owd) :: (W.gd, gdD w.params W.k1 W.k2 W.stk W.opn) :: (W.opn, refsL UpR.u W.ups W.on) :: (W.frs, refsL (fun x : Addr => x) (W.fds.map fun r => r.fd) W.frn) :: (W.fns, refsL (fun x : Addr => x) (W.fs.map fun f => f.tup) W.fnn) :: (upEnts w.params W.gr W.ups ++ W.rest w.params), @LT.lt Nat _ p.1 stk' := by
      rw [hf, List.map_append]; exact hlt
    obtain ⟨W', V', b1, b2, b3, b4, N''⟩ := leave_inv V hf (fun e => hne (by rw [e]; rfl)) N' hu hC hdn htd hlt'
    exact ret W' h' tk' V' b1 b2 b3 b4 F' N''
end
-- V4
def updV (val : Addr → Int) (x : Addr) (v : Int) : Addr → Int := fun y => if y = x then v else val y
def updC (x : Addr) (tv : Tok) (c : ClR) : ClR := if c.x = x then { c with tv := tv } else c
def updK (x : Addr) (tv : Tok) (c : CdU) : CdU := if c.x = x then { c with t := tv } else c
theorem updC_x {x : Addr} {tv : Tok} {c : ClR} : (updC x tv c).x = c.x := by unfold updC; split <;> rfl
theorem updK_x {x : Addr} {tv : Tok} {c : CdU} : (updK x tv c).x = c.x := by unfold updK; split <;> rfl
theorem updK_u {x : Addr} {tv : Tok} {c : CdU} : (updK x tv c).u = c.u := by unfold updK; split <;> rfl
theorem updK_d {x : Addr} {tv : Tok} {c : CdU} : (updK x tv c).d = c.d := by unfold updK; split <;> rfl
def WSt.upd (W : WSt) (ob' : Obj) (st' : List (Int × Tok)) (x : Addr) (v : Int) (tv : Tok) : WSt :=
  { W with ob := ob', st := st', cs := W.cs.map (updC x tv), cls := W.cls.map (updK x tv), val := updV W.val x v }
theorem upd_led_fst {P : Params} {W : WSt} {ob' : Obj} {st' : List (Int × Tok)} {x : Addr} {v : Int} {tv : Tok} : ((W.upd ob' st' x v tv).led P).map (·.1) = (W.led P).map (·.1) := by
  unfold WSt.led WSt.rest WSt.upd
  simp only [List.map_cons, List.map_append, cellEnts_fst, clsEnts_fst, upEnts_fst, List.map_map]
  have e1 : (ClR.x ∘ updC x tv) = ClR.x := funext fun c => updC_x
  have e2 : (CdU.d ∘ updK x tv) = CdU.d := funext fun c => updK_d
  have e3 : List.map ((fun c : ClR => c.x) ∘ updC x tv) W.cs = List.map (fun c => c.x) W.cs := by rw [e1]
  have e4 : List.map ((fun c : CdU => c.d) ∘ updK x tv) W.cls = List.map (fun c => c.d) W.cls := by rw [e2]
  rw [e3, e4]
theorem Lnk.upd {ups : List UpR} {cls : List CdU} {live : List Addr} {u y x : Addr} {tv : Tok} (h : Lnk ups cls live u y) : Lnk ups (cls.map (updK x tv)) live u y := by
  rcases h with h | ⟨c, hc, e1, e2⟩
  · exact .inl h
  · exact .inr ⟨_, List.mem_map.mpr ⟨c, hc, rfl⟩, updK_u.trans e1, updK_x.trans e2⟩
theorem Lnks.upd {ups : List UpR} {cls : List CdU} {live us xs : List Addr} {x : Addr} {tv : Tok} (h : Lnks ups cls live us xs) : Lnks ups (cls.map (updK x tv)) live us xs := ⟨h.1, h.2.1, fun j u y h1 h2 => (h.2.2 j u y h1 h2).upd⟩
theorem upd_inv {prog : Program} {w : World} {i : Nat} {W : WSt} (V : WInv prog w i W) {ob' : Obj} {st' : List (Int × Tok)} {x : Addr} {v : Int} {tv : Tok} (hb : BoxOk W.g ob') (hst : st'.map (·.1) = W.live.map (updV W.val x v)) :
    WInv prog w (i + 1) (W.upd ob' st' x v tv) :=
  let V' := V.next
  { nd := by rw [upd_led_fst]; exact V.nd
    gb := V.gb, box := hb, giv := V.giv, wdd := V.wdd, m0 := V.m0, m1 := V'.m1, gri := V.gri, ne := V.ne, fdl := V'.fdl, fsl := V'.fsl, upl := V'.upl, fd := V.fd
    fdk := fun r hr => (V.fdk r hr).upd
    bs := V.bs, fn := V.fn
    fnk := fun f hf => (V.fnk f hf).upd
    lnd := V.lnd
    lcs := fun y hy => by
      obtain ⟨c, hc, e⟩ := V.lcs y hy
      exact ⟨_, List.mem_map.mpr ⟨c, hc, rfl⟩, updC_x.trans e⟩
    cid := fun c hc => by
      obtain ⟨c', hc', rfl⟩ := List.mem_map.mp hc
      rw [updC_x]; exact V.cid c' hc'
    inj := fun c hc c2 hc2 e => by
      obtain ⟨c', hc', rfl⟩ := List.mem_map.mp hc
      obtain ⟨c2', hc2', rfl⟩ := List.mem_map.mp hc2
      rw [updC_x, updC_x] at e ⊢
      exact V.inj c' hc' c2' hc2' e
    stv := hst
    uso := V.uso, uin := V.uin, ufn := V.ufn
    cin := fun c hc => by
      obtain ⟨c', hc', rfl⟩ := List.mem_map.mp hc
      rw [updK_u, updK_d, updK_x]
      obtain ⟨h1, h2, e, he, q⟩ := V.cin c' hc'
      exact ⟨h1, h2, _, List.mem_map.mpr ⟨e, he, rfl⟩, updC_x.trans q⟩
    cnd := by
      show ((W.cls.map (updK x tv)).map (·.x)).Nodup
      rw [List.map_map]
      have e : (CdU.x ∘ updK x tv) = CdU.x := funext fun c => updK_x
      have e3 : List.map ((fun c : CdU => c.x) ∘ updK x tv) W.cls = List.map (fun c => c.x) W.cls := by rw [e]
      rw [e3]; exact V.cnd }
/-- where the entries of the changed world come from -/
theorem upd_mem {prog : Program} {w : World} {i : Nat} {W : WSt} (V : WInv prog w i W) {ob' : Obj} {st' : List (Int × Tok)} {x : Addr} {v : Int} {tv : Tok} {c0 : ClR} (hc0 : c0 ∈ W.cs) (hx : c0.x = x) {p : Addr × Obj} (hp : p ∈ (W.upd ob' st' x v tv).led w.params) :
    (p = (x, cellO v tv (W.idn x) c0.ti c0.n)) ∨ (∃ c ∈ W.cls, c.x = x ∧ p = (c.d, upD w.params c.T .none (-1) (.int v tv))) ∨
    (p.1 ≠ x ∧ (∀ c ∈ W.cls, c.x = x → p.1 ≠ c.d) ∧ p ∈ (W.b, ob') :: (W.wd, W.owd) :: (W.gd, gdD w.params W.k1 W.k2 W.stk W.opn) :: (W.stk, intsL st' W.sn) :: (W.opn, refsL UpR.u W.ups W.on) :: (W.frs, refsL (fun x : Addr => x) (W.fds.map fun r => r.fd) W.frn) :: (W.fns, refsL (fun x : Addr => x) (W.fs.map fun f => f.tup) W.fnn) :: (upEnts w.params W.gr W.ups ++ W.rest w.params)) := by
  have hnd := V.nd
  unfold WSt.led at hnd
  obtain ⟨S, o1, o2, o3, o4, o5, o6, o7⟩ := seven_of hnd
  have hr : (((upEnts w.params W.gr W.ups ++ W.rest w.params)).map (·.1)).Nodup := by
    simp only [List.map_cons, List.nodup_cons] at hnd
    exact hnd.2.2.2.2.2.2.2
  unfold WSt.rest at hr
  rw [List.map_append, List.map_append, List.map_append, upEnts_fst, cellEnts_fst, clsEnts_fst] at hr
  obtain ⟨-, hr2, hr3⟩ := List.nodup_append.mp hr
  obtain ⟨hr4, -, hr5⟩ := List.nodup_append.mp hr2
  obtain ⟨hr6, hr7, hr8⟩ := List.nodup_append.mp hr4
  have hxm : x ∈ W.cs.map (·.x) := List.mem_map.mpr ⟨c0, hc0, hx⟩
  have hxr : (x, cellO (W.val x) c0.tv (W.idn x) c0.ti c0.n) ∈ upEnts w.params W.gr W.ups ++ W.rest w.params := by
    refine List.mem_append_right _ (List.mem_append_left _ (List.mem_append_left _ (List.mem_map.mpr ⟨c0, hc0, ?_⟩)))
    rw [hx]
  have hdr : ∀ c ∈ W.cls, (c.d, upD w.params c.T .none (-1) (.int (W.val c.x) c.t)) ∈ upEnts w.params W.gr W.ups ++ W.rest w.params := fun c hc =>
    List.mem_append_right _ (List.mem_append_left _ (List.mem_append_right _ (List.mem_map.mpr ⟨c, hc, rfl⟩)))
  have seven : ∀ (y : Addr), OffOf (upEnts w.params W.gr W.ups ++ W.rest w.params) y → y ≠ x ∧ ∀ c ∈ W.cls, c.x = x → y ≠ c.d := fun y ho => ⟨fun e => ho _ hxr e.symm, fun c hc _ e => ho _ (hdr c hc) e.symm⟩
  unfold WSt.led WSt.rest at hp
  simp only [List.mem_cons, List.mem_append] at hp
  rcases hp with h | h | h | h | h | h | h | h | (h | h) | h | h
  · have e : p = (W.b, ob') := h
    subst e; exact .inr (.inr ⟨(seven _ o1).1, (seven _ o1).2, by simp⟩)
  · have e : p = (W.wd, W.owd) := h
    subst e; exact .inr (.inr ⟨(seven _ o2).1, (seven _ o2).2, by simp⟩)
  · have e : p = (W.gd, gdD w.params W.k1 W.k2 W.stk W.opn) := h
    subst e; exact .inr (.inr ⟨(seven _ o3).1, (seven _ o3).2, by simp⟩)
  · have e : p = (W.stk, intsL st' W.sn) := h
    subst e; exact .inr (.inr ⟨(seven _ o4).1, (seven _ o4).2, by simp⟩)
  · have e : p = (W.opn, refsL UpR.u W.ups W.on) := h
    subst e; exact .inr (.inr ⟨(seven _ o5).1, (seven _ o5).2, by simp⟩)
  · have e : p = (W.frs, refsL (fun x : Addr => x) (W.fds.map fun r => r.fd) W.frn) := h
    subst e; exact .inr (.inr ⟨(seven _ o6).1, (seven _ o6).2, by simp⟩)
  · have e : p = (W.fns, refsL (fun x : Addr => x) (W.fs.map fun f => f.tup) W.fnn) := h
    subst e; exact .inr (.inr ⟨(seven _ o7).1, (seven _ o7).2, by simp⟩)
  · obtain ⟨r, hr9, rfl⟩ := List.mem_map.mp (show p ∈ upEnts w.params W.gr W.ups from h)
    have hrd : r.d ∈ W.ups.map (·.d) := List.mem_map.mpr ⟨r, hr9, rfl⟩
    refine .inr (.inr ⟨hr3 _ hrd _ (List.mem_append_left _ (List.mem_append_left _ hxm)), fun c hc _ => hr3 _ hrd _ (List.mem_append_left _ (List.mem_append_right _ (List.mem_map.mpr ⟨c, hc, rfl⟩))), ?_⟩)
    simp only [List.mem_cons, List.mem_append]
    exact .inr (.inr (.inr (.inr (.inr (.inr (.inr (.inl (List.mem_map.mpr ⟨r, hr9, rfl⟩))))))))
  · obtain ⟨c', hc', rfl⟩ := List.mem_map.mp (show p ∈ cellEnts (updV W.val x v) W.idn (W.cs.map (updC x tv)) from h)
    obtain ⟨c, hc, rfl⟩ := List.mem_map.mp hc'
    by_cases hcx : c.x = x
    · have : c = c0 := by
        obtain ⟨k, hk⟩ := List.getElem?_of_mem hc
        obtain ⟨k0, hk0⟩ := List.getElem?_of_mem hc0
        have e1 : (W.cs.map (·.x))[k]? = some x := by rw [List.getElem?_map, hk]; exact congrArg some hcx
        have e2 : (W.cs.map (·.x))[k0]? = some x := by rw [List.getElem?_map, hk0]; exact congrArg some hx
        have := nodup_get hr6 e1 e2
        subst this
        rw [hk] at hk0; exact Option.some.inj hk0
      subst this
      refine .inl ?_
      unfold updC updV
      rw [if_pos hcx]
      dsimp only
      rw [if_pos hcx, hcx]
    · refine .inr (.inr ?_)
      unfold updC updV
      rw [if_neg hcx, if_neg hcx]
      refine ⟨hcx, fun k hk _ => hr8 _ (List.mem_map.mpr ⟨c, hc, rfl⟩) _ (List.mem_map.mpr ⟨k, hk, rfl⟩), ?_⟩
      unfold WSt.rest
      simp only [List.mem_cons, List.mem_append]
      exact .inr (.inr (.inr (.inr (.inr (.inr (.inr (.inr (.inl (.inl (List.mem_map.mpr ⟨c, hc, rfl⟩))))))))))
  · obtain ⟨c', hc', rfl⟩ := List.mem_map.mp (show p ∈ clsEnts w.params (updV W.val x v) (W.cls.map (updK x tv)) from h)
    obtain ⟨c, hc, rfl⟩ := List.mem_map.mp hc'
    by_cases hcx : c.x = x
    · refine .inr (.inl ⟨c, hc, hcx, ?_⟩)
      unfold updK updV
      rw [if_pos hcx]
      dsimp only
      rw [if_pos hcx]
    · refine .inr (.inr ?_)
      unfold updK updV
      rw [if_neg hcx, if_neg hcx]
      have hcd : c.d ∈ W.cls.map (·.d) := List.mem_map.mpr ⟨c, hc, rfl⟩
      refine ⟨fun e => hr8 _ hxm _ hcd e.symm, fun k hk hkx e => hcx ?_, ?_⟩
      · obtain ⟨j, hj⟩ := List.getElem?_of_mem hc
        obtain ⟨j2, hj2⟩ := List.getElem?_of_mem hk
        have e1 : (W.cls.map (·.d))[j]? = some c.d := by rw [List.getElem?_map, hj]; rfl
        have e2 : (W.cls.map (·.d))[j2]? = some c.d := by rw [List.getElem?_map, hj2]; exact congrArg some e.symm
        have := nodup_get hr7 e1 e2
        subst this
        rw [hj] at hj2
        rw [Option.some.inj hj2]; exact hkx
      · unfold WSt.rest
        simp only [List.mem_cons, List.mem_append]
        exact .inr (.inr (.inr (.inr (.inr (.inr (.inr (.inr (.inl (.inr (List.mem_map.mpr ⟨c, hc, rfl⟩))))))))))
  · have hpm : p ∈ W.im ++ W.ex := List.mem_append_left _ h
    refine .inr (.inr ⟨fun e => hr5 _ (List.mem_append_left _ hxm) _ (List.mem_map.mpr ⟨p, hpm, rfl⟩) e.symm, fun c hc _ e => hr5 _ (List.mem_append_right _ (List.mem_map.mpr ⟨c, hc, rfl⟩)) _ (List.mem_map.mpr ⟨p, hpm, rfl⟩) e.symm, ?_⟩)
    unfold WSt.rest
    simp only [List.mem_cons, List.mem_append]
    exact .inr (.inr (.inr (.inr (.inr (.inr (.inr (.inr (.inr (List.mem_append.mp hpm)))))))))
  · have hpm : p ∈ W.im ++ W.ex := List.mem_append_right _ h
    refine .inr (.inr ⟨fun e => hr5 _ (List.mem_append_left _ hxm) _ (List.mem_map.mpr ⟨p, hpm, rfl⟩) e.symm, fun c hc _ e => hr5 _ (List.mem_append_right _ (List.mem_map.mpr ⟨c, hc, rfl⟩)) _ (List.mem_map.mpr ⟨p, hpm, rfl⟩) e.symm, ?_⟩)
    unfold WSt.rest
    simp only [List.mem_cons, List.mem_append]
    exact .inr (.inr (.inr (.inr (.inr (.inr (.inr (.inr (.inr (List.mem_append.mp hpm)))))))))
theorem set_val {val : Addr → Int} {v : Int} : ∀ {live : List Addr} {k : Nat} {x : Addr}, live.Nodup → live[k]? = some x → (live.map val).set k v = live.map (updV val x v)
  | [], k, x, _, h => by simp at h
  | y :: l, 0, x, hn, h => by
    simp at h; subst h
    rw [List.map_cons, List.map_cons, List.set_cons_zero]
    congr 1
    · unfold updV; rw [if_pos rfl]
    · refine List.map_congr_left fun z hz => ?_
      unfold updV
      rw [if_neg]
      rintro rfl
      exact (List.nodup_cons.mp hn).1 hz
  | y :: l, k + 1, x, hn, h => by
    have h' : l[k]? = some x := by simpa using h
    rw [List.map_cons, List.map_cons, List.set_cons_succ, set_val (List.nodup_cons.mp hn).2 h']
    congr 1
    unfold updV
    rw [if_neg]
    rintro rfl
    exact (List.nodup_cons.mp hn).1 (List.mem_of_getElem? h')
section
variable {prog : Program} {w : World} {p : Program} {loose : List Str} {mean : ExcName → Option Value} {mg mb : Str → Option Value}
  {dp un : Nat} {gdd : Option (List Code)} {cn : Str} {cs : Scope} {a : Addr} {ccd : Value} {cl : List (Str × Addr)} {outer : List Env} {A₀ : Around} {base h₀ : Heap} {L : Addr} {m : Str → Option Value} {s : Shared} {Q E : Value → Shared → Prop}
theorem draw_spec0' (B : Below A₀ base outer h₀) (F : Fr h₀ L s.heap m) (X : (Mine.hd.heap_39 w.params).In h₀) (T : Top p loose mean mg mb h₀) (hk : cs.kind = .function) {rest : Led} {b g : Addr} {ob : Obj} {many : Int} {tm : Tok}
  (N : News h₀ L s.heap ((b, ob) :: rest)) (hr : ∀ p ∈ rest, p.1 ≠ b) (hb : BoxOk g ob) (hg : GivenOk g rest) (hne : @Ne Nat g b) (hm : 0 < many) (hm' : many < 2000)
  (hroom : dp + 1 < recursionLimit) (hunits : un + 8 < cLine)
  (ret : ∀ (r : Int) (tr : Tok) (ob' : Obj) (h' : Heap) (tk' : Nat), Fr h₀ L h' m → News h₀ L h' ((b, ob') :: rest) → BoxOk g ob' → 0 ≤ r → r < many → Q (.int r tr) { s with heap := h', toks := tk' }) :
  wpAny (model prog w) (ktrTop dp un gdd cn cs L a ccd cl outer) (call (.ref 267) [.ref b, .int many tm]) Q E s := by
  obtain ⟨pos, tp, seed, ts, bn, rfl, h1, h2, h3⟩ := hb
  obtain ⟨gv, gs, gn, q1, q2, q3⟩ := hg
  exact draw_spec0 B F X T hk N q1 hr q2 q3 h1 h2 h3 hm hm' hroom hunits fun r pos' seed' tr tp' ts' bn' h' tk' F' N' a1 a2 a3 a4 a5 =>
    ret r tr _ h' tk' F' N' ⟨pos', tp', seed', ts', bn', rfl, a3, a4, a5⟩ a1 a2
end
theorem cellO_inj {v v' id id' : Int} {tv tv' ti ti' : Tok} {n n' : Nat} (h : cellO v tv id ti n = cellO v' tv' id' ti' n') : id = id' ∧ ti = ti' ∧ n = n' := by
  have e := congrArg Obj.data h
  injection e with e1 e2
  have e3 : [Value.int v tv, .int id ti] = [Value.int v' tv', .int id' ti'] := by injection e1
  injection e3 with _ e4
  injection e4 with e5 _
  injection e5 with e6 e7
  exact ⟨e6, e7, e2⟩
theorem upD_new {P : Params} {T T' : UT} {v v' : Int} {t t' : Tok} {x : Int} {tx : Tok} (h : upD P T .none (-1) (.int v t) = upD P T' .none (-1) (.int v' t')) : upD P T .none (-1) (.int x tx) = upD P T' .none (-1) (.int x tx) := by
  have hT : T = T' := by
    have e := congrArg Obj.data h
    injection e with e1 _
    have e2 := congrArg Array.toList e1
    simp only [List.cons.injEq, DictEntry.mk.injEq, Value.str.injEq, Value.int.injEq, true_and, and_true] at e2
    obtain ⟨⟨a1, a2⟩, ⟨b1, b2⟩, ⟨c1, c2⟩, d1, ⟨e1, e2⟩, f1, _⟩ := e2
    cases T; cases T'; simp_all
  rw [hT]
section
variable {prog : Program} {w : World} {p : Program} {loose : List Str} {mean : ExcName → Option Value} {mg mb : Str → Option Value}
  {dp un : Nat} {gdd : Option (List Code)} {cn : Str} {cs : Scope} {a : Addr} {ccd : Value} {cl : List (Str × Addr)} {outer : List Env} {A₀ : Around} {base h₀ : Heap} {L : Addr} {m : Str → Option Value} {s : Shared} {Q E : Value → Shared → Prop}
  (B : Below A₀ base outer h₀) (F : Fr h₀ L s.heap m) (X : (Mine.hd.heap_39 w.params).In h₀) (T : Top p loose mean mg mb h₀) (hk : cs.kind = .function)
include B F X T hk
theorem w_writep {i : Nat} {W : WSt} (V : WInv prog w i W) (hi : i ≤ 9) (N : News h₀ L s.heap (W.led w.params))
  (hroom : dp + 6 < recursionLimit) (hunits : un + 60 < cLine)
  (ret : ∀ (W' : WSt) (h' : Heap) (tk' : Nat), WInv prog w (i + 1) W' → W'.b = W.b → W'.wd = W.wd → (∀ p ∈ W.im, p ∈ W'.im) → W'.ex = W.ex → Fr h₀ L h' m → News h₀ L h' (W'.led w.params) → Q .none { s with heap := h', toks := tk' }) :
  wpAny (model prog w) (ktrTop dp un gdd cn cs L a ccd cl outer) (call (.ref 298) [.ref W.b, .ref W.wd, .bool false]) Q E s := by
  obtain ⟨fdl, fr, hf⟩ := V.top
  have hfr : fr ∈ W.fds := by rw [hf]; simp
  have e1 : W.led w.params = (W.b, W.ob) :: (W.wd, W.owd) :: (W.gd, gdD w.params W.k1 W.k2 W.stk W.opn) :: (W.stk, intsL W.st W.sn) :: (W.opn, refsL UpR.u W.ups W.on) :: (W.frs, refsL (fun x : Addr => x) ((fdl.map fun r => r.fd) ++ [fr.fd]) W.frn) :: (W.fns, refsL (fun x : Addr => x) (W.fs.map fun f => f.tup) W.fnn) :: (upEnts w.params W.gr W.ups ++ W.rest w.params) := by
    unfold WSt.led; rw [hf, List.map_append]; rfl
  have e2 : (W.fds.map fun r => r.fd) = (fdl.map fun r => r.fd) ++ [fr.fd] := by rw [hf, List.map_append]; rfl
  have hnd := V.nd
  have N0 := N
  rw [e1] at N hnd
  have him : ∀ p ∈ W.im, p ∈ upEnts w.params W.gr W.ups ++ W.rest w.params := fun p hp => List.mem_append_right _ (List.mem_append_right _ (List.mem_append_left _ hp))
  have hcsr : ∀ c ∈ W.cs, (c.x, cellO (W.val c.x) c.tv (W.idn c.x) c.ti c.n) ∈ upEnts w.params W.gr W.ups ++ W.rest w.params := fun c hc => List.mem_append_right _ (List.mem_append_left _ (List.mem_append_left _ (List.mem_map.mpr ⟨c, hc, rfl⟩)))
  obtain ⟨q1, q2, q3, q4, q5, q6⟩ := V.fd fr hfr
  have hfds := V.fdl
  rw [hf, List.length_append, List.length_singleton] at hfds
  have hll := V.live_len
  rw [hf, List.length_append, List.length_singleton] at hll
  have hst := V.st_len
  have hbs := V.bs fdl.length fr (by rw [hf]; simp)
  have hlive : W.live = (fdl.flatMap fun r => r.xs) ++ fr.xs := by
    unfold WSt.live; rw [hf, List.flatMap_append]; simp
  have hl1 : (fdl.flatMap fun r => r.xs).length = 3 * fdl.length := by
    have e1 := congrArg List.length hlive
    rw [List.length_append] at e1; omega
  refine writep_spec (xs := fr.xs) B F X T hk N hnd V.box (V.giv.mono him) V.gb V.wdd (him _ V.gri) (by omega) (by rw [List.length_map]; omega) (him _ q1) q2 (him _ q3) q4 (by omega) (by omega) (fun x hx => ?_) hroom hunits ?_
  · obtain ⟨c, hc, rfl⟩ := V.lcs x (by rw [hlive]; exact List.mem_append_right _ hx)
    exact ⟨_, _, _, _, _, hcsr c hc⟩
  · intro ob' number value tv t0 ti x v id n rest2 h' tk' hb' hn0 hn3 hxs hxr F' N' hmem
    have hlk : W.live[(fr.bs + number).toNat]? = some x := by
      rw [hlive, List.getElem?_append_right (by omega)]
      have : (fr.bs + number).toNat - (fdl.flatMap fun r => r.xs).length = number.toNat := by omega
      rw [this]; exact hxs
    obtain ⟨c0, hc0, hcx⟩ := V.lcs x (List.mem_of_getElem? hlk)
    have heq := Option.some.inj ((N0 _ (in_led hxr)).1.symm.trans (hcx ▸ (N0 _ (cs_led hc0)).1))
    obtain ⟨i1, i2, i3⟩ := cellO_inj heq
    refine ret (W.upd ob' (W.st.set (fr.bs + number).toNat (value, tv)) x value tv) h' tk' (upd_inv V hb' ?_) rfl rfl (fun p hp => hp) rfl F' ?_
    · rw [List.map_set, V.stv]; exact set_val V.lnd hlk
    · refine news_sub N' fun p hp => ?_
      rcases upd_mem V hc0 hcx hp with h | ⟨c, hc, hcx', _⟩ | ⟨h1, _, h3⟩
      · rw [h, i1, i2, i3]; exact List.mem_cons_self
      · exact absurd (hcx' ▸ List.mem_of_getElem? hlk) (V.cin c hc).2.1
      · rw [e2] at h3
        exact List.mem_cons_of_mem _ (hmem p h3 h1)
theorem w_writek {i : Nat} {W : WSt} (V : WInv prog w i W) (hi : i ≤ 9) (N : News h₀ L s.heap (W.led w.params))
  (hroom : dp + 6 < recursionLimit) (hunits : un + 60 < cLine)
  (ret : ∀ (W' : WSt) (h' : Heap) (tk' : Nat), WInv prog w (i + 1) W' → W'.b = W.b → W'.wd = W.wd → (∀ p ∈ W.im, p ∈ W'.im) → W'.ex = W.ex → Fr h₀ L h' m → News h₀ L h' (W'.led w.params) → Q .none { s with heap := h', toks := tk' }) :
  wpAny (model prog w) (ktrTop dp un gdd cn cs L a ccd cl outer) (call (.ref 298) [.ref W.b, .ref W.wd, .bool true]) Q E s := by
  obtain ⟨fdl, fr, hf⟩ := V.top
  have hfr : fr ∈ W.fds := by rw [hf]; simp
  have e1 : W.led w.params = (W.b, W.ob) :: (W.wd, W.owd) :: (W.gd, gdD w.params W.k1 W.k2 W.stk W.opn) :: (W.stk, intsL W.st W.sn) :: (W.opn, refsL UpR.u W.ups W.on) :: (W.frs, refsL (fun x : Addr => x) ((fdl.map fun r => r.fd) ++ [fr.fd]) W.frn) :: (W.fns, refsL (fun f : FnX => f.tup) W.fs W.fnn) :: (upEnts w.params W.gr W.ups ++ W.rest w.params) := by
    unfold WSt.led; rw [hf, List.map_append, refs_map (f := fun f : FnX => f.tup)]; rfl
  have e2 : (W.fds.map fun r => r.fd) = (fdl.map fun r => r.fd) ++ [fr.fd] := by rw [hf, List.map_append]; rfl
  have e3 : refsL (fun x : Addr => x) (W.fs.map fun f => f.tup) W.fnn = refsL (fun f : FnX => f.tup) W.fs W.fnn := refs_map
  have hnd := V.nd
  have N0 := N
  rw [e1] at N hnd
  have him : ∀ p ∈ W.im, p ∈ upEnts w.params W.gr W.ups ++ W.rest w.params := fun p hp => List.mem_append_right _ (List.mem_append_right _ (List.mem_append_left _ hp))
  have hcsr : ∀ c ∈ W.cs, (c.x, cellO (W.val c.x) c.tv (W.idn c.x) c.ti c.n) ∈ upEnts w.params W.gr W.ups ++ W.rest w.params := fun c hc => List.mem_append_right _ (List.mem_append_left _ (List.mem_append_left _ (List.mem_map.mpr ⟨c, hc, rfl⟩)))
  have hclr : ∀ c ∈ W.cls, (c.d, upD w.params c.T .none (-1) (.int (W.val c.x) c.t)) ∈ upEnts w.params W.gr W.ups ++ W.rest w.params := fun c hc => List.mem_append_right _ (List.mem_append_left _ (List.mem_append_right _ (List.mem_map.mpr ⟨c, hc, rfl⟩)))
  obtain ⟨q1, q2, q3, q4, q5, q6⟩ := V.fd fr hfr
  have hfds := V.fdl
  rw [hf, List.length_append, List.length_singleton] at hfds
  have hfsl := V.fsl
  have hll := V.live_len
  rw [hf, List.length_append, List.length_singleton] at hll
  have hst := V.st_len
  have hlnk : ∀ f ∈ W.fs, ∀ u ∈ f.us, ∃ x, Lnk W.ups W.cls W.live u x := fun f hf' u hu => by
    obtain ⟨j, hj⟩ := List.getElem?_of_mem hu
    obtain ⟨l1, l2, l3⟩ := V.fnk f hf'
    have hjl := (List.getElem?_eq_some_iff.mp hj).1
    exact ⟨_, l3 j u _ hj (List.getElem?_eq_getElem (by omega))⟩
  have hcell : ∀ f ∈ W.fs, ∀ x ∈ f.xs, ∃ c ∈ W.cs, c.x = x := fun f hf' x hx => by
    obtain ⟨j, hj⟩ := List.getElem?_of_mem hx
    obtain ⟨l1, l2, l3⟩ := V.fnk f hf'
    have hjl := (List.getElem?_eq_some_iff.mp hj).1
    exact V.lnk_cell (l3 j _ x (List.getElem?_eq_getElem (by omega)) hj)
  refine writek_spec B F X T hk N hnd V.box (V.giv.mono him) V.gb V.wdd (him _ V.gri) (by omega) (by rw [List.length_map]; omega) (him _ q1) (fun f hf' => (V.fn f hf').mono him) (by omega) (fun f hf' u hu => ?_) (fun f hf' x hx => ?_) hroom hunits ?_ ?_ ?_
  · obtain ⟨x, h⟩ := hlnk f hf' u hu
    rcases h with ⟨r, hr, rfl, e⟩ | ⟨c, hc, rfl, _⟩
    · obtain ⟨h1, h2, h3⟩ := V.uin r hr
      exact ⟨r.d, him _ h1, .inr ⟨r.T, r.i, List.mem_append_left _ (List.mem_map.mpr ⟨r, hr, rfl⟩), h2, by omega⟩⟩
    · exact ⟨c.d, him _ (V.cin c hc).1, .inl ⟨c.T, _, c.t, hclr c hc⟩⟩
  · obtain ⟨c, hc, rfl⟩ := hcell f hf' x hx
    exact ⟨_, _, _, _, _, hcsr c hc⟩
  · intro ob' h' tk' hb' F' N'
    refine ret { W with ob := ob' } h' tk' ?_ rfl rfl (fun p hp => hp) rfl F' ?_
    · exact { V.next with nd := V.nd, box := hb' }
    · have e4 : WSt.led w.params { W with ob := ob' } = (W.b, ob') :: (W.wd, W.owd) :: (W.gd, gdD w.params W.k1 W.k2 W.stk W.opn) :: (W.stk, intsL W.st W.sn) :: (W.opn, refsL UpR.u W.ups W.on) :: (W.frs, refsL (fun x : Addr => x) ((fdl.map fun r => r.fd) ++ [fr.fd]) W.frn) :: (W.fns, refsL (fun f : FnX => f.tup) W.fs W.fnn) :: (upEnts w.params W.gr W.ups ++ W.rest w.params) := by
        rw [← e3, ← e2]; rfl
      rw [e4]; exact N'
  · intro ob' f at' value tv t1 t0 ti u d x T1 v0 v id n rest2 h' tk' hb' hf' ha0 ha1 hu hx hud hdd hxr F' N' hd2 hmem
    obtain ⟨l1, l2, l3⟩ := V.fnk f hf'
    obtain ⟨c0, hc0, hcx⟩ := hcell f hf' x (List.mem_of_getElem? hx)
    have heq := Option.some.inj ((N0 _ (in_led hxr)).1.symm.trans (hcx ▸ (N0 _ (cs_led hc0)).1))
    obtain ⟨i1, i2, i3⟩ := cellO_inj heq
    -- the variable is closed: it is the record of this cell
    have hcl : ∃ c ∈ W.cls, c.u = u ∧ c.x = x := by
      rcases l3 _ u x hu hx with ⟨r, hr, e, _⟩ | h
      · exfalso
        have h1 := (N0 _ (im_led (V.uin r hr).1)).1
        have h2 := (N0 _ (in_led hud)).1
        dsimp only at h1 h2
        rw [e, h2] at h1
        have h3 := congrArg Obj.dict (Option.some.inj h1)
        have h4 : d = r.d := Option.some.inj h3
        have h5 := (N0 _ (ups_led hr)).1
        have h6 := (N0 _ (in_led hdd)).1
        dsimp only at h5 h6
        rw [← h4, h6] at h5
        have h7 := congrArg (fun o : Obj => match o.data with | .dict es _ => (match es[3]? with | some q => q.val | none => .none) | _ => .none) (Option.some.inj h5)
        have h8 : Value.none = Value.ref W.gr := h7
        cases h8
      · exact h
    obtain ⟨c, hc, hcu, hcxx⟩ := hcl
    have hdc : d = c.d := by
      have h1 := (N0 _ (im_led (V.cin c hc).1)).1
      have h2 := (N0 _ (in_led hud)).1
      dsimp only at h1 h2
      rw [hcu, h2] at h1
      exact Option.some.inj (congrArg Obj.dict (Option.some.inj h1))
    have hT : upD w.params T1 .none (-1) (.int v0 t1) = upD w.params c.T .none (-1) (.int (W.val c.x) c.t) := by
      have h1 := (N0 _ (cls_led hc)).1
      have h2 := (N0 _ (in_led hdd)).1
      dsimp only at h1 h2
      rw [← hdc, h2] at h1
      exact Option.some.inj h1
    have hone : ∀ c2 ∈ W.cls, c2.x = x → c2 = c := fun c2 hc2 e => by
      obtain ⟨j, hj⟩ := List.getElem?_of_mem hc
      obtain ⟨j2, hj2⟩ := List.getElem?_of_mem hc2
      have e1 : (W.cls.map (·.x))[j]? = some x := by rw [List.getElem?_map, hj]; exact congrArg some hcxx
      have e2 : (W.cls.map (·.x))[j2]? = some x := by rw [List.getElem?_map, hj2]; exact congrArg some e
      have := nodup_get V.cnd e1 e2
      subst this
      rw [hj] at hj2; exact (Option.some.inj hj2).symm
    refine ret (W.upd ob' W.st x value tv) h' tk' (upd_inv V hb' ?_) rfl rfl (fun p hp => hp) rfl F' ?_
    · rw [V.stv]
      refine List.map_congr_left fun y hy => ?_
      unfold updV
      rw [if_neg]
      rintro rfl
      exact (V.cin c hc).2.1 (hcxx ▸ hy)
    · refine news_sub N' fun p hp => ?_
      rcases upd_mem V hc0 hcx hp with h | ⟨c2, hc2, hcx2, hp2⟩ | ⟨h1, h2, h3⟩
      · rw [h, i1, i2, i3]; exact List.mem_cons_self
      · have := hone c2 hc2 hcx2
        subst this
        rw [hp2, ← upD_new hT, ← hdc]; exact List.mem_cons_of_mem _ hd2
      · rw [e2, e3] at h3
        exact List.mem_cons_of_mem _ (hmem p h3 h1 (hdc ▸ h2 c hc hcxx))
  · intro ob' f at' value tv t0 ti u d x T1 i' v id n rest2 h' tk' hb' hf' ha0 ha1 hu hx hud hdd hi0 hi1 hxr F' N' hmem
    obtain ⟨l1, l2, l3⟩ := V.fnk f hf'
    obtain ⟨c0, hc0, hcx⟩ := hcell f hf' x (List.mem_of_getElem? hx)
    have heq := Option.some.inj ((N0 _ (in_led hxr)).1.symm.trans (hcx ▸ (N0 _ (cs_led hc0)).1))
    obtain ⟨i1, i2, i3⟩ := cellO_inj heq
    have hlk : W.live[i'.toNat]? = some x := by
      rcases l3 _ u x hu hx with ⟨r, hr, e, e'⟩ | ⟨c, hc, hcu, _⟩
      · have h1 := (N0 _ (im_led (V.uin r hr).1)).1
        have h2 := (N0 _ (in_led hud)).1
        dsimp only at h1 h2
        rw [e, h2] at h1
        have h4 : d = r.d := Option.some.inj (congrArg Obj.dict (Option.some.inj h1))
        have h5 := (N0 _ (ups_led hr)).1
        have h6 := (N0 _ (in_led hdd)).1
        dsimp only at h5 h6
        rw [← h4, h6] at h5
        have h7 := congrArg (fun o : Obj => match o.data with | .dict es _ => (match es[4]? with | some q => q.val | none => .none) | _ => .none) (Option.some.inj h5)
        have h8 : Value.int i' T1.ti = Value.int r.i r.T.ti := h7
        injection h8 with h9
        rw [h9]; exact e'
      · exfalso
        have h1 := (N0 _ (im_led (V.cin c hc).1)).1
        have h2 := (N0 _ (in_led hud)).1
        dsimp only at h1 h2
        rw [hcu, h2] at h1
        have h4 : d = c.d := Option.some.inj (congrArg Obj.dict (Option.some.inj h1))
        have h5 := (N0 _ (cls_led hc)).1
        have h6 := (N0 _ (in_led hdd)).1
        dsimp only at h5 h6
        rw [← h4, h6] at h5
        have h7 := congrArg (fun o : Obj => match o.data with | .dict es _ => (match es[3]? with | some q => q.val | none => .none) | _ => .none) (Option.some.inj h5)
        have h8 : Value.ref W.gr = Value.none := h7
        cases h8
    refine ret (W.upd ob' (W.st.set i'.toNat (value, tv)) x value tv) h' tk' (upd_inv V hb' ?_) rfl rfl (fun p hp => hp) rfl F' ?_
    · rw [List.map_set, V.stv]; exact set_val V.lnd hlk
    · refine news_sub N' fun p hp => ?_
      rcases upd_mem V hc0 hcx hp with h | ⟨c, hc, hcx', _⟩ | ⟨h1, _, h3⟩
      · rw [h, i1, i2, i3]; exact List.mem_cons_self
      · exact absurd (hcx' ▸ List.mem_of_getElem? hlk) (V.cin c hc).2.1
      · rw [e2, e3] at h3
        exact List.mem_cons_of_mem _ (hmem p h3 h1)
theorem w_draw {i : Nat} {W : WSt} {many : Int} {tm : Tok} (V : WInv prog w i W) (N : News h₀ L s.heap (W.led w.params)) (hm : 0 < many) (hm' : many < 2000)
  (hroom : dp + 1 < recursionLimit) (hunits : un + 8 < cLine)
  (ret : ∀ (r : Int) (tr : Tok) (W' : WSt) (h' : Heap) (tk' : Nat), 0 ≤ r → r < many → WInv prog w i W' → W'.b = W.b → W'.wd = W.wd → (∀ p ∈ W.im, p ∈ W'.im) → W'.ex = W.ex → Fr h₀ L h' m → News h₀ L h' (W'.led w.params) → Q (.int r tr) { s with heap := h', toks := tk' }) :
  wpAny (model prog w) (ktrTop dp un gdd cn cs L a ccd cl outer) (call (.ref 267) [.ref W.b, .int many tm]) Q E s := by
  have hnd := V.nd
  have N0 := N
  unfold WSt.led at N hnd
  have hne : ∀ p ∈ (W.wd, W.owd) :: (W.gd, gdD w.params W.k1 W.k2 W.stk W.opn) :: (W.stk, intsL W.st W.sn) :: (W.opn, refsL UpR.u W.ups W.on) :: (W.frs, refsL (fun x : Addr => x) (W.fds.map fun r => r.fd) W.frn) :: (W.fns, refsL (fun x : Addr => x) (W.fs.map fun f => f.tup) W.fnn) :: (upEnts w.params W.gr W.ups ++ W.rest w.params), p.1 ≠ W.b := fun p hp e => by
    rw [List.map_cons, List.nodup_cons] at hnd
    exact hnd.1 (e ▸ List.mem_map.mpr ⟨p, hp, rfl⟩)
  refine draw_spec0' B F X T hk N hne V.box (V.giv.mono fun p hp => ?_) V.gb hm hm' hroom hunits ?_
  · simp only [List.mem_cons, List.mem_append]
    exact .inr (.inr (.inr (.inr (.inr (.inr (.inr (List.mem_append_right _ (List.mem_append_left _ hp))))))))
  · intro r tr ob' h' tk' F' N' hb' h0 h1
    exact ret r tr { W with ob := ob' } h' tk' h0 h1 { V with nd := V.nd, box := hb' } rfl rfl (fun p hp => hp) rfl F' N'
end
-- V6
theorem wkv_names {prog : Program} {w : World} {o : Obj} {gr fns frs : Addr} {made : Int} {tm : Tok} (h : o.IsDictOf (strKind prog w) (wkv gr fns frs made tm)) : ∃ gr' fns' frs', gr' = gr ∧ fns' = fns ∧ frs' = frs := ⟨_, _, _, rfl, rfl, rfl⟩
theorem inst_name {h₀ h : Heap} {L gr gd C : Addr} {l : Led} (N : News h₀ L h l) (hm : (gr, instObj C gd) ∈ l) : ∃ gd', gd' = gd ∧ (gr, instObj C gd') ∈ l := ⟨_, rfl, hm⟩
theorem gd_name {h₀ h : Heap} {L gd stk opn : Addr} {P : Params} {k1 k2 : Tok} {l : Led} (N : News h₀ L h l) (hm : (gd, gdD P k1 k2 stk opn) ∈ l) : ∃ k1' k2' stk' opn', stk' = stk ∧ opn' = opn ∧ (gd, gdD P k1' k2' stk' opn') ∈ l := ⟨_, _, _, _, rfl, rfl, hm⟩
theorem three_name {h₀ h : Heap} {L stk : Addr} {l : Led} {t1 t2 t3 : Tok} {n : Nat} (N : News h₀ L h l) (hm : (stk, listOf #[.int 5 t1, .int 6 t2, .int 7 t3] n) ∈ l) : ∃ t1 t2 t3 n, (stk, intsL [(5, t1), (6, t2), (7, t3)] n) ∈ l := ⟨t1, t2, t3, n, hm⟩
theorem pw_nodup : ∀ {l : List Nat}, l.Pairwise (· < ·) → l.Nodup := fun h => h.imp fun h e => absurd (e ▸ h) (Nat.lt_irrefl _)
theorem start_inv {prog : Program} {w : World} {h₀ h' : Heap} {L : Addr} {news : Led} {b g wd gr gd stk opn frs fns x0 x1 x2 D kp ow fd lc : Addr} {ob owd ofd oc : Obj} {k1 k2 tm tb t1 t2 t3 a0 a1 a2 c0 c1 c2 : Tok} {sn n0 n1 n2 n3 n4 n5 gn : Nat} {gv : List Value} {gs : List Int}
    (N : News h₀ L h' news) (hb : BoxOk g ob) (hgi : IntsAre gv gs) (hgl : gs.length ≤ 24) (hd : owd.IsDictOf (strKind prog w) (wkv gr fns frs 3 tm)) (hfo : ofd.IsDictOf (strKind prog w) (fkv 0 tb kp ow D))
    (m1 : (b, ob) ∈ news) (m2 : (wd, owd) ∈ news) (m3 : (gd, gdD w.params k1 k2 stk opn) ∈ news) (m4 : (stk, intsL [(5, t1), (6, t2), (7, t3)] sn) ∈ news) (m5 : (opn, listOf #[] n0) ∈ news) (m6 : (frs, listOf #[.ref fd] n1) ∈ news) (m7 : (fns, listOf #[] n2) ∈ news)
    (m8 : (x0, listOf #[.int 5 a0, .int 1 c0] 0) ∈ news) (m9 : (x1, listOf #[.int 6 a1, .int 2 c1] 0) ∈ news) (m10 : (x2, listOf #[.int 7 a2, .int 3 c2] 0) ∈ news)
    (m11 : (gr, instObj 216 gd) ∈ news) (m12 : (g, listOf gv.toArray gn) ∈ news) (m13 : (lc, oc) ∈ news) (m14 : (fd, ofd) ∈ news) (m15 : (D, listOf #[.ref x0, .ref x1, .ref x2] n3) ∈ news) (m16 : (kp, listOf #[] n4) ∈ news) (m17 : (ow, listOf #[] n5) ∈ news)
    (hc : @LT.lt Nat _ lc b ∧ @LT.lt Nat _ g b ∧ @LT.lt Nat _ b wd ∧ @LT.lt Nat _ wd gd ∧ @LT.lt Nat _ gd gr ∧ @LT.lt Nat _ gr stk ∧ @LT.lt Nat _ stk opn ∧ @LT.lt Nat _ opn fns ∧ @LT.lt Nat _ fns frs ∧ @LT.lt Nat _ frs x0 ∧ @LT.lt Nat _ x0 x1 ∧ @LT.lt Nat _ x1 x2)
    (hlg : @Ne Nat lc g) (hD : ∀ y ∈ [lc, g, b, wd, gd, gr, stk, opn, fns, frs, x0, x1, x2], @Ne Nat y D) (hn : [fd, kp, ow].Nodup)
    (hf : ∀ y ∈ [lc, g, b, wd, gd, gr, stk, opn, fns, frs, x0, x1, x2, D], ∀ z ∈ [fd, kp, ow], @LT.lt Nat _ y z) :
    ∃ W : WSt, WInv prog w 0 W ∧ W.b = b ∧ W.wd = wd ∧ (lc, oc) ∈ W.im ∧ W.ex = [] ∧ News h₀ L h' (W.led w.params) := by
  obtain ⟨d1, d2, d3, d4, d5, d6, d7, d8, d9, d10, d11, d12⟩ := hc
  have s1 : ([b, wd, gd, gr, stk, opn, fns, frs, x0, x1, x2] : List Nat).Pairwise (· < ·) := by
    simp only [List.pairwise_cons, List.mem_cons, List.not_mem_nil, or_false, forall_eq_or_imp, forall_eq, List.Pairwise.nil, and_true, false_implies, implies_true]
    refine ⟨⟨?_, ?_, ?_, ?_, ?_, ?_, ?_, ?_, ?_, ?_⟩, ⟨?_, ?_, ?_, ?_, ?_, ?_, ?_, ?_, ?_⟩, ⟨?_, ?_, ?_, ?_, ?_, ?_, ?_, ?_⟩, ⟨?_, ?_, ?_, ?_, ?_, ?_, ?_⟩, ⟨?_, ?_, ?_, ?_, ?_, ?_⟩, ⟨?_, ?_, ?_, ?_, ?_⟩, ⟨?_, ?_, ?_, ?_⟩, ⟨?_, ?_, ?_⟩, ⟨?_, ?_⟩, ?_⟩ <;> omega
  have hbx : ∀ y ∈ ([b, wd, gd, gr, stk, opn, fns, frs, x0, x1, x2] : List Nat), @LE.le Nat _ b y := by
    intro y hy
    rcases List.mem_cons.mp hy with h | h
    · exact Nat.le_of_eq h.symm
    · exact Nat.le_of_lt ((List.pairwise_cons.mp s1).1 y h)
  have nd2 : ((lc :: g :: [b, wd, gd, gr, stk, opn, fns, frs, x0, x1, x2]) : List Nat).Nodup := by
    refine List.nodup_cons.mpr ⟨fun hm => ?_, List.nodup_cons.mpr ⟨fun hm => ?_, pw_nodup s1⟩⟩
    · rcases List.mem_cons.mp hm with h | h
      · exact hlg h
      · have := hbx lc h; omega
    · have := hbx g hm; omega
  have nd3 : ((D :: lc :: g :: [b, wd, gd, gr, stk, opn, fns, frs, x0, x1, x2]) : List Nat).Nodup := List.nodup_cons.mpr ⟨fun hm => hD D hm rfl, nd2⟩
  have nd4 : (([fd, kp, ow] ++ (D :: lc :: g :: [b, wd, gd, gr, stk, opn, fns, frs, x0, x1, x2])) : List Nat).Nodup := by
    refine List.nodup_append.mpr ⟨hn, nd3, fun z hz y hy e => ?_⟩
    subst e
    have : z ∈ [lc, g, b, wd, gd, gr, stk, opn, fns, frs, x0, x1, x2, D] := by
      simp only [List.mem_cons, List.not_mem_nil, or_false] at hy ⊢
      rcases hy with h | h | h | h | h | h | h | h | h | h | h | h | h | h <;> simp [h]
    exact absurd (hf z this z hz) (Nat.lt_irrefl _)
  have n01 : ¬ x1 = x0 := Nat.ne_of_gt d11
  have n02 : ¬ x2 = x0 := Nat.ne_of_gt (Nat.lt_trans d11 d12)
  have n12 : ¬ x2 = x1 := Nat.ne_of_gt d12
  let val : Addr → Int := fun y => if y = x0 then 5 else if y = x1 then 6 else if y = x2 then 7 else 0
  let idn : Addr → Int := fun y => if y = x0 then 1 else if y = x1 then 2 else if y = x2 then 3 else 0
  have v0 : val x0 = 5 := if_pos rfl
  have v1 : val x1 = 6 := by show (if x1 = x0 then _ else _) = _; rw [if_neg n01, if_pos rfl]
  have v2 : val x2 = 7 := by show (if x2 = x0 then _ else _) = _; rw [if_neg n02, if_neg n12, if_pos rfl]
  have i0 : idn x0 = 1 := if_pos rfl
  have i1 : idn x1 = 2 := by show (if x1 = x0 then _ else _) = _; rw [if_neg n01, if_pos rfl]
  have i2 : idn x2 = 3 := by show (if x2 = x0 then _ else _) = _; rw [if_neg n02, if_neg n12, if_pos rfl]
  let new : FdX := { fd := fd, kp := kp, ow := ow, D := D, ofd := ofd, bs := 0, tb := tb, xs := [x0, x1, x2], dn := n3, ks := [], oxs := [], kn := n4, onn := n5 }
  let W : WSt := { b := b, g := g, wd := wd, gr := gr, gd := gd, stk := stk, opn := opn, frs := frs, fns := fns, ob := ob, owd := owd, k1 := k1, k2 := k2, tm := tm, made := 3, sn := sn, «on» := n0, frn := n1, fnn := n2, st := [(5, t1), (6, t2), (7, t3)], cs := [⟨x0, a0, c0, 0⟩, ⟨x1, a1, c1, 0⟩, ⟨x2, a2, c2, 0⟩], ups := [], cls := [], fds := [new], fs := [], im := [(gr, instObj 216 gd), (g, listOf gv.toArray gn), (lc, oc), (fd, ofd), (D, listOf #[.ref x0, .ref x1, .ref x2] n3), (kp, listOf #[] n4), (ow, listOf #[] n5)], ex := [], val := val, idn := idn }
  have hled : W.led w.params = [(b, ob), (wd, owd), (gd, gdD w.params k1 k2 stk opn), (stk, intsL [(5, t1), (6, t2), (7, t3)] sn), (opn, listOf #[] n0), (frs, listOf #[.ref fd] n1), (fns, listOf #[] n2), (x0, listOf #[.int 5 a0, .int 1 c0] 0), (x1, listOf #[.int 6 a1, .int 2 c1] 0), (x2, listOf #[.int 7 a2, .int 3 c2] 0), (gr, instObj 216 gd), (g, listOf gv.toArray gn), (lc, oc), (fd, ofd), (D, listOf #[.ref x0, .ref x1, .ref x2] n3), (kp, listOf #[] n4), (ow, listOf #[] n5)] := by
    show (b, ob) :: (wd, owd) :: _ :: _ :: _ :: _ :: _ :: (x0, cellO (val x0) a0 (idn x0) c0 0) :: (x1, cellO (val x1) a1 (idn x1) c1 0) :: (x2, cellO (val x2) a2 (idn x2) c2 0) :: _ = _
    rw [v0, v1, v2, i0, i1, i2]; rfl
  have hlive : W.live = [x0, x1, x2] := rfl
  refine ⟨W, ?_, rfl, rfl, by simp [W], rfl, ?_⟩
  · exact {
      nd := by
        rw [hled]
        refine (List.Perm.nodup_iff (List.perm_iff_count.mpr fun a => ?_)).mp nd4
        simp only [List.map_cons, List.map_nil, List.count_cons, List.count_append, List.count_nil]
        omega
      gb := Nat.ne_of_lt d2
      box := hb
      giv := ⟨gv, gs, gn, by simp [W], hgi, hgl⟩
      wdd := hd
      m0 := by show (0 : Int) ≤ 3; decide
      m1 := by show (3 : Int) ≤ 3 + 3 * ((0 : Nat) : Int); decide
      gri := by simp [W]
      ne := by simp [W]
      fdl := Nat.le_refl _
      fsl := Nat.le_refl _
      upl := Nat.le_refl _
      fd := fun r hr => by
        rw [List.mem_singleton.mp hr]
        exact ⟨by simp [W, new], hfo, by simp [W, new], rfl, by simp [W, new], by simp [W, new]⟩
      fdk := fun r hr => by
        rw [List.mem_singleton.mp hr]
        exact ⟨rfl, by simp [new], fun j u x h => by simp [new] at h⟩
      bs := fun k r hr => by
        cases k with
        | zero => simp [W] at hr; subst hr; rfl
        | succ k => simp [W] at hr
      fn := fun f hf => by cases hf
      fnk := fun f hf => by cases hf
      lnd := by
        rw [hlive]
        simp only [List.nodup_cons, List.mem_cons, List.not_mem_nil, or_false, not_or, List.nodup_nil, not_false_iff, and_true]
        exact ⟨⟨Ne.symm n01, Ne.symm n02⟩, Ne.symm n12⟩
      lcs := fun x hx => by
        rw [hlive] at hx
        simp only [List.mem_cons, List.not_mem_nil, or_false] at hx
        rcases hx with rfl | rfl | rfl
        · exact ⟨⟨x, a0, c0, 0⟩, by simp [W], rfl⟩
        · exact ⟨⟨x, a1, c1, 0⟩, by simp [W], rfl⟩
        · exact ⟨⟨x, a2, c2, 0⟩, by simp [W], rfl⟩
      cid := fun c hc => by
        have hc' : c = ⟨x0, a0, c0, 0⟩ ∨ c = ⟨x1, a1, c1, 0⟩ ∨ c = ⟨x2, a2, c2, 0⟩ := by simpa [W] using hc
        show idn c.x ≤ 3
        rcases hc' with rfl | rfl | rfl
        · show idn x0 ≤ 3; rw [i0]; decide
        · show idn x1 ≤ 3; rw [i1]; decide
        · show idn x2 ≤ 3; rw [i2]; decide
      inj := fun c hc c' hc' e => by
        have k1 : c = ⟨x0, a0, c0, 0⟩ ∨ c = ⟨x1, a1, c1, 0⟩ ∨ c = ⟨x2, a2, c2, 0⟩ := by simpa [W] using hc
        have k2 : c' = ⟨x0, a0, c0, 0⟩ ∨ c' = ⟨x1, a1, c1, 0⟩ ∨ c' = ⟨x2, a2, c2, 0⟩ := by simpa [W] using hc'
        have e' : idn c.x = idn c'.x := e
        rcases k1 with rfl | rfl | rfl <;> rcases k2 with rfl | rfl | rfl <;> first | rfl | (exfalso; dsimp only at e'; simp only [i0, i1, i2] at e'; omega)
      stv := by
        rw [hlive]
        show [(5 : Int), 6, 7] = [val x0, val x1, val x2]
        rw [v0, v1, v2]
      uso := .nil
      uin := fun r hr => by cases hr
      ufn := fun r hr => by cases hr
      cin := fun c hc => by cases hc
      cnd := .nil }
  · rw [hled]
    refine news_sub N fun p hp => ?_
    simp only [List.mem_cons, List.not_mem_nil, or_false] at hp
    rcases hp with h | h | h | h | h | h | h | h | h | h | h | h | h | h | h | h | h <;> (rw [h]; assumption)
-- V7
section
structure Tied (prog : Program) (w : World) (b wd lc : Addr) (oc : Obj) (ex : Led) (i : Nat) (W : WSt) : Prop where
  inv : WInv prog w i W
  eb : W.b = b
  ewd : W.wd = wd
  mc : (lc, oc) ∈ W.im
  ex : W.ex = ex
theorem led_ex {P : Params} {W : WSt} {x : Addr × Obj} (he : W.ex = []) : ({ W with ex := [x] } : WSt).led P = W.led P ++ [x] := by
  unfold WSt.led WSt.rest
  rw [he]
  simp only [List.append_nil, List.cons_append, List.append_assoc]
theorem Tied.add {prog : Program} {w : World} {b wd lc : Addr} {oc : Obj} {i : Nat} {W : WSt} {x : Addr × Obj} (V : Tied prog w b wd lc oc [] i W) (hx : ∀ p ∈ W.led w.params, p.1 ≠ x.1) : Tied prog w b wd lc oc [x] i { W with ex := [x] } where
  inv := { V.inv with
    nd := by
      rw [led_ex V.ex, List.map_append]
      refine List.nodup_append.mpr ⟨V.inv.nd, by simp, fun y hy z hz e => ?_⟩
      obtain ⟨p, hp, rfl⟩ := List.mem_map.mp hy
      have hz' : z = x.1 := by simpa using hz
      exact hx p hp (e.trans hz') }
  eb := V.eb
  ewd := V.ewd
  mc := V.mc
  ex := rfl
theorem Tied.drop {prog : Program} {w : World} {b wd lc : Addr} {oc : Obj} {i : Nat} {W : WSt} {x : Addr × Obj} (V : Tied prog w b wd lc oc [x] i W) : Tied prog w b wd lc oc [] i { W with ex := [] } ∧ W.led w.params = ({ W with ex := [] } : WSt).led w.params ++ [x] ∧ ∀ p ∈ ({ W with ex := [] } : WSt).led w.params, p.1 ≠ x.1 := by
  have e : W.led w.params = ({ W with ex := [] } : WSt).led w.params ++ [x] := by
    rw [← led_ex (W := { W with ex := [] }) rfl]
    have := V.ex
    cases W
    dsimp only at this
    rw [this]
  have hnd := V.inv.nd
  rw [e, List.map_append] at hnd
  obtain ⟨n1, n2, n3⟩ := List.nodup_append.mp hnd
  refine ⟨⟨{ V.inv with nd := n1 }, V.eb, V.ewd, V.mc, rfl⟩, e, fun p hp => ?_⟩
  exact n3 _ (List.mem_map.mpr ⟨p, hp, rfl⟩) _ (by simp)
theorem Tied.cell {prog : Program} {w : World} {b wd lc : Addr} {oc : Obj} {ex : Led} {i : Nat} {W : WSt} (V : Tied prog w b wd lc oc ex i W) : (lc, oc) ∈ W.led w.params := im_led V.mc
section
variable {prog : Program} {w : World} {p : Program} {loose : List Str} {mean : ExcName → Option Value} {mg mb : Str → Option Value}
  {dp un : Nat} {gdd : Option (List Code)} {cn : Str} {cs : Scope} {a : Addr} {ccd : Value} {cl : List (Str × Addr)} {outer : List Env} {A₀ : Around} {base h₀ : Heap} {L : Addr} {m : Str → Option Value} {s : Shared} {Q E : Value → Shared → Prop}
  (B : Below A₀ base outer h₀) (F : Fr h₀ L s.heap m) (X : (Mine.hd.heap_39 w.params).In h₀) (T : Top p loose mean mg mb h₀) (hk : cs.kind = .function)
  {b wd lc : Addr} {oc : Obj} {ex : Led} {i : Nat} {W : WSt}
include B F X T hk
theorem x_draw {many : Int} {tm : Tok} (V : Tied prog w b wd lc oc ex i W) (N : News h₀ L s.heap (W.led w.params)) (hm : 0 < many) (hm' : many < 2000) (hroom : dp + 1 < recursionLimit) (hunits : un + 8 < cLine)
  (ret : ∀ (r : Int) (tr : Tok) (W' : WSt) (h' : Heap) (tk' : Nat), 0 ≤ r → r < many → Tied prog w b wd lc oc ex i W' → Fr h₀ L h' m → News h₀ L h' (W'.led w.params) → Q (.int r tr) { s with heap := h', toks := tk' }) :
  wpAny (model prog w) (ktrTop dp un gdd cn cs L a ccd cl outer) (call (.ref 267) [.ref b, .int many tm]) Q E s := by
  obtain ⟨V1, rfl, rfl, mc, e⟩ := V
  exact w_draw B F X T hk V1 N hm hm' hroom hunits fun r tr W' h' tk' h0 h1 V' e1 e2 e3 e4 F' N' => ret r tr W' h' tk' h0 h1 ⟨V', e1, e2, e3 _ mc, e4.trans e⟩ F' N'
theorem x_make (V : Tied prog w b wd lc oc ex i W) (hi : i ≤ 9) (N : News h₀ L s.heap (W.led w.params)) (hroom : dp + 8 < recursionLimit) (hunits : un + 80 < cLine)
  (ret : ∀ (W' : WSt) (h' : Heap) (tk' : Nat), Tied prog w b wd lc oc ex (i + 1) W' → Fr h₀ L h' m → News h₀ L h' (W'.led w.params) → Q (.bool true) { s with heap := h', toks := tk' }) :
  wpAny (model prog w) (ktrTop dp un gdd cn cs L a ccd cl outer) (call (.ref 281) [.ref b, .ref wd]) Q E s := by
  obtain ⟨V1, rfl, rfl, mc, e⟩ := V
  exact w_make B F X T hk V1 hi N hroom hunits fun W' h' tk' V' e1 e2 e3 e4 F' N' => ret W' h' tk' ⟨V', e1, e2, e3 _ mc, e4.trans e⟩ F' N'
theorem x_enter (V : Tied prog w b wd lc oc ex i W) (hi : i ≤ 9) (N : News h₀ L s.heap (W.led w.params)) (hroom : dp + 6 < recursionLimit) (hunits : un + 60 < cLine)
  (ret : ∀ (W' : WSt) (h' : Heap) (tk' : Nat), Tied prog w b wd lc oc ex (i + 1) W' → Fr h₀ L h' m → News h₀ L h' (W'.led w.params) → Q .none { s with heap := h', toks := tk' }) :
  wpAny (model prog w) (ktrTop dp un gdd cn cs L a ccd cl outer) (call (.ref 286) [.ref b, .ref wd]) Q E s := by
  obtain ⟨V1, rfl, rfl, mc, e⟩ := V
  exact w_enter B F X T hk V1 hi N hroom hunits fun W' h' tk' V' e1 e2 e3 e4 F' N' => ret W' h' tk' ⟨V', e1, e2, e3 _ mc, e4.trans e⟩ F' N'
theorem x_leave (V : Tied prog w b wd lc oc ex i W) (hi : i ≤ 9) (N : News h₀ L s.heap (W.led w.params)) (hroom : dp + 6 < recursionLimit) (hunits : un + 60 < cLine)
  (ret : ∀ (W' : WSt) (h' : Heap) (tk' : Nat), Tied prog w b wd lc oc ex (i + 1) W' → Fr h₀ L h' m → News h₀ L h' (W'.led w.params) → Q .none { s with heap := h', toks := tk' }) :
  wpAny (model prog w) (ktrTop dp un gdd cn cs L a ccd cl outer) (call (.ref 293) [.ref wd]) Q E s := by
  obtain ⟨V1, rfl, rfl, mc, e⟩ := V
  exact w_leave B F X T hk V1 hi N hroom hunits fun W' h' tk' V' e1 e2 e3 e4 F' N' => ret W' h' tk' ⟨V', e1, e2, e3 _ mc, e4.trans e⟩ F' N'
theorem x_write {kept : Bool} (V : Tied prog w b wd lc oc ex i W) (hi : i ≤ 9) (N : News h₀ L s.heap (W.led w.params)) (hroom : dp + 6 < recursionLimit) (hunits : un + 60 < cLine)
  (ret : ∀ (W' : WSt) (h' : Heap) (tk' : Nat), Tied prog w b wd lc oc ex (i + 1) W' → Fr h₀ L h' m → News h₀ L h' (W'.led w.params) → Q .none { s with heap := h', toks := tk' }) :
  wpAny (model prog w) (ktrTop dp un gdd cn cs L a ccd cl outer) (call (.ref 298) [.ref b, .ref wd, .bool kept]) Q E s := by
  obtain ⟨V1, rfl, rfl, mc, e⟩ := V
  cases kept
  · exact w_writep B F X T hk V1 hi N hroom hunits fun W' h' tk' V' e1 e2 e3 e4 F' N' => ret W' h' tk' ⟨V', e1, e2, e3 _ mc, e4.trans e⟩ F' N'
  · exact w_writek B F X T hk V1 hi N hroom hunits fun W' h' tk' V' e1 e2 e3 e4 F' N' => ret W' h' tk' ⟨V', e1, e2, e3 _ mc, e4.trans e⟩ F' N'
theorem x_stands (V : Tied prog w b wd lc oc ex i W) (hi : i ≤ 10) (N : News h₀ L s.heap (W.led w.params)) (hroom : dp + 8 < recursionLimit) (hunits : un + 150 < cLine)
  (ret : ∀ (h' : Heap) (tk' : Nat), Fr h₀ L h' m → News h₀ L h' (W.led w.params) → Q (.bool true) { s with heap := h', toks := tk' }) :
  wpAny (model prog w) (ktrTop dp un gdd cn cs L a ccd cl outer) (call (.ref 303) [.ref wd]) Q E s := by
  obtain ⟨V1, rfl, rfl, mc, e⟩ := V
  exact w_stands B F X T hk V1 hi N hroom hunits ret
end
section
open PySem.Spec
variable {prog : Program} {w : World} {A : Around} {E : Value → Shared → Prop} {s : Shared} {env : Env} {h₀ : Heap} {x : Str} {body : List Stmt} {Q : Flow → Shared → Prop}
theorem iter_tied {r : Addr} {n : Int} {t₀ u₀ v₀ : Tok} {m₀ : Str → Option Value} {b wd lc : Addr} {oc : Obj} {W1 : WSt} (ys : List Str) (T1 : Tied prog w b wd lc oc [] 0 W1)
    (hh : A.handled = none) (hr : IsRange s.heap r 0 n 1 t₀ u₀ v₀) (hb0 : 0 ≤ n) (hb1 : n < 50) (F : Fr h₀ env.locals s.heap m₀) (N : News h₀ env.locals s.heap (W1.led w.params))
    (turn : ∀ (i : Nat) (W : WSt) (t : Tok) (u : Str → Option Value) (it : Addr × Obj) (h : Heap) (tk : Nat), i < n.toNat → Tied prog w b wd lc oc [] i W → (∀ p ∈ W.led w.params, p.1 ≠ it.1) → Fr h₀ env.locals h (fun z => if z = x then some (.int (i : Int) t) else if ys.contains z then u z else m₀ z) → News h₀ env.locals h (it :: W.led w.params) →
      wpAny (model prog w) A (execs body env) (FLPost h₀ env.locals x ys m₀ it (fun W => W.led w.params) (fun W => Tied prog w b wd lc oc [] (i + 1) W) { s with heap := h, toks := tk } Q) E { s with heap := h, toks := tk })
    (done : ∀ (W : WSt) (u : Str → Option Value) (h : Heap) (tk : Nat), Fr h₀ env.locals h (fun z => if z = x then u z else if ys.contains z then u z else m₀ z) → News h₀ env.locals h (W.led w.params) → Q .next { s with heap := h, toks := tk }) :
    wpAny (model prog w) A (pyIter (.ref r)) (fun it s₂ => LoopAtV prog w A h₀ env x body Q E it s₂) E s :=
  iter_range (σ := WSt) (a₀ := W1) ys (fun _ W => W.led w.params) (fun i W => Tied prog w b wd lc oc [] i W) hh hr hb0 hb1 F N T1 (fun i a t u it h tk hi hI ho F N => turn i a t u it h tk hi hI ho F N) (fun a u h tk _ F N => done a u h tk F N)
theorem Tied.add_news {b wd lc : Addr} {oc : Obj} {i : Nat} {W : WSt} {x : Addr × Obj} {h : Heap} {L : Addr} (V : Tied prog w b wd lc oc [] i W) (N : News h₀ L h (x :: W.led w.params)) : News h₀ L h (({ W with ex := [x] } : WSt).led w.params) := by
  rw [led_ex V.ex]
  refine news_sub N fun p hp => ?_
  rcases List.mem_append.mp hp with h | h
  · exact List.mem_cons_of_mem _ h
  · rw [List.mem_singleton.mp h]; exact List.mem_cons_self
end
end
-- L1
section
local macro_rules | `(tactic| walk_at "call ref") => `(tactic| (k_here; (try dsimp only [List.cons_append, List.nil_append]); (with_reducible show wpAny _ _ (call (Value.ref 180) [Value.ref _]) _ _ _); k_dflt (refine' get_spec ?k1 ?k2 ?k3 ?k4 ?kK ?N ?hgr ?hgd ?hst ?hl ?hu ?kd ?ku ?_; (case k1 => k_asm); (case k2 => k_asm); (case k3 => k_asm); (case k4 => k_asm); (case kK => first | exact rfl | with_reducible assumption); (case N => k_asm); (case hgr => k_mem); (case hgd => k_mem); (case hst => k_mem); (case hl => with_reducible assumption); (case hu => walk_at "my reads"); (case kd => ktr_room); (case ku => ktr_units)); intro t9 h9 tk9 F9 N9; (try dsimp only); (try k_fold)))
local macro_rules | `(tactic| walk_at "my reads") => `(tactic| first | with_reducible assumption | exact UpReads.at (by with_reducible assumption) (by with_reducible assumption))
local macro_rules | `(tactic| walk_at "getMethod ref") => `(tactic| (k_here; (with_reducible show wpAny _ _ (getMethod (Value.ref _) (Str.ofString "get") _) _ _ _); k_dflt (refine' getmeth_up ?F ?X ?N ?hu ?_; (case F => k_asm); (case X => k_asm); (case N => k_asm); (case hu => walk_at "my reads"))))
local macro_rules | `(tactic| walk_at "binaryOp Add ref ref") => `(tactic| (k_here; (with_reducible show wpAny _ _ (binaryOp _ (Value.ref _) (Value.ref _)) _ _ _); k_dflt (refine' add_vals ?F ?N ?a ?b ?z ?_; (case F => k_asm); (case N => k_asm); (case a => walk_at "my mem"); (case b => walk_at "my mem"); (case z => (simp only [List.length_map, List.length_append, List.length_cons, List.length_nil]; omega))); intro D' h' F' N' l1; (try k_lt l1); (try k_sweep)))
local macro_rules | `(tactic| walk_at "subscriptTail Name Constant ref int") => `(tactic| (k_here; (with_reducible show wpAny _ _ (subscriptTail _ _ (Value.ref _) (Value.int _ _)) _ _ _); first | ((with_reducible show wpAny _ _ (subscriptTail _ _ (Value.ref _) (Value.int 0 _)) _ _ _); (with_unfolding_all refine item_c0 (by k_asm) (by walk_at "my mem") ?_)) | ((with_reducible show wpAny _ _ (subscriptTail _ _ (Value.ref _) (Value.int 1 _)) _ _ _); (with_unfolding_all refine item_c1 (by k_asm) (by walk_at "my mem") ?_))))
local macro_rules | `(tactic| walk_at "call ref") => `(tactic| (k_here; (with_reducible show wpAny _ _ (call (Value.ref 84) [Value.ref _]) _ _ _); k_dflt (refine' count_spec ?k1 ?k2 ?k3 ?k4 ?kK ?N ?c ?cd ?ul ?l ?kd ?ku ?_; (case k1 => k_asm); (case k2 => k_asm); (case k3 => k_asm); (case k4 => k_asm); (case kK => first | exact rfl | with_reducible assumption); (case N => k_asm); (case c => walk_at "my mem"); (case cd => walk_at "my mem"); (case ul => walk_at "my mem"); (case l => with_reducible assumption); (case kd => ktr_room); (case ku => ktr_units)); intro t9 h9 tk9 F9 N9; (try dsimp only); (try k_fold)))
local macro_rules | `(tactic| walk_at "call ref") => `(tactic| (k_here; (try dsimp only [List.cons_append, List.nil_append]); (with_reducible show wpAny _ _ (call (Value.ref 92) [Value.ref _, Value.int _ _]) _ _ _); (refine Halt.of ?_)))
local macro_rules | `(tactic| walk_at "compareOp NotEq ref ref") => `(tactic| (refine Halt.of ?_))
local macro_rules | `(tactic| walk_at "subscriptTail Name Slice ref ref") => `(tactic| (refine Halt.of ?_))
local macro_rules | `(tactic| walk_at "compareOp Eq ref ref") => `(tactic| (refine Halt.of ?_))
local macro_rules | `(tactic| walk_at "my ups") => `(tactic| (repeat (first | with_reducible assumption | refine UpsIn.cons ?_)))
local macro_rules | `(tactic| walk_at "call ref") => `(tactic| (k_here; (with_reducible show wpAny _ _ (call (Value.ref 227) [Value.ref _, Value.int _ _]) _ _ _); k_dflt (refine' spot_spec ?k1 ?k2 ?k3 ?k4 ?kK ?N ?hgr ?hgd ?hop ?hu ?hlen ?kd ?ku ?_; (case k1 => k_asm); (case k2 => k_asm); (case k3 => k_asm); (case k4 => k_asm); (case kK => first | exact rfl | with_reducible assumption); (case N => k_asm); (case hgr => k_mem); (case hgd => k_mem); (case hop => k_mem); (case hu => walk_at "my ups"); (case hlen => with_reducible assumption); (case kd => ktr_room); (case ku => ktr_units)); intro k9 t9 h9 tk9 F9 N9 hk9 ht9 hg9; (try dsimp only); (try k_fold)))
local macro_rules | `(tactic| walk_at "call ref") => `(tactic| (k_here; (with_reducible show wpAny _ _ (call (Value.ref 234) [Value.ref _, Value.int _ _]) _ _ _); k_dflt (refine' openat_spec ?k1 ?k2 ?k3 ?k4 ?kK ?N ?hgr ?hgd ?hop ?hu ?hlen ?kd ?ku ?r1 ?r2; (case k1 => k_asm); (case k2 => k_asm); (case k3 => k_asm); (case k4 => k_asm); (case kK => first | exact rfl | with_reducible assumption); (case N => k_asm); (case hgr => k_mem); (case hgd => k_mem); (case hop => k_mem); (case hu => walk_at "my ups"); (case hlen => with_reducible assumption); (case kd => ktr_room); (case ku => ktr_units)); all_goals (intro x9 h9 tk9 F9 N9 ha9 hb9; (try dsimp only); (try k_fold))))
local macro_rules | `(tactic| walk_at "call ref") => `(tactic| (k_here; (with_reducible show wpAny _ _ (call (Value.ref 241) [Value.ref _, Value.ref _]) _ _ _); k_dflt (refine' putopen_spec ?k1 ?k2 ?k3 ?k4 ?kK ?N ?U ?hgr ?hgd ?hu ?hlen ?hx ?ex ?kd ?ku ?_; (case k1 => k_asm); (case k2 => k_asm); (case k3 => k_asm); (case k4 => k_asm); (case kK => first | exact rfl | with_reducible assumption); (case N => k_asm); (case hgr => k_mem); (case hgd => k_mem); (case U => k_updF);  (case hu => walk_at "my ups"); (case hlen => with_reducible assumption); (case hx => exact UpsIn.one (by k_mem) (by k_mem)); (case ex => exact rfl); (case kd => ktr_room); (case ku => ktr_units)); intro k9 h9 tk9 F9 N9 ha9 hb9 hc9; (try dsimp only at N9); (try dsimp only); (try k_fold)))
local macro_rules | `(tactic| walk_at "binaryOp RShift int int") => `(tactic| (k_here; with_reducible refine rshift_word ?_))
local macro_rules | `(tactic| walk_at "call ref") => `(tactic| (k_here; (with_reducible show wpAny _ _ (call (Value.ref 35) [Value.int _ _]) _ _ _); k_dflt (refine' isk_spec ?k1 ?k2 ?k3 ?k4 ?kK ?N ?h0 ?h3 ?kd ?ku ?_; (case k1 => k_asm); (case k2 => k_asm); (case k3 => k_asm); (case k4 => k_asm); (case kK => first | exact rfl | with_reducible assumption); (case N => k_asm); (case h0 => with_reducible assumption); (case h3 => with_reducible assumption); (case kd => ktr_room); (case ku => ktr_units)); intro h9 tk9 F9 N9; (try dsimp only); (try k_fold)))
local macro_rules | `(tactic| walk_at "call ref") => `(tactic| (k_here; (with_reducible show wpAny _ _ (call (Value.ref 28) [Value.bool _, Value.int _ _]) _ _ _); k_dflt (refine' word_spec ?k1 ?k2 ?k3 ?k4 ?kK ?N ?h0 ?h3 ?kd ?ku ?_; (case k1 => k_asm); (case k2 => k_asm); (case k3 => k_asm); (case k4 => k_asm); (case kK => first | exact rfl | with_reducible assumption); (case N => k_asm); (case h0 => first | with_reducible assumption | decide); (case h3 => first | with_reducible assumption | decide); (case kd => ktr_room); (case ku => ktr_units)); intro t9 h9 tk9 F9 N9; (try dsimp only); (try k_fold)))
local macro_rules | `(tactic| walk_at "call ref") => `(tactic| (k_here; (with_reducible show wpAny _ _ (call (Value.ref 248) [Value.ref _, Value.int _ _]) _ _ _); k_dflt (refine' find_spec ?k1 ?k2 ?k3 ?k4 ?kK ?N ?U ?hgr ?hgd ?hu ?hlen ?kd ?ku ?r1 ?r2; (case k1 => k_asm); (case k2 => k_asm); (case k3 => k_asm); (case k4 => k_asm); (case kK => first | exact rfl | with_reducible assumption); (case N => k_asm); (case hgr => k_mem); (case hgd => k_mem); (case U => k_updF); (case hu => walk_at "my ups"); (case hlen => with_reducible assumption); (case kd => ktr_room); (case ku => ktr_units)); (case' r1 => (intro x9 h9 tk9 F9 N9 ha9 hb9; (try dsimp only at N9); (try dsimp only); (try k_fold))); (case' r2 => (intro x9 k9 h9 tk9 F9 N9 ha9 hb9 hc9 hd9 he9 hf9; (try k_lt hb9); (try k_lt2 hc9); (try dsimp only at N9); (try dsimp only); (try k_fold)))))
local macro_rules | `(tactic| walk_at "compareOp Gt int int") => `(tactic| (k_here; first | (with_reducible refine gt_yes (by with_reducible assumption) ?_) | (with_reducible refine gt_no (by with_reducible assumption) ?_)))
local macro_rules | `(tactic| walk_at "compareOp NotEq str str") => `(tactic| (k_here; with_reducible refine ne_same ?_))
local macro_rules | `(tactic| walk_at "call ref") => `(tactic| (k_here; (with_reducible show wpAny _ _ (call (Value.ref 28) [Value.bool _, Value.int _ _]) _ _ _); k_dflt (refine' word_spec ?k1 ?k2 ?k3 ?k4 ?kK ?N ?h0 ?h3 ?kd ?ku ?_; (case k1 => k_asm); (case k2 => k_asm); (case k3 => k_asm); (case k4 => k_asm); (case kK => first | exact rfl | with_reducible assumption); (case N => k_asm); (case h0 => first | with_reducible assumption | decide | exact fmod_lo _ (by with_reducible assumption)); (case h3 => first | with_reducible assumption | decide | exact Int.lt_of_lt_of_le (fmod_hi _ (by with_reducible assumption)) (by omega)); (case kd => ktr_room); (case ku => ktr_units)); intro t9 h9 tk9 F9 N9; (try dsimp only); (try k_fold)))
local macro_rules | `(tactic| walk_at "call ref") => `(tactic| (k_here; (with_reducible show wpAny _ _ (call (Value.ref 35) [Value.int _ _]) _ _ _); k_dflt (refine' isk_spec ?k1 ?k2 ?k3 ?k4 ?kK ?N ?h0 ?h3 ?kd ?ku ?_; (case k1 => k_asm); (case k2 => k_asm); (case k3 => k_asm); (case k4 => k_asm); (case kK => first | exact rfl | with_reducible assumption); (case N => k_asm); (case h0 => first | with_reducible assumption | decide | exact fmod_lo _ (by with_reducible assumption)); (case h3 => first | with_reducible assumption | decide | exact Int.lt_of_lt_of_le (fmod_hi _ (by with_reducible assumption)) (by omega)); (case kd => ktr_room); (case ku => ktr_units)); intro h9 tk9 F9 N9; (try dsimp only); (try k_fold)))
local macro_rules | `(tactic| walk_at "compareOp Eq int int") => `(tactic| (refine Halt.of ?_))
local macro_rules | `(tactic| walk_at "compareOp NotEq int int") => `(tactic| (k_here; with_reducible refine ne_not (by simp [wordI]) ?_))
local macro_rules | `(tactic| walk_at "binaryOp Mult ref int") => `(tactic| (k_here; (with_reducible show wpAny _ _ (binaryOp Operator.Mult (Value.ref _) (Value.int _ _)) _ _ _); k_dflt (refine' mul_one' ?F ?N ?l ?lo ?hi ?_; (case F => k_asm); (case N => k_asm); (case l => walk_at "my mem"); (case lo => first | with_reducible assumption | omega | decide); (case hi => first | omega | decide)); intro D' h' F' N' l1; (try k_lt l1); (try k_sweep)))
local macro_rules | `(tactic| walk_at "binaryOp Add ref ref") => `(tactic| (k_here; (with_reducible show wpAny _ _ (binaryOp _ (Value.ref _) (Value.ref _)) _ _ _); k_dflt (refine' add_ints ?F ?N ?a ?b ?z ?_; (case F => k_asm); (case N => k_asm); (case a => walk_at "my mem"); (case b => walk_at "my mem"); (case z => (simp only [List.length_append, List.length_replicate, List.length_cons, List.length_nil]; omega))); intro D' h' F' N' l1; (try k_lt l1); (try k_sweep)))
local macro_rules | `(tactic| walk_at "call ref") => `(tactic| (k_here; (with_reducible show wpAny _ _ (call (Value.ref 149) _) _ _ _); k_dflt (refine' proto_spec ?k1 ?k2 ?k3 ?k4 ?kK ?N ?kd ?ku ?_; (case k1 => k_asm); (case k2 => k_asm); (case k3 => k_asm); (case k4 => k_asm); (case kK => first | exact rfl | with_reducible assumption); (case N => k_asm); (case kd => ktr_room); (case ku => ktr_units)); intro x9 h9 tk9 F9 N9 l9; (try k_lt l9); (try dsimp only); (try k_fold)))
local macro_rules | `(tactic| walk_at "call ref") => `(tactic| (k_here; (with_reducible show wpAny _ _ (call (Value.ref 109) [Value.ref _, Value.ref _, Value.none]) _ _ _); k_dflt (refine' clo_spec ?k1 ?k2 ?k3 ?k4 ?kK ?N ?fl ?ul ?kd ?ku ?_; (case k1 => k_asm); (case k2 => k_asm); (case k3 => k_asm); (case k4 => k_asm); (case kK => first | exact rfl | with_reducible assumption); (case N => k_asm); (case fl => walk_at "my mem"); (case ul => omega); (case kd => ktr_room); (case ku => ktr_units)); intro x9 d9 T9 sz9 h9 tk9 F9 N9 l9 lx9; (try k_lt l9); (try dsimp only); (try k_fold)))
local macro_rules | `(tactic| walk_at "call ref") => `(tactic| ((with_reducible show wpAny _ _ (call (Value.ref 42) _) _ _ _); (refine Halt.of ?_)))
local macro_rules | `(tactic| walk_at "call ref") => `(tactic| (k_here; (try dsimp only [List.cons_append, List.nil_append]); (with_reducible show wpAny _ _ (call (Value.ref 194) [Value.ref _]) _ _ _); k_dflt (refine' close_specU ?k1 ?k2 ?k3 ?k4 ?kK ?N ?U ?hu ?hst ?hgr ?hgd ?hne ?hl ?hi0 ?hi1 ?kd ?ku ?_; (case k1 => k_asm); (case k2 => k_asm); (case k3 => k_asm); (case k4 => k_asm); (case kK => first | exact rfl | with_reducible assumption); (case N => k_asm); (case hu => k_mem); (case U => k_updF); (case hgr => k_mem); (case hgd => k_mem); (case hst => k_mem); (case hne => with_reducible assumption); (case hl => with_reducible assumption); (case hi0 => with_reducible assumption); (case hi1 => with_reducible assumption); (case kd => ktr_room); (case ku => ktr_units)); intro T9 h9 tk9 F9 N9; (try dsimp only at N9); (try dsimp only); (try k_fold)))
local macro_rules | `(tactic| walk_at "subscriptTail Call") => `(tactic| (k_here; (with_reducible show wpAny _ _ (subscriptTail _ _ (Value.ref _) (Value.str _ _)) _ _ _); k_dflt (refine kba_turn (value' := PySem.Expr.Name (PySem.Str.ofString "_") ⟨0, 0, 0, 0⟩) (fun _ => rfl) ?_)))
local macro_rules | `(tactic| walk_at "subscriptTail Subscript") => `(tactic| (k_here; (with_reducible show wpAny _ _ (subscriptTail _ _ (Value.ref _) (Value.str _ _)) _ _ _); k_dflt (refine kba_turn (value' := PySem.Expr.Name (PySem.Str.ofString "_") ⟨0, 0, 0, 0⟩) (fun _ => rfl) ?_)))
local macro_rules | `(tactic| walk_at "subscriptTail Attribute") => `(tactic| (k_here; (with_reducible show wpAny _ _ (subscriptTail _ (PySem.Expr.Slice none _ none _) (Value.ref _) (Value.ref _)) _ _ _); k_dflt (refine' slice_upto ?F ?N ?l ?p ?q ?h1 ?hl ?_ ?s ?t; (case F => k_asm); (case N => k_asm); (case l => walk_at "my mem"); (case p => exact IsPart.none); (case q => exact IsPart.int _ _); (case h1 => l_idx); (case hl => first | with_reducible assumption | omega); (case s => with_unfolding_all rfl); (case t => kmk_pure)); intro D' h' F' N' l1; (try k_lt l1); (try k_sweep)))
local macro_rules | `(tactic| walk_at "subscriptTail Name") => `(tactic| (k_here; (with_reducible show wpAny _ _ (subscriptTail _ (PySem.Expr.Slice none _ none _) (Value.ref _) (Value.ref _)) _ _ _); k_dflt (refine' slice_upto ?F ?N ?l ?p ?q ?h1 ?hl ?_ ?s ?t; (case F => k_asm); (case N => k_asm); (case l => walk_at "my mem"); (case p => exact IsPart.none); (case q => exact IsPart.int _ _); (case h1 => l_idx); (case hl => first | with_reducible assumption | omega); (case s => with_unfolding_all rfl); (case t => kmk_pure)); intro D' h' F' N' l1; (try k_lt l1); (try k_sweep)))
local macro_rules | `(tactic| walk_at "subscriptTail Attribute Slice ref ref") => `(tactic| (k_here; (with_reducible show wpAny _ _ (subscriptTail _ (PySem.Expr.Slice none _ none _) (Value.ref _) (Value.ref _)) _ _ _); k_dflt (refine' slice_upto ?F ?N ?l ?p ?q ?h1 ?hl ?_ ?s ?t; (case F => k_asm); (case N => k_asm); (case l => walk_at "my mem"); (case p => exact IsPart.none); (case q => exact IsPart.int _ _); (case h1 => l_idx); (case hl => first | with_reducible assumption | omega); (case s => with_unfolding_all rfl); (case t => kmk_pure)); intro D' h' F' N' l1; (try k_lt l1); (try k_sweep)))
local macro_rules | `(tactic| walk_at "subscriptTail Name Slice ref ref") => `(tactic| (k_here; (with_reducible show wpAny _ _ (subscriptTail _ (PySem.Expr.Slice none _ none _) (Value.ref _) (Value.ref _)) _ _ _); k_dflt (refine' slice_upto ?F ?N ?l ?p ?q ?h1 ?hl ?_ ?s ?t; (case F => k_asm); (case N => k_asm); (case l => walk_at "my mem"); (case p => exact IsPart.none); (case q => exact IsPart.int _ _); (case h1 => l_idx); (case hl => first | with_reducible assumption | omega); (case s => with_unfolding_all rfl); (case t => kmk_pure)); intro D' h' F' N' l1; (try k_lt l1); (try k_sweep)))
local macro_rules | `(tactic| walk_at "call ref") => `(tactic| (k_here; (try dsimp only [List.cons_append, List.nil_append]); (with_reducible show wpAny _ _ (call (Value.ref 187) [Value.ref _, Value.int _ _]) _ _ _); k_dflt (refine' setc_specU ?k1 ?k2 ?k3 ?k4 ?kK ?N ?U ?hu ?kd ?ku ?_; (case k1 => k_asm); (case k2 => k_asm); (case k3 => k_asm); (case k4 => k_asm); (case kK => first | exact rfl | with_reducible assumption); (case N => k_asm); (case hu => k_mem); (case U => k_updF); (case kd => ktr_room); (case ku => ktr_units)); intro h9 tk9 F9 N9; (try dsimp only at N9); (try dsimp only); (try k_fold)))
local macro_rules | `(tactic| walk_at "call ref") => `(tactic| (k_here; (try dsimp only [List.cons_append, List.nil_append]); (with_reducible show wpAny _ _ (call (Value.ref 187) [Value.ref _, Value.int _ _]) _ _ _); k_dflt (refine' seto_specU ?k1 ?k2 ?k3 ?k4 ?kK ?N ?U ?hu ?hd ?hgr ?hgd ?hl ?hi0 ?hi1 ?kd ?ku ?_; (case k1 => k_asm); (case k2 => k_asm); (case k3 => k_asm); (case k4 => k_asm); (case kK => first | exact rfl | with_reducible assumption); (case N => k_asm); (case hu => k_mem); (case hd => k_mem); (case hgr => k_mem); (case hgd => k_mem); (case U => k_updF); (case hl => with_reducible assumption); (case hi0 => with_reducible assumption); (case hi1 => with_reducible assumption); (case kd => ktr_room); (case ku => ktr_units)); intro h9 tk9 F9 N9; (try dsimp only at N9); (try dsimp only); (try k_fold)))
local macro_rules | `(tactic| walk_at "subscriptTail Name") => `(tactic| (k_here; (with_reducible show wpAny _ _ (subscriptTail _ _ (Value.ref _) (Value.int _ _)) _ _ _); (with_unfolding_all refine' item_map ?k1 ?k2 ?k3 ?k4 ?k5 ?_ ?k6; (case k1 => k_asm); (case k2 => walk_at "my mem"); (case k3 => with_reducible assumption); (case k4 => omega); (case k5 => omega); (case k6 => with_unfolding_all rfl)); intro xI hxI hmI; (try dsimp only)))
local macro_rules | `(tactic| walk_at "subscriptTail Name Call ref int") => `(tactic| (k_here; (with_reducible show wpAny _ _ (subscriptTail _ _ (Value.ref _) (Value.int _ _)) _ _ _); (with_unfolding_all refine' item_map ?k1 ?k2 ?k3 ?k4 ?k5 ?_ ?k6; (case k1 => k_asm); (case k2 => walk_at "my mem"); (case k3 => with_reducible assumption); (case k4 => omega); (case k5 => omega); (case k6 => with_unfolding_all rfl)); intro xI hxI hmI; (try dsimp only)))
local macro_rules | `(tactic| walk_at "call ref") => `(tactic| (k_here; (with_reducible show wpAny _ _ (call (Value.ref 260) _) _ _ _); (refine Halt.of ?_)))
local macro_rules | `(tactic| walk_at "callWith") => `(tactic| ((with_reducible refine callWith_method1 ?_ ?wh ?wp); (case wh => exact rfl); (case wp => exact rfl)))
local macro_rules | `(tactic| walk_at "call builtin:list.append") => `(tactic| (k_here; dsimp only [List.cons_append, List.nil_append]; (with_reducible show wpAny _ _ (call (Value.builtin _) [Value.ref _, Value.ref _]) _ _ _); k_dflt (refine' append_map (f := fun x : Addr => Value.ref x) ?F ?N ?e ?U ?hl ?_; (case F => k_asm); (case N => k_asm); (case U => k_upd); (case e => exact rfl); (case hl => decide)); intro h' F' N'; (try k_sweep)))
local macro_rules | `(tactic| walk_at "call ref") => `(tactic| ((with_reducible show wpAny _ _ (call (Value.ref 267) _) _ _ _); (refine Halt.of ?_)))
local macro_rules | `(tactic| walk_at "call ref") => `(tactic| ((with_reducible show wpAny _ _ (call (Value.ref 281) _) _ _ _); (refine Halt.of ?_)))
local macro_rules | `(tactic| walk_at "call ref") => `(tactic| ((with_reducible show wpAny _ _ (call (Value.ref 286) _) _ _ _); (refine Halt.of ?_)))
local macro_rules | `(tactic| walk_at "call ref") => `(tactic| ((with_reducible show wpAny _ _ (call (Value.ref 293) _) _ _ _); (refine Halt.of ?_)))
local macro_rules | `(tactic| walk_at "call ref") => `(tactic| ((with_reducible show wpAny _ _ (call (Value.ref 298) _) _ _ _); (refine Halt.of ?_)))
local macro_rules | `(tactic| walk_at "call ref") => `(tactic| ((with_reducible show wpAny _ _ (call (Value.ref 303) _) _ _ _); (refine Halt.of ?_)))
theorem in4 {rest : Led} {p a1 a2 a3 a4 : Addr × Obj} (h : p ∈ rest) : p ∈ a1 :: a2 :: a3 :: a4 :: rest := List.mem_cons_of_mem _ (List.mem_cons_of_mem _ (List.mem_cons_of_mem _ (List.mem_cons_of_mem _ h)))
theorem fkv_names {prog : Program} {w : World} {o : Obj} {bs : Int} {tb : Tok} {kp ow D : Addr} (h : o.IsDictOf (strKind prog w) (fkv bs tb kp ow D)) : ∃ kp' ow', kp' = kp ∧ ow' = ow := ⟨_, _, rfl, rfl⟩
theorem fd_name {h₀ h : Heap} {L fd : Addr} {ofd : Obj} {x y : Addr × Obj} {l : Led} (N : News h₀ L h (x :: y :: (fd, ofd) :: l)) : ∃ fd' ofd', fd' = fd ∧ ofd' = ofd := ⟨_, _, rfl, rfl⟩
set_option maxRecDepth 100000 in
set_option maxHeartbeats 8000000 in
theorem law_holds : PySem.Challenge.rw_pc0166_01.Holds := by
  refine Mine.hd ?_
  w_top off
  k_go0
  k_with_none
  k_steps
  refine Halt.on ?_
  rename Fr _ _ _ _ => F7
  rename News _ _ _ _ => N7
  rename IntsAre _ _ => hI7
  k_dflt (refine box_spec (by k_asm) F7 (by k_asm) (by k_asm) (by first | exact rfl | assumption) N7 (by walk_at "my mem") hI7 (by omega) (by ktr_room) (by ktr_units) ?_)
  intro b g ob gv gs gn h7 tk7 F8 N8 lb lg1 lg2 hgi hgl hbx
  clear F7 N7
  obtain ⟨zg1, zg2⟩ := And.intro (lg1 _ List.mem_cons_self) (lg1 _ (List.mem_cons_of_mem _ List.mem_cons_self))
  replace zg1 : @Ne Nat _ g := zg1
  replace zg2 : @Ne Nat _ g := zg2
  clear lg1
  k_lt lg2
  (try dsimp only)
  (try k_fold)
  k_steps
  refine Halt.on ?_
  k_dflt (refine LCg.Assign_ListComp_U (F₀ := by k_asm) (by rfl) (by with_unfolding_all rfl) (by with_unfolding_all rfl) (by decide) (by rfl) (by decide) (by rfl) (by rfl) (by rfl) ?_)
  k_steps
  refine Halt.on ?_
  rename Fr _ _ _ _ => F7
  rename News _ _ _ _ => N7
  rename IsRange _ _ _ _ _ _ _ _ => hR7
  rename Obj.IsDictOf _ _ (strPairs _) => hd7
  rename Obj.data _ = Data.cell (some (Value.ref _)) => hcw
  obtain ⟨wd, ewd⟩ : ∃ wd, _ = Data.cell (some (Value.ref wd)) := ⟨_, hcw⟩
  have ewd2 := ewd.symm.trans hcw
  injection ewd2 with ewd2
  injection ewd2 with ewd2
  injection ewd2 with ewd3
  subst ewd3
  clear ewd
  have hd8 : Obj.IsDictOf _ _ (wkv _ _ _ 0 _) := hd7
  obtain ⟨gr, fns, frs, e1, e2, e3⟩ := wkv_names hd8
  subst e1 e2 e3
  k_dflt (refine cells_src (wd := wd) (made := 0) (first := 5) (by rfl) F7 N7 (by k_updF) hR7 hd8 ?turn ?fin)
  case turn =>
    intro i R2 I C D oI oC oD m₂ h tk tv o tm' E' hi hR hRw hC hx F N q1 q2 q3 n1 n2 n3 c6
    have g1 := hR (_, _) (mem_data hcw (by walk_at "my mem")) (by refine neN ?_; dsimp only; omega)
    clear hR hR7 F7 N7
    (try k_fold)
    k_steps
    rename News _ _ _ _ => N9
    rename _ ∧ _ ∧ _ ∧ _ ∧ AllLt _ R2 => l9
    exact CellEnd.intro (base := [(I, oI), (C, oC), (D, oD)]) N9 (by assumption) l9 (by assumption) (by omega) rfl
  case fin =>
    intro x0 x1 x2 D a0 a1 a2 b0 b1 b2 tm' o h tk F N hb0 h01 h12 hD hD0 hD1 hD2 hd9
    clear hR7 F7 N7
    k_lt hb0
    (try dsimp only at N)
    obtain ⟨gd, e4, m_gr0⟩ := inst_name (gr := gr) (C := 216) N (by walk_at "my mem")
    subst e4
    obtain ⟨k1, k2, stk, opn, e5, e6, m_gd0⟩ := gd_name (gd := gd) N (by walk_at "my mem")
    subst e5 e6
    obtain ⟨t1, t2, t3, sn, m_stk0⟩ := three_name (stk := stk) N (by walk_at "my mem")
    obtain ⟨R, N2, r1, r2, r3⟩ := focus N (show (frs, refsL (fun x : Addr => x) [] 0) ∈ _ by walk_at "my mem")
    have m_wd := r2 (wd, o) (by walk_at "my mem") (by refine neN ?_; dsimp only; omega)
    have m_cell := r2 (_, _) (mem_data hcw (by walk_at "my mem")) (by refine neN ?_; dsimp only; omega)
    clear N
    (try dsimp only)
    (try k_fold)
    k_with "exec For Name Call cons nil" => (refine Halt.of ?_)
    k_steps
    rename News _ _ _ (_ :: _ :: _ :: _ :: R) => N3
    rename Obj.IsDictOf _ _ (strPairs _) => hd10
    have hfo : Obj.IsDictOf _ _ (fkv 0 _ _ _ D) := hd10
    obtain ⟨kp, ow, e7, e8⟩ := fkv_names hfo
    subst e7 e8
    obtain ⟨fd, ofd, e9, e10⟩ := fd_name N3
    subst e9 e10
    rename frs < _ ∧ AllLt _ R => lfd
    rename _ < kp ∧ frs < kp ∧ AllLt kp R => lkp
    rename _ < ow ∧ _ < ow ∧ frs < ow ∧ AllLt ow R => low
    have hA := allLt_all lfd.2
    have mb := r2 (b, ob) (by walk_at "my mem") (by refine neN ?_; dsimp only; omega)
    have mgd := r2 _ m_gd0 (by refine neN ?_; dsimp only; omega)
    have mstk := r2 _ m_stk0 (by refine neN ?_; dsimp only; omega)
    have mopn := r2 (opn, listOf #[] 0) (by walk_at "my mem") (by refine neN ?_; dsimp only; omega)
    have mfns := r2 (fns, listOf #[] 0) (by walk_at "my mem") (by refine neN ?_; dsimp only; omega)
    have mx0 := r2 (x0, listOf #[.int 5 a0, .int (0 + 1) b0] 0) (by walk_at "my mem") (by refine neN ?_; dsimp only; omega)
    have mx1 := r2 (x1, listOf #[.int (5 + 1) a1, .int (0 + 2) b1] 0) (by walk_at "my mem") (by refine neN ?_; dsimp only; omega)
    have mx2 := r2 (x2, listOf #[.int (5 + 2) a2, .int (0 + 3) b2] 0) (by walk_at "my mem") (by refine neN ?_; dsimp only; omega)
    have mgr := r2 _ m_gr0 (by refine neN ?_; dsimp only; omega)
    have mg := r2 (g, listOf gv.toArray gn) (by walk_at "my mem") (by refine neN ?_; dsimp only; omega)
    have mD := r2 (D, listOf #[.ref x0, .ref x1, .ref x2] 3) (by walk_at "my mem") (Ne.symm (hD (frs, listOf #[] 0) (by walk_at "my mem")))
    have hst := start_inv (fd := fd) N3 hbx hgi hgl hd9 hfo (in4 mb) (in4 m_wd) (in4 mgd) (in4 mstk) (in4 mopn) (List.mem_cons_of_mem _ (List.mem_cons_of_mem _ (List.mem_cons_of_mem _ List.mem_cons_self))) (in4 mfns) (in4 mx0) (in4 mx1) (in4 mx2) (in4 mgr) (in4 mg) (in4 m_cell)
      (List.mem_cons_of_mem _ (List.mem_cons_of_mem _ List.mem_cons_self)) (in4 mD) (List.mem_cons_of_mem _ List.mem_cons_self) List.mem_cons_self ⟨by omega, by omega, by omega, by omega, by omega, by omega, by omega, by omega, by omega, by omega, h01, h12⟩ zg2
      (by
        intro y hy
        simp only [List.mem_cons, List.not_mem_nil, or_false] at hy
        rcases hy with rfl | rfl | rfl | rfl | rfl | rfl | rfl | rfl | rfl | rfl | rfl | rfl | rfl <;> first | exact hD0 | exact hD1 | exact hD2 | exact hD (_, _) (by walk_at "my mem"))
      (pw_nodup (by simp only [List.pairwise_cons, List.mem_cons, List.not_mem_nil, or_false, forall_eq_or_imp, forall_eq, List.Pairwise.nil, and_true, false_implies, implies_true]; omega))
      (by
        intro y hy z hz
        have h1 : @LT.lt Nat _ y fd := by
          simp only [List.mem_cons, List.not_mem_nil, or_false] at hy
          rcases hy with rfl | rfl | rfl | rfl | rfl | rfl | rfl | rfl | rfl | rfl | rfl | rfl | rfl | rfl <;> first | exact lfd.1 | exact hA _ m_cell | exact hA _ mg | exact hA _ mb | exact hA _ m_wd | exact hA _ mgd | exact hA _ mgr | exact hA _ mstk | exact hA _ mopn | exact hA _ mfns | exact hA _ mx0 | exact hA _ mx1 | exact hA _ mx2 | exact hA _ mD
        simp only [List.mem_cons, List.not_mem_nil, or_false] at hz
        rcases hz with rfl | rfl | rfl
        · exact h1
        · exact Nat.lt_trans h1 lkp.1
        · exact Nat.lt_trans h1 (Nat.lt_trans lkp.1 low.1))
    obtain ⟨W0, V0, eb, ewd, mc, ex0, N0⟩ := hst
    have T0 : Tied _ _ b wd _ _ [] 0 W0 := ⟨V0, eb, ewd, mc, ex0⟩
    clear N3
    refine Halt.on ?_
    rename Fr _ _ _ _ => F7
    with_unfolding_all refine For_invVF F7 rfl rfl ?_
    k_with "pyIter ref" => (refine Halt.of ?_)
    k_steps
    refine Halt.on ?_
    rename Fr _ _ _ _ => F8
    rename News _ _ _ (WSt.led _ _) => N8
    k_dflt (refine x_draw (by k_asm) F8 (by k_asm) (by k_asm) (by first | exact rfl | assumption) T0 N8 (by decide) (by decide) (by ktr_room) (by ktr_units) ?_)
    intro n tn W1 h9 tk9 hn0 hn1 T1 F9 N9
    clear F8 N8
    (try dsimp only)
    (try k_fold)
    k_steps
    refine Halt.on ?_
    rename IsRange _ _ _ _ _ _ _ _ => hR9
    rename Fr _ _ _ _ => F10
    rename News _ _ _ (WSt.led _ _) => N10
    refine iter_tied [Str.ofString "form"] T1 (by rfl) hR9 (by omega) (by omega) F10 N10 ?turn ?done
    case turn =>
      clear F10 N10 hR9
      rintro i W t u ⟨ia, io⟩ h tk hil V hit F4 N4
      dsimp only [envOfC, envOf] at hit F4 N4
      have hi9 : i ≤ 9 := by omega
      have V1 := V.add (x := (ia, io)) hit
      have N5 := V.add_news N4
      have mcell := V1.cell
      generalize ({ W with ex := [(ia, io)] } : WSt) = Wa at V1 N5 mcell
      clear N4 V hit
      (try k_fold)
      k_with_none
      k_steps
      refine Halt.on ?_
      rename Fr _ _ _ _ => F8
      rename News _ _ _ (WSt.led _ _) => N8
      k_dflt (refine x_draw (by k_asm) F8 (by k_asm) (by k_asm) (by first | exact rfl | assumption) V1 N8 (by decide) (by decide) (by ktr_room) (by ktr_units) ?_)
      intro form tf Wb h5 tk5 hf0 hf1 V2 F9 N9
      have mcell2 := V2.cell
      clear F8 N8 mcell V1
      (try dsimp only)
      (try k_fold)
      k_steps
      case _ =>
        refine Halt.on ?_
        rename Fr _ _ _ _ => F8
        rename News _ _ _ (WSt.led _ _) => N8
        k_dflt (refine x_make (by k_asm) F8 (by k_asm) (by k_asm) (by first | exact rfl | assumption) V2 hi9 N8 (by ktr_room) (by ktr_units) ?_)
        intro Wc h6 tk6 V3 F9 N9
        have mcell3 := V3.cell
        clear F8 N8 mcell2 V2
        (try dsimp only)
        (try k_fold)
        k_steps
        refine Halt.on ?_
        rename Fr _ _ _ _ => F8
        rename News _ _ _ (WSt.led _ _) => N8
        k_dflt (refine x_stands (by k_asm) F8 (by k_asm) (by k_asm) (by first | exact rfl | assumption) V3 (by omega) N8 (by ktr_room) (by ktr_units) ?_)
        intro h7 tk7 F9 N9
        clear F8 N8
        (try dsimp only)
        (try k_fold)
        k_steps
        rename Fr _ _ _ _ => F8
        rename News _ _ _ (WSt.led _ _) => N8
        obtain ⟨V4, e4, o4⟩ := V3.drop
        refine FLPost.intro _ F8 N8 (fun p hp => ?_) o4 ?_ V4
        · rw [e4]
          rcases List.mem_cons.mp hp with h | h
          · rw [h]; simp
          · exact List.mem_append_left _ h
        · intro z h1 h2
          have h2' : ¬ z = Str.ofString "form" := by simpa using h2
          simp only [if_neg h1, if_neg h2', h2]
          rfl
      case _ =>
        refine Halt.on ?_
        refine eq_case (fun h3 => ?_) (fun h3 => ?_)
        case refine_1 =>
          k_steps
          refine Halt.on ?_
          rename Fr _ _ _ _ => F8
          rename News _ _ _ (WSt.led _ _) => N8
          k_dflt (refine x_enter (by k_asm) F8 (by k_asm) (by k_asm) (by first | exact rfl | assumption) V2 hi9 N8 (by ktr_room) (by ktr_units) ?_)
          intro Wc h6 tk6 V3 F9 N9
          have mcell3 := V3.cell
          clear F8 N8 mcell2 V2
          (try dsimp only)
          (try k_fold)
          k_steps
          refine Halt.on ?_
          rename Fr _ _ _ _ => F8
          rename News _ _ _ (WSt.led _ _) => N8
          k_dflt (refine x_stands (by k_asm) F8 (by k_asm) (by k_asm) (by first | exact rfl | assumption) V3 (by omega) N8 (by ktr_room) (by ktr_units) ?_)
          intro h7 tk7 F9 N9
          clear F8 N8
          (try dsimp only)
          (try k_fold)
          k_steps
          rename Fr _ _ _ _ => F8
          rename News _ _ _ (WSt.led _ _) => N8
          obtain ⟨V4, e4, o4⟩ := V3.drop
          refine FLPost.intro _ F8 N8 (fun p hp => ?_) o4 ?_ V4
          · rw [e4]
            rcases List.mem_cons.mp hp with h | h
            · rw [h]; simp
            · exact List.mem_append_left _ h
          · intro z h1 h2
            have h2' : ¬ z = Str.ofString "form" := by simpa using h2
            simp only [if_neg h1, if_neg h2', h2]
            rfl
        case refine_2 =>
          k_steps
          refine Halt.on ?_
          refine eq_case (fun h4 => ?_) (fun h4 => ?_)
          case refine_1 =>
            k_steps
            refine Halt.on ?_
            rename Fr _ _ _ _ => F8
            rename News _ _ _ (WSt.led _ _) => N8
            k_dflt (refine x_leave (by k_asm) F8 (by k_asm) (by k_asm) (by first | exact rfl | assumption) V2 hi9 N8 (by ktr_room) (by ktr_units) ?_)
            intro Wc h6 tk6 V3 F9 N9
            have mcell3 := V3.cell
            clear F8 N8 mcell2 V2
            (try dsimp only)
            (try k_fold)
            k_steps
            refine Halt.on ?_
            rename Fr _ _ _ _ => F8
            rename News _ _ _ (WSt.led _ _) => N8
            k_dflt (refine x_stands (by k_asm) F8 (by k_asm) (by k_asm) (by first | exact rfl | assumption) V3 (by omega) N8 (by ktr_room) (by ktr_units) ?_)
            intro h7 tk7 F9 N9
            clear F8 N8
            (try dsimp only)
            (try k_fold)
            k_steps
            rename Fr _ _ _ _ => F8
            rename News _ _ _ (WSt.led _ _) => N8
            obtain ⟨V4, e4, o4⟩ := V3.drop
            refine FLPost.intro _ F8 N8 (fun p hp => ?_) o4 ?_ V4
            · rw [e4]
              rcases List.mem_cons.mp hp with h | h
              · rw [h]; simp
              · exact List.mem_append_left _ h
            · intro z h1 h2
              have h2' : ¬ z = Str.ofString "form" := by simpa using h2
              simp only [if_neg h1, if_neg h2', h2]
              rfl
          case refine_2 =>
            k_steps
            refine Halt.on ?_
            rename Fr _ _ _ _ => F8
            rename News _ _ _ (WSt.led _ _) => N8
            k_dflt (refine x_write (by k_asm) F8 (by k_asm) (by k_asm) (by first | exact rfl | assumption) V2 hi9 N8 (by ktr_room) (by ktr_units) ?_)
            intro Wc h6 tk6 V3 F9 N9
            have mcell3 := V3.cell
            clear F8 N8 mcell2 V2
            (try dsimp only)
            (try k_fold)
            k_steps
            refine Halt.on ?_
            rename Fr _ _ _ _ => F8
            rename News _ _ _ (WSt.led _ _) => N8
            k_dflt (refine x_stands (by k_asm) F8 (by k_asm) (by k_asm) (by first | exact rfl | assumption) V3 (by omega) N8 (by ktr_room) (by ktr_units) ?_)
            intro h7 tk7 F9 N9
            clear F8 N8
            (try dsimp only)
            (try k_fold)
            k_steps
            rename Fr _ _ _ _ => F8
            rename News _ _ _ (WSt.led _ _) => N8
            obtain ⟨V4, e4, o4⟩ := V3.drop
            refine FLPost.intro _ F8 N8 (fun p hp => ?_) o4 ?_ V4
            · rw [e4]
              rcases List.mem_cons.mp hp with h | h
              · rw [h]; simp
              · exact List.mem_append_left _ h
            · intro z h1 h2
              have h2' : ¬ z = Str.ofString "form" := by simpa using h2
              simp only [if_neg h1, if_neg h2', h2]
              rfl
    case done =>
      clear F10 N10 hR9
      intro W u h tk F4 N4
      dsimp only [envOfC, envOf] at F4 N4
      (try k_fold)
      k_with_none
      k_steps
end
end Mine
theorem PySem.Challenge.cw_pc0166_01_holds : PySem.Challenge.rw_pc0166_01.Holds := by
  exact Mine.law_holds

