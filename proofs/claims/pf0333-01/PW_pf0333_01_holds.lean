import PyProof.Rows.All
import Wide.All
import OpenK.AllK
import Wide.FinOn
import Lean
import PySem.Challenge.RW_pf0333_01
open PySem PySem.W PyProof.Rows
set_option Elab.async false
set_option compiler.extract_closed false
set_option linter.unusedVariables false
set_option linter.unusedSimpArgs false
namespace Mine
section
theorem pickOk {K : Params → Frag} (key : ∀ as e (H : Hook), H = kHook K as e → PySem.Challenge.rw_pf0333_01.row.Holds) (as : List Addr) (e : ∀ P, as = (K P).map (·.1)) : PySem.Challenge.rw_pf0333_01.row.Holds := key as e _ rfl
def pickK (K : Params → Frag) (_ : (∀ as e (H : Hook), H = kHook K as e → PySem.Challenge.rw_pf0333_01.row.Holds) → PySem.Challenge.rw_pf0333_01.row.Holds) : Params → Frag := K
local macro_rules | `(tactic| o_head $H) => `(tactic| exact (by assumption : ∀ as e (H : Hook), H = kHook _ as e → PySem.Challenge.rw_pf0333_01.row.Holds) _ _ $H rfl)
set_option maxRecDepth 100000 in
set_option maxHeartbeats 8000000 in
noncomputable def top : Params → Frag := by
  apply pickK
  intro key
  k_head
end
def keep : List Stmt → List Nat → List Stmt
  | x :: r, 1 :: k => x :: keep r k
  | _ :: r, 0 :: k => keep r k
  | _, _ => []
def pickL {l : List Stmt} (v : List Stmt) (_ : l = v) : List Stmt := v
set_option maxRecDepth 100000 in
noncomputable def body : List Stmt := by
  apply pickL (l := keep PySem.Challenge.pw_pf0333_01.main.body [0,1,1,1,0,1,1,1,1,1,1,1,1,1,1,1,0,1,1,1,1,1,1,1,1])
  exact (show _ = [_,_,_,_,_,_,_,_,_,_,_,_,_,_,_,_,_,_,_,_,_,_] from rfl)
noncomputable def view : Program := { PySem.Challenge.pw_pf0333_01 with main := { PySem.Challenge.pw_pf0333_01.main with body := body } }
def pickD {x : Option (DefRec × List (Str × PySem.Expr))} (v : DefRec) (_ : ∃ k, x = some (v, k)) : DefRec := v
set_option maxRecDepth 100000 in
noncomputable def lawRec : DefRec := by
  apply pickD (x := defOf view (Str.ofString "law"))
  exact ⟨_, rfl⟩
def asL : List Addr := [2,3,15,22,24,25,27,28,29,30,31,32,35,42,43,44,47,54,55,56,66,67,69,70,72,73,74,75,76,77,78,88,89,91,92,94,95,96,97,98,99,100,110,112,113,115,116,117,118,119,120,121,124,126,127,129,130,131,133,134,136,137,138,140,141,143,144,145,147,148,150,151,152,154,155,157,158,159,161,162,164,165,166,168,169,171,172,173,175,176,178,179,180,182,183,185,186,187,189,190,192,193,194,196,197,199,200,201,203,204,206,207,208,211,212,213,215,216,218,219,220,222,223,225,226,227,229,230,232,233]
theorem asL_ok (P : Params) : asL = (top.heap_1 P).map (·.1) := by kernel_rfl
theorem log2_small {y : Int} (h0 : 0 < y) (h1 : y ≤ 10 ^ 13) : y.natAbs.log2 < 9000 := by
  have h : y.natAbs ≠ 0 := by omega
  have h3 : y.natAbs.log2 < 60 := by
    rw [Nat.log2_lt h]
    omega
  omega
theorem share_eq (a r : Int) (h : 0 < r) : (a - a.fmod r).fdiv r = a.fdiv r := by
  have e : a - a.fmod r = r * a.fdiv r := by have := Int.fmod_add_mul_fdiv a r; omega
  rw [e, Int.mul_fdiv_cancel_left _ (by omega)]
def unitAt (i : Int) : Str := if i = 0 then Str.ofString "second" else if i = 1 then Str.ofString "minute" else if i = 2 then Str.ofString "hour" else if i = 3 then Str.ofString "day" else Str.ofString "week"
def isUnit (u : Str) : Prop := u = Str.ofString "second" ∨ u = Str.ofString "minute" ∨ u = Str.ofString "hour" ∨ u = Str.ofString "day" ∨ u = Str.ofString "week"
def secs (u : Str) : Int := if u = Str.ofString "second" then 1 else if u = Str.ofString "minute" then 60 else if u = Str.ofString "hour" then 3600 else if u = Str.ofString "day" then 86400 else 604800
def spanOf (i : Int) : Int := secs (unitAt i) * 1000000000
theorem unit_is (i : Int) : isUnit (unitAt i) := by
  unfold unitAt isUnit
  repeat' split
  all_goals simp
def nth : List Stmt → Nat → Stmt
  | [], _ => .Pass default
  | x :: _, 0 => x
  | _ :: r, n + 1 => nth r n
def fnBody : Stmt → List Stmt
  | .FunctionDef _ _ b _ _ _ _ _ _ _ => b
  | _ => []
def fnScope : Stmt → Option Scope
  | .FunctionDef _ _ _ _ _ _ s _ _ _ => some s
  | _ => none
def forBody : Stmt → List Stmt
  | .For _ _ b _ _ => b
  | _ => []
def limitDef : Stmt := nth PySem.Challenge.rw_pf0333_01.row.prog.main.body 21
def loopBody : List Stmt := forBody (nth (fnBody limitDef) 7)
theorem fdiv_nonneg {a b : Int} (h : 0 < b) (h0 : 0 ≤ a) : 0 ≤ a.fdiv b := by
  rw [Int.fdiv_eq_ediv_of_nonneg _ (by omega)]
  exact Int.ediv_nonneg h0 (by omega)
theorem fd_gen {prog : Program} {w : World} {A : Around} {E : Value → Shared → Prop} {s : Shared} {a b : Int} {t u : Tok} {Q : Value → Shared → Prop} (h0 : 0 < b) (h1 : b ≤ 10 ^ 13) (h : ∀ v, v = a.fdiv b → (0 ≤ a → 0 ≤ v) → Q (.int v s.toks) { s with toks := s.toks + 1 }) :
    wpAny (model prog w) A (binaryOp .FloorDiv (.int a t) (.int b u)) Q E s := floordiv_int (by omega) (h _ rfl (fdiv_nonneg h0)) (Or.inl (PyProof.noPylong_of_log2 (log2_small h0 h1)))
theorem units_kw (A : Around) (C : Addr) (vals : List Value) (kw : List (Str × Value)) : (A.under (.builtin "type.__call__" ⟨.ref C :: vals, kw⟩)).units = A.units + 1 := rfl
theorem execs_gen {M : Model} {A : Around} {env : Env} {E : Value → Shared → Prop} {st : Stmt} {rest : List Stmt} {Q : Flow → Shared → Prop} {h : Heap} {g : Array GenState} {d : Drawn} {X : Nat} {os : OsState}
    (H : ∀ tk, wpAny M A (exec st env) (fun f s' => match f with | .next => wpAny M A (execs rest env) Q E s' | f => Q f s') E ⟨h, g, d, tk, os⟩) :
    wpAny M A (execs (st :: rest) env) Q E ⟨h, g, d, X, os⟩ := wpAny_execs_cons (H X)
theorem item_pos {prog : Program} {w : World} {A : Around} {E : Value → Shared → Prop} {s : Shared} {value slice : PySem.Expr} {l : Addr} {vs : List Value} {ns : List Int} {k : Int} {u : Tok} {Q : Value → Shared → Prop} (hl : s.heap.IsList l vs.toArray) (hi : IntsAre vs ns)
    (h0 : 0 ≤ k) (h1 : k < ns.length) (hfit : k < 2 ^ 63) (hp : ∀ n ∈ ns, 0 ≤ n) (h : ∀ v t, 0 ≤ v → Q (.int v t) s)
    (hs : subscripted slice false (.ref l) (.int k u) = operate [.ref l, .int k u] (getItem (.ref l) (.int k u)) := by with_unfolding_all rfl) :
    wpAny (model prog w) A (subscriptTail value slice (.ref l) (.int k u)) Q E s := by
  refine item_anyK hl hi h0 h1 hfit (fun t => h _ t ?_) hs
  have hk : k.toNat < ns.length := by omega
  rw [List.getD_eq_getElem?_getD, List.getElem?_eq_getElem hk]
  exact hp _ (List.getElem_mem hk)
theorem pow_lit {prog : Program} {w : World} {A : Around} {E : Value → Shared → Prop} {s : Shared} {a n v : Int} {t u : Tok} {Q : Value → Shared → Prop} (hn : 0 ≤ n) (hsz : (Builtin.Int.intBits a : Int) * n ≤ 2 ^ 27) (e : a ^ n.toNat = v) (h : Q (.int v s.toks) { s with toks := s.toks + 1 }) :
    wpAny (model prog w) A (binaryOp .Pow (.int a t) (.int n u)) Q E s := pow_int hn hsz (e ▸ h)
theorem ints_snoc {vs : List Value} {ns : List Int} {n : Int} {t : Tok} (h : IntsAre vs ns) : IntsAre (vs ++ [.int n t]) (ns ++ [n]) := by
  induction h with
  | nil => exact IntsAre.cons _ _ IntsAre.nil
  | cons a b _ ih => exact IntsAre.cons _ _ ih
theorem idx_lt {k x : Int} {n : Nat} {ns : List Int} (h : k < 0 + ↑(0 + (n : Int) + 1 - 0).toNat) (e : ns.length = n) : k < ((ns ++ [x]).length : Int) := by
  simp only [List.length_append, List.length_cons, List.length_nil]
  omega
theorem idx_fit {k : Int} {n : Nat} (h : k < 0 + ↑(0 + (n : Int) + 1 - 0).toNat) (e : n < 8) : k < 2 ^ 63 := by omega
theorem snoc_fit {vs : List Value} {v : Value} {ns : List Int} {n : Nat} (h : vs.length = ns.length) (h2 : ns.length = n) (h3 : n < 8) : (vs ++ [v]).toArray.size ≤ PySem.sizeLine := by
  simp only [List.size_toArray, List.length_append, List.length_cons, List.length_nil, PySem.sizeLine_eq]
  omega
structure LS where
  now : Int
  tn : Tok
  on : Obj
  times : List Int
  vT : List Value
  nT : Nat
  taken : List Int
  vK : List Value
  nK : Nat
  tok : Int
  ttok : Tok
  last : Int
  tlast : Tok
def lv (B now : Int) : List Int → List Int → Int
  | t :: T, c :: K => min (B + (now - t) * 1000000 - (c + K.sum)) (lv B now T K)
  | _, _ => B
theorem lv_snoc {B now d c : Int} (hd : 0 ≤ d) (hc : 0 ≤ c) : ∀ {T K : List Int}, T.length = K.length → lv B (now + d) (T ++ [now + d]) (K ++ [c]) = min B (lv B now T K + d * 1000000) - c
  | [], [], _ => by simp only [List.nil_append, lv, List.sum_nil]; omega
  | t :: T, k :: K, h => by
    have ih := lv_snoc (B := B) (now := now) hd hc (T := T) (K := K) (by simpa using h)
    simp only [List.cons_append, lv, List.sum_append, List.sum_cons, List.sum_nil, ih]
    omega
  | [], _ :: _, h => by simp at h
  | _ :: _, [], h => by simp at h
theorem lv_le {B now : Int} : ∀ {T K : List Int} {i : Nat}, T.length = K.length → i < T.length → lv B now T K ≤ B + (now - T.getD i 0) * 1000000 - (K.drop i).sum
  | t :: T, k :: K, 0, _, _ => by simp only [lv, List.getD_cons_zero, List.drop_zero, List.sum_cons]; omega
  | t :: T, k :: K, i + 1, h, hi => by
    have ih := lv_le (B := B) (now := now) (T := T) (K := K) (i := i) (by simpa using h) (by simpa using hi)
    simp only [lv, List.getD_cons_succ, List.drop_succ_cons]
    omega
  | [], _, _, _, hi => by simp at hi
  | _ :: _, [], _, h, _ => by simp at h
theorem lv_hit {B now : Int} : ∀ {T K : List Int}, T.length = K.length → lv B now T K = B ∨ ∃ i, i < T.length ∧ lv B now T K = B + (now - T.getD i 0) * 1000000 - (K.drop i).sum
  | [], [], _ => .inl rfl
  | t :: T, k :: K, h => by
    by_cases q : B + (now - t) * 1000000 - (k + K.sum) ≤ lv B now T K
    · refine .inr ⟨0, by simp, ?_⟩
      simp only [lv, List.getD_cons_zero, List.drop_zero, List.sum_cons]
      omega
    · have e : lv B now (t :: T) (k :: K) = lv B now T K := by simp only [lv]; omega
      rw [e]
      rcases lv_hit (B := B) (now := now) (T := T) (K := K) (by simpa using h) with g | ⟨i, hi, g⟩
      · exact .inl g
      · refine .inr ⟨i + 1, by simpa using hi, ?_⟩
        rw [List.getD_cons_succ, List.drop_succ_cons]
        exact g
  | [], _ :: _, h => by simp at h
  | _ :: _, [], h => by simp at h
theorem left_eq {B now d M tok : Int} {T K : List Int} {n : Nat} (hd : 0 ≤ d) (hT : T.length = n) (hK : K.length = n) (htok : tok = lv B now T K)
    (hm : M ∈ (rangeKs 0 (0 + (n : Int) + 1 - 0).toNat).map fun k' => B + (now + d - (T ++ [now + d]).getD k'.toNat 0) * 1000000 - ((K ++ [0]).drop k'.toNat).sum)
    (hmin : ∀ a ∈ (rangeKs 0 (0 + (n : Int) + 1 - 0).toNat).map (fun k' => B + (now + d - (T ++ [now + d]).getD k'.toNat 0) * 1000000 - ((K ++ [0]).drop k'.toNat).sum), M ≤ a) :
    M = min B (tok + d * 1000000) := by
  have hs := lv_snoc (B := B) (now := now) hd (Int.le_refl 0) (T := T) (K := K) (by omega)
  have hlen : (T ++ [now + d]).length = (K ++ [0]).length := by simp; omega
  have hn : (T ++ [now + d]).length = n + 1 := by simp; omega
  have hmem : ∀ i, i < n + 1 → ((i : Nat) : Int) ∈ rangeKs 0 (0 + (n : Int) + 1 - 0).toNat := fun i hi => by
    unfold rangeKs
    exact List.mem_map.mpr ⟨i, List.mem_range.mpr (by omega), by omega⟩
  have hle : lv B (now + d) (T ++ [now + d]) (K ++ [0]) ≤ M := by
    obtain ⟨k, hk, rfl⟩ := List.mem_map.mp hm
    have := mem_rangeKs hk
    exact lv_le hlen (by omega)
  have hge : M ≤ lv B (now + d) (T ++ [now + d]) (K ++ [0]) := by
    rcases lv_hit (B := B) (now := now + d) hlen with g | ⟨i, hi, g⟩
    · rw [g]
      have h1 := hmin _ (List.mem_map.mpr ⟨(n : Int), hmem n (by omega), rfl⟩)
      have e1 : (T ++ [now + d]).getD ((n : Int).toNat) 0 = now + d := by
        rw [List.getD_eq_getElem?_getD, Int.toNat_natCast, List.getElem?_append_right (by omega), hT]
        simp
      have e2 : (K ++ [0]).drop ((n : Int).toNat) = [0] := by
        rw [Int.toNat_natCast, ← hK, List.drop_left]
      rw [e1, e2] at h1
      simpa using h1
    · rw [g]
      have h1 := hmin _ (List.mem_map.mpr ⟨(i : Int), hmem i (by omega), rfl⟩)
      rw [Int.toNat_natCast] at h1
      exact h1
  rw [htok]
  omega
theorem set_at_end {vs : List Value} {v v0 : Value} {n : Nat} (e : vs.length = n) : (vs ++ [v0]).set (0 + (n : Int)).toNat v = vs ++ [v] := by
  have h : (0 + (n : Int)).toNat = vs.length := by omega
  rw [h, List.set_append_right _ _ (Nat.le_refl _)]
  simp
theorem set_last {prog : Program} {w : World} {A : Around} {E : Value → Shared → Prop} {s : Shared} {h₀ : Heap} {L D : Addr} {m : Str → Option Value} {news news' : List (Addr × Obj)} {vs : List Value} {v0 : Value} {ns : List Int} {c n : Nat} {t u : Tok} {x : Int} {Q : Unit → Shared → Prop}
    (F : Fr h₀ L s.heap m) (N : News h₀ L s.heap news) (U : Upd D (listOf (vs ++ [v0]).toArray c) (listOf (vs ++ [Value.int x u]).toArray c) news news') (hi : IntsAre (vs ++ [v0]) ns) (hv : vs.length = n) (h8 : n < 8)
    (h : ∀ h', Fr h₀ L h' m → News h₀ L h' news' → Q () { s with heap := h' }) :
    wpAny (model prog w) A (setItem (.ref D) (.int (0 + (n : Int)) t) (.int x u)) Q E s := by
  have hl : (vs ++ [v0]).length = ns.length := hi.length
  simp only [List.length_append, List.length_cons, List.length_nil] at hl
  refine ksa_set (k := 0 + (n : Int)) F N (by rw [set_at_end hv]; exact U) hi (by omega) (by omega) (by omega) fun h' F' N' _ _ _ => h h' F' N'
theorem item_last {prog : Program} {w : World} {A : Around} {E : Value → Shared → Prop} {s : Shared} {value slice : PySem.Expr} {l : Addr} {vs : List Value} {ns : List Int} {n : Nat} {u t0 : Tok} {x : Int} {Q : Value → Shared → Prop} (hl : s.heap.IsList l (vs ++ [Value.int x t0]).toArray) (hi : IntsAre vs ns) (e : ns.length = n) (h8 : n < 8)
    (h : ∀ t, Q (.int x t) s)
    (hs : subscripted slice false (.ref l) (.int (0 + (n : Int)) u) = operate [.ref l, .int (0 + (n : Int)) u] (getItem (.ref l) (.int (0 + (n : Int)) u)) := by with_unfolding_all rfl) :
    wpAny (model prog w) A (subscriptTail value slice (.ref l) (.int (0 + (n : Int)) u)) Q E s := by
  have e1 : (ns ++ [x]).getD (0 + (n : Int)).toNat 0 = x := by
    have h2 : (0 + (n : Int)).toNat = ns.length := by omega
    rw [h2, List.getD_eq_getElem?_getD, List.getElem?_append_right (Nat.le_refl _)]
    simp
  refine item_anyK hl (ints_snoc hi) (by omega) (by simp only [List.length_append, List.length_cons, List.length_nil]; omega) (by omega) (fun t => ?_) hs
  rw [e1]
  exact h t
theorem b_no {p : Prop} [Decidable p] {o : Bool} (h : ¬ p) : ¬ ((o != (decide p != o)) = true) := by rw [decide_eq_false h]; cases o <;> decide
theorem b_yes {p : Prop} [Decidable p] {o : Bool} (h : p) : ¬ (((!o) != (decide p != o)) = true) := by rw [decide_eq_true h]; cases o <;> decide
theorem ne_no {a b : Int} (h : a = b) : ¬ ((a != b) = true) := by simp [h]
theorem ne_no' {a b : Int} (h : a = b) : ¬ (decide (a ≠ b) = true) := by simp [h]
theorem kst_move {x : Str} {u rest : Str → Option Value} : ∀ {ps : List (Str × Value)}, (∀ p ∈ ps, p.1 ≠ x) → (fun y => if y = x then u y else kstB rest ps y) = kstB (fun y => if y = x then u y else rest y) ps
  | [], _ => rfl
  | p :: r, h => by
    have ih := kst_move (x := x) (u := u) (rest := rest) (ps := r) fun q hq => h q (.tail _ hq)
    funext y
    have ihy := congrFun ih y
    show (if y = x then u y else if y = p.1 then some p.2 else kstB rest r y) = if y = p.1 then some p.2 else kstB _ r y
    by_cases e : y = p.1
    · have : y ≠ x := e ▸ h p (.head _)
      rw [if_neg this, if_pos e, if_pos e]
    · rw [if_neg e, if_neg e]
      exact ihy
theorem one_pos (n : Nat) : 0 < (0 + (n : Int) + 1 - 0).toNat := by omega
def LP (B : Int) (pre : List Int) (now last tok : Int) (times taken : List Int) : Prop :=
  times.length = pre.length ∧ taken.length = pre.length ∧ last = now ∧ 0 ≤ now ∧ tok = lv B now times taken
theorem LP_next {B last d tok tok' M c : Int} {pre : List Int} {k : Int} {T K : List Int} (hT : T.length = pre.length) (hK : K.length = pre.length) (h0 : 0 ≤ last) (hd : 0 ≤ d) (hc : 0 ≤ c) (htok : tok = lv B last T K) (hM : M = min B (tok + d * 1000000)) (ht : tok' = M - c) :
    LP B (pre ++ [k]) (last + d) (last + d) tok' (T ++ [last + d]) (K ++ [c]) := by
  refine ⟨by simp [hT], by simp [hK], rfl, by omega, ?_⟩
  rw [lv_snoc hd hc (by omega), ← htok, ← hM, ht]
def e3 : List Value := [.type "Exception", .type "BaseException", .type "object"]
def ownIn (K : Frag) (C D : Addr) : Bool := match K.lookup C with
  | some ⟨.type "type", _, .cls cd, sl⟩ => (match sl.toList with
    | [_, _, _, _, some (.builtin n), _] => cd.mro == .ref C :: .ref D :: e3 && !cd.hasDel && cd.hasDict && n == "Exception.__new__"
    | _ => false)
  | _ => false
theorem own_cls {K : Frag} {h : Heap} {C D : Addr} (X : K.In h) (q : ownIn K C D = true) : ∃ nm qn N bs sn sub ab col dd k0 k1 k2 k3 k5,
    h.get? C = some (excClassObj nm qn C N bs (.ref D :: e3) true sn sub ab col dd k0 k1 k2 k3 k5 "Exception.__new__") := by
  unfold ownIn at q
  split at q
  · rename_i dd cd sl ho
    split at q
    · rename_i k0 k1 k2 k3 n k5 hs
      simp only [Bool.and_eq_true, beq_iff_eq, Bool.not_eq_true'] at q
      obtain ⟨⟨⟨hm, hdel⟩, hd⟩, rfl⟩ := q
      obtain ⟨nm, bs, mro, ns, qn, hd', sn, sub, ab, col, del⟩ := cd
      dsimp only at hm hdel hd
      subst hm hdel hd
      have hsl : sl = #[k0, k1, k2, k3, some (.builtin "Exception.__new__"), k5] := by
        obtain ⟨l⟩ := sl
        simp only at hs
        rw [hs]
      subst hsl
      exact ⟨nm, qn, ns, bs, sn, sub, ab, col, dd, k0, k1, k2, k3, k5, X _ _ ho⟩
    · cases q
  · cases q
section
variable {prog : Program} {w : World} {A : Around} {E : Value → Shared → Prop} {R : Result → Shared → Prop} {h : Heap} {g : Array GenState} {d : Drawn} {t : Nat} {os : OsState}
variable {nm q : Str} {C N : Addr} {bs bm bmB : List Value} {hdct : Bool} {sn : List Str} {sub : List Value} {ab : Bool} {col : Option Bool} {dd : Option Addr} {k0 k1 k2 k3 k5 : Option Value} {B newId initId : String}
abbrev rawExc (C t : Addr) : Obj := { cls := .ref C, data := .fields #[.ref t, .none, .none, .none, .bool false, .none] }
abbrev tupOf (vs : List Value) : Obj := { cls := .type "tuple", data := .seq vs.toArray }
theorem c_new (F : ExcBaseFacts B newId initId bmB) (hB : bm.contains (.type B) = true) (hA : bm.contains (.type "AttributeError") = false) (hN : bm.contains (.type "NameError") = false) {rest : List Value}
    (hC : h.get? C = some (excClassObj nm q C N bs bm hdct sn sub ab col dd k0 k1 k2 k3 k5 newId))
    (hq : R (.ok (.ret (.ref (h.objs.size + 1)))) ⟨(h.push (tupOf rest)).push (rawExc C h.objs.size), g, d, t, os⟩) (hrest : rest.length ≤ sizeLine) :
    codeAny (model prog w) A (.builtin newId ⟨.ref C :: rest, []⟩) R ⟨h, g, d, t, os⟩ := by
  have hends := F.ends
  have hcB : (Value.ref C :: bm).contains (.type B) = true := by rw [List.contains_cons, hB, Bool.or_true]
  have hcA : (Value.ref C :: bm).contains (.type "AttributeError") = false := by rw [List.contains_cons, hA]; rfl
  have hcN : (Value.ref C :: bm).contains (.type "NameError") = false := by rw [List.contains_cons, hN]; rfl
  refine codeAny_builtinAt F.entry ?_
  unfold Builtin.«BaseException.__new__»
  refine PySem.wpAt_bind ?_
  show PySem.wpAt _ _ _ (stack >>= _) _ _ _
  refine PySem.wpAt_bind (PySem.wpAt_stack fun p below => PySem.wpAt_of_wpAny ?_)
  wp_walk
  refine PySem.wpAt_of_wpAny ?_
  rw [F.owner]
  repeat (first | with_reducible refine wpAny_madeHere_exc F.canon hC ?_ | with_reducible refine wpAny_loadPart_at hC ?_ | (with_reducible refine wpAny_isSubtype_exc hC ?_; first | rw [hcB] | rw [hcA] | rw [hcN]) | wp_step)
  show R _ _
  rw [Heap.size_push]
  exact hq
theorem c_check (F : ExcBaseFacts B newId initId bmB) (hB : bm.contains (.type B) = true) {rest : List Value} {Q : Unit → Shared → Prop} (hC : h.get? C = some (excClassObj nm q C N bs bm hdct sn sub ab col dd k0 k1 k2 k3 k5 newId))
    (hq : Q () ⟨h, g, d, t, os⟩) : wpAny (model prog w) A (checkBuiltinCall newId ⟨.ref C :: rest, []⟩) Q E ⟨h, g, d, t, os⟩ := by
  have hcont : (Value.ref C :: bm).contains (.type B) = true := by rw [List.contains_cons, hB, Bool.or_true]
  have hstar := F.noStar
  simp only [checkBuiltinCall, F.newKind, F.newSplit, F.newRow]
  repeat (first | refine wpAny_loadPart_at hC ?_ | (refine wpAny_isSubtype_exc hC ?_; rw [hcont]) | refine wpAny_staticBase_exc hC ?_ | refine wpAny_madeBy_exc hC ?_ | simp only [bne_self_eq_false, Bool.false_eq_true, if_false] | wp_step)
  exact hq
theorem c_init (F : ExcBaseFacts B newId initId bmB) (hB : bm.contains (.type B) = true) {rest : List Value} {e t1 : Addr} {Q : Value → Shared → Prop} (hC : h.get? C = some (excClassObj nm q C N bs bm hdct sn sub ab col dd k0 k1 k2 k3 k5 newId))
    (he : h.get? e = some (rawExc C t1)) (hrest : rest.length ≤ sizeLine)
    (hq : Q .none ⟨(h.push (tupOf rest)).update e (Obj.mapFields fun x => x.setIfInBounds 0 (.ref h.objs.size)), g, d, t, os⟩) :
    wpAny (model prog w) A (call (.builtin initId) (.ref e :: rest)) Q E ⟨h, g, d, t, os⟩ := by
  refine wpAny_call (codeAny_call_builtin F.init.plain F.initEntry ?_)
  have hcB : (Value.ref C :: bm).contains (.type B) = true := by rw [List.contains_cons, hB, Bool.or_true]
  have hshort := F.noStar
  simp only [checkBuiltinCall, F.initKind, F.initSplit, F.initRow]
  repeat (first | (with_reducible refine wpAny_loadPart_at he ?_; dsimp only) | with_reducible refine wpAny_loadPart_at hC ?_ | (with_reducible refine wpAny_isSubtype_exc hC ?_; rw [hcB]) | wp_step)
  refine wpAny_onRaise ?_
  rw [show ∀ (a b : String) (n : Nat), Bind.check ⟨.positional, "*", B, .self, [⟨"args", .varPos, false⟩]⟩ a b n (List.map (fun x => x.fst) ({ pos := Value.ref e :: rest } : Args).kw) = pure () from
    fun a b n => check_star_args _ _ _ _ _ _]
  refine wpAny_pure ?_
  wp_walk
  exact hq
end

section
variable {prog : Program} {w : World} {A : Around} {E : Value → Shared → Prop} {R : Result → Shared → Prop} {h : Heap} {g : Array GenState} {d : Drawn} {t : Nat} {os : OsState}
variable {nm q : Str} {C N : Addr} {bs bm bmB : List Value} {hdct : Bool} {sn : List Str} {sub : List Value} {ab : Bool} {col : Option Bool} {dd : Option Addr} {k0 k1 k2 k3 k5 : Option Value} {B newId initId : String}
theorem c_make (F : ExcBaseFacts B newId initId bmB) (hB : bm.contains (.type B) = true) (hA : bm.contains (.type "AttributeError") = false) (hN : bm.contains (.type "NameError") = false) {rest : List Value} {fI : Addr}
    (hC : h.get? C = some (excClassObj nm q C N bs bm hdct sn sub ab col dd k0 k1 k2 k3 k5 newId))
    (hi : Looks (model prog w) h (typeLookup (.ref C) "__init__") (some (.ref fI))) (hb : ∀ self, Looks (model prog w) h (bindSpecial (.ref fI) self) (.ref fI, [self])) (hrest : rest.length ≤ sizeLine)
    (hq : codeAny (model prog w) (A.under (.builtin "type.__call__" ⟨.ref C :: rest, []⟩)) (.call (.ref fI) ⟨.ref (h.objs.size + 1) :: rest, []⟩) (InitBack (h.objs.size + 1) R) ⟨(h.push (tupOf rest)).push (rawExc C h.objs.size), g, d, t, os⟩) :
    codeAny (model prog w) A (.call (.ref C) ⟨rest, []⟩) R ⟨h, g, d, t, os⟩ := by
  have f1 := tc_lookup
  have f2 := tc_bind (.ref C)
  have hT : (⟨h, g, d, t, os⟩ : Shared).TypeIs (.ref C) "type" := ⟨_, hC, rfl⟩
  refine codeAny_of_tree ?_
  show wpAny _ _ (callAny (.ref C) _) _ _ _
  repeat (any_goals (first | assumption | with_reducible refine wpAny_loadPart_at hC ?_ | wp_step))
  refine ⟨rfl, ?_⟩
  refine codeAny_call_builtin_at (Code.quiet_builtin _ (by decide +kernel)) entry_typeCall (wpAny_check_type_call_sub hC ?_)
  repeat (first | with_reducible refine wpAny_loadPart_at hC ?_ | with_reducible refine wpAny_madeBy_exc hC ?_ | wp_step)
  refine codeAny_call_builtin_code (Code.quiet_builtin _ F.quiet) (c_check F hB hC ?_)
  refine c_new F hB hA hN hC ?_ hrest
  show wpAny _ _ _ _ _ ⟨(h.push (tupOf rest)).push (rawExc C h.objs.size), g, d, t, os⟩
  have k : ∀ b o, h.get? b = some o → ((h.push (tupOf rest)).push (rawExc C h.objs.size)).get? b = some o := fun b o e => Heap.get?_push_of_some _ (Heap.get?_push_of_some _ e)
  have hC₁ := k _ _ hC
  have hget : ((h.push (tupOf rest)).push (rawExc C h.objs.size)).get? (h.objs.size + 1) = some (rawExc C h.objs.size) := by heap_get
  have hcC : (Value.ref C :: bm).contains (.ref C) = true := by simp
  have hi' := hi.keeps k
  have hb' := (hb (.ref (h.objs.size + 1))).keeps k
  unfold isInstance
  repeat (first | with_reducible refine wpAny_loadPart_at hget ?_ | (show wpAny _ _ (isSubtype (Value.ref C) (Value.ref C)) _ _ _; with_reducible refine wpAny_isSubtype_exc hC₁ ?_; rw [hcC]) | wp_step)
  show wpAny _ _ (typeLookup (.ref C) _) _ _ _
  refine hi'.here ?_
  refine wpAny_holding (wpAny_bind (hb'.here (wpAny_bind (wpAny_call ?_))))
  refine codeAny_mono hq fun r s' z => ?_
  rcases r with e | (v | _ | _ | _) <;> first | exact z | exact z.elim | skip
  obtain ⟨rfl, z⟩ := z
  wp_walk
  exact z
end
section
variable {prog : Program} {w : World} {A : Around} {E : Value → Shared → Prop} {R : Result → Shared → Prop} {K : Frag} {C D L : Addr} {s : Shared} {h₀ : Heap} {m : Str → Option Value} {news : List (Addr × Obj)} {Q : Value → Shared → Prop}
theorem call_exc {rest : List Value} {fI : Addr} (F : Fr h₀ L s.heap m) (X₀ : K.In h₀) (N : News h₀ L s.heap news) (hm : ownIn K C D = true)
    (hi : findIn K (.ref C) "__init__" = some (some (.ref fI))) (hf : typeIn K (.ref fI) = some (.type "function")) (hrest : rest.length ≤ sizeLine)
    (h : ∀ e t h', Fr h₀ L h' m → News h₀ L h' ((e, rawExc C t) :: (t, tupOf rest) :: news) → (∀ p ∈ news, p.1 < t) → t < e →
      codeAny (model prog w) (A.under (.builtin "type.__call__" ⟨.ref C :: rest, []⟩)) (.call (.ref fI) ⟨.ref e :: rest, []⟩) (InitBack e fun r s' => match r with | .ok (.ret v) => Q v s' | .ok _ => False | .error e => E e s') { s with heap := h' }) :
    wpAny (model prog w) A (call (.ref C) rest) Q E s := by
  obtain ⟨nm, qn, Ns, bs, sn, sub, ab, col, dd, k0, k1, k2, k3, k5, hC⟩ := own_cls (X₀.keeps F.keep) hm
  obtain ⟨hh, g, d, t, os⟩ := s
  refine wpAny_call (c_make PySem.F.excBase_Exception (by rfl) (by rfl) (by rfl) hC (looks_findIn (X₀.keeps F.keep) hi) (fun self => bind_fn (X₀.keeps F.keep) self hf) hrest (h _ hh.objs.size _ ((F.push _).push _) ?_ (fun p hp => Heap.lt_size (N p hp).1) (Nat.lt_succ_self _)))
  have := (N.push F (tupOf rest)).push (F.push _) (rawExc C hh.objs.size)
  rwa [Heap.size_push] at this
theorem init_exc {rest : List Value} {e t1 : Addr} {pre post : List (Addr × Obj)} (F : Fr h₀ L s.heap m) (X₀ : K.In h₀) (N : News h₀ L s.heap (pre ++ (e, rawExc C t1) :: post)) (hm : ownIn K C D = true) (hrest : rest.length ≤ sizeLine)
    (h1 : ∀ p ∈ pre, p.1 ≠ e) (h2 : ∀ p ∈ post, p.1 ≠ e)
    (h : ∀ t h', Fr h₀ L h' m → News h₀ L h' ((t, tupOf rest) :: pre ++ (e, rawExc C t) :: post) → (∀ p ∈ pre ++ (e, rawExc C t1) :: post, p.1 < t) → Q .none { s with heap := h' }) :
    wpAny (model prog w) A (call (.builtin "Exception.__init__") (.ref e :: rest)) Q E s := by
  obtain ⟨nm, qn, Ns, bs, sn, sub, ab, col, dd, k0, k1, k2, k3, k5, hC⟩ := own_cls (X₀.keeps F.keep) hm
  obtain ⟨hh, g, d, t, os⟩ := s
  have he := (N (e, rawExc C t1) (by simp)).1
  have lt : ∀ p ∈ pre ++ (e, rawExc C t1) :: post, p.1 < hh.objs.size := fun p hp => Heap.lt_size (N p hp).1
  have N1 := N.push F (tupOf rest)
  obtain ⟨U1, U2⟩ := news_upd (f := Obj.mapFields fun x => x.setIfInBounds 0 (.ref hh.objs.size)) (pre := (hh.objs.size, tupOf rest) :: pre) (o' := rawExc C hh.objs.size) (F.push (tupOf rest)) N1 (fun p hp => by
    rcases List.mem_cons.mp hp with rfl | hp
    · exact Nat.ne_of_gt (lt (e, rawExc C t1) (by simp))
    · exact h1 p hp) h2 rfl rfl
  exact c_init PySem.F.excBase_Exception (by rfl) hC he hrest (h _ _ U1 U2 lt)
end

abbrev fullExc (C t d : Addr) : Obj := { cls := .ref C, dict := some d, data := .fields #[.ref t, .none, .none, .none, .bool false, .none] }
theorem own_data {K : Frag} {C D : Addr} (q : ownIn K C D = true) : ∃ cd, clsIn K C = some cd ∧ cd.mro = .ref C :: .ref D :: e3 ∧ cd.hasDict = true := by
  unfold ownIn at q
  split at q
  · rename_i dd cd sl ho
    split at q
    · rename_i k0 k1 k2 k3 n k5 hs
      simp only [Bool.and_eq_true, beq_iff_eq, Bool.not_eq_true'] at q
      exact ⟨cd, by unfold clsIn; rw [ho], q.1.1.1, q.1.2⟩
    · cases q
  · cases q
section
open Builtin Builtin.ObjectAttr Builtin.Getset_descriptor
variable {prog : Program} {w : World} {A : Around} {E : Value → Shared → Prop} {R : Result → Shared → Prop} {K : Frag} {C D L x : Addr} {s : Shared} {h₀ : Heap} {m : Str → Option Value} {news : List (Addr × Obj)} {ox : Obj} {od : Option Obj} {name : Str} {tk : Tok} {v : Value}
theorem osaE {tk : Tok} (X : K.In s.heap) (I : InstAt s.heap x ox C od) (hm : ownIn K C D = true) (ht : findIn K (.ref C) name = some none)
    (h : wpAny (model prog w) A.in1 (storeInOwnDict (.ref x) (.ref C) (.str name tk) name v false)
      (fun fin s' => match fin with | .done f => R (.ok f) s' | .again c' => c'.quiet = true ∧ codeAny (model prog w) A c' R s') (fun e s' => R (.error e) s') s) :
    codeAny (model prog w) A (.call (.builtin "object.__setattr__") ⟨[.ref x, .str name tk, v], []⟩) R s := by
  have SF := PySem.F.store_object
  obtain ⟨cd, hc, ho, -⟩ := own_data hm
  have ne : cd.mro.isEmpty = false := by rw [ho]; rfl
  have sub : Looks (model prog w) s.heap (isInstance (.ref x) (.type "object")) true := I.type.andThen (looks_mroIn X (by unfold mroIn; rw [hc, Option.bind_some, if_neg (by rw [ne]; decide), ho]; rfl))
  refine codeAny_call_builtin SF.slot.plain SF.entry (@check_slot (model prog w) _ _ s "object.__setattr__" "object" "__setattr__" (.ref x) [.str name tk, v] [] _ SF.kind SF.split sub (SF.args (.ref x) (.str name tk) v) ?_)
  have hmr : Looks (model prog w) s.heap (mroOf (.ref C)) cd.mro := (looks_clsIn X hc).andThen .now
  rw [osa_eq, refuse_eq]
  refine wpAny_bind (wpAny_bind (I.type.here (wpAny_bind (hmr.here ?_))))
  rw [ho, refuseLoop_ref, refuseLoop_ref, show refuseLoop (.ref x) "__setattr__" e3 = pure () from PySem.F.store_Exception.passes (.ref x)]
  exact wpAny_pure (wpAny_bind (I.type.here (wpAny_bind ((looks_findIn X ht).here (wpAny_bind (wpAny_pure h))))))
theorem in_dict {Q : Fin → Shared → Prop} {tk : Tok} {dx : Addr} {pre post : List (Addr × Obj)} {es es' : List DictEntry} {n n' : Nat} (F : Fr h₀ L s.heap m) (N : News h₀ L s.heap (pre ++ (dx, dictOf es n) :: post))
    (hr : es.any (·.refKey) = false) (h1 : ∀ p ∈ pre, p.1 ≠ dx) (h2 : ∀ p ∈ post, p.1 ≠ dx)
    (e : (putL name (PyData.keyHash w.params name) (.str name s.toks) v es, putN name es n) = (es', n')) (hz : es'.length ≤ 1000)
    (h : ∀ h', Fr h₀ L h' m → News h₀ L h' (pre ++ (dx, dictOf es' n') :: post) → Q (.done (.ret .none)) { s with heap := h', toks := s.toks + 1 }) :
    wpAny (model prog w) A (storeInDict dx (.str name tk) name v) Q E s := by
  obtain ⟨e1, e2⟩ := Prod.mk.inj e
  obtain ⟨U1, U2⟩ := news_upd (f := Obj.putName name (PyData.keyHash w.params name) (.str name s.toks) v) (o' := dictOf es' n') F N h1 h2 (by rw [putName_dict, e1, e2]) rfl
  have D := (N (dx, dictOf es n) (by simp)).1
  have D' := (U2 (dx, dictOf es' n') (by simp)).1
  unfold storeInDict newKeyGuard
  refine wpAny_bind (wpAny_pure (wpAny_bind ?_))
  unfold nsSet
  refine wpAny_bind (wpAny_bind (wpAny_askSetting (wpAny_pure (wpAny_bind (wpAny_mkText (wpAny_bind (wpAny_loadPart D ?_)))))))
  dsimp only
  have hra : es.toArray.any (·.refKey) = false := by rw [List.any_toArray]; exact hr
  rw [aRefKeyMayBeTheName_at, hra, Bool.and_false]
  refine wpAny_updatePart D ?_
  refine wpAny_bind (wpAny_lookBehind D' (by exact pastItsLine_dict (by rw [List.size_toArray, sizeLine_eq]; omega)) ?_)
  exact wpAny_pure (h _ U1 U2)
theorem set_new {Q : Unit → Shared → Prop} {t : Addr} {pre post : List (Addr × Obj)} {es' : List DictEntry} {n' : Nat} (F : Fr h₀ L s.heap m) (X₀ : K.In h₀) (N : News h₀ L s.heap (pre ++ (x, rawExc C t) :: post))
    (hm : ownIn K C D = true) (hs : findIn K (.ref C) "__setattr__" = some (some (.builtin "object.__setattr__"))) (ht : findIn K (.ref C) name = some none)
    (h1 : ∀ p ∈ pre, p.1 ≠ x) (h2 : ∀ p ∈ post, p.1 ≠ x)
    (e : (putL name (PyData.keyHash w.params name) (.str name (s.toks + 1)) v [], putN name [] 0) = (es', n')) (hz : es'.length ≤ 1000)
    (h : ∀ d h', Fr h₀ L h' m → News h₀ L h' ((d, dictOf es' n') :: pre ++ (x, fullExc C t d) :: post) → (∀ p ∈ pre ++ (x, rawExc C t) :: post, p.1 < d) → Q () { s with heap := h', toks := s.toks + 2 }) :
    wpAny (model prog w) A (setAttr (.ref x) name v) Q E s := by
  have X := X₀.keeps F.keep
  obtain ⟨cd, hc, -, hd⟩ := own_data hm
  have hx := (N (x, rawExc C t) (by simp)).1
  have I : InstAt s.heap x (rawExc C t) C none := ⟨hx, rfl, rfl, trivial⟩
  have lt : ∀ p ∈ pre ++ (x, rawExc C t) :: post, p.1 < s.heap.objs.size := fun p hp => Heap.lt_size (N p hp).1
  have N1 := N.push F (dictOf [] 0)
  obtain ⟨U1, U2⟩ := news_upd (f := fun o => { o with dict := some s.heap.objs.size }) (pre := (s.heap.objs.size, dictOf [] 0) :: pre) (o' := fullExc C t s.heap.objs.size) (F.push (dictOf [] 0)) N1 (fun p hp => by
    rcases List.mem_cons.mp hp with rfl | hp
    · exact Nat.ne_of_gt (lt (x, rawExc C t) (by simp))
    · exact h1 p hp) h2 rfl rfl
  refine set_plain X I hs (osaE (s := { s with toks := s.toks + 1 }) X I hm ht ?_)
  unfold storeInOwnDict
  refine wpAny_bind (wpAny_pure ?_)
  refine wpAny_bind (wpAny_bind (wpAny_loadPart hx (wpAny_bind ((looks_clsIn (h := s.heap) X hc).at ?_))))
  rw [hd]
  refine wpAny_bind (wpAny_alloc (wpAny_bind (wpAny_update (Heap.get?_push_of_some _ hx) (wpAny_pure ?_))))
  exact in_dict (s := ⟨_, s.gens, s.drawn, s.toks + 1, s.os⟩) (pre := []) U1 U2 rfl (fun p hp => by cases hp) (fun p hp => Nat.ne_of_lt (by
    rcases List.mem_append.mp hp with hp | hp
    · exact lt p (List.mem_append_left _ hp)
    · rcases List.mem_cons.mp hp with rfl | hp
      · exact lt (x, rawExc C t) (by simp)
      · exact lt p (List.mem_append_right _ (List.mem_cons_of_mem _ hp)))) e hz fun h' F' N' => h _ h' F' N' lt
theorem set_old {Q : Unit → Shared → Prop} {dx : Addr} {pre post : List (Addr × Obj)} {es es' : List DictEntry} {n n' : Nat} (F : Fr h₀ L s.heap m) (X₀ : K.In h₀) (N : News h₀ L s.heap (pre ++ (dx, dictOf es n) :: post))
    (hx : s.heap.get? x = some ox) (hcl : ox.cls = .ref C) (hno : notCls ox = true) (hdx : ox.dict = some dx)
    (hm : ownIn K C D = true) (hs : findIn K (.ref C) "__setattr__" = some (some (.builtin "object.__setattr__"))) (ht : findIn K (.ref C) name = some none)
    (hr : es.any (·.refKey) = false) (h1 : ∀ p ∈ pre, p.1 ≠ dx) (h2 : ∀ p ∈ post, p.1 ≠ dx)
    (e : (putL name (PyData.keyHash w.params name) (.str name (s.toks + 1)) v es, putN name es n) = (es', n')) (hz : es'.length ≤ 1000)
    (h : ∀ h', Fr h₀ L h' m → News h₀ L h' (pre ++ (dx, dictOf es' n') :: post) → Q () { s with heap := h', toks := s.toks + 2 }) :
    wpAny (model prog w) A (setAttr (.ref x) name v) Q E s := by
  have X := X₀.keeps F.keep
  obtain ⟨cd, hc, -, hd⟩ := own_data hm
  have I : InstAt s.heap x ox C (some (dictOf es n)) := ⟨hx, hcl, hno, by rw [hdx]; exact (N (dx, dictOf es n) (by simp)).1⟩
  refine set_plain X I hs (osaE (s := { s with toks := s.toks + 1 }) X I hm ht ?_)
  obtain ⟨oc, odi, oda, osl⟩ := ox
  dsimp only at hcl hdx
  subst hcl hdx
  unfold storeInOwnDict
  refine wpAny_bind (wpAny_pure ?_)
  refine wpAny_bind (wpAny_bind (wpAny_loadPart hx (wpAny_bind ((looks_clsIn (h := s.heap) X hc).at ?_))))
  rw [hd]
  refine wpAny_pure (a := some dx) ?_
  exact in_dict (s := { s with toks := s.toks + 1 }) F N hr h1 h2 e hz h
end

def DictAt (h : Heap) (e d : Addr) : Prop := ∃ o, h.get? e = some o ∧ o.dict = some d
def KeepsD {α : Type} : Sem α → Prop
  | .pure _ => True
  | .raise _ => True
  | .unsupported _ => True
  | .finish _ => True
  | .rule _ k => KeepsD (k ())
  | .at _ k => KeepsD (k ())
  | .load _ _ k => ∀ o, KeepsD (k o)
  | .update _ _ f k => (∀ o : Obj, (f o).dict = o.dict ∧ (f o).isFreed = o.isFreed) ∧ KeepsD (k ())
  | .alloc _ k => ∀ a, KeepsD (k a)
  | .loadIfAlive _ k => ∀ o, KeepsD (k o)
  | .point _ k => KeepsD (k ())
  | .register _ _ => False
  | .fresh k => ∀ t, KeepsD (k t)
  | .ask k => ∀ g, KeepsD (k g)
  | .choose _ _ k => ∀ n, KeepsD (k n)
  | .os _ _ k => ∀ r, KeepsD (k r)
  | .call .. => False
  | .handled _ k => ∀ v, KeepsD (k v)
  | .newGen _ k => ∀ i, KeepsD (k i)
  | .genState _ k => ∀ st, KeepsD (k st)
  | .resume .. => False
  | .yield .. => False
  | .stack k => ∀ st, KeepsD (k st)
  | .fork .. => False
  | .thread _ => False
  | .await .. => False
theorem dictAt_push {h : Heap} {e d : Addr} {o : Obj} (x : DictAt h e d) : DictAt (h.push o) e d :=
  let ⟨oe, a, b⟩ := x; ⟨oe, Heap.get?_push_of_some _ a, b⟩
theorem dictAt_update {h : Heap} {e d a : Addr} {f : Obj → Obj} (hf : ∀ o : Obj, (f o).dict = o.dict ∧ (f o).isFreed = o.isFreed) (x : DictAt h e d) : DictAt (h.update a f) e d := by
  obtain ⟨oe, h1, h2⟩ := x
  by_cases q : a = e
  · subst q
    exact ⟨f oe, Heap.get?_update_self f h1 ((hf oe).2.trans (Heap.get?_some_iff.mp h1).2), (hf oe).1.trans h2⟩
  · exact ⟨oe, (Heap.get?_update_other _ _ q).trans h1, h2⟩
theorem dictAt_keeps {h h' : Heap} {e d : Addr} (k : ∀ b o, h.get? b = some o → h'.get? b = some o) (x : DictAt h e d) : DictAt h' e d :=
  let ⟨oe, a, b⟩ := x; ⟨oe, k _ _ a, b⟩
theorem wp_dict {α : Type} {M : Model} {Γ : Ctx} {e d : Addr} {Q : α → Pos → Shared → Prop} {E : Value → Pos → Shared → Prop} : ∀ (t : Sem α) (p : Pos) (s : Shared), KeepsD t → DictAt s.heap e d → Sem.wp M Γ t Q E p s → Sem.wp M Γ t (fun a p s' => DictAt s'.heap e d ∧ Q a p s') E p s := by
  intro t
  induction t with
  | pure a => exact fun p s _ x h => ⟨x, h⟩
  | raise e => exact fun p s _ x h => h
  | unsupported w => exact fun p s _ x h => h
  | finish w => exact fun p s _ x h => h
  | rule t k ih => exact fun p s K x h => ih () p s K x h
  | «at» q k ih => exact fun p s K x h => ih () q s K x h
  | load a q k ih => exact fun p s K x h => let ⟨o, ho, h'⟩ := h; ⟨o, ho, ih o p s (K o) x h'⟩
  | update a q f k ih => exact fun p s K x h => ⟨h.1, ih () p _ K.2 (dictAt_update K.1 x) h.2⟩
  | alloc o k ih => exact fun p s K x h => ih _ p _ (K _) (dictAt_push x) h
  | loadIfAlive a k ih => exact fun p s K x h => ih _ p s (K _) x h
  | point l k ih => exact fun p s K x h => ih () p s K x h
  | register a k ih => exact fun p s K x h => h.elim
  | fresh k ih => exact fun p s K x h => ih _ p _ (K _) x h
  | ask k ih => exact fun p s K x h => ih _ p s (K _) x h
  | choose a n k ih => exact fun p s K x h => ⟨h.1, ih _ p _ (K _) x h.2⟩
  | os q l k ih => exact fun p s K x h => ih _ p _ (K _) x h
  | call c h g l k ih => exact fun p s K x h => K.elim
  | handled o k ih => exact fun p s K x h => ih _ p s (K _) x h
  | newGen c k ih => exact fun p s K x h => ih _ p _ (K _) x h
  | genState g k ih => exact fun p s K x h => let ⟨st, hs, h'⟩ := h; ⟨st, hs, ih _ p s (K _) x h'⟩
  | resume g r l k ih => exact fun p s K x h => K.elim
  | yield v g l k ih => exact fun p s K x h => K.elim
  | stack k ih => exact fun p s K x h => ih _ p s (K _) x h
  | fork c k ih => exact fun p s K x h => K.elim
  | thread k ih => exact fun p s K x h => K.elim
  | await a t m l k ih => exact fun p s K x h => K.elim
theorem keepsD_bind {α β : Type} {f : α → Sem β} : ∀ (t : Sem α), KeepsD t → (∀ a, KeepsD (f a)) → KeepsD (t >>= f) := by
  intro t
  show KeepsD t → (∀ a, KeepsD (f a)) → KeepsD (t.bind f)
  induction t with
  | pure a => exact fun _ h => h a
  | raise e => exact fun _ _ => trivial
  | unsupported w => exact fun _ _ => trivial
  | finish w => exact fun _ _ => trivial
  | rule t k ih => exact fun K h => ih () K h
  | «at» q k ih => exact fun K h => ih () K h
  | load a q k ih => exact fun K h o => ih o (K o) h
  | update a q f k ih => exact fun K h => ⟨K.1, ih () K.2 h⟩
  | alloc o k ih => exact fun K h a => ih a (K a) h
  | loadIfAlive a k ih => exact fun K h a => ih a (K a) h
  | point l k ih => exact fun K h => ih () K h
  | register a k ih => exact fun K _ => K.elim
  | fresh k ih => exact fun K h a => ih a (K a) h
  | ask k ih => exact fun K h a => ih a (K a) h
  | choose a n k ih => exact fun K h a => ih a (K a) h
  | os q l k ih => exact fun K h a => ih a (K a) h
  | call c h g l k ih => exact fun K _ => K.elim
  | handled o k ih => exact fun K h a => ih a (K a) h
  | newGen c k ih => exact fun K h a => ih a (K a) h
  | genState g k ih => exact fun K h a => ih a (K a) h
  | resume g r l k ih => exact fun K _ => K.elim
  | yield v g l k ih => exact fun K _ => K.elim
  | stack k ih => exact fun K h a => ih a (K a) h
  | fork c k ih => exact fun K _ => K.elim
  | thread k ih => exact fun K _ => K.elim
  | await a t m l k ih => exact fun K _ => K.elim
theorem wpAny_dict {α : Type} {M : Model} {A : Around} {t : Sem α} {Q : α → Shared → Prop} {E : Value → Shared → Prop} {s : Shared} {e d : Addr} (K : KeepsD t) (x : DictAt s.heap e d) (h : wpAny M A t (fun a s' => DictAt s'.heap e d → Q a s') E s) : wpAny M A t Q E s :=
  fun Γ p hΓ => Sem.wp_mono M Γ t (fun _ _ _ q => q.2 q.1) (fun _ _ _ q => q) p s (wp_dict t p s K x (h Γ p hΓ))

theorem mapFields_keeps (f : Array Value → Array Value) (o : Obj) : (Obj.mapFields f o).dict = o.dict ∧ (Obj.mapFields f o).isFreed = o.isFreed := by
  obtain ⟨c, d, dt, sl⟩ := o
  cases dt <;> exact ⟨rfl, rfl⟩
theorem slots_keeps (f : Obj → Array (Option Value)) (o : Obj) : ({ o with slots := f o } : Obj).dict = o.dict ∧ ({ o with slots := f o } : Obj).isFreed = o.isFreed := by
  obtain ⟨c, d, dt, sl⟩ := o
  cases dt <;> exact ⟨rfl, rfl⟩
theorem keepsD_fieldsOf (v : Value) : KeepsD (fieldsOf v) := by
  unfold fieldsOf
  split
  · refine keepsD_bind _ (fun o => trivial) fun o => ?_
    split <;> trivial
  · trivial
theorem keepsD_field (v : Value) (i : Nat) : KeepsD (field v i) := by
  unfold field
  refine keepsD_bind _ (keepsD_fieldsOf v) fun vs => ?_
  split <;> trivial
theorem keepsD_setField (v : Value) (i : Nat) (x : Value) : KeepsD (setField v i x) := by
  unfold setField
  split
  · unfold updateField
    refine keepsD_bind _ (fun o => trivial) fun o => ?_
    split
    · split
      · exact ⟨mapFields_keeps _, trivial⟩
      · trivial
    · trivial
  · trivial
theorem keepsD_setFlight (v : Value) (f : Option Addr) : KeepsD (setFlight v f) := by
  unfold setFlight
  refine keepsD_bind _ (keepsD_field _ _) fun tb => ?_
  split
  · exact keepsD_setField _ _ _
  · trivial
theorem keepsD_readyFrames : ∀ l : List Env, KeepsD (readyFrames l)
  | [] => trivial
  | env :: outer => by
    unfold readyFrames
    split
    · refine keepsD_bind _ (fun o => trivial) fun o => ?_
      split
      · trivial
      · refine keepsD_bind _ ?_ fun b => keepsD_bind _ ?_ fun back => keepsD_bind _ ⟨slots_keeps _, trivial⟩ fun _ => keepsD_readyFrames outer
        · unfold behindIsImport
          split
          · trivial
          · split
            · trivial
            · exact keepsD_bind _ (keepsD_field _ _) fun _ => trivial
        · unfold keptBack
          split
          · split
            · trivial
            · refine keepsD_bind _ (fun st => trivial) fun _ => ?_
              split <;> trivial
          · trivial
    · trivial
theorem keepsD_frameOf (env : Env) : KeepsD (PySem.frameOf env) := by
  unfold PySem.frameOf frameEnvs
  refine keepsD_bind _ (fun st => trivial) fun l => keepsD_bind _ ?_ fun r => ?_
  · unfold frameObject
    split
    · trivial
    · exact keepsD_bind _ (keepsD_readyFrames _) fun _ => trivial
  · split <;> trivial
theorem keepsD_newFields (ty : String) (vs : List Value) : KeepsD (newFields ty vs) := by
  unfold newFields newObj
  dsimp only
  split
  · trivial
  · exact fun a => trivial
theorem keepsD_entryPlaceOf (f : Addr) (b : Bool) : KeepsD (entryPlaceOf f b) := by
  unfold entryPlaceOf
  refine keepsD_bind _ (fun st => trivial) fun st => ?_
  split <;> trivial
theorem keepsD_noteFrame (e : Value) (env : Env) : KeepsD (noteFrame e env) := by
  unfold noteFrame
  split
  · refine keepsD_bind _ (keepsD_field _ _) fun head => ?_
    have fin : ∀ (f : Addr) (hd : Bool), KeepsD (do setField e 1 (← EntryCells.newEntry head (← PySem.frameOf env) .none (rawInt f) .none (← entryPlaceOf f hd))) := fun f hd =>
      keepsD_bind _ (keepsD_frameOf env) fun fr => keepsD_bind _ (keepsD_entryPlaceOf _ _) fun pl => keepsD_bind _ (keepsD_newFields _ _) fun nw => keepsD_setField _ _ _
    split
    · refine keepsD_bind _ (keepsD_field _ _) fun x => ?_
      split
      · trivial
      · exact keepsD_bind _ (keepsD_setField _ _ _) fun _ => fin _ _
    · exact fin _ _
  · trivial
theorem keepsD_leaving (e : Value) (env : Env) : KeepsD (leaving env e) := keepsD_bind _ (keepsD_noteFrame e env) fun _ => keepsD_setFlight e none

def RaisedD (base G : Heap) (l : List Env) (e d : Addr) (cls : Value) (t : Addr) (vs : List Value) (news : List (Addr × Obj)) (h : Heap) : Prop :=
  RaisedS base G l e cls t vs news h ∧ DictAt h e d
theorem none_of_sub {g h : Heap} (k : ∀ b o, g.get? b = some o → h.get? b = some o) {b : Addr} (e : h.get? b = none) : g.get? b = none := by
  cases q : g.get? b with
  | none => rfl
  | some o => have := k b o q; rw [e] at this; cases this
section
variable {M : Model} {A : Around} {E : Value → Shared → Prop} {s' : Shared} {base g g₂ h : Heap} {outer : List Env} {L a e d t : Addr} {m : Str → Option Value} {name : Str} {scope : Scope} {cd cls : Value} {vs : List Value} {od : Obj} {Q : Unit → Shared → Prop} {news : List (Addr × Obj)}
theorem leave_raiseD {t1 C : Addr} {o1 : Obj} (K : Below A base outer g) (F : Fr g L s'.heap m) (N : News g L s'.heap ((d, od) :: (t, tupOf vs) :: (e, fullExc C t d) :: (t1, o1) :: news))
    (l1 : ∀ p ∈ news, p.1 < t1) (l2 : t1 < e) (l3 : e < t) (l4 : t < d)
    (hQ : ∀ h', RaisedD base g outer e d (.ref C) t vs ((d, od) :: news) h' → g.UpToSlots h' → Q () { s' with heap := h' }) (hk : scope.kind = .function := by rfl) :
    wpAny M (A.deeper (envOf name scope L a cd)) (leaving (envOf name scope L a cd) (.ref e)) Q E s' := by
  have he := N (e, _) (.tail _ (.tail _ (.head _)))
  have ht := N (t, _) (.tail _ (.head _))
  have hdd := N (d, _) (.head _)
  refine wpAny_dict (keepsD_leaving _ _) ⟨_, he.1, rfl⟩ ?_
  have K' := K.push (name := name) (a := a) (cd := cd) F hk
  let fs := (envOf name scope L a cd :: outer).filterMap (·.frame)
  have notin : ∀ b, b ≠ L → g.get? b = none → b ∉ fs := fun b nL hb hm => by
    rcases kts_mem hm with z | z
    · exact nL z
    · obtain ⟨_, o, ho, _⟩ := K.frames.mem z
      rw [hb] at ho; cases ho
  have off : ∀ b o, g.get? b = some o → b ∉ fs → b ∉ e :: t :: fs := fun b o hb nm hm => by
    rcases List.mem_cons.mp hm with z | hm
    · rw [z, he.2.2] at hb; cases hb
    · rcases List.mem_cons.mp hm with z | hm
      · rw [z, ht.2.2] at hb; cases hb
      · exact nm hm
  have hin : ∀ env ∈ (envOf name scope L a cd :: outer), ∀ b, env.frame = some b → b ∈ e :: t :: fs := fun env he b hb => .tail _ (.tail _ (List.mem_filterMap.mpr ⟨env, he, hb⟩))
  have st : base.StaysIn (hideAll s'.heap (e :: t :: fs)) := fun b o q => hideAll_get _ (K'.stays b o q) (off b o (K.stays b o q) fun hm => by
    rw [(K'.frames.mem hm).1] at q; cases q)
  have sg : ∀ b o, g.get? b = some o → b ∉ outer.filterMap (·.frame) → (hideAll s'.heap (e :: t :: fs)).get? b = some o := fun b o q nm => hideAll_get _ (F.keep b o q) (off b o q fun hm => by
    rcases kts_mem hm with z | z
    · rw [z, kts_self F] at q
      cases q
    · exact nm z)
  have hl : ∀ q ∈ (d, od) :: news, (hideAll s'.heap (e :: t :: fs)).get? q.1 = some q.2 ∧ g.get? q.1 = none ∧ base.get? q.1 = none := fun q hq => by
    rcases List.mem_cons.mp hq with rfl | hq
    · refine ⟨hideAll_get _ hdd.1 fun hm => ?_, hdd.2.2, none_of_sub K.stays hdd.2.2⟩
      rcases List.mem_cons.mp hm with z | hm
      · exact Nat.ne_of_gt (Nat.lt_trans l3 l4) z
      · rcases List.mem_cons.mp hm with z | hm
        · exact Nat.ne_of_gt l4 z
        · exact notin d hdd.2.1 hdd.2.2 hm
    · have nq := N q (.tail _ (.tail _ (.tail _ (.tail _ hq))))
      refine ⟨hideAll_get _ nq.1 fun hm => ?_, nq.2.2, none_of_sub K.stays nq.2.2⟩
      rcases List.mem_cons.mp hm with z | hm
      · exact Nat.ne_of_lt (Nat.lt_trans (l1 q hq) l2) z
      · rcases List.mem_cons.mp hm with z | hm
        · exact Nat.ne_of_lt (Nat.lt_trans (l1 q hq) (Nat.lt_trans l2 l3)) z
        · exact notin q.1 nq.2.1 nq.2.2 hm
  have fr : s'.heap.FunFrames (hideAll s'.heap (e :: t :: fs)) (envOf name scope L a cd :: outer) := funFrames_hide K'.frames hin
  refine wpAny_leaving_firstW (a0 := .ref t) K'.stack fr rfl he.1 (fun b o q => of_hideAll _ q) (hideAll_none _ (.head _)) rfl rfl rfl fun h' hL dD => ?_
  obtain ⟨k1, ⟨_, _, k2⟩, k3, k4⟩ := hL
  exact hQ h' ⟨⟨⟨_, st, sg, hl, ⟨k1, hideAll_none _ (.head _), k2, k3⟩, hideAll_none _ (.tail _ (.head _))⟩, Heap.TupAt.of_slots ⟨_, _, ht.1, rfl, rfl⟩ k4⟩, dD⟩ ((Heap.UpToSlots.of_keeps F.keep).trans k4)
theorem leave_onD (K : Below A base outer g) (F : Fr g L g₂ m) (R : RaisedD base g₂ (envOf name scope L a cd :: outer) e d cls t vs news s'.heap) (hsm : g₂.UpToSlots s'.heap)
    (hQ : ∀ h', RaisedD base g outer e d cls t vs news h' → g.UpToSlots h' → Q () { s' with heap := h' }) :
    wpAny M (A.deeper (envOf name scope L a cd)) (leaving (envOf name scope L a cd) (.ref e)) Q E s' :=
  wpAny_dict (keepsD_leaving _ _) R.2 (leave_onS K F R.1 hsm fun h' R' _ U dD => hQ h' ⟨R', dD⟩ U)
end
section
variable {prog : Program} {w : World} {A₀ : Around} {E : Value → Shared → Prop} {s' : Shared} {base g g₀ G : Heap} {outer : List Env} {L a e d t : Addr} {m : Str → Option Value} {name : Str} {scope : Scope} {cd cls : Value}
  {vs : List Value} {n : Str} {b₀ : Stmt} {suite : List Stmt} {pos : Pos} {rest hs : List ExceptHandler} {Q : Flow → Shared → Prop} {news : List (Addr × Obj)} {KF : Frag} {tt : PySem.Expr} {nm : Option Str} {body : List Stmt}
  {p : Program} {loose : List Str} {mean : ExcName → Option Value} {mg mb : Str → Option Value}
theorem look_D (R : RaisedD base G (envOf name scope L a cd :: outer) e d cls t vs news s'.heap) (F : Fr g L G m) (K : Below A₀ base outer g) (hsm : G.UpToSlots s'.heap)
    (k : ∀ h', RaisedD base G (envOf name scope L a cd :: outer) e d cls t vs news h' → G.UpToSlots h' → wpAny (model prog w) (A₀.deeper (envOf name scope L a cd)) (handleBy (.ref e) (envOf name scope L a cd) hs) Q E { s' with heap := h' }) :
    wpAny (model prog w) (A₀.deeper (envOf name scope L a cd)) (noteFrame (.ref e) (envOf name scope L a cd))
      (fun _ s₂ => wpAny (model prog w) (A₀.deeper (envOf name scope L a cd)) (setFlight (.ref e) none) (fun _ s₃ =>
        wpAny (model prog w) (A₀.deeper (envOf name scope L a cd)) (handleBy (.ref e) (envOf name scope L a cd) hs) Q E s₃) E s₂) E s' := by
  obtain ⟨⟨⟨B, hB, hBG, hl, hfl, hnew⟩, htup⟩, D⟩ := R
  refine wpAny_dict (keepsD_noteFrame _ _) D (wpAny_looks_onW (Around.frames_deeper K.stack) rfl hfl fun h₄ hheld₄ hsm₄ D₄ => ?_)
  refine wpAny_dict (keepsD_setFlight _ _) D₄ (wpAny_landsW hheld₄ fun h₅ hheld hsm₅' D₅ => ?_)
  exact k h₅ ⟨⟨⟨B, hB, hBG, hl, hheld, hnew⟩, htup.of_slots (hsm₄.trans hsm₅')⟩, D₅⟩ (hsm.trans (hsm₄.trans hsm₅'))
theorem pass_D (R : RaisedD base G (envOf name scope L a cd :: outer) e d cls t vs news s'.heap) (F : Fr g L G m) (K : Below A₀ base outer g) (hsm : G.UpToSlots s'.heap) (XB : KF.In base) (TB : Top p loose mean mg mb base)
    (T : KtsTest prog w KF p loose mg mb name scope L a cd cls tt false)
    (k : ∀ h', RaisedD base G (envOf name scope L a cd :: outer) e d cls t vs news h' → G.UpToSlots h' → wpAny (model prog w) (A₀.deeper (envOf name scope L a cd)) (handleBy (.ref e) (envOf name scope L a cd) rest) Q E { s' with heap := h' }) :
    wpAny (model prog w) (A₀.deeper (envOf name scope L a cd)) (handleBy (.ref e) (envOf name scope L a cd) (.ExceptHandler (some tt) nm body pos :: rest)) Q E s' := by
  have R' := R.1
  obtain ⟨⟨B, hB, hBG, hl, hfl, hnew⟩, htup⟩ := R'
  obtain ⟨g₅, T₅, F₅, K₅⟩ := kts_ground K F hBG hfl.1 hsm
  refine wpAny_handleBy_cons (codeAny_handlers_test (T _ _ _ _ g₅ e m F₅ (XB.keeps K₅.stays) (topRead_of (TB.keeps K₅.stays)) R.1.toSN.ty fun h' kp => ?_)) (by intro q; cases q)
  exact k h' ⟨R.1.keeps kp, dictAt_keeps kp R.2⟩ (hsm.trans (Heap.UpToSlots.of_keeps kp))
theorem hit_D (R : RaisedD base G (envOf name scope L a cd :: outer) e d cls t vs news s'.heap) (F : Fr g L G m) (K : Below A₀ base outer g) (hsm : G.UpToSlots s'.heap) (XB : KF.In base) (TB : Top p loose mean mg mb base)
    (D : KtsDicts (outer.filterMap (·.frame)) g) (T0 : KtsTurn (outer.filterMap (·.frame)) g₀ g) (T : KtsTest prog w KF p loose mg mb name scope L a cd cls tt true)
    (k : ∀ h' g' oe ws tk, KtsTurn (outer.filterMap (·.frame)) g₀ g' → oe.cls = cls → oe.dict = some d → oe.data = .fields ws → Fr g' L h' (fun y => if y = n then some (.ref e) else m y) → News g' L h' ((e, oe) :: news) → Below A₀ base outer g' → KF.In g' → Top p loose mean mg mb g' → KtsDicts (outer.filterMap (·.frame)) g' →
      wpAny (model prog w) ((A₀.deeper (envOf name scope L a cd)).mark (some (.ref e))) (execs (b₀ :: suite) (envOf name scope L a cd))
        (fun f s₄ => wpAny (model prog w) (A₀.deeper (envOf name scope L a cd)) (do bindName (envOf name scope L a cd) n .none; unbindBehindTheSuite (envOf name scope L a cd) n pos) (fun _ s₅ => Q f s₅) E s₄)
        (AsSuiteRaised (model prog w) ((A₀.deeper (envOf name scope L a cd)).mark (some (.ref e))) (envOf name scope L a cd) n pos (notedBy (model prog w) ((A₀.deeper (envOf name scope L a cd)).mark (some (.ref e))) (envOf name scope L a cd) (cameBackBy (model prog w) (A₀.deeper (envOf name scope L a cd)) (envOf name scope L a cd) E)))
        { s' with heap := h', toks := tk })
    (hk : scope.kind = .function := by rfl) (hlo : (envOf name scope L a cd).kindOf n = some .local := by rfl) :
    wpAny (model prog w) (A₀.deeper (envOf name scope L a cd)) (handleBy (.ref e) (envOf name scope L a cd) (.ExceptHandler (some tt) (some n) (b₀ :: suite) pos :: rest)) Q E s' := by
  have R' := R.1
  obtain ⟨⟨B₁, _, hBG₁, _, hfl₁, _⟩, _⟩ := R'
  obtain ⟨g₅, T₅, F₅, K₅⟩ := kts_ground K F hBG₁ hfl₁.1 hsm
  refine wpAny_handleBy_cons (codeAny_handlers_test (T _ _ _ _ g₅ e m F₅ (XB.keeps K₅.stays) (topRead_of (TB.keeps K₅.stays)) R.1.toSN.ty fun h₅ kp => ?_)) (by intro q; cases q)
  have hsm₅ : G.UpToSlots h₅ := hsm.trans (Heap.UpToSlots.of_keeps kp)
  obtain ⟨⟨B, hB, hBG, hl, hheld, hnew⟩, htup⟩ := R.1.keeps kp
  have hL : B.get? L = none := by
    obtain ⟨_, ⟨L', _, hf, hn', _⟩, _⟩ := hheld.2.2.1
    obtain rfl : L = L' := Option.some.inj hf
    exact hn'
  refine codeAny_handlers_suite_as ?_
  refine wpAny_dict (keepsD_setFlight _ _) (dictAt_keeps kp R.2) (lands_againW hheld fun h₆ hfl₆ hsm₆ D₆' => ?_)
  obtain ⟨g₆, T₆, F₆, K₆⟩ := kts_ground K F hBG hfl₆.1 (hsm₅.trans hsm₆)
  obtain ⟨oe, ws, hoe, hoec, hoed, hoe0⟩ := hfl₆.first
  have hod : oe.dict = some d := by
    obtain ⟨o', ho', hd'⟩ := D₆'
    rw [hoe] at ho'
    cases ho'
    exact hd'
  have ne₆ : g₆.get? e = none := T₆.none_ _ (kts_fresh F hBG hfl₆.2.1 fun o ho m => by
    obtain ⟨_, o', ho', hd⟩ := K.frames.mem m
    rw [ho] at ho'
    cases ho'
    obtain ⟨sl, hs⟩ := (hsm₅.trans hsm₆) _ _ (F.keep _ _ ho) hd
    rw [hoe] at hs
    cases hs
    exact hd _ hoed)
  have N₆ := News.more F₆ News.nil hoe (fun es n q => by rw [hoed] at q; cases q) ne₆
  have Nl : News g₆ L h₆ news := fun q hq => ⟨hfl₆.1 _ _ (hl q hq).1, (fun z => by have := (hl q hq).1; rw [z, hL] at this; cases this), T₆.none_ _ (kts_none F.keep (hl q hq).2.1)⟩
  have X₆ : KF.In g₆ := XB.keeps K₆.stays
  have P₆ : Top p loose mean mg mb g₆ := TB.keeps K₆.stays
  refine stN F₆ (news := (e, oe) :: news) (fun q hq => (List.mem_cons.mp hq).elim (fun z => z ▸ N₆ _ (.head _)) (Nl q)) (fun h₇ F₇ N₇ => ?_) hk hlo
  exact k h₇ g₆ oe ws _ (T0.trans T₆) hoec hod hoed F₇ N₇ K₆ X₆ P₆ (D.turn T₆)
end

theorem find_why {P : Params} {C : Addr} {od : Obj} {v : Value} {cd : ClassData} (hc : clsIn (Mine.top.heap_1 P) C = some cd) (hd : cd.hasDict = true) (hf : findIn (Mine.top.heap_1 P) (.ref C) (Str.ofString "why") = some none) (h : lookIn (Str.ofString "why") od = some (some v)) :
    findObj (Mine.top.heap_1 P) C (some od) (Str.ofString "why") = some (.value v) := by
  unfold findObj
  rw [hc, Option.bind_some, hf, Option.bind_some, Option.bind_some, Option.bind_some]
  dsimp only
  unfold PySem.W.ownOf
  rw [if_pos hd]
  dsimp only
  rw [h, Option.bind_some]
section
variable {prog : Program} {w : World} {A : Around} {E : Value → Shared → Prop} {s : Shared} {K : Frag} {x C : Addr} {ox : Obj} {od : Option Obj} {name : Str} {expr : Bool} {Q : Value → Shared → Prop}
set_option maxRecDepth 100000 in
theorem get_exc {v : Value} (X : K.In s.heap) (I : InstAt s.heap x ox C od) (hga : findIn K (.ref C) "__getattribute__" = some (some (.builtin "BaseException.__getattribute__"))) (hgn : findIn K (.ref C) "__getattr__" = some none)
    (hm : mroIn K C (.type "BaseException") = some true) (hf : findObj K C od name = some (.value v)) (hh : handedIn v = true) (h : Q v { s with toks := s.toks + 1 }) : wpAny (model prog w) A (getAttr (.ref x) name expr) Q E s := by
  obtain ⟨hp, g, d, t, os⟩ := s
  have L0 := I.type (M := model prog w)
  have L1 := looks_findIn (M := model prog w) X hga
  have L2 := looks_findIn (M := model prog w) X hgn
  have L3 := looks_find (M := model prog w) X I hf
  have LM := looks_mroIn (M := model prog w) X hm
  have f3 := PySem.F.attrBase_Exception.ga.bind (.ref x)
  have hx0 : (expr && onTheHeap (Value.builtin "BaseException.__getattribute__")) = false := by cases expr <;> rfl
  have hx2 : (Value.builtin "BaseException.__getattribute__" == Value.builtin "object.__getattribute__") = false := by decide +kernel
  unfold getAttr getAttrBy
  refine wpAny_bind (wpAny_mkText (wpAny_holding (wpAny_bind (L0.at (wpAny_bind (L1.at ?_))))))
  dsimp only
  rw [hx2, Bool.and_false, if_neg (by decide)]
  unfold getAttrByItsOwn
  refine wpAny_bind (L2.at ?_)
  repeat (any_goals (first | assumption | wp_step))
  have hk : builtinKind "BaseException.__getattribute__" = some .slot := by decide +kernel
  have hsplit : splitId "BaseException.__getattribute__" = some ("BaseException", "__getattribute__") := by decide +kernel
  have ha := PySem.F.args_bexc_ga (.ref x) (.str name t)
  refine codeAny_call_builtin PySem.F.attrBase_Exception.ga.plain PySem.F.entry_bexc_ga ?_
  simp only [checkBuiltinCall, hk, hsplit]
  refine wpAny_bind ?_
  · unfold isInstance
    refine wpAny_bind (L0.at (LM.at ?_))
    repeat (first | (with_reducible assumption) | wp_step)
    refine wpAny_loadPart_at I.at_ ?_
    refine wpAny_pure ?_
    rw [I.cls]
    refine wpAny_bind (L3.at ?_)
    dsimp only
    repeat (first | (with_reducible assumption) | wp_step)
    show wpAny _ _ (handedOut v) _ _ _
    rw [handedOut_of hh]
    exact wpAny_pure h
end
set_option maxRecDepth 100000 in
theorem ga56 {P : Params} : findIn (Mine.top.heap_1 P) (.ref 56) "__getattribute__" = some (some (.builtin "BaseException.__getattribute__")) := by with_unfolding_all rfl
set_option maxRecDepth 100000 in
theorem ga44 {P : Params} : findIn (Mine.top.heap_1 P) (.ref 44) "__getattribute__" = some (some (.builtin "BaseException.__getattribute__")) := by with_unfolding_all rfl
set_option maxRecDepth 100000 in
theorem fw56 {P : Params} : findIn (Mine.top.heap_1 P) (.ref 56) (Str.ofString "why") = some none := by with_unfolding_all rfl
set_option maxRecDepth 100000 in
theorem fw44 {P : Params} : findIn (Mine.top.heap_1 P) (.ref 44) (Str.ofString "why") = some none := by with_unfolding_all rfl

set_option maxRecDepth 100000 in
theorem gn56 {P : Params} : findIn (Mine.top.heap_1 P) (.ref 56) "__getattr__" = some none := by with_unfolding_all rfl
set_option maxRecDepth 100000 in
theorem gn44 {P : Params} : findIn (Mine.top.heap_1 P) (.ref 44) "__getattr__" = some none := by with_unfolding_all rfl
set_option maxRecDepth 100000 in
theorem mr56 {P : Params} : mroIn (Mine.top.heap_1 P) 56 (.type "BaseException") = some true := by with_unfolding_all rfl
set_option maxRecDepth 100000 in
theorem mr44 {P : Params} : mroIn (Mine.top.heap_1 P) 44 (.type "BaseException") = some true := by with_unfolding_all rfl
set_option maxRecDepth 100000 in
theorem fy56 {P : Params} {od : Obj} {v : Value} (h : lookIn (Str.ofString "why") od = some (some v)) : findObj (Mine.top.heap_1 P) 56 (some od) (Str.ofString "why") = some (.value v) := find_why (by with_unfolding_all rfl) (by with_unfolding_all rfl) fw56 h
set_option maxRecDepth 100000 in
theorem fy44 {P : Params} {od : Obj} {v : Value} (h : lookIn (Str.ofString "why") od = some (some v)) : findObj (Mine.top.heap_1 P) 44 (some od) (Str.ofString "why") = some (.value v) := find_why (by with_unfolding_all rfl) (by with_unfolding_all rfl) fw44 h
section
variable {prog : Program} {w : World} {A : Around} {E : Value → Shared → Prop} {s : Shared} {e d : Addr} {oe od : Obj} {ws : Array Value} {expr : Bool} {Q : Value → Shared → Prop} {y : Str} {ty : Tok}
theorem why_of56 (X : (Mine.top.heap_1 w.params).In s.heap) (he : s.heap.get? e = some oe) (hc : oe.cls = .ref 56) (hd : oe.dict = some d) (hf : oe.data = .fields ws) (hod : s.heap.get? d = some od) (hw : lookIn (Str.ofString "why") od = some (some (.str y ty)))
    (h : Q (.str y ty) { s with toks := s.toks + 1 }) : wpAny (model prog w) A (getAttr (.ref e) (Str.ofString "why") expr) Q E s :=
  get_exc X ⟨he, hc, by unfold notCls; rw [hf], by rw [hd]; exact hod⟩ ga56 gn56 mr56 (fy56 hw) rfl h
theorem why_of44 (X : (Mine.top.heap_1 w.params).In s.heap) (he : s.heap.get? e = some oe) (hc : oe.cls = .ref 44) (hd : oe.dict = some d) (hf : oe.data = .fields ws) (hod : s.heap.get? d = some od) (hw : lookIn (Str.ofString "why") od = some (some (.str y ty)))
    (h : Q (.str y ty) { s with toks := s.toks + 1 }) : wpAny (model prog w) A (getAttr (.ref e) (Str.ofString "why") expr) Q E s :=
  get_exc X ⟨he, hc, by unfold notCls; rw [hf], by rw [hd]; exact hod⟩ ga44 gn44 mr44 (fy44 hw) rfl h
end

def RaisableD (K : Frag) (E : Value → Shared → Prop) (v : Value) (s₁ : Shared) : Prop :=
  ∃ e d t C, v = .ref e ∧ ktsIn K C "BaseException" = true ∧ K.In s₁.heap ∧ s₁.heap.get? e = some { cls := .ref C, dict := some d, data := .fields #[.ref t, .none, .none, .none, .bool false, .none] } ∧ E (.ref e) s₁
theorem Raise_D {M : Model} {A : Around} {K : Frag} {ex : PySem.Expr} {env : Env} {pos : Pos} {Q : Flow → Shared → Prop} {E : Value → Shared → Prop} {s : Shared} (hh : A.handled = none) (h : wpAny M A (eval ex env) (RaisableD K E) E s) :
    wpAny M A (exec (.Raise (some ex) none pos) env) Q E s := by
  show wpAny M A (do standAt pos; raiseStmt env (some (do let v ← eval ex env; standAt pos; pure v)) none) Q E s
  refine wpAny_bind (wpAny_standAt ?_)
  unfold raiseStmt
  dsimp only
  refine wpAny_bind (wpAny_bind (wpAny_mono h (fun v s₁ h₁ => wpAny_bind (wpAny_standAt (wpAny_pure ?_))) fun _ _ x => x))
  obtain ⟨e, d, t, C, rfl, q, X, he, hE⟩ := h₁
  obtain ⟨nm, q', N, bs, bm, hdct, sn, sub, ab, col, dd, k0, k1, k2, k3, k5, newId, hC, hbase, hbT⟩ := kts_cls X q
  obtain ⟨hp, g, dr, tk, os⟩ := s₁
  have hcB : (Value.ref C :: bm).contains (.type "BaseException") = true := by rw [List.contains_cons, hbase, Bool.or_true]
  repeat (first | with_reducible refine wpAny_loadPart_at he ?_ | with_reducible refine wpAny_loadPart_at hC ?_ | (with_reducible refine wpAny_isSubtype_exc hC ?_; rw [hcB]) | wp_step)
  exact wpAny_raiseNew_none hh hE
set_option maxRecDepth 100000 in
theorem kx56 {P : Params} : ktsIn (Mine.top.heap_1 P) 56 "BaseException" = true := by with_unfolding_all rfl
set_option maxRecDepth 100000 in
theorem kx44 {P : Params} : ktsIn (Mine.top.heap_1 P) 44 "BaseException" = true := by with_unfolding_all rfl
theorem Raise_K {prog : Program} {w : World} {A : Around} {ex : PySem.Expr} {env : Env} {pos : Pos} {Q : Flow → Shared → Prop} {E : Value → Shared → Prop} {s : Shared} (hh : A.handled = none) (h : wpAny (model prog w) A (eval ex env) (RaisableD (Mine.top.heap_1 w.params) E) E s) :
    wpAny (model prog w) A (exec (.Raise (some ex) none pos) env) Q E s := Raise_D hh h
set_option maxRecDepth 100000 in
theorem ownx56 {P : Params} : ownIn (Mine.top.heap_1 P) 56 31 = true := by with_unfolding_all rfl
set_option maxRecDepth 100000 in
theorem sax56 {P : Params} : findIn (Mine.top.heap_1 P) (.ref 56) "__setattr__" = some (some (.builtin "object.__setattr__")) := by with_unfolding_all rfl
set_option maxRecDepth 100000 in
theorem inx56 {P : Params} : findIn (Mine.top.heap_1 P) (.ref 56) "__init__" = some (some (.ref 28)) := by with_unfolding_all rfl
set_option maxRecDepth 100000 in
theorem atx56 {P : Params} : findIn (Mine.top.heap_1 P) (.ref 56) (Str.ofString "at") = some none := by with_unfolding_all rfl
set_option maxRecDepth 100000 in
theorem ownx44 {P : Params} : ownIn (Mine.top.heap_1 P) 44 31 = true := by with_unfolding_all rfl
set_option maxRecDepth 100000 in
theorem sax44 {P : Params} : findIn (Mine.top.heap_1 P) (.ref 44) "__setattr__" = some (some (.builtin "object.__setattr__")) := by with_unfolding_all rfl
set_option maxRecDepth 100000 in
theorem inx44 {P : Params} : findIn (Mine.top.heap_1 P) (.ref 44) "__init__" = some (some (.ref 28)) := by with_unfolding_all rfl
set_option maxRecDepth 100000 in
theorem atx44 {P : Params} : findIn (Mine.top.heap_1 P) (.ref 44) (Str.ofString "at") = some none := by with_unfolding_all rfl

structure Gnd (fs : List Addr) (A₀ : Around) (base : Heap) (outer : List Env) (KF : Frag) (p : Program) (loose : List Str) (mean : ExcName → Option Value) (mg mb : Str → Option Value) (g₀ g : Heap) : Prop where
  turn : KtsTurn fs g₀ g
  below : Below A₀ base outer g
  kin : KF.In g
  top : Top p loose mean mg mb g
  dicts : KtsDicts fs g
def LoopT (prog : Program) (w : World) (A : Around) (env : Env) (x : Str) (px : Pos) (body : List Stmt) (Q : Flow → Shared → Prop) (E : Value → Shared → Prop) (it : Value) (s₂ : Shared) : Prop :=
  codeAny (model prog w) A (.forLoop (.Name x px) it body [] env) (fun r s' => match r with | .ok f => Q f s' | .error e => cameBackBy (model prog w) A env E e s') s₂
section
variable {prog : Program} {w : World} {A : Around} {E : Value → Shared → Prop} {s : Shared} {env : Env} {x : Str} {px pos : Pos} {iter : PySem.Expr} {body : List Stmt} {Q : Flow → Shared → Prop}
theorem For_T (h : wpAny (model prog w) A (eval iter env) (fun xv s₁ => wpAny (model prog w) A (pyIter xv) (fun it s₂ => LoopT prog w A env x px body Q E it s₂) E s₁) E s) (hs : ∀ x, foldedSetIterable iter env x = pure x := by intro _; rfl) :
    wpAny (model prog w) A (exec (.For (.Name x px) iter body [] pos) env) Q E s := wpAny_For h hs
def TurnEnd (G : Heap → Prop) (L : Addr) (ps : List (Str × Value)) (news : List (Addr × Obj)) (I : Addr) (it : Obj) (s₁ s₂ : Shared) : Prop :=
  ∃ g' m' h' tk, s₂ = { s₁ with heap := h', toks := tk } ∧ G g' ∧ (∀ p ∈ ps, m' p.1 = some p.2) ∧ Fr g' L h' m' ∧ News g' L h' ((I, it) :: news)
def TurnPost (G : Heap → Prop) (L : Addr) (ps : List (Str × Value)) (news : List (Addr × Obj)) (I : Addr) (it : Obj) (s₁ : Shared) (Q : Flow → Shared → Prop) (f : Flow) (s₂ : Shared) : Prop := match f with
  | .ret v => Q (.ret v) s₂
  | .brk => Q .next s₂
  | .next => TurnEnd G L ps news I it s₁ s₂
  | .cont => TurnEnd G L ps news I it s₁ s₂
theorem iter_T {r : Addr} {b₀ : Int} {t₀ u₀ v₀ : Tok} {n : Nat} {g : Heap} {m : Str → Option Value} {news : List (Addr × Obj)} {ps : List (Str × Value)} (G : Heap → Prop)
    (hh : A.handled = none) (hx : env.kindOf x = some .local) (hp : (env.scope.kind == .class || (env.scope.kind == .module && env.locals != env.globals)) = false)
    (hr : IsRange s.heap r 0 b₀ 1 t₀ u₀ v₀) (hsmall : Builtin.Range.small 0 b₀ 1 = true) (hn : Builtin.Range.rangeSize 0 b₀ 1 = (n : Int)) (Gg : G g) (F : Fr g env.locals s.heap m) (N : News g env.locals s.heap news)
    (hps : ∀ p ∈ ps, m p.1 = some p.2)
    (turn : ∀ (i : Nat) (g' : Heap) (m' : Str → Option Value) (I : Addr) (t : Tok) (h : Heap) (tk : Nat), i < n → G g' → (∀ p ∈ ps, m' p.1 = some p.2) → (∀ p ∈ news, p.1 < I) → Fr g' env.locals h (fun y => if y = x then some (.int (i : Int) t) else m' y) →
      News g' env.locals h ((I, itR ((i + 1 : Nat) : Int) ((n : Int) - ((i + 1 : Nat) : Int))) :: news) →
      wpAny (model prog w) A (execs body env) (TurnPost G env.locals ps news I (itR ((i + 1 : Nat) : Int) ((n : Int) - ((i + 1 : Nat) : Int))) { s with heap := h, toks := tk } Q) E { s with heap := h, toks := tk })
    (done : ∀ (g' : Heap) (m' : Str → Option Value) (h : Heap) (tk : Nat), G g' → (∀ p ∈ ps, m' p.1 = some p.2) → Fr g' env.locals h m' → News g' env.locals h news → Q .next { s with heap := h, toks := tk })
    (hE : PassesOwn (model prog w) A env E := by passes_own) :
    wpAny (model prog w) A (pyIter (.ref r)) (fun it s₂ => LoopT prog w A env x px body Q E it s₂) E s := by
  refine wpAny_pyIter_range hr hsmall ?_
  have W : Walks prog w A s.heap.objs.size [s.heap.objs.size] [s.heap.objs.size] n (fun i v => i < n ∧ ∃ t, v = .int ((0 : Int) + i * 1) t)
      (fun i h => IsRangeIter h s.heap.objs.size ((0 : Int) + (i : Nat) * 1) ((n : Int) - (i : Nat)) 1) := (Walks.range hh _ 0 1 n).bound
  have hL : env.locals < s.heap.objs.size := F.ns.lt
  have hnI : ∀ p ∈ news, p.1 < s.heap.objs.size := fun p hp => Heap.lt_size (N p hp).1
  have gI : ∀ (g' h' : Heap) (m' : Str → Option Value), Fr g' env.locals h' m' → ∀ b o, g'.get? b = some o → b ≠ s.heap.objs.size := fun g' h' m' F' b o e q => by
    subst q
    exact Nat.lt_irrefl _ (Nat.lt_trans (Nat.lt_of_lt_of_le (Heap.lt_size e) F'.above) hL)
  refine codeAny_forLoop
    (fun k s' => ∃ h' tk g' m' i, s' = { s with heap := h', toks := tk } ∧ IsRangeIter h' s.heap.objs.size ((0 : Int) + (i : Nat) * 1) ((n : Int) - (i : Nat)) 1 ∧ G g' ∧ (∀ p ∈ ps, m' p.1 = some p.2) ∧ Fr g' env.locals h' m' ∧ News g' env.locals h' news ∧ i ≤ n ∧ k = n + 1 - i) ?_ (n + 1)
    ⟨_, s.toks, g, m, 0, rfl, (by show IsRangeIter _ _ _ _ _; rw [hn]; simpa using Heap.get?_push_size _ rfl), Gg, hps, F.push _, (fun p hp => ⟨Heap.get?_push_of_some _ (N p hp).1, (N p hp).2⟩), Nat.zero_le _, rfl⟩
  rintro k s' ⟨h', tk, g', m', i, rfl, hst', G', hps', F', N', hi, rfl⟩
  have next : ∀ h₁ : Heap, (∀ b o, b ∉ [s.heap.objs.size] → h'.get? b = some o → h₁.get? b = some o) → Fr g' env.locals h₁ m' ∧ News g' env.locals h₁ news := fun h₁ hk₁ =>
    ⟨⟨F'.ns.at' fun o e => hk₁ _ o (fun q => Nat.ne_of_lt hL (List.mem_singleton.mp q)) e, fun b o e => hk₁ b o (fun q => gI _ _ _ F' b o e (List.mem_singleton.mp q)) (F'.keep b o e), F'.above⟩,
      fun p hp => ⟨hk₁ _ _ (fun q => Nat.ne_of_lt (hnI p hp) (List.mem_singleton.mp q)) (N' p hp).1, (N' p hp).2⟩⟩
  by_cases hlt : i < n
  · refine W.item i _ _ _ hlt hst' fun v h₁ tk₁ hP hst₁ hk₁ => ?_
    obtain ⟨_, t, rfl⟩ := hP
    obtain ⟨F₁, N₁⟩ := next h₁ hk₁
    refine wpAny_assign_Name (wpAny_storeName_local hx F₁.ns (fun h₂ hn₂ hs₂ => ?_) hp)
    have F₂ := F₁.set hn₂ hs₂
    have N₂ := N₁.set hs₂
    have hI : h₂.get? s.heap.objs.size = some (itR ((i + 1 : Nat) : Int) ((n : Int) - ((i + 1 : Nat) : Int))) := by
      refine (hs₂.2 _ (Nat.ne_of_gt hL)).trans ?_
      have q : IsRangeIter h₁ s.heap.objs.size ((0 : Int) + ((i + 1 : Nat) : Int) * 1) ((n : Int) - ((i + 1 : Nat) : Int)) 1 := hst₁
      rw [Int.mul_one, Int.zero_add] at q
      exact q
    have e1 : (0 : Int) + (i : Int) * 1 = (i : Int) := by omega
    rw [e1] at F₂
    have N₃ : News g' env.locals h₂ ((s.heap.objs.size, itR ((i + 1 : Nat) : Int) ((n : Int) - ((i + 1 : Nat) : Int))) :: news) := fun p hp => by
      rcases List.mem_cons.mp hp with rfl | hp
      · refine ⟨hI, Nat.ne_of_gt hL, ?_⟩
        cases q : g'.get? s.heap.objs.size with
        | none => rfl
        | some o => exact absurd rfl (gI _ _ _ F' _ _ q)
      · exact N₂ p hp
    refine wpAny_mono (wpAny_passesOwn hE (turn i g' m' s.heap.objs.size t h₂ _ hlt G' hps' hnI F₂ N₃)) (fun f s₃ h₃ => ?_) fun _ _ e => e
    have fin : ∀ tk₂ : Nat, TurnEnd G env.locals ps news s.heap.objs.size (itR ((i + 1 : Nat) : Int) ((n : Int) - ((i + 1 : Nat) : Int))) { s with heap := h₂, toks := tk₂ } s₃ →
        ∃ m₀, m₀ < n + 1 - i ∧ ∃ h' tk g' m' i, s₃ = { s with heap := h', toks := tk } ∧ IsRangeIter h' s.heap.objs.size ((0 : Int) + (i : Nat) * 1) ((n : Int) - (i : Nat)) 1 ∧ G g' ∧ (∀ p ∈ ps, m' p.1 = some p.2) ∧ Fr g' env.locals h' m' ∧ News g' env.locals h' news ∧ i ≤ n ∧ m₀ = n + 1 - i := by
      rintro _ ⟨g₃, m₃, hh₃, tk₃, e₃, G₃, ps₃, F₃, N₃⟩
      refine ⟨n + 1 - (i + 1), by omega, hh₃, tk₃, g₃, m₃, i + 1, e₃, ?_, G₃, ps₃, F₃, fun p hp => N₃ p (.tail _ hp), hlt, rfl⟩
      have q := (N₃ _ (.head _)).1
      show IsRangeIter _ _ _ _ _
      rw [Int.mul_one, Int.zero_add]
      exact q
    cases f with
    | ret v => exact h₃
    | brk => exact h₃
    | cont => exact fin _ h₃
    | next => exact fin _ h₃
  · have hin : i = n := by omega
    subst hin
    refine W.done _ _ _ hst' fun h₁ tk₁ hk₁ => wpAny_execs_nil ?_
    obtain ⟨F₁, N₁⟩ := next h₁ hk₁
    exact done g' m' h₁ tk₁ G' hps' F₁ N₁
theorem kstB_same {m : Str → Option Value} : ∀ {ps : List (Str × Value)}, (∀ p ∈ ps, m p.1 = some p.2) → kstB m ps = m
  | [], _ => rfl
  | p :: r, h => by
    funext y
    show (if y = p.1 then some p.2 else kstB m r y) = m y
    by_cases e : y = p.1
    · rw [if_pos e, e, h p (.head _)]
    · rw [if_neg e, kstB_same fun q hq => h q (.tail _ hq)]
theorem iter_G {fs : List Addr} {A₁ : Around} {base : Heap} {outer : List Env} {KF : Frag} {p : Program} {loose : List Str} {mean : ExcName → Option Value} {mg mb : Str → Option Value} {L : Addr}
    {r : Addr} {b₀ : Int} {t₀ u₀ v₀ : Tok} {n : Nat} {g : Heap} {m : Str → Option Value} {news : List (Addr × Obj)} {ps : List (Str × Value)}
    (hh : A.handled = none) (hx : env.kindOf x = some .local) (hp : (env.scope.kind == .class || (env.scope.kind == .module && env.locals != env.globals)) = false) (hL : env.locals = L)
    (hr : IsRange s.heap r 0 b₀ 1 t₀ u₀ v₀) (hsmall : Builtin.Range.small 0 b₀ 1 = true) (hn : Builtin.Range.rangeSize 0 b₀ 1 = (n : Int))
    (B : Below A₁ base outer g) (X : KF.In g) (P : Top p loose mean mg mb g) (D : KtsDicts fs g) (F : Fr g L s.heap m) (N : News g L s.heap news) (hps : ∀ p ∈ ps, m p.1 = some p.2)
    (turn : ∀ (k : Int) (g' : Heap) (m' : Str → Option Value) (I : Addr) (it : Obj) (t : Tok) (h : Heap) (tk : Nat), 0 ≤ k → k < (n : Int) → KtsTurn fs g g' → Below A₁ base outer g' → KF.In g' → Top p loose mean mg mb g' → KtsDicts fs g' →
      Fr g' L h (fun y => if y = x then some (.int k t) else kstB m' ps y) → News g' L h ((I, it) :: news) →
      wpAny (model prog w) A (execs body env) (TurnPost (Gnd fs A₁ base outer KF p loose mean mg mb g) L ps news I it { s with heap := h, toks := tk } Q) E { s with heap := h, toks := tk })
    (done : ∀ (g' : Heap) (m' : Str → Option Value) (h : Heap) (tk : Nat), KtsTurn fs g g' → Below A₁ base outer g' → KF.In g' → Top p loose mean mg mb g' → KtsDicts fs g' → Fr g' L h (kstB m' ps) → News g' L h news → Q .next { s with heap := h, toks := tk })
    (hE : PassesOwn (model prog w) A env E := by passes_own) :
    wpAny (model prog w) A (pyIter (.ref r)) (fun it s₂ => LoopT prog w A env x px body Q E it s₂) E s := by
  subst hL
  refine iter_T (Gnd fs A₁ base outer KF p loose mean mg mb g) hh hx hp hr hsmall hn ⟨KtsTurn.refl, B, X, P, D⟩ F N hps (fun i g' m' I t h tk hi G' hps' _ F' N' => ?_) (fun g' m' h tk G' hps' F' N' => ?_) hE
  · obtain ⟨T', B', X', P', D'⟩ := G'
    rw [← kstB_same hps'] at F'
    exact turn _ g' m' I _ t h tk (Int.natCast_nonneg i) (Int.ofNat_lt.mpr hi) T' B' X' P' D' F' N'
  · obtain ⟨T', B', X', P', D'⟩ := G'
    rw [← kstB_same hps'] at F'
    exact done g' m' h tk T' B' X' P' D' F' N'
end

theorem item_at {prog : Program} {w : World} {A : Around} {E : Value → Shared → Prop} {s : Shared} {value slice : PySem.Expr} {l : Addr} {vs : List Value} {k : Int} {u : Tok} {v : Value} {Q : Value → Shared → Prop}
    (hl : s.heap.IsList l vs.toArray) (h0 : 0 ≤ k) (hhi : k < 2 ^ 63) (hx : vs[k.toNat]? = some v) (h : Q v s)
    (hs : subscripted slice false (.ref l) (.int k u) = operate [.ref l, .int k u] (getItem (.ref l) (.int k u))) :
    wpAny (model prog w) A (subscriptTail value slice (.ref l) (.int k u)) Q E s :=
  tail_any hl.typeIs slot_list_getitem.lookup (wpAny_getItem_list hl h0 hhi (by simpa using hx) h) hs

theorem ci_gen {M : Model} {A : Around} {env : Env} {E : Value → Shared → Prop} {s : Shared} {i : Int} {k : Nat} {pos : Pos} {Q : Value → Shared → Prop} (h : ∀ t tk, Q (.int i t) { s with toks := tk }) : wpAny M A (eval (.Constant (.int i) k pos) env) Q E s := wpAny_Constant_int (h _ _)
theorem cs_gen {M : Model} {A : Around} {env : Env} {E : Value → Shared → Prop} {s : Shared} {i : Str} {k : Nat} {pos : Pos} {Q : Value → Shared → Prop} (h : ∀ t tk, Q (.str i t) { s with toks := tk }) : wpAny M A (eval (.Constant (.str i) k pos) env) Q E s := wpAny_Constant_str (h _ _)
theorem nb_no {b : Bool} (h : b = true) : ¬ ((!b) = true) := by simp [h]

theorem item_unit {prog : Program} {w : World} {A : Around} {E : Value → Shared → Prop} {s : Shared} {value slice : PySem.Expr} {l : Addr} {t1 t2 t3 t4 t5 : Tok} {k : Int} {u : Tok} {Q : Value → Shared → Prop}
    (hl : s.heap.IsList l [Value.str (Str.ofString "second") t1, .str (Str.ofString "minute") t2, .str (Str.ofString "hour") t3, .str (Str.ofString "day") t4, .str (Str.ofString "week") t5].toArray) (h0 : 0 ≤ k) (h5 : k < 5)
    (h : ∀ x sc t, isUnit x ∧ secs x = sc → 1 ≤ sc → sc ≤ 604800 → spanOf k = sc * 1000000000 → Q (.str x t) s)
    (hs : subscripted slice false (.ref l) (.int k u) = operate [.ref l, .int k u] (getItem (.ref l) (.int k u)) := by with_unfolding_all rfl) :
    wpAny (model prog w) A (subscriptTail value slice (.ref l) (.int k u)) Q E s := by
  have : k = 0 ∨ k = 1 ∨ k = 2 ∨ k = 3 ∨ k = 4 := by omega
  have e1 : secs (Str.ofString "second") = 1 := by decide +kernel
  have e2 : secs (Str.ofString "minute") = 60 := by decide +kernel
  have e3 : secs (Str.ofString "hour") = 3600 := by decide +kernel
  have e4 : secs (Str.ofString "day") = 86400 := by decide +kernel
  have e5 : secs (Str.ofString "week") = 604800 := by decide +kernel
  rcases this with e | e | e | e | e <;> subst e
  · exact item_at hl (by decide) (by decide) rfl (h _ _ t1 ⟨.inl rfl, e1⟩ (by decide) (by decide) (by decide +kernel)) hs
  · exact item_at hl (by decide) (by decide) rfl (h _ _ t2 ⟨.inr (.inl rfl), e2⟩ (by decide) (by decide) (by decide +kernel)) hs
  · exact item_at hl (by decide) (by decide) rfl (h _ _ t3 ⟨.inr (.inr (.inl rfl)), e3⟩ (by decide) (by decide) (by decide +kernel)) hs
  · exact item_at hl (by decide) (by decide) rfl (h _ _ t4 ⟨.inr (.inr (.inr (.inl rfl))), e4⟩ (by decide) (by decide) (by decide +kernel)) hs
  · exact item_at hl (by decide) (by decide) rfl (h _ _ t5 ⟨.inr (.inr (.inr (.inr rfl))), e5⟩ (by decide) (by decide) (by decide +kernel)) hs
theorem fm0 {a b : Int} (hb : 0 < b) : 0 ≤ a.fmod b := Int.fmod_nonneg_of_pos _ hb
theorem fm1 {a b : Int} (hb : 0 < b) : 1 ≤ a.fmod b + 1 := by have := Int.fmod_nonneg_of_pos a hb; omega
theorem fm2 {a b c : Int} (hb : 0 < b) (h : b ≤ c) : a.fmod b + 1 ≤ c := by have := Int.fmod_lt_of_pos a hb; omega
theorem fm3 {a b c : Int} (hb : 0 < b) (h : b ≤ c) : a.fmod b < c := by have := Int.fmod_lt_of_pos a hb; omega
theorem fm4 {a b c : Int} (hb : 0 < b) (h : b < c) : a.fmod b + 1 < c := by have := Int.fmod_lt_of_pos a hb; omega
theorem fm5 {a b : Int} (hb : 0 < b) : 0 ≤ a.fmod b + 1 := by have := Int.fmod_nonneg_of_pos a hb; omega
theorem news_2nd {h h' : Heap} {L : Addr} {a b : Addr × Obj} {r : List (Addr × Obj)} (N : News h L h' (a :: b :: r)) : News h L h' (a :: r) := fun p hp => by
  rcases List.mem_cons.mp hp with e | e
  · exact N p (e ▸ .head _)
  · exact N p (.tail _ (.tail _ e))
theorem oct_no {a : Int} {p : Prop} (h : a = 1) (e : (a == 1) = false) : p := by simp [h] at e
theorem news_3rd {h h' : Heap} {L : Addr} {a b c : Addr × Obj} {r : List (Addr × Obj)} (N : News h L h' (a :: b :: c :: r)) : News h L h' (a :: r) := news_2nd (news_2nd N)
theorem lt_1 {D x : Addr} {r : List (Addr × Obj)} (h : @LT.lt Nat _ x D ∧ AllLt D r) : AllLt D r := h.2
theorem lt_2 {D x y : Addr} {r : List (Addr × Obj)} (h : @LT.lt Nat _ x D ∧ @LT.lt Nat _ y D ∧ AllLt D r) : AllLt D r := h.2.2

theorem news_pick {h h' : Heap} {L : Addr} {a0 a1 a2 a3 a4 a5 a6 a7 a8 a9 a10 a11 : Addr × Obj} (N : News h L h' [a0, a1, a2, a3, a4, a5, a6, a7, a8, a9, a10, a11]) : News h L h' [a1, a2, a3, a4, a5, a7, a8, a9, a10, a11] := by
  refine cb_drop N ?_
  intro p hp
  simp only [List.mem_cons, List.not_mem_nil, or_false] at hp ⊢
  rcases hp with e | e | e | e | e | e | e | e | e | e <;> simp [e]
theorem oct_eq {v v' S r b : Int} (e : v = (S * (r + b)).fdiv r) (e' : v' = (S * b).fdiv r) (hr : 1 ≤ r) : v = S + v' := by
  have h : S * (r + b) = S * b + S * r := by rw [Int.mul_add]; omega
  rw [e, e', h, Int.add_mul_fdiv_right _ _ (by omega)]
  omega
theorem tup_shaped {u : Str} {sc : Int} {over oct : Bool} {rate burst : Int} (h : isUnit u ∧ secs u = sc) : PySem.SeqAt.shaped (PyData.tuple [PyData.str (Str.ofString "limit"), PyData.bool over, PyData.int rate, PyData.str u, PyData.int burst, PyData.bool oct]) = true := by
  obtain ⟨h, _⟩ := h
  have s0 : (PyData.str (Str.ofString "limit")).canLay0 = true := by decide +kernel
  have s1 : (PyData.str u).canLay0 = true := by rcases h with h | h | h | h | h <;> subst h <;> decide +kernel
  simp only [SeqAt.shaped, PyData.canLay0, PyData.canLayAll0] at s0 s1 ⊢
  simp only [s0, s1, PyData.depth, PyData.depthAll, Bool.and_true, Bool.true_and]
  rfl
theorem tok_gen {M : Model} {A : Around} {E : Value → Shared → Prop} {s : Shared} {x : Value} {n : Str} {a b m : Int} {t : Tok} {Q : Unit → Shared → Prop} (e : m = min b a) (h : ∀ t, wpAny M A (setAttr x n (.int m t)) Q E s) :
    wpAny M A (setAttr x n (.int (if a < b then a else b) t)) Q E s := by
  have : (if a < b then a else b) = m := by split <;> omega
  rw [this]
  exact h t
theorem tb_no {a b : Bool} (h : a = b) : ¬ ((a != b) = true) := by rw [h]; cases b <;> decide
theorem hc_f {a b c : Int} (e : c = b) : c = if false = true then a else b := e
theorem hc_t {a b c : Int} (e : c = a) : c = if true = true then a else b := e
theorem told_y {a b : Int} {o : Bool} (h : a ≤ b) : (!o) = (decide (a ≤ b) != o) := by rw [decide_eq_true h]; cases o <;> rfl
theorem told_n {a b : Int} {o : Bool} (h : ¬ a ≤ b) : o = (decide (a ≤ b) != o) := by rw [decide_eq_false h]; cases o <;> rfl
inductive CostMark (S rate : Int) (oct : Bool) : Prop where
  | mk
def CostPost (h₀ : Heap) (L : Addr) (m : Str → Option Value) (news : List (Addr × Obj)) (S rate len : Int) (oct : Bool) (s : Shared) (v : Value) (s' : Shared) : Prop :=
  ∃ c t h' tk, v = .int c t ∧ s' = { s with heap := h', toks := tk } ∧ Fr h₀ L h' m ∧ News h₀ L h' news ∧ 0 ≤ c ∧ c = if oct = true then (S * len).fdiv rate else S.fdiv rate
theorem cost_end {h₀ : Heap} {L : Addr} {m : Str → Option Value} {news : List (Addr × Obj)} {S rate len c : Int} {oct : Bool} {s : Shared} {t : Tok} {h' : Heap} {tk : Nat} (F : Fr h₀ L h' m) (N : News h₀ L h' news) (p : 0 ≤ c) (q : c = if oct = true then (S * len).fdiv rate else S.fdiv rate) : CostPost h₀ L m news S rate len oct s (.int c t) { s with heap := h', toks := tk } := ⟨_, _, _, _, rfl, rfl, F, N, p, q⟩
theorem cut_cost {M : Model} {A : Around} {E : Value → Shared → Prop} {s : Shared} {t : Sem Value} {h₀ : Heap} {L : Addr} {m : Str → Option Value} {news : List (Addr × Obj)} {S rate len : Int} {oct : Bool} {tl : Tok} {Q : Value → Shared → Prop} (mk : CostMark S rate oct) (F : Fr h₀ L s.heap m) (N : News h₀ L s.heap news)
    (hl : ∀ p ∈ [(Str.ofString "length", Value.int len tl)], m p.1 = some p.2) (h : wpAny M A t (CostPost h₀ L m news S rate len oct s) E s)
    (k : ∀ c t h' tk, 0 ≤ c → (c = if oct = true then (S * len).fdiv rate else S.fdiv rate) → Fr h₀ L h' m → News h₀ L h' news → Q (.int c t) { s with heap := h', toks := tk }) : wpAny M A t Q E s :=
  wpAny_mono h (fun v s' ⟨c, t, h', tk, e1, e2, F', N', p, q⟩ => by rw [e1, e2]; exact k c t h' tk p q F' N') fun _ _ e => e
theorem cost_t {S len rate c : Int} {oct : Bool} (ho : oct = true) (e : c = (S * len).fdiv rate) : c = if oct = true then (S * len).fdiv rate else S.fdiv rate := by rw [if_pos ho]; exact e
theorem cost_f {S len rate c : Int} {oct : Bool} (ho : oct = false) (e : c = S.fdiv rate) : c = if oct = true then (S * len).fdiv rate else S.fdiv rate := by rw [ho]; exact e
inductive BMark : Prop where
  | mk
theorem cut_false {M : Model} {A : Around} {E : Value → Shared → Prop} {s : Shared} {t : Sem Bool} {Q : Bool → Shared → Prop} (mk : BMark) (h : wpAny M A t (fun v s' => v = false ∧ ∃ tk, s' = { s with toks := tk }) E s) (k : ∀ tk, Q false { s with toks := tk }) : wpAny M A t Q E s :=
  wpAny_mono h (fun v s' ⟨e1, tk, e2⟩ => by rw [e1, e2]; exact k tk) fun _ _ e => e
theorem news_swap {h h' : Heap} {L : Addr} {a b : Addr × Obj} {r : List (Addr × Obj)} (N : News h L h' (a :: b :: r)) : News h L h' (b :: a :: r) := fun p hp => by
  rcases List.mem_cons.mp hp with e | e
  · exact N p (e ▸ .tail _ (.head _))
  · rcases List.mem_cons.mp e with e | e
    · exact N p (e ▸ .head _)
    · exact N p (.tail _ (.tail _ e))
inductive BuckMark (S rate burst : Int) (oct : Bool) : Prop where
  | mk
def BuckPost (h₀ : Heap) (L : Addr) (m : Str → Option Value) (q1 tD c4 c3 c2 c1 p1 : Addr) (oq ot o4 o3 o2 o0 : Obj) (S rate burst : Int) (oct : Bool) (s : Shared) (f : Flow) (s' : Shared) : Prop :=
  ∃ b t oB h' tk, f = .next ∧ s' = { s with heap := h', toks := tk } ∧ oB.data = .cell (some (.int b t)) ∧ Fr h₀ L h' m ∧ News h₀ L h' [(q1, oq), (tD, ot), (c4, o4), (c3, o3), (c2, o2), (c1, oB), (p1, o0)] ∧ b = if oct = true then S + (S * burst).fdiv rate else S.fdiv rate * burst
theorem buck_end {h₀ : Heap} {L : Addr} {m : Str → Option Value} {q1 tD c4 c3 c2 c1 p1 : Addr} {oq ot o4 o3 o2 o0 : Obj} {S rate burst b : Int} {oct : Bool} {s : Shared} {t : Tok} {oB : Obj} {h' : Heap} {tk : Nat} (e : oB.data = .cell (some (.int b t))) (F : Fr h₀ L h' m) (N : News h₀ L h' [(q1, oq), (tD, ot), (c4, o4), (c3, o3), (c2, o2), (c1, oB), (p1, o0)])
    (q : b = if oct = true then S + (S * burst).fdiv rate else S.fdiv rate * burst) : BuckPost h₀ L m q1 tD c4 c3 c2 c1 p1 oq ot o4 o3 o2 o0 S rate burst oct s .next { s with heap := h', toks := tk } := ⟨_, _, _, _, _, rfl, rfl, e, F, N, q⟩
theorem cut_buck {M : Model} {A : Around} {E : Value → Shared → Prop} {s : Shared} {t : Sem Flow} {h₀ : Heap} {L : Addr} {m : Str → Option Value} {q1 tD c4 c3 c2 c1 p1 : Addr} {oq ot o4 o3 o2 o1 o0 : Obj} {S rate burst : Int} {oct : Bool} {Q : Flow → Shared → Prop} (mk : BuckMark S rate burst oct) (F : Fr h₀ L s.heap m)
    (N : News h₀ L s.heap [(q1, oq), (tD, ot), (c4, o4), (c3, o3), (c2, o2), (c1, o1), (p1, o0)]) (h : wpAny M A t (BuckPost h₀ L m q1 tD c4 c3 c2 c1 p1 oq ot o4 o3 o2 o0 S rate burst oct s) E s)
    (k : ∀ b t oB h' tk, oB.data = .cell (some (.int b t)) → (b = if oct = true then S + (S * burst).fdiv rate else S.fdiv rate * burst) → Fr h₀ L h' m → News h₀ L h' [(q1, oq), (tD, ot), (c4, o4), (c3, o3), (c2, o2), (c1, oB), (p1, o0)] → Q .next { s with heap := h', toks := tk }) : wpAny M A t Q E s :=
  wpAny_mono h (fun v s' ⟨b, t, oB, h', tk, e1, e2, e3, F', N', q⟩ => by rw [e1, e2]; exact k b t oB h' tk e3 q F' N') fun _ _ e => e
theorem buck_t {S rate burst c : Int} {oct : Bool} (ho : oct = true) (e : c = (S * burst).fdiv rate) : S + c = if oct = true then S + (S * burst).fdiv rate else S.fdiv rate * burst := by rw [if_pos ho, e]
theorem buck_f {S rate burst c : Int} {oct : Bool} (ho : oct = false) (e : c = S.fdiv rate) : c * burst = if oct = true then S + (S * burst).fdiv rate else S.fdiv rate * burst := by rw [ho, e]; rfl
theorem most_bk {m b S rate burst : Int} {oct : Bool} (e : m = if oct = true then (S * (rate + burst)).fdiv rate else S.fdiv rate * burst) (e' : b = if oct = true then S + (S * burst).fdiv rate else S.fdiv rate * burst) (hr : 1 ≤ rate) : m = b := by
  cases oct
  · exact e.trans e'.symm
  · exact (oct_eq e rfl hr).trans e'.symm
theorem b_clash {o : Bool} {b : Int} {p : Prop} (h : o = false → 1 ≤ b) (e : o = false) (z : b = 0) : p := absurd (h e) (by omega)
inductive RMark : Prop where
  | mk
def RoomPost (h₀ : Heap) (L : Addr) (m : Str → Option Value) (lK : Addr) (vs : List Value) (n : Nat) (rest : List (Addr × Obj)) (c M : Int) (s : Shared) (f : Flow) (s' : Shared) : Prop :=
  ∃ b t h' tk, f = .next ∧ s' = { s with heap := h', toks := tk } ∧ Fr h₀ L h' m ∧ News h₀ L h' ((lK, W.listOf (vs ++ [Value.int b t]).toArray n) :: rest) ∧ (c ≤ M → b = c) ∧ (¬ c ≤ M → b = 0)
theorem room_end {h₀ : Heap} {L : Addr} {m : Str → Option Value} {lK : Addr} {vs : List Value} {n : Nat} {rest : List (Addr × Obj)} {c M b : Int} {s : Shared} {t : Tok} {h' : Heap} {tk : Nat} (F : Fr h₀ L h' m) (N : News h₀ L h' ((lK, W.listOf (vs ++ [Value.int b t]).toArray n) :: rest)) (p : c ≤ M → b = c) (q : ¬ c ≤ M → b = 0) : RoomPost h₀ L m lK vs n rest c M s .next { s with heap := h', toks := tk } := ⟨_, _, _, _, rfl, rfl, F, N, p, q⟩
theorem cut_room {M' : Model} {A : Around} {E : Value → Shared → Prop} {s : Shared} {t : Sem Flow} {h₀ : Heap} {L : Addr} {m : Str → Option Value} {lK : Addr} {vs : List Value} {n : Nat} {rest : List (Addr × Obj)} {c M z : Int} {t0 : Tok} {Q : Flow → Shared → Prop} (mk : RMark) (F : Fr h₀ L s.heap m) (N : News h₀ L s.heap ((lK, W.listOf (vs ++ [Value.int z t0]).toArray n) :: rest))
    (hl : ∀ p ∈ [(Str.ofString "is_room", Value.bool (decide (c ≤ M)))], m p.1 = some p.2) (h : wpAny M' A t (RoomPost h₀ L m lK vs n rest c M s) E s)
    (k : ∀ b t h' tk, (c ≤ M → b = c) → (¬ c ≤ M → b = 0) → Fr h₀ L h' m → News h₀ L h' ((lK, W.listOf (vs ++ [Value.int b t]).toArray n) :: rest) → Q .next { s with heap := h', toks := tk }) : wpAny M' A t Q E s :=
  wpAny_mono h (fun v s' ⟨b, t, h', tk, e1, e2, F', N', p, q⟩ => by rw [e1, e2]; exact k b t h' tk p q F' N') fun _ _ e => e
def isStrange (u : Str) : Prop := u = Str.ofString "fortnight" ∨ u = Str.ofString "seconds" ∨ u = Str.ofString "" ∨ u = Str.ofString "Second" ∨ u = Str.ofString "month"
theorem news_d2 {h h' : Heap} {L : Addr} {a b : Addr × Obj} {r : List (Addr × Obj)} (N : News h L h' (a :: b :: r)) : News h L h' r := fun p hp => N p (.tail _ (.tail _ hp))
theorem news_d3 {h h' : Heap} {L : Addr} {a b c : Addr × Obj} {r : List (Addr × Obj)} (N : News h L h' (a :: b :: c :: r)) : News h L h' r := fun p hp => N p (.tail _ (.tail _ (.tail _ hp)))
theorem news_d4 {h h' : Heap} {L : Addr} {a b c e : Addr × Obj} {r : List (Addr × Obj)} (N : News h L h' (a :: b :: c :: e :: r)) : News h L h' r := fun p hp => N p (.tail _ (.tail _ (.tail _ (.tail _ hp))))
theorem str_at {x y : Str} {t : Tok} {s : Shared} {Q : Value → Shared → Prop} (e : x = y) (h : Q (.str y t) s) : Q (.str x t) s := e ▸ h
theorem sec_rng {u : Str} (h : isUnit u) : ∃ sc, (isUnit u ∧ secs u = sc) ∧ 1 ≤ sc ∧ sc ≤ 604800 := by
  have e1 : secs (Str.ofString "second") = 1 := by decide +kernel
  have e2 : secs (Str.ofString "minute") = 60 := by decide +kernel
  have e3 : secs (Str.ofString "hour") = 3600 := by decide +kernel
  have e4 : secs (Str.ofString "day") = 86400 := by decide +kernel
  have e5 : secs (Str.ofString "week") = 604800 := by decide +kernel
  refine ⟨_, ⟨h, rfl⟩, ?_⟩
  rcases h with e | e | e | e | e <;> subst e <;> omega
theorem nb_yes {b : Bool} (h : b = false) : (!b) = true := by simp [h]
theorem strange_miss {u : Str} {t1 t2 t3 t4 t5 k1 k2 k3 k4 k5 : Tok} (h : isStrange u) : (Spec.lookup (PyData.str u) (strData [(Value.str (Str.ofString "second") t1, Value.int 1 k1), (Value.str (Str.ofString "minute") t2, Value.int 60 k2), (Value.str (Str.ofString "hour") t3, Value.int 3600 k3), (Value.str (Str.ofString "day") t4, Value.int 86400 k4), (Value.str (Str.ofString "week") t5, Value.int 604800 k5)])).isSome = false := by
  rcases h with e | e | e | e | e <;> subst e <;> rfl
theorem strange_sz1 {u : Str} (h : isStrange u) : (Str.ofString "no unit of a limit: ").length + u.length ≤ PySem.sizeLine := by
  rw [PySem.sizeLine_eq]
  rcases h with e | e | e | e | e <;> subst e <;> decide +kernel
theorem strange_sz2 {u : Str} (h : isStrange u) : (Str.ofString "call: ").length + (Str.ofString "no unit of a limit: " ++ u).length ≤ PySem.sizeLine := by
  rw [PySem.sizeLine_eq]
  rcases h with e | e | e | e | e <;> subst e <;> decide +kernel
theorem strange_sz3 {u : Str} (h : isStrange u) : (Str.ofString "call: no unit of a limit: ").length + u.length ≤ PySem.sizeLine := by
  rw [PySem.sizeLine_eq]
  rcases h with e | e | e | e | e <;> subst e <;> decide +kernel
theorem strange_eq {u : Str} (h : isStrange u) : Str.ofString "call: " ++ (Str.ofString "no unit of a limit: " ++ u) = Str.ofString "call: no unit of a limit: " ++ u := by
  rcases h with e | e | e | e | e <;> subst e <;> decide +kernel
theorem item_strange {prog : Program} {w : World} {A : Around} {E : Value → Shared → Prop} {s : Shared} {value slice : PySem.Expr} {l : Addr} {t1 t2 t3 t4 t5 : Tok} {k : Int} {u : Tok} {Q : Value → Shared → Prop}
    (hl : s.heap.IsList l [Value.str (Str.ofString "fortnight") t1, .str (Str.ofString "seconds") t2, .str (Str.ofString "") t3, .str (Str.ofString "Second") t4, .str (Str.ofString "month") t5].toArray) (h0 : 0 ≤ k) (h5 : k < 5)
    (h : ∀ x t, isStrange x → Q (.str x t) s)
    (hs : subscripted slice false (.ref l) (.int k u) = operate [.ref l, .int k u] (getItem (.ref l) (.int k u)) := by with_unfolding_all rfl) :
    wpAny (model prog w) A (subscriptTail value slice (.ref l) (.int k u)) Q E s := by
  have : k = 0 ∨ k = 1 ∨ k = 2 ∨ k = 3 ∨ k = 4 := by omega
  rcases this with e | e | e | e | e <;> subst e
  · exact item_at hl (by decide) (by decide) rfl (h _ t1 (.inl rfl)) hs
  · exact item_at hl (by decide) (by decide) rfl (h _ t2 (.inr (.inl rfl))) hs
  · exact item_at hl (by decide) (by decide) rfl (h _ t3 (.inr (.inr (.inl rfl)))) hs
  · exact item_at hl (by decide) (by decide) rfl (h _ t4 (.inr (.inr (.inr (.inl rfl))))) hs
  · exact item_at hl (by decide) (by decide) rfl (h _ t5 (.inr (.inr (.inr (.inr rfl))))) hs
theorem mul_gen {prog : Program} {w : World} {A : Around} {E : Value → Shared → Prop} {s : Shared} {a b : Int} {t u : Tok} {Q : Value → Shared → Prop} (ha : 0 ≤ a) (ha2 : a ≤ 10000000) (h : ∀ v tv tk, 0 ≤ v → v ≤ 10000000 → Q (.int v tv) { s with toks := tk }) :
    wpAny (model prog w) A (binaryOp .Mult (.int a t) (.int (b.fmod 2) u)) Q E s := by
  have h0 := Int.fmod_nonneg_of_pos b (show (0 : Int) < 2 by decide)
  have h1 := Int.fmod_lt_of_pos b (show (0 : Int) < 2 by decide)
  have : b.fmod 2 = 0 ∨ b.fmod 2 = 1 := by omega
  rcases this with e | e <;> rw [e]
  · exact PyProof.Rows.mul_int (h _ _ _ (by omega) (by omega))
  · exact PyProof.Rows.mul_int (h _ _ _ (by omega) (by omega))
theorem oct_clash {o : Bool} {p : Prop} (h : o = true) (e : o = false) : p := by rw [h] at e; cases e
theorem eq_gen {prog : Program} {w : World} {A : Around} {E : Value → Shared → Prop} {s : Shared} {a b : Int} {t u : Tok} {Q : Value → Shared → Prop} (h : ∀ o, Q (.bool o) s) : wpAny (model prog w) A (compareOp .Eq (.int a t) (.int b u)) Q E s := PyProof.Rows.eq_int (h _)
theorem bne_no {x : Str} : ¬ ((x != x) = true) := by simp
section
local macro_rules | `(tactic| walk_at "eval Constant int") => `(tactic| (k_here; (with_reducible refine ci_gen ?_); intro t tk; (try dsimp only)))
local macro_rules | `(tactic| walk_at "eval Constant str") => `(tactic| (k_here; (with_reducible refine cs_gen ?_); intro t tk; (try dsimp only)))
set_option maxRecDepth 100000 in
set_option maxHeartbeats 4000000 in
theorem secs_ct {w : World} {mean : ExcName → Option Value} {mg mb : Str → Option Value} {dp un : Nat} {gd : Option (List Code)} {cn : Str} {cs : Scope} {a : Addr} {ccd : Value} {cl : List (Str × Addr)} {outer : List Env} {A₀ : Around} {base h₀ : Heap} {L : Addr} {m : Str → Option Value} {s : Shared} {Q E : Value → Shared → Prop} {news : List (Addr × Obj)} {u : Str} {sc : Int} {ti : Tok} (B : Below A₀ base outer h₀) (F : Fr h₀ L s.heap m) (X : (Mine.top.heap_1 w.params).In h₀) (T : Top Mine.view (looseW Mine.view []) mean mg mb h₀) (hk : cs.kind = .function) (N : News h₀ L s.heap news) (hd : dp + 10 < recursionLimit) (hu : un + 200 < cLine)
    (hp : isUnit u ∧ secs u = sc) (hret : ∀ (t : Tok) (h' : Heap) (tk' : Nat), Fr h₀ L h' m → News h₀ L h' news → Q (.int sc t) { s with heap := h', toks := tk' }) :
    wpAny (model PySem.Challenge.rw_pf0333_01.row.prog w) (ktrTop dp un gd cn cs L a ccd cl outer) (call (.ref 130) [.str u ti]) Q E s := by
  revert X; k_fill; w_on; intro X
  k_with_none
  obtain ⟨hp, hsc⟩ := hp
  have e1 : secs (Str.ofString "second") = 1 := by decide +kernel
  have e2 : secs (Str.ofString "minute") = 60 := by decide +kernel
  have e3 : secs (Str.ofString "hour") = 3600 := by decide +kernel
  have e4 : secs (Str.ofString "day") = 86400 := by decide +kernel
  have e5 : secs (Str.ofString "week") = 604800 := by decide +kernel
  rcases hp with h | h | h | h | h <;> subst h <;> subst hsc <;> simp only [e1, e2, e3, e4, e5] at hret <;> clear e1 e2 e3 e4 e5
  all_goals
    w_strict ((refine wpAny_call ?_); k_dflt cell_enter; iterate 30 walk1)
    (with_reducible refine ite_neg (nb_no ?ck) ?_)
    (case ck => exact rfl)
    w_strict k_steps
    refine hret _ _ _ ?_ ?_
    k_asm
    exact cb_drop (by assumption) (fun p hp => .tail _ hp)
local macro_rules | `(tactic| walk_at "my room") => `(tactic| ((try simp only [depth_under_make, depth_under_kw, depth_in1, depth_deeper, depth_caller]); (try dsimp only [ktrTop]); omega))
local macro_rules | `(tactic| walk_at "my units") => `(tactic| ((have hcL9 := cLine_is); (try simp only [units_kw, units_in1, units_deeper, Around.mark_units, units_caller]); (try dsimp only [ktrTop]); omega))
local macro_rules | `(tactic| ktr_room) => `(tactic| walk_at "my room")
local macro_rules | `(tactic| ktr_units) => `(tactic| walk_at "my units")
local macro_rules | `(tactic| k_room) => `(tactic| ktr_room)
local macro_rules | `(tactic| k_units) => `(tactic| ktr_units)
local macro_rules | `(tactic| walk_at "my std") => `(tactic| ((case B => k_asm); (case F => k_asm); (case X => k_asm); (case N => k_asm); (case T => k_asm); (case K => first | exact rfl | assumption); (case D => ktr_room); (case U => ktr_units)))
local macro_rules | `(tactic| walk_at "binaryOp FloorDiv int int") => `(tactic| (k_here; k_dflt (refine' fd_gen ?a ?b ?_; (case a => first | omega | decide); (case b => first | omega | decide)); intro v9 e9 p9; (first | (replace p9 := p9 (by omega)) | clear p9); (try dsimp only)))
local macro_rules | `(tactic| walk_at "ite") => `(tactic| (k_here; k_dflt (first | refine ite_neg (by (try simp only [decide_eq_true_eq, beq_iff_eq, bne_iff_ne, ne_eq, Bool.not_eq_true]); omega) ?_ | refine ite_pos (by (try simp only [decide_eq_true_eq, beq_iff_eq, bne_iff_ne, ne_eq]); omega) ?_)))
local macro_rules | `(tactic| walk_at "execs cons Assign cons") => `(tactic| (k_here; (with_reducible refine execs_gen ?_); intro tk; (try dsimp only)))
local macro_rules | `(tactic| walk_at "execs cons If cons") => `(tactic| (k_here; (with_reducible refine execs_gen ?_); intro tk; (try dsimp only)))
local macro_rules | `(tactic| walk_at "my enter") => `(tactic| (refine' code_defC ?k1 ?k2 ?k3 ?k4 ?k5 ?kA ?kF ?kK ?k6 ?k7 ?k8 ?k9 ?kB ?kD ?_ ?c2 ?c3 ?c4; (case kA => exact rfl); (case kF => exact rfl); (case kK => assumption); (case k1 => k_asm); (case k2 => k_asm); (case k3 => k_asm); (case k4 => k_asm); (case k5 => k_asm); (case k6 => k_is); (case k7 => k_is); (case k8 => ktr_room); (case k9 => exact BindsTo.of_eq rfl); (case kB => exact rfl); (case kD => decide +kernel); (case c2 => exact rfl); (case c3 => exact rfl); (case c4 => exact rfl); k_whole; intro g' L' h' tk' cells' FG' F' N' Y' B' X' T' l1; (try k_lt l1); k_cells Y'; (try simp only [List.cons_append, List.nil_append] at N'); (try dsimp only); (try k_lift B'); (try k_fold)))
local macro_rules | `(tactic| walk_at "binaryOp Pow int int") => `(tactic| (k_here; k_dflt (first | ((with_reducible show wpAny _ _ (binaryOp _ (Value.int 10 _) (Value.int 6 _)) _ _ _); (refine pow_lit (a := 10) (n := 6) (v := 1000000) (by decide) (by decide) (by decide) ?_)) | ((with_reducible show wpAny _ _ (binaryOp _ (Value.int 10 _) (Value.int 9 _)) _ _ _); (refine pow_lit (a := 10) (n := 9) (v := 1000000000) (by decide) (by decide) (by decide) ?_)) | ((with_reducible show wpAny _ _ (binaryOp _ (Value.int 10 _) (Value.int 12 _)) _ _ _); (refine pow_lit (a := 10) (n := 12) (v := 1000000000000) (by decide) (by decide) (by decide) ?_)) | ((with_reducible show wpAny _ _ (binaryOp _ (Value.int 2 _) (Value.int 20 _)) _ _ _); (refine pow_lit (a := 2) (n := 20) (v := 1048576) (by decide) (by decide) (by decide) ?_)))))
local macro_rules | `(tactic| walk_at "call builtin:list.append") => `(tactic| (k_here; k_dflt (refine' append_K ?k1 ?k2 ?k3 ?_ ?z; (case k1 => k_asm); (case k2 => k_asm); (case k3 => k_upd); (case z => first | size_fits | ((simp only [List.size_toArray, PySem.sizeLine_eq]); omega)); k_whole); intro h' F' N'; (try simp only [List.push_toArray] at N'); (try k_sweep); (try dsimp only)))
set_option maxRecDepth 100000 in
set_option maxHeartbeats 4000000 in
theorem exc_ct {w : World} {mean : ExcName → Option Value} {mg mb : Str → Option Value} {dp un : Nat} {gd : Option (List Code)} {cn : Str} {cs : Scope} {a : Addr} {ccd : Value} {cl : List (Str × Addr)} {outer : List Env} {A₀ : Around} {base h₀ : Heap} {L : Addr} {m : Str → Option Value} {s : Shared} {Q E : Value → Shared → Prop} {news : List (Addr × Obj)} {C : Addr} {why : Str} {tw : Tok} (B : Below A₀ base outer h₀) (F : Fr h₀ L s.heap m) (X : (Mine.top.heap_1 w.params).In h₀) (T : Top Mine.view (looseW Mine.view []) mean mg mb h₀) (hk : cs.kind = .function) (N : News h₀ L s.heap news) (hm : ownIn (Mine.top.heap_1 w.params) C 31 = true)
    (hsa : findIn (Mine.top.heap_1 w.params) (.ref C) "__setattr__" = some (some (.builtin "object.__setattr__"))) (hin : findIn (Mine.top.heap_1 w.params) (.ref C) "__init__" = some (some (.ref 28)))
    (hwy : findIn (Mine.top.heap_1 w.params) (.ref C) (Str.ofString "why") = some none) (hat : findIn (Mine.top.heap_1 w.params) (.ref C) (Str.ofString "at") = some none) (hd : dp + 20 < recursionLimit) (hu : un + 400 < cLine)
    (hret : ∀ (e d t t1 : Addr) (od : Obj) (h' : Heap) (tk' : Nat), Fr h₀ L h' m → News h₀ L h' ((d, od) :: (t, tupOf [.str why tw]) :: (e, fullExc C t d) :: (t1, tupOf [.str why tw]) :: news) → (∀ p ∈ news, p.1 < t1) → t1 < e → e < t → t < d →
      lookIn (Str.ofString "why") od = some (some (.str why tw)) → Q (.ref e) { s with heap := h', toks := tk' }) :
    wpAny (model PySem.Challenge.rw_pf0333_01.row.prog w) (ktrTop dp un gd cn cs L a ccd cl outer) (call (.ref C) [.str why tw]) Q E s := by
  have KK : (Mine.top.heap_1 w.params).In h₀ := X
  revert KK
  k_fill; w_on
  intro KK
  k_with_none
  k_with "getMethod type:Exception" => (k_here; k_dflt (refine' method_type (v := .builtin "Exception.__init__") ?F ?X ?t ?s ?e ?h ?_; (case F => k_asm); (case X => k_asm); (case t => exact rfl); (case s => decide +kernel); (case e => first | with_unfolding_all rfl | kernel_rfl); (case h => exact rfl)); (try dsimp only))
  k_with "call builtin:Exception.__init__" => (k_here; k_dflt (refine' init_exc (pre := []) ?F ?X ?N hm ?z ?h1 ?h2 ?_; (case F => k_asm); (case X => k_asm); (case N => k_asm); (case z => size_fits); (case h1 => (intro p hp; cases hp)); (case h2 => exact List.forall_mem_cons.mpr ⟨Nat.ne_of_lt lo2, fun p hp => Nat.ne_of_lt (Nat.lt_trans (lo1 p hp) lo2)⟩)); intro t9 h9 F9 N9 lo9; (simp only [List.nil_append, List.cons_append] at N9 lo9); (try dsimp only))
  k_with "setAttr ref" => (k_here; first
    | (k_dflt (refine' set_new (pre := [_]) ?F ?X ?N hm hsa ?h ?h1 ?h2 ?e ?z ?_; (case N => k_asm); (case F => k_asm); (case X => k_asm); (case h => assumption); (case h1 => exact List.forall_mem_cons.mpr ⟨Nat.ne_of_gt (lo9 (e, _) (.head _)), List.forall_mem_nil _⟩); (case h2 => exact List.forall_mem_cons.mpr ⟨Nat.ne_of_lt lo2, fun p hp => Nat.ne_of_lt (Nat.lt_trans (lo1 p hp) lo2)⟩); (case e => k_put); (case z => exact Nat.le_of_ble_eq_true rfl)); intro d8 h8 F8 N8 lo8; (simp only [List.nil_append, List.cons_append] at N8 lo8); (try dsimp only))
    | (k_dflt (refine' set_old (pre := []) ?F ?X ?N ?x ?c ?o ?d hm hsa ?h ?r ?h1 ?h2 ?e ?z ?_; (case N => k_asm); (case F => k_asm); (case X => k_asm); (case x => exact News.get (by k_asm) (by k_mem)); (case c => exact rfl); (case o => exact rfl); (case d => exact rfl); (case h => assumption); (case r => exact rfl); (case h1 => (intro p hp; cases hp)); (case h2 => exact List.forall_mem_cons.mpr ⟨Nat.ne_of_lt (lo8 (_, _) (.head _)), List.forall_mem_cons.mpr ⟨Nat.ne_of_lt (lo8 (e, rawExc C t9) (.tail _ (.head _))), fun p hp => Nat.ne_of_lt (lo8 p (.tail _ (.tail _ hp)))⟩⟩); (case e => k_put); (case z => exact Nat.le_of_ble_eq_true rfl)); intro h7 F7 N7; (simp only [List.nil_append, List.cons_append] at N7); (try dsimp only)))
  refine call_exc F X N hm hin (by with_unfolding_all rfl) (by size_fits) ?_
  intro e t1 h1 F1 N1 lo1 lo2
  w_strict (k_dflt cell_enter; k_steps)
  all_goals
    refine' hret _ _ _ _ _ _ _ ?a ?b lo1 lo2 ?c ?d ?e
    case a => assumption
    case b => assumption
    case c => exact lo9 (e, _) (.head _)
    case d => exact lo8 (_, _) (.head _)
    case e => with_unfolding_all rfl
set_option maxRecDepth 100000 in
set_option maxHeartbeats 4000000 in
theorem share_ct {w : World} {mean : ExcName → Option Value} {mg mb : Str → Option Value} {dp un : Nat} {gd : Option (List Code)} {cn : Str} {cs : Scope} {a : Addr} {ccd : Value} {cl : List (Str × Addr)} {outer : List Env} {A₀ : Around} {base h₀ : Heap} {L : Addr} {m : Str → Option Value} {s : Shared} {Q E : Value → Shared → Prop} {news : List (Addr × Obj)} {x r : Int} {tx tr : Tok} (B : Below A₀ base outer h₀) (F : Fr h₀ L s.heap m) (X : (Mine.top.heap_1 w.params).In h₀) (T : Top Mine.view (looseW Mine.view []) mean mg mb h₀) (hk : cs.kind = .function) (N : News h₀ L s.heap news) (hd : dp + 10 < recursionLimit) (hu : un + 200 < cLine)
    (hp : 0 < r ∧ r ≤ 10000000000000) (hx0 : 0 ≤ x) (hret : ∀ (v : Int) (t : Tok) (h' : Heap) (tk' : Nat), v = x.fdiv r → 0 ≤ v → Fr h₀ L h' m → News h₀ L h' news → Q (.int v t) { s with heap := h', toks := tk' }) :
    wpAny (model PySem.Challenge.rw_pf0333_01.row.prog w) (ktrTop dp un gd cn cs L a ccd cl outer) (call (.ref 200) [.int x tx, .int r tr]) Q E s := by
  revert X; k_fill; w_on; intro X
  k_with_none
  have hv := share_eq x r (by omega)
  have hv0 : 0 ≤ x.fdiv r := fdiv_nonneg (by omega) (by omega)
  w_strict ((refine wpAny_call ?_); k_dflt cell_enter; k_steps)
  all_goals exact hret _ _ _ _ (by omega) (by omega) (by k_asm) (by k_asm)
section
local macro_rules | `(tactic| walk_at "exec For Name Subscript cons nil") => `(tactic| (k_here; (rename Fr _ _ _ _ => lF'); (with_unfolding_all refine' For_invVF lF' ?k1 ?k2 ?_; (case k1 => exact rfl); (case k2 => exact rfl); k_whole)))
local macro_rules | `(tactic| walk_at "pyIter ref") => `(tactic| (k_here; (with_reducible show wpAny _ _ (pyIter (Value.ref _)) (fun it s₂ => LoopAtV _ _ _ _ _ _ _ _ _ it s₂) _ _); k_listUnr))
set_option maxRecDepth 100000 in
set_option maxHeartbeats 4000000 in
theorem span_ct {w : World} {mean : ExcName → Option Value} {mg mb : Str → Option Value} {dp un : Nat} {gd : Option (List Code)} {cn : Str} {cs : Scope} {a : Addr} {ccd : Value} {cl : List (Str × Addr)} {outer : List Env} {A₀ : Around} {base h₀ : Heap} {L : Addr} {m : Str → Option Value} {s : Shared} {Q E : Value → Shared → Prop} {d1 d2 d3 d4 d5 d6 d7 : Addr} {o1 o2 o3 o4 o5 o6 o7 : Obj} {i S : Int} {ti : Tok} (B : Below A₀ base outer h₀) (F : Fr h₀ L s.heap m) (X : (Mine.top.heap_1 w.params).In h₀) (T : Top Mine.view (looseW Mine.view []) mean mg mb h₀) (hk : cs.kind = .function) (N : News h₀ L s.heap [(d1, o1), (d2, o2), (d3, o3), (d4, o4), (d5, o5), (d6, o6), (d7, o7)]) (hd : dp + 10 < recursionLimit) (hu : un + 200 < cLine)
    (hp : 0 ≤ i ∧ i < 5) (hS : spanOf i = S) (hret : ∀ (t : Tok) (h' : Heap) (tk' : Nat), Fr h₀ L h' m → News h₀ L h' [(d1, o1), (d2, o2), (d3, o3), (d4, o4), (d5, o5), (d6, o6), (d7, o7)] → Q (.int S t) { s with heap := h', toks := tk' }) :
    wpAny (model PySem.Challenge.rw_pf0333_01.row.prog w) (ktrTop dp un gd cn cs L a ccd cl outer) (call (.ref 193) [.int i ti]) Q E s := by
  revert X; k_fill; w_on; intro X
  k_with_none
  have : i = 0 ∨ i = 1 ∨ i = 2 ∨ i = 3 ∨ i = 4 := by omega
  rcases this with h | h | h | h | h <;> subst h <;> subst hS
  all_goals
    w_strict ((refine wpAny_call ?_); k_dflt cell_enter; k_steps)
    all_goals exact cb_retI hret (by decide +kernel) (by k_asm) (cb_drop (by assumption) (fun p hp => .tail _ (.tail _ hp)))
end
section
local macro_rules | `(tactic| walk_at "subscriptTail List cons BinOp ref int") => `(tactic| (k_here; k_dflt (refine' item_unit ?k1 ?k2 ?k3 ?_ ?k6; (case k1 => is_list); (case k2 => exact Int.fmod_nonneg_of_pos _ (by decide)); (case k3 => exact Int.fmod_lt_of_pos _ (by decide)); (case k6 => with_unfolding_all rfl)); intro xU scU tU hU hU1 hU2 hU3; (try dsimp only)))
local macro_rules | `(tactic| walk_at "subscriptTail List cons Name ref int") => `(tactic| (k_here; k_dflt (refine' item_pos ?k1 ?k2 ?k3 ?k4 ?k5 ?kp ?_ ?k6; (case k1 => is_list); (case k2 => l_intsW); (case k3 => l_idx); (case k4 => ((try simp only [List.length_cons, List.length_nil]); omega)); (case k5 => l_idx); (case kp => decide); (case k6 => with_unfolding_all rfl)); intro v9 t9 p9; (try dsimp only)))
set_option maxRecDepth 100000 in
set_option maxHeartbeats 4000000 in
theorem drawn_ct {w : World} {mean : ExcName → Option Value} {mg mb : Str → Option Value} {dp un : Nat} {gd : Option (List Code)} {cn : Str} {cs : Scope} {a : Addr} {ccd : Value} {cl : List (Str × Addr)} {outer : List Env} {A₀ : Around} {base h₀ : Heap} {L : Addr} {m : Str → Option Value} {s : Shared} {Q E : Value → Shared → Prop} {news : List (Addr × Obj)} {l : Addr} {vs : List Value} {ns : List Int} {j : Int} {tj : Tok} (B : Below A₀ base outer h₀) (F : Fr h₀ L s.heap m) (X : (Mine.top.heap_1 w.params).In h₀) (T : Top Mine.view (looseW Mine.view []) mean mg mb h₀) (hk : cs.kind = .function) (N : News h₀ L s.heap news) (hl : base.IsList l vs.toArray) (hi : IntsAre vs ns) (hfit : ns.length < 2 ^ 62) (hd : dp + 10 < recursionLimit) (hu : un + 200 < cLine)
    (hj0 : 0 ≤ j) (hj5 : j < 5)
    (hret : ∀ (sc S : Int) (over : Bool) (rate : Int) (u : Str) (burst : Int) (oct : Bool) (D : Addr) (t1 t2 t3 t4 : Tok) (c : Nat) (h' : Heap) (tk' : Nat), 1 ≤ rate → rate ≤ 1000000000000 → 0 ≤ burst → burst < 3000 → (oct = false → 1 ≤ burst) → 1 ≤ sc → sc ≤ 604800 → isUnit u ∧ secs u = sc → spanOf ((cellAt ns (11 * j) 0 + j).fmod 5) = S → S = sc * 1000000000 →
      Fr h₀ L h' m → News h₀ L h' ((D, ({ cls := .type "tuple", data := .seq #[.str (Str.ofString "limit") t1, .bool over, .int rate t2, .str u t3, .int burst t4, .bool oct] c } : Obj)) :: news) → AllLt D news → Q (.ref D) { s with heap := h', toks := tk' }) :
    wpAny (model PySem.Challenge.rw_pf0333_01.row.prog w) (ktrTop dp un gd cn cs L a ccd cl outer) (call (.ref 207) [.ref l, .int j tj]) Q E s := by
  revert X; k_fill; w_on; intro X
  k_with_none
  k_with "table" => skip
  w_strict ((refine wpAny_call ?_); k_dflt cell_enter; k_steps)
  all_goals
    refine' hret _ _ _ _ _ _ _ _ _ _ _ _ _ _ _ ?z1 ?z2 ?z3 ?z4 ?z5 (by assumption) (by assumption) (by assumption) (by assumption) rfl (by k_asm) ?z6 ?z7
    case z6 => first | exact news_2nd (r := news) (by assumption) | exact news_3rd (r := news) (by assumption)
    case z7 => first | exact lt_1 (by assumption) | exact lt_2 (by assumption)
    case z1 => exact fm1 (by decide)
    case z2 => exact fm2 (by decide) (by decide)
    case z3 => first | exact fm0 (by decide) | exact fm5 (by decide)
    case z4 => first | exact fm3 (by decide) (by decide) | exact fm4 (by decide) (by decide)
    case z5 => first | (exact fun _ => fm1 (by decide)) | exact fun e => oct_no (by assumption) e
end
set_option maxRecDepth 100000 in
set_option maxHeartbeats 4000000 in
theorem kind_ct {w : World} {mean : ExcName → Option Value} {mg mb : Str → Option Value} {dp un : Nat} {gd : Option (List Code)} {cn : Str} {cs : Scope} {a : Addr} {ccd : Value} {cl : List (Str × Addr)} {outer : List Env} {A₀ : Around} {base h₀ : Heap} {L : Addr} {m : Str → Option Value} {s : Shared} {Q E : Value → Shared → Prop} {q x d tD p1 : Addr} {oq od ot o1 : Obj} (B : Below A₀ base outer h₀) (F : Fr h₀ L s.heap m) (X : (Mine.top.heap_1 w.params).In h₀) (T : Top Mine.view (looseW Mine.view []) mean mg mb h₀) (hk : cs.kind = .function) (N : News h₀ L s.heap [(q, oq), (x, instObj 119 d), (d, od), (tD, ot), (p1, o1)]) (hd : dp + 10 < recursionLimit) (hu : un + 200 < cLine)
    (hret : ∀ (t : Tok) (h' : Heap) (tk' : Nat), Fr h₀ L h' m → News h₀ L h' [(q, oq), (x, instObj 119 d), (d, od), (tD, ot), (p1, o1)] → Q (.str (Str.ofString "limit") t) { s with heap := h', toks := tk' }) :
    wpAny (model PySem.Challenge.rw_pf0333_01.row.prog w) (ktrTop dp un gd cn cs L a ccd cl outer) (call (.ref 172) [.ref x]) Q E s := by
  revert X; k_fill; w_on; intro X
  k_with_none
  w_strict ((refine wpAny_call ?_); k_dflt cell_enter; k_steps)
  all_goals exact hret _ _ _ (by k_asm) (by k_asm)
set_option maxRecDepth 100000 in
set_option maxHeartbeats 4000000 in
theorem cst_ct {w : World} {mean : ExcName → Option Value} {mg mb : Str → Option Value} {dp un : Nat} {gd : Option (List Code)} {cn : Str} {cs : Scope} {a : Addr} {ccd : Value} {cl : List (Str × Addr)} {outer : List Env} {A₀ : Around} {base h₀ : Heap} {L : Addr} {m : Str → Option Value} {s : Shared} {Q E : Value → Shared → Prop} {x d tD p1 : Addr} {ot o1 : Obj} {c : LS} {over oct : Bool} {rate burst S most : Int} {u : Str} {b2 b3 b4 b6 b7 k1 k2 k3 k4 k5 k6 k7 k8 k9 : Tok} (B : Below A₀ base outer h₀) (F : Fr h₀ L s.heap m) (X : (Mine.top.heap_1 w.params).In h₀) (T : Top Mine.view (looseW Mine.view []) mean mg mb h₀) (hk : cs.kind = .function) (N : News h₀ L s.heap [(x, instObj 119 d), (d, dictOf [{ hash := PyData.keyHash w.params (Str.ofString "is_over"), key := .str (Str.ofString "is_over") k1, val := .bool over }, { hash := PyData.keyHash w.params (Str.ofString "rate"), key := .str (Str.ofString "rate") k2, val := .int rate b2 }, { hash := PyData.keyHash w.params (Str.ofString "unit"), key := .str (Str.ofString "unit") k3, val := .str u b3 }, { hash := PyData.keyHash w.params (Str.ofString "burst"), key := .str (Str.ofString "burst") k4, val := .int burst b4 }, { hash := PyData.keyHash w.params (Str.ofString "is_octets"), key := .str (Str.ofString "is_octets") k5, val := .bool oct }, { hash := PyData.keyHash w.params (Str.ofString "span"), key := .str (Str.ofString "span") k6, val := .int S b6 }, { hash := PyData.keyHash w.params (Str.ofString "most"), key := .str (Str.ofString "most") k7, val := .int most b7 }, { hash := PyData.keyHash w.params (Str.ofString "tokens"), key := .str (Str.ofString "tokens") k8, val := .int c.tok c.ttok }, { hash := PyData.keyHash w.params (Str.ofString "last"), key := .str (Str.ofString "last") k9, val := .int c.last c.tlast }] 9), (tD, ot), (p1, o1)]) (hd : dp + 10 < recursionLimit) (hu : un + 200 < cLine)
    (lo3 : @LT.lt Nat _ tD d) (lo4 : @LT.lt Nat _ d x)
    (hret : ∀ (D : Addr) (t1 : Tok) (h' : Heap) (tk' : Nat), Fr h₀ L h' m → News h₀ L h' [(D, ({ cls := .type "tuple", data := .seq #[.str (Str.ofString "limit") t1, .bool over, .int rate b2, .str u b3, .int burst b4, .bool oct] } : Obj)), (x, instObj 119 d), (d, dictOf [{ hash := PyData.keyHash w.params (Str.ofString "is_over"), key := .str (Str.ofString "is_over") k1, val := .bool over }, { hash := PyData.keyHash w.params (Str.ofString "rate"), key := .str (Str.ofString "rate") k2, val := .int rate b2 }, { hash := PyData.keyHash w.params (Str.ofString "unit"), key := .str (Str.ofString "unit") k3, val := .str u b3 }, { hash := PyData.keyHash w.params (Str.ofString "burst"), key := .str (Str.ofString "burst") k4, val := .int burst b4 }, { hash := PyData.keyHash w.params (Str.ofString "is_octets"), key := .str (Str.ofString "is_octets") k5, val := .bool oct }, { hash := PyData.keyHash w.params (Str.ofString "span"), key := .str (Str.ofString "span") k6, val := .int S b6 }, { hash := PyData.keyHash w.params (Str.ofString "most"), key := .str (Str.ofString "most") k7, val := .int most b7 }, { hash := PyData.keyHash w.params (Str.ofString "tokens"), key := .str (Str.ofString "tokens") k8, val := .int c.tok c.ttok }, { hash := PyData.keyHash w.params (Str.ofString "last"), key := .str (Str.ofString "last") k9, val := .int c.last c.tlast }] 9), (tD, ot), (p1, o1)] → AllLt D [(x, instObj 119 d), (d, dictOf [{ hash := PyData.keyHash w.params (Str.ofString "is_over"), key := .str (Str.ofString "is_over") k1, val := .bool over }, { hash := PyData.keyHash w.params (Str.ofString "rate"), key := .str (Str.ofString "rate") k2, val := .int rate b2 }, { hash := PyData.keyHash w.params (Str.ofString "unit"), key := .str (Str.ofString "unit") k3, val := .str u b3 }, { hash := PyData.keyHash w.params (Str.ofString "burst"), key := .str (Str.ofString "burst") k4, val := .int burst b4 }, { hash := PyData.keyHash w.params (Str.ofString "is_octets"), key := .str (Str.ofString "is_octets") k5, val := .bool oct }, { hash := PyData.keyHash w.params (Str.ofString "span"), key := .str (Str.ofString "span") k6, val := .int S b6 }, { hash := PyData.keyHash w.params (Str.ofString "most"), key := .str (Str.ofString "most") k7, val := .int most b7 }, { hash := PyData.keyHash w.params (Str.ofString "tokens"), key := .str (Str.ofString "tokens") k8, val := .int c.tok c.ttok }, { hash := PyData.keyHash w.params (Str.ofString "last"), key := .str (Str.ofString "last") k9, val := .int c.last c.tlast }] 9), (tD, ot), (p1, o1)] → Q (.ref D) { s with heap := h', toks := tk' }) :
    wpAny (model PySem.Challenge.rw_pf0333_01.row.prog w) (ktrTop dp un gd cn cs L a ccd cl outer) (call (.ref 179) [.ref x]) Q E s := by
  revert X; k_fill; w_on; intro X
  k_with_none
  w_strict ((refine wpAny_call ?_); k_dflt cell_enter; k_steps)
  all_goals
    refine' hret _ _ _ _ (by k_asm) ?zn ?zl
    case zn => assumption
    case zl => exact ⟨by omega, by omega, by omega, by omega, trivial⟩
local macro_rules | `(tactic| walk_at "call ref") => `(tactic| (k_here; (with_reducible show wpAny _ _ (call (Value.ref 200) _) _ _ _); k_dflt (refine' share_ct ?B ?F ?X ?T ?K ?N ?D ?U ?P ?Z ?_; walk_at "my std"; (case P => (constructor <;> omega)); (case Z => first | omega | exact Int.mul_nonneg (by omega) (Int.fmod_nonneg_of_pos _ (by omega)) | exact Int.mul_nonneg (by omega) (by omega))); intro v9 t9 h9 tk9 e9 p9 F9 N9; (try dsimp only); (try k_fold)))
local macro_rules | `(tactic| walk_at "call ref") => `(tactic| (k_here; (with_reducible show wpAny _ _ (call (Value.ref 130) _) _ _ _); k_dflt (refine' secs_ct ?B ?F ?X ?T ?K ?N ?D ?U ?P ?_; walk_at "my std"; (case P => assumption)); intro t9 h9 tk9 F9 N9; (try dsimp only); (try k_fold)))
local macro_rules | `(tactic| walk_at "isTrue BoolOp") => `(tactic| (k_here; (with_reducible rename BMark => zM); k_dflt (refine' cut_false zM ?a ?_; (case a => ((clear zM); k_steps; all_goals first | exact ⟨rfl, _, rfl⟩ | exact b_clash (by assumption) (by assumption) (by assumption)))); clear zM; intro tk9; (try dsimp only)))
set_option maxRecDepth 100000 in
set_option maxHeartbeats 4000000 in
theorem mc_ct {w : World} {mean : ExcName → Option Value} {mg mb : Str → Option Value} {dp un : Nat} {gd : Option (List Code)} {cn : Str} {cs : Scope} {a : Addr} {ccd : Value} {cl : List (Str × Addr)} {outer : List Env} {A₀ : Around} {base h₀ : Heap} {L : Addr} {m : Str → Option Value} {s : Shared} {Q E : Value → Shared → Prop} {tD : Addr} {news : List (Addr × Obj)} {over oct : Bool} {rate burst sc : Int} {u : Str} {t1 t2 t3 t4 : Tok} {tc : Nat} (B : Below A₀ base outer h₀) (F : Fr h₀ L s.heap m) (X : (Mine.top.heap_1 w.params).In h₀) (T : Top Mine.view (looseW Mine.view []) mean mg mb h₀) (hk : cs.kind = .function)
    (N : News h₀ L s.heap ((tD, ({ cls := .type "tuple", data := .seq #[.str (Str.ofString "limit") t1, .bool over, .int rate t2, .str u t3, .int burst t4, .bool oct] tc } : Obj)) :: news)) (hd : dp + 30 < recursionLimit) (hu : un + 600 < cLine)
    (hp : 1 ≤ rate ∧ rate ≤ 1000000000000 ∧ 0 ≤ burst ∧ burst ≤ 10000000 ∧ 1 ≤ sc ∧ sc ≤ 604800) (hb : oct = false → 1 ≤ burst) (hs : isUnit u ∧ secs u = sc)
    (hret : ∀ (x d : Addr) (most : Int) (b2 b3 b4 b6 b7 b8 b9 k1 k2 k3 k4 k5 k6 k7 k8 k9 : Tok) (h' : Heap) (tk' : Nat), (most = if oct = true then (sc * 1000000000 * (rate + burst)).fdiv rate else (sc * 1000000000).fdiv rate * burst) →
      Fr h₀ L h' m → News h₀ L h' ((x, instObj 119 d) :: (d, dictOf [{ hash := PyData.keyHash w.params (Str.ofString "is_over"), key := .str (Str.ofString "is_over") k1, val := .bool over }, { hash := PyData.keyHash w.params (Str.ofString "rate"), key := .str (Str.ofString "rate") k2, val := .int rate b2 }, { hash := PyData.keyHash w.params (Str.ofString "unit"), key := .str (Str.ofString "unit") k3, val := .str u b3 }, { hash := PyData.keyHash w.params (Str.ofString "burst"), key := .str (Str.ofString "burst") k4, val := .int burst b4 }, { hash := PyData.keyHash w.params (Str.ofString "is_octets"), key := .str (Str.ofString "is_octets") k5, val := .bool oct }, { hash := PyData.keyHash w.params (Str.ofString "span"), key := .str (Str.ofString "span") k6, val := .int (sc * 1000000000) b6 }, { hash := PyData.keyHash w.params (Str.ofString "most"), key := .str (Str.ofString "most") k7, val := .int most b7 }, { hash := PyData.keyHash w.params (Str.ofString "tokens"), key := .str (Str.ofString "tokens") k8, val := .int most b8 }, { hash := PyData.keyHash w.params (Str.ofString "last"), key := .str (Str.ofString "last") k9, val := .int 0 b9 }] 9) :: (tD, ({ cls := .type "tuple", data := .seq #[.str (Str.ofString "limit") t1, .bool over, .int rate t2, .str u t3, .int burst t4, .bool oct] tc } : Obj)) :: news) → AllLt d ((tD, ({ cls := .type "tuple", data := .seq #[.str (Str.ofString "limit") t1, .bool over, .int rate t2, .str u t3, .int burst t4, .bool oct] tc } : Obj)) :: news) → @LT.lt Nat _ d x → Q (.ref x) { s with heap := h', toks := tk' }) :
    wpAny (model PySem.Challenge.rw_pf0333_01.row.prog w) (ktrTop dp un gd cn cs L a ccd cl outer) (call (.ref 165) [.ref tD]) Q E s := by
  have hMk9 := kstMark
  revert X; k_fill; w_on; intro X
  k_with_none
  obtain ⟨hp1, hp2, hp3, hp4, hp5, hp6⟩ := hp
  have bm9 : BMark := .mk
  cases oct
  · have hb1 := hb rfl
    clear hb
    w_strict ((refine wpAny_call ?_); k_dflt cell_enter; k_steps)
    refine' hret _ _ _ _ _ _ _ _ _ _ _ _ _ _ _ _ _ _ _ _ _ ?ye ?yF ?yN ?yl ?ym
    case yN => assumption
    case yF => assumption
    case yl => assumption
    case ym => assumption
    case ye => exact hc_f (congrArg (· * burst) (by assumption))
  · clear hb
    w_strict ((refine wpAny_call ?_); k_dflt cell_enter; k_steps)
    refine' hret _ _ _ _ _ _ _ _ _ _ _ _ _ _ _ _ _ _ _ _ _ ?we ?wF ?wN ?wl ?wm
    case wN => assumption
    case wF => assumption
    case wl => assumption
    case wm => assumption
    case we => exact hc_t (by assumption)
section
local macro_rules | `(tactic| walk_at "setAttr ref int") => `(tactic| ((with_reducible refine tok_gen (by assumption) ?_); intro tz))
set_option maxRecDepth 100000 in
set_option maxHeartbeats 4000000 in
theorem lp_ct {w : World} {mean : ExcName → Option Value} {mg mb : Str → Option Value} {dp un : Nat} {gd : Option (List Code)} {cn : Str} {cs : Scope} {a : Addr} {ccd : Value} {cl : List (Str × Addr)} {outer : List Env} {A₀ : Around} {base h₀ : Heap} {L : Addr} {m : Str → Option Value} {s : Shared} {Q E : Value → Shared → Prop} {lK lT x d tD c4 c3 c2 c1 p1 : Addr} {oK oT ot o4 o3 o2 o1 o0 : Obj} {own : List (Addr × Obj)} {over oct : Bool} {rate burst S most now len cost M tok last d9 : Int} {u : Str} {b2 b3 b4 b6 b7 k1 k2 k3 k4 k5 k6 k7 k8 k9 tn tl ttok tlast : Tok} (B : Below A₀ base outer h₀) (F : Fr h₀ L s.heap m) (X : (Mine.top.heap_1 w.params).In h₀) (T : Top Mine.view (looseW Mine.view []) mean mg mb h₀) (hk : cs.kind = .function)
    (N : News h₀ L s.heap ((lK, oK) :: (lT, oT) :: (x, instObj 119 d) :: (d, dictOf [{ hash := PyData.keyHash w.params (Str.ofString "is_over"), key := .str (Str.ofString "is_over") k1, val := .bool over }, { hash := PyData.keyHash w.params (Str.ofString "rate"), key := .str (Str.ofString "rate") k2, val := .int rate b2 }, { hash := PyData.keyHash w.params (Str.ofString "unit"), key := .str (Str.ofString "unit") k3, val := .str u b3 }, { hash := PyData.keyHash w.params (Str.ofString "burst"), key := .str (Str.ofString "burst") k4, val := .int burst b4 }, { hash := PyData.keyHash w.params (Str.ofString "is_octets"), key := .str (Str.ofString "is_octets") k5, val := .bool oct }, { hash := PyData.keyHash w.params (Str.ofString "span"), key := .str (Str.ofString "span") k6, val := .int S b6 }, { hash := PyData.keyHash w.params (Str.ofString "most"), key := .str (Str.ofString "most") k7, val := .int most b7 }, { hash := PyData.keyHash w.params (Str.ofString "tokens"), key := .str (Str.ofString "tokens") k8, val := .int tok ttok }, { hash := PyData.keyHash w.params (Str.ofString "last"), key := .str (Str.ofString "last") k9, val := .int last tlast }] 9) :: (tD, ot) :: (c4, o4) :: (c3, o3) :: (c2, o2) :: (c1, o1) :: (p1, o0) :: own))
    (hoff : OwnOff own [lK, lT, x, d, tD, c4, c3, c2, c1, p1]) (hd : dp + 20 < recursionLimit) (hu : un + 400 < cLine)
    (lo : @LT.lt Nat _ p1 c1 ∧ @LT.lt Nat _ c1 c2 ∧ @LT.lt Nat _ c2 c3 ∧ @LT.lt Nat _ c3 c4 ∧ @LT.lt Nat _ c4 tD ∧ @LT.lt Nat _ tD d ∧ @LT.lt Nat _ d x ∧ @LT.lt Nat _ x lT ∧ @LT.lt Nat _ lT lK)
    (hc : cost = if oct = true then (S * len).fdiv rate else S.fdiv rate) (hM : M = min most (tok + d9 * 1000000)) (hn : now = last + d9)
    (hp : 1 ≤ rate ∧ rate ≤ 1000000000000 ∧ 1000000000 ≤ S ∧ S ≤ 604800000000000 ∧ 0 ≤ len ∧ len < 1500)
    (hret : ∀ (told : Bool) (tok' : Int) (t8 t9 : Tok) (h' : Heap) (tk' : Nat), told = (decide (cost ≤ M) != over) → (cost ≤ M → tok' = M - cost) → (¬ cost ≤ M → tok' = M) → Fr h₀ L h' m →
      News h₀ L h' ((lK, oK) :: (lT, oT) :: (x, instObj 119 d) :: (d, dictOf [{ hash := PyData.keyHash w.params (Str.ofString "is_over"), key := .str (Str.ofString "is_over") k1, val := .bool over }, { hash := PyData.keyHash w.params (Str.ofString "rate"), key := .str (Str.ofString "rate") k2, val := .int rate b2 }, { hash := PyData.keyHash w.params (Str.ofString "unit"), key := .str (Str.ofString "unit") k3, val := .str u b3 }, { hash := PyData.keyHash w.params (Str.ofString "burst"), key := .str (Str.ofString "burst") k4, val := .int burst b4 }, { hash := PyData.keyHash w.params (Str.ofString "is_octets"), key := .str (Str.ofString "is_octets") k5, val := .bool oct }, { hash := PyData.keyHash w.params (Str.ofString "span"), key := .str (Str.ofString "span") k6, val := .int S b6 }, { hash := PyData.keyHash w.params (Str.ofString "most"), key := .str (Str.ofString "most") k7, val := .int most b7 }, { hash := PyData.keyHash w.params (Str.ofString "tokens"), key := .str (Str.ofString "tokens") k8, val := .int tok' t8 }, { hash := PyData.keyHash w.params (Str.ofString "last"), key := .str (Str.ofString "last") k9, val := .int now t9 }] 9) :: (tD, ot) :: (c4, o4) :: (c3, o3) :: (c2, o2) :: (c1, o1) :: (p1, o0) :: own) → Q (.bool told) { s with heap := h', toks := tk' }) :
    wpAny (model PySem.Challenge.rw_pf0333_01.row.prog w) (ktrTop dp un gd cn cs L a ccd cl outer) (call (.ref 151) [.ref x, .int now tn, .int len tl]) Q E s := by
  have hMk9 := kstMark
  revert X; k_fill; w_on; intro X
  k_with_none
  obtain ⟨l1, l2, l3, l4, l5, l6, l7, l8, l9⟩ := lo
  obtain ⟨hp1, hp2, hp3, hp4, hp5, hp6⟩ := hp
  have hz : 0 ≤ S * len := Int.mul_nonneg (by omega) hp5

  have hM9 : M = min most (tok + (now - last) * 1000000) := by rw [hn, show last + d9 - last = d9 by omega]; exact hM
  clear hM hn
  cases oct
  · rw [if_neg (by decide)] at hc
    w_strict ((refine wpAny_call ?_); k_dflt cell_enter; k_steps)
    · refine' hret _ _ _ _ _ _ (told_y ?z0a) ?z0b ?z0c ?z0d ?z0e
      case z0d => k_asm
      case z0e => assumption
      case z0a => omega
      case z0b => (intro _; omega)
      case z0c => (intro _; omega)
    · refine' hret _ _ _ _ _ _ (told_n ?z1a) ?z1b ?z1c ?z1d ?z1e
      case z1d => k_asm
      case z1e => assumption
      case z1a => omega
      case z1b => (intro _; omega)
      case z1c => (intro _; omega)
  · rw [if_pos rfl] at hc
    w_strict ((refine wpAny_call ?_); k_dflt cell_enter; k_steps)
    · refine' hret _ _ _ _ _ _ (told_y ?z2a) ?z2b ?z2c ?z2d ?z2e
      case z2d => k_asm
      case z2e => assumption
      case z2a => omega
      case z2b => (intro _; omega)
      case z2c => (intro _; omega)
    · refine' hret _ _ _ _ _ _ (told_n ?z3a) ?z3b ?z3c ?z3d ?z3e
      case z3d => k_asm
      case z3e => assumption
      case z3a => omega
      case z3b => (intro _; omega)
      case z3c => (intro _; omega)
end
local macro_rules | `(tactic| walk_at "call ref") => `(tactic| (k_here; (with_reducible show wpAny _ _ (call (Value.ref 165) _) _ _ _); k_dflt (refine' mc_ct ?B ?F ?X ?T ?K ?N ?D ?U ?P ?hb ?hs ?_; (case N => first | k_asm | (with_reducible rename News _ _ _ _ => zN; exact news_swap zN)); (case B => k_asm); (case F => k_asm); (case X => k_asm); (case T => k_asm); (case K => first | exact rfl | assumption); (case D => ktr_room); (case U => ktr_units); (case P => exact ⟨by omega, by omega, by omega, by omega, by omega, by omega⟩); (case hb => assumption); (case hs => assumption)); intro x9 d9 most9 b2 b3 b4 b6 b7 b8 b9 k1 k2 k3 k4 k5 k6 k7 k8 k9 h9 tk9 e9 F9 N9 l9 m9; (try simp only [AllLt, and_true] at l9); (try dsimp only); (try k_fold)))
section
local macro_rules | `(tactic| walk_at "call ref") => `(tactic| (k_here; (with_reducible show wpAny _ _ (call (Value.ref 151) _) _ _ _); k_dflt (refine' lp_ct ?B ?F ?X ?T ?K ?N ?O ?D ?U ?lo ?hc ?hM ?hn ?hp ?_; walk_at "my std"; (case O => assumption); (case lo => exact ⟨by omega, by omega, by omega, by omega, by omega, by omega, by omega, by omega, by omega⟩); (case hc => first | assumption | exact hc_f (by assumption) | exact hc_t (by assumption)); (case hM => assumption); (case hn => exact rfl); (case hp => exact ⟨by omega, by omega, by omega, by omega, Int.fmod_nonneg_of_pos _ (by decide), Int.fmod_lt_of_pos _ (by decide)⟩)); intro told9 tok9 t8 t9 h9 tk9 e9 p9 q9 F9 N9; (try dsimp only)))
local macro_rules | `(tactic| walk_at "ite") => `(tactic| (k_here; (with_reducible refine ite_neg (tb_no ?h) ?_); (case h => assumption)))
local macro_rules | `(tactic| walk_at "subscriptTail List cons BinOp ref int") => `(tactic| (k_here; k_dflt (refine' item_pos ?k1 ?k2 ?k3 ?k4 ?k5 ?kp ?_ ?k6; (case k1 => is_list); (case k2 => l_intsW); (case k3 => l_idx); (case k4 => ((try k_fmods); (try simp only [List.length_cons, List.length_nil]); omega)); (case k5 => l_idx); (case kp => ((simp only [List.forall_mem_cons]; (refine ⟨?_, ?_, ?_, ?_, ?_, ?_, ?_, ?_, ?_⟩ <;> first | omega | exact List.forall_mem_nil _)))); (case k6 => with_unfolding_all rfl)); intro v9 t9 p9; (try dsimp only)))
local macro_rules | `(tactic| walk_at "call builtin:min") => `(tactic| (k_here; (with_reducible rename News _ _ _ _ => zN); (with_unfolding_all refine' kso_min ?k1 ?k2 ?k3 ?k4 ?k5 ?k6 ?_; (case k1 => k_asm); (case k2 => exact fun p hp => zN p (List.Mem.tail _ (List.Mem.tail _ hp))); (case k3 => exact ⟨_, (zN _ (List.Mem.head _)).1, rfl, _, rfl⟩); (case k4 => assumption); (case k5 => (rw [List.length_map, rangeKs_length]; exact one_pos _)); (case k6 => with_unfolding_all rfl)); intro h' M' t' k' F' N' a' b'; (replace a' := left_eq (by assumption) (by assumption) (by assumption) (by assumption) a' b'); clear b' zN; (try (rename (_ ≠ _ ∧ _) => hz; clear hz)); (try (rename (_ < _ ∧ _) => hz; clear hz)); (try k_sweep); (try dsimp only)))
local macro_rules | `(tactic| walk_at "subscriptTail Name Name ref int") => `(tactic| (k_here; k_dflt (refine' item_anyK ?k1 ?k2 ?k3 ?k4 ?k5 ?_ ?k6; (case k1 => exact News.isList (by k_asm) (by k_mem)); (case k2 => exact ints_snoc (by assumption)); (case k3 => assumption); (case k4 => exact idx_lt (by assumption) (by assumption)); (case k5 => exact idx_fit (by assumption) (by assumption)); (case k6 => with_unfolding_all rfl)); intro t9; (try dsimp only)))
local macro_rules | `(tactic| walk_at "subscriptTail Name Slice ref ref") => `(tactic| (k_here; (with_reducible show wpAny _ _ (subscriptTail _ (PySem.Expr.Slice _ _ none _) (Value.ref _) (Value.ref _)) _ _ _); k_dflt (refine' kmk_slice_ints ?F ?N ?l ?p ?q ?i ?m ?c ?_ ?s ?t ?z; (case F => k_asm); (case N => k_asm); (case l => exact News.isList (by k_asm) (by k_mem)); (case p => kmk_part); (case q => kmk_part); (case i => exact ints_snoc (by assumption)); (case m => exact kmk_from (ints_snoc (by assumption)) (by assumption)); (case c => exact rfl); (case s => with_unfolding_all rfl); (case t => kmk_pure); (case z => exact snoc_fit (by assumption) (by assumption) (by assumption))); intro D' ws' h' F' N' l1 hI' hC' hL'; clear l1 hL' hC'; (try dsimp only)))
local macro_rules | `(tactic| walk_at "subscriptTail Name Name ref int") => `(tactic| (k_here; (with_reducible show wpAny _ _ (subscriptTail _ _ (Value.ref _) (Value.int (0 + ((_ : Nat) : Int)) _)) _ _ _); k_dflt (refine' item_last ?k1 ?k2 ?k3 ?k4 ?_ ?k6; (case k1 => exact News.isList (by k_asm) (by k_mem)); (case k2 => assumption); (case k3 => assumption); (case k4 => assumption); (case k6 => with_unfolding_all rfl)); intro t9; (try dsimp only)))
local macro_rules | `(tactic| walk_at "setItem ref int int") => `(tactic| (k_here; k_dflt (refine' set_last ?k1 ?k2 ?k3 ?k4 ?k5 ?k6 ?_; (case k1 => k_asm); (case k2 => k_asm); (case k3 => k_upd); (case k4 => exact ints_snoc (by assumption)); (case k5 => exact Eq.trans (by assumption) (by assumption)); (case k6 => assumption)); intro h' F' N'; (try k_sweep); (try dsimp only)))
local macro_rules | `(tactic| walk_at "ite") => `(tactic| (k_here; first | ((with_reducible refine ite_neg (b_no ?h) ?_); (case h => assumption)) | ((with_reducible refine ite_neg (b_yes ?h) ?_); (case h => assumption)) | ((with_reducible refine ite_neg (ne_no ?h) ?_); (case h => omega)) | ((with_reducible refine ite_neg (ne_no' ?h) ?_); (case h => omega))))
local macro_rules | `(tactic| walk_at "InvEndN") => `(tactic| ((with_reducible rename News _ _ _ _ => zN); (with_reducible rename Fr _ _ _ _ => zF); k_dflt (refine kst_end (⟨_, _, _, _, _, _, _, _, _, _, _, _, _⟩ : LS) zF zN (by (dsimp only; refine List.forall_mem_cons.mpr ⟨?_, ?_⟩; exact .head _; refine List.forall_mem_cons.mpr ⟨?_, ?_⟩; exact .tail _ (.head _); refine List.forall_mem_cons.mpr ⟨?_, ?_⟩; exact .tail _ (.tail _ (.head _)); refine List.forall_mem_cons.mpr ⟨?_, ?_⟩; exact .tail _ (.tail _ (.tail _ (.head _))); refine List.forall_mem_cons.mpr ⟨?_, ?_⟩; exact .tail _ (.tail _ (.tail _ (.tail _ (.head _)))); refine List.forall_mem_cons.mpr ⟨?_, ?_⟩; exact .tail _ (.tail _ (.tail _ (.tail _ (.tail _ (.head _))))); refine List.forall_mem_cons.mpr ⟨?_, ?_⟩; exact .tail _ (.tail _ (.tail _ (.tail _ (.tail _ (.tail _ (.head _)))))); refine List.forall_mem_cons.mpr ⟨?_, ?_⟩; exact .tail _ (.tail _ (.tail _ (.tail _ (.tail _ (.tail _ (.tail _ (.head _))))))); refine List.forall_mem_cons.mpr ⟨?_, ?_⟩; exact .tail _ (.tail _ (.tail _ (.tail _ (.tail _ (.tail _ (.tail _ (.tail _ (.head _)))))))); refine List.forall_mem_cons.mpr ⟨?_, ?_⟩; exact .tail _ (.tail _ (.tail _ (.tail _ (.tail _ (.tail _ (.tail _ (.tail _ (.tail _ (.head _))))))))); exact List.forall_mem_nil _)) (by exact fun p hp => .tail _ (.tail _ (.tail _ (.tail _ (.tail _ (.tail _ (.tail _ (.tail _ (.tail _ (.tail _ (hp))))))))))) (by exact rfl) (by (dsimp only; exact ⟨by assumption, ints_snoc (by assumption), ints_snoc (by assumption)⟩)) (by kst_all) (by (intro z h1 h2 h3; (simp only [List.forall_mem_cons, List.not_mem_nil, false_implies, implies_true, and_true, ne_eq] at h2); (simp only [List.contains_cons, List.contains_nil, Bool.or_false, Bool.or_eq_false_iff, beq_eq_false_iff_ne, ne_eq] at h3); (simp [kstB, h1, h2, h3]; done))) (by (dsimp only; (refine LP_next (by assumption) (by assumption) (by assumption) (by assumption) ?_ (by assumption) (by assumption) ?_ <;> omega))))))
local macro_rules | `(tactic| walk_at "eval IfExp") => `(tactic| (k_here; (with_reducible rename CostMark _ _ _ => zM); (with_reducible rename Fr _ _ _ _ => zF); (with_reducible rename News _ _ _ _ => zN); k_dflt (refine' cut_cost zM zF zN ?l ?a ?_; (case l => kst_all); (case a => ((clear zM); k_steps; all_goals (refine' cost_end ?f ?n ?p ?q; (case f => assumption); (case n => assumption); (case p => assumption); (case q => first | exact cost_t (by assumption) (by assumption) | exact cost_f (by assumption) (by assumption)))))); clear zF zN; intro c9 t9 h9 tk9 p9 q9 F9 N9; (try dsimp only)))
local macro_rules | `(tactic| walk_at "exec If Name cons nil") => `(tactic| (k_here; (with_reducible rename RMark => zM); (with_reducible rename Fr _ _ _ _ => zF); (with_reducible rename News _ _ _ _ => zN); k_dflt (refine' cut_room zM zF zN ?l ?a ?_; (case l => kst_all); (case a => ((clear zM); k_steps; all_goals (refine' room_end ?f ?n ?p ?q; (case f => assumption); (case n => assumption); (case p => (intro _; omega)); (case q => (intro _; omega)))))); clear zM zF zN; intro b9 t9 h9 tk9 p9 q9 F9 N9; (try dsimp only)))
set_option maxRecDepth 100000 in
set_option maxHeartbeats 4000000 in
theorem loop_ct {w : World} {mean : ExcName → Option Value} {mg mb : Str → Option Value} {dp un : Nat} {gd : Option (List Code)} {outer : List Env} {A₀ : Around} {base h₀ : Heap} {L : Addr} {m : Str → Option Value} {s : Shared} {Q : Flow → Shared → Prop} {E : Value → Shared → Prop} {p1 : Addr} {o1 : Obj} {l : Addr} {vs : List Value} {ns : List Int} {j : Int} {tj : Tok}
    {scope : Scope} {body : List Stmt} (hscope : some scope = fnScope limitDef) (hbody : body = loopBody)
    {r : Addr} {a1 a2 a3 a4 : Tok} {x d tD lT lK : Addr} {over oct : Bool} {rate burst S bk most : Int} {u : Str} {t1 t2 t3 t4 b2 b3 b4 b6 b7 b8 b9 k1 k2 k3 k4 k5 k6 k7 k8 k9 tr tb ts : Tok} {tc : Nat} {oB oN oT oK : Obj}
    (B : Below A₀ base outer h₀) (F : Fr h₀ L s.heap m) (X : (Mine.top.heap_1 w.params).In h₀)
    (N : News h₀ L s.heap [(lK, W.listOf #[] 0), (lT, W.listOf #[] 0), (x, instObj 119 d), (d, dictOf [{ hash := PyData.keyHash w.params (Str.ofString "is_over"), key := .str (Str.ofString "is_over") k1, val := .bool over }, { hash := PyData.keyHash w.params (Str.ofString "rate"), key := .str (Str.ofString "rate") k2, val := .int rate b2 }, { hash := PyData.keyHash w.params (Str.ofString "unit"), key := .str (Str.ofString "unit") k3, val := .str u b3 }, { hash := PyData.keyHash w.params (Str.ofString "burst"), key := .str (Str.ofString "burst") k4, val := .int burst b4 }, { hash := PyData.keyHash w.params (Str.ofString "is_octets"), key := .str (Str.ofString "is_octets") k5, val := .bool oct }, { hash := PyData.keyHash w.params (Str.ofString "span"), key := .str (Str.ofString "span") k6, val := .int S b6 }, { hash := PyData.keyHash w.params (Str.ofString "most"), key := .str (Str.ofString "most") k7, val := .int most b7 }, { hash := PyData.keyHash w.params (Str.ofString "tokens"), key := .str (Str.ofString "tokens") k8, val := .int most b8 }, { hash := PyData.keyHash w.params (Str.ofString "last"), key := .str (Str.ofString "last") k9, val := .int 0 b9 }] 9), (tD, ({ cls := .type "tuple", data := .seq #[.str (Str.ofString "limit") t1, .bool over, .int rate t2, .str u t3, .int burst t4, .bool oct] tc } : Obj)), (L + 1 + 1 + 1 + 1, oK), (L + 1 + 1 + 1, oT), (L + 1 + 1, oN), (L + 1, oB), (p1, o1)])
    (T : Top Mine.view (looseW Mine.view []) mean mg mb h₀)
    (hK : oK.data = .cell (some (.ref lK))) (hT : oT.data = .cell (some (.ref lT))) (hN : oN.data = .cell (some (.int 0 tb))) (hB : oB.data = .cell (some (.int bk ts)))
    (hm : ∀ p ∈ [(Str.ofString "script", Value.ref l), (Str.ofString "j", .int j tj), (Str.ofString "statement", .ref tD), (Str.ofString "rate", .int rate a1), (Str.ofString "is_octets", .bool oct), (Str.ofString "span", .int S a2), (Str.ofString "cell", .ref x)], m p.1 = some p.2)
    (hlb : base.IsList l vs.toArray) (hl : h₀.IsList l vs.toArray) (hi : IntsAre vs ns) (hfit : ns.length < 2 ^ 62) (hd : dp + 30 < recursionLimit) (hu : un + 600 < cLine)
    (hx : most = bk) (hj0 : 0 ≤ j) (hj5 : j < 5) (hr1 : 1 ≤ rate) (hr2 : rate ≤ 1000000000000) (hb1 : 0 ≤ burst) (hb2 : burst < 3000) (hS1 : 1000000000 ≤ S) (hS2 : S ≤ 604800000000000)
    (lo1 : @LT.lt Nat _ p1 L) (lo2 : @LT.lt Nat _ (L + 1 + 1 + 1 + 1) tD) (lo3 : @LT.lt Nat _ tD d) (lo4 : @LT.lt Nat _ d x) (lo5 : @LT.lt Nat _ x lT) (lo6 : @LT.lt Nat _ lT lK)
    (hr : IsRange s.heap r 0 8 1 tr a3 a4)
    (done : ∀ (c : LS) (m' : Str → Option Value) (h : Heap) (tk : Nat), Fr h₀ L h (kstB m' [(Str.ofString "script", Value.ref l), (Str.ofString "j", .int j tj), (Str.ofString "statement", .ref tD), (Str.ofString "rate", .int rate a1), (Str.ofString "is_octets", .bool oct), (Str.ofString "span", .int S a2), (Str.ofString "cell", .ref x)]) →
      News h₀ L h [(x, instObj 119 d), (d, dictOf [{ hash := PyData.keyHash w.params (Str.ofString "is_over"), key := .str (Str.ofString "is_over") k1, val := .bool over }, { hash := PyData.keyHash w.params (Str.ofString "rate"), key := .str (Str.ofString "rate") k2, val := .int rate b2 }, { hash := PyData.keyHash w.params (Str.ofString "unit"), key := .str (Str.ofString "unit") k3, val := .str u b3 }, { hash := PyData.keyHash w.params (Str.ofString "burst"), key := .str (Str.ofString "burst") k4, val := .int burst b4 }, { hash := PyData.keyHash w.params (Str.ofString "is_octets"), key := .str (Str.ofString "is_octets") k5, val := .bool oct }, { hash := PyData.keyHash w.params (Str.ofString "span"), key := .str (Str.ofString "span") k6, val := .int S b6 }, { hash := PyData.keyHash w.params (Str.ofString "most"), key := .str (Str.ofString "most") k7, val := .int most b7 }, { hash := PyData.keyHash w.params (Str.ofString "tokens"), key := .str (Str.ofString "tokens") k8, val := .int c.tok c.ttok }, { hash := PyData.keyHash w.params (Str.ofString "last"), key := .str (Str.ofString "last") k9, val := .int c.last c.tlast }] 9), (tD, ({ cls := .type "tuple", data := .seq #[.str (Str.ofString "limit") t1, .bool over, .int rate t2, .str u t3, .int burst t4, .bool oct] tc } : Obj)), (p1, o1)] → Q .next { s with heap := h, toks := tk }) :
    wpAny (model PySem.Challenge.rw_pf0333_01.row.prog w) (ktrTop dp un gd (Str.ofString "_law_limit_holds") scope L 212 (.ref 211) (cellsFrom (L + 1) scope.names []) outer) (pyIter (.ref r))
      (fun it s₂ => LoopAtV PySem.Challenge.rw_pf0333_01.row.prog w (ktrTop dp un gd (Str.ofString "_law_limit_holds") scope L 212 (.ref 211) (cellsFrom (L + 1) scope.names []) outer) h₀ (envX (Str.ofString "_law_limit_holds") scope L 212 (.ref 211) (cellsFrom (L + 1) scope.names [])) (Str.ofString "k") body Q E it s₂) E s := by
  conv at hbody => rhs; whnf
  conv at hscope => rhs; whnf
  injection hscope with hscope
  subst hbody hscope hx
  have hMk9 := kstMark
  revert X; k_fill; w_on; intro X
  k_with_none
  k_with "table" => skip
  refine kst_range (fun c : LS => [(lK, W.listOf c.vK.toArray c.nK), (lT, W.listOf c.vT.toArray c.nT), (x, instObj 119 d), (d, dictOf [{ hash := PyData.keyHash w.params (Str.ofString "is_over"), key := .str (Str.ofString "is_over") k1, val := .bool over }, { hash := PyData.keyHash w.params (Str.ofString "rate"), key := .str (Str.ofString "rate") k2, val := .int rate b2 }, { hash := PyData.keyHash w.params (Str.ofString "unit"), key := .str (Str.ofString "unit") k3, val := .str u b3 }, { hash := PyData.keyHash w.params (Str.ofString "burst"), key := .str (Str.ofString "burst") k4, val := .int burst b4 }, { hash := PyData.keyHash w.params (Str.ofString "is_octets"), key := .str (Str.ofString "is_octets") k5, val := .bool oct }, { hash := PyData.keyHash w.params (Str.ofString "span"), key := .str (Str.ofString "span") k6, val := .int S b6 }, { hash := PyData.keyHash w.params (Str.ofString "most"), key := .str (Str.ofString "most") k7, val := .int most b7 }, { hash := PyData.keyHash w.params (Str.ofString "tokens"), key := .str (Str.ofString "tokens") k8, val := .int c.tok c.ttok }, { hash := PyData.keyHash w.params (Str.ofString "last"), key := .str (Str.ofString "last") k9, val := .int c.last c.tlast }] 9), (tD, ({ cls := .type "tuple", data := .seq #[.str (Str.ofString "limit") t1, .bool over, .int rate t2, .str u t3, .int burst t4, .bool oct] tc } : Obj)), (L + 1 + 1 + 1 + 1, oK), (L + 1 + 1 + 1, oT), (L + 1 + 1, c.on), (L + 1, oB), (p1, o1)])
    (fun _ => [(Str.ofString "script", Value.ref l), (Str.ofString "j", .int j tj), (Str.ofString "statement", .ref tD), (Str.ofString "rate", .int rate a1), (Str.ofString "is_octets", .bool oct), (Str.ofString "span", .int S a2), (Str.ofString "cell", .ref x)])
    (fun c => c.on.data = .cell (some (.int c.now c.tn)) ∧ IntsAre c.vT c.times ∧ IntsAre c.vK c.taken)
    [Str.ofString "drawn", Str.ofString "length", Str.ofString "cost", Str.ofString "step", Str.ofString "left", Str.ofString "is_room", Str.ofString "told"]
    (fun pre c => LP most pre c.now c.last c.tok c.times c.taken)
    ⟨0, tb, oN, [], [], 0, [], [], 0, most, b8, 0, b9⟩ rfl hr (by decide) (n := 8) (by decide) F N ⟨hN, .nil, .nil⟩ hm ⟨rfl, rfl, rfl, Int.le_refl _, rfl⟩ ?_ ?_
  · intro c pre k t u' h tk own hk hlt hoff hfacts hP F1 N1
    obtain ⟨now, tn, on, times, vT, nT, taken, vK, nK, tok, ttok, last, tlast⟩ := c
    obtain ⟨hon, hiT, hiK⟩ := hfacts
    obtain ⟨hl1, hl2, hl3, hl4, hl5⟩ := hP
    dsimp only at hon hiT hiK hl1 hl2 hl3 hl4 hl5 F1 N1
    simp only [List.cons_append, List.nil_append] at N1
    simp only [List.map_cons, List.map_nil] at hoff
    clear done hr N F hN hm
    subst hk hl3
    have hvT := IntsAre.length hiT
    have hvK := IntsAre.length hiK
    have mk9 : CostMark S rate oct := .mk
    have rm9 : RMark := .mk
    try k_fold
    w_strict (k_steps)
  · intro c u' h tk hfacts hP F1 N1
    refine done c (fun y => if y = Str.ofString "k" then u' y else if [Str.ofString "drawn", Str.ofString "length", Str.ofString "cost", Str.ofString "step", Str.ofString "left", Str.ofString "is_room", Str.ofString "told"].contains y then u' y else m y) h tk ?_ ?_
    · rw [kst_move (by simp only [List.forall_mem_cons, List.not_mem_nil, false_implies, implies_true, and_true]; decide)] at F1
      exact F1
    · have sub : ∀ p ∈ [(x, instObj 119 d), (d, dictOf [{ hash := PyData.keyHash w.params (Str.ofString "is_over"), key := .str (Str.ofString "is_over") k1, val := .bool over }, { hash := PyData.keyHash w.params (Str.ofString "rate"), key := .str (Str.ofString "rate") k2, val := .int rate b2 }, { hash := PyData.keyHash w.params (Str.ofString "unit"), key := .str (Str.ofString "unit") k3, val := .str u b3 }, { hash := PyData.keyHash w.params (Str.ofString "burst"), key := .str (Str.ofString "burst") k4, val := .int burst b4 }, { hash := PyData.keyHash w.params (Str.ofString "is_octets"), key := .str (Str.ofString "is_octets") k5, val := .bool oct }, { hash := PyData.keyHash w.params (Str.ofString "span"), key := .str (Str.ofString "span") k6, val := .int S b6 }, { hash := PyData.keyHash w.params (Str.ofString "most"), key := .str (Str.ofString "most") k7, val := .int most b7 }, { hash := PyData.keyHash w.params (Str.ofString "tokens"), key := .str (Str.ofString "tokens") k8, val := .int c.tok c.ttok }, { hash := PyData.keyHash w.params (Str.ofString "last"), key := .str (Str.ofString "last") k9, val := .int c.last c.tlast }] 9), (tD, ({ cls := .type "tuple", data := .seq #[.str (Str.ofString "limit") t1, .bool over, .int rate t2, .str u t3, .int burst t4, .bool oct] tc } : Obj)), (p1, o1)], p ∈ [(lK, W.listOf c.vK.toArray c.nK), (lT, W.listOf c.vT.toArray c.nT), (x, instObj 119 d), (d, dictOf [{ hash := PyData.keyHash w.params (Str.ofString "is_over"), key := .str (Str.ofString "is_over") k1, val := .bool over }, { hash := PyData.keyHash w.params (Str.ofString "rate"), key := .str (Str.ofString "rate") k2, val := .int rate b2 }, { hash := PyData.keyHash w.params (Str.ofString "unit"), key := .str (Str.ofString "unit") k3, val := .str u b3 }, { hash := PyData.keyHash w.params (Str.ofString "burst"), key := .str (Str.ofString "burst") k4, val := .int burst b4 }, { hash := PyData.keyHash w.params (Str.ofString "is_octets"), key := .str (Str.ofString "is_octets") k5, val := .bool oct }, { hash := PyData.keyHash w.params (Str.ofString "span"), key := .str (Str.ofString "span") k6, val := .int S b6 }, { hash := PyData.keyHash w.params (Str.ofString "most"), key := .str (Str.ofString "most") k7, val := .int most b7 }, { hash := PyData.keyHash w.params (Str.ofString "tokens"), key := .str (Str.ofString "tokens") k8, val := .int c.tok c.ttok }, { hash := PyData.keyHash w.params (Str.ofString "last"), key := .str (Str.ofString "last") k9, val := .int c.last c.tlast }] 9), (tD, ({ cls := .type "tuple", data := .seq #[.str (Str.ofString "limit") t1, .bool over, .int rate t2, .str u t3, .int burst t4, .bool oct] tc } : Obj)), (L + 1 + 1 + 1 + 1, oK), (L + 1 + 1 + 1, oT), (L + 1 + 1, c.on), (L + 1, oB), (p1, o1)] :=
        List.forall_mem_cons.mpr ⟨.tail _ (.tail _ (.head _)), List.forall_mem_cons.mpr ⟨.tail _ (.tail _ (.tail _ (.head _))), List.forall_mem_cons.mpr ⟨.tail _ (.tail _ (.tail _ (.tail _ (.head _)))), List.forall_mem_cons.mpr ⟨.tail _ (.tail _ (.tail _ (.tail _ (.tail _ (.tail _ (.tail _ (.tail _ (.tail _ (.head _))))))))), List.forall_mem_nil _⟩⟩⟩⟩
      exact fun p hp => N1 p (sub p hp)
end
section
local macro_rules | `(tactic| walk_at "compareOp Eq ref ref") => `(tactic| (k_here; k_dflt (refine' eq_dataH ?ea ?eb ?ec ?ed ?ee ?_; (case ea => exact reads_tuple_at (News.get (by k_asm) (by k_mem)) rfl rfl (by ke_reads)); (case eb => exact reads_tuple_at (News.get (by k_asm) (by k_mem)) rfl rfl (by ke_reads)); (case ec => exact tup_shaped (by assumption)); (case ed => exact tup_shaped (by assumption)); (case ee => ke_room)); ke_norm))
local macro_rules | `(tactic| walk_at "call ref") => `(tactic| (k_here; (with_reducible show wpAny _ _ (call (Value.ref 193) _) _ _ _); k_dflt (refine' span_ct ?B ?F ?X ?T ?K ?N ?D ?U ?P ?S ?_; walk_at "my std"; (case S => assumption); (case P => l_fact)); intro t9 h9 tk9 F9 N9; (try dsimp only); (try k_fold)))
local macro_rules | `(tactic| walk_at "call ref") => `(tactic| (k_here; (with_reducible show wpAny _ _ (call (Value.ref 207) _) _ _ _); k_dflt (refine' drawn_ct ?B ?F ?X ?T ?K ?N ?l ?i ?f ?D ?U ?P1 ?P2 ?_; walk_at "my std"; (case l => k_asm); (case i => l_ints); (case f => l_fit); (case P1 => assumption); (case P2 => assumption)); intro sc S over rate u burst oct tD t1 t2 t3 t4 tc h9 tk9 hr1 hr2 hb1 hb2 hb3 hs1 hs2 hu9 hsp hS F9 N9 l9; subst hS; (try simp only [AllLt, and_true] at l9); (have zM : BuckMark (sc * 1000000000) rate burst oct := .mk); (try dsimp only); (try k_fold)))
local macro_rules | `(tactic| walk_at "exec For Name Call cons nil") => `(tactic| (k_here; (rename Fr _ _ _ _ => lF'); (with_unfolding_all refine' For_invVF lF' ?k1 ?k2 ?_; (case k1 => exact rfl); (case k2 => exact rfl); k_whole)))
local macro_rules | `(tactic| walk_at "pyIter ref") => `(tactic| (k_here; (with_reducible show wpAny _ _ (pyIter (Value.ref _)) (fun it s₂ => LoopAtV _ _ _ _ _ _ _ _ _ it s₂) _ _); (rename Fr _ _ _ _ => lF'); (rename News _ _ _ _ => lN'); (rename IsRange _ _ _ _ _ _ _ _ => rgX); k_dflt (refine' loop_ct (by with_unfolding_all rfl) (by with_unfolding_all rfl) ?B lF' ?X ?N ?T ?c1 ?c2 ?c3 ?c4 ?hm ?lb ?l ?i ?f ?D ?U ?hx ?a1 ?a2 ?a3 ?a4 ?a5 ?a6 ?a7 ?a8 ?b1 ?b2 ?b3 ?b4 ?b5 ?b6 rgX ?_); (case N => exact news_pick lN'); (case B => k_asm); (case X => k_asm); (case T => k_asm); (case c1 => assumption); (case c2 => assumption); (case c3 => assumption); (case c4 => assumption); (case hm => kst_all); (case lb => k_asm); (case l => k_asm); (case i => l_ints); (case f => l_fit); (case D => ktr_room); (case U => ktr_units); (case hx => exact most_bk (by assumption) (by assumption) (by omega)); (case a1 => omega); (case a2 => omega); (case a3 => omega); (case a4 => omega); (case a5 => omega); (case a6 => omega); (case a7 => omega); (case a8 => omega); (case b1 => omega); (case b2 => omega); (case b3 => omega); (case b4 => omega); (case b5 => omega); (case b6 => omega); clear lF' lN'; intro c9 m9 h9 tk9 F9 N9; (try dsimp only); (try k_fold)))
local macro_rules | `(tactic| walk_at "call ref") => `(tactic| (k_here; (with_reducible show wpAny _ _ (call (Value.ref 172) _) _ _ _); k_dflt (refine' kind_ct ?B ?F ?X ?T ?K ?N ?D ?U ?_; walk_at "my std"); intro t9 h9 tk9 F9 N9; (try dsimp only); (try k_fold)))
local macro_rules | `(tactic| walk_at "call ref") => `(tactic| (k_here; (with_reducible show wpAny _ _ (call (Value.ref 179) _) _ _ _); k_dflt (refine' cst_ct ?B ?F ?X ?T ?K ?N ?D ?U ?O1 ?O2 ?_; walk_at "my std"; (case O1 => omega); (case O2 => omega)); intro D9 t1 h9 tk9 F9 N9 l9; (try simp only [AllLt, and_true] at l9); (try dsimp only); (try k_fold)))
local macro_rules | `(tactic| walk_at "exec If Name cons cons") => `(tactic| (k_here; (with_reducible rename BuckMark _ _ _ _ => zM); (with_reducible rename Fr _ _ _ _ => zF); (with_reducible rename News _ _ _ _ => zN); k_dflt (refine' cut_buck zM zF zN ?a ?_; (case a => ((clear zM); k_steps; all_goals (refine' buck_end ?e ?f ?n ?q; (case e => assumption); (case f => assumption); (case n => assumption); (case q => first | exact buck_t (by assumption) (by assumption) | exact buck_f (by assumption) (by assumption)))))); clear zM zF zN; intro b9 t9 o9 h9 tk9 d9 e9 F9 N9; (try dsimp only)))
set_option maxRecDepth 100000 in
set_option maxHeartbeats 4000000 in
theorem limit_ct {w : World} {mean : ExcName → Option Value} {mg mb : Str → Option Value} {dp un : Nat} {gd : Option (List Code)} {cn : Str} {cs : Scope} {a : Addr} {ccd : Value} {cl : List (Str × Addr)} {outer : List Env} {A₀ : Around} {base h₀ : Heap} {L : Addr} {m : Str → Option Value} {s : Shared} {Q E : Value → Shared → Prop} {p1 : Addr} {o1 : Obj} {l : Addr} {vs : List Value} {ns : List Int} {j : Int} {tj : Tok} (B : Below A₀ base outer h₀) (F : Fr h₀ L s.heap m) (X : (Mine.top.heap_1 w.params).In h₀) (T : Top Mine.view (looseW Mine.view []) mean mg mb h₀) (hk : cs.kind = .function) (N : News h₀ L s.heap [(p1, o1)]) (hl : base.IsList l vs.toArray) (hi : IntsAre vs ns) (hfit : ns.length < 2 ^ 62) (hd : dp + 40 < recursionLimit) (hu : un + 800 < cLine)
    (hj0 : 0 ≤ j) (hj5 : j < 5) (hret : ∀ (h' : Heap) (tk' : Nat), Fr h₀ L h' m → News h₀ L h' [(p1, o1)] → Q (.bool true) { s with heap := h', toks := tk' }) :
    wpAny (model PySem.Challenge.rw_pf0333_01.row.prog w) (ktrTop dp un gd cn cs L a ccd cl outer) (call (.ref 212) [.ref l, .int j tj]) Q E s := by
  have KK : (Mine.top.heap_1 w.params).In h₀ := X
  revert KK
  k_fill; w_on
  intro KK
  have hMk9 := kstMark
  k_with_none
  k_with "table" => skip
  w_strict ((refine wpAny_call ?_); k_dflt (walk_at "my enter"); k_steps)
  all_goals
    simp only [beq_self_eq_true]
    exact hret _ _ (by k_asm) (cb_drop (by assumption) (fun p hp => .tail _ (.tail _ (.tail _ (.tail _ hp)))))
end
local macro_rules | `(tactic| walk_at "ite") => `(tactic| (k_here; (with_reducible refine ite_pos (nb_yes ?h) ?_); (case h => exact strange_miss (by assumption))))
local macro_rules | `(tactic| walk_at "binaryOp Add str str") => `(tactic| (k_here; k_dflt (refine' PyProof.Rows.add_str ?_ ?z; (case z => first | exact strange_sz1 (by assumption) | exact strange_sz2 (by assumption) | exact strange_sz3 (by assumption))); intro t9 tk9; (try dsimp only)))
section
local macro_rules | `(tactic| walk_at "exec Raise some none") => `(tactic| (k_here; k_dflt (refine' Raise_K ?hh ?_; (case hh => first | rfl | assumption))))
local macro_rules | `(tactic| walk_at "call ref") => `(tactic| (k_here; (with_reducible show wpAny _ _ (call (Value.ref 56) [Value.str _ _]) _ _ _); k_dflt (refine' exc_ct ?B ?F ?X ?T ?K ?N ownx56 sax56 inx56 fw56 atx56 ?D ?U ?_; walk_at "my std"); intro e9 d9 t9 o9 od9 h9 tk9 F9 N9 l1 l2 l3 l4 W9; refine ⟨e9, d9, t9, 56, rfl, kx56, Frag.In.keeps (by k_in) (fun _ _ z => z), (News.get N9 (.tail _ (.tail _ (.head _)))), ?_⟩; (try dsimp only)))
local macro_rules | `(tactic| walk_at "call ref") => `(tactic| (k_here; (with_reducible show wpAny _ _ (call (Value.ref 44) [Value.str _ _]) _ _ _); k_dflt (refine' exc_ct ?B ?F ?X ?T ?K ?N ownx44 sax44 inx44 fw44 atx44 ?D ?U ?_; walk_at "my std"); intro e9 d9 t9 o9 od9 h9 tk9 F9 N9 l1 l2 l3 l4 W9; refine ⟨e9, d9, t9, 44, rfl, kx44, Frag.In.keeps (by k_in) (fun _ _ z => z), (News.get N9 (.tail _ (.tail _ (.head _)))), ?_⟩; (try dsimp only)))
local macro_rules | `(tactic| walk_at "leaving ref") => `(tactic| (k_here; (with_reducible rename KtsDicts _ _ => kdX); first
  | (refine' leave_raiseD ?k1 ?k2 ?k3 ?l1 ?l2 ?l3 ?l4 ?_; (case k1 => assumption); (case k2 => assumption); (case k3 => k_asm); (case l1 => assumption); (case l2 => assumption); (case l3 => assumption); (case l4 => assumption); k_whole; intro h' R' U'; (try dsimp only at R' U' ⊢))
  | (refine' leave_onD ?k1 ?k2 ?k3 ?k4 ?_; (case k3 => assumption); (case k2 => assumption); (case k1 => assumption); (case k4 => assumption); k_whole; intro h' R' U'; (try dsimp only at R' U' ⊢))))
local macro_rules | `(tactic| walk_at "noteFrame ref") => `(tactic| (k_here; (rename RaisedD _ _ _ _ _ _ _ _ _ _ => rsX); (k_dflt (refine' look_D ?R ?F ?K ?U ?_; (case R => assumption); (case F => assumption); (case K => assumption); (case U => assumption); k_whole); intro h' R' U'; (try dsimp only at R' U' ⊢))))
local macro_rules | `(tactic| walk_at "handleBy ref") => `(tactic| (k_here; (rename RaisedD _ _ _ _ _ _ _ _ _ _ => rsX); (with_reducible rename KtsDicts _ _ => kdX); first
  | (k_dflt (refine' pass_D ?R ?F ?K ?U ?XB ?TB ?T ?_; (case R => assumption); (case F => assumption); (case K => assumption); (case U => assumption); (case XB => assumption); (case TB => assumption); (case T => kts_test); k_whole); intro h' R' U'; (try dsimp only at R' U' ⊢))
  | (k_dflt (refine' hit_D ?R ?F ?K ?U ?XB ?TB ?D ?T0 ?T ?_; (case R => assumption); (case F => assumption); (case K => assumption); (case U => assumption); (case XB => assumption); (case TB => assumption); (case D => assumption); (case T0 => first | assumption | exact KtsTurn.refl); (case T => kts_test); k_whole); intro h' g' oe9 ws9 tk' T' oc9 od8 oz9 F' N' K' X' P' D'; (try k_lift K'); (try k_sweep))))
local macro_rules | `(tactic| walk_at "getAttr ref") => `(tactic| (k_here; (with_reducible show wpAny _ _ (getAttr (Value.ref _) (PySem.Str.ofString "why") _) _ _ _); first
  | (k_dflt (refine' why_of56 ?X ?e ?c ?d ?f ?o ?w ?_; (case X => k_in); (case c => assumption); (case d => assumption); (case f => assumption); (case w => assumption); (case e => exact News.get (by k_asm) (by k_mem)); (case o => exact News.get (by k_asm) (by k_mem))); (try dsimp only))
  | (k_dflt (refine' why_of44 ?X ?e ?c ?d ?f ?o ?w ?_; (case X => k_in); (case c => assumption); (case d => assumption); (case f => assumption); (case w => assumption); (case e => exact News.get (by k_asm) (by k_mem)); (case o => exact News.get (by k_asm) (by k_mem))); (try dsimp only))))
local macro_rules | `(tactic| walk_at "InitBack error") => `(tactic| (dsimp only [InitBack]))
local macro_rules | `(tactic| walk_at "my enterS") => `(tactic| (refine' code_defS ?k1 ?k2 ?k3 ?k4 ?k5 ?XB ?TB ?D ?T0 ?kA ?k6 ?k7 ?k8 ?k9 ?kB ?_ ?cK ?c2 ?c3 ?c4 ?c5; (case kA => exact rfl); (case k2 => k_asm); (case k1 => k_asm); (case XB => assumption); (case TB => assumption); (case D => assumption); (case T0 => first | assumption | exact KtsTurn.refl); (case k3 => k_asm); (case k4 => k_asm); (case k5 => k_asm); (case k6 => k_is); (case k7 => k_is); (case k8 => ktr_room); (case k9 => first | exact binds_K (by k_in) rfl (by k_is) rfl rfl rfl | exact BindsTo.of_eq rfl); (case kB => exact locs rfl); (case cK => assumption); (case c2 => exact rfl); (case c3 => exact rfl); (case c4 => exact rfl); (case c5 => decide); k_whole; intro g' L' h' FG' F' N' B' X' T' D'; (try dsimp only); (try k_lift B'); (try k_fold)))
set_option maxRecDepth 100000 in
set_option maxHeartbeats 4000000 in
theorem refa_ct {w : World} {mean : ExcName → Option Value} {mg mb : Str → Option Value} {dp un : Nat} {gd : Option (List Code)} {cn : Str} {cs : Scope} {a : Addr} {ccd : Value} {outer : List Env} {A₀ : Around} {base h₀ g₀ : Heap} {L : Addr} {m : Str → Option Value} {s : Shared} {Q E : Value → Shared → Prop} {news : List (Addr × Obj)} {D : Addr} {over oct : Bool} {one two : Int} {u : Str} {t1 t2 t3 t4 : Tok}
    (B : Below A₀ base outer h₀) (F : Fr h₀ L s.heap m) (X : (Mine.top.heap_1 w.params).In h₀) (T : Top Mine.view (looseW Mine.view []) mean mg mb h₀) (hk : cs.kind = .function) (XB : (Mine.top.heap_1 w.params).In base) (TB : Top Mine.view (looseW Mine.view []) mean mg mb base) (DD : KtsDicts (outer.filterMap (·.frame)) h₀) (T0 : KtsTurn (outer.filterMap (·.frame)) g₀ h₀)
    (N : News h₀ L s.heap ((D, ({ cls := .type "tuple", data := .seq #[.str (Str.ofString "limit") t1, .bool over, .int one t2, .str u t3, .int two t4, .bool oct] } : Obj)) :: news)) (hd : dp + 100 < recursionLimit) (hu : un + 800 < cLine)
    (h0 : one = 0)
    (hret : ∀ (g' : Heap) (t : Tok) (h' : Heap) (tk' : Nat), KtsTurn (outer.filterMap (·.frame)) g₀ g' → Fr g' L h' m → News g' L h' ((D, ({ cls := .type "tuple", data := .seq #[.str (Str.ofString "limit") t1, .bool over, .int one t2, .str u t3, .int two t4, .bool oct] } : Obj)) :: news) → Below A₀ base outer g' → (Mine.top.heap_1 w.params).In g' → Top Mine.view (looseW Mine.view []) mean mg mb g' → KtsDicts (outer.filterMap (·.frame)) g' → Q (.str (Str.ofString "rule: limit rate must be positive") t) { s with heap := h', toks := tk' }) :
    wpAny (model PySem.Challenge.rw_pf0333_01.row.prog w) (ktrTop dp un gd cn cs L a ccd [] outer) (call (.ref 219) [.ref D]) Q E s := by
  subst h0
  have KK : (Mine.top.heap_1 w.params).In h₀ := X
  revert KK
  k_fill; w_on
  intro KK
  k_with_none
  w_strict ((refine wpAny_call ?_); k_dflt (walk_at "my enterS"); k_steps)
  all_goals
    refine str_at (y := Str.ofString "rule: limit rate must be positive") (by decide +kernel) ?_
    refine' hret _ _ _ _ ?k1 ?k2 ?k3 ?k4 ?k5 ?k6 ?k7
    case k2 => assumption
    case k1 => assumption
    case k3 => exact news_d2 (by assumption)
    case k4 => assumption
    case k5 => assumption
    case k6 => assumption
    case k7 => assumption
set_option maxRecDepth 100000 in
set_option maxHeartbeats 4000000 in
theorem refb_ct {w : World} {mean : ExcName → Option Value} {mg mb : Str → Option Value} {dp un : Nat} {gd : Option (List Code)} {cn : Str} {cs : Scope} {a : Addr} {ccd : Value} {outer : List Env} {A₀ : Around} {base h₀ g₀ : Heap} {L : Addr} {m : Str → Option Value} {s : Shared} {Q E : Value → Shared → Prop} {news : List (Addr × Obj)} {D : Addr} {over oct : Bool} {one two : Int} {u : Str} {t1 t2 t3 t4 : Tok}
    (B : Below A₀ base outer h₀) (F : Fr h₀ L s.heap m) (X : (Mine.top.heap_1 w.params).In h₀) (T : Top Mine.view (looseW Mine.view []) mean mg mb h₀) (hk : cs.kind = .function) (XB : (Mine.top.heap_1 w.params).In base) (TB : Top Mine.view (looseW Mine.view []) mean mg mb base) (DD : KtsDicts (outer.filterMap (·.frame)) h₀) (T0 : KtsTurn (outer.filterMap (·.frame)) g₀ h₀)
    (N : News h₀ L s.heap ((D, ({ cls := .type "tuple", data := .seq #[.str (Str.ofString "limit") t1, .bool over, .int one t2, .str u t3, .int two t4, .bool oct] } : Obj)) :: news)) (hd : dp + 100 < recursionLimit) (hu : un + 800 < cLine)
    (h0 : 1 ≤ one) (h1 : two = 0) (h2 : oct = false)
    (hret : ∀ (g' : Heap) (t : Tok) (h' : Heap) (tk' : Nat), KtsTurn (outer.filterMap (·.frame)) g₀ g' → Fr g' L h' m → News g' L h' ((D, ({ cls := .type "tuple", data := .seq #[.str (Str.ofString "limit") t1, .bool over, .int one t2, .str u t3, .int two t4, .bool oct] } : Obj)) :: news) → Below A₀ base outer g' → (Mine.top.heap_1 w.params).In g' → Top Mine.view (looseW Mine.view []) mean mg mb g' → KtsDicts (outer.filterMap (·.frame)) g' → Q (.str (Str.ofString "rule: limit burst must be positive") t) { s with heap := h', toks := tk' }) :
    wpAny (model PySem.Challenge.rw_pf0333_01.row.prog w) (ktrTop dp un gd cn cs L a ccd [] outer) (call (.ref 219) [.ref D]) Q E s := by
  subst h1 h2
  have KK : (Mine.top.heap_1 w.params).In h₀ := X
  revert KK
  k_fill; w_on
  intro KK
  k_with_none
  w_strict ((refine wpAny_call ?_); k_dflt (walk_at "my enterS"); k_steps)
  all_goals
    refine str_at (y := Str.ofString "rule: limit burst must be positive") (by decide +kernel) ?_
    refine' hret _ _ _ _ ?k1 ?k2 ?k3 ?k4 ?k5 ?k6 ?k7
    case k2 => assumption
    case k1 => assumption
    case k3 => exact news_d2 (by assumption)
    case k4 => assumption
    case k5 => assumption
    case k6 => assumption
    case k7 => assumption
set_option maxRecDepth 100000 in
set_option maxHeartbeats 4000000 in
theorem refd_ct {w : World} {mean : ExcName → Option Value} {mg mb : Str → Option Value} {dp un : Nat} {gd : Option (List Code)} {cn : Str} {cs : Scope} {a : Addr} {ccd : Value} {outer : List Env} {A₀ : Around} {base h₀ g₀ : Heap} {L : Addr} {m : Str → Option Value} {s : Shared} {Q E : Value → Shared → Prop} {news : List (Addr × Obj)} {D : Addr} {over oct : Bool} {one two : Int} {u : Str} {t1 t2 t3 t4 : Tok}
    (B : Below A₀ base outer h₀) (F : Fr h₀ L s.heap m) (X : (Mine.top.heap_1 w.params).In h₀) (T : Top Mine.view (looseW Mine.view []) mean mg mb h₀) (hk : cs.kind = .function) (XB : (Mine.top.heap_1 w.params).In base) (TB : Top Mine.view (looseW Mine.view []) mean mg mb base) (DD : KtsDicts (outer.filterMap (·.frame)) h₀) (T0 : KtsTurn (outer.filterMap (·.frame)) g₀ h₀)
    (N : News h₀ L s.heap ((D, ({ cls := .type "tuple", data := .seq #[.str (Str.ofString "limit") t1, .bool over, .int one t2, .str u t3, .int two t4, .bool oct] } : Obj)) :: news)) (hd : dp + 100 < recursionLimit) (hu : un + 800 < cLine)
    (h0 : 1 ≤ one) (h1 : one ≤ 10000000) (h2 : 0 ≤ two) (h3 : two ≤ 10000000) (h4 : oct = false → 1 ≤ two) (h5 : isStrange u)
    (hret : ∀ (g' : Heap) (t : Tok) (h' : Heap) (tk' : Nat), KtsTurn (outer.filterMap (·.frame)) g₀ g' → Fr g' L h' m → News g' L h' ((D, ({ cls := .type "tuple", data := .seq #[.str (Str.ofString "limit") t1, .bool over, .int one t2, .str u t3, .int two t4, .bool oct] } : Obj)) :: news) → Below A₀ base outer g' → (Mine.top.heap_1 w.params).In g' → Top Mine.view (looseW Mine.view []) mean mg mb g' → KtsDicts (outer.filterMap (·.frame)) g' → Q (.str (Str.ofString "call: no unit of a limit: " ++ u) t) { s with heap := h', toks := tk' }) :
    wpAny (model PySem.Challenge.rw_pf0333_01.row.prog w) (ktrTop dp un gd cn cs L a ccd [] outer) (call (.ref 219) [.ref D]) Q E s := by
  have KK : (Mine.top.heap_1 w.params).In h₀ := X
  revert KK
  k_fill; w_on
  intro KK
  k_with_none
  have bm9 : BMark := .mk
  w_strict ((refine wpAny_call ?_); k_dflt (walk_at "my enterS"); k_steps)
  all_goals
    refine str_at (strange_eq (by assumption)) ?_
    refine' hret _ _ _ _ ?k1 ?k2 ?k3 ?k4 ?k5 ?k6 ?k7
    case k2 => assumption
    case k1 => assumption
    case k3 => exact cb_drop (by assumption) (fun p hp => .tail _ (.tail _ (.tail _ (.tail _ (.tail _ hp)))))
    case k4 => assumption
    case k5 => assumption
    case k6 => assumption
    case k7 => assumption
set_option maxRecDepth 100000 in
set_option maxHeartbeats 4000000 in
theorem refc_ct {w : World} {mean : ExcName → Option Value} {mg mb : Str → Option Value} {dp un : Nat} {gd : Option (List Code)} {cn : Str} {cs : Scope} {a : Addr} {ccd : Value} {outer : List Env} {A₀ : Around} {base h₀ g₀ : Heap} {L : Addr} {m : Str → Option Value} {s : Shared} {Q E : Value → Shared → Prop} {news : List (Addr × Obj)} {D : Addr} {over oct : Bool} {one two : Int} {u : Str} {t1 t2 t3 t4 : Tok}
    (B : Below A₀ base outer h₀) (F : Fr h₀ L s.heap m) (X : (Mine.top.heap_1 w.params).In h₀) (T : Top Mine.view (looseW Mine.view []) mean mg mb h₀) (hk : cs.kind = .function) (XB : (Mine.top.heap_1 w.params).In base) (TB : Top Mine.view (looseW Mine.view []) mean mg mb base) (DD : KtsDicts (outer.filterMap (·.frame)) h₀) (T0 : KtsTurn (outer.filterMap (·.frame)) g₀ h₀)
    (N : News h₀ L s.heap ((D, ({ cls := .type "tuple", data := .seq #[.str (Str.ofString "limit") t1, .bool over, .int one t2, .str u t3, .int two t4, .bool oct] } : Obj)) :: news)) (hd : dp + 100 < recursionLimit) (hu : un + 800 < cLine)
    (h0 : 1 ≤ one) (h1 : one ≤ 10000000) (h2 : 0 ≤ two) (h3 : two ≤ 10000000) (h4 : oct = false → 1 ≤ two) (h5 : isUnit u)
    (hret : ∀ (g' : Heap) (t : Tok) (h' : Heap) (tk' : Nat), KtsTurn (outer.filterMap (·.frame)) g₀ g' → Fr g' L h' m → News g' L h' ((D, ({ cls := .type "tuple", data := .seq #[.str (Str.ofString "limit") t1, .bool over, .int one t2, .str u t3, .int two t4, .bool oct] } : Obj)) :: news) → Below A₀ base outer g' → (Mine.top.heap_1 w.params).In g' → Top Mine.view (looseW Mine.view []) mean mg mb g' → KtsDicts (outer.filterMap (·.frame)) g' → Q (.str (Str.ofString "") t) { s with heap := h', toks := tk' }) :
    wpAny (model PySem.Challenge.rw_pf0333_01.row.prog w) (ktrTop dp un gd cn cs L a ccd [] outer) (call (.ref 219) [.ref D]) Q E s := by
  have KK : (Mine.top.heap_1 w.params).In h₀ := X
  revert KK
  k_fill; w_on
  intro KK
  k_with_none
  obtain ⟨sc, hsc, hs1, hs2⟩ := sec_rng h5
  w_strict ((refine wpAny_call ?_); k_dflt (walk_at "my enterS"); k_steps)
  all_goals
    refine' hret _ _ _ _ ?k1 ?k2 ?k3 ?k4 ?k5 ?k6 ?k7
    case k2 => assumption
    case k1 => assumption
    case k3 => exact cb_drop (by assumption) (fun p hp => .tail _ (.tail _ hp))
    case k4 => assumption
    case k5 => assumption
    case k6 => assumption
    case k7 => assumption
end
section
local macro_rules | `(tactic| walk_at "subscriptTail List cons BinOp ref int") => `(tactic| (k_here; k_dflt (refine' item_strange ?k1 ?k2 ?k3 ?_ ?k6; (case k1 => is_list); (case k2 => exact Int.fmod_nonneg_of_pos _ (by decide)); (case k3 => exact Int.fmod_lt_of_pos _ (by decide)); (case k6 => with_unfolding_all rfl)); intro xU tU hU; (try dsimp only)))
local macro_rules | `(tactic| walk_at "exec For Name Call cons nil") => `(tactic| (k_here; k_dflt (refine' For_T ?_ ?hs; (case hs => (intro _; rfl)))))
local macro_rules | `(tactic| walk_at "my enterS0") => `(tactic| (refine' code_defS0 ?k1 ?k2 ?k3 ?k4 ?k5 ?kA ?k6 ?k7 ?k8 ?k9 ?kB ?_ ?cK ?c2 ?c3 ?c4 ?c5; (case kA => exact rfl); (case k2 => k_asm); (case k1 => k_asm); (case k3 => k_asm); (case k4 => k_asm); (case k5 => k_asm); (case k6 => k_is); (case k7 => k_is); (case k8 => ktr_room); (case k9 => first | exact binds_K (by k_in) rfl (by k_is) rfl rfl rfl | exact BindsTo.of_eq rfl); (case kB => exact locs rfl); (case cK => assumption); (case c2 => exact rfl); (case c3 => exact rfl); (case c4 => exact rfl); (case c5 => decide); k_whole; intro g' L' h' FG' F' N' B' X' T' D'; (try dsimp only); (try k_lift B'); (try k_fold)))
local macro_rules | `(tactic| walk_at "call ref") => `(tactic| (k_here; (with_reducible show wpAny _ _ (call (Value.ref 219) _) _ _ _); k_dflt (first
  | (refine' refa_ct ?B ?F ?X ?T ?K ?XB ?TB ?DD ?T0 ?N ?D ?U ?h0 ?_; (case N => k_asm); (case h0 => omega); (case B => k_asm); (case F => k_asm); (case X => k_asm); (case T => k_asm); (case K => first | exact rfl | assumption); (case XB => assumption); (case TB => assumption); (case DD => assumption); (case T0 => first | assumption | exact KtsTurn.refl); (case D => ktr_room); (case U => ktr_units))
  | (refine' refb_ct ?B ?F ?X ?T ?K ?XB ?TB ?DD ?T0 ?N ?D ?U ?h0 ?h1 ?h2 ?_; (case N => k_asm); (case h0 => omega); (case h1 => omega); (case h2 => first | assumption | decide); (case B => k_asm); (case F => k_asm); (case X => k_asm); (case T => k_asm); (case K => first | exact rfl | assumption); (case XB => assumption); (case TB => assumption); (case DD => assumption); (case T0 => first | assumption | exact KtsTurn.refl); (case D => ktr_room); (case U => ktr_units))
  | (refine' refc_ct ?B ?F ?X ?T ?K ?XB ?TB ?DD ?T0 ?N ?D ?U ?h0 ?h1 ?h2 ?h3 ?h4 ?h5 ?_; (case N => k_asm); (case h0 => omega); (case h1 => omega); (case h2 => omega); (case h3 => omega); (case h4 => (intro zz; first | omega | exact oct_clash (by assumption) zz)); (case h5 => exact .inr (.inl rfl)); (case B => k_asm); (case F => k_asm); (case X => k_asm); (case T => k_asm); (case K => first | exact rfl | assumption); (case XB => assumption); (case TB => assumption); (case DD => assumption); (case T0 => first | assumption | exact KtsTurn.refl); (case D => ktr_room); (case U => ktr_units))
  | (refine' refd_ct ?B ?F ?X ?T ?K ?XB ?TB ?DD ?T0 ?N ?D ?U ?h0 ?h1 ?h2 ?h3 ?h4 ?h5 ?_; (case N => k_asm); (case h0 => omega); (case h1 => omega); (case h2 => omega); (case h3 => omega); (case h4 => (intro zz; first | omega | exact oct_clash (by assumption) zz)); (case h5 => assumption); (case B => k_asm); (case F => k_asm); (case X => k_asm); (case T => k_asm); (case K => first | exact rfl | assumption); (case XB => assumption); (case TB => assumption); (case DD => assumption); (case T0 => first | assumption | exact KtsTurn.refl); (case D => ktr_room); (case U => ktr_units))); intro g' t9 h' tk9 T' F' N' B' X' P' D'; (try dsimp only); (try k_lift B'); (try k_fold)))
local macro_rules | `(tactic| walk_at "binaryOp Mult int int") => `(tactic| (k_here; k_dflt (refine' mul_gen ?a ?b ?_; (case a => omega); (case b => omega)); intro v9 tv tk p9 q9; (try dsimp only)))
local macro_rules | `(tactic| walk_at "compareOp Eq int int") => `(tactic| (k_here; (with_reducible show wpAny _ _ (compareOp _ (Value.int _ _) (Value.int 1 _)) _ _ _); (refine eq_gen ?_); intro oc; (try dsimp only)))
local macro_rules | `(tactic| walk_at "ite") => `(tactic| (k_here; (with_reducible refine ite_neg bne_no ?_)))
set_option maxRecDepth 100000 in
set_option maxHeartbeats 4000000 in
theorem rh_ct {w : World} {mean : ExcName → Option Value} {mg mb : Str → Option Value} {dp un : Nat} {gd : Option (List Code)} {cn : Str} {cs : Scope} {a : Addr} {ccd : Value} {A₀ : Around} {base h₀ : Heap} {L : Addr} {m : Str → Option Value} {s : Shared} {Q E : Value → Shared → Prop} {news : List (Addr × Obj)} {l : Addr} {vs : List Value} {ns : List Int}
    (B : Below A₀ base [] h₀) (F : Fr h₀ L s.heap m) (X : (Mine.top.heap_1 w.params).In h₀) (T : Top Mine.view (looseW Mine.view []) mean mg mb h₀) (hk : cs.kind = .function) (XB : (Mine.top.heap_1 w.params).In base) (TB : Top Mine.view (looseW Mine.view []) mean mg mb base)
    (N : News h₀ L s.heap news) (hl : base.IsList l vs.toArray) (hi : IntsAre vs ns) (hfit : ns.length < 2 ^ 62) (hd : dp + 200 < recursionLimit) (hu : un + 1200 < cLine)
    (hret : ∀ (h' : Heap) (tk' : Nat), Fr h₀ L h' m → News h₀ L h' news → Q (.bool true) { s with heap := h', toks := tk' }) :
    wpAny (model PySem.Challenge.rw_pf0333_01.row.prog w) (ktrTop dp un gd cn cs L a ccd [] []) (call (.ref 226) [.ref l]) Q E s := by
  have KK : (Mine.top.heap_1 w.params).In h₀ := X
  revert KK
  k_fill; w_on
  intro KK
  have hMk9 := kstMark
  k_with_none
  k_with "table" => skip
  w_strict ((refine wpAny_call ?_); k_dflt (walk_at "my enterS0"); k_steps)
  (rename Fr _ _ _ _ => lF); (rename News _ _ _ _ => lN); (rename IsRange _ _ _ _ _ _ _ _ => rgX); (rename KtsDicts _ _ => dX)
  k_dflt (refine' iter_G (n := 16) (ps := [(Str.ofString "rate", .int _ _), (Str.ofString "burst", .int _ _), (Str.ofString "strange", .str _ _)]) ?hh ?hx ?hp ?hL rgX ?sm ?rs ?gB ?gX ?gP dX lF lN ?hps ?turn ?done)
  case hh => exact rfl
  case hx => exact rfl
  case hp => exact rfl
  case hL => exact rfl
  case sm => decide
  case rs => exact rfl
  case gB => assumption
  case gX => assumption
  case gP => assumption
  case hps => kst_all
  case done =>
    intro g' m' h tk T' B' X' P' D' F' N'
    clear rgX lF lN
    (try k_fold)
    w_strict (k_steps)
    all_goals exact hret _ _ (by k_asm) (cb_drop (by assumption) (fun p hp => .tail _ hp))
  case turn =>
    intro k g' m' I it t h tk hk0 hk1 T' B' X' P' D' F' N'
    clear rgX lF lN
    have r1 : 1 ≤ (cellAt ns 55 0).fmod 1048576 + 1 := fm1 (by decide)
    have r2 : (cellAt ns 55 0).fmod 1048576 + 1 ≤ 10000000 := fm2 (by decide) (by decide)
    have r3 : 1 ≤ (cellAt ns 56 0).fmod 1048576 + 1 := fm1 (by decide)
    have r4 : (cellAt ns 56 0).fmod 1048576 + 1 ≤ 10000000 := fm2 (by decide) (by decide)
    (try k_fold)
    w_strict (k_steps)
    all_goals
      dsimp only [TurnPost]
      refine' ⟨_, _, _, _, rfl, ⟨?t1, ?t2, ?t3, ?t4, ?t5⟩, ?tp, ?tF, ?tN⟩
      case tF => assumption
      case tN => exact cb_drop (by assumption) (fun p hp => .tail _ hp)
      case tp => kst_all
      case t1 => assumption
      case t2 => assumption
      case t3 => assumption
      case t4 => assumption
      case t5 => assumption
end
local macro_rules | `(tactic| walk_at "call ref") => `(tactic| (k_here; (with_reducible show wpAny _ _ (call (Value.ref 212) _) _ _ _); k_dflt (refine' limit_ct ?B ?F ?X ?T ?K ?N ?l ?i ?f ?D ?U ?j0 ?j5 ?_; (case N => k_asm); (case l => k_asm); (case i => l_ints); (case f => l_fit); (case j0 => omega); (case j5 => omega); (case B => k_asm); (case F => k_asm); (case X => k_asm); (case T => k_asm); (case K => first | exact rfl | assumption); (case D => first | decide | ktr_room); (case U => first | decide | ktr_units)); intro h9 tk9 F9 N9; (try dsimp only); (try k_fold)))
local macro_rules | `(tactic| walk_at "call ref") => `(tactic| (k_here; (with_reducible show wpAny _ _ (call (Value.ref 226) _) _ _ _); k_dflt (refine' rh_ct ?B ?F ?X ?T ?K ?XB ?TB ?N ?l ?i ?f ?D ?U ?_; (case N => k_asm); (case l => k_asm); (case i => l_ints); (case f => l_fit); (case B => k_asm); (case F => k_asm); (case X => k_asm); (case T => k_asm); (case K => first | exact rfl | assumption); (case XB => assumption); (case TB => assumption); (case D => first | decide | ktr_room); (case U => first | decide | ktr_units)); intro h9 tk9 F9 N9; (try dsimp only); (try k_fold)))
-- held names: the head's tool lays a twin of each constant that it meets; those of the program's text and of this file's own large constants are not wanted (their congruence proofs are megabytes long)
theorem walk0.tw15410444428961731664 : True := trivial
set_option Elab.async true in
set_option maxRecDepth 100000 in
set_option maxHeartbeats 4000000 in
theorem walk0 : WalkO view [] (XL view []) (kHook top.heap_1 asL asL_ok).says PySem.Challenge.rw_pf0333_01.row.toRowW lawRec [] (fun f vs => PySem.call f vs) := by
  delta lawRec
  unfold pickD
  w_on
  k_with_none
  w_strict k_go
end
theorem hd0.tw10579608694717809339 : True := trivial
theorem hd0.tw11389604556438737324 : True := trivial
theorem hd0.tw5843968662550315218 : True := trivial
theorem hd0.tw5592874710671989167 : True := trivial
theorem hd0.tw16425967233982922522 : True := trivial
theorem hd0.tw12310823315211084269 : True := trivial
theorem hd0.tw13142919218925218997 : True := trivial
theorem hd0.tw539940733940218950 : True := trivial
theorem hd0.tw14139502865228493775 : True := trivial
theorem hd0.tw7325809043933789844 : True := trivial
theorem hd0.tw7774644598392288009 : True := trivial
theorem hd0.tw1817164187568313849 : True := trivial
theorem hd0.tw5795620790108031851 : True := trivial
theorem hd0.tw1500556042865797202 : True := trivial
theorem hd0.tw5770661581888061647 : True := trivial
theorem hd0.tw15549164469732841750 : True := trivial
theorem hd0.tw8239782323564299538 : True := trivial
theorem hd0.tw14374781486684776228 : True := trivial
theorem hd0.tw4509526690794525690 : True := trivial
theorem hd0.tw11856145978303915523 : True := trivial
theorem hd0.tw10950015098503667 : True := trivial
theorem hd0.tw15248397019474160181 : True := trivial
theorem hd0.tw5364393782896679965 : True := trivial
theorem hd0.tw13333579491729134397 : True := trivial
theorem hd0.tw2735401655943086511 : True := trivial
theorem hd0.tw11249123509674406191 : True := trivial
theorem hd0.tw1825929278167054478 : True := trivial
theorem hd0.tw18134629352650391119 : True := trivial
theorem hd0.tw4964845553990846222 : True := trivial
theorem hd0.tw16427158468746511654 : True := trivial
theorem hd0.tw3361144743427637995 : True := trivial
theorem hd0.tw3198289665323921157 : True := trivial
theorem hd0.tw13568120283695954765 : True := trivial
theorem hd0.tw7579484373256523769 : True := trivial
theorem hd0.tw11296317026604976579 : True := trivial
theorem hd0.tw5487660210450000937 : True := trivial
theorem hd0.tw224087588433861989 : True := trivial
theorem hd0.tw10834066803405267298 : True := trivial
theorem hd0.tw2080979622161356455 : True := trivial
section
local macro_rules | `(tactic| k_head) => `(tactic| o_head (kHook top.heap_1 asL asL_ok))
set_option Elab.async true in
set_option maxRecDepth 100000 in
set_option maxHeartbeats 8000000 in
theorem hd0 : PySem.Challenge.rw_pf0333_01.Holds := by
  w_on
  o_law
  k_head
  (case hw => w_witness2)
  exact walk0
end
end Mine
theorem PySem.Challenge.cw_pf0333_01_holds : PySem.Challenge.rw_pf0333_01.Holds := by
  exact Mine.hd0
