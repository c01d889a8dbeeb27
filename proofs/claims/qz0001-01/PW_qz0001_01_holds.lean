import PyProof.Rows.All
import Wide.All
import OpenK.AllK
import Wide.FinOn
import PySem.Challenge.RW_qz0001_01
open PySem PySem.W PySem.Spec PySem.Calls PyProof.Rows
set_option Elab.async false
set_option compiler.extract_closed false
/- part TopM -/
namespace Mine
/-- the program less three of its statements -/
def hd.view_39 : Program := { PySem.Challenge.pw_qz0001_01 with main := { PySem.Challenge.pw_qz0001_01.main with body := [0, 2, 3, 5, 6, 7, 8, 9, 10, 11, 12, 13, 14, 15, 16, 17, 19, 20, 21, 22, 23, 24, 25, 26, 27, 28, 29].filterMap fun i => PySem.Challenge.pw_qz0001_01.main.body[i]? } }
abbrev lv : List (Str × WData) := [(Str.ofString "SIMPLE", .str (Str.ofString "abcdefghijklmnopqrstuvwxyzABCDEFGHIJKLMNOPQRSTUVWXYZ0123456789~!@$%^&*_-+=<>.?/"))]
section
set_option hygiene false in
local macro_rules | `(tactic| o_head $H) => `(tactic| (
  refine holds_open (q := hd.view_39) (loose := [Str.ofString "SIMPLE"]) (Xt := fun s => xlAt hd.view_39 lv s && recOk (RowW.records (OpenRow.toRowW PySem.Challenge.rw_qz0001_01.row)) s) (XP := XL hd.view_39 lv) (Yf := Hook.obs $H) (Ya := Hook.val $H) (YP := Hook.says $H) (N := 2660) ?hl (Hook.of $H) (Hook.keeps $H) (fun s e => xl_of s (Bool.and_eq_true_iff.mp e).1) XL.keeps (by rfl) (by rfl) (by rfl) (fun s e => recFacts_of (Bool.and_eq_true_iff.mp e).2) (by rfl) (by first | assumption | decide +kernel) (by decide +kernel) ⟨rfl, rfl, rfl, rfl, rfl, by decide +kernel⟩ ?hw ?hc
  case hl => (intro w; (have hq : (PySem.Challenge.pw_qz0001_01.main.body.length == 30) = true := by k_qdec); (have hpr : PySem.Challenge.rw_qz0001_01.row.prog = PySem.Challenge.pw_qz0001_01 := by rfl); delta openEnds fencedOpening topFrom; delta hd.view_39; (first | rw [hpr] | trace "NO hpr"); (show Option.map _ (Option.bind (Option.bind (importEnds treeTable (opening PySem.Challenge.pw_qz0001_01) w 2660 (start (opening PySem.Challenge.pw_qz0001_01)).1 (start (opening PySem.Challenge.pw_qz0001_01)).2) (fenceModules? PySem.Challenge.pw_qz0001_01)) _) = _); (first | rw [PySem.W.Fast.te14082659384304107361] | trace "NO te14082659384304107361"); (first | rw [PySem.W.Fast.te10274390034422433532] | trace "NO te10274390034422433532"); (first | rw [PySem.W.Fast.te4187177175401517315] | trace "NO te4187177175401517315"); (first | rw [PySem.W.Fast.te14364793385576792824] | trace "NO te14364793385576792824"); (first | rw [PySem.W.Fast.te1435165496053646825] | trace "NO te1435165496053646825"); (first | rw [PySem.W.Fast.te8808289918594750285] | trace "NO te8808"); kernel_rfl)))
set_option maxRecDepth 100000 in
set_option maxHeartbeats 8000000 in
open_top hd for PySem.Challenge.rw_qz0001_01
end
end Mine
/- part F0m -/
namespace Mine
open PySem.Builtin.Str
theorem fold3 {α : Type} {M : Model} {A : Around} {t : Sem α} {Q : α → Shared → Prop} {E : Value → Shared → Prop} {s : Shared} {h₀ h : Heap} {L : Addr} {m : Str → Option Value} {led : List (Addr × Obj)} (F : Fr h₀ L h m) (N : News h₀ L h led) (k : let s' := s; let m' := m; let l' := led; Fr h₀ L h m' → News h₀ L h l' → wpAny M A t Q E s') : wpAny M A t Q E s := k F N
theorem fold_env {M : Model} {A : Around} {b : List Stmt} {v : Env} {Q : Flow → Shared → Prop} {E : Value → Shared → Prop} {s : Shared} (k : let A' := A; let v' := v; wpAny M A' (execs b v') Q E s) : wpAny M A (execs b v) Q E s := k
end Mine
local macro_rules | `(tactic| k_lt $h:ident) => `(tactic| (replace $h := PySem.W.allLt_of $h; simp (config := {zetaDelta := true}) only [PySem.W.AllLt, and_true] at $h:ident))
local macro_rules | `(tactic| omega) => `(tactic| lia)
local macro_rules | `(tactic| walk_at $s:str) => `(tactic| k_extra $s)
local macro_rules | `(tactic| k_all) => `(tactic| k_extra "k_all")
local macro_rules | `(tactic| lcg_src) => `(tactic| k_extra "lcg_src")
/- part ZBase0 -/
namespace Mine
/-- a def's contract: what a call of it, from any frame, hands back, and the ledger behind it -/
def Spec (w : World) (f : Addr) (cost : Nat) (vs : List Value) (news : List (Addr × Obj)) (Post : List (Addr × Obj) → Value → Prop) : Prop :=
  ∀ (loose : List Str) (mean : ExcName → Option Value) (mg mb : Str → Option Value) (dp un : Nat) (gd : Option (List Code)) (cn : Str) (cs : Scope) (a : Addr) (ccd : Value) (cl : List (Str × Addr)) (outer : List Env) (A₀ : Around) (base h₀ : Heap) (L : Addr) (m : Str → Option Value) (s : Shared) (Q E : Value → Shared → Prop),
    Below A₀ base outer h₀ → Fr h₀ L s.heap m → (hd.heap_39 w.params).In h₀ → News h₀ L s.heap news → Top hd.view_39 loose mean mg mb h₀ → cs.kind = .function → dp + cost < recursionLimit → un + 8 * cost < cLine →
    (∀ r news' h' tk', Fr h₀ L h' m → News h₀ L h' news' → Post news' r → Q r { s with heap := h', toks := tk' }) →
    wpAny (model PySem.Challenge.rw_qz0001_01.row.prog w) (ktrTop dp un gd cn cs L a ccd cl outer) (call (.ref f) vs) Q E s

theorem Spec.mono {w : World} {f : Addr} {cost : Nat} {vs : List Value} {news : List (Addr × Obj)} {P P' : List (Addr × Obj) → Value → Prop} (h : Spec w f cost vs news P) (k : ∀ n r, P n r → P' n r) : Spec w f cost vs news P' :=
  fun loose mean mg mb dp un gd cn cs a ccd cl outer A₀ base h₀ L m s Q E B F X N T hk hdp hun hret =>
    h loose mean mg mb dp un gd cn cs a ccd cl outer A₀ base h₀ L m s Q E B F X N T hk hdp hun (fun r news' h' tk' F' N' hp => hret r news' h' tk' F' N' (k _ _ hp))

abbrev strK (w : World) := PySem.strKind PySem.Challenge.rw_qz0001_01.row.prog w
def IsTank (w : World) (o : Obj) (c : Addr) (at0 : Int) : Prop :=
  ∃ t1 t2 t3, Obj.IsDictOf (PySem.strKind PySem.Challenge.rw_qz0001_01.row.prog w) o (strPairs [(.str (Str.ofString "cells") t1, .ref c), (.str (Str.ofString "at") t2, .int at0 t3)])

def Above (new news : List (Addr × Obj)) : Prop := ∀ p ∈ new, ∀ q ∈ news, q.1 < p.1

def RES : List Str := [Str.ofString "!", Str.ofString "_", Str.ofString "as", Str.ofString "BINARY", Str.ofString "DECIMAL", Str.ofString "exists", Str.ofString "forall", Str.ofString "HEXADECIMAL", Str.ofString "let", Str.ofString "match", Str.ofString "NUMERAL", Str.ofString "par", Str.ofString "STRING"]
def simpleS : Str := Str.ofString "abcdefghijklmnopqrstuvwxyzABCDEFGHIJKLMNOPQRSTUVWXYZ0123456789~!@$%^&*_-+=<>.?/"
def digitS : Str := Str.ofString "0123456789"
def hasSub (S x : Str) : Bool := !(Builtin.Str.occurrences S x 0 S.length 1).isEmpty
def isSimple (x : Str) : Bool :=
  !(x == Str.ofString "") && !(RES.any fun y => y == x) && !(hasSub digitS (Txt.item x 0)) && (KStt.codes x).all fun v => hasSub simpleS ⟨#[v.toNat]⟩
def symText (x : Str) : Str := if (RES.any fun y => y == x) || isSimple x then x else Str.ofString "|" ++ x ++ Str.ofString "|"
def strText (x : Str) : Str := Str.ofString "\"" ++ Txt.replace x (Str.ofString "\"") (Str.ofString "\"\"") ++ Str.ofString "\""
def numText (v : Int) : Str := if v < 0 then Str.ofString "(- " ++ Str.ofString (toString (-v)) ++ Str.ofString ")" else Str.ofString (toString v)

theorem Spec.use {w : World} {f : Addr} {cost : Nat} {vs : List Value} {news : List (Addr × Obj)} {P : List (Addr × Obj) → Value → Prop} (h : Spec w f cost vs news P)
    {loose : List Str} {mean : ExcName → Option Value} {mg mb : Str → Option Value} {dp un : Nat} {gd : Option (List Code)} {cn : Str} {cs : Scope} {a : Addr} {ccd : Value} {cl : List (Str × Addr)} {outer : List Env} {A₀ : Around} {base h₀ : Heap} {L : Addr} {m : Str → Option Value} {s : Shared} {Q E : Value → Shared → Prop}
    (B : Below A₀ base outer h₀) (F : Fr h₀ L s.heap m) (X : (hd.heap_39 w.params).In h₀) (N : News h₀ L s.heap news) (T : Top hd.view_39 loose mean mg mb h₀) (hk : cs.kind = .function) (hdp : dp + cost < recursionLimit) (hun : un + 8 * cost < cLine)
    (ret : ∀ r news' h' tk', Fr h₀ L h' m → News h₀ L h' news' → P news' r → Q r { s with heap := h', toks := tk' }) :
    wpAny (model PySem.Challenge.rw_qz0001_01.row.prog w) (ktrTop dp un gd cn cs L a ccd cl outer) (call (.ref f) vs) Q E s :=
  h _ _ _ _ _ _ _ _ _ _ _ _ _ _ _ _ _ _ _ _ _ B F X N T hk hdp hun ret

theorem Spec.use' {w : World} {f : Addr} {cost : Nat} {vs : List Value} {news : List (Addr × Obj)} {P : List (Addr × Obj) → Value → Prop}
    {loose : List Str} {mean : ExcName → Option Value} {mg mb : Str → Option Value} {dp un : Nat} {gd : Option (List Code)} {cn : Str} {cs : Scope} {a : Addr} {ccd : Value} {cl : List (Str × Addr)} {outer : List Env} {A₀ : Around} {base h₀ : Heap} {L : Addr} {m : Str → Option Value} {s : Shared} {Q E : Value → Shared → Prop}
    (N : News h₀ L s.heap news) (F : Fr h₀ L s.heap m) (h : Spec w f cost vs news P) (B : Below A₀ base outer h₀) (X : (hd.heap_39 w.params).In h₀) (T : Top hd.view_39 loose mean mg mb h₀) (hk : cs.kind = .function) (hdp : dp + cost < recursionLimit) (hun : un + 8 * cost < cLine)
    (ret : ∀ r news' h' tk', Fr h₀ L h' m → News h₀ L h' news' → P news' r → Q r { s with heap := h', toks := tk' }) :
    wpAny (model PySem.Challenge.rw_qz0001_01.row.prog w) (ktrTop dp un gd cn cs L a ccd cl outer) (call (.ref f) vs) Q E s :=
  h _ _ _ _ _ _ _ _ _ _ _ _ _ _ _ _ _ _ _ _ _ B F X N T hk hdp hun ret

section
variable {prog : Program} {w : World} {A : Around} {E : Value → Shared → Prop} {s : Shared} {env : Env} {h₀ : Heap} {x : Str} {body : List Stmt} {Q : Flow → Shared → Prop}

abbrev DLed (l : Addr) (rest : List (Addr × Obj)) (c : List Value × Nat) : List (Addr × Obj) := (l, W.listOf c.1.toArray c.2) :: rest
abbrev DInv (f : Int → Str) (pre : List Int) (c : List Value × Nat) : Prop := StrsAre c.1 (pre.map f)

/-- a loop down a range to nought that appends one text a turn to a new list -/
theorem down_strs {l r : Addr} {a₀ : Int} {t₀ u₀ v₀ : Tok} {m₀ : Str → Option Value} {rest : List (Addr × Obj)} (f : Int → Str) (n : Nat)
    (hh : A.handled = none) (hr : IsRange s.heap r a₀ (-1) (-1) t₀ u₀ v₀) (ha : a₀ = (n : Int) - 1) (hn : n ≤ 1000) (F : Fr h₀ env.locals s.heap m₀) (N : News h₀ env.locals s.heap ((l, W.listOf #[] 0) :: rest)) (hl : ∀ p ∈ rest, p.1 < l)
    (turn : ∀ (vs : List Value) (nn : Nat) (pre : List Int) (k : Int) t (u : Str → Option Value) h tk own, k = (n : Int) - 1 - (pre.length : Int) → pre.length < n → vs.length = pre.length → StrsAre vs (pre.map f) → (∀ p ∈ rest ++ own, p.1 ≠ l) →
      Fr h₀ env.locals h (fun y => if y = x then some (.int k t) else m₀ y) → News h₀ env.locals h ((l, W.listOf vs.toArray nn) :: (rest ++ own)) →
      wpAny (model prog w) A (execs body env) (InvPostN h₀ env.locals (KstS (DLed l rest) (fun _ => []) (fun _ => True) x [] m₀ (DInv f) (pre ++ [k])) own ((DLed l rest ([], 0)).map (·.1)) { s with heap := h, toks := tk } Q) E { s with heap := h, toks := tk })
    (done : ∀ (vs : List Value) (nn : Nat) (u : Str → Option Value) h tk, vs.length = n → StrsAre vs ((downKs a₀ n).map f) → Fr h₀ env.locals h (fun y => if y = x then u y else m₀ y) → News h₀ env.locals h ((l, W.listOf vs.toArray nn) :: rest) → Q .next { s with heap := h, toks := tk }) :
    wpAny (model prog w) A (pyIter (.ref r)) (fun it s₂ => LoopAtV prog w A h₀ env x body Q E it s₂) E s := by
  subst ha
  refine kst_rangeD (n := n) (DLed l rest) (fun _ => []) (fun _ => True) [] (DInv f) ([], 0) hh hr ?_ ?_ F N trivial (List.forall_mem_nil _) .nil ?_ ?_
  · exact small_down (by omega) (by omega) (by omega) (by omega)
  · rw [rangeSize_down]; omega
  · intro c pre k t u h tk own ek hlt hoff _ hp F1 N1
    obtain ⟨vs, nn⟩ := c
    refine turn vs nn pre k t u h tk own ek hlt (by rw [hp.length, List.length_map]) hp (fun p hp' => ?_) F1 N1
    rcases List.mem_append.mp hp' with q | q
    · exact Nat.ne_of_lt (hl p q)
    · exact hoff p q l (.head _)
  · intro c u h tk _ hp F1 N1
    obtain ⟨vs, nn⟩ := c
    refine done vs nn u h tk ?_ hp F1 N1
    rw [hp.length, List.length_map]
    simp [downKs]

theorem down_strs_end {l : Addr} {L : Addr} {m₀ m' : Str → Option Value} {rest own : List (Addr × Obj)} {f : Int → Str} {vs : List Value} {nn : Nat} {pre : List Int} {k : Int} {t : Tok} {y : Str} {s₁ : Shared} {h' : Heap} {tk : Nat}
    (F : Fr h₀ L h' m') (N : News h₀ L h' ((l, W.listOf (vs.toArray.push (.str y t)) nn) :: (rest ++ own))) (hm : ∀ z, z ≠ x → m' z = m₀ z) (hs : StrsAre vs (pre.map f)) (hy : y = f k) :
    InvEndN h₀ L (KstS (DLed l rest) (fun _ => []) (fun _ => True) x [] m₀ (DInv f) (pre ++ [k])) own ((DLed l rest ([], 0)).map (·.1)) s₁ { s₁ with heap := h', toks := tk } := by
  refine kst_end (vs ++ [.str y t], nn) F N ?_ ?_ rfl trivial (List.forall_mem_nil _) (fun z hz _ _ => hm z hz) ?_
  · intro p hp
    rcases List.mem_cons.mp hp with rfl | hp
    · simp [List.push_toArray]
    · exact .tail _ (List.mem_append_left _ hp)
  · intro p hp
    exact .tail _ (List.mem_append_right _ hp)
  · show StrsAre (vs ++ [.str y t]) ((pre ++ [k]).map f)
    rw [List.map_append, hy]
    exact hs.append' (.cons _ _ .nil)
end

theorem gcd_le_right {a b : Int} (hb : 0 < b) : (Int.gcd a b : Int) ≤ b := by
  have : Int.gcd a b ∣ b.natAbs := Nat.gcd_dvd_right _ _
  have := Nat.le_of_dvd (by omega) this
  omega
theorem log_ok {y : Int} (h : y.natAbs < 2 ^ 60) : y.natAbs.log2 < 9000 := by
  by_cases h0 : y.natAbs = 0
  · rw [h0]; decide
  · have := (Nat.log2_lt h0).mpr h
    omega
def P1 (i j : Nat) (b tw : Int) : Prop := ∃ k : Nat, tw = k ∧ k ≤ i ∧ b = 2 ^ (i - k) * 5 ^ j
def P2 (j : Nat) (b fv : Int) : Prop := ∃ k : Nat, fv = k ∧ k ≤ j ∧ b = 5 ^ (j - k)
theorem pow5_odd (n : Nat) : (5 : Int) ^ n % 2 = 1 := by
  induction n with
  | zero => rfl
  | succ n ih => rw [Int.pow_succ]; omega
theorem P1.start {i j : Nat} {v : Int} (h : v = 2 ^ i * 5 ^ j) : P1 i j v 0 := ⟨0, rfl, Nat.zero_le _, h⟩
theorem P1.lt {i j k : Nat} {b : Int} (q : i ≤ k) (hb : b % 2 = 0) (e4 : b = 2 ^ (i - k) * 5 ^ j) : False := by
  rw [show i - k = 0 by omega, Int.pow_zero, Int.one_mul] at e4
  have := pow5_odd j
  omega
theorem P1.down {i j k : Nat} {b : Int} (q : k < i) (e4 : b = 2 ^ (i - k) * 5 ^ j) : b = (2 ^ (i - (k + 1)) * 5 ^ j) * 2 := by
  rw [show i - k = (i - (k + 1)) + 1 by omega, Int.pow_succ, Int.mul_assoc, Int.mul_comm 2, ← Int.mul_assoc] at e4
  exact e4
theorem P1.step {i j : Nat} {b tw : Int} (h : P1 i j b tw) (hb : b.fmod 2 = 0) : P1 i j (b.fdiv 2) (tw + 1) := by
  rw [Int.fmod_eq_emod_of_nonneg _ (by decide)] at hb
  rw [Int.fdiv_eq_ediv_of_nonneg _ (by decide)]
  obtain ⟨k, e2, e3, e4⟩ := h
  rcases Nat.lt_or_ge k i with q | q
  · have := P1.down q e4
    exact ⟨k + 1, by omega, q, by omega⟩
  · exact (P1.lt q hb e4).elim
theorem P1.fin {i j : Nat} {b tw : Int} (h : P1 i j b tw) (hb : b.fmod 2 ≠ 0) : tw = i ∧ b = 5 ^ j := by
  rw [Int.fmod_eq_emod_of_nonneg _ (by decide)] at hb
  obtain ⟨k, e2, e3, e4⟩ := h
  rcases Nat.lt_or_ge k i with q | q
  · have := P1.down q e4
    omega
  · obtain rfl : k = i := by omega
    rw [Nat.sub_self, Int.pow_zero, Int.one_mul] at e4
    exact ⟨e2, e4⟩
theorem P1.meas {i j : Nat} {b tw : Int} (h : P1 i j b tw) : (b.fdiv 2).toNat < b.toNat := by
  obtain ⟨k, e2, e3, e4⟩ := h
  have : 0 < b := by rw [e4]; exact Int.mul_pos (Int.pow_pos (by decide)) (Int.pow_pos (by decide))
  rw [Int.fdiv_eq_ediv_of_nonneg _ (by decide)]; omega
theorem P2.start {i j : Nat} {b tw : Int} (h : P1 i j b tw) (hb : b.fmod 2 ≠ 0) : P2 j b 0 := ⟨0, rfl, Nat.zero_le _, (h.fin hb).2⟩
theorem P2.step {j : Nat} {b fv : Int} (h : P2 j b fv) (hb : b.fmod 5 = 0) : P2 j (b.fdiv 5) (fv + 1) := by
  rw [Int.fmod_eq_emod_of_nonneg _ (by decide)] at hb
  rw [Int.fdiv_eq_ediv_of_nonneg _ (by decide)]
  obtain ⟨k, e2, e3, e4⟩ := h
  rcases Nat.lt_or_ge k j with q | q
  · refine ⟨k + 1, by omega, q, ?_⟩
    rw [show j - k = (j - (k + 1)) + 1 by omega, Int.pow_succ] at e4
    omega
  · rw [show j - k = 0 by omega, Int.pow_zero] at e4; omega
theorem P2.fin {j : Nat} {b fv : Int} (h : P2 j b fv) (hb : b.fmod 5 ≠ 0) : b = 1 ∧ fv = j := by
  rw [Int.fmod_eq_emod_of_nonneg _ (by decide)] at hb
  obtain ⟨k, e2, e3, e4⟩ := h
  rcases Nat.lt_or_ge k j with q | q
  · rw [show j - k = (j - (k + 1)) + 1 by omega, Int.pow_succ] at e4
    omega
  · obtain rfl : k = j := by omega
    exact ⟨by rw [e4, Nat.sub_self]; rfl, e2⟩
theorem P2.meas {j : Nat} {b fv : Int} (h : P2 j b fv) : (b.fdiv 5).toNat < b.toNat := by
  obtain ⟨k, e2, e3, e4⟩ := h
  have : 0 < b := by rw [e4]; exact Int.pow_pos (by decide)
  rw [Int.fdiv_eq_ediv_of_nonneg _ (by decide)]; omega
section
variable {prog : Program} {w : World} {A : Around} {E : Value → Shared → Prop} {s : Shared} {h₀ : Heap} {L : Addr} {m : Str → Option Value} {news : List (Addr × Obj)}
theorem fr_ext {h h' : Heap} (F : Fr h₀ L h m) (hk : ∀ d o, h.get? d = some o → h'.get? d = some o) : Fr h₀ L h' m := by
  obtain ⟨⟨oL, es, ep, hL, r⟩, k, a⟩ := F
  exact ⟨⟨oL, es, ep, hk _ _ hL, r⟩, fun b o e => hk _ _ (k b o e), a⟩
theorem news_ext {h h' : Heap} (N : News h₀ L h news) (hk : ∀ d o, h.get? d = some o → h'.get? d = some o) : News h₀ L h' news :=
  fun p hp => ⟨hk _ _ (N p hp).1, (N p hp).2⟩
theorem max3_N {a b c : Int} {t u x : Tok} {Q : Value → Shared → Prop} (F : Fr h₀ L s.heap m) (N : News h₀ L s.heap news) (hh : A.handled = none)
    (h : ∀ h' tk t', Fr h₀ L h' m → News h₀ L h' news → Q (.int (max a (max b c)) t') { s with heap := h', toks := tk }) :
    wpAny (model prog w) A (call (.builtin "max") [.int a t, .int b u, .int c x]) Q E s :=
  max_three_ints hh fun h' tk hk => by
    have key := fun t' => h h' tk t' (fr_ext F hk) (news_ext N hk)
    (repeat' split)
    · rw [show max a (max b c) = c by omega] at key; exact key _
    · rw [show max a (max b c) = b by omega] at key; exact key _
    · rw [show max a (max b c) = c by omega] at key; exact key _
    · rw [show max a (max b c) = a by omega] at key; exact key _
end
theorem str_eq {a b : Str} {t : Tok} (h : a = b) : ∃ t', Value.str a t = Value.str b t' := ⟨t, by rw [h]⟩
theorem int_eq' {a b : Int} {t : Tok} (h : a = b) : ∃ t', Value.int a t = Value.int b t' := ⟨t, by rw [h]⟩

inductive Item where
  | num (v : Int)
  | dec (t b : Int)
  | bits (v : Int) (n : Nat)
  | str (x : Str)
  | sym (x : Str)
  | key (x : Str)
def Item.dat : Item → Dat
  | .num v => .tuple [.str (Str.ofString "num"), .int v]
  | .dec t b => .tuple [.str (Str.ofString "dec"), .tuple [.int t, .int b]]
  | .bits v n => .tuple [.str (Str.ofString "bits"), .int v, .int n]
  | .str x => .tuple [.str (Str.ofString "str"), .str x]
  | .sym x => .tuple [.str (Str.ofString "sym"), .str x]
  | .key x => .tuple [.str (Str.ofString "key"), .str x]
def okCp (n : Nat) : Bool := n != 124 && n != 92
def bitS (x p : Int) : Str := if (x.fdiv (2 ^ p.toNat)).fmod 2 = 1 then Str.ofString "1" else Str.ofString "0"
def bitsText (x : Int) (n : Nat) : Str := Str.ofString "#b" ++ Txt.join (Str.ofString "") ((downKs ((n : Int) - 1) n).map (bitS x))
def decD (q P : Int) : Str := Txt.mul (Str.ofString "0") (P + 1 - ((Str.ofString (toString q)).length : Int)) ++ Str.ofString (toString q)
def decBody (q P : Int) : Str := Txt.slice (decD q P) none (some (-P)) ++ Str.ofString "." ++ Txt.slice (decD q P) (some (-P)) none
def DecIs (t b : Int) (y : Str) : Prop := ∃ i j : Nat, i ≤ 10 ∧ j ≤ 10 ∧ b = 2 ^ i * 5 ^ j ∧ y = decBody ((t * 10 ^ (max 1 (max (i : Int) j)).toNat).fdiv b) (max 1 (max (i : Int) j))
/-- what the call's room asks -/
def OkItem : Item → Prop
  | .num v => v.natAbs < 10 ^ 20
  | .dec t b => (0 ≤ t ∧ t < 10000000000000 ∧ ∃ i j : Nat, i ≤ 10 ∧ j ≤ 10 ∧ b = 2 ^ i * 5 ^ j) ∨ (t < 0 ∧ -10000000000000 < t ∧ b = 1)
  | .bits v n => 0 < n ∧ n ≤ 9 ∧ 0 ≤ v ∧ v < 1000
  | .str x => x.length < 1000
  | .sym x => x.length ≤ 1000 ∧ x.cps.toList.all okCp = true
  | .key x => x.length ≤ 1000
/-- what word_text hands back -/
def WordIs : Item → Str → Prop
  | .num v, y => y = numText v
  | .dec t b, y => (0 ≤ t ∧ DecIs t b y) ∨ (t < 0 ∧ ∃ z, y = Str.ofString "(- " ++ z ++ Str.ofString ")" ∧ DecIs (-t) b z)
  | .bits v n, y => y = bitsText v n
  | .str x, y => y = strText x
  | .sym x, y => y = symText x
  | .key x, y => y = Str.ofString ":" ++ x
theorem len_colon : (Str.ofString ":").length = 1 := by decide +kernel
end Mine
namespace Mine
theorem rest_ZN7 : True := by
  w_top off
  k_with_none
  first | walk1 | trivial
end Mine
/- part ZN7 -/
namespace Mine
section
theorem words_N7_1 : True := by
  w_top off
  k_with_none
  k_with "mine steps" => (repeat' (first | (k_unfold; (try dsimp only)) | (goal_lacks PySem.W.InvEndN PySem.W.KswEnd; (fail_if_success (with_reducible show wpAny _ _ (pyIter _) _ _ _)); first | ((with_reducible show wpAny _ _ (call (Value.ref _) _) _ _ _); walk_at "mine call") | ((fail_if_success (with_reducible show wpAny _ _ (call (Value.ref _) _) _ _ _)); first | (k_end; wrow_close) | (walk1 <;> (try walk_at "mine fold")) | (dsimp only; walk1) | (leave1; walk_say "STEP leave1"; try dsimp only) | fail "no step"))))
  k_with "setItem ref str" => ((k_here; k_dflt (refine' kda_set (knd := PySem.strKind _ _) ?F ?N ?U ?d (strKind_is _ _ _ _) ?z ?_; (case F => k_asm); (case N => k_asm); (case U => k_updF); (case d => k_asm); (case z => kob_size)); intro h' o' F' N' hd'; (try kob_lit); (try dsimp only at N')))
  k_with "k_all" => (assumption)
  k_with "mine fold" => ((first | (with_reducible show wpAny _ _ (exec _ _) _ _ _) | (with_reducible show wpAny _ _ (eval (Expr.Call _ _ _ _) _) _ _ _)); ((try k_fold); (with_reducible rename Fr _ _ _ _ => lF); (with_reducible rename News _ _ _ _ => lN); (with_reducible refine fold3 lF lN ?_); clear lF lN; intro s9 m9 l9 F9 N9))
  trivial
set_option maxRecDepth 100000 in
set_option maxHeartbeats 4000000 in
theorem lot_spec (w : World) (d c : Addr) (o : Obj) (t : Tok) (at0 many : Int) (vs : List Value) (ns : List Int) (news : List (Addr × Obj))
   (hd : IsTank w o c at0) (hoff : ∀ p ∈ (c, LCg.lst vs) :: news, p.1 ≠ d) (hns : IntsAre vs ns) (hlen : ns.length ≤ 60) (hat : 0 ≤ at0) (hat2 : at0 < 1000) (hm : 0 < many) (hm2 : many < 1000) :
    Spec w 142 1 [.ref d, .int many t] ((d, o) :: (c, LCg.lst vs) :: news) (fun news' r => ∃ o' v t', news' = (d, o') :: (c, LCg.lst vs) :: news ∧ IsTank w o' c (at0 + 1) ∧ r = .int v t' ∧ 0 ≤ v ∧ v < many) := by
  unfold Spec
  k_fill
  obtain ⟨t1, t2, t3, hd⟩ := hd
  intro loose mean mg mb dp un gd cn cs a ccd cl outer A₀ base h₀ L m s Q E B F X N T hk hdp hun hret
  refine wpAny_call ?_
  k_dflt ktr_enter
  (try k_gentoks)
  refine fold_env ?_
  intro A9 v9
  have uA9 : A9.units = un + 3 := by rfl
  have dA9 : A9.depth = dp + 1 := by rfl
  k_steps
  all_goals (refine hret _ _ _ _ (by k_asm) (by k_asm) ⟨_, _, _, rfl, ⟨0, 0, _, by assumption⟩, rfl, ?_, ?_⟩)
  all_goals first | exact Int.fmod_nonneg_of_pos _ hm | exact Int.fmod_lt_of_pos _ hm
end
end Mine
namespace Mine
theorem rest_ZN10 : True := by
  w_top off
  k_with_none
  first | walk1 | trivial
end Mine
/- part ZN10 -/
namespace Mine
section
theorem words_N10_1 : True := by
  w_top off
  k_with_none
  k_with "mine steps" => (repeat' (first | (k_unfold; (try dsimp only)) | (goal_lacks PySem.W.InvEndN PySem.W.KswEnd; (fail_if_success (with_reducible show wpAny _ _ (pyIter _) _ _ _)); first | ((with_reducible show wpAny _ _ (call (Value.ref _) _) _ _ _); walk_at "mine call") | ((fail_if_success (with_reducible show wpAny _ _ (call (Value.ref _) _) _ _ _)); first | (k_end; wrow_close) | (walk1 <;> (try walk_at "mine fold")) | (dsimp only; walk1) | (leave1; walk_say "STEP leave1"; try dsimp only) | fail "no step"))))
  k_with "call builtin:max" => ((k_here; (with_reducible show wpAny _ _ (call (Value.builtin _) [Value.int _ _, Value.int _ _, Value.int _ _]) _ _ _); k_dflt (refine' max3_N ?F ?N rfl ?_; (case F => k_asm); (case N => k_asm); k_whole); intro h' tk' t' F' N'))
  k_with "mine fold" => ((first | (with_reducible show wpAny _ _ (exec _ _) _ _ _) | (with_reducible show wpAny _ _ (eval (Expr.Call _ _ _ _) _) _ _ _)); ((try k_fold); (with_reducible rename Fr _ _ _ _ => lF); (with_reducible rename News _ _ _ _ => lN); (with_reducible refine fold3 lF lN ?_); clear lF lN; intro s9 m9 l9 F9 N9))
  trivial
set_option maxRecDepth 100000 in
set_option maxHeartbeats 4000000 in
theorem places_of_spec (w : World) (v : Int) (t : Tok) (news : List (Addr × Obj)) (i j : Nat) (hv : v = 2 ^ i * 5 ^ j) :
    Spec w 114 1 [.int v t] news (fun news' r => news' = news ∧ ∃ t', r = .int (max 1 (max (i : Int) j)) t') := by
  unfold Spec
  k_fill
  intro loose mean mg mb dp un gd cn cs a ccd cl outer A₀ base h₀ L m s Q E B F X N T hk hdp hun hret
  refine wpAny_call ?_
  k_dflt ktr_enter
  (try k_gentoks)
  refine fold_env ?_
  intro A9 v9
  have uA9 : A9.units = un + 3 := by rfl
  have dA9 : A9.depth = dp + 1 := by rfl
  (k_with "state" => first | exact P1.start hv | exact P1.step (by assumption) (by assumption) | exact P2.start (by assumption) (by assumption) | exact P2.step (by assumption) (by assumption))
  (k_with "measure" => first | exact P1.meas (by assumption) | exact P2.meas (by assumption))
  (k_with "exec While Compare cons nil" => k_while (fun script b fv => P2 j b fv) (fun script b fv => b.toNat) "bottom" "fives")
  iterate 9 walk1
  k_while (fun script b tw => P1 i j b tw) (fun script b tw => b.toNat) "bottom" "twos"
  k_steps
  · exact absurd (P2.fin (by assumption) (by assumption)).1 (by assumption)
  · have e1 := (P1.fin (by assumption) (by assumption)).1
    have e2 := (P2.fin (by assumption) (by assumption)).2
    rw [e1, e2]
    exact hret _ _ _ _ (by k_asm) (by k_asm) ⟨rfl, _, rfl⟩
end
end Mine
namespace Mine
theorem rest_ZN4 : True := by
  w_top off
  k_with_none
  first | walk1 | trivial
end Mine
/- part ZN4 -/
namespace Mine
theorem len_dot : (Str.ofString ".").length = 1 := by decide +kernel
theorem len_lp : (Str.ofString "(- ").length = 3 := by decide +kernel
theorem len_rp : (Str.ofString ")").length = 1 := by decide +kernel
theorem pow_mono {a : Nat} (ha : 0 < a) {i n : Nat} (h : i ≤ n) : (a : Int) ^ i ≤ (a : Int) ^ n := by
  have := Nat.pow_le_pow_right ha h
  exact_mod_cast this
theorem bb_pos {i j : Nat} : (0 : Int) < 2 ^ i * 5 ^ j := Int.mul_pos (Int.pow_pos (by decide)) (Int.pow_pos (by decide))
theorem bb_le {i j : Nat} (hi : i ≤ 10) (hj : j ≤ 10) : (2 : Int) ^ i * 5 ^ j ≤ 10000000000 := by
  have h1 : (2 : Int) ^ i ≤ 2 ^ 10 := pow_mono (a := 2) (by decide) hi
  have h2 : (5 : Int) ^ j ≤ 5 ^ 10 := pow_mono (a := 5) (by decide) hj
  have h3 : (0 : Int) < 5 ^ j := Int.pow_pos (by decide)
  calc (2 : Int) ^ i * 5 ^ j ≤ 2 ^ 10 * 5 ^ j := Int.mul_le_mul_of_nonneg_right h1 (Int.le_of_lt h3)
    _ ≤ 2 ^ 10 * 5 ^ 10 := Int.mul_le_mul_of_nonneg_left h2 (by decide)
    _ = 10000000000 := by decide
theorem quo_le {tt bb : Int} {P : Nat} (h0 : 0 ≤ tt) (h1 : tt < 10000000000000) (hb : 0 < bb) (hP : P ≤ 10) : 0 ≤ (tt * 10 ^ P).fdiv bb ∧ (tt * 10 ^ P).fdiv bb < 100000000000000000000000 := by
  have h2 : (10 : Int) ^ P ≤ 10 ^ 10 := pow_mono (a := 10) (by decide) hP
  have h3 : (0 : Int) ≤ 10 ^ P := Int.le_of_lt (Int.pow_pos (by decide))
  have h4 : tt * 10 ^ P ≤ tt * 10 ^ 10 := Int.mul_le_mul_of_nonneg_left h2 h0
  have h5 : 0 ≤ tt * 10 ^ P := Int.mul_nonneg h0 h3
  have e : (10 : Int) ^ 10 = 10000000000 := by decide
  rw [e] at h4
  rw [Int.fdiv_eq_ediv_of_nonneg _ (by omega)]
  have h6 : tt * 10 ^ P / bb ≤ tt * 10 ^ P := Int.ediv_le_self _ h5
  exact ⟨Int.ediv_nonneg h5 (by omega), by omega⟩
theorem places_of_specP (w : World) (v : Int) (t : Tok) (news : List (Addr × Obj)) (i j P : Nat) (hv : v = 2 ^ i * 5 ^ j) (hP : PySem.Flt.Hid (max 1 (max (i : Int) j) = (P : Int))) :
    Spec w 114 1 [.int v t] news (fun news' r => news' = news ∧ ∃ t', r = .int (P : Int) t') :=
  Spec.mono (places_of_spec w v t news i j hv) fun _ _ ⟨a, t', e⟩ => ⟨a, t', by rw [e, hP.out]⟩
theorem max_nat {i j : Nat} (hi : i ≤ 10) (hj : j ≤ 10) : ∃ P : Nat, max 1 (max (i : Int) j) = (P : Int) ∧ 1 ≤ P ∧ P ≤ 10 := ⟨(max 1 (max (i : Int) j)).toNat, by omega, by omega, by omega⟩
section
theorem words_N4_1 : True := by
  w_top off
  k_with_none
  k_with "mine steps" => (repeat' (first | (k_unfold; (try dsimp only)) | (goal_lacks PySem.W.InvEndN PySem.W.KswEnd; (fail_if_success (with_reducible show wpAny _ _ (pyIter _) _ _ _)); first | ((with_reducible show wpAny _ _ (call (Value.ref _) _) _ _ _); walk_at "mine call") | ((fail_if_success (with_reducible show wpAny _ _ (call (Value.ref _) _) _ _ _)); first | (k_end; wrow_close) | (walk1 <;> (try walk_at "mine fold")) | (dsimp only; walk1) | (leave1; walk_say "STEP leave1"; try dsimp only) | fail "no step"))))
  k_with "binaryOp FloorDiv int int" => ((k_here; refine' floordiv_int ?kbe ?_ (Or.inl (PyProof.noPylong_of_log2 ?kbp)); (case kbe => assumption); (case kbp => exact log_ok (by assumption))))
  k_with "mine call" => ((k_here; (with_reducible show wpAny _ _ (call (Value.ref 114) _) _ _ _); k_dflt (refine' Spec.use' (by k_asm) (by k_asm) (by exact places_of_specP _ _ _ _ _ _ _ (by assumption) (by assumption)) (by k_asm) (by k_asm) (by k_asm) (by first | exact rfl | assumption) (by ktr_room) (by ktr_units) ?_); intro r' n' h' tk' F' N' hp'; obtain ⟨e1', t', e2'⟩ := hp'; rw [e1'] at N'; clear e1'; subst e2'; (try dsimp only); (try k_fold)))
  k_with "mine fold" => ((first | (with_reducible show wpAny _ _ (exec _ _) _ _ _) | (with_reducible show wpAny _ _ (eval (Expr.Call _ _ _ _) _) _ _ _)); ((try k_fold); (with_reducible rename Fr _ _ _ _ => lF); (with_reducible rename News _ _ _ _ => lN); (with_reducible refine fold3 lF lN ?_); clear lF lN; intro s9 m9 l9 F9 N9))
  trivial
set_option maxRecDepth 100000 in
set_option maxHeartbeats 4000000 in
theorem dec_pos_core (w : World) (v : Value) (tt bb : Int) (i j P : Nat) (news : List (Addr × Obj)) (hP : PySem.Flt.Hid (max 1 (max (i : Int) j) = (P : Int))) (hP1 : 1 ≤ P) (hP2 : P ≤ 10) (hD : DatIn news v (.tuple [.int tt, .int bb])) (hv : 0 ≤ tt) (hv2 : tt < 10000000000000) (hb : bb = 2 ^ i * 5 ^ j) (hi : i ≤ 10) (hj : j ≤ 10) :
    Spec w 121 3 [v] news (fun news' r => news' = news ∧ ∃ y t', r = .str y t' ∧ y = decBody ((tt * 10 ^ (P : Int).toNat).fdiv bb) (P : Int) ∧ y.length ≤ 200) := by
  unfold Spec
  k_fill
  cases hD with | tuple hm hA =>
  cases hA with | cons h1 hA =>
  cases hA with | cons h2 hA =>
  cases hA
  cases h1
  cases h2
  have hb0 : 0 < bb := hb ▸ bb_pos
  have hbn : bb ≠ 0 := by omega
  have hbl : bb ≤ 10000000000 := hb ▸ bb_le hi hj
  have hbk : bb.natAbs < 2 ^ 60 := by omega
  have hq := quo_le (P := (P : Int).toNat) hv hv2 hb0 (by omega)
  have hq2 : ((tt * 10 ^ (P : Int).toNat).fdiv bb).natAbs < 10 ^ 24 := by omega
  have hl : (Str.ofString (toString ((tt * 10 ^ (P : Int).toNat).fdiv bb))).length ≤ 25 := by
    rw [PyProof.Rows.ofString_length]; exact int_text_length_le10 (by decide) hq2
  intro loose mean mg mb dp un gd cn cs a ccd cl outer A₀ base h₀ L m s Q E B F X N T hk hdp hun hret
  refine wpAny_call ?_
  k_dflt ktr_enter
  (try k_gentoks)
  refine fold_env ?_
  intro A9 v9
  have uA9 : A9.units = un + 3 := by rfl
  have dA9 : A9.depth = dp + 1 := by rfl
  walk_at "mine steps"
  exact hret _ _ _ _ (by k_asm) (by k_asm) ⟨rfl, _, _, rfl, rfl, by have e1 := len_dot; omega⟩
theorem dec_pos_spec (w : World) (v : Value) (tt bb : Int) (i j : Nat) (news : List (Addr × Obj)) (hD : DatIn news v (.tuple [.int tt, .int bb])) (hv : 0 ≤ tt) (hv2 : tt < 10000000000000) (hb : bb = 2 ^ i * 5 ^ j) (hi : i ≤ 10) (hj : j ≤ 10) :
    Spec w 121 3 [v] news (fun news' r => news' = news ∧ ∃ y t', r = .str y t' ∧ y = decBody ((tt * 10 ^ (max 1 (max (i : Int) j)).toNat).fdiv bb) (max 1 (max (i : Int) j)) ∧ y.length ≤ 200) := by
  obtain ⟨P, e, h1, h2⟩ := max_nat hi hj
  have z := dec_pos_core w v tt bb i j P news ⟨e⟩ h1 h2 hD hv hv2 hb hi hj
  rw [← e] at z
  exact z
theorem words_N4_2 : True := by
  w_top off
  k_with_none
  k_with "mine steps" => (repeat' (first | (k_unfold; (try dsimp only)) | (goal_lacks PySem.W.InvEndN PySem.W.KswEnd; (fail_if_success (with_reducible show wpAny _ _ (pyIter _) _ _ _)); first | ((with_reducible show wpAny _ _ (call (Value.ref _) _) _ _ _); walk_at "mine call") | ((fail_if_success (with_reducible show wpAny _ _ (call (Value.ref _) _) _ _ _)); first | (k_end; wrow_close) | (walk1 <;> (try walk_at "mine fold")) | (dsimp only; walk1) | (leave1; walk_say "STEP leave1"; try dsimp only) | fail "no step"))))
  k_with "binaryOp FloorDiv int int" => ((k_here; refine' floordiv_int ?kbe ?_ (Or.inl (PyProof.noPylong_of_log2 ?kbp)); (case kbe => assumption); (case kbp => exact log_ok (by assumption))))
  k_with "mine call" => ((k_here; (with_reducible show wpAny _ _ (call (Value.ref 114) _) _ _ _); k_dflt (refine' Spec.use' (by k_asm) (by k_asm) (by exact places_of_specP _ _ _ _ _ _ _ (by assumption) (by assumption)) (by k_asm) (by k_asm) (by k_asm) (by first | exact rfl | assumption) (by ktr_room) (by ktr_units) ?_); intro r' n' h' tk' F' N' hp'; obtain ⟨e1', t', e2'⟩ := hp'; rw [e1'] at N'; clear e1'; subst e2'; (try dsimp only); (try k_fold)))
  k_with "mine call" => ((k_here; (with_reducible show wpAny _ _ (call (Value.ref 121) _) _ _ _); k_dflt (refine' Spec.use' (by k_asm) (by k_asm) (by exact dec_pos_spec _ _ _ _ 0 0 _ (DatIn.tuple (.head _) (.cons (.int _ _) (.cons (.int _ _) .nil))) (by omega) (by omega) rfl (by decide) (by decide)) (by k_asm) (by k_asm) (by k_asm) (by first | exact rfl | assumption) (by ktr_room) (by ktr_units) ?_); intro r' n' h' tk' F' N' hp'; obtain ⟨e1', y', t', e2', hy', hyl'⟩ := hp'; rw [e1'] at N'; clear e1'; subst e2'; (try dsimp only); (try k_fold)))
  k_with "mine fold" => ((first | (with_reducible show wpAny _ _ (exec _ _) _ _ _) | (with_reducible show wpAny _ _ (eval (Expr.Call _ _ _ _) _) _ _ _)); ((try k_fold); (with_reducible rename Fr _ _ _ _ => lF); (with_reducible rename News _ _ _ _ => lN); (with_reducible refine fold3 lF lN ?_); clear lF lN; intro s9 m9 l9 F9 N9))
  trivial
set_option maxRecDepth 100000 in
set_option maxHeartbeats 4000000 in
theorem dec_neg_spec (w : World) (v : Value) (tt : Int) (news : List (Addr × Obj)) (hD : DatIn news v (.tuple [.int tt, .int 1])) (hv : tt < 0) (hv2 : -10000000000000 < tt) :
    Spec w 121 5 [v] news (fun news' r => news' = news ∧ ∃ y z t', r = .str y t' ∧ y = Str.ofString "(- " ++ z ++ Str.ofString ")" ∧ z = decBody ((-tt * 10 ^ (max 1 (max ((0 : Nat) : Int) ((0 : Nat) : Int))).toNat).fdiv (2 ^ 0 * 5 ^ 0)) (max 1 (max ((0 : Nat) : Int) ((0 : Nat) : Int))) ∧ y.length ≤ 300) := by
  unfold Spec
  k_fill
  cases hD with | tuple hm hA =>
  cases hA with | cons h1 hA =>
  cases hA with | cons h2 hA =>
  cases hA
  cases h1
  cases h2
  intro loose mean mg mb dp un gd cn cs a ccd cl outer A₀ base h₀ L m s Q E B F X N T hk hdp hun hret
  refine wpAny_call ?_
  k_dflt ktr_enter
  (try k_gentoks)
  refine fold_env ?_
  intro A9 v9
  have uA9 : A9.units = un + 3 := by rfl
  have dA9 : A9.depth = dp + 1 := by rfl
  walk_at "mine steps"
  exact hret _ _ _ _ (by k_asm) (cb_drop (by k_asm) (fun p hp => List.Mem.tail _ hp)) ⟨rfl, _, _, _, rfl, rfl, by assumption, by have e1 := len_lp; have e2 := len_rp; omega⟩
end
end Mine
namespace Mine
theorem rest_ZN6 : True := by
  w_top off
  k_with_none
  first | walk1 | trivial
end Mine
/- part ZN6 -/
namespace Mine
theorem bitS_len (x p : Int) : (bitS x p).length = 1 := by unfold bitS; split <;> decide +kernel
theorem sum_ones {α : Type} (l : List α) (g : α → Str) (hg : ∀ a, (g a).length = 1) : ((l.map g).map (·.length)).sum = l.length := by
  induction l with
  | nil => rfl
  | cons a l ih => simp only [List.map_cons, List.sum_cons, hg, ih, List.length_cons]; omega
section
theorem words_N6_1 : True := by
  w_top off
  k_with_none
  k_with "mine steps" => (repeat' (first | (k_unfold; (try dsimp only)) | (goal_lacks PySem.W.InvEndN PySem.W.KswEnd; (fail_if_success (with_reducible show wpAny _ _ (pyIter _) _ _ _)); first | ((with_reducible show wpAny _ _ (call (Value.ref _) _) _ _ _); walk_at "mine call") | ((fail_if_success (with_reducible show wpAny _ _ (call (Value.ref _) _) _ _ _)); first | (k_end; wrow_close) | walk1 | (dsimp only; walk1) | (leave1; walk_say "STEP leave1"; try dsimp only) | fail "no step"))))
  k_with "call builtin:list.append" => ((k_here; k_dflt (refine' append_K ?k1 ?k2 ?k3 ?_ ?z; (case k1 => k_asm); (case k2 => k_asm); (case k3 => k_upd); (case z => (simp only [sizeLine_eq, List.size_toArray]; omega)); k_whole); intro h' F' N'; (try k_sweep)))
  k_with "call builtin:str.join" => ((k_here; (with_reducible show wpAny _ _ (call (Value.builtin _) [Value.str _ _, Value.ref _]) _ _ _); k_dflt (refine join_listW (News.isList (by k_asm) (by k_mem)) (by assumption) (by decide +kernel) (by assumption) ?_); intro _ _))
  k_with "k_all" => (assumption)
  trivial
set_option maxRecDepth 100000 in
set_option maxHeartbeats 4000000 in
theorem bits_text_spec (w : World) (x : Int) (n : Nat) (t t2 : Tok) (news : List (Addr × Obj)) (hv : 0 < n) (hw : PySem.Flt.Hid (n ≤ 9)) (hx : 0 ≤ x) (hx2 : x < 1000):
    Spec w 107 1 [.int x t, .int n t2] news (fun news' r => news' = news ∧ ∃ y t', r = .str y t' ∧ y = bitsText x n ∧ y.length ≤ 5000) := by
  unfold Spec
  k_fill
  intro loose mean mg mb dp un gd cn cs a ccd cl outer A₀ base h₀ L m s Q E B F X N T hk hdp hun hret
  refine wpAny_call ?_
  k_dflt ktr_enter
  walk_at "mine steps"
  rename IsRange _ _ _ _ _ _ _ _ => rgX
  rename Fr _ _ _ _ => lF'
  rename News _ _ _ _ => lN'
  have hw' := hw.out
  refine down_strs (bitS x) n rfl rgX rfl (by omega) lF' lN' (by assumption) ?_ ?_
  · intro vs nn pre k t u h tk own ek hlt hlen hs hoff F1 N1
    k_fold
    have hk0 : 0 ≤ k := by omega
    have hk1 : k ≤ 8 := by omega
    clear hw
    walk_at "mine steps"
    · exact down_strs_end (by assumption) (by assumption) (fun z hz => if_neg hz) hs (by rw [bitS, if_pos (by assumption)])
    · exact down_strs_end (by assumption) (by assumption) (fun z hz => if_neg hz) hs (by rw [bitS, if_neg (by assumption)])
  · intro vs nn u h tk hlen hs F1 N1
    have hsum : ((((downKs ((n : Int) - 1) n).map (bitS x)).map (·.length)).sum + ((downKs ((n : Int) - 1) n).map (bitS x)).length) ≤ 1048576 := by
      rw [sum_ones _ _ (bitS_len x), List.length_map, downKs_length]; omega
    have hjl : (Txt.join (Str.ofString "") ((downKs ((n : Int) - 1) n).map (bitS x))).length ≤ 100 := by
      rw [PySem.W.KT.join_ones _ (fun a ha => by obtain ⟨b, _, rfl⟩ := List.mem_map.mp ha; exact bitS_len x b), List.length_map, downKs_length]; omega
    walk_at "mine steps"
    refine hret _ _ _ _ (by k_asm) (cb_drop (by k_asm) (fun p hp => List.Mem.tail _ hp)) ⟨rfl, _, _, rfl, rfl, ?_⟩
    have e1 : (Str.ofString "#b").length = 2 := by decide +kernel
    omega
end
end Mine
namespace Mine
theorem rest_ZN3 : True := by
  w_top off
  k_with_none
  first | walk1 | trivial
end Mine
/- part ZN3 -/
namespace Mine
section
variable {x : Str}
theorem simple_1 (h : (x == Str.ofString "") = true) : isSimple x = false := by unfold isSimple; rw [h]; rfl
theorem simple_2 (h : (RES.any fun y => y == x) = true) : isSimple x = false := by unfold isSimple; rw [h]; simp
theorem simple_3 (h : (Builtin.Str.occurrences digitS (Txt.item x 0) 0 digitS.length 1).isEmpty = false) : isSimple x = false := by unfold isSimple hasSub; rw [h]; simp
theorem simple_4 {n : Nat} {a b : List Int} (e : KStt.codes x = a ++ (n : Int) :: b) (h : (Builtin.Str.occurrences simpleS ⟨#[n]⟩ 0 simpleS.length 1).isEmpty = true) : isSimple x = false := by
  have : ((KStt.codes x).all fun v => hasSub simpleS ⟨#[v.toNat]⟩) = false := by
    rw [e, List.all_append, List.all_cons]
    simp only [hasSub, Int.toNat_natCast, h]
    simp
  unfold isSimple; rw [this]; simp
theorem simple_5 (h1 : (x == Str.ofString "") = false) (h2 : (RES.any fun y => y == x) = false) (h3 : (Builtin.Str.occurrences digitS (Txt.item x 0) 0 digitS.length 1).isEmpty = true) (h4 : ((KStt.codes x).all fun v => hasSub simpleS ⟨#[v.toNat]⟩) = true) : isSimple x = true := by
  unfold isSimple; rw [h1, h2, h4]; unfold hasSub; rw [h3]; rfl
theorem simple_next {n : Nat} {pre : List Int} (hp : (pre.all fun v => hasSub simpleS ⟨#[v.toNat]⟩) = true) (h : (Builtin.Str.occurrences simpleS ⟨#[n]⟩ 0 simpleS.length 1).isEmpty = false) : ((pre ++ [(n : Int)]).all fun v => hasSub simpleS ⟨#[v.toNat]⟩) = true := by
  rw [List.all_append, hp, Bool.true_and, List.all_cons, List.all_nil, Bool.and_true]
  simp only [hasSub, Int.toNat_natCast, h]
  rfl
end
section
theorem words_N3_1 : True := by
  w_top off
  k_with_none
  k_with "mine steps" => (repeat' (first | (k_unfold; (try dsimp only)) | (goal_lacks PySem.W.InvEndN PySem.W.KswEnd; (fail_if_success (with_reducible show wpAny _ _ (pyIter _) _ _ _)); first | ((with_reducible show wpAny _ _ (call (Value.ref _) _) _ _ _); walk_at "mine call") | ((fail_if_success (with_reducible show wpAny _ _ (call (Value.ref _) _) _ _ _)); first | (k_end; wrow_close) | (walk1 <;> (try walk_at "mine fold")) | (dsimp only; walk1) | (leave1; walk_say "STEP leave1"; try dsimp only) | fail "no step"))))
  k_with "compareOp In str ref" => ((k_here; (with_reducible show wpAny _ _ (compareOp CmpOp.In (Value.str _ _) (Value.ref _)) _ _ _); (with_unfolding_all refine' in_tuple_strs ?k1 ?k2 ?_; (case k1 => exact tupK (by k_in) (by k_is)); (case k2 => kde_strs); k_whole)))
  k_with "exec For Name Name cons nil" => ((k_here; (rename Fr _ _ _ _ => lF'); (with_unfolding_all refine' For_invVF lF' ?k1 ?k2 ?_; (case k1 => exact rfl); (case k2 => exact rfl); k_whole)))
  k_with "mine fold" => ((first | (with_reducible show wpAny _ _ (exec _ _) _ _ _) | (with_reducible show wpAny _ _ (eval (Expr.Call _ _ _ _) _) _ _ _)); ((try k_fold); (with_reducible rename Fr _ _ _ _ => lF); (with_reducible rename News _ _ _ _ => lN); (with_reducible refine fold3 lF lN ?_); clear lF lN; intro s9 m9 l9 F9 N9))
  trivial
set_option maxRecDepth 100000 in
set_option maxHeartbeats 4000000 in
theorem is_simple_spec (w : World) (x : Str) (t : Tok) (news : List (Addr × Obj)) :
    Spec w 86 1 [.str x t] news (fun news' r => news' = news ∧ r = .bool (isSimple x)) := by
  unfold Spec
  k_fill
  intro loose mean mg mb dp un gd cn cs a ccd cl outer A₀ base h₀ L m s Q E B F X N T hk hdp hun hret
  refine wpAny_call ?_
  k_dflt ktr_enter
  (try k_gentoks)
  refine fold_env ?_
  intro A9 v9
  have uA9 : A9.units = un + 3 := by rfl
  have dA9 : A9.depth = dp + 1 := by rfl
  walk_at "mine steps"
  rotate_left 2
  · rename Fr _ _ _ _ => lF'
    rename News _ _ _ _ => lN'
    refine KStt.kst_text (σ := Unit) (fun _ => news) (fun _ => []) (fun _ => True) [] (fun pre _ => (pre.all fun v => hasSub simpleS ⟨#[v.toNat]⟩) = true) () rfl lF' lN' trivial (List.forall_mem_nil _) rfl ?_ ?_
    · intro kC kPre kPost kN kT kU kH kTk kOwn kEq kOff kFacts kInv kFr kNews
      k_fold
      walk_at "mine steps"
      · exact hret _ _ _ _ (by k_asm) (cb_drop (by k_asm) (fun p hp => List.mem_append_left _ hp)) ⟨rfl, congrArg Value.bool (simple_4 kEq (by assumption)).symm⟩
      · exact kst_end () (by assumption) (by assumption) (fun p hp => List.mem_append_left _ hp) (fun p hp => List.mem_append_right _ hp) rfl trivial (List.forall_mem_nil _) (fun z hz _ _ => if_neg hz) (simple_next kInv (by assumption))
    · intro kC kU kH kTk kFacts kInv kFr kNews
      walk_at "mine steps"
      exact hret _ _ _ _ (by k_asm) (by k_asm) ⟨rfl, congrArg Value.bool (simple_5 (by assumption) (by assumption) (by assumption) kInv).symm⟩
  · exact hret _ _ _ _ (by k_asm) (by k_asm) ⟨rfl, congrArg Value.bool (simple_3 (by assumption)).symm⟩
  · exact hret _ _ _ _ (by k_asm) (by k_asm) ⟨rfl, congrArg Value.bool (simple_1 (by assumption)).symm⟩
  · exact hret _ _ _ _ (by k_asm) (by k_asm) ⟨rfl, congrArg Value.bool (simple_2 (by assumption)).symm⟩
end
end Mine
namespace Mine
theorem rest_ZN11 : True := by
  w_top off
  k_with_none
  first | walk1 | trivial
end Mine
/- part ZN11 -/
namespace Mine
theorem bar_is : Str.ofString "|" = ⟨#[124]⟩ := by decide +kernel
theorem back_is : Str.ofString "\\" = ⟨#[92]⟩ := by decide +kernel
theorem charAt_mem {x : Str} {i : Int} {c : Nat} (h : Txt.charAt x i = some c) : c ∈ x.cps.toList := by
  unfold Txt.charAt at h
  cases hk : seqIndex? i x.length with
  | none => rw [hk] at h; cases h
  | some k => rw [hk] at h; exact Array.mem_toList_iff.mpr (Array.mem_of_getElem? h)
theorem item_ne {x : Str} (hok : x.cps.toList.all okCp = true) (i : Int) : (Txt.item x i == Str.ofString "|") = false := by
  rw [bar_is]
  unfold Txt.item
  cases h : Txt.charAt x i with
  | none => exact beq_eq_false_iff_ne.mpr (fun e => by cases e)
  | some c =>
    have := List.all_eq_true.mp hok c (charAt_mem h)
    refine beq_eq_false_iff_ne.mpr (fun e => ?_)
    cases e
    cases this
theorem sub_none {x : Str} (hok : x.cps.toList.all okCp = true) {c : Nat} (hc : okCp c = false) : (Builtin.Str.occurrences x ⟨#[c]⟩ 0 x.length 1).isEmpty = true := by
  have h := StrLaws.found_one x c
  have hn : c ∉ x.cps.toList := fun hm => by rw [List.all_eq_true.mp hok c hm] at hc; cases hc
  rw [decide_eq_false hn] at h
  simpa using h
theorem ite_t {b : Bool} {p q : Prop} (h : b = true) (k : p) : if b = true then p else q := by rw [if_pos h]; exact k
theorem ite_f {b : Bool} {p q : Prop} (h : b = false) (k : q) : if b = true then p else q := by rw [if_neg (by rw [h]; decide)]; exact k
theorem ite_n {b : Bool} {p q : Prop} (h : b = true) (k : q) : if (!b) = true then p else q := by rw [if_neg (by rw [h]; decide)]; exact k
theorem sym_t {x : Str} (h : (RES.any fun y => y == x) = true ∨ isSimple x = true) : x = symText x := by
  unfold symText
  rw [if_pos]
  rcases h with h | h <;> rw [h] <;> simp
theorem sym_f {x : Str} (h1 : (RES.any fun y => y == x) = false) (h2 : isSimple x = false) : Str.ofString "|" ++ x ++ Str.ofString "|" = symText x := by
  unfold symText
  rw [h1, h2]; rfl
section
theorem words_N11_1 : True := by
  w_top off
  k_with_none
  k_with "mine steps" => (repeat' (first | (k_unfold; (try dsimp only)) | (goal_lacks PySem.W.InvEndN PySem.W.KswEnd; (fail_if_success (with_reducible show wpAny _ _ (pyIter _) _ _ _)); first | ((with_reducible show wpAny _ _ (call (Value.ref _) _) _ _ _); walk_at "mine call") | ((fail_if_success (with_reducible show wpAny _ _ (call (Value.ref _) _) _ _ _)); first | (k_end; wrow_close) | (walk1 <;> (try walk_at "mine fold")) | (dsimp only; walk1) | (leave1; walk_say "STEP leave1"; try dsimp only) | fail "no step"))))
  k_with "compareOp In str ref" => ((k_here; (with_reducible show wpAny _ _ (compareOp CmpOp.In (Value.str _ _) (Value.ref _)) _ _ _); (with_unfolding_all refine' in_tuple_strs ?k1 ?k2 ?_; (case k1 => exact tupK (by k_in) (by k_is)); (case k2 => kde_strs); k_whole)))
  k_with "mine call" => ((k_here; (with_reducible show wpAny _ _ (call (Value.ref 86) _) _ _ _); k_dflt (refine' Spec.use' (by k_asm) (by k_asm) (by exact is_simple_spec _ _ _ _) (by k_asm) (by k_asm) (by k_asm) (by first | exact rfl | assumption) (by ktr_room) (by ktr_units) ?_); intro r' n' h' tk' F' N' hp'; obtain ⟨e1', e2'⟩ := hp'; rw [e1'] at N'; clear e1'; subst e2'; (try dsimp only); (try k_fold)))
  k_with "ite" => (first | refine ite_t (by assumption) ?_ | refine ite_f (by assumption) ?_ | refine ite_n (by assumption) ?_)
  k_with "mine fold" => ((first | (with_reducible show wpAny _ _ (exec _ _) _ _ _) | (with_reducible show wpAny _ _ (eval (Expr.Call _ _ _ _) _) _ _ _)); ((try k_fold); (with_reducible rename Fr _ _ _ _ => lF); (with_reducible rename News _ _ _ _ => lN); (with_reducible refine fold3 lF lN ?_); clear lF lN; intro s9 m9 l9 F9 N9))
  trivial
set_option maxRecDepth 100000 in
set_option maxHeartbeats 4000000 in
theorem symbol_text_spec (w : World) (x : Str) (t : Tok) (news : List (Addr × Obj)) (hx : x.length ≤ 1000) (hok : x.cps.toList.all okCp = true) :
    Spec w 93 2 [.str x t] news (fun news' r => news' = news ∧ ∃ y t', r = .str y t' ∧ y = symText x ∧ y.length ≤ 5000) := by
  unfold Spec
  k_fill
  have h1 := item_ne hok 0
  have h2 := sub_none hok (c := 124) rfl
  have h3 := sub_none hok (c := 92) rfl
  rw [← bar_is] at h2
  rw [← back_is] at h3
  have e1 : (Str.ofString "|").length = 1 := by decide +kernel
  intro loose mean mg mb dp un gd cn cs a ccd cl outer A₀ base h₀ L m s Q E B F X N T hk hdp hun hret
  refine wpAny_call ?_
  k_dflt ktr_enter
  (try k_gentoks)
  refine fold_env ?_
  intro A9 v9
  have uA9 : A9.units = un + 3 := by rfl
  have dA9 : A9.depth = dp + 1 := by rfl
  walk_at "mine steps"
  · exact hret _ _ _ _ (by k_asm) (by k_asm) ⟨rfl, _, _, rfl, sym_t (.inl (by assumption)), by omega⟩
  · exact hret _ _ _ _ (by k_asm) (by k_asm) ⟨rfl, _, _, rfl, sym_t (.inr (by assumption)), by omega⟩
  · exact hret _ _ _ _ (by k_asm) (by k_asm) ⟨rfl, _, _, rfl, sym_f (by assumption) (by assumption), by omega⟩
  · exact hret _ _ _ _ (by k_asm) (by k_asm) ⟨rfl, _, _, rfl, sym_f (by assumption) (by assumption), by omega⟩
end
end Mine
namespace Mine
theorem rest_ZN12 : True := by
  w_top off
  k_with_none
  first | walk1 | trivial
end Mine
/- part ZN12 -/
namespace Mine
theorem dbl_len (c : Nat) : ∀ l : List Nat, (StrLaws.dbl c l).length ≤ 2 * l.length
  | [] => by simp [StrLaws.dbl]
  | k :: r => by
    have := dbl_len c r
    unfold StrLaws.dbl
    split <;> simp only [List.length_cons] <;> omega
theorem q1 : Str.ofString "\"" = ⟨#[34]⟩ := by decide +kernel
theorem q2 : Str.ofString "\"\"" = ⟨#[34, 34]⟩ := by decide +kernel
theorem repl_cps (x : Str) : (Txt.replace x (Str.ofString "\"") (Str.ofString "\"\"")).cps.toList = StrLaws.dbl 34 x.cps.toList := by
  rw [q1, q2, StrLaws.replace_double]
theorem repl_len (x : Str) : (Txt.replace x (Str.ofString "\"") (Str.ofString "\"\"")).length ≤ 2 * x.length := by
  have h := dbl_len 34 x.cps.toList
  rw [← repl_cps] at h
  simpa [Str.length] using h
theorem words_N12_1 : True := by
  w_top off
  k_with_none
  k_with "mine steps" => (repeat' (first | (k_unfold; (try dsimp only)) | (goal_lacks PySem.W.InvEndN PySem.W.KswEnd; (fail_if_success (with_reducible show wpAny _ _ (pyIter _) _ _ _)); first | ((with_reducible show wpAny _ _ (call (Value.ref _) _) _ _ _); walk_at "mine call") | ((fail_if_success (with_reducible show wpAny _ _ (call (Value.ref _) _) _ _ _)); first | (k_end; wrow_close) | (walk1 <;> (try walk_at "mine fold")) | (dsimp only; walk1) | (leave1; walk_say "STEP leave1"; try dsimp only) | fail "no step"))))
  k_with "mine fold" => ((first | (with_reducible show wpAny _ _ (exec _ _) _ _ _) | (with_reducible show wpAny _ _ (eval (Expr.Call _ _ _ _) _) _ _ _)); ((try k_fold); (with_reducible rename Fr _ _ _ _ => lF); (with_reducible rename News _ _ _ _ => lN); (with_reducible refine fold3 lF lN ?_); clear lF lN; intro s9 m9 l9 F9 N9))
  trivial
set_option maxRecDepth 100000 in
set_option maxHeartbeats 4000000 in
theorem string_text_spec (w : World) (x : Str) (t : Tok) (news : List (Addr × Obj)) (hv : x.length < 1000) :
    Spec w 100 1 [.str x t] news (fun news' r => news' = news ∧ ∃ y t', r = .str y t' ∧ y = strText x ∧ y.length ≤ 5000) := by
  unfold Spec
  k_fill
  intro loose mean mg mb dp un gd cn cs a ccd cl outer A₀ base h₀ L m s Q E B F X N T hk hdp hun hret
  have hr := repl_len x
  refine wpAny_call ?_
  k_dflt ktr_enter
  (try k_gentoks)
  refine fold_env ?_
  intro A9 v9
  have uA9 : A9.units = un + 3 := by rfl
  have dA9 : A9.depth = dp + 1 := by rfl
  k_steps
  exact hret _ _ _ _ (by k_asm) (by k_asm) ⟨rfl, _, _, rfl, rfl, by have e1 : (Str.ofString "\"").length = 1 := by decide +kernel
                                                                    omega⟩

set_option maxRecDepth 100000 in
set_option maxHeartbeats 4000000 in
theorem number_text_spec (w : World) (v : Int) (t : Tok) (news : List (Addr × Obj)) (hv : v.natAbs < 10 ^ 20) :
    Spec w 128 1 [.int v t] news (fun news' r => news' = news ∧ ∃ y t', r = .str y t' ∧ y = numText v ∧ y.length ≤ 5000) := by
  unfold Spec
  k_fill
  intro loose mean mg mb dp un gd cn cs a ccd cl outer A₀ base h₀ L m s Q E B F X N T hk hdp hun hret
  refine wpAny_call ?_
  k_dflt ktr_enter
  (try k_gentoks)
  refine fold_env ?_
  intro A9 v9
  have uA9 : A9.units = un + 3 := by rfl
  have dA9 : A9.depth = dp + 1 := by rfl
  k_steps
  · refine hret _ _ _ _ (by k_asm) (by k_asm) ⟨rfl, _, _, rfl, ?_, ?_⟩
    · rw [numText, if_pos (by assumption)]
    · have e1 : (Str.ofString "(- ").length = 3 := by decide +kernel
      have e2 : (Str.ofString ")").length = 1 := by decide +kernel
      have e3 : (Str.ofString (toString (-v))).length ≤ 21 := by
        rw [PyProof.Rows.ofString_length]; exact int_text_length_le10 (by decide) (by omega)
      omega
  · refine hret _ _ _ _ (by k_asm) (by k_asm) ⟨rfl, _, _, rfl, ?_, ?_⟩
    · rw [numText, if_neg (by assumption)]
    · have e3 : (Str.ofString (toString v)).length ≤ 21 := by
        rw [PyProof.Rows.ofString_length]; exact int_text_length_le10 (by decide) hv
      omega
end Mine
namespace Mine
theorem rest_ZN13 : True := by
  w_top off
  k_with_none
  first | walk1 | trivial
end Mine
/- part ZN13 -/
namespace Mine
section
theorem kne {a b : Str} {P : Prop} (h : (a == b) = true) (e : (a == b) = false) : P := Bool.noConfusion (h.symm.trans e)
theorem kne7 {a : Str} {P : Prop} (h : (a == a) = false) : P := Bool.noConfusion ((beq_self_eq_true a).symm.trans h)
theorem si0 (m : Nat) : seqIndex? 0 (m + 2) = some 0 := by simp [seqIndex?]; omega
theorem si1 (m : Nat) : seqIndex? 1 (m + 2) = some 1 := by simp [seqIndex?]; omega
theorem words_N13_1 : True := by
  w_top off
  k_with_none
  k_with "mine steps" => (repeat' (first | (k_unfold; (try dsimp only)) | (goal_lacks PySem.W.InvEndN PySem.W.KswEnd; (fail_if_success (with_reducible show wpAny _ _ (pyIter _) _ _ _)); first | ((with_reducible show wpAny _ _ (call (Value.ref _) _) _ _ _); walk_at "mine call") | ((fail_if_success (with_reducible show wpAny _ _ (call (Value.ref _) _) _ _ _)); first | (k_end; wrow_close) | (walk1 <;> (try walk_at "mine fold")) | (dsimp only; walk1) | (leave1; walk_say "STEP leave1"; try dsimp only) | fail "no step"))))
  k_with "mine call" => (k_dflt (first
  | ((with_reducible show wpAny _ _ (call (Value.ref 128) _) _ _ _); (refine' Spec.use' (by k_asm) (by k_asm) (by exact number_text_spec _ _ _ _ (by assumption)) (by k_asm) (by k_asm) (by k_asm) (by first | exact rfl | assumption) (by ktr_room) (by ktr_units) ?_); intro r' n' h' tk' F' N' hp'; obtain ⟨e1', y', t', e2', hy', hyl'⟩ := hp'; rw [e1'] at N'; clear e1'; subst e2'; (try dsimp only); (try k_fold))
  | ((with_reducible show wpAny _ _ (call (Value.ref 100) _) _ _ _); (refine' Spec.use' (by k_asm) (by k_asm) (by exact string_text_spec _ _ _ _ (by assumption)) (by k_asm) (by k_asm) (by k_asm) (by first | exact rfl | assumption) (by ktr_room) (by ktr_units) ?_); intro r' n' h' tk' F' N' hp'; obtain ⟨e1', y', t', e2', hy', hyl'⟩ := hp'; rw [e1'] at N'; clear e1'; subst e2'; (try dsimp only); (try k_fold))
  | ((with_reducible show wpAny _ _ (call (Value.ref 93) _) _ _ _); (refine' Spec.use' (by k_asm) (by k_asm) (by exact symbol_text_spec _ _ _ _ (by assumption) (by assumption)) (by k_asm) (by k_asm) (by k_asm) (by first | exact rfl | assumption) (by ktr_room) (by ktr_units) ?_); intro r' n' h' tk' F' N' hp'; obtain ⟨e1', y', t', e2', hy', hyl'⟩ := hp'; rw [e1'] at N'; clear e1'; subst e2'; (try dsimp only); (try k_fold))
  | ((with_reducible show wpAny _ _ (call (Value.ref 107) _) _ _ _); (refine' Spec.use' (by k_asm) (by k_asm) (by exact bits_text_spec _ _ _ _ _ _ (by assumption) (by assumption) (by assumption) (by assumption)) (by k_asm) (by k_asm) (by k_asm) (by first | exact rfl | assumption) (by ktr_room) (by ktr_units) ?_); intro r' n' h' tk' F' N' hp'; obtain ⟨e1', y', t', e2', hy', hyl'⟩ := hp'; rw [e1'] at N'; clear e1'; subst e2'; (try dsimp only); (try k_fold))
  | ((with_reducible show wpAny _ _ (call (Value.ref 121) _) _ _ _); (refine' Spec.use' (by k_asm) (by k_asm) (by exact dec_pos_spec _ _ _ _ _ _ _ (by assumption) (by assumption) (by assumption) (by assumption) (by assumption) (by assumption)) (by k_asm) (by k_asm) (by k_asm) (by first | exact rfl | assumption) (by ktr_room) (by ktr_units) ?_); intro r' n' h' tk' F' N' hp'; obtain ⟨e1', y', t', e2', hy', hyl'⟩ := hp'; rw [e1'] at N'; clear e1'; subst e2'; (try dsimp only); (try k_fold))
  | ((with_reducible show wpAny _ _ (call (Value.ref 121) _) _ _ _); (refine' Spec.use' (by k_asm) (by k_asm) (by exact dec_neg_spec _ _ _ _ (by assumption) (by assumption) (by assumption)) (by k_asm) (by k_asm) (by k_asm) (by first | exact rfl | assumption) (by ktr_room) (by ktr_units) ?_); intro r' n' h' tk' F' N' hp'; obtain ⟨e1', y', z', t', e2', hy', hz', hyl'⟩ := hp'; rw [e1'] at N'; clear e1'; subst e2'; (try dsimp only); (try k_fold))))
  k_with "subscriptTail Name Constant ref int" => ((k_here; k_dflt (first | (refine item_tupleT (News.isTup (by k_asm) (by k_mem)) (by decide) (by decide) (si0 _) (by rfl) ?_) | (refine item_tupleT (News.isTup (by k_asm) (by k_mem)) (by decide) (by decide) (si1 _) (by rfl) ?_) | (refine item_tupleT (News.isTup (by k_asm) (by k_mem)) (by decide) (by decide) (by rfl) (by rfl) ?_))))
  k_with "mine fold" => ((first | (with_reducible show wpAny _ _ (exec _ _) _ _ _) | (with_reducible show wpAny _ _ (eval (Expr.Call _ _ _ _) _) _ _ _)); ((try k_fold); (with_reducible rename Fr _ _ _ _ => lF); (with_reducible rename News _ _ _ _ => lN); (with_reducible refine fold3 lF lN ?_); clear lF lN; intro s9 m9 l9 F9 N9))
  trivial
set_option maxRecDepth 100000 in
set_option maxHeartbeats 4000000 in
theorem word_text_core (w : World) (d : Addr) (K : Str) (u : Tok) (v1 : Value) (rest : List Value) (n : Nat) (it : Item) (news : List (Addr × Obj)) (hm : (d, ({ cls := .type "tuple", data := .seq (Value.str K u :: v1 :: rest).toArray n } : Obj)) ∈ news) (hok : OkItem it)
    (k1 : (K == Str.ofString "sym") = true → ∃ x t, it = .sym x ∧ v1 = .str x t) (k2 : (K == Str.ofString "num") = true → ∃ i t, it = .num i ∧ v1 = .int i t) (k3 : (K == Str.ofString "dec") = true → ∃ tt b, it = .dec tt b ∧ DatIn news v1 (.tuple [.int tt, .int b])) (k4 : (K == Str.ofString "bits") = true → ∃ x m t t2, it = .bits x m ∧ v1 = .int x t ∧ rest = [.int m t2]) (k5 : (K == Str.ofString "str") = true → ∃ x t, it = .str x ∧ v1 = .str x t) (k6 : (K == Str.ofString "key") = true → ∃ x t, it = .key x ∧ v1 = .str x t)
    (k7 : (K == Str.ofString "sym") = false → (K == Str.ofString "num") = false → (K == Str.ofString "dec") = false → (K == Str.ofString "bits") = false → (K == Str.ofString "str") = false → (K == Str.ofString "key") = false → False) :
    Spec w 135 6 [.ref d] news (fun news' r => news' = news ∧ ∃ y t', r = .str y t' ∧ WordIs it y ∧ y.length ≤ 6000) := by
  unfold Spec
  k_fill
  intro loose mean mg mb dp un gd cn cs a ccd cl outer A₀ base h₀ L m s Q E B F X N T hk hdp hun hret
  refine wpAny_call ?_
  k_dflt ktr_enter
  (try k_gentoks)
  refine fold_env ?_
  intro A9 v9
  have uA9 : A9.units = un + 3 := by rfl
  have dA9 : A9.depth = dp + 1 := by rfl
  walk_at "mine steps"
  · obtain ⟨x, t, rfl, rfl⟩ := k1 (by assumption)
    clear k1 k2 k3 k4 k5 k6 k7
    obtain ⟨o1, o2⟩ := hok
    walk_at "mine steps"
    exact hret _ _ _ _ (by k_asm) (by k_asm) ⟨rfl, _, _, rfl, (by assumption), by omega⟩
  · obtain ⟨x, t, rfl, rfl⟩ := k2 (by assumption)
    clear k1 k2 k3 k4 k5 k6 k7
    replace hok : x.natAbs < 10 ^ 20 := hok
    walk_at "mine steps"
    exact hret _ _ _ _ (by k_asm) (by k_asm) ⟨rfl, _, _, rfl, (by assumption), by omega⟩
  · obtain ⟨tt, b, rfl, hA⟩ := k3 (by assumption)
    clear k1 k2 k3 k4 k5 k6 k7
    rcases hok with ⟨o1, o2, i, j, o3, o4, o5⟩ | ⟨o1, o2, o3⟩
    · walk_at "mine steps"
      exact hret _ _ _ _ (by k_asm) (by k_asm) ⟨rfl, _, _, rfl, Or.inl ⟨o1, i, j, o3, o4, o5, by assumption⟩, by omega⟩
    · subst o3
      walk_at "mine steps"
      exact hret _ _ _ _ (by k_asm) (by k_asm) ⟨rfl, _, _, rfl, Or.inr ⟨o1, _, by assumption, 0, 0, by decide, by decide, rfl, by assumption⟩, by omega⟩
  · obtain ⟨x, m, t, t2, rfl, rfl, rfl⟩ := k4 (by assumption)
    clear k1 k2 k3 k4 k5 k6 k7
    obtain ⟨o1, o2, o3, o4⟩ := hok
    have o2' := PySem.Flt.Hid.mk o2
    clear o2
    walk_at "mine steps"
    exact hret _ _ _ _ (by k_asm) (by k_asm) ⟨rfl, _, _, rfl, (by assumption), by omega⟩
  · obtain ⟨x, t, rfl, rfl⟩ := k5 (by assumption)
    clear k1 k2 k3 k4 k5 k6 k7
    replace hok : x.length < 1000 := hok
    walk_at "mine steps"
    exact hret _ _ _ _ (by k_asm) (by k_asm) ⟨rfl, _, _, rfl, (by assumption), by omega⟩
  · obtain ⟨x, t, rfl, rfl⟩ := k6 (by assumption)
    clear k1 k2 k3 k4 k5 k6 k7
    replace hok : x.length ≤ 1000 := hok
    have e1 := len_colon
    walk_at "mine steps"
    exact hret _ _ _ _ (by k_asm) (by k_asm) ⟨rfl, _, _, rfl, rfl, by omega⟩
theorem dat_two {news : List (Addr × Obj)} {v : Value} {K : Str} {e : Dat} (h : DatIn news v (.tuple [.str K, e])) : ∃ d u v2 n, v = .ref d ∧ (d, ({ cls := .type "tuple", data := .seq #[.str K u, v2] n } : Obj)) ∈ news ∧ DatIn news v2 e := by
  cases h with | tuple hm hA =>
  cases hA with | cons h1 hA =>
  cases hA with | cons h2 hA =>
  cases hA
  cases h1
  exact ⟨_, _, _, _, rfl, hm, h2⟩
theorem dat_int {news : List (Addr × Obj)} {v : Value} {i : Int} (h : DatIn news v (.int i)) : ∃ t, v = .int i t := by
  cases h; exact ⟨_, rfl⟩
theorem dat_st {news : List (Addr × Obj)} {v : Value} {x : Str} (h : DatIn news v (.str x)) : ∃ t, v = .str x t := by
  cases h; exact ⟨_, rfl⟩
theorem word_text_spec (w : World) (v : Value) (it : Item) (news : List (Addr × Obj)) (hD : DatIn news v it.dat) (hok : OkItem it) :
    Spec w 135 6 [v] news (fun news' r => news' = news ∧ ∃ y t', r = .str y t' ∧ WordIs it y ∧ y.length ≤ 6000) := by
  cases it with
  | num i =>
    obtain ⟨d, u, v2, n, rfl, hm, h2⟩ := dat_two hD
    obtain ⟨t, rfl⟩ := dat_int h2
    exact word_text_core w _ _ _ _ [] _ _ news hm hok (fun h => kne h (by rfl)) (fun _ => ⟨_, _, rfl, rfl⟩) (fun h => kne h (by rfl)) (fun h => kne h (by rfl)) (fun h => kne h (by rfl)) (fun h => kne h (by rfl)) (fun _ h _ _ _ _ => kne7 h)
  | str x =>
    obtain ⟨d, u, v2, n, rfl, hm, h2⟩ := dat_two hD
    obtain ⟨t, rfl⟩ := dat_st h2
    exact word_text_core w _ _ _ _ [] _ _ news hm hok (fun h => kne h (by rfl)) (fun h => kne h (by rfl)) (fun h => kne h (by rfl)) (fun h => kne h (by rfl)) (fun _ => ⟨_, _, rfl, rfl⟩) (fun h => kne h (by rfl)) (fun _ _ _ _ h _ => kne7 h)
  | sym x =>
    obtain ⟨d, u, v2, n, rfl, hm, h2⟩ := dat_two hD
    obtain ⟨t, rfl⟩ := dat_st h2
    exact word_text_core w _ _ _ _ [] _ _ news hm hok (fun _ => ⟨_, _, rfl, rfl⟩) (fun h => kne h (by rfl)) (fun h => kne h (by rfl)) (fun h => kne h (by rfl)) (fun h => kne h (by rfl)) (fun h => kne h (by rfl)) (fun h _ _ _ _ _ => kne7 h)
  | key x =>
    obtain ⟨d, u, v2, n, rfl, hm, h2⟩ := dat_two hD
    obtain ⟨t, rfl⟩ := dat_st h2
    exact word_text_core w _ _ _ _ [] _ _ news hm hok (fun h => kne h (by rfl)) (fun h => kne h (by rfl)) (fun h => kne h (by rfl)) (fun h => kne h (by rfl)) (fun h => kne h (by rfl)) (fun _ => ⟨_, _, rfl, rfl⟩) (fun _ _ _ _ _ h => kne7 h)
  | dec tt b =>
    obtain ⟨d, u, v2, n, rfl, hm, h2⟩ := dat_two hD
    exact word_text_core w _ _ _ _ [] _ _ news hm hok (fun h => kne h (by rfl)) (fun h => kne h (by rfl)) (fun _ => ⟨_, _, rfl, h2⟩) (fun h => kne h (by rfl)) (fun h => kne h (by rfl)) (fun h => kne h (by rfl)) (fun _ _ h _ _ _ => kne7 h)
  | bits x n =>
    cases hD with | tuple hm hA =>
    cases hA with | cons h1 hA =>
    cases hA with | cons h2 hA =>
    cases hA with | cons h3 hA =>
    cases hA
    cases h1
    cases h2
    cases h3
    exact word_text_core w _ _ _ _ [_] _ _ news hm hok (fun h => kne h (by rfl)) (fun h => kne h (by rfl)) (fun h => kne h (by rfl)) (fun _ => ⟨_, _, _, _, rfl, rfl, rfl⟩) (fun h => kne h (by rfl)) (fun h => kne h (by rfl)) (fun _ _ _ h _ _ => kne7 h)
end
end Mine
/- part ZA1 -/
namespace Mine
/-! digit strings -/
def valB (b : Nat) (l : List Nat) : Nat := l.foldl (fun acc c => acc * b + (c - 48)) 0
def AllB (b : Nat) (l : List Nat) : Prop := ∀ c ∈ l, 48 ≤ c ∧ c < 48 + b
theorem foldl_valB (b : Nat) : ∀ (l : List Nat) (a : Nat), l.foldl (fun acc c => acc * b + (c - 48)) a = a * b ^ l.length + valB b l
  | [], a => by simp [valB]
  | c :: l, a => by
    have e : valB b (c :: l) = (0 * b + (c - 48)) * b ^ l.length + valB b l := by
      show List.foldl _ 0 (c :: l) = _
      rw [List.foldl_cons, foldl_valB b l]
    rw [List.foldl_cons, foldl_valB b l, e, List.length_cons, Nat.pow_succ]
    rw [Nat.add_mul, Nat.zero_mul, Nat.zero_add, Nat.mul_assoc, Nat.mul_comm b]
    omega
theorem valB_nil (b : Nat) : valB b [] = 0 := rfl
theorem valB_cons (b c : Nat) (l : List Nat) : valB b (c :: l) = (c - 48) * b ^ l.length + valB b l := by
  rw [valB, List.foldl_cons, foldl_valB]; simp
theorem valB_append (b : Nat) (l r : List Nat) : valB b (l ++ r) = valB b l * b ^ r.length + valB b r := by
  rw [valB, List.foldl_append, foldl_valB]; rfl
theorem valB_lt {b : Nat} : ∀ {l : List Nat}, AllB b l → valB b l < b ^ l.length
  | [], _ => by simp [valB]
  | c :: l, h => by
    have h1 := h c (.head _)
    have h2 := valB_lt (l := l) fun d hd => h d (.tail _ hd)
    rw [valB_cons, List.length_cons, Nat.pow_succ]
    have : (c - 48 + 1) * b ^ l.length ≤ b * b ^ l.length := Nat.mul_le_mul_right _ (by omega)
    rw [Nat.add_mul, Nat.one_mul] at this
    rw [Nat.mul_comm (b ^ l.length)]
    omega
theorem valB_inj {b : Nat} : ∀ {l r : List Nat}, AllB b l → AllB b r → l.length = r.length → valB b l = valB b r → l = r
  | [], [], _, _, _, _ => rfl
  | [], _ :: _, _, _, h, _ => by cases h
  | _ :: _, [], _, _, h, _ => by cases h
  | c :: l, d :: r, hl, hr, hn, hv => by
    have e : l.length = r.length := by simpa using hn
    have h1 := hl c (.head _)
    have h2 := hr d (.head _)
    have hl' : AllB b l := fun x hx => hl x (.tail _ hx)
    have hr' : AllB b r := fun x hx => hr x (.tail _ hx)
    have b1 := valB_lt hl'
    have b2 := valB_lt hr'
    rw [valB_cons, valB_cons, ← e] at hv
    rw [← e] at b2
    have hcd : c - 48 = d - 48 := by
      rcases Nat.lt_trichotomy (c - 48) (d - 48) with q | q | q
      · have : (c - 48 + 1) * b ^ l.length ≤ (d - 48) * b ^ l.length := Nat.mul_le_mul_right _ q
        rw [Nat.add_mul, Nat.one_mul] at this
        omega
      · exact q
      · have : (d - 48 + 1) * b ^ l.length ≤ (c - 48) * b ^ l.length := Nat.mul_le_mul_right _ q
        rw [Nat.add_mul, Nat.one_mul] at this
        omega
    rw [hcd] at hv
    have := valB_inj hl' hr' e (by omega)
    rw [this]
    congr 1
    omega
theorem valB_zeros (b n : Nat) (l : List Nat) : valB b (List.replicate n 48 ++ l) = valB b l := by
  rw [valB_append]
  have : ∀ n, valB b (List.replicate n 48) = 0 := by
    intro n
    induction n with
    | zero => rfl
    | succ n ih => rw [List.replicate_succ, valB_cons, ih]; simp
  rw [this]; simp
theorem allB_zeros {b n : Nat} {l : List Nat} (hb : 0 < b) (h : AllB b l) : AllB b (List.replicate n 48 ++ l) := by
  intro c hc
  rcases List.mem_append.mp hc with hc | hc
  · rw [List.eq_of_mem_replicate hc]; omega
  · exact h c hc

/-- the state of the adding loop behind i figures -/
def AInv (b n : Nat) (X Y : List Nat) (i : Nat) (F : List Nat) (carry : Int) : Prop :=
  0 ≤ carry ∧ carry ≤ 1 ∧ F.length = i ∧ AllB b F ∧ (valB b (X.drop (n - i)) : Int) + valB b (Y.drop (n - i)) = valB b F + carry * (b ^ i : Nat)
theorem AInv.start {b n : Nat} {X Y : List Nat} (hX : X.length = n) (hY : Y.length = n) : AInv b n X Y 0 [] 0 := by
  refine ⟨by omega, by omega, rfl, fun _ h => (nomatch h), ?_⟩
  rw [Nat.sub_zero, List.drop_of_length_le (by omega), List.drop_of_length_le (by omega)]
  simp [valB]
theorem AInv.step {b n : Nat} {X Y : List Nat} {i : Nat} {F : List Nat} {carry : Int} (h : AInv b n X Y i F carry) (hb : 2 ≤ b) (hX : X.length = n) (hY : Y.length = n) (hi : i < n) (hXa : AllB b X) (hYa : AllB b Y)
    {c d : Nat} (hc : X[n - 1 - i]? = some c) (hd : Y[n - 1 - i]? = some d) {f : Int} (hf : f = ((c - 48 : Nat) : Int) + ((d - 48 : Nat) : Int) + carry) :
    AInv b n X Y (i + 1) ((48 + (f.fmod b).toNat) :: F) (f.fdiv b) := by
  obtain ⟨h1, h2, h3, h4, h5⟩ := h
  have mc := hXa c (List.mem_of_getElem? hc)
  have md := hYa d (List.mem_of_getElem? hd)
  have f0 : 0 ≤ f := by omega
  have f1 : f < 2 * b := by omega
  rw [Int.fmod_eq_emod_of_nonneg _ (by omega), Int.fdiv_eq_ediv_of_nonneg _ (by omega)]
  have hq : f / b ≤ 1 := by
    have : f / (b : Int) < 2 := Int.ediv_lt_of_lt_mul (by omega) (by omega)
    omega
  have hr0 : 0 ≤ f % b := Int.emod_nonneg _ (by omega)
  have hr1 : f % b < b := Int.emod_lt_of_pos _ (by omega)
  refine ⟨Int.ediv_nonneg f0 (by omega), hq, by rw [List.length_cons, h3], ?_, ?_⟩
  · intro x hx
    rcases List.mem_cons.mp hx with rfl | hx
    · omega
    · exact h4 x hx
  · have eX : X.drop (n - (i + 1)) = c :: X.drop (n - i) := by
      have : n - (i + 1) < X.length := by omega
      rw [List.drop_eq_getElem_cons this]
      congr 1
      · rw [List.getElem?_eq_getElem (by omega)] at hc
        injection hc with hc
        rw [← hc]; congr 1; omega
      · congr 1; omega
    have eY : Y.drop (n - (i + 1)) = d :: Y.drop (n - i) := by
      have : n - (i + 1) < Y.length := by omega
      rw [List.drop_eq_getElem_cons this]
      congr 1
      · rw [List.getElem?_eq_getElem (by omega)] at hd
        injection hd with hd
        rw [← hd]; congr 1; omega
      · congr 1; omega
    have lX : (X.drop (n - i)).length = i := by rw [List.length_drop]; omega
    have lY : (Y.drop (n - i)).length = i := by rw [List.length_drop]; omega
    rw [eX, eY, valB_cons, valB_cons, valB_cons, lX, lY, h3, Nat.pow_succ]
    have e : (48 + (f % (b : Int)).toNat - 48 : Nat) = (f % (b : Int)).toNat := by omega
    rw [e]
    have er : (((f % (b : Int)).toNat : Nat) : Int) = f % b := Int.toNat_of_nonneg hr0
    simp only [Int.natCast_add, Int.natCast_mul, er]
    have ef : f = f % b + f / b * b := by
      have := Int.emod_add_mul_ediv f b
      rw [Int.mul_comm]; omega
    generalize ((b ^ i : Nat) : Int) = p at *
    generalize (valB b (X.drop (n - i)) : Int) = vx at *
    generalize (valB b (Y.drop (n - i)) : Int) = vy at *
    have key : ((c - 48 : Nat) : Int) * p + vx + (((d - 48 : Nat) : Int) * p + vy) = (f - carry) * p + (vx + vy) := by
      rw [hf, show ((c - 48 : Nat) : Int) + ((d - 48 : Nat) : Int) + carry - carry = ((c - 48 : Nat) : Int) + ((d - 48 : Nat) : Int) by omega, Int.add_mul]
      omega
    rw [key, h5, Int.sub_mul]
    have : f * p = (f % b) * p + f / b * (p * b) := by
      conv => lhs; rw [ef, Int.add_mul]
      rw [Int.mul_assoc, Int.mul_comm (b : Int) p]
    rw [this]
    omega
/-- what the sum by figures comes to -/
def Summed (b : Nat) (X Y Z : List Nat) : Prop :=
  AllB b Z ∧ valB b Z = valB b X + valB b Y ∧ ((Z.length = max X.length Y.length ∧ valB b X + valB b Y < b ^ (max X.length Y.length)) ∨ (Z.length = max X.length Y.length + 1 ∧ b ^ (max X.length Y.length) ≤ valB b X + valB b Y))
theorem AInv.fin {b n : Nat} {X Y F : List Nat} {carry : Int} (hb : 2 ≤ b) {m k : Nat} (hn : n = max X.length Y.length)
    (h : AInv b n (List.replicate m 48 ++ X) (List.replicate k 48 ++ Y) n F carry) : Summed b X Y (if carry = 1 then 49 :: F else F) := by
  obtain ⟨h1, h2, h3, h4, h5⟩ := h
  rw [Nat.sub_self, List.drop_zero, List.drop_zero, valB_zeros, valB_zeros] at h5
  have h6 := valB_lt h4
  rw [h3] at h6
  by_cases hc : carry = 1
  · rw [if_pos hc]
    rw [hc] at h5
    refine ⟨?_, ?_, .inr ⟨?_, ?_⟩⟩
    · intro x hx
      rcases List.mem_cons.mp hx with rfl | hx
      · omega
      · exact h4 x hx
    · rw [valB_cons, h3]; omega
    · rw [List.length_cons, h3, hn]
    · rw [← hn]; omega
  · rw [if_neg hc]
    have : carry = 0 := by omega
    rw [this] at h5
    refine ⟨h4, by omega, .inl ⟨by rw [h3, hn], by rw [← hn]; omega⟩⟩
end Mine
namespace Mine
theorem rest_ZN14 : True := by
  w_top off
  k_with_none
  first | walk1 | trivial
end Mine
/- part ZN14 -/
namespace Mine
abbrev mx (x y : Str) : Int := if (y.length : Int) > (x.length : Int) then (y.length : Int) else (x.length : Int)
abbrev rj (x : Str) (m : Int) : Str := Txt.rjustF x m ((Str.ofString "0").cps.getD 0 0)
theorem rj_list (x : Str) (m : Int) : (rj x m).cps.toList = List.replicate (m.toNat - x.length) 48 ++ x.cps.toList := by
  rw [rj, rjustF_list]; rfl
theorem rj_len {x : Str} {m : Int} (h : (x.length : Int) ≤ m) : ((rj x m).length : Int) = m := by
  have e : (rj x m).length = (rj x m).cps.toList.length := Array.length_toList.symm
  have e2 : x.length = x.cps.toList.length := Array.length_toList.symm
  rw [e, rj_list, List.length_append, List.length_replicate]
  omega
theorem mx_is (x y : Str) : mx x y = ((max x.length y.length : Nat) : Int) := by
  unfold mx; split <;> omega
theorem item_at {X : Str} {k : Int} (h0 : 0 ≤ k) (h1 : k < X.length) : ∃ c, X.cps.toList[k.toNat]? = some c ∧ Txt.item X k = ⟨#[c]⟩ := by
  have hk : k.toNat < X.cps.toList.length := by
    have e2 : X.length = X.cps.toList.length := Array.length_toList.symm
    omega
  refine ⟨X.cps.toList[k.toNat], List.getElem?_eq_getElem hk, ?_⟩
  have hs : seqIndex? k X.length = some k.toNat := by
    unfold seqIndex?
    simp only []
    (repeat' split) <;> first | omega | (simp_all; done) | (simp_all; omega) | rfl
  unfold Txt.item Txt.charAt
  rw [hs]
  have : X.cps[k.toNat]? = some X.cps.toList[k.toNat] := by
    rw [← Array.getElem?_toList]; exact List.getElem?_eq_getElem hk
  simp only [Option.bind_some, this, Option.getD_some]
theorem int_digit {c b : Nat} (hc : 48 ≤ c ∧ c < 48 + b) (hb : b ≤ 10) : PySem.intText? ⟨#[c]⟩ = some ((c - 48 : Nat) : Int) := by
  rw [PySem.intText_digits (x := ⟨#[c]⟩) (by intro d hd; simp at hd; omega) (by simp) (show 1 ≤ 4300 by decide)]
  simp [NumText.digitsVal]
theorem digit_str {r : Int} (h0 : 0 ≤ r) (h1 : r < 10) : (Str.ofString (toString r)).cps.toList = [48 + r.toNat] := by
  obtain ⟨n, rfl⟩ := Int.eq_ofNat_of_zero_le h0
  have key : ∀ n : Nat, n < 10 → (Str.ofString (toString (n : Int))).cps.toList = [48 + n] := by decide +kernel
  exact key n (Int.ofNat_lt.mp h1)
theorem digit_cat {r : Int} {fd : Str} (h0 : 0 ≤ r) (h1 : r < 10) : (Str.ofString (toString r) ++ fd).cps.toList = (48 + r.toNat) :: fd.cps.toList := by
  rw [Str.cps_append, Array.toList_append, digit_str h0 h1]; rfl
theorem one_cat {fd : Str} : (Str.ofString "1" ++ fd).cps.toList = 49 :: fd.cps.toList := by
  rw [Str.cps_append, Array.toList_append, show (Str.ofString "1").cps.toList = [49] by decide +kernel]; rfl
theorem nil_cat {fd : Str} : (Str.ofString "" ++ fd).cps.toList = fd.cps.toList := by
  rw [Str.cps_append, Array.toList_append, show (Str.ofString "").cps.toList = [] by decide +kernel]; rfl
theorem mem_a {q1 q2 q3 : Addr × Obj} {news own : List (Addr × Obj)} : ∀ p ∈ q2 :: q3 :: news, p ∈ q1 :: q2 :: q3 :: (news ++ own) := by
  intro p hp
  rcases List.mem_cons.mp hp with rfl | hp
  · exact .tail _ (.head _)
  · rcases List.mem_cons.mp hp with rfl | hp
    · exact .tail _ (.tail _ (.head _))
    · exact .tail _ (.tail _ (.tail _ (List.mem_append_left _ hp)))
theorem mem_b {q1 q2 q3 : Addr × Obj} {news own : List (Addr × Obj)} : ∀ p ∈ own, p ∈ q1 :: q2 :: q3 :: (news ++ own) := fun p hp => .tail _ (.tail _ (.tail _ (List.mem_append_right _ hp)))
theorem len_one : (Str.ofString "1").length = 1 := by decide +kernel
theorem len_nil : (Str.ofString "").length = 0 := by decide +kernel
theorem len_list (x : Str) : x.cps.toList.length = x.length := Array.length_toList
section
variable {prog : Program} {w : World} {A : Around} {E : Value → Shared → Prop} {s : Shared} {value slice : PySem.Expr} {x : Str} {t : Tok} {Q : Value → Shared → Prop}
theorem item_dig {k : Int} {u : Tok} {c : Nat} (he : Txt.item x k = ⟨#[c]⟩) (h0 : 0 ≤ k) (h2 : k < x.length) (h3 : x.length ≤ 1000) (h : Q (.str ⟨#[c]⟩ s.toks) { s with toks := s.toks + 1 })
    (hs : subscripted slice false (.str x t) (.int k u) = operate [.str x t, .int k u] (getItem (.str x t) (.int k u)) := by with_unfolding_all rfl)
    (ht : ∀ r, letTemporaryGo value (.str x t) r = pure () := by intro _; with_unfolding_all rfl) :
    wpAny (model prog w) A (subscriptTail value slice (.str x t) (.int k u)) Q E s :=
  item_str (by unfold fitsSsize; simp; omega) (by omega) h2 (fun _ => he ▸ h) hs ht
end
section
theorem words_N14_1 : True := by
  w_top off
  k_with_none
  k_with "mine steps" => (repeat' (first | (k_unfold; (try dsimp only)) | (goal_lacks PySem.W.InvEndN PySem.W.KswEnd; (fail_if_success (with_reducible show wpAny _ _ (pyIter _) _ _ _)); first | ((with_reducible show wpAny _ _ (call (Value.ref _) _) _ _ _); walk_at "mine call") | ((fail_if_success (with_reducible show wpAny _ _ (call (Value.ref _) _) _ _ _)); first | (k_end; wrow_close) | (walk1 <;> (try walk_at "mine fold")) | (dsimp only; walk1) | (leave1; walk_say "STEP leave1"; try dsimp only) | fail "no step"))))
  k_with "subscriptTail Name Name str int" => ((k_here; (with_reducible show wpAny _ _ (subscriptTail _ _ (Value.str _ _) (Value.int _ _)) _ _ _); (with_unfolding_all refine' item_dig ?he ?h0 ?h2 ?h3 ?_; (case he => assumption); (case h0 => assumption); (case h2 => assumption); (case h3 => assumption); k_whole)))
  k_with "call type:int" => ((k_here; (with_reducible show wpAny _ _ (call (Value.type "int") [Value.str _ _]) _ _ _); refine PySem.W.KIN.call_text (int_digit (by assumption) (by assumption)) (show 1 ≤ 640 by decide) ?_))
  k_with "binaryOp FloorDiv int int" => ((k_here; refine' floordiv_int ?kbe ?_ (Or.inl (PyProof.noPylong_of_log2 ?kbp)); (case kbe => assumption); (case kbp => exact log_ok (by assumption))))
  k_with "mine fold" => ((first | (with_reducible show wpAny _ _ (exec _ _) _ _ _) | (with_reducible show wpAny _ _ (eval (Expr.Call _ _ _ _) _) _ _ _)); ((try k_fold); (with_reducible rename Fr _ _ _ _ => lF); (with_reducible rename News _ _ _ _ => lN); (with_reducible refine fold3 lF lN ?_); clear lF lN; intro s9 m9 l9 F9 N9))
  trivial
set_option maxRecDepth 100000 in
set_option maxHeartbeats 4000000 in
theorem added_spec (w : World) (x y : Str) (b : Nat) (t t2 t3 : Tok) (news : List (Addr × Obj)) (hx : x.length ≤ 60) (hy : y.length ≤ 60) (hb : 2 ≤ b ∧ b ≤ 10) (hxa : AllB b x.cps.toList) (hya : AllB b y.cps.toList) :
    Spec w 163 1 [.str x t, .str y t2, .int b t3] news (fun news' r => news' = news ∧ ∃ z t', r = .str z t' ∧ Summed b x.cps.toList y.cps.toList z.cps.toList ∧ z.length ≤ 100) := by
  unfold Spec
  k_fill
  intro loose mean mg mb dp un gd cn cs a ccd cl outer A₀ base h₀ L m s Q E B F X N T hk hdp hun hret
  have hmx := mx_is x y
  have hX : ((rj x (mx x y)).length : Int) = mx x y := rj_len (by omega)
  have hY : ((rj y (mx x y)).length : Int) = mx x y := rj_len (by omega)
  have hXa : AllB b (rj x (mx x y)).cps.toList := by rw [rj_list]; exact allB_zeros (by omega) hxa
  have hYa : AllB b (rj y (mx x y)).cps.toList := by rw [rj_list]; exact allB_zeros (by omega) hya
  have hXl := len_list (rj x (mx x y))
  have hYl := len_list (rj y (mx x y))
  have hbn : (b : Int) ≠ 0 := by omega
  have hbk : (b : Int).natAbs < 2 ^ 60 := by omega
  have hb10 := hb.2
  refine wpAny_call ?_
  k_dflt ktr_enter
  (try k_gentoks)
  refine fold_env ?_
  intro A9 v9
  have uA9 : A9.units = un + 3 := by rfl
  have dA9 : A9.depth = dp + 1 := by rfl
  walk_at "mine steps"
  rename IsRange _ _ _ _ _ _ _ _ => rgX
  rename Fr _ _ _ _ => lF'
  rename News _ _ _ _ => lN'
  refine' kst_rangeD (σ := Str × Tok × Int × Tok) (n := (mx x y).toNat) (fun _ => _) (fun σ => [(Str.ofString "found", Value.str σ.1 σ.2.1), (Str.ofString "carry", Value.int σ.2.2.1 σ.2.2.2)]) (fun _ => True) [Str.ofString "figure"] (fun pre σ => AInv b (mx x y).toNat (rj x (mx x y)).cps.toList (rj y (mx x y)).cps.toList pre.length σ.1.cps.toList σ.2.2.1) (Str.ofString "", _, 0, _) rfl rgX ?ks ?kn lF' lN' trivial (List.forall_mem_cons.mpr ⟨rfl, List.forall_mem_cons.mpr ⟨rfl, List.forall_mem_nil _⟩⟩) ?kp ?kt ?kd
  case ks => exact small_down (by omega) (by omega) (by omega) (by omega)
  case kn => rw [rangeSize_down]; split <;> omega
  case kp => exact AInv.start (by omega) (by omega)
  case kt =>
    intro σ pre k t u h tk own hke hlt hof _ hp F1 N1
    k_fold
    obtain ⟨fd, ft, ca, ct⟩ := σ
    dsimp only [kstB] at F1
    dsimp only at hp
    simp (config := {zetaDelta := true}) only [List.cons_append] at N1
    have ek' : k = mx x y - 1 - (pre.length : Int) := hke
    have hk0 : 0 ≤ k := by omega
    have hkX : k < ((rj x (mx x y)).length : Int) := by omega
    have hkY : k < ((rj y (mx x y)).length : Int) := by omega
    have hXs : (rj x (mx x y)).length ≤ 1000 := by omega
    have hYs : (rj y (mx x y)).length ≤ 1000 := by omega
    obtain ⟨c, hc1, hc2⟩ := item_at hk0 hkX
    obtain ⟨d, hd1, hd2⟩ := item_at hk0 hkY
    have hcb := hXa c (List.mem_of_getElem? hc1)
    have hdb := hYa d (List.mem_of_getElem? hd1)
    have ha0 := hp.1
    have ha1 := hp.2.1
    have hfl := hp.2.2.1
    rw [len_list] at hfl
    have hfl2 : fd.length ≤ 60 := by omega
    have hr0 := Int.fmod_nonneg_of_pos (((c - 48 : Nat) : Int) + ((d - 48 : Nat) : Int) + ca) (show (0 : Int) < b by omega)
    have hr1 := Int.fmod_lt_of_pos (((c - 48 : Nat) : Int) + ((d - 48 : Nat) : Int) + ca) (show (0 : Int) < b by omega)
    have hrk : ((((c - 48 : Nat) : Int) + ((d - 48 : Nat) : Int) + ca).fmod b).natAbs < 10 ^ 2 := by omega
    have hrl : (Str.ofString (toString ((((c - 48 : Nat) : Int) + ((d - 48 : Nat) : Int) + ca).fmod b))).length ≤ 3 := by
      rw [PyProof.Rows.ofString_length]; exact int_text_length_le10 (by decide) hrk
    walk_at "mine steps"
    rename Fr _ _ _ _ => fE
    rename News _ _ _ _ => nE
    refine' kst_end (σ := Str × Tok × Int × Tok) (_, _, _, _) fE nE mem_a mem_b rfl trivial (List.forall_mem_cons.mpr ⟨rfl, List.forall_mem_cons.mpr ⟨rfl, List.forall_mem_nil _⟩⟩) ?e3 ?e4
    case e3 =>
      intro z h1 h2 h3
      have n1 : z ≠ Str.ofString "found" := h2 _ (.head _)
      have n2 : z ≠ Str.ofString "carry" := h2 _ (.tail _ (.head _))
      have n3 : z ≠ Str.ofString "figure" := fun e => by rw [e] at h3; simp at h3
      have n4 : ¬ ([Str.ofString "figure"].contains z = true) := by rw [h3]; decide
      dsimp (config := {zetaDelta := true}) only
      rw [if_neg n1, if_neg n2, if_neg n3, if_neg h1, if_neg n1, if_neg n2, if_neg n4]
    case e4 =>
      show AInv b _ _ _ (pre ++ [k]).length (Str.ofString (toString _) ++ fd).cps.toList _
      rw [List.length_append, List.length_singleton, digit_cat hr0 (by omega)]
      exact AInv.step hp hb.1 (by omega) (by omega) (by omega) hXa hYa (by rw [show (mx x y).toNat - 1 - pre.length = k.toNat by omega]; exact hc1) (by rw [show (mx x y).toNat - 1 - pre.length = k.toNat by omega]; exact hd1) rfl
  case kd =>
    intro σ u h tk _ hp F1 N1
    obtain ⟨fd, ft, ca, ct⟩ := σ
    dsimp only [kstB] at F1
    dsimp only at hp
    rw [downKs_length] at hp
    have hfl := hp.2.2.1
    rw [len_list] at hfl
    have hfl2 : fd.length ≤ 60 := by omega
    walk_at "mine steps"
    · refine hret _ _ _ _ (by k_asm) (cb_drop (by k_asm) (fun p hp => List.Mem.tail _ (List.Mem.tail _ hp))) ⟨rfl, _, _, rfl, ?_, by have := len_one; omega⟩
      rw [rj_list, rj_list] at hp
      have := AInv.fin hb.1 (X := x.cps.toList) (Y := y.cps.toList) (by rw [len_list, len_list]; omega) hp
      rw [if_pos (by assumption)] at this
      rw [one_cat]; exact this
    · refine hret _ _ _ _ (by k_asm) (cb_drop (by k_asm) (fun p hp => List.Mem.tail _ (List.Mem.tail _ hp))) ⟨rfl, _, _, rfl, ?_, by have := len_nil; omega⟩
      rw [rj_list, rj_list] at hp
      have := AInv.fin hb.1 (X := x.cps.toList) (Y := y.cps.toList) (by rw [len_list, len_list]; omega) hp
      rw [if_neg (by assumption)] at this
      rw [nil_cat]; exact this
end
end Mine
/- part ZA2 -/
namespace Mine
theorem dot_split : ∀ {a b a' b' : List Nat}, 46 ∉ a → 46 ∉ a' → a ++ 46 :: b = a' ++ 46 :: b' → a = a' ∧ b = b'
  | [], _, [], _, _, _, e => by injection e with _ e; exact ⟨rfl, e⟩
  | [], _, c :: _, _, _, h, e => by injection e with e _; exact absurd (e ▸ List.Mem.head _) h
  | c :: _, _, [], _, h, _, e => by injection e with e _; exact absurd (e ▸ List.Mem.head _) h
  | c :: a, b, d :: a', b', h1, h2, e => by
    injection e with e1 e2
    obtain ⟨r1, r2⟩ := dot_split (fun m => h1 (.tail _ m)) (fun m => h2 (.tail _ m)) e2
    exact ⟨by rw [e1, r1], r2⟩
theorem allB_dot {l : List Nat} (h : AllB 10 l) : 46 ∉ l := fun m => by have := h 46 m; omega
/-- the noughts at the end taken off but one -/
def TrimInv (r cur : List Nat) : Prop := ∃ k, r = cur ++ List.replicate k 48
def Trimmed (r cur : List Nat) : Prop := TrimInv r cur ∧ cur ≠ [] ∧ (cur.length = 1 ∨ cur.getLast? ≠ some 48)
theorem TrimInv.step {r c : List Nat} (h : TrimInv r c) (hl : c.getLast? = some 48) : TrimInv r c.dropLast := by
  obtain ⟨k, rfl⟩ := h
  refine ⟨k + 1, ?_⟩
  obtain ⟨d, rfl⟩ : ∃ d, c = d ++ [48] := by
    obtain ⟨d, e⟩ := List.getLast?_eq_some_iff.mp hl
    exact ⟨d, e⟩
  rw [List.dropLast_concat, List.replicate_succ]; simp
end Mine
namespace Mine
theorem rest_ZN15 : True := by
  w_top off
  k_with_none
  first | walk1 | trivial
end Mine
/- part ZN15 -/
namespace Mine
section
open PySem.Builtin PySem.Builtin.Str
theorem idx_to_neg {n P : Nat} (h1 : 1 ≤ P) (h2 : P ≤ n) : strSliceIndices none (some (-(P : Int))) 1 n = strSliceIndices none (some ((n : Int) - P)) 1 n := by
  have h0 : (-(P : Int)) < 0 := by omega
  have h3 : ¬ ((n : Int) - P < 0) := by omega
  have e : -(P : Int) + n = (n : Int) - P := by omega
  simp only [strSliceIndices, h0, h3, if_true, if_false, e]
theorem idx_from_neg {n P : Nat} (h1 : 1 ≤ P) (h2 : P ≤ n) : strSliceIndices (some (-(P : Int))) none 1 n = strSliceIndices (some ((n : Int) - P)) none 1 n := by
  have h0 : (-(P : Int)) < 0 := by omega
  have h3 : ¬ ((n : Int) - P < 0) := by omega
  have e : -(P : Int) + n = (n : Int) - P := by omega
  simp only [strSliceIndices, h0, h3, if_true, if_false, e]
theorem slice_from {x : Str} {i : Nat} (h : i ≤ x.length) : (Txt.slice x (some (i : Int)) none).cps.toList = x.cps.toList.drop i := by
  rw [slice_from_eq (b := (x.length : Int)) (by omega) (by omega) rfl]
  show List.take _ (List.drop _ _) = _
  rw [Int.toNat_natCast, List.take_of_length_le]
  have e : x.cps.toList.length = x.length := Array.length_toList
  rw [List.length_drop]; omega
theorem slice_to {x : Str} {j : Nat} (h : j ≤ x.length) : (Txt.slice x none (some (j : Int))).cps.toList = x.cps.toList.take j := by
  rw [beq_iff_eq.mp (slice_closes_toL (x := x) (j := (j : Int)) (by omega) (by omega))]
  show List.take _ (List.drop _ _) = _
  simp
theorem slice_to_neg {x : Str} {P : Nat} (h1 : 1 ≤ P) (h2 : P ≤ x.length) : (Txt.slice x none (some (-(P : Int)))).cps.toList = x.cps.toList.take (x.length - P) := by
  rw [← slice_to (j := x.length - P) (by omega)]
  have e : (((x.length - P : Nat) : Int)) = (x.length : Int) - P := by omega
  rw [e]
  unfold Txt.slice
  rw [idx_to_neg h1 h2]
theorem slice_from_neg {x : Str} {P : Nat} (h1 : 1 ≤ P) (h2 : P ≤ x.length) : (Txt.slice x (some (-(P : Int))) none).cps.toList = x.cps.toList.drop (x.length - P) := by
  rw [← slice_from (i := x.length - P) (by omega)]
  have e : (((x.length - P : Nat) : Int)) = (x.length : Int) - P := by omega
  rw [e]
  unfold Txt.slice
  rw [idx_from_neg h1 h2]
end
theorem dot_is : Str.ofString "." = ⟨#[46]⟩ := by decide +kernel
theorem cat_dot (A B : Str) : (A ++ Str.ofString "." ++ B).cps.toList = A.cps.toList ++ 46 :: B.cps.toList := by
  rw [dot_is]; simp only [Str.cps_append, Array.toList_append]; simp
theorem str_ext {x y : Str} (h : x.cps.toList = y.cps.toList) : x = y := PySem.Str.ext' (Array.toList_inj.mp h)
theorem split_dot {A B : Str} (ha : 46 ∉ A.cps.toList) (hb : 46 ∉ B.cps.toList) : Txt.split (A ++ Str.ofString "." ++ B) (Str.ofString ".") = [A, B] := by
  have hf := StrLaws.split_free (A ++ Str.ofString "." ++ B) 46
  have hj := StrLaws.join_split (A ++ Str.ofString "." ++ B) (Str.ofString ".")
  rw [dot_is] at *
  generalize Txt.split (A ++ ⟨#[46]⟩ ++ B) ⟨#[46]⟩ = parts at *
  have hc : (A ++ ⟨#[46]⟩ ++ B : Str).cps.toList = A.cps.toList ++ 46 :: B.cps.toList := by
    simp only [Str.cps_append, Array.toList_append]; simp
  match parts, hf, hj with
  | [], _, hj =>
    exfalso
    have := congrArg (fun x : Str => x.cps.toList) hj
    rw [hc] at this
    have e : (Str.join (⟨#[46]⟩ : Str) []).cps.toList = [] := rfl
    rw [e] at this
    exact absurd this (by simp)
  | [p], hf, hj =>
    exfalso
    have := congrArg (fun x : Str => x.cps.toList) hj
    rw [hc] at this
    have e : (Str.join (⟨#[46]⟩ : Str) [p]).cps.toList = p.cps.toList := rfl
    rw [e] at this
    exact hf p (.head _) (by rw [this]; simp)
  | p :: q :: r, hf, hj =>
    have := congrArg (fun x : Str => x.cps.toList) hj
    rw [hc] at this
    have e : (Str.join (⟨#[46]⟩ : Str) (p :: q :: r)).cps.toList = p.cps.toList ++ 46 :: (Str.join (⟨#[46]⟩ : Str) (q :: r)).cps.toList := by
      show (p ++ ⟨#[46]⟩ ++ Str.join (⟨#[46]⟩ : Str) (q :: r) : Str).cps.toList = _
      simp only [Str.cps_append, Array.toList_append]; simp
    rw [e] at this
    obtain ⟨e1, e2⟩ := dot_split (hf p (.head _)) ha this
    match r, e2 with
    | [], e2 =>
      have e3 : (Str.join (⟨#[46]⟩ : Str) [q]).cps.toList = q.cps.toList := rfl
      rw [e3] at e2
      rw [str_ext e1, str_ext e2]
    | q2 :: r, e2 =>
      exfalso
      apply hb
      rw [← e2]
      show 46 ∈ (q ++ ⟨#[46]⟩ ++ Str.join (⟨#[46]⟩ : Str) (q2 :: r) : Str).cps.toList
      simp only [Str.cps_append, Array.toList_append]; simp
abbrev lj (x : Str) (m : Int) : Str := Txt.ljustF x m ((Str.ofString "0").cps.getD 0 0)
theorem lj_list (x : Str) (m : Int) : (lj x m).cps.toList = x.cps.toList ++ List.replicate (m.toNat - x.length) 48 := by
  rw [lj, ljustF_list]; rfl
theorem lj_len {x : Str} {m : Int} (h : (x.length : Int) ≤ m) : ((lj x m).length : Int) = m := by
  have e := len_list (lj x m)
  have e2 := len_list x
  rw [lj_list, List.length_append, List.length_replicate] at e
  omega
theorem allB_app {b : Nat} {l r : List Nat} (h1 : AllB b l) (h2 : AllB b r) : AllB b (l ++ r) := fun c hc => (List.mem_append.mp hc).elim (h1 c) (h2 c)
theorem allB_rep {b n : Nat} (hb : 0 < b) : AllB b (List.replicate n 48) := fun c hc => by rw [List.eq_of_mem_replicate hc]; omega
theorem allB_cat {A B : Str} {m : Int} (h1 : AllB 10 A.cps.toList) (h2 : AllB 10 B.cps.toList) : AllB 10 (A ++ lj B m).cps.toList := by
  rw [Str.cps_append, Array.toList_append, lj_list]
  exact allB_app h1 (allB_app h2 (allB_rep (by decide)))
/-- the loop that takes off the noughts -/
def WInv (b0 bh : Str) : Prop := TrimInv b0.cps.toList bh.cps.toList ∧ 1 ≤ bh.length ∧ bh.length ≤ 100
theorem WInv.start {b0 : Str} (h : 1 ≤ b0.length ∧ b0.length ≤ 100) : WInv b0 b0 := ⟨⟨0, by simp⟩, h.1, h.2⟩
theorem WInv.start' {X Y : List Nat} {row : Str} {m : Int} {P : Nat} (hm : m = P) (h1 : 1 ≤ P) (hs : Summed 10 X Y row.cps.toList) (hX : P ≤ X.length) (hl : row.length ≤ 100) : WInv (Txt.slice row (some (-m)) none) (Txt.slice row (some (-m)) none) := by
  have e := len_list row
  have hr : P ≤ row.length := by
    rcases hs.2.2 with ⟨h, _⟩ | ⟨h, _⟩ <;> omega
  refine WInv.start ?_
  subst hm
  have e1 := congrArg List.length (slice_from_neg h1 hr)
  rw [len_list, List.length_drop, e] at e1
  omega
theorem item_last {x : Str} {c : Nat} {d : List Nat} (h : x.cps.toList = d ++ [c]) : Txt.item x (-1) = ⟨#[c]⟩ := by
  have hl : x.length = d.length + 1 := by rw [← len_list, h]; simp
  have hs : seqIndex? (-1) x.length = some d.length := by
    have e : (-1 : Int) + ((d.length + 1 : Nat) : Int) = (d.length : Int) := by omega
    have h1 : ((-1 : Int) < 0) := by decide
    simp only [seqIndex?, h1, if_true, hl, e]
    simp
    omega
  unfold Txt.item Txt.charAt
  rw [hs]
  have : x.cps[d.length]? = some c := by
    rw [← Array.getElem?_toList, h]; simp
  simp only [Option.bind_some, this, Option.getD_some]
theorem last_of {x : Str} (h : 1 ≤ x.length) : ∃ d c, x.cps.toList = d ++ [c] := by
  have e := len_list x
  have hne : x.cps.toList ≠ [] := fun q => by rw [q] at e; simp at e; omega
  exact ⟨_, _, (List.dropLast_concat_getLast hne).symm⟩
theorem slice_1 {x : Str} (h : 1 ≤ x.length) : (Txt.slice x none (some (-1))).cps.toList = x.cps.toList.take (x.length - 1) := slice_to_neg (P := 1) (by decide) h
theorem WInv.step {b0 bh : Str} (h : WInv b0 bh) (hl : 1 < (bh.length : Int)) (he : (Txt.item bh (-1) == Str.ofString "0") = true) : WInv b0 (Txt.slice bh none (some (-1))) := by
  obtain ⟨h1, h2, h3⟩ := h
  obtain ⟨d, c, hd⟩ := last_of h2
  have e := len_list bh
  rw [item_last hd] at he
  have hc : c = 48 := by
    have := beq_iff_eq.mp he
    rw [show Str.ofString "0" = ⟨#[48]⟩ by decide +kernel] at this
    injection this with this
    injection this with this
    injection this with this
  subst hc
  have hs := slice_1 (x := bh) (by omega)
  have hs' : (Txt.slice bh none (some (-1))).cps.toList = d := by
    rw [hs, hd, ← e, hd, List.length_append, List.length_singleton, Nat.add_sub_cancel, List.take_left]
  have e2 := len_list (Txt.slice bh none (some (-1)))
  rw [hs'] at e2
  rw [hd, List.length_append, List.length_singleton] at e
  refine ⟨?_, by omega, by omega⟩
  rw [hs']
  have := TrimInv.step h1 (by rw [hd]; simp)
  rw [hd, List.dropLast_concat] at this
  exact this
theorem WInv.meas {bh : Str} (hl : 1 < (bh.length : Int)) : (Txt.slice bh none (some (-1))).length < bh.length := by
  have hs := congrArg List.length (slice_1 (x := bh) (by omega))
  rw [len_list, List.length_take, len_list] at hs
  omega
theorem len_dot' : (Str.ofString ".").length = 1 := by decide +kernel
theorem two_of {l : List (Str × Tok)} {A B : Str} {S : List Str} (h : l.map (·.1) = S) (e : S = [A, B]) : ∃ u1 u2, l = [(A, u1), (B, u2)] := by
  subst e
  match l, h with
  | [(_, u1), (_, u2)], h =>
    injection h with h1 h
    injection h with h2 h
    exact ⟨u1, u2, by simp_all⟩
  | [], h => cases h
  | [_], h => simp at h
  | _ :: _ :: _ :: _, h => simp at h
section
variable {prog : Program} {w : World} {A : Around} {E : Value → Shared → Prop} {s : Shared} {value slice : PySem.Expr} {Q : Value → Shared → Prop} {h₀ : Heap} {L l : Addr} {m : Str → Option Value} {news : List (Addr × Obj)} {a b : Value} {n : Nat} {t : Tok}
theorem split2_N {x y P R : Str} {u : Tok} (hF : Fr h₀ L s.heap m) (hN : News h₀ L s.heap news) (hy : (y.length == 0) = false) (hsp : Txt.split x y = [P, R]) (hsz : x.length + 2 ≤ sizeLine)
    (h : ∀ l h' k u1 u2, (∀ p ∈ news, p.1 < l) → Fr h₀ L h' m → News h₀ L h' ((l, { cls := .type "list", data := .seq #[.str P u1, .str R u2] }) :: news) → Q (.ref l) { s with heap := h', toks := k }) :
    wpAny (model prog w) A (call (.builtin "str.split") [.str x t, .str y u]) Q E s :=
  splitN1 hF hN hy (fun l h' k e F N => by
    obtain ⟨u1, u2, rfl⟩ := two_of e hsp
    exact h _ h' k u1 u2 (fun p hp => Heap.lt_size (hN p hp).1) F N) hsz
end
section
theorem words_N15_1 : True := by
  w_top off
  k_with_none
  k_with "mine steps" => (repeat' (first | (k_unfold; (try dsimp only)) | (goal_lacks PySem.W.InvEndN PySem.W.KswEnd; (fail_if_success (with_reducible show wpAny _ _ (pyIter _) _ _ _)); (fail_if_success (with_reducible show wpAny _ _ (exec (Stmt.While _ _ _ _) _) _ _ _)); first | ((with_reducible show wpAny _ _ (call (Value.ref _) _) _ _ _); walk_at "mine call") | ((fail_if_success (with_reducible show wpAny _ _ (call (Value.ref _) _) _ _ _)); first | (k_end; wrow_close) | (walk1 <;> (try walk_at "mine fold")) | (dsimp only; walk1) | (leave1; walk_say "STEP leave1"; try dsimp only) | fail "no step"))))
  k_with "subscriptTail Name Constant ref int" => ((k_here; k_dflt (refine item_listL (l := [_, _]) (News.isList (by k_asm) (by k_mem)) (by decide) (by decide) rfl ?_)))
  k_with "call builtin:str.split" => ((k_here; (with_reducible show wpAny _ _ (call (Value.builtin "str.split") [Value.str _ _, Value.str _ _]) _ _ _); (rename Fr _ _ _ _ => kF'); (rename News _ _ _ _ => kN'); (refine' split2_N kF' kN' (by decide +kernel) (by assumption) (by rw [sizeLine_eq]; omega) ?_); intro l' h' k' u1' u2' l1 F' N'; (try k_sweep)))
  k_with "subscriptTail Name Slice str ref" => (((with_reducible show wpAny _ _ (subscriptTail _ (Expr.Slice none (some _) none _) _ _) _ _ _); (with_reducible rename Fr _ _ _ _ => F'); (with_reducible rename News _ _ _ _ => N'); (refine slice_strN_ns_len (hsz := ?hsz) (s := ⟨_, _, _, _, _⟩) F' N' ?_); (case hsz => (rw [sizeLine_eq]; omega)); intro _ _ _ _ _ _; (try k_sweep)))
  k_with "subscriptTail Name Slice str ref" => (((with_reducible show wpAny _ _ (subscriptTail _ (Expr.Slice (some _) none none _) _ _) _ _ _); (with_reducible rename Fr _ _ _ _ => F'); (with_reducible rename News _ _ _ _ => N'); (refine slice_strN_sn_len (hsz := ?hsz) (s := ⟨_, _, _, _, _⟩) F' N' ?_); (case hsz => (rw [sizeLine_eq]; omega)); intro _ _ _ _ _ _; (try k_sweep)))
  k_with "binaryOp Add str str" => ((refine PyProof.Rows.add_str (hsz := ?hsz) ?_; (case hsz => (rw [sizeLine_eq]; (try simp only [Str.length_append, len_dot']); omega)); intro _ _))
  k_with "mine call" => (k_dflt ((with_reducible show wpAny _ _ (call (Value.ref 163) _) _ _ _); (refine' Spec.use' (by k_asm) (by k_asm) (by exact added_spec _ _ _ 10 _ _ _ _ (by assumption) (by assumption) (by decide) (by assumption) (by assumption)) (by k_asm) (by k_asm) (by k_asm) (by first | exact rfl | assumption) (by ktr_room) (by ktr_units) ?_); intro r' n' h' tk' F' N' hp'; obtain ⟨e1', y', t', e2', hy', hyl'⟩ := hp'; rw [e1'] at N'; clear e1'; subst e2'; (try dsimp only); (try k_fold)))
  k_with "mine fold" => ((first | (with_reducible show wpAny _ _ (exec _ _) _ _ _) | (with_reducible show wpAny _ _ (eval (Expr.Call _ _ _ _) _) _ _ _)); ((try k_fold); (with_reducible rename Fr _ _ _ _ => lF); (with_reducible rename News _ _ _ _ => lN); (with_reducible refine fold3 lF lN ?_); clear lF lN; intro s9 m9 l9 F9 N9))
  trivial
set_option maxRecDepth 100000 in
set_option maxHeartbeats 4000000 in
theorem decadded_spec (w : World) (x y A1 B1 A2 B2 : Str) (t t2 : Tok) (news : List (Addr × Obj)) (hx : x = A1 ++ Str.ofString "." ++ B1) (hy : y = A2 ++ Str.ofString "." ++ B2)
    (ha1 : AllB 10 A1.cps.toList) (hb1 : AllB 10 B1.cps.toList) (ha2 : AllB 10 A2.cps.toList) (hb2 : AllB 10 B2.cps.toList) (l1 : A1.length ≤ 30 ∧ 1 ≤ A1.length) (l2 : B1.length ≤ 20 ∧ 1 ≤ B1.length) (l3 : A2.length ≤ 30 ∧ 1 ≤ A2.length) (l4 : B2.length ≤ 20 ∧ 1 ≤ B2.length) :
    Spec w 170 3 [.str x t, .str y t2] news (fun news' r => news' = news ∧ ∃ z t' row bh, r = .str z t' ∧ Summed 10 (A1 ++ lj B1 (mx B1 B2)).cps.toList (A2 ++ lj B2 (mx B1 B2)).cps.toList row.cps.toList ∧ row.length ≤ 100 ∧ z = Txt.slice row none (some (-(mx B1 B2))) ++ Str.ofString "." ++ bh ∧ WInv (Txt.slice row (some (-(mx B1 B2))) none) bh ∧ (¬ 1 < (bh.length : Int) ∨ (Txt.item bh (-1) == Str.ofString "0") = false)) := by
  unfold Spec
  k_fill
  have hs1 : Txt.split x (Str.ofString ".") = [A1, B1] := by rw [hx]; exact split_dot (allB_dot ha1) (allB_dot hb1)
  have hs2 : Txt.split y (Str.ofString ".") = [A2, B2] := by rw [hy]; exact split_dot (allB_dot ha2) (allB_dot hb2)
  have hxl : x.length ≤ 60 := by
    have := congrArg List.length (cat_dot A1 B1)
    rw [← hx, len_list, List.length_append, List.length_cons, len_list, len_list] at this; omega
  have hyl : y.length ≤ 60 := by
    have := congrArg List.length (cat_dot A2 B2)
    rw [← hy, len_list, List.length_append, List.length_cons, len_list, len_list] at this; omega
  have ln1 := l1.1
  have ln2 := l2.1
  have ln3 := l3.1
  have ln4 := l4.1
  clear hx hy
  have hmx := mx_is B1 B2
  have hj1 : ((lj B1 (mx B1 B2)).length : Int) = mx B1 B2 := lj_len (by omega)
  have hj2 : ((lj B2 (mx B1 B2)).length : Int) = mx B1 B2 := lj_len (by omega)
  have hj3 : (lj B1 (mx B1 B2)).length ≤ 20 := by omega
  have hj4 : (lj B2 (mx B1 B2)).length ≤ 20 := by omega
  have hX : (A1 ++ lj B1 (mx B1 B2)).length ≤ 60 := by rw [Str.length_append]; omega
  have hY : (A2 ++ lj B2 (mx B1 B2)).length ≤ 60 := by rw [Str.length_append]; omega
  have hXl : max B1.length B2.length ≤ (A1 ++ lj B1 (mx B1 B2)).cps.toList.length := by rw [len_list, Str.length_append]; omega
  have hXa := allB_cat (m := mx B1 B2) ha1 hb1
  have hYa := allB_cat (m := mx B1 B2) ha2 hb2
  intro loose mean mg mb dp un gd cn cs a ccd cl outer A₀ base h₀ L m s Q E B F X N T hk hdp hun hret
  refine wpAny_call ?_
  k_dflt ktr_enter
  (try k_gentoks)
  refine fold_env ?_
  intro A9 v9
  have uA9 : A9.units = un + 3 := by rfl
  have dA9 : A9.depth = dp + 1 := by rfl
  walk_at "mine steps"
  rename Summed _ _ _ _ => hsum
  rename Str.length _ ≤ 100 => hrl
  rename Fr _ _ _ _ => lF'
  rename News _ _ _ _ => lN'
  refine' ksw_while (σ := Str × Tok) (fun _ => _) (fun σ => [(Str.ofString "behind", Value.str σ.1 σ.2)]) (fun _ => True) [] (fun σ => WInv _ σ.1) (fun σ => σ.1.length) (_, _) lF' lN' trivial (List.forall_mem_cons.mpr ⟨rfl, List.forall_mem_nil _⟩) ?kp ?kt ?kE
  case kE => passes_own
  case kp => exact WInv.start' hmx (by omega) hsum hXl hrl
  case kt =>
    intro σ u h tk _ hp F1 N1
    obtain ⟨bh, bt⟩ := σ
    dsimp only [kstB] at F1
    dsimp only at hp N1
    have hbl := hp.2.1
    have hbu := hp.2.2
    walk_at "mine steps"
    · rename Fr _ _ _ _ => fE
      rename News _ _ _ _ => nE
      refine' ksw_end (σ := Str × Tok) (_, _) fE nE (fun _ hp => hp) trivial (List.forall_mem_cons.mpr ⟨rfl, List.forall_mem_nil _⟩) ?e1 (WInv.step hp (by assumption) (by assumption)) (WInv.meas (by assumption))
      case e1 =>
        intro z h1 _
        have n1 : z ≠ Str.ofString "behind" := h1 _ (.head _)
        (try dsimp (config := {zetaDelta := true}) only)
        rw [if_neg n1, if_neg n1, if_neg (by simp)]
    · exact hret _ _ _ _ (by k_asm) (cb_drop (by k_asm) (fun p hp => .tail _ (.tail _ (.tail _ (.tail _ hp))))) ⟨rfl, _, _, _, _, rfl, hsum, hrl, rfl, hp, Or.inr (by assumption)⟩
    · exact hret _ _ _ _ (by k_asm) (cb_drop (by k_asm) (fun p hp => .tail _ (.tail _ (.tail _ (.tail _ hp))))) ⟨rfl, _, _, _, _, rfl, hsum, hrl, rfl, hp, Or.inl (by assumption)⟩
end
end Mine
/- part ZA3 -/
namespace Mine
open PySem.Builtin.Str
theorem downKs_succ (n : Nat) : downKs (((n + 1 : Nat) : Int) - 1) (n + 1) = (n : Int) :: downKs ((n : Int) - 1) n := by
  unfold downKs
  rw [List.range_succ_eq_map, List.map_cons, List.map_map]
  congr 1
  · simp
  · apply List.map_congr_left
    intro i _
    simp only [Function.comp]
    omega
def bitC (x p : Nat) : Nat := 48 + (x / 2 ^ p) % 2
def bitsL (x : Nat) : Nat → List Nat
  | 0 => []
  | n + 1 => bitC x n :: bitsL x n
theorem bitsL_len (x : Nat) : ∀ n, (bitsL x n).length = n
  | 0 => rfl
  | n + 1 => by rw [bitsL, List.length_cons, bitsL_len x n]
theorem bitsL_all (x : Nat) : ∀ n, AllB 2 (bitsL x n)
  | 0 => fun _ h => nomatch h
  | n + 1 => fun c h => by
    rcases List.mem_cons.mp h with rfl | h
    · unfold bitC; omega
    · exact bitsL_all x n c h
theorem bitsL_val (x : Nat) : ∀ n, valB 2 (bitsL x n) = x % 2 ^ n
  | 0 => by simp [bitsL, valB, Nat.mod_one]
  | n + 1 => by
    rw [bitsL, valB_cons, bitsL_len, bitsL_val x n]
    have e : bitC x n - 48 = (x / 2 ^ n) % 2 := by unfold bitC; omega
    rw [e, Nat.pow_succ, Nat.mod_mul, Nat.mul_comm (2 ^ n)]
    omega
theorem bitS_list (x p : Nat) : (bitS x p).cps.toList = [bitC x p] := by
  unfold bitS bitC
  have e : ((x : Int).fdiv (2 ^ ((p : Int)).toNat)).fmod 2 = ((x / 2 ^ p % 2 : Nat) : Int) := by
    rw [Int.toNat_natCast, Int.fdiv_eq_ediv_of_nonneg _ (Int.le_of_lt (Int.pow_pos (by decide))), Int.fmod_eq_emod_of_nonneg _ (by decide)]
    push_cast
    rfl
  rw [e]
  split
  · have : x / 2 ^ p % 2 = 1 := by omega
    rw [this]; decide +kernel
  · have : x / 2 ^ p % 2 = 0 := by omega
    rw [this]; decide +kernel
theorem join_list : ∀ (l : List Str), (Txt.join (Str.ofString "") l).cps.toList = (l.map fun s => s.cps.toList).flatten := by
  intro l
  show (glued _ l).cps.toList = _
  rw [StrLaws.glued_eq_join]
  induction l with
  | nil => rfl
  | cons x r ih =>
    cases r with
    | nil => simp [Str.join]
    | cons y r =>
      rw [show Str.join (Str.ofString "") (x :: y :: r) = x ++ Str.ofString "" ++ Str.join (Str.ofString "") (y :: r) from rfl]
      rw [Str.cps_append, Str.cps_append, Array.toList_append, Array.toList_append, ih, show (Str.ofString "").cps.toList = [] by decide +kernel]
      simp
theorem bitsT_list (x : Nat) : ∀ n : Nat, (((downKs ((n : Int) - 1) n).map (bitS x)).map fun s => s.cps.toList).flatten = bitsL x n
  | 0 => rfl
  | n + 1 => by
    rw [downKs_succ, List.map_cons, List.map_cons, List.flatten_cons, bitsT_list x n, bitS_list]
    rfl
theorem bitsText_list (x n : Nat) : (bitsText x n).cps.toList = 35 :: 98 :: bitsL x n := by
  unfold bitsText
  rw [Str.cps_append, Array.toList_append, join_list, bitsT_list, show (Str.ofString "#b").cps.toList = [35, 98] by decide +kernel]
  rfl
end Mine
/- part ZA4 -/
namespace Mine
open PySem.Builtin.Str
open PyProof.Rows.LCg
abbrev tupObj (its : Array Value) (k : Nat) : Obj := { cls := .type "tuple", data := .seq its k }
/-- the source of a comprehension is a tuple of the ledger -/
def TSrc (prog : Program) (w : World) (A : Around) (h₀ : Heap) (L : Addr) (m : Str → Option Value) (env : Env) (elt : Expr) (x : Str) (scope : Scope) (cl : List (Str × Addr)) (Fin : Shared → List Value → List (Addr × Obj) → Prop) (xv : Value) (s₁ : Shared) : Prop :=
  ∃ (ax : Addr) (its : Array Value) (k : Nat) (news : List (Addr × Obj)), xv = .ref ax ∧ A.handled = none ∧ Fr h₀ L s₁.heap m ∧ News h₀ L s₁.heap news ∧ (ax, tupObj its k) ∈ news ∧ its.size ≤ sizeLine ∧
    ∀ s₂ : Shared, (∃ h, s₂ = { s₁ with heap := h }) → CompRest prog w A h₀ L m env elt x scope cl s₂ (fun nw => (ax, tupObj its k) ∈ nw) (fun i v => its[i]? = some v) (Fin s₂) its.size 0 [] news
theorem tup_comp {prog : Program} {w : World} {A : Around} {E : Value → Shared → Prop} {s : Shared} {h₀ : Heap} {L : Addr} {m : Str → Option Value} {env : Env} {elt iter : Expr} {x : Str} {px : Pos} {scope : Scope} {cl : List (Str × Addr)} {pos : Pos} {Q : Value → Shared → Prop} (_F₀ : Fr h₀ L s.heap m)
    (hclos : closureFor scope env = pure cl) (hcell : ∀ y ∈ scope.names, y.2 ≠ .cell) (hkind : scope.kind = .function)
    (hnames : ∀ y ∈ scope.names, y.2 = .local → scope.names.lookup y.1 = some .local) (hx : scope.names.lookup x = some .local)
    (h : wpAny (model prog w) A (eval iter env) (TSrc prog w A h₀ L m env elt x scope cl (fun s₂ => FinE h₀ L m s₂ Q)) E s)
    (hs : ∀ x, foldedSetIterable iter env x = pure x := by intro _; rfl) :
    wpAny (model prog w) A (eval (.ListComp elt [⟨.Name x px, iter, [], 0⟩] scope pos) env) Q E s := by
  rw [eval_ListComp]
  refine wpAny_comprehension_free (use := none) rfl hs hclos hkind hnames (wpAny_mono h (fun xv s₁ h₁ => ?_) fun _ _ e => e)
  obtain ⟨ax, its, k, news, rfl, hh, F, N, hm, hsz, R⟩ := h₁
  have hl : s₁.heap.IsTuple ax its := ⟨_, (N _ hm).1, rfl, _, rfl⟩
  have hlt : ax < s₁.heap.objs.size := Heap.lt_size (N _ hm).1
  have grow : ∀ (o : Obj) b q, s₁.heap.get? b = some q → (s₁.heap.push o).get? b = some q := fun o _ _ e => Heap.get?_push_of_some o e
  refine wpAny_pyIter_tuple hl ?_
  refine block_U (Walks.tuple hh s₁.heap.objs.size ax (Nat.ne_of_lt hlt) its) hsz (fun i g st => by obtain ⟨⟨o, e, _⟩, _⟩ := st; exact ⟨o, e⟩)
    (fun i g g' o nw st e e' _ N' hS => ⟨?_, ⟨_, (N' _ hS).1, rfl, _, rfl⟩⟩) hcell hkind hx ⟨⟨_, Heap.get?_push_size _ rfl, rfl, rfl⟩, hl.at (fun o e => grow _ _ _ e)⟩ (fun b hb => ?_)
    (F.keeps (grow _)) (N.grown (grow _)) (Nat.ne_of_lt F.ns.lt) (next_is_new F) (fun p hp => Nat.ne_of_lt (Heap.lt_size (N p hp).1)) hm (R _ ⟨_, rfl⟩) ?_
  · obtain ⟨⟨o', q, r⟩, _⟩ := st
    rw [e] at q
    cases q
    exact ⟨o, e', r⟩
  · show b < (s₁.heap.push _).objs.size
    rw [Heap.size_push]
    rcases List.mem_cons.mp hb with rfl | hb
    · exact Nat.lt_succ_self _
    · rw [List.mem_singleton.mp hb]; exact Nat.lt_succ_of_lt hlt
  · intro D C g tk m' ys news' F' N' o1 hn hC₀ hD₀ hCL hDL hCD offC fin
    refine ⟨m', hn, fun g' hs' => fin D g' tk (F'.change hs' hCL hC₀) (fun p hp => ⟨hs'.extBut _ _ ?_ (N' p hp).1, (N' p hp).2⟩) o1⟩
    rcases List.mem_cons.mp hp with rfl | hp
    · exact Ne.symm hCD
    · exact offC p hp
end Mine
namespace Mine
theorem rest_ZN9 : True := by
  w_top off
  k_with_none
  first | walk1 | trivial
end Mine
/- part ZN9 -/
namespace Mine
section
theorem above_nil {news : List (Addr × Obj)} : Above [] news := fun _ h => nomatch h
theorem above_cons {a : Addr} {o : Obj} {new news : List (Addr × Obj)} (h : ∀ q ∈ news, q.1 < a) (k : Above new news) : Above ((a, o) :: new) news := fun p hp q hq => by
  rcases List.mem_cons.mp hp with rfl | hp
  · exact h q hq
  · exact k p hp q hq
theorem above_one {a : Addr} {o : Obj} {news : List (Addr × Obj)} (h : ∀ q ∈ news, q.1 < a) : Above [(a, o)] news := above_cons h above_nil
theorem gcd_step (a b : Int) (hb : 0 < b) (ha : 0 ≤ a) : Int.gcd b (a.fmod b) = Int.gcd a b := by
  rw [Int.fmod_eq_emod_of_nonneg _ (by omega)]
  obtain ⟨a, rfl⟩ := Int.eq_ofNat_of_zero_le ha
  obtain ⟨b, rfl⟩ := Int.eq_ofNat_of_zero_le (Int.le_of_lt hb)
  show Nat.gcd b ((a : Int) % b).natAbs = Nat.gcd a b
  rw [show ((a:Int) % b).natAbs = a % b by omega]
  rw [Nat.gcd_comm a b, Nat.gcd_rec b a, Nat.gcd_comm]
theorem gcd_end {a b : Int} {G : Nat} (ha : 0 ≤ a) (hb : b = 0) (h : Int.gcd a b = G) : a = (G : Int) := by
  subst hb; rw [← h]; simp [Int.gcd_zero_right]; omega
def RInv (G : Nat) (a b : Int) : Prop := 0 ≤ a ∧ 0 ≤ b ∧ 0 < a + b ∧ Int.gcd a b = G
theorem RInv.step {G : Nat} {a b : Int} (h : RInv G a b) (hb : b ≠ 0) : RInv G b (a.fmod b) := by
  obtain ⟨h1, h2, h3, h4⟩ := h
  have hb' : 0 < b := by omega
  have := Int.fmod_nonneg_of_pos a hb'
  exact ⟨h2, this, by omega, by rw [gcd_step a b hb' h1]; exact h4⟩

theorem RInv.meas {G : Nat} {a b : Int} (h : RInv G a b) (hb : b ≠ 0) : (a.fmod b).toNat < b.toNat := by
  obtain ⟨h1, h2, h3, h4⟩ := h
  have := Int.fmod_lt_of_pos a (show 0 < b by omega)
  omega
theorem RInv.pos {G : Nat} {a b : Int} (h : RInv G a b) (hb : b = 0) : a ≠ 0 ∧ a = (G : Int) := by
  obtain ⟨h1, h2, h3, h4⟩ := h
  exact ⟨by omega, gcd_end h1 hb h4⟩

theorem words_N9_1 : True := by
  w_top off
  k_with_none
  k_with "mine steps" => (repeat' (first | (k_unfold; (try dsimp only)) | (goal_lacks PySem.W.InvEndN PySem.W.KswEnd; (fail_if_success (with_reducible show wpAny _ _ (pyIter _) _ _ _)); first | ((with_reducible show wpAny _ _ (call (Value.ref _) _) _ _ _); walk_at "mine call") | ((fail_if_success (with_reducible show wpAny _ _ (call (Value.ref _) _) _ _ _)); first | (k_end; wrow_close) | (walk1 <;> (try walk_at "mine fold")) | (dsimp only; walk1) | (leave1; walk_say "STEP leave1"; try dsimp only) | fail "no step"))))
  k_with "binaryOp FloorDiv int int" => ((k_here; refine' floordiv_int ?kbe ?_ (Or.inl (PyProof.noPylong_of_log2 ?kbp)); (case kbe => assumption); (case kbp => exact log_ok (by assumption))))
  k_with "mine fold" => ((first | (with_reducible show wpAny _ _ (exec _ _) _ _ _) | (with_reducible show wpAny _ _ (eval (Expr.Call _ _ _ _) _) _ _ _)); ((try k_fold); (with_reducible rename Fr _ _ _ _ => lF); (with_reducible rename News _ _ _ _ => lN); (with_reducible refine fold3 lF lN ?_); clear lF lN; intro s9 m9 l9 F9 N9))
  trivial
set_option maxRecDepth 100000 in
set_option maxHeartbeats 4000000 in
theorem ratio_spec (w : World) (tt bb : Int) (t t2 : Tok) (news : List (Addr × Obj)) (hv : 0 ≤ tt) (hb : 0 < bb) (hb2 : bb < 1000000000000) (hv2 : tt < 1000000000000) :
    Spec w 156 1 [.int tt t, .int bb t2] news (fun news' r => ∃ new, news' = new ++ news ∧ Above new news ∧ DatIn new r (.tuple [.int (tt.fdiv (Int.gcd tt bb)), .int (bb.fdiv (Int.gcd tt bb))])) := by
  unfold Spec
  k_fill
  intro loose mean mg mb dp un gd cn cs a ccd cl outer A₀ base h₀ L m s Q E B F X N T hk hdp hun hret
  refine wpAny_call ?_
  k_dflt ktr_enter
  (try k_gentoks)
  refine fold_env ?_
  intro A9 v9
  have uA9 : A9.units = un + 3 := by rfl
  have dA9 : A9.depth = dp + 1 := by rfl
  (k_with "exec While Compare cons nil" => k_while_given ["top", "bottom"] (fun top bottom script a b => RInv (Int.gcd top bottom) a b) (fun top bottom script a b => b.toNat) "a" "b")
  (k_with "state" => first | exact RInv.step (by assumption) (by assumption) | exact ⟨by omega, by omega, by omega, rfl⟩)
  (k_with "measure" => exact RInv.meas (by assumption) (by assumption))
  k_steps
  obtain ⟨hp1, hp2⟩ := RInv.pos (by assumption) (by assumption)
  have hp3 := gcd_le_right (a := tt) hb
  subst hp2
  have hp4 : (Int.gcd tt bb : Int).natAbs < 2 ^ 60 := by omega
  k_steps
  refine hret _ _ _ _ (by k_asm) (by k_asm) ⟨[_, _], rfl, above_cons (by intro q hq; rename _ ∧ AllLt _ _ => hh; exact ktn_ltOf hh.2 q hq) (above_one (by assumption)), DatIn.tuple (.head _) (.cons (.int _ _) (.cons (.int _ _) .nil))⟩

end
end Mine
/- part ZBase2 -/
namespace Mine
section
theorem split_cons {x : Addr × Obj} {led new old : List (Addr × Obj)} (h : led = new ++ old) : x :: led = (x :: new) ++ old := by rw [h]; rfl
theorem split_nil {old : List (Addr × Obj)} : old = [] ++ old := rfl
/-- one more whole address above the elder ones -/
theorem above3 {D D1 d c wl : Addr} {o1 o2 o3 : Obj} {news : List (Addr × Obj)} (h : d < D1 ∧ c < D1 ∧ wl < D1 ∧ AllLt D1 news) (hk : @LE.le Nat instLENat D1 D) : ∀ q ∈ (d, o1) :: (c, o2) :: (wl, o3) :: news, q.1 < D := by
  intro q hq
  obtain ⟨h1, h2, h3, h4⟩ := h
  rcases List.mem_cons.mp hq with rfl | hq
  · exact Nat.lt_of_lt_of_le h1 hk
  · rcases List.mem_cons.mp hq with rfl | hq
    · exact Nat.lt_of_lt_of_le h2 hk
    · rcases List.mem_cons.mp hq with rfl | hq
      · exact Nat.lt_of_lt_of_le h3 hk
      · exact Nat.lt_of_lt_of_le (ktn_ltOf h4 q hq) hk
/-- what is known of an item of the words, beside its room -/
def Signs (x : Str) : Prop := x.cps.toList.all okCp = true
def Fine : Item → Prop
  | .num v => v.natAbs < 10 ^ 20
  | .dec t b => 0 ≤ t ∧ Int.gcd t b = 1
  | .bits v n => 0 ≤ v ∧ v < 2 ^ n ∧ 0 < n
  | .str x => PyData.strOk x = true
  | .sym x => Signs x ∧ PyData.strOk x = true
  | .key x => PyData.strOk x = true
/-- what each of the three parts of the law hands back -/
def Out (w : World) (d c wl : Addr) (o : Obj) (vs ws : List Value) (nn : Nat) (at0 k : Int) (len : Nat) (news news' : List (Addr × Obj)) (r : Value) : Prop :=
  ∃ (o' : Obj) (at1 : Int) (nn' : Nat) (ws' : List Value) (its : List Item) (new : List (Addr × Obj)),
    news' = (d, o') :: (c, LCg.lst vs) :: (wl, W.listOf (ws ++ ws').toArray nn') :: (new ++ news) ∧ IsTank w o' c at1 ∧ at0 ≤ at1 ∧ at1 ≤ at0 + k ∧
    Above new ((d, o) :: (c, LCg.lst vs) :: (wl, W.listOf ws.toArray nn) :: news) ∧ DatAll new ws' (its.map Item.dat) ∧ (∀ it ∈ its, OkItem it ∧ Fine it) ∧ its.length ≤ len ∧ r = .bool true
theorem out_perm {h₀ h : Heap} {L : Addr} {led new news : List (Addr × Obj)} {a b c : Addr × Obj} (N : News h₀ L h led) (e : led = new ++ (a :: b :: c :: news)) : News h₀ L h (a :: b :: c :: (new ++ news)) := by
  subst e
  intro p hp
  refine N p ?_
  simp only [List.mem_cons, List.mem_append] at hp ⊢
  rcases hp with h | h | h | h | h
  · exact .inr (.inl h)
  · exact .inr (.inr (.inl h))
  · exact .inr (.inr (.inr (.inl h)))
  · exact .inl h
  · exact .inr (.inr (.inr (.inr h)))
theorem all_mem1 {P : Item → Prop} {a : Item} {l : List Item} (h : P a) (k : ∀ x ∈ l, P x) : ∀ x ∈ a :: l, P x := List.forall_mem_cons.mpr ⟨h, k⟩
end
section
theorem cut_words {P : Prop} {h₀ h : Heap} {L wl : Addr} {led new news old : List (Addr × Obj)} {x a b : Addr × Obj} {ws ws' : List Value} {nn : Nat} (its : List Item) (N : News h₀ L h (x :: led)) (e : led = new ++ (a :: b :: (wl, W.listOf (ws ++ ws').toArray nn) :: news)) (hA : Above new old) (hD : DatAll new ws' (its.map Item.dat))
    (k : ∀ new', News h₀ L h (x :: a :: b :: (wl, W.listOf (ws ++ ws').toArray nn) :: (new' ++ news)) → Above new' old → DatAll new' ws' (its.map Item.dat) → P) : P := by
  subst e
  refine k new (fun p hp => N p ?_) hA hD
  simp only [List.mem_cons, List.mem_append] at hp ⊢
  rcases hp with h | h | h | h | h | h
  · exact .inl h
  · exact .inr (.inr (.inl h))
  · exact .inr (.inr (.inr (.inl h)))
  · exact .inr (.inr (.inr (.inr (.inl h))))
  · exact .inr (.inl h)
  · exact .inr (.inr (.inr (.inr (.inr h))))
end
end Mine
/- part ZA5 -/
namespace Mine
open PySem.Builtin.Str
theorem valB_drop {b : Nat} {l : List Nat} (h : AllB b l) (k : Nat) : valB b (l.drop k) = valB b l % b ^ (l.length - k) := by
  have e : valB b l = valB b (l.take k) * b ^ (l.length - k) + valB b (l.drop k) := by
    have := valB_append b (l.take k) (l.drop k)
    rw [List.take_append_drop, List.length_drop] at this
    exact this
  have hlt : valB b (l.drop k) < b ^ (l.length - k) := by
    have := valB_lt (b := b) (l := l.drop k) fun c hc => h c (List.mem_of_mem_drop hc)
    rwa [List.length_drop] at this
  rw [e, Nat.add_comm, Nat.add_mul_mod_self_right, Nat.mod_eq_of_lt hlt]
theorem bits_sum {x y n : Nat} {Z : List Nat} (h : Summed 2 (bitsL x n) (bitsL y n) Z) : Z.drop (Z.length - n) = bitsL ((x + y) % 2 ^ n) n := by
  obtain ⟨h1, h2, h3⟩ := h
  rw [bitsL_len, bitsL_len, Nat.max_self] at h3
  have hn : n ≤ Z.length := by rcases h3 with ⟨e, _⟩ | ⟨e, _⟩ <;> omega
  refine valB_inj (b := 2) (fun c hc => h1 c (List.mem_of_mem_drop hc)) (bitsL_all _ _) (by rw [List.length_drop, bitsL_len]; omega) ?_
  rw [valB_drop h1, bitsL_val, h2, bitsL_val, bitsL_val, show Z.length - (Z.length - n) = n by omega, ← Nat.add_mod, Nat.mod_mod]
theorem bits_facts {v : Int} {n : Nat} {y : Str} (h : WordIs (.bits v n) y) (h0 : 0 ≤ v) : y.length = n + 2 ∧ y.cps.toList = 35 :: 98 :: bitsL v.toNat n := by
  have e : y.cps.toList = 35 :: 98 :: bitsL v.toNat n := by
    have h' : y = bitsText v n := h
    rw [h']
    obtain ⟨k, rfl⟩ := Int.eq_ofNat_of_zero_le h0
    exact bitsText_list k n
  refine ⟨?_, e⟩
  have : y.cps.toList.length = y.length := Array.length_toList
  rw [← this, e, List.length_cons, List.length_cons, bitsL_len]
theorem bits_items {x y w : Int} {n : Nat} (hn : w = (n : Int) ∧ 0 < n ∧ n ≤ 8) : ∀ it ∈ [Item.bits (x.fmod (2 ^ w.toNat)) n, Item.bits (y.fmod (2 ^ w.toNat)) n, Item.bits ((x.fmod (2 ^ w.toNat) + y.fmod (2 ^ w.toNat)).fmod (2 ^ w.toNat)) n, Item.bits (x.fmod (2 ^ w.toNat)) (n + 1)], OkItem it ∧ Fine it := by
  obtain ⟨hw, h0, h8⟩ := hn
  have e : w.toNat = n := by omega
  have hp : (0 : Int) < 2 ^ w.toNat := Int.pow_pos (by decide)
  have h2 : (2 : Int) ^ w.toNat ≤ 256 := by
    have h : (2 : Nat) ^ n ≤ 2 ^ 8 := Nat.pow_le_pow_right (by decide) h8
    have e2 : ((2 ^ n : Nat) : Int) = (2 : Int) ^ n := by simp
    rw [e]; omega
  have key : ∀ (z : Int) (m : Nat), n ≤ m → m ≤ n + 1 → OkItem (.bits (z.fmod (2 ^ w.toNat)) m) ∧ Fine (.bits (z.fmod (2 ^ w.toNat)) m) := by
    intro z m h1 h2'
    have h3 := Int.fmod_nonneg_of_pos z hp
    have h4 := Int.fmod_lt_of_pos z hp
    refine ⟨⟨by omega, by omega, h3, by omega⟩, h3, ?_, by omega⟩
    have h5 : (2 : Nat) ^ n ≤ 2 ^ m := Nat.pow_le_pow_right (by decide) h1
    have e2 : ((2 ^ n : Nat) : Int) = (2 : Int) ^ n := by simp
    have e3 : ((2 ^ m : Nat) : Int) = (2 : Int) ^ m := by simp
    rw [e] at h4 ⊢
    omega
  intro it hit
  simp only [List.mem_cons, List.not_mem_nil, or_false] at hit
  rcases hit with rfl | rfl | rfl | rfl
  · exact key _ _ (Nat.le_refl _) (Nat.le_succ _)
  · exact key _ _ (Nat.le_refl _) (Nat.le_succ _)
  · exact key _ _ (Nat.le_refl _) (Nat.le_succ _)
  · exact key _ _ (Nat.le_succ _) (Nat.le_refl _)
theorem bits_end {p q w : Int} {n : Nat} {x y z u : Str} (hn : w = (n : Int) ∧ 0 < n ∧ n ≤ 8) (hu : WordIs (.bits ((p + q).fmod (2 ^ w.toNat)) n) u) (hs : Summed 2 x.cps.toList y.cps.toList z.cps.toList)
    (hp : 0 ≤ p) (hq : 0 ≤ q) (h1 : x.cps.toList = bitsL p.toNat n) (h2 : y.cps.toList = bitsL q.toNat n) : (Str.ofString "#b" ++ Txt.slice z (some (0 - w)) none == u) = true := by
  obtain ⟨hw, h0, h8⟩ := hn
  have e : w.toNat = n := by omega
  rw [h1, h2] at hs
  have hb := bits_sum hs
  obtain ⟨_, e2⟩ := bits_facts hu (Int.fmod_nonneg_of_pos _ (Int.pow_pos (by decide)))
  have hz : n ≤ z.length := by
    obtain ⟨_, _, h3⟩ := hs
    rw [bitsL_len, bitsL_len, Nat.max_self] at h3
    have := len_list z
    rcases h3 with ⟨e, _⟩ | ⟨e, _⟩ <;> omega
  rw [beq_iff_eq]
  refine str_ext ?_
  rw [e2, Str.cps_append, Array.toList_append, show (Str.ofString "#b").cps.toList = [35, 98] by decide +kernel, show (0 - w) = -((n : Nat) : Int) by omega, slice_from_neg h0 hz]
  have hl := len_list z
  rw [hl] at hb
  rw [hb]
  have ee : ((p + q).fmod (2 ^ w.toNat)).toNat = (p.toNat + q.toNat) % 2 ^ n := by
    obtain ⟨a, rfl⟩ := Int.eq_ofNat_of_zero_le hp
    obtain ⟨b, rfl⟩ := Int.eq_ofNat_of_zero_le hq
    rw [e, Int.fmod_eq_emod_of_nonneg _ (Int.le_of_lt (Int.pow_pos (by decide)))]
    simp only [Int.toNat_natCast]
    have : ((a : Int) + b) % 2 ^ n = ((a + b) % 2 ^ n : Nat) := by push_cast; rfl
    rw [this, Int.toNat_natCast]
  rw [ee]
  rfl
end Mine
namespace Mine
theorem rest_ZN17 : True := by
  w_top off
  k_with_none
  first | walk1 | trivial
end Mine
/- part ZN17 -/
namespace Mine
theorem pow_le_256 {n : Nat} (h : n ≤ 8) : (2 : Int) ^ n ≤ 256 := by
  have h : (2 : Nat) ^ n ≤ 2 ^ 8 := Nat.pow_le_pow_right (by decide) h
  have e : ((2 ^ n : Nat) : Int) = (2 : Int) ^ n := by simp
  omega
def Wd (w : Int) (n : Nat) : Prop := w = (n : Int) ∧ 0 < n ∧ n ≤ 8
theorem okbits {v w : Int} {n : Nat} (hw : Wd w n) : OkItem (.bits (v.fmod (2 ^ w.toNat)) n) := by
  obtain ⟨hn, h0, h8⟩ := hw
  have hp : (0 : Int) < 2 ^ w.toNat := Int.pow_pos (by decide)
  have h2 := pow_le_256 h8
  have e : w.toNat = n := by omega
  have h3 := Int.fmod_nonneg_of_pos v hp
  have h4 := Int.fmod_lt_of_pos v hp
  rw [← e] at h2
  exact ⟨h0, by omega, h3, by omega⟩
theorem width_of {v : Int} (h0 : 0 ≤ v) (h8 : v < 8) : ∃ n : Nat, Wd (1 + v) n := ⟨(1 + v).toNat, by omega, by omega, by omega⟩
theorem dat_bits {news : List (Addr × Obj)} {a : Addr} {x w : Int} {t1 t2 t3 : Tok} {k n : Nat} (hm : (a, ({ cls := .type "tuple", data := .seq #[.str (Str.ofString "bits") t1, .int x t2, .int w t3] k } : Obj)) ∈ news) (hn : Wd w n) : DatIn news (.ref a) (Item.bits x n).dat := by
  obtain ⟨rfl, _⟩ := hn
  exact DatIn.tuple hm (.cons (.str _ _) (.cons (.int _ _) (.cons (.int _ _) .nil)))
theorem len_hb : (Str.ofString "#b").length = 2 := by decide +kernel
theorem dat_bits' {news : List (Addr × Obj)} {a : Addr} {x w : Int} {t1 t2 t3 : Tok} {k n : Nat} (hm : (a, ({ cls := .type "tuple", data := .seq #[.str (Str.ofString "bits") t1, .int x t2, .int w t3] k } : Obj)) ∈ news) (hn : w = (n : Int)) : DatIn news (.ref a) (Item.bits x n).dat := by
  subst hn
  exact DatIn.tuple hm (.cons (.str _ _) (.cons (.int _ _) (.cons (.int _ _) .nil)))
theorem wd_nonneg {x w : Int} : 0 ≤ x.fmod (2 ^ w.toNat) := Int.fmod_nonneg_of_pos _ (Int.pow_pos (by decide))
theorem bits_call {x w : Int} {n : Nat} {y : Str} (h : WordIs (.bits (x.fmod (2 ^ w.toNat)) n) y) (hn : Wd w n) :
    (y.length : Int) = w + 2 ∧ y.length ≤ 10 ∧ (Txt.slice y (some 2) none).cps.toList = bitsL (x.fmod (2 ^ w.toNat)).toNat n ∧ AllB 2 (Txt.slice y (some 2) none).cps.toList ∧ (Txt.slice y (some 2) none).length ≤ 60 := by
  obtain ⟨e1, e2⟩ := bits_facts h (Int.fmod_nonneg_of_pos _ (Int.pow_pos (by decide)))
  obtain ⟨hw, h0, h8⟩ := hn
  have e3 : (Txt.slice y (some 2) none).cps.toList = bitsL (x.fmod (2 ^ w.toNat)).toNat n := by
    rw [show (some (2 : Int)) = some ((2 : Nat) : Int) from rfl, slice_from (by omega), e2]
    rfl
  refine ⟨by omega, by omega, e3, ?_, ?_⟩
  · rw [e3]; exact bitsL_all _ _
  · have := len_list (Txt.slice y (some 2) none)
    rw [e3, bitsL_len] at this
    omega
theorem add_hb {prog : Program} {w : World} {A : Around} {E : Value → Shared → Prop} {s : Shared} {y : Str} {i : Option Int} {t u : Tok} {Q : Value → Shared → Prop} (hy : y.length ≤ 100) (h : ∀ t' k, Q (.str (Str.ofString "#b" ++ Txt.slice y i none) t') { s with toks := k }) :
    wpAny (model prog w) A (binaryOp .Add (.str (Str.ofString "#b") t) (.str (Txt.slice y i none) u)) Q E s :=
  PyProof.Rows.add_str (hsz := by rw [sizeLine_eq, len_hb]; have := PyProof.Txt.length_slice_le y i none; omega) h
theorem three_eq {a b c w : Int} (h1 : a = w) (h2 : b = w) (h3 : c = w) : [a, b, c] = [w, w, w] := by rw [h1, h2, h3]
theorem eq_ints_same {prog : Program} {w : World} {A : Around} {E : Value → Shared → Prop} {s : Shared} {a b : Addr} {vs us : List Value} {ns ms : List Int} {Q : Value → Shared → Prop} (hl : s.heap.IsList a vs.toArray) (hi : IntsAre vs ns) (hl' : s.heap.IsList b us.toArray) (hi' : IntsAre us ms) (hu : A.units + 64 < cLine) (e : ns = ms)
    (h : Q (.bool true) s) : wpAny (model prog w) A (compareOp .Eq (.ref a) (.ref b)) Q E s := eq_intsK hl hi hl' hi' hu (by rw [decide_eq_true e]; exact h)
theorem forall_cons2 {p q : Addr × Obj} {d : Addr} {news : List (Addr × Obj)} (h : ∀ x ∈ p :: q :: news, x.1 ≠ d) : ∀ x ∈ p :: (q :: news), x.1 ≠ d := h
theorem my_extend {prog : Program} {w : World} {A : Around} {E : Value → Shared → Prop} {s : Shared} {h₀ : Heap} {L D b : Addr} {m : Str → Option Value} {news news' : List (Addr × Obj)} {ws ys : List Value} {n n2 : Nat} {Q : Value → Shared → Prop} (F : Fr h₀ L s.heap m) (N : News h₀ L s.heap news) (hb : (b, W.listOf ys.toArray n2) ∈ news)
    (U : Upd D (W.listOf ws.toArray n) (W.listOf (ws ++ ys).toArray (n + 1)) news news') (hw : ws.length ≤ 100) (hy : 0 < ys.length) (hy2 : ys.length ≤ 20)
    (h : ∀ h', Fr h₀ L h' m → News h₀ L h' news' → Q .none { s with heap := h' }) : wpAny (model prog w) A (call (.builtin "list.extend") [.ref D, .ref b]) Q E s := by
  refine kl_extend F N hb (by simp) (by simp; intro e; rw [e] at hy; exact absurd hy (by decide)) U ?_ ?_ ?_ h
  · rw [Bool.and_eq_true]
    rintro ⟨_, q⟩
    simp [Builtin.List.listTooLong, sizeLine] at q
    omega
  · show ws.length ≤ sizeLine
    unfold sizeLine; omega
  · rw [List.size_toArray, List.size_toArray]; unfold sizeLine; omega
section
theorem words_N17_1 : True := by
  w_top off
  k_with_none
  k_with "mine steps" => (repeat' (first | (k_unfold; (try dsimp only)) | (goal_lacks PySem.W.InvEndN PySem.W.KswEnd; (fail_if_success (with_reducible show wpAny _ _ (pyIter _) _ _ _)); (fail_if_success (with_reducible show wpAny _ _ (exec (Stmt.While _ _ _ _) _) _ _ _)); first | ((with_reducible show wpAny _ _ (call (Value.ref _) _) _ _ _); walk_at "mine call") | ((fail_if_success (with_reducible show wpAny _ _ (call (Value.ref _) _) _ _ _)); first | (k_end; wrow_close) | (walk1 <;> (try walk_at "mine fold")) | (dsimp only; walk1) | (leave1; walk_say "STEP leave1"; try dsimp only) | fail "no step"))))
  k_with "mine call" => (k_dflt (first
  | ((with_reducible show wpAny _ _ (call (Value.ref 142) _) _ _ _); (refine' Spec.use' (by k_asm) (by k_asm) (by exact lot_spec _ _ _ _ _ _ _ _ _ _ (by assumption) (by assumption) (by assumption) (by assumption) (by omega) (by omega) (by omega) (by omega)) (by k_asm) (by k_asm) (by k_asm) (by first | exact rfl | assumption) (by ktr_room) (by ktr_units) ?_); intro r' n' h' tk' F' N' hp'; obtain ⟨o', v', t', e1', ht', e2', hv1', hv2'⟩ := hp'; subst e1'; subst e2'; (try dsimp only); (try k_fold))
  | ((with_reducible show wpAny _ _ (call (Value.ref 135) _) _ _ _); (refine' Spec.use' (by k_asm) (by k_asm) (by exact word_text_spec _ _ (Item.bits _ _) _ (dat_bits (.head _) (by assumption)) (okbits (by assumption))) (by k_asm) (by k_asm) (by k_asm) (by first | exact rfl | assumption) (by ktr_room) (by ktr_units) ?_); intro r' n' h' tk' F' N' hp'; obtain ⟨e1', y', t', e2', hy', hyl'⟩ := hp'; rw [e1'] at N'; clear e1'; subst e2'; (obtain ⟨hb1', hb2', hb3', hb4', hb5'⟩ := bits_call hy' (by assumption)); (try dsimp only); (try k_fold))
  | ((with_reducible show wpAny _ _ (call (Value.ref 163) _) _ _ _); (refine' Spec.use' (by k_asm) (by k_asm) (by exact added_spec _ _ _ 2 _ _ _ _ (by assumption) (by assumption) (by decide) (by assumption) (by assumption)) (by k_asm) (by k_asm) (by k_asm) (by first | exact rfl | assumption) (by ktr_room) (by ktr_units) ?_); intro r' n' h' tk' F' N' hp'; obtain ⟨e1', y', t', e2', hy', hyl'⟩ := hp'; rw [e1'] at N'; clear e1'; subst e2'; (try dsimp only); (try k_fold))))
  k_with "call builtin:list.extend" => ((k_here; (with_reducible show wpAny _ _ (call (Value.builtin _) [Value.ref _, Value.ref _]) _ _ _); k_dflt (refine' my_extend ?F ?N ?b ?U ?d ?z ?y ?_; (case F => k_asm); (case N => k_asm); (case b => exact .head _); (case U => k_upd); (case d => omega); (case z => exact Nat.succ_pos _); (case y => exact Nat.le_of_ble_eq_true rfl); intro h' F' N'; (try dsimp only))))
  k_with "eval ListComp" => ((k_here; k_dflt (refine tup_comp (by k_asm) (by rfl) (by decide) (by rfl) (by decide) (by rfl) ?_)))
  k_with "TSrc" => ((k_here; k_dflt (refine ⟨_, _, _, _, rfl, by rfl, by k_asm, by k_asm, by k_mem, by first | size_fits | exact Nat.le_of_ble_eq_true rfl, ?_⟩; intro s2 hs2; obtain ⟨g9, e9⟩ := hs2; subst e9; lcg_lit)))
  k_with "mine end" => (refine LCg.CompEnd.intro (by k_asm) (by k_asm) _ (fun p hp => hp) (by assumption) (by k_mem) ?_)
  k_with "CompRest" => ((with_unfolding_all first
  | (refine LCg.CompRest.succ ?_; intro v' I' oI' C' oC' D' m' h' tk' E' hv' hC' hx' F' N' off' ne'; have offk := off'; (first | lcg_open hv' | (obtain ⟨t9', hv9'⟩ := hv'; subst hv9')); (try simp (config := {zetaDelta := true}) only [LCg.Off3, and_true] at off'))
  | refine LCg.CompRest.zero ?_))
  k_with "binaryOp Mult ref int" => ((k_here; k_dflt (refine KMa.mul (vs := [_]) (ws := [_, _, _]) (by k_asm) (by k_asm) (News.isList (by k_asm) (by k_mem)) (by decide) (by decide) (Nat.le_of_ble_eq_true rfl) (by rfl) ?_); intro D' h' F' N' l1))
  k_with "compareOp Eq ref ref" => ((k_here; (with_reducible show wpAny _ _ (compareOp CmpOp.Eq (Value.ref _) (Value.ref _)) _ _ _); k_dflt (refine eq_ints_same (News.isList (by k_asm) (by k_mem)) (.cons _ _ (.cons _ _ (.cons _ _ .nil))) (News.isList (by k_asm) (by k_mem)) (.cons _ _ (.cons _ _ (.cons _ _ .nil))) (by ktr_units) (three_eq (by omega) (by omega) (by omega)) ?_)))
  k_with "subscriptTail Name Slice str ref" => (((with_reducible show wpAny _ _ (subscriptTail _ (Expr.Slice (some _) none none _) _ _) _ _ _); (with_reducible rename Fr _ _ _ _ => F'); (with_reducible rename News _ _ _ _ => N'); (refine slice_strN_sn_len (hsz := ?hsz) (s := ⟨_, _, _, _, _⟩) F' N' ?_); (case hsz => (rw [sizeLine_eq]; omega)); intro _ _ _ _ _ _; (try k_sweep)))
  k_with "subscriptTail Call Slice str ref" => (((with_reducible show wpAny _ _ (subscriptTail _ (Expr.Slice (some _) none none _) _ _) _ _ _); (with_reducible rename Fr _ _ _ _ => F'); (with_reducible rename News _ _ _ _ => N'); (refine slice_strN_sn_len (hsz := ?hsz) (s := ⟨_, _, _, _, _⟩) F' N' ?_); (case hsz => (rw [sizeLine_eq]; omega)); intro _ _ _ _ _ _; (try k_sweep)))
  k_with "binaryOp Add str str" => ((refine add_hb (by assumption) ?_; intro _ _))
  k_with "mine junk" => (((repeat (with_reducible rename LCg.Off3 _ _ _ _ => qj; clear qj)); (repeat (with_reducible rename (_ ≠ _ ∧ _ ≠ _ ∧ _ ≠ _) => qj; clear qj)); (repeat (with_reducible rename (_ < _ ∧ _) => qj; clear qj)); (repeat (with_reducible rename ((_ ≠ _ ∧ _) ∧ _) => qj; clear qj)); (repeat (with_reducible rename (_ ≠ _ ∧ _) => qj; clear qj)); (repeat (with_reducible rename LCg.NsObj _ _ => qj; clear qj))))
  k_with "lcg_src" => (k_mem)
  k_with "k_all" => (assumption)
  k_with "mine fold" => ((first | (with_reducible show wpAny _ _ (exec _ _) _ _ _) | (with_reducible show wpAny _ _ (eval (Expr.Call _ _ _ _) _) _ _ _)); ((try k_fold); (with_reducible rename Fr _ _ _ _ => lF); (with_reducible rename News _ _ _ _ => lN); (with_reducible refine fold3 lF lN ?_); clear lF lN; intro s9 m9 l9 F9 N9))
  trivial
set_option maxRecDepth 100000 in
set_option maxHeartbeats 4000000 in
theorem bits_right_spec (w : World) (d c wl : Addr) (o : Obj) (at0 : Int) (vs ws : List Value) (nn : Nat) (ns : List Int) (news : List (Addr × Obj))
   (hd : IsTank w o c at0) (hoff : ∀ p ∈ (c, LCg.lst vs) :: (wl, W.listOf ws.toArray nn) :: news, p.1 ≠ d) (hoff2 : ∀ p ∈ (d, o) :: (c, LCg.lst vs) :: news, p.1 ≠ wl) (hns : IntsAre vs ns) (hlen : ns.length ≤ 60) (hat : 0 ≤ at0) (hat2 : at0 < 100) (hws : ws.length ≤ 30) :
    Spec w 182 20 [.ref d, .ref wl] ((d, o) :: (c, LCg.lst vs) :: (wl, W.listOf ws.toArray nn) :: news) (fun news' r => Out w d c wl o vs ws nn at0 3 4 news news' r) := by
  have hdw : d ≠ wl := hoff2 _ (.head _)
  have hcw : c ≠ wl := hoff2 _ (.tail _ (.head _))
  have hnw : ∀ p ∈ news, p.1 ≠ wl := fun p hp => hoff2 p (.tail _ (.tail _ hp))
  unfold Spec
  k_fill
  intro loose mean mg mb dp un gd cn cs a ccd cl outer A₀ base h₀ L m s Q E B F X N T hk hdp hun hret
  refine wpAny_call ?_
  k_dflt ktr_enter
  (try k_gentoks)
  refine fold_env ?_
  intro A9 v9
  have uA9 : A9.units = un + 3 := by rfl
  have dA9 : A9.depth = dp + 1 := by rfl
  walk_at "mine steps"
  rename _ < (8:Int) => hw8
  obtain ⟨n, hn⟩ := width_of (by assumption) hw8
  walk_at "mine steps"
  refine LCg.CompEnd.intro (by k_asm) (by k_asm) _ (fun p hp => hp) (by assumption) (by k_mem) ?_
  walk_at "CompRest"
  walk_at "mine steps"
  refine LCg.CompEnd.intro (by k_asm) (by k_asm) _ (fun p hp => hp) (by assumption) (by k_mem) ?_
  walk_at "CompRest"
  walk_at "mine steps"
  refine LCg.CompEnd.intro (by k_asm) (by k_asm) _ (fun p hp => hp) (by assumption) (by k_mem) ?_
  refine LCg.CompRest.zero ?_
  walk_at "FinE"
  rename News _ _ _ _ => lN
  refine cut_words (old := (d, o) :: (c, LCg.lst vs) :: (wl, W.listOf ws.toArray nn) :: news) [.bits _ n, .bits _ n, .bits _ n, .bits _ (n + 1)] lN (by repeat (first | exact split_nil | apply split_cons)) (by repeat (first | exact above_nil | refine above_cons (above3 (by assumption) (by omega)) ?_)) (by exact .cons (dat_bits' (by k_mem) hn.1) (.cons (dat_bits' (by k_mem) hn.1) (.cons (dat_bits' (by k_mem) hn.1) (.cons (dat_bits' (by k_mem) (by have := hn.1; omega)) .nil)))) ?_
  clear lN
  intro new kN hAb hDat
  walk_at "mine junk"
  walk_at "mine steps"
  refine hret _ _ _ _ (by k_asm) (cb_drop (by k_asm) (fun p hp => .tail _ (.tail _ (.tail _ hp)))) ⟨_, _, _, _, _, new, rfl, by assumption, by omega, by omega, hAb, hDat, bits_items hn, Nat.le_refl 4, congrArg Value.bool (bits_end hn (by assumption) (by assumption) wd_nonneg wd_nonneg (by assumption) (by assumption))⟩
end
end Mine
namespace Mine
theorem rest_ZN8 : True := by
  w_top off
  k_with_none
  first | walk1 | trivial
end Mine
/- part ZN8 -/
namespace Mine
section
abbrev FSt := Obj × Int × Int × Tok
abbrev FLed (d c : Addr) (vs : List Value) (news : List (Addr × Obj)) (σ : FSt) : List (Addr × Obj) := (d, σ.1) :: (c, LCg.lst vs) :: news
abbrev FInv (w : World) (c : Addr) (at0 : Int) (pre : List Int) (σ : FSt) : Prop := IsTank w σ.1 c σ.2.1 ∧ σ.2.1 = at0 + pre.length ∧ 0 ≤ σ.2.2.1 ∧ σ.2.2.1 < 10 ^ pre.length
theorem ten_le {k : Nat} (hk : k ≤ 12) : (10 : Int) ^ k ≤ 1000000000000 := by
  have h : (10 : Nat) ^ k ≤ 10 ^ 12 := Nat.pow_le_pow_right (by decide) hk
  have e : ((10 ^ k : Nat) : Int) = (10 : Int) ^ k := by simp
  omega
theorem pow_next {fd v : Int} {n : Nat} (h : fd < 10 ^ n) (hv : v < 10) : 10 * fd + v < 10 ^ (n + 1) := by
  rw [Int.pow_succ]; omega
theorem fig_end {h₀ h' : Heap} {L : Addr} {m1 m₀ : Str → Option Value} {x : Str} {s₁ : Shared} {tk : Nat} {own news : List (Addr × Obj)} {w : World} {d c : Addr} {vs : List Value} {at0 at2 fd2 : Int} {t2 : Tok} {pre : List Int} {k : Int} {o2 : Obj} {c0 : FSt}
    (F : Fr h₀ L h' (fun y => if y = Str.ofString "found" then some (.int fd2 t2) else m1 y)) (N : News h₀ L h' ((d, o2) :: (c, LCg.lst vs) :: (news ++ own))) (hm : ∀ z, z ≠ x → z ≠ Str.ofString "found" → m1 z = m₀ z) (_hx : x ≠ Str.ofString "found")
    (hT : IsTank w o2 c at2) (ha : at2 = at0 + pre.length + 1) (h0 : 0 ≤ fd2) (h1 : fd2 < 10 ^ (pre.length + 1)) :
    InvEndN h₀ L (KstS (FLed d c vs news) (fun σ => [(Str.ofString "found", Value.int σ.2.2.1 σ.2.2.2)]) (fun _ => True) x [] m₀ (FInv w c at0) (pre ++ [k])) own ((FLed d c vs news c0).map (·.1)) s₁ { s₁ with heap := h', toks := tk } := by
  refine kst_end (σ := FSt) (o2, at2, fd2, t2) F N ?_ ?_ rfl trivial ?_ ?_ ⟨hT, ?_, h0, ?_⟩
  · intro p hp
    rcases List.mem_cons.mp hp with rfl | hp
    · exact .head _
    · rcases List.mem_cons.mp hp with rfl | hp
      · exact .tail _ (.head _)
      · exact .tail _ (.tail _ (List.mem_append_left _ hp))
  · intro p hp
    exact .tail _ (.tail _ (List.mem_append_right _ hp))
  · intro p hp
    rw [List.mem_singleton.mp hp]
    exact if_pos rfl
  · intro z hz hz2 _
    have hne : z ≠ Str.ofString "found" := hz2 _ (List.mem_singleton.mpr rfl)
    rw [if_neg hne]
    exact hm z hz hne
  · show at2 = at0 + ((pre ++ [k]).length : Int)
    rw [List.length_append, List.length_singleton]; omega
  · show fd2 < 10 ^ (pre ++ [k]).length
    rw [List.length_append, List.length_singleton]; exact h1
theorem words_N8_1 : True := by
  w_top off
  k_with_none
  k_with "mine steps" => (repeat' (first | (k_unfold; (try dsimp only)) | (goal_lacks PySem.W.InvEndN PySem.W.KswEnd; (fail_if_success (with_reducible show wpAny _ _ (pyIter _) _ _ _)); first | ((with_reducible show wpAny _ _ (call (Value.ref _) _) _ _ _); walk_at "mine call") | ((fail_if_success (with_reducible show wpAny _ _ (call (Value.ref _) _) _ _ _)); first | (k_end; wrow_close) | (walk1 <;> (try walk_at "mine fold")) | (dsimp only; walk1) | (leave1; walk_say "STEP leave1"; try dsimp only) | fail "no step"))))
  k_with "mine call" => ((k_here; (with_reducible show wpAny _ _ (call (Value.ref 142) _) _ _ _); k_dflt (refine' Spec.use' (by k_asm) (by k_asm) (by exact lot_spec _ _ _ _ _ _ _ _ _ _ (by assumption) (by assumption) (by assumption) (by assumption) (by omega) (by omega) (by omega) (by omega)) (by k_asm) (by k_asm) (by k_asm) (by first | exact rfl | assumption) (by ktr_room) (by ktr_units) ?_); intro r' n' h' tk' F' N' hp'; obtain ⟨o', v', t', e1', ht', e2', hv1', hv2'⟩ := hp'; subst e1'; subst e2'; (try dsimp only); (try k_fold)))
  k_with "mine fold" => ((first | (with_reducible show wpAny _ _ (exec _ _) _ _ _) | (with_reducible show wpAny _ _ (eval (Expr.Call _ _ _ _) _) _ _ _)); ((try k_fold); (with_reducible rename Fr _ _ _ _ => lF); (with_reducible rename News _ _ _ _ => lN); (with_reducible refine fold3 lF lN ?_); clear lF lN; intro s9 m9 l9 F9 N9))
  trivial
set_option maxRecDepth 100000 in
set_option maxHeartbeats 4000000 in
theorem figures_spec (w : World) (d c : Addr) (o : Obj) (t : Tok) (at0 most : Int) (vs : List Value) (ns : List Int) (news : List (Addr × Obj))
   (hd : IsTank w o c at0) (hoff : ∀ p ∈ (c, LCg.lst vs) :: news, p.1 ≠ d) (hns : IntsAre vs ns) (hlen : ns.length ≤ 60) (hat : 0 ≤ at0) (hat2 : at0 < 100) (hm : 0 < most) (hm2 : most ≤ 12) :
    Spec w 149 2 [.ref d, .int most t] ((d, o) :: (c, LCg.lst vs) :: news) (fun news' r => ∃ o' at1 v t', news' = (d, o') :: (c, LCg.lst vs) :: news ∧ IsTank w o' c at1 ∧ at0 ≤ at1 ∧ at1 ≤ at0 + 13 ∧ r = .int v t' ∧ 0 ≤ v ∧ v < 1000000000000) := by
  unfold Spec
  k_fill
  intro loose mean mg mb dp un gd cn cs a ccd cl outer A₀ base h₀ L m s Q E B F X N T hk hdp hun hret
  refine wpAny_call ?_
  k_dflt ktr_enter
  (try k_gentoks)
  refine fold_env ?_
  intro A9 v9
  have uA9 : A9.units = un + 3 := by rfl
  have dA9 : A9.depth = dp + 1 := by rfl
  walk_at "mine steps"
  rename IsRange _ _ _ _ _ _ _ _ => rgX
  rename Fr _ _ _ _ => lF'
  rename News _ _ _ _ => lN'
  rename IsTank _ _ _ _ => hT'
  refine kst_range (σ := FSt) (FLed d c vs news) (fun σ => [(Str.ofString "found", Value.int σ.2.2.1 σ.2.2.2)]) (fun _ => True) [] (FInv w c (at0 + 1)) (_, _, 0, _) rfl rgX (small_one (by omega) (by omega) (by omega) (by omega)) (rangeSize_nat _ _) lF' lN' trivial (by intro p hp; rw [List.mem_singleton.mp hp]; rfl) ⟨hT', by simp, by simp, by simp⟩ ?_ ?_
  · intro σ pre k t u h tk own ek hlt hof _ hp F1 N1
    k_fold
    obtain ⟨o1, at1, fd, ft⟩ := σ
    obtain ⟨hT, hat1, hf0, hf1⟩ := hp
    have hlen12 : pre.length < 12 := by omega
    have hten := ten_le (k := pre.length) (by omega)
    have hoff1 : ∀ p ∈ (c, LCg.lst vs) :: (news ++ own), p.1 ≠ d := by
      intro p hp
      rcases List.mem_cons.mp hp with rfl | hp
      · exact hoff _ (.head _)
      · rcases List.mem_append.mp hp with q | q
        · exact hoff p (.tail _ q)
        · exact hof p q d (.head _)
    dsimp only at hT hat1 hf0 hf1
    have N1' : News _ _ _ ((d, o1) :: (c, LCg.lst vs) :: (news ++ own)) := N1
    clear N1
    walk_at "mine steps"
    exact fig_end (by assumption) (by assumption) (fun z h1 h2 => by simp (config := {zetaDelta := true}) [h1, h2, kstB]) (by decide +kernel) (by assumption) (by omega) (by omega) (pow_next hf1 (by assumption))
  · intro σ u h tk _ hp F1 N1
    obtain ⟨o1, at1, fd, ft⟩ := σ
    obtain ⟨hT, hat1, hf0, hf1⟩ := hp
    rw [rangeKs_length] at hat1 hf1
    dsimp only at hat1 hf1 hf0 hT
    have hten := Int.lt_of_lt_of_le hf1 (ten_le (by omega))
    walk_at "mine steps"
    refine hret _ _ _ _ (by k_asm) (by k_asm) ⟨_, _, _, _, rfl, hT, by omega, by omega, rfl, hf0, by omega⟩
end
end Mine
namespace Mine
theorem rest_ZN9b : True := by
  w_top off
  k_with_none
  first | walk1 | trivial
end Mine
/- part ZN9b -/
namespace Mine
section
theorem drop2 {x y : Addr × Obj} {news : List (Addr × Obj)} : ∀ p ∈ x :: news, p ∈ x :: y :: news := by
  intro p hp
  rcases List.mem_cons.mp hp with rfl | hp
  · exact .head _
  · exact .tail _ (.tail _ hp)
theorem words_N9b_1 : True := by
  w_top off
  k_with_none
  k_with "mine steps" => (repeat' (first | (k_unfold; (try dsimp only)) | (goal_lacks PySem.W.InvEndN PySem.W.KswEnd; (fail_if_success (with_reducible show wpAny _ _ (pyIter _) _ _ _)); (fail_if_success (with_reducible show wpAny _ _ (exec (Stmt.While _ _ _ _) _) _ _ _)); first | ((with_reducible show wpAny _ _ (call (Value.ref _) _) _ _ _); walk_at "mine call") | ((fail_if_success (with_reducible show wpAny _ _ (call (Value.ref _) _) _ _ _)); first | (k_end; wrow_close) | (walk1 <;> (try walk_at "mine fold")) | (dsimp only; walk1) | (leave1; walk_say "STEP leave1"; try dsimp only) | fail "no step"))))
  k_with "binaryOp FloorDiv int int" => ((k_here; refine' floordiv_int ?kbe ?_ (Or.inl (PyProof.noPylong_of_log2 ?kbp)); (case kbe => assumption); (case kbp => exact log_ok (by assumption))))
  k_with "mine fold" => ((first | (with_reducible show wpAny _ _ (exec _ _) _ _ _) | (with_reducible show wpAny _ _ (eval (Expr.Call _ _ _ _) _) _ _ _)); ((try k_fold); (with_reducible rename Fr _ _ _ _ => lF); (with_reducible rename News _ _ _ _ => lN); (with_reducible refine fold3 lF lN ?_); clear lF lN; intro s9 m9 l9 F9 N9))
  trivial
set_option maxRecDepth 100000 in
set_option maxHeartbeats 4000000 in
theorem ratio_spec2 (w : World) (tt bb : Int) (t t2 : Tok) (news : List (Addr × Obj)) (hv : 0 ≤ tt) (hb : 0 < bb) (hb2 : bb < 1000000000000) (hv2 : tt < 1000000000000) :
    Spec w 156 1 [.int tt t, .int bb t2] news (fun news' r => ∃ D k u1 u2, news' = (D, ({ cls := .type "tuple", data := .seq #[.int (tt.fdiv (Int.gcd tt bb)) u1, .int (bb.fdiv (Int.gcd tt bb)) u2] k } : Obj)) :: news ∧ (∀ p ∈ news, p.1 < D) ∧ r = .ref D) := by
  unfold Spec
  k_fill
  intro loose mean mg mb dp un gd cn cs a ccd cl outer A₀ base h₀ L m s Q E B F X N T hk hdp hun hret
  refine wpAny_call ?_
  k_dflt ktr_enter
  (try k_gentoks)
  refine fold_env ?_
  intro A9 v9
  have uA9 : A9.units = un + 3 := by rfl
  have dA9 : A9.depth = dp + 1 := by rfl
  (k_with "exec While Compare cons nil" => k_while_given ["top", "bottom"] (fun top bottom script a b => RInv (Int.gcd top bottom) a b) (fun top bottom script a b => b.toNat) "a" "b")
  (k_with "state" => first | exact RInv.step (by assumption) (by assumption) | exact ⟨by omega, by omega, by omega, rfl⟩)
  (k_with "measure" => exact RInv.meas (by assumption) (by assumption))
  k_steps
  obtain ⟨hp1, hp2⟩ := RInv.pos (by assumption) (by assumption)
  have hp3 := gcd_le_right (a := tt) hb
  subst hp2
  have hp4 : (Int.gcd tt bb : Int).natAbs < 2 ^ 60 := by omega
  k_steps
  rename News _ _ _ _ => kN9
  rename _ ∧ AllLt _ _ => hh
  exact hret _ _ _ _ (by k_asm) (cb_drop kN9 drop2) ⟨_, _, _, _, rfl, fun q hq => ktn_ltOf hh.2 q hq, rfl⟩
end
end Mine
/- part ZA6 -/
namespace Mine
open PySem.Builtin.Str
/-! whole numbers' texts -/
def Dig (m : Nat) : List Nat := (Nat.toDigits 10 m).map Char.toNat
theorem dig_of (m : Nat) : (Str.ofString (toString ((m : Nat) : Int))).cps.toList = Dig m := KIN.signs_num m
theorem digch (d : Nat) (h : d < 10) : (Nat.digitChar d).toNat = 48 + d := by
  have : ∀ d : Nat, d < 10 → (Nat.digitChar d).toNat = 48 + d := by decide
  exact this d h
theorem dig_lt {m : Nat} (h : m < 10) : Dig m = [48 + m] := by
  unfold Dig
  rw [Nat.toDigits_of_lt_base h, List.map_cons, List.map_nil, digch m h]
theorem dig_ge {m : Nat} (h : 10 ≤ m) : Dig m = Dig (m / 10) ++ [48 + m % 10] := by
  have hm : m % 10 < 10 := Nat.mod_lt m (by decide)
  have t : Nat.toDigits 10 (m / 10) ++ Nat.toDigits 10 (m % 10) = Nat.toDigits 10 (10 * (m / 10) + m % 10) := Nat.toDigits_append_toDigits (by decide) (by omega) hm
  rw [Nat.div_add_mod] at t
  unfold Dig
  rw [← t, List.map_append, Nat.toDigits_of_lt_base hm, List.map_cons, List.map_nil, digch _ hm]
/-- no nought ahead, the value v -/
def Canon (l : List Nat) (v : Nat) : Prop := AllB 10 l ∧ l ≠ [] ∧ valB 10 l = v ∧ (l.length = 1 ∨ 10 ^ (l.length - 1) ≤ v)
theorem dig_canon (m : Nat) : Canon (Dig m) m := by
  induction m using Nat.strongRecOn with
  | _ m ih =>
    by_cases h : m < 10
    · rw [dig_lt h]
      refine ⟨fun c hc => ?_, by simp, by simp [valB], .inl rfl⟩
      rw [List.mem_singleton.mp hc]; omega
    · obtain ⟨h1, h2, h3, h4⟩ := ih (m / 10) (by omega)
      rw [dig_ge (by omega)]
      have hl : 0 < (Dig (m / 10)).length := List.length_pos_iff.mpr h2
      refine ⟨fun c hc => ?_, by simp, ?_, .inr ?_⟩
      · rcases List.mem_append.mp hc with hc | hc
        · exact h1 c hc
        · rw [List.mem_singleton.mp hc]; omega
      · rw [valB_append, h3, List.length_singleton]
        have : valB 10 [48 + m % 10] = m % 10 := by simp [valB]
        rw [this]; omega
      · rw [List.length_append, List.length_singleton, Nat.add_sub_cancel]
        have e : (Dig (m / 10)).length = ((Dig (m / 10)).length - 1) + 1 := by omega
        rw [e, Nat.pow_succ]
        rcases h4 with h4 | h4
        · rw [h4]; simp; omega
        · omega
theorem canon_lt {l l' : List Nat} {v : Nat} (h : Canon l v) (h' : Canon l' v) : ¬ l.length < l'.length := by
  intro hlt
  obtain ⟨h1, h2, h3, h4⟩ := h
  obtain ⟨k1, k2, k3, k4⟩ := h'
  have hl : 0 < l.length := List.length_pos_iff.mpr h2
  have b := valB_lt h1
  rw [h3] at b
  have b2 : 10 ^ l.length ≤ 10 ^ (l'.length - 1) := Nat.pow_le_pow_right (by decide) (by omega)
  rcases k4 with k4 | k4 <;> omega
theorem canon_inj {l l' : List Nat} {v : Nat} (h : Canon l v) (h' : Canon l' v) : l = l' := by
  have e1 := canon_lt h h'
  have e2 := canon_lt h' h
  exact valB_inj h.1 h'.1 (by omega) (by rw [h.2.2.1, h'.2.2.1])
theorem canon_sum {X Y Z : List Nat} {a b : Nat} (hx : Canon X a) (hy : Canon Y b) (h : Summed 10 X Y Z) : Canon Z (a + b) := by
  obtain ⟨h1, h2, h3, h4⟩ := hx
  obtain ⟨k1, k2, k3, k4⟩ := hy
  obtain ⟨s1, s2, s3⟩ := h
  have hl : 0 < X.length := List.length_pos_iff.mpr h2
  have kl : 0 < Y.length := List.length_pos_iff.mpr k2
  rw [h3, k3] at s2 s3
  refine ⟨s1, fun e => ?_, s2, ?_⟩
  · rw [e] at s3; simp only [List.length_nil] at s3; omega
  · rcases s3 with ⟨e, _⟩ | ⟨e, hge⟩
    · rw [e]
      rcases Nat.le_total X.length Y.length with q | q
      · rw [Nat.max_eq_right q]
        rcases k4 with k4 | k4
        · exact .inl k4
        · exact .inr (by omega)
      · rw [Nat.max_eq_left q]
        rcases h4 with h4 | h4
        · exact .inl h4
        · exact .inr (by omega)
    · rw [e, Nat.add_sub_cancel]
      exact .inr hge
theorem one_canon : Canon (Str.ofString "1").cps.toList 1 := by
  have : (Str.ofString "1").cps.toList = Dig 1 := by decide +kernel
  rw [this]; exact dig_canon 1
theorem str_ext' {x y : Str} (h : x.cps.toList = y.cps.toList) : x = y := PySem.Str.ext' (Array.toList_inj.mp h)
/-- the text of a number not below nought -/
theorem num_is {v : Int} {y : Str} (h : WordIs (.num v) y) (h0 : 0 ≤ v) : y = Str.ofString (toString v) ∧ Canon y.cps.toList v.toNat := by
  have e : y = Str.ofString (toString v) := by
    have h' : y = numText v := h
    rw [h', numText, if_neg (by omega)]
  refine ⟨e, ?_⟩
  obtain ⟨m, rfl⟩ := Int.eq_ofNat_of_zero_le h0
  rw [e, dig_of]
  exact dig_canon m
theorem text_canon {v : Int} (h0 : 0 ≤ v) : Canon (Str.ofString (toString v)).cps.toList v.toNat := by
  obtain ⟨m, rfl⟩ := Int.eq_ofNat_of_zero_le h0
  rw [dig_of]
  exact dig_canon m
theorem num_sum_eq {a b : Int} {x y z u : Str} (hz : Summed 10 x.cps.toList y.cps.toList z.cps.toList) (hu : WordIs (.num (a + b)) u) (hx : WordIs (.num a) x) (hy : WordIs (.num b) y) (ha : 0 ≤ a) (hb : 0 ≤ b) : z = u := by
  have h1 := (num_is hx ha).2
  have h2 := (num_is hy hb).2
  have h3 := (num_is hu (by omega)).2
  have e : (a + b).toNat = a.toNat + b.toNat := by omega
  rw [e] at h3
  exact str_ext' (canon_inj (canon_sum h1 h2 hz) h3)
theorem text_sum {v v' : Int} {z : Str} {X Y : List Nat} {a b : Nat} (hz : Summed 10 X Y z.cps.toList) (hx : Canon X a) (hy : Canon Y b) (h0 : 0 ≤ v) (e : v.toNat = a + b) : z = Str.ofString (toString v) := by
  have h3 := text_canon h0
  rw [e] at h3
  exact str_ext' (canon_inj (canon_sum hx hy hz) h3)
theorem num_neg_eq {a : Int} {x z u : Str} (hz : Summed 10 x.cps.toList (Str.ofString "1").cps.toList z.cps.toList) (hu : WordIs (.num (-1 - a)) u) (hx : WordIs (.num a) x) (ha : 0 ≤ a) : u = Str.ofString "(- " ++ z ++ Str.ofString ")" := by
  have h1 := (num_is hx ha).2
  have hu' : u = numText (-1 - a) := hu
  have e : z = Str.ofString (toString (-(-1 - a))) := by
    refine str_ext' (canon_inj (canon_sum h1 one_canon hz) ?_)
    have : a.toNat + 1 = (-(-1 - a)).toNat := by omega
    rw [this]
    exact text_canon (by omega)
  rw [hu', numText, if_pos (by omega), e]
theorem canon_facts {y : Str} {v : Nat} (h : Canon y.cps.toList v) (hv : v < 10 ^ 30) : y.length ≤ 60 ∧ AllB 10 y.cps.toList := by
  obtain ⟨h1, h2, h3, h4⟩ := h
  refine ⟨?_, h1⟩
  have e : y.cps.toList.length = y.length := Array.length_toList
  rw [e] at h4
  rcases Nat.lt_or_ge 60 y.length with q | q
  · exfalso
    have : (10 : Nat) ^ 60 ≤ 10 ^ (y.length - 1) := Nat.pow_le_pow_right (by decide) (by omega)
    have h6 : (10 : Nat) ^ 30 ≤ 10 ^ 60 := Nat.pow_le_pow_right (by decide) (by decide)
    rcases h4 with h4 | h4 <;> omega
  · exact q
theorem num_facts {v : Int} {y : Str} (h : WordIs (.num v) y) (h0 : 0 ≤ v) (hv : v < 10000000000000) : y.length ≤ 60 ∧ AllB 10 y.cps.toList :=
  canon_facts (num_is h h0).2 (by omega)
end Mine
/- part ZA7 -/
namespace Mine
open PySem.Builtin.Str
/-! decimals -/
theorem dvd_pow2 : ∀ (n k : Nat), k ∣ 2 ^ n → ∃ i, i ≤ n ∧ k = 2 ^ i
  | 0, k, h => ⟨0, Nat.le_refl _, by simpa using h⟩
  | n + 1, k, h => by
    rw [Nat.pow_succ] at h
    obtain ⟨k1, k2, h1, h2, e⟩ := (Nat.dvd_mul).mp h
    obtain ⟨i, hi, ei⟩ := dvd_pow2 n k1 h1
    have : k2 ≤ 2 := Nat.le_of_dvd (by decide) h2
    have hk : k2 = 1 ∨ k2 = 2 := by
      rcases k2 with _ | _ | _ | k2
      · simp at h2
      · exact .inl rfl
      · exact .inr rfl
      · omega
    rcases hk with hk | hk
    · exact ⟨i, by omega, by rw [← e, ei, hk, Nat.mul_one]⟩
    · exact ⟨i + 1, by omega, by rw [← e, ei, hk, Nat.pow_succ]⟩
theorem dvd_pow5 : ∀ (n k : Nat), k ∣ 5 ^ n → ∃ i, i ≤ n ∧ k = 5 ^ i
  | 0, k, h => ⟨0, Nat.le_refl _, by simpa using h⟩
  | n + 1, k, h => by
    rw [Nat.pow_succ] at h
    obtain ⟨k1, k2, h1, h2, e⟩ := (Nat.dvd_mul).mp h
    obtain ⟨i, hi, ei⟩ := dvd_pow5 n k1 h1
    have : k2 ≤ 5 := Nat.le_of_dvd (by decide) h2
    have hk : k2 = 1 ∨ k2 = 5 := by
      have hd : ∀ d, d ≤ 5 → d ∣ 5 → d = 1 ∨ d = 5 := by decide
      exact hd k2 this h2
    rcases hk with hk | hk
    · exact ⟨i, by omega, by rw [← e, ei, hk, Nat.mul_one]⟩
    · exact ⟨i + 1, by omega, by rw [← e, ei, hk, Nat.pow_succ]⟩
theorem ten_pow (n : Nat) : (10 : Nat) ^ n = 2 ^ n * 5 ^ n := by rw [← Nat.mul_pow]
theorem dvd_pow10 {n k : Nat} (h : k ∣ 10 ^ n) : ∃ i j, i ≤ n ∧ j ≤ n ∧ k = 2 ^ i * 5 ^ j := by
  rw [ten_pow] at h
  obtain ⟨k1, k2, h1, h2, e⟩ := (Nat.dvd_mul).mp h
  obtain ⟨i, hi, ei⟩ := dvd_pow2 n k1 h1
  obtain ⟨j, hj, ej⟩ := dvd_pow5 n k2 h2
  exact ⟨i, j, hi, hj, by rw [← e, ei, ej]⟩
theorem pow_dvd_of {i j P : Nat} (hi : i ≤ P) (hj : j ≤ P) : 2 ^ i * 5 ^ j ∣ 10 ^ P := by
  rw [ten_pow]
  exact Nat.mul_dvd_mul (Nat.pow_dvd_pow 2 hi) (Nat.pow_dvd_pow 5 hj)
theorem cop25 (i j : Nat) : Nat.Coprime (2 ^ i) (5 ^ j) := Nat.Coprime.pow i j (by decide)
/-- the exponents of a divisor of a power of ten -/
theorem exps_le {i j n : Nat} (h : 2 ^ i * 5 ^ j ∣ 10 ^ n) : i ≤ n ∧ j ≤ n := by
  rw [ten_pow] at h
  constructor
  · have h1 : 2 ^ i ∣ 2 ^ n * 5 ^ n := Nat.dvd_trans (Nat.dvd_mul_right _ _) h
    have h2 : 2 ^ i ∣ 2 ^ n := (cop25 i n).dvd_of_dvd_mul_right h1
    exact (Nat.pow_dvd_pow_iff_le_right (by decide)).mp h2
  · have h1 : 5 ^ j ∣ 2 ^ n * 5 ^ n := Nat.dvd_trans (Nat.dvd_mul_left _ _) h
    have h2 : 5 ^ j ∣ 5 ^ n := ((cop25 n j).symm).dvd_of_dvd_mul_left h1
    exact (Nat.pow_dvd_pow_iff_le_right (by decide)).mp h2
/-- the text A.B of Q / 10^p, its noughts at the end taken off but one -/
def CDec (A B : List Nat) (p Q : Nat) : Prop :=
  AllB 10 A ∧ AllB 10 B ∧ B.length = p ∧ 1 ≤ p ∧ A ≠ [] ∧ valB 10 (A ++ B) = Q ∧ (A.length = 1 ∨ 10 ^ (A.length - 1) ≤ valB 10 A) ∧ (p = 1 ∨ Q % 10 ≠ 0)
theorem CDec.canon {A B : List Nat} {p Q : Nat} (h : CDec A B p Q) : Canon A (Q / 10 ^ p) ∧ valB 10 B = Q % 10 ^ p := by
  obtain ⟨h1, h2, h3, h4, h5, h6, h7, h8⟩ := h
  have hb := valB_lt h2
  rw [valB_append, h3] at h6
  rw [h3] at hb
  have e1 : Q / 10 ^ p = valB 10 A := by
    rw [← h6, Nat.add_comm, Nat.add_mul_div_right _ _ (Nat.pow_pos (by decide)), Nat.div_eq_of_lt hb, Nat.zero_add]
  have e2 : Q % 10 ^ p = valB 10 B := by
    rw [← h6, Nat.add_comm, Nat.add_mul_mod_self_right, Nat.mod_eq_of_lt hb]
  exact ⟨⟨h1, h5, e1.symm, by rw [e1]; exact h7⟩, e2.symm⟩
theorem cdec_same {A B A' B' : List Nat} {p Q : Nat} (h : CDec A B p Q) (h' : CDec A' B' p Q) : A = A' ∧ B = B' := by
  obtain ⟨e1, e2⟩ := h.canon
  obtain ⟨e3, e4⟩ := h'.canon
  refine ⟨canon_inj e1 e3, valB_inj h.2.1 h'.2.1 ?_ (e2.trans e4.symm)⟩
  rw [h.2.2.1, h'.2.2.1]
theorem cdec_le {A B A' B' : List Nat} {p p' Q Q' : Nat} (_h : CDec A B p Q) (h' : CDec A' B' p' Q') (e : Q * 10 ^ p' = Q' * 10 ^ p) : ¬ p < p' := by
  intro hlt
  have e1 : 10 ^ p' = 10 ^ (p' - p) * 10 ^ p := by rw [← Nat.pow_add]; congr 1; omega
  rw [e1, ← Nat.mul_assoc] at e
  have e2 := Nat.eq_of_mul_eq_mul_right (Nat.pow_pos (by decide)) e
  have e3 : 10 ^ (p' - p) = 10 ^ (p' - p - 1) * 10 := by rw [← Nat.pow_succ]; congr 1; omega
  rw [e3, ← Nat.mul_assoc] at e2
  have hp := _h.2.2.2.1
  rcases h'.2.2.2.2.2.2.2 with q | q
  · omega
  · omega
theorem cdec_inj {A B A' B' : List Nat} {p p' Q Q' : Nat} (h : CDec A B p Q) (h' : CDec A' B' p' Q') (e : Q * 10 ^ p' = Q' * 10 ^ p) : A = A' ∧ B = B' := by
  have e1 := cdec_le h h' e
  have e2 := cdec_le h' h e.symm
  have ep : p = p' := by omega
  subst ep
  have eq := Nat.eq_of_mul_eq_mul_right (Nat.pow_pos (by decide)) e
  subst eq
  exact cdec_same h h'
/-- the figures of Q with noughts ahead, at least one of them ahead of the point -/
def DL (Q p : Nat) : List Nat := List.replicate (p + 1 - (Dig Q).length) 48 ++ Dig Q
theorem dl_len (Q p : Nat) : p + 1 ≤ (DL Q p).length := by unfold DL; rw [List.length_append, List.length_replicate]; omega
theorem dl_all (Q p : Nat) : AllB 10 (DL Q p) := allB_zeros (by decide) (dig_canon Q).1
theorem dl_val (Q p : Nat) : valB 10 (DL Q p) = Q := by unfold DL; rw [valB_zeros, (dig_canon Q).2.2.1]
theorem dl_cdec {Q p : Nat} (hp : 1 ≤ p) (hq : p = 1 ∨ Q % 10 ≠ 0) : CDec ((DL Q p).take ((DL Q p).length - p)) ((DL Q p).drop ((DL Q p).length - p)) p Q := by
  have hl := dl_len Q p
  have hall := dl_all Q p
  refine ⟨fun c hc => hall c (List.mem_of_mem_take hc), fun c hc => hall c (List.mem_of_mem_drop hc), by rw [List.length_drop]; omega, hp, fun e => ?_, by rw [List.take_append_drop, dl_val], ?_, hq⟩
  · have := congrArg List.length e
    rw [List.length_take, List.length_nil] at this
    omega
  · rw [List.length_take, Nat.min_eq_left (by omega)]
    obtain ⟨d1, d2, d3, d4⟩ := dig_canon Q
    rcases Nat.lt_or_ge p (Dig Q).length with q | q
    · right
      have e : DL Q p = Dig Q := by unfold DL; rw [show p + 1 - (Dig Q).length = 0 by omega]; rfl
      rw [e] at hl ⊢
      have h1 : 10 ^ ((Dig Q).length - 1) ≤ Q := by rcases d4 with d4 | d4; omega; exact d4
      have hv : Q = valB 10 ((Dig Q).take ((Dig Q).length - p)) * 10 ^ p + valB 10 ((Dig Q).drop ((Dig Q).length - p)) := by
        have := valB_append 10 ((Dig Q).take ((Dig Q).length - p)) ((Dig Q).drop ((Dig Q).length - p))
        rw [List.take_append_drop, d3, List.length_drop, show (Dig Q).length - ((Dig Q).length - p) = p by omega] at this
        exact this
      have hlt : valB 10 ((Dig Q).drop ((Dig Q).length - p)) < 10 ^ p := by
        have := valB_lt (b := 10) (l := (Dig Q).drop ((Dig Q).length - p)) fun c hc => d1 c (List.mem_of_mem_drop hc)
        rwa [List.length_drop, show (Dig Q).length - ((Dig Q).length - p) = p by omega] at this
      have e2 : (10 : Nat) ^ ((Dig Q).length - 1) = 10 ^ ((Dig Q).length - p - 1) * 10 ^ p := by rw [← Nat.pow_add]; congr 1; omega
      rw [e2] at h1
      generalize valB 10 ((Dig Q).take ((Dig Q).length - p)) = va at *
      generalize (10 : Nat) ^ ((Dig Q).length - p - 1) = K at *
      have h3 : K * 10 ^ p < (va + 1) * 10 ^ p := by rw [Nat.add_mul, Nat.one_mul]; omega
      have := Nat.lt_of_mul_lt_mul_right h3
      omega
    · left
      have : (DL Q p).length = p + 1 := by unfold DL; rw [List.length_append, List.length_replicate]; omega
      omega
end Mine
/- part ZA8 -/
namespace Mine
open PySem.Builtin.Str
theorem str_list (l : List Nat) : (⟨l.toArray⟩ : Str).cps.toList = l := by simp
theorem decD_list {Q p : Nat} : (decD (Q : Int) (p : Int)).cps.toList = DL Q p := by
  unfold decD DL
  rw [Str.cps_append, Array.toList_append, show Str.ofString "0" = ⟨#[48]⟩ by decide +kernel, PyProof.Rows.mul_one_list, dig_of]
  congr 2
  have e : (Str.ofString (toString (Q : Int))).length = (Dig Q).length := by rw [← len_list, dig_of]
  rw [e]; omega
theorem decBody_list {Q p : Nat} (hp : 1 ≤ p) : (decBody (Q : Int) (p : Int)).cps.toList = (DL Q p).take ((DL Q p).length - p) ++ 46 :: (DL Q p).drop ((DL Q p).length - p) := by
  have e := decD_list (Q := Q) (p := p)
  have el := len_list (decD (Q : Int) (p : Int))
  rw [e] at el
  have hl := dl_len Q p
  unfold decBody
  rw [cat_dot, slice_to_neg hp (by omega), slice_from_neg hp (by omega), e, el]
/-- the exact quotient -/
theorem quo_exact {t i j P : Nat} (hi : i ≤ P) (hj : j ≤ P) : (((t : Int) * 10 ^ P).fdiv (2 ^ i * 5 ^ j)) = ((t * 10 ^ P / (2 ^ i * 5 ^ j) : Nat) : Int) ∧ (t * 10 ^ P / (2 ^ i * 5 ^ j)) * (2 ^ i * 5 ^ j) = t * 10 ^ P := by
  constructor
  · rw [Int.fdiv_eq_ediv_of_nonneg _ (Int.le_of_lt (Int.mul_pos (Int.pow_pos (by decide)) (Int.pow_pos (by decide))))]
    push_cast
    rfl
  · exact Nat.div_mul_cancel (Nat.dvd_trans (pow_dvd_of hi hj) (Nat.dvd_mul_left _ _))
theorem last_nz {t i j P Q : Nat} (hP : P = max 1 (max i j)) (hg : Nat.gcd t (2 ^ i * 5 ^ j) = 1) (hQ : Q * (2 ^ i * 5 ^ j) = t * 10 ^ P) : P = 1 ∨ Q % 10 ≠ 0 := by
  by_cases h1 : P = 1
  · exact .inl h1
  · right
    intro h0
    have hP2 : P = (P - 1) + 1 := by omega
    have e : Q = Q / 10 * 10 := by omega
    have e2 : Q / 10 * (2 ^ i * 5 ^ j) = t * 10 ^ (P - 1) := by
      rw [e, hP2, Nat.pow_succ] at hQ
      generalize 2 ^ i * 5 ^ j = b at hQ
      rw [Nat.mul_right_comm, ← Nat.mul_assoc] at hQ
      exact Nat.eq_of_mul_eq_mul_right (show 0 < 10 by decide) hQ
    have hd : 2 ^ i * 5 ^ j ∣ t * 10 ^ (P - 1) := ⟨Q / 10, by rw [← e2, Nat.mul_comm]⟩
    have hc : Nat.Coprime (2 ^ i * 5 ^ j) t := by rw [Nat.coprime_comm]; exact hg
    have hd2 := hc.dvd_of_dvd_mul_left hd
    have := exps_le hd2
    omega
theorem dec_cdec {t b : Int} {y : Str} (h : DecIs t b y) (h0 : 0 ≤ t) (hg : Int.gcd t b = 1) : ∃ (A B : Str) (p Q : Nat), y = A ++ Str.ofString "." ++ B ∧ CDec A.cps.toList B.cps.toList p Q ∧ Q * b.toNat = t.toNat * 10 ^ p ∧ p ≤ 10 ∧ 0 < b := by
  obtain ⟨i, j, hi, hj, hb, hy⟩ := h
  obtain ⟨n, rfl⟩ := Int.eq_ofNat_of_zero_le h0
  have hP : ∃ P : Nat, P = max 1 (max i j) ∧ max 1 (max (i : Int) j) = (P : Int) := ⟨max 1 (max i j), rfl, by omega⟩
  obtain ⟨P, hP1, hP2⟩ := hP
  have hbn : b = ((2 ^ i * 5 ^ j : Nat) : Int) := by rw [hb]; push_cast; rfl
  rw [hP2, Int.toNat_natCast, hb] at hy
  obtain ⟨e1, e2⟩ := quo_exact (t := n) (i := i) (j := j) (P := P) (by omega) (by omega)
  rw [e1] at hy
  have hg' : Nat.gcd n (2 ^ i * 5 ^ j) = 1 := by
    rw [hbn] at hg
    exact hg
  have hnz := last_nz hP1 hg' e2
  generalize n * 10 ^ P / (2 ^ i * 5 ^ j) = Q at *
  have hp1 : 1 ≤ P := by omega
  have hbl := decBody_list (Q := Q) hp1
  refine ⟨⟨((DL Q P).take ((DL Q P).length - P)).toArray⟩, ⟨((DL Q P).drop ((DL Q P).length - P)).toArray⟩, P, Q, ?_, ?_, ?_, by omega, ?_⟩
  · rw [hy]
    refine str_ext ?_
    rw [hbl, cat_dot, str_list, str_list]
  · rw [str_list, str_list]
    exact dl_cdec hp1 hnz
  · rw [hbn, Int.toNat_natCast, Int.toNat_natCast]
    exact e2
  · rw [hb]; exact Int.mul_pos (Int.pow_pos (by decide)) (Int.pow_pos (by decide))
theorem lm1 {a b m r : Nat} (h0 : 0 < a) (h : r = max (a + m) (b + m) ∨ r = max (a + m) (b + m) + 1) : m + 1 ≤ r := by omega
theorem lm2 {a m r : Nat} (h0 : m + 1 ≤ r) (h : r - (r - m) = a) : a = m := by omega
theorem lm3 {m r : Nat} (h0 : m + 1 ≤ r) : r - (r - m) = m := by omega
theorem lm4 {v x K f : Nat} (hf : f < K) (h : x * K ≤ v * K + f) : x ≤ v := by
  have : x * K < (v + 1) * K := by rw [Nat.add_mul, Nat.one_mul]; omega
  have := Nat.lt_of_mul_lt_mul_right this
  omega
theorem lm5 {a b m r : Nat} (q : a ≤ b) (e : r = max (a + m) (b + m)) : r - m = b := by omega
theorem lm6 {a b m r : Nat} (q : b ≤ a) (e : r = max (a + m) (b + m)) : r - m = a := by omega
theorem lm7 {a b m r : Nat} (h0 : m + 1 ≤ r) (e : r = max (a + m) (b + m) + 1) : r - m - 1 + m = max (a + m) (b + m) := by omega
theorem lm8 {d v c m : Nat} (h0 : m + 1 ≤ d) (e : v = d - m) (ev : v = 0) (_ : c = c) : False := by omega
theorem lm9 {x c : Nat} (h : (x * 10 ^ 1 + (c - 48)) % 10 = 0) (hc : 48 ≤ c ∧ c < 48 + 10) : c = 48 := by omega
theorem ex_m {m p : Nat} (h : p ≤ m) : (10 : Nat) ^ m = 10 ^ p * 10 ^ (m - p) := by rw [← Nat.pow_add]; congr 1; omega
/-! a sum of two of them, figure by figure, with the noughts at the end taken off -/
theorem pw_move (a : Nat) {p m : Nat} (h : p ≤ m) (r : Nat) : a * 10 ^ (m - p) * 10 ^ (p + r) = a * 10 ^ r * 10 ^ m := by
  rw [Nat.mul_assoc, Nat.mul_assoc, ← Nat.pow_add, ← Nat.pow_add]
  congr 2
  omega
set_option maxHeartbeats 1000000 in
theorem len_fill {a b m p : Nat} (h : b = p) (h2 : p ≤ m) : a + (b + (m - b)) = a + m := by omega
theorem cdec_sum {A1 B1 A2 B2 row bh : List Nat} {p1 Q1 p2 Q2 m : Nat} (h1 : CDec A1 B1 p1 Q1) (h2 : CDec A2 B2 p2 Q2) (hm : m = max p1 p2)
    (hs : Summed 10 (A1 ++ (B1 ++ List.replicate (m - B1.length) 48)) (A2 ++ (B2 ++ List.replicate (m - B2.length) 48)) row) (ht : TrimInv (row.drop (row.length - m)) bh) (hb1 : 1 ≤ bh.length) (hb2 : bh.length = 1 ∨ bh.getLast? ≠ some 48) :
    ∃ Q, CDec (row.take (row.length - m)) bh bh.length Q ∧ Q * 10 ^ (p1 + p2) = (Q1 * 10 ^ p2 + Q2 * 10 ^ p1) * 10 ^ bh.length := by
  obtain ⟨a1, a2, a3, a4, a5, a6, a7, a8⟩ := h1
  obtain ⟨c1, c2, c3, c4, c5, c6, c7, c8⟩ := h2
  obtain ⟨s1, s2, s3⟩ := hs
  have z10 : ∀ k, valB 10 (List.replicate k 48) = 0 := by
    intro k
    have := valB_zeros 10 k []
    simpa [valB_nil] using this
  have v1 : valB 10 (A1 ++ (B1 ++ List.replicate (m - B1.length) 48)) = Q1 * 10 ^ (m - p1) := by
    rw [← List.append_assoc, valB_append, a6, z10, List.length_replicate, a3, Nat.add_zero]
  have v2 : valB 10 (A2 ++ (B2 ++ List.replicate (m - B2.length) 48)) = Q2 * 10 ^ (m - p2) := by
    rw [← List.append_assoc, valB_append, c6, z10, List.length_replicate, c3, Nat.add_zero]
  have l1 : (A1 ++ (B1 ++ List.replicate (m - B1.length) 48)).length = A1.length + m := by rw [List.length_append, List.length_append, List.length_replicate]; exact len_fill a3 (hm ▸ Nat.le_max_left _ _)
  have l2 : (A2 ++ (B2 ++ List.replicate (m - B2.length) 48)).length = A2.length + m := by rw [List.length_append, List.length_append, List.length_replicate]; exact len_fill c3 (hm ▸ Nat.le_max_right _ _)
  rw [v1, v2, l1, l2] at s3
  rw [v1, v2] at s2
  have q1 : 0 < A1.length := List.length_pos_iff.mpr a5
  have q2 : 0 < A2.length := List.length_pos_iff.mpr c5
  have hrl : m + 1 ≤ row.length := lm1 q1 (s3.imp And.left And.left)
  have hp1 : p1 ≤ m := hm ▸ Nat.le_max_left _ _
  have hp2 : p2 ≤ m := hm ▸ Nat.le_max_right _ _
  obtain ⟨k, hk⟩ := ht
  have hbk : bh.length + k = m := by
    have := congrArg List.length hk
    rw [List.length_drop, List.length_append, List.length_replicate] at this
    exact lm2 hrl this
  have hrow : row = row.take (row.length - m) ++ (bh ++ List.replicate k 48) := by rw [← hk, List.take_append_drop]
  have hv : valB 10 row = valB 10 (row.take (row.length - m) ++ bh) * 10 ^ k := by
    conv => lhs; rw [hrow]
    rw [← List.append_assoc, valB_append, z10, List.length_replicate, Nat.add_zero]
  have hval : valB 10 row = valB 10 (row.take (row.length - m)) * 10 ^ m + valB 10 (row.drop (row.length - m)) := by
    have := valB_append 10 (row.take (row.length - m)) (row.drop (row.length - m))
    rw [List.take_append_drop, List.length_drop, lm3 hrl] at this
    exact this
  have hlt : valB 10 (row.drop (row.length - m)) < 10 ^ m := by
    have := valB_lt (b := 10) (l := row.drop (row.length - m)) fun c hc => s1 c (List.mem_of_mem_drop hc)
    rwa [List.length_drop, lm3 hrl] at this
  have hlen : (row.take (row.length - m)).length = row.length - m := by rw [List.length_take, Nat.min_eq_left (Nat.sub_le _ _)]
  have up : ∀ e : Nat, 10 ^ e * 10 ^ m ≤ valB 10 row → 10 ^ e ≤ valB 10 (row.take (row.length - m)) := by
    intro e he
    rw [hval] at he
    exact lm4 hlt he
  have up1 : 10 ^ (A1.length - 1) ≤ valB 10 A1 → 10 ^ (A1.length - 1) * 10 ^ m ≤ Q1 * 10 ^ (m - p1) := by
    intro h
    have e := ex_m hp1
    rw [e, ← Nat.mul_assoc]
    refine Nat.mul_le_mul_right _ ?_
    rw [← a6, valB_append, a3]
    exact Nat.le_trans (Nat.mul_le_mul_right _ h) (Nat.le_add_right _ _)
  have up2 : 10 ^ (A2.length - 1) ≤ valB 10 A2 → 10 ^ (A2.length - 1) * 10 ^ m ≤ Q2 * 10 ^ (m - p2) := by
    intro h
    have e := ex_m hp2
    rw [e, ← Nat.mul_assoc]
    refine Nat.mul_le_mul_right _ ?_
    rw [← c6, valB_append, c3]
    exact Nat.le_trans (Nat.mul_le_mul_right _ h) (Nat.le_add_right _ _)
  refine ⟨valB 10 (row.take (row.length - m) ++ bh), ⟨fun c hc => s1 c (List.mem_of_mem_take hc), ?_, rfl, hb1, fun e => ?_, rfl, ?_, ?_⟩, ?_⟩
  · intro c hc
    refine s1 c ?_
    rw [hrow]
    exact List.mem_append_right _ (List.mem_append_left _ hc)
  · rw [e, List.length_nil] at hlen; exact lm8 hrl hlen rfl (rfl : 0 = 0)
  · rw [hlen]
    rcases s3 with ⟨e, _⟩ | ⟨e, hge⟩
    · rcases Nat.le_total A1.length A2.length with q | q
      · have e3 : row.length - m = A2.length := lm5 q e
        rw [e3]
        rcases c7 with c7 | c7
        · exact .inl c7
        · refine .inr ?_
          rw [← e3]
          refine up _ ?_
          rw [e3, s2]
          exact Nat.le_trans (up2 c7) (Nat.le_add_left _ _)
      · have e3 : row.length - m = A1.length := lm6 q e
        rw [e3]
        rcases a7 with a7 | a7
        · exact .inl a7
        · refine .inr ?_
          rw [← e3]
          refine up _ ?_
          rw [e3, s2]
          exact Nat.le_trans (up1 a7) (Nat.le_add_right _ _)
    · refine .inr (up _ ?_)
      rw [s2, ← Nat.pow_add, lm7 hrl e]
      exact hge
  · rcases hb2 with hb2 | hb2
    · exact .inl hb2
    · refine .inr fun h0 => hb2 ?_
      have hne : bh ≠ [] := fun e => by rw [e] at hb1; simp at hb1
      obtain ⟨d, c, hd⟩ : ∃ d c, bh = d ++ [c] := ⟨_, _, (List.dropLast_concat_getLast hne).symm⟩
      have hc : c ∈ row := by rw [hrow, hd]; simp
      have hcr := s1 c hc
      rw [hd, ← List.append_assoc, valB_append] at h0
      have e : valB 10 [c] = c - 48 := by simp [valB]
      rw [e, List.length_singleton] at h0
      rw [hd, lm9 h0 hcr]; simp
  · have e1 : valB 10 (row.take (row.length - m) ++ bh) * 10 ^ k = Q1 * 10 ^ (m - p1) + Q2 * 10 ^ (m - p2) := hv.symm.trans s2
    have f1 : (10 : Nat) ^ bh.length * 10 ^ k = 10 ^ m := by rw [← Nat.pow_add, hbk]
    have g1 := pw_move Q1 hp1 p2
    have g2 := pw_move Q2 hp2 p1
    rw [Nat.add_comm p2 p1] at g2
    have hK : 0 < (10 : Nat) ^ k := Nat.pow_pos (show 0 < 10 by decide)
    refine Nat.eq_of_mul_eq_mul_right hK ?_
    generalize valB 10 (row.take (row.length - m) ++ bh) = V at *
    generalize Q1 * 10 ^ (m - p1) = X1 at *
    generalize Q2 * 10 ^ (m - p2) = X2 at *
    generalize Q1 * 10 ^ p2 = Y1 at *
    generalize Q2 * 10 ^ p1 = Y2 at *
    generalize (10 : Nat) ^ (p1 + p2) = S at *
    generalize (10 : Nat) ^ k = K at *
    generalize (10 : Nat) ^ m = M at *
    generalize (10 : Nat) ^ bh.length = N at *
    calc V * S * K = (V * K) * S := Nat.mul_right_comm _ _ _
      _ = X1 * S + X2 * S := by rw [e1, Nat.add_mul]
      _ = Y1 * M + Y2 * M := by rw [g1, g2]
      _ = (Y1 + Y2) * N * K := by rw [← Nat.add_mul, Nat.mul_assoc, f1]
end Mine
/- part ZA9 -/
namespace Mine
open PySem.Builtin.Str
theorem frac_sum {Q Q1 Q2 Q3 b1 b2 B t1 t2 T k0 k1 x0 x1 e1 e2 e3 e : Nat} (hb1 : 0 < b1) (hb2 : 0 < b2) (hB : 0 < B) (hk0 : 0 < k0) (hk1 : 0 < k1) (he1 : 0 < e1) (he2 : 0 < e2)
    (h1 : Q1 * b1 = t1 * e1) (h2 : Q2 * b2 = t2 * e2) (h3 : Q3 * B = T * e3) (c1 : t1 * k0 = x0 * b1) (c2 : t2 * k1 = x1 * b2) (c3 : T * (k0 * k1) = (x0 * k1 + x1 * k0) * B)
    (hs : Q * (e1 * e2) = (Q1 * e2 + Q2 * e1) * e) : Q * e3 = Q3 * e := by
  have i : (Q1 * e2 + Q2 * e1) * (b1 * b2) = (t1 * b2 + t2 * b1) * (e1 * e2) := by
    have a1 : Q1 * e2 * (b1 * b2) = t1 * b2 * (e1 * e2) := by
      calc Q1 * e2 * (b1 * b2) = (Q1 * b1) * (e2 * b2) := by ac_rfl
        _ = t1 * e1 * (e2 * b2) := by rw [h1]
        _ = t1 * b2 * (e1 * e2) := by ac_rfl
    have a2 : Q2 * e1 * (b1 * b2) = t2 * b1 * (e1 * e2) := by
      calc Q2 * e1 * (b1 * b2) = (Q2 * b2) * (e1 * b1) := by ac_rfl
        _ = t2 * e2 * (e1 * b1) := by rw [h2]
        _ = t2 * b1 * (e1 * e2) := by ac_rfl
    rw [Nat.add_mul, Nat.add_mul, a1, a2]
  have ii : (t1 * b2 + t2 * b1) * (k0 * k1) = (x0 * k1 + x1 * k0) * (b1 * b2) := by
    have a1 : t1 * b2 * (k0 * k1) = x0 * k1 * (b1 * b2) := by
      calc t1 * b2 * (k0 * k1) = (t1 * k0) * (b2 * k1) := by ac_rfl
        _ = x0 * b1 * (b2 * k1) := by rw [c1]
        _ = x0 * k1 * (b1 * b2) := by ac_rfl
    have a2 : t2 * b1 * (k0 * k1) = x1 * k0 * (b1 * b2) := by
      calc t2 * b1 * (k0 * k1) = (t2 * k1) * (b1 * k0) := by ac_rfl
        _ = x1 * b2 * (b1 * k0) := by rw [c2]
        _ = x1 * k0 * (b1 * b2) := by ac_rfl
    rw [Nat.add_mul, Nat.add_mul, a1, a2]
  have iv : (t1 * b2 + t2 * b1) * B = T * (b1 * b2) := by
    refine Nat.eq_of_mul_eq_mul_right (Nat.mul_pos hk0 hk1) ?_
    calc (t1 * b2 + t2 * b1) * B * (k0 * k1) = (t1 * b2 + t2 * b1) * (k0 * k1) * B := by ac_rfl
      _ = (x0 * k1 + x1 * k0) * B * (b1 * b2) := by rw [ii]; ac_rfl
      _ = T * (k0 * k1) * (b1 * b2) := by rw [c3]
      _ = T * (b1 * b2) * (k0 * k1) := by ac_rfl
  generalize hS : Q1 * e2 + Q2 * e1 = S at *
  generalize hX : t1 * b2 + t2 * b1 = X at *
  have v : Q * (b1 * b2) = X * e := by
    refine Nat.eq_of_mul_eq_mul_right (Nat.mul_pos he1 he2) ?_
    calc Q * (b1 * b2) * (e1 * e2) = Q * (e1 * e2) * (b1 * b2) := by ac_rfl
      _ = S * (b1 * b2) * e := by rw [hs]; ac_rfl
      _ = X * e * (e1 * e2) := by rw [i]; ac_rfl
  have vi : Q * B = T * e := by
    refine Nat.eq_of_mul_eq_mul_right (Nat.mul_pos hb1 hb2) ?_
    calc Q * B * (b1 * b2) = Q * (b1 * b2) * B := by ac_rfl
      _ = X * B * e := by rw [v]; ac_rfl
      _ = T * e * (b1 * b2) := by rw [iv]; ac_rfl
  refine Nat.eq_of_mul_eq_mul_right hB ?_
  calc Q * e3 * B = Q * B * e3 := by ac_rfl
    _ = T * e3 * e := by rw [vi]; ac_rfl
    _ = Q3 * e * B := by rw [← h3]; ac_rfl
/-- a fraction in its lowest terms -/
def Ratio (tt bb t b : Int) : Prop := 0 ≤ t ∧ 0 < b ∧ Int.gcd t b = 1 ∧ t * bb = tt * b ∧ t ≤ tt ∧ ∃ q : Nat, bb.toNat = b.toNat * q
theorem ratio_of {tt bb : Int} (h0 : 0 ≤ tt) (hb : 0 < bb) : Ratio tt bb (tt.fdiv (Int.gcd tt bb)) (bb.fdiv (Int.gcd tt bb)) := by
  obtain ⟨n, rfl⟩ := Int.eq_ofNat_of_zero_le h0
  obtain ⟨d, rfl⟩ := Int.eq_ofNat_of_zero_le (Int.le_of_lt hb)
  have hd : 0 < d := by omega
  have e : Int.gcd (n : Int) (d : Int) = Nat.gcd n d := rfl
  rw [e]
  have hg : 0 < Nat.gcd n d := Nat.gcd_pos_of_pos_right _ hd
  obtain ⟨q1, e1⟩ := Nat.gcd_dvd_left n d
  obtain ⟨q2, e2⟩ := Nat.gcd_dvd_right n d
  have f1 : ((n : Int).fdiv (Nat.gcd n d : Nat)) = (q1 : Int) := by
    rw [Int.fdiv_eq_ediv_of_nonneg _ (Int.natCast_nonneg _)]
    have : n / Nat.gcd n d = q1 := Nat.div_eq_of_eq_mul_right hg e1
    rw [← this]; rfl
  have f2 : ((d : Int).fdiv (Nat.gcd n d : Nat)) = (q2 : Int) := by
    rw [Int.fdiv_eq_ediv_of_nonneg _ (Int.natCast_nonneg _)]
    have : d / Nat.gcd n d = q2 := Nat.div_eq_of_eq_mul_right hg e2
    rw [← this]; rfl
  rw [f1, f2]
  have hq2 : 0 < q2 := by
    rcases Nat.eq_zero_or_pos q2 with z | z
    · rw [z, Nat.mul_zero] at e2; omega
    · exact z
  refine ⟨Int.natCast_nonneg _, by omega, ?_, ?_, ?_, Nat.gcd n d, ?_⟩
  · show Nat.gcd q1 q2 = 1
    have h := Nat.gcd_mul_left (Nat.gcd n d) q1 q2
    rw [← e1, ← e2] at h
    have : Nat.gcd n d * 1 = Nat.gcd n d * Nat.gcd q1 q2 := by omega
    exact (Nat.eq_of_mul_eq_mul_left hg this).symm
  · have : q1 * d = n * q2 := by
      have h1 : q1 * d = q1 * (Nat.gcd n d * q2) := by rw [← e2]
      have h2 : n * q2 = Nat.gcd n d * q1 * q2 := by rw [← e1]
      rw [h1, h2]; ac_rfl
    exact_mod_cast this
  · have : q1 ≤ n := by
      conv => rhs; rw [e1]
      exact Nat.le_mul_of_pos_left _ hg
    exact_mod_cast this
  · rw [Int.toNat_natCast, Int.toNat_natCast, Nat.mul_comm]; exact e2
theorem ratio_ok {tt bb t b : Int} {n : Nat} (h : Ratio tt bb t b) (hn : n ≤ 10) (hb : bb.toNat = 10 ^ n) (ht : tt < 10000000000000) : OkItem (.dec t b) ∧ Fine (.dec t b) := by
  obtain ⟨h1, h2, h3, h4, h5, q, h6⟩ := h
  have hd : b.toNat ∣ 10 ^ n := ⟨q, by rw [← hb, h6]⟩
  obtain ⟨i, j, hi, hj, e⟩ := dvd_pow10 hd
  refine ⟨.inl ⟨h1, by omega, i, j, by omega, by omega, ?_⟩, h1, h3⟩
  have e2 : b = ((b.toNat : Nat) : Int) := by omega
  rw [e2, e]; push_cast; rfl
theorem dec_is {t b : Int} {y : Str} (h : WordIs (.dec t b) y) (h0 : 0 ≤ t) : DecIs t b y := by
  rcases h with ⟨_, h⟩ | ⟨h, _⟩
  · exact h
  · omega
theorem dec_sum_eq {Q Q1 Q2 Q3 p p1 p2 p3 : Nat} {x0 x1 k0 k1 t1 b1 t2 b2 T B : Int} {A A' C C' : Str} (hx0 : 0 ≤ x0) (hx1 : 0 ≤ x1) (hk0 : 0 < k0) (hk1 : 0 < k1) (r1 : Ratio x0 k0 t1 b1) (r2 : Ratio x1 k1 t2 b2) (r3 : Ratio (x0 * k1 + x1 * k0) (k0 * k1) T B)
    (e1 : Q1 * b1.toNat = t1.toNat * 10 ^ p1) (e2 : Q2 * b2.toNat = t2.toNat * 10 ^ p2) (e3 : Q3 * B.toNat = T.toNat * 10 ^ p3)
    (h : CDec A.cps.toList C.cps.toList p Q) (h' : CDec A'.cps.toList C'.cps.toList p3 Q3) (hs : Q * 10 ^ (p1 + p2) = (Q1 * 10 ^ p2 + Q2 * 10 ^ p1) * 10 ^ p) : A ++ Str.ofString "." ++ C = A' ++ Str.ofString "." ++ C' := by
  obtain ⟨a1, a2, a3, a4, _⟩ := r1
  obtain ⟨c1, c2, c3, c4, _⟩ := r2
  obtain ⟨d1, d2, d3, d4, _⟩ := r3
  obtain ⟨x0, rfl⟩ := Int.eq_ofNat_of_zero_le hx0
  obtain ⟨x1, rfl⟩ := Int.eq_ofNat_of_zero_le hx1
  obtain ⟨k0, rfl⟩ := Int.eq_ofNat_of_zero_le (Int.le_of_lt hk0)
  obtain ⟨k1, rfl⟩ := Int.eq_ofNat_of_zero_le (Int.le_of_lt hk1)
  obtain ⟨t1, rfl⟩ := Int.eq_ofNat_of_zero_le a1
  obtain ⟨b1, rfl⟩ := Int.eq_ofNat_of_zero_le (Int.le_of_lt a2)
  obtain ⟨t2, rfl⟩ := Int.eq_ofNat_of_zero_le c1
  obtain ⟨b2, rfl⟩ := Int.eq_ofNat_of_zero_le (Int.le_of_lt c2)
  obtain ⟨T, rfl⟩ := Int.eq_ofNat_of_zero_le d1
  obtain ⟨B, rfl⟩ := Int.eq_ofNat_of_zero_le (Int.le_of_lt d2)
  simp only [Int.toNat_natCast] at e1 e2 e3
  have f4 : t1 * k0 = x0 * b1 := by exact_mod_cast a4
  have f5 : t2 * k1 = x1 * b2 := by exact_mod_cast c4
  have f6 : T * (k0 * k1) = (x0 * k1 + x1 * k0) * B := by exact_mod_cast d4
  have p10 : ∀ n, 0 < (10 : Nat) ^ n := fun n => Nat.pow_pos (show 0 < 10 by decide)
  rw [Nat.pow_add] at hs
  have key := frac_sum (by omega) (by omega) (by omega) (by omega) (by omega) (p10 p1) (p10 p2) e1 e2 e3 f4 f5 f6 hs
  obtain ⟨g1, g2⟩ := cdec_inj h h' key
  rw [str_ext g1, str_ext g2]
/-- below nought: the text behind the minus -/
theorem dec_neg_eq {t0 : Int} {u z : Str} {X : Str} (hu : WordIs (.dec (-1 - t0) 1) u) (h0 : 0 ≤ t0) (hX : X = Str.ofString (toString t0)) (hz : Summed 10 X.cps.toList (Str.ofString "1").cps.toList z.cps.toList) : u = Str.ofString "(- " ++ z ++ Str.ofString ".0)" := by
  rcases hu with ⟨h, _⟩ | ⟨_, y, hy, hd⟩
  · omega
  · obtain ⟨A, B, p, Q, e1, e2, e3, _, _⟩ := dec_cdec hd (by omega) (by show Nat.gcd _ 1 = 1; exact Nat.gcd_one_right _)
    have hz' := canon_sum (by rw [hX]; exact text_canon h0) one_canon hz
    have c2 : CDec z.cps.toList [48] 1 ((t0.toNat + 1) * 10) := by
      obtain ⟨h1, h2, h3, h4⟩ := hz'
      refine ⟨h1, fun c hc => by rw [List.mem_singleton.mp hc]; omega, rfl, Nat.le_refl _, h2, ?_, by rw [h3]; exact h4, .inl rfl⟩
      rw [valB_append, h3]; simp [valB]
    have e3' : Q = (-(-1 - t0)).toNat * 10 ^ p := by
      have : (1 : Int).toNat = 1 := rfl
      rw [this, Nat.mul_one] at e3
      exact e3
    have e4 : (-(-1 - t0)).toNat = t0.toNat + 1 := by omega
    rw [e4] at e3'
    have key : Q * 10 ^ 1 = (t0.toNat + 1) * 10 * 10 ^ p := by rw [e3', Nat.pow_one]; ac_rfl
    obtain ⟨g1, g2⟩ := cdec_inj e2 c2 key
    rw [hy, e1]
    refine str_ext ?_
    have q0 : (Str.ofString ".0)").cps.toList = [46, 48, 41] := by decide +kernel
    have q1 : (Str.ofString ")").cps.toList = [41] := by decide +kernel
    have q2 : (Str.ofString ".").cps.toList = [46] := by decide +kernel
    simp only [Str.cps_append, Array.toList_append, g1, g2, q0, q1, q2]
    simp
end Mine
/- part ZN15b -/
namespace Mine
theorem decadded_spec2 (w : World) (x y A1 B1 A2 B2 : Str) (t t2 : Tok) (p1 Q1 p2 Q2 : Nat) (news : List (Addr × Obj)) (hx : x = A1 ++ Str.ofString "." ++ B1) (hy : y = A2 ++ Str.ofString "." ++ B2)
    (h1 : CDec A1.cps.toList B1.cps.toList p1 Q1) (h2 : CDec A2.cps.toList B2.cps.toList p2 Q2) (l1 : A1.length ≤ 30) (l2 : B1.length ≤ 20) (l3 : A2.length ≤ 30) (l4 : B2.length ≤ 20) :
    Spec w 170 3 [.str x t, .str y t2] news (fun news' r => news' = news ∧ ∃ z t' A B p Q, r = .str z t' ∧ z = A ++ Str.ofString "." ++ B ∧ CDec A.cps.toList B.cps.toList p Q ∧ Q * 10 ^ (p1 + p2) = (Q1 * 10 ^ p2 + Q2 * 10 ^ p1) * 10 ^ p) := by
  have a1 : 1 ≤ A1.length := by
    rw [← len_list]; exact List.length_pos_iff.mpr h1.2.2.2.2.1
  have a2 : 1 ≤ A2.length := by
    rw [← len_list]; exact List.length_pos_iff.mpr h2.2.2.2.2.1
  have b1 : 1 ≤ B1.length := by
    rw [← len_list, h1.2.2.1]; exact h1.2.2.2.1
  have b2 : 1 ≤ B2.length := by
    rw [← len_list, h2.2.2.1]; exact h2.2.2.2.1
  refine Spec.mono (decadded_spec w x y A1 B1 A2 B2 t t2 news hx hy h1.1 h1.2.1 h2.1 h2.2.1 ⟨l1, a1⟩ ⟨l2, b1⟩ ⟨l3, a2⟩ ⟨l4, b2⟩) ?_
  rintro n r ⟨e, z, t', row, bh, er, hs, hr, hz, hw, he⟩
  have hm := mx_is B1 B2
  have hm2 : max B1.length B2.length = max p1 p2 := by rw [← h1.2.2.1, ← h2.2.2.1, len_list, len_list]
  rw [hm2] at hm
  obtain ⟨w1, w2, w3⟩ := hw
  have hrl : max p1 p2 ≤ row.length := by
    have el := len_list row
    have c1 := len_list (lj B1 (mx B1 B2))
    have d1 : ((lj B1 (mx B1 B2)).length : Int) = mx B1 B2 := lj_len (by rw [mx_is]; omega)
    have e1 := len_list (A1 ++ lj B1 (mx B1 B2))
    rw [Str.length_append] at e1
    rcases hs.2.2 with ⟨q, _⟩ | ⟨q, _⟩ <;> omega
  have hb := len_list bh
  have key := cdec_sum h1 h2 rfl (row := row.cps.toList) (bh := bh.cps.toList) ?_ ?_ (by omega) ?_
  · obtain ⟨Q, hC, hQ⟩ := key
    refine ⟨e, z, t', ⟨(row.cps.toList.take (row.cps.toList.length - max p1 p2)).toArray⟩, bh, bh.cps.toList.length, Q, er, ?_, by rw [str_list]; exact hC, hQ⟩
    rw [hz, hm]
    refine str_ext ?_
    rw [cat_dot, cat_dot, str_list, slice_to_neg (by have := h1.2.2.2.1; omega) hrl, len_list]
  · have q1 : (A1 ++ lj B1 (mx B1 B2)).cps.toList = A1.cps.toList ++ (B1.cps.toList ++ List.replicate (max p1 p2 - B1.cps.toList.length) 48) := by
      rw [Str.cps_append, Array.toList_append, lj_list, hm, Int.toNat_natCast, len_list]
    have q2 : (A2 ++ lj B2 (mx B1 B2)).cps.toList = A2.cps.toList ++ (B2.cps.toList ++ List.replicate (max p1 p2 - B2.cps.toList.length) 48) := by
      rw [Str.cps_append, Array.toList_append, lj_list, hm, Int.toNat_natCast, len_list]
    rw [← q1, ← q2]
    exact hs
  · rw [hm, slice_from_neg (by have := h1.2.2.2.1; omega) hrl] at w1
    rw [len_list]
    exact w1
  · rcases he with he | he
    · left; omega
    · right
      intro hl
      obtain ⟨d, hd⟩ := List.getLast?_eq_some_iff.mp hl
      rw [item_last hd] at he
      exact absurd he (by decide +kernel)
end Mine
/- part ZA10 -/
namespace Mine
open PySem.Builtin.Str
/-- a power of ten, at most the fifth -/
def Bot (K : Int) : Prop := ∃ n : Nat, n ≤ 5 ∧ K = ((10 ^ n : Nat) : Int)
theorem bot_of {v : Int} (h0 : 0 ≤ v) (h : v < 6) : Bot (10 ^ v.toNat) := ⟨v.toNat, by omega, by push_cast; rfl⟩
theorem Bot.pos {K : Int} (h : Bot K) : 0 < K := by
  obtain ⟨n, _, rfl⟩ := h
  have : 0 < 10 ^ n := Nat.pow_pos (show 0 < 10 by decide)
  omega
theorem Bot.le {K : Int} (h : Bot K) : K ≤ 100000 := by
  obtain ⟨n, hn, rfl⟩ := h
  have : 10 ^ n ≤ 10 ^ 5 := Nat.pow_le_pow_right (by decide) hn
  omega
theorem fmod_nn {a : Int} : 0 ≤ a.fmod 100000 := Int.fmod_nonneg_of_pos _ (by decide)
theorem fmod_lt {a : Int} : a.fmod 100000 < 100000 := Int.fmod_lt_of_pos _ (by decide)
theorem prod_le {x K : Int} (h0 : 0 ≤ x) (h1 : x ≤ 100000) (k0 : 0 < K) (k1 : K ≤ 100000) : 0 ≤ x * K ∧ x * K ≤ 10000000000 := by
  refine ⟨Int.mul_nonneg h0 (Int.le_of_lt k0), ?_⟩
  calc x * K ≤ 100000 * K := Int.mul_le_mul_of_nonneg_right h1 (Int.le_of_lt k0)
    _ ≤ 100000 * 100000 := Int.mul_le_mul_of_nonneg_left k1 (by decide)
    _ = 10000000000 := by decide
theorem tot_ok {a b K0 K1 : Int} (h0 : Bot K0) (h1 : Bot K1) : 0 ≤ a.fmod 100000 * K1 + b.fmod 100000 * K0 ∧ a.fmod 100000 * K1 + b.fmod 100000 * K0 ≤ 20000000000 ∧ 0 < K0 * K1 ∧ K0 * K1 ≤ 10000000000 := by
  have e1 := prod_le (fmod_nn (a := a)) (Int.le_of_lt fmod_lt) h1.pos h1.le
  have e2 := prod_le (fmod_nn (a := b)) (Int.le_of_lt fmod_lt) h0.pos h0.le
  have e3 := prod_le (Int.le_of_lt h0.pos) h0.le h1.pos h1.le
  have e4 := Int.mul_pos h0.pos h1.pos
  omega
theorem ratio_okB {tt bb t b : Int} (h : Ratio tt bb t b) (hB : Bot bb) (ht : tt < 100000) : OkItem (.dec t b) ∧ Fine (.dec t b) := by
  obtain ⟨n, hn, e⟩ := hB
  exact ratio_ok h (show n ≤ 10 by omega) (by rw [e, Int.toNat_natCast]) (by omega)
theorem ratio_okT {tt k0 k1 t b : Int} (h : Ratio tt (k0 * k1) t b) (h0 : Bot k0) (h1 : Bot k1) (ht : tt ≤ 20000000000) : OkItem (.dec t b) ∧ Fine (.dec t b) := by
  obtain ⟨n, hn, e⟩ := h0
  obtain ⟨k, hk, e2⟩ := h1
  refine ratio_ok h (show n + k ≤ 10 by omega) ?_ (by omega)
  rw [e, e2, ← Int.natCast_mul, Int.toNat_natCast, Nat.pow_add]
theorem dec_word {t b : Int} {y : Str} (h : WordIs (.dec t b) y) (h0 : 0 ≤ t) (h1 : t < 10000000000000) (hg : Int.gcd t b = 1) :
    ∃ (A B : Str) (p Q : Nat), y = A ++ Str.ofString "." ++ B ∧ CDec A.cps.toList B.cps.toList p Q ∧ Q * b.toNat = t.toNat * 10 ^ p ∧ A.length ≤ 30 ∧ B.length ≤ 20 := by
  obtain ⟨A, B, p, Q, e1, e2, e3, e4, e5⟩ := dec_cdec (dec_is h h0) h0 hg
  refine ⟨A, B, p, Q, e1, e2, e3, ?_, ?_⟩
  · have hc := e2.canon.1
    obtain ⟨c1, c2, c3, c4⟩ := hc
    rw [len_list] at c4
    rcases Nat.lt_or_ge 30 A.length with q | q
    · exfalso
      have h30 : (10 : Nat) ^ 30 ≤ 10 ^ (A.length - 1) := Nat.pow_le_pow_right (by decide) (by omega)
      have hq : Q ≤ t.toNat * 10 ^ p := by rw [← e3]; exact Nat.le_mul_of_pos_right _ (by omega)
      have hd : Q / 10 ^ p ≤ t.toNat := by
        have := Nat.div_le_div_right (c := 10 ^ p) hq
        rwa [Nat.mul_div_cancel _ (Nat.pow_pos (show 0 < 10 by decide))] at this
      have h6 : t.toNat < 10 ^ 30 := by omega
      rcases c4 with c4 | c4
      · omega
      · have := Nat.le_trans h30 c4
        exact absurd (Nat.lt_of_le_of_lt hd h6) (by exact Nat.not_lt.mpr this)
    · exact q
  · have := e2.2.2.1
    rw [len_list] at this
    omega
theorem dec_sum_eq2 {Q Q1 Q2 Q3 p p1 p2 p3 : Nat} {a b k0 k1 t1 b1 t2 b2 T B : Int} {z u A A' C C' : Str} (hz : z = A ++ Str.ofString "." ++ C) (hu : u = A' ++ Str.ofString "." ++ C')
    (h : CDec A.cps.toList C.cps.toList p Q) (hs : Q * 10 ^ (p1 + p2) = (Q1 * 10 ^ p2 + Q2 * 10 ^ p1) * 10 ^ p) (h' : CDec A'.cps.toList C'.cps.toList p3 Q3) (e3 : Q3 * B.toNat = T.toNat * 10 ^ p3)
    (e1 : Q1 * b1.toNat = t1.toNat * 10 ^ p1) (e2 : Q2 * b2.toNat = t2.toNat * 10 ^ p2)
    (r1 : Ratio (a.fmod 100000) k0 t1 b1) (r2 : Ratio (b.fmod 100000) k1 t2 b2) (r3 : Ratio (a.fmod 100000 * k1 + b.fmod 100000 * k0) (k0 * k1) T B) (hk0 : Bot k0) (hk1 : Bot k1) : z = u := by
  rw [hz, hu]
  exact dec_sum_eq fmod_nn fmod_nn hk0.pos hk1.pos r1 r2 r3 e1 e2 e3 h h' hs
theorem dec_neg_eq2 {t0 : Int} {u z X : Str} (hu : WordIs (.dec (-1 - t0) 1) u) (hz : Summed 10 X.cps.toList (Str.ofString "1").cps.toList z.cps.toList) (hX : X = Str.ofString (toString t0)) (h0 : 0 ≤ t0) : u = Str.ofString "(- " ++ z ++ Str.ofString ".0)" :=
  dec_neg_eq hu h0 hX hz
end Mine
namespace Mine
theorem rest_ZN18 : True := by
  w_top off
  k_with_none
  first | walk1 | trivial
end Mine
/- part ZN18 -/
namespace Mine
theorem dat_num {news : List (Addr × Obj)} {a : Addr} {x : Int} {t1 t2 : Tok} {k : Nat} (hm : (a, ({ cls := .type "tuple", data := .seq #[.str (Str.ofString "num") t1, .int x t2] k } : Obj)) ∈ news) : DatIn news (.ref a) (Item.num x).dat :=
  DatIn.tuple hm (.cons (.str _ _) (.cons (.int _ _) .nil))
theorem dat_dec {news : List (Addr × Obj)} {a b : Addr} {x y : Int} {t1 u1 u2 : Tok} {k k2 : Nat} (hm : (a, ({ cls := .type "tuple", data := .seq #[.str (Str.ofString "dec") t1, .ref b] k } : Obj)) ∈ news)
    (hm2 : (b, ({ cls := .type "tuple", data := .seq #[.int x u1, .int y u2] k2 } : Obj)) ∈ news) : DatIn news (.ref a) (Item.dec x y).dat :=
  DatIn.tuple hm (.cons (.str _ _) (.cons (DatIn.tuple hm2 (.cons (.int _ _) (.cons (.int _ _) .nil))) .nil))
theorem ok_num {v : Int} (h : -10000000000000 < v ∧ v < 10000000000000) : OkItem (.num v) := by
  show v.natAbs < 10 ^ 20
  omega
theorem drop_to {h₀ h : Heap} {L : Addr} {led new old : List (Addr × Obj)} (N : News h₀ L h led) (e : led = new ++ old) : News h₀ L h old := by
  subst e
  exact fun p hp => N p (List.mem_append_right _ hp)
theorem rot_off {h₀ h : Heap} {L D d : Addr} {x o : Obj} {b : Addr × Obj} {rest : List (Addr × Obj)} (N : News h₀ L h ((D, x) :: (d, o) :: b :: rest)) (hoff : ∀ p ∈ b :: rest, p.1 ≠ d) (l : @LT.lt Nat instLTNat d D) : News h₀ L h ((d, o) :: b :: (D, x) :: rest) ∧ ∀ p ∈ b :: (D, x) :: rest, p.1 ≠ d := by
  constructor
  · intro p hp
    refine N p ?_
    simp only [List.mem_cons] at hp ⊢
    rcases hp with h | h | h | h
    · exact .inr (.inl h)
    · exact .inr (.inr (.inl h))
    · exact .inl h
    · exact .inr (.inr (.inr h))
  · intro p hp
    rcases List.mem_cons.mp hp with rfl | hp
    · exact hoff _ (.head _)
    · rcases List.mem_cons.mp hp with rfl | hp
      · exact Nat.ne_of_gt l
      · exact hoff p (.tail _ hp)
theorem ratio_spec3 (w : World) (tt bb : Int) (t t2 : Tok) (news : List (Addr × Obj)) (hv : 0 ≤ tt) (hb : 0 < bb) (hb2 : bb < 1000000000000) (hv2 : tt < 1000000000000) :
    Spec w 156 1 [.int tt t, .int bb t2] news (fun news' r => ∃ D k u1 u2 t b, news' = (D, ({ cls := .type "tuple", data := .seq #[.int t u1, .int b u2] k } : Obj)) :: news ∧ (∀ p ∈ news, p.1 < D) ∧ r = .ref D ∧ Ratio tt bb t b) :=
  Spec.mono (ratio_spec2 w tt bb t t2 news hv hb hb2 hv2) fun n r ⟨D, k, u1, u2, e1, e2, e3⟩ => ⟨D, k, u1, u2, _, _, e1, e2, e3, ratio_of hv hb⟩
def Ratio' (t b : Int) : Prop := 0 ≤ t ∧ t < 10000000000000 ∧ Int.gcd t b = 1
theorem ratio_r' {tt bb t b : Int} (h : Ratio tt bb t b) (ht : tt < 1000000000000) : Ratio' t b := ⟨h.1, by have := h.2.2.2.2.1; omega, h.2.2.1⟩
theorem bot_bits {K : Int} (h : Bot K) : PySem.Builtin.Int.intBits K ≤ 64 := PySem.intBits_le_64 (by have := h.pos; omega) (by have := h.le; omega)
theorem keep3 {h₀ h : Heap} {L : Addr} {x1 x2 t j dd cc jj bb o1 o2 tp o3 : Addr × Obj} {rest : List (Addr × Obj)} (N : News h₀ L h (x1 :: x2 :: t :: j :: dd :: cc :: jj :: bb :: o1 :: o2 :: tp :: o3 :: rest)) : News h₀ L h (t :: dd :: cc :: o1 :: o2 :: o3 :: rest) := by
  intro p hp
  refine N p ?_
  simp only [List.mem_cons] at hp ⊢
  rcases hp with h | h | h | h | h | h | h <;> simp [h]
theorem num_items {a b t1 b1 t2 b2 t3 b3 : Int} (ha : 0 ≤ a) (ha2 : a < 1000000000000) (hb : 0 ≤ b) (hb2 : b < 1000000000000) (h1 : OkItem (.dec t1 b1) ∧ Fine (.dec t1 b1)) (h2 : OkItem (.dec t2 b2) ∧ Fine (.dec t2 b2)) (h3 : OkItem (.dec t3 b3) ∧ Fine (.dec t3 b3)) :
    ∀ it ∈ [Item.num a, .num b, .num (a + b), .num (-1 - a), .dec t1 b1, .dec t2 b2, .dec t3 b3, .dec a 1], OkItem it ∧ Fine it := by
  have hn : ∀ v : Int, -10000000000000 < v → v < 10000000000000 → OkItem (.num v) ∧ Fine (.num v) := fun v p q => ⟨ok_num ⟨p, q⟩, ok_num ⟨p, q⟩⟩
  intro it hit
  simp only [List.mem_cons, List.not_mem_nil, or_false] at hit
  rcases hit with rfl | rfl | rfl | rfl | rfl | rfl | rfl | rfl
  · exact hn _ (by omega) (by omega)
  · exact hn _ (by omega) (by omega)
  · exact hn _ (by omega) (by omega)
  · exact hn _ (by omega) (by omega)
  · exact h1
  · exact h2
  · exact h3
  · exact ⟨.inl ⟨ha, by omega, 0, 0, by decide, by decide, rfl⟩, ha, by show Nat.gcd _ 1 = 1; exact Nat.gcd_one_right _⟩
theorem keep_lt {h₀ h : Heap} {L t dd cc D1 d c wl : Addr} {ot od oc : Obj} {rest news : List (Addr × Obj)} (_N : News h₀ L h ((t, ot) :: (dd, od) :: (cc, oc) :: rest)) (l : d < D1 ∧ c < D1 ∧ wl < D1 ∧ AllLt D1 news) (hk : (@LE.le Nat instLENat D1 cc) ∧ (@LT.lt Nat instLTNat cc dd) ∧ @LT.lt Nat instLTNat dd t) :
    (@LT.lt Nat instLTNat d cc ∧ @LT.lt Nat instLTNat c cc ∧ @LT.lt Nat instLTNat wl cc ∧ AllLt cc news) ∧ @LT.lt Nat instLTNat cc dd ∧ @LT.lt Nat instLTNat dd t := by
  obtain ⟨h1, h2, h3, h4⟩ := l
  refine ⟨⟨Nat.lt_of_lt_of_le h1 hk.1, Nat.lt_of_lt_of_le h2 hk.1, Nat.lt_of_lt_of_le h3 hk.1, allLt_of fun q hq => Nat.lt_of_lt_of_le (ktn_ltOf h4 q hq) hk.1⟩, hk.2.1, hk.2.2⟩
theorem bot_small {K : Int} (h : Bot K) : K < 1000000000000 := by have := h.le; omega
theorem fmod_small {a : Int} : a.fmod 100000 < 1000000000000 := by have := fmod_lt (a := a); omega
theorem tot_small1 {K0 K1 : Int} (h0 : Bot K0) (h1 : Bot K1) : K0 * K1 < 1000000000000 := by have := tot_ok (a := 0) (b := 0) h0 h1; omega
theorem tot_small2 {a b K0 K1 : Int} (h0 : Bot K0) (h1 : Bot K1) : a.fmod 100000 * K1 + b.fmod 100000 * K0 < 1000000000000 := by have := tot_ok (a := a) (b := b) h0 h1; omega
theorem ratio_rb {tt bb t b : Int} (h : Ratio tt bb t b) (ht : tt < 100000) : 0 ≤ t ∧ t < 100000 ∧ Int.gcd t b = 1 := ⟨h.1, by have := h.2.2.2.2.1; omega, h.2.2.1⟩
theorem ratio_rbT {tt bb t b : Int} (h : Ratio tt bb t b) (ht : tt ≤ 20000000000) : 0 ≤ t ∧ t < 100000000000 ∧ Int.gcd t b = 1 := ⟨h.1, by have := h.2.2.2.2.1; omega, h.2.2.1⟩
theorem dec_word2 {t b : Int} {y : Str} (h : WordIs (.dec t b) y) (hr : Ratio' t b) : ∃ (A B : Str) (p Q : Nat), y = A ++ Str.ofString "." ++ B ∧ CDec A.cps.toList B.cps.toList p Q ∧ Q * b.toNat = t.toNat * 10 ^ p ∧ A.length ≤ 30 ∧ B.length ≤ 20 := dec_word h hr.1 hr.2.1 hr.2.2
theorem text_small {t : Int} (h0 : 0 ≤ t) (h1 : t < 100000000000) : (Str.ofString (toString t)).length ≤ 60 ∧ AllB 10 (Str.ofString (toString t)).cps.toList := canon_facts (text_canon h0) (by omega)
theorem all_one : AllB 10 (Str.ofString "1").cps.toList := one_canon.1
theorem ne_str_same {prog : Program} {w : World} {A : Around} {E : Value → Shared → Prop} {s : Shared} {x y : Str} {t u : Tok} {Q : Value → Shared → Prop} (e : x = y) (h : Q (.bool false) s) : wpAny (model prog w) A (compareOp .NotEq (.str x t) (.str y u)) Q E s := by
  refine ne_str ?_
  subst e
  simpa using h
section
theorem words_N18_1 : True := by
  w_top off
  k_with_none
  k_with "mine steps" => (repeat' (first | (k_unfold; (try dsimp only)) | (goal_lacks PySem.W.InvEndN PySem.W.KswEnd; (fail_if_success (with_reducible show wpAny _ _ (pyIter _) _ _ _)); (fail_if_success (with_reducible show wpAny _ _ (exec (Stmt.While _ _ _ _) _) _ _ _)); first | ((with_reducible show wpAny _ _ (call (Value.ref _) _) _ _ _); walk_at "mine call") | ((fail_if_success (with_reducible show wpAny _ _ (call (Value.ref _) _) _ _ _)); first | (k_end; wrow_close) | (walk1 <;> (try walk_at "mine fold")) | (dsimp only; walk1) | (leave1; walk_say "STEP leave1"; try dsimp only) | fail "no step"))))
  k_with "mine gate" => (repeat' (first | (k_unfold; (try dsimp only)) | (goal_lacks PySem.W.InvEndN PySem.W.KswEnd; (fail_if_success (with_reducible show wpAny _ _ (pyIter _) _ _ _)); (fail_if_success (with_reducible show wpAny _ _ (execs (_ :: _) _) _ _ _)); first | ((with_reducible show wpAny _ _ (call (Value.ref _) _) _ _ _); walk_at "mine call") | ((fail_if_success (with_reducible show wpAny _ _ (call (Value.ref _) _) _ _ _)); first | (k_end; wrow_close) | (walk1 <;> (try walk_at "mine fold")) | (dsimp only; walk1) | (leave1; walk_say "STEP leave1"; try dsimp only) | fail "no step"))))
  k_with "mine junk" => ((repeat (with_reducible rename (_ < _ ∧ _) => qj; clear qj)))
  k_with "mine stmt" => ((walk1; walk_at "mine gate"))
  k_with "mine call" => (k_dflt (first
  | ((with_reducible show wpAny _ _ (call (Value.ref 149) _) _ _ _); (refine' Spec.use' (by k_asm) (by k_asm) (by exact figures_spec _ _ _ _ _ _ _ _ _ _ (by assumption) (by assumption) (by assumption) (by assumption) (by omega) (by omega) (by omega) (by omega)) (by k_asm) (by k_asm) (by k_asm) (by first | exact rfl | assumption) (by ktr_room) (by ktr_units) ?_); intro r' n' h' tk' F' N' hp'; obtain ⟨o', at1', v', t', e1', ht', ha1', ha2', e2', hv1', hv2'⟩ := hp'; subst e1'; subst e2'; (try dsimp only); (try k_fold))
  | ((with_reducible show wpAny _ _ (call (Value.ref 142) _) _ _ _); (refine' Spec.use' (by k_asm) (by k_asm) (by exact lot_spec _ _ _ _ _ _ _ _ _ _ (by assumption) (by assumption) (by assumption) (by assumption) (by omega) (by omega) (by omega) (by omega)) (by k_asm) (by k_asm) (by k_asm) (by first | exact rfl | assumption) (by ktr_room) (by ktr_units) ?_); intro r' n' h' tk' F' N' hp'; obtain ⟨o', v', t', e1', ht', e2', hv1', hv2'⟩ := hp'; subst e1'; subst e2'; (try dsimp only); (try k_fold))
  | ((with_reducible show wpAny _ _ (call (Value.ref 135) _) _ _ _); (refine' Spec.use' (by k_asm) (by k_asm) (by exact word_text_spec _ _ (Item.num _) _ (dat_num (.head _)) (ok_num (by omega))) (by k_asm) (by k_asm) (by k_asm) (by first | exact rfl | assumption) (by ktr_room) (by ktr_units) ?_); intro r' n' h' tk' F' N' hp'; obtain ⟨e1', y', t', e2', hy', hyl'⟩ := hp'; rw [e1'] at N'; clear e1'; subst e2'; (try (have hf9' := num_facts hy' (by omega) (by omega); obtain ⟨hl', ha'⟩ := hf9')); (try dsimp only); (try k_fold))
  | ((with_reducible show wpAny _ _ (call (Value.ref 163) _) _ _ _); (refine' Spec.use' (by k_asm) (by k_asm) (by exact added_spec _ _ _ 10 _ _ _ _ (by first | assumption | decide +kernel) (by first | assumption | decide +kernel) (by decide) (by first | assumption | exact all_one) (by first | assumption | exact all_one)) (by k_asm) (by k_asm) (by k_asm) (by first | exact rfl | assumption) (by ktr_room) (by ktr_units) ?_); intro r' n' h' tk' F' N' hp'; obtain ⟨e1', y', t', e2', hy', hyl'⟩ := hp'; rw [e1'] at N'; clear e1'; subst e2'; (try dsimp only); (try k_fold))))
  k_with "mine call" => (k_dflt (first
  | ((with_reducible show wpAny _ _ (call (Value.ref 156) _) _ _ _); (refine' Spec.use' (by k_asm) (by k_asm) (by exact ratio_spec3 _ _ _ _ _ _ fmod_nn (Bot.pos (by assumption)) (bot_small (by assumption)) fmod_small) (by k_asm) (by k_asm) (by k_asm) (by first | exact rfl | assumption) (by ktr_room) (by ktr_units) ?_); intro r' n' h' tk' F' N' hp'; obtain ⟨D', k', u1', u2', t', b', e1', l1, e2', hR'⟩ := hp'; rw [e1'] at N'; clear e1'; subst e2'; (have hok' := ratio_okB hR' (by assumption) fmod_lt); (have hrb' := ratio_rb hR' fmod_lt); (have hrr' := ratio_r' hR' fmod_small); (try k_lt l1); (try dsimp only); (try k_fold))
  | ((with_reducible show wpAny _ _ (call (Value.ref 156) _) _ _ _); (refine' Spec.use' (by k_asm) (by k_asm) (by exact ratio_spec3 _ _ _ _ _ _ (tot_ok (by assumption) (by assumption)).1 (tot_ok (a := 0) (b := 0) (by assumption) (by assumption)).2.2.1 (tot_small1 (by assumption) (by assumption)) (tot_small2 (by assumption) (by assumption))) (by k_asm) (by k_asm) (by k_asm) (by first | exact rfl | assumption) (by ktr_room) (by ktr_units) ?_); intro r' n' h' tk' F' N' hp'; obtain ⟨D', k', u1', u2', t', b', e1', l1, e2', hR'⟩ := hp'; rw [e1'] at N'; clear e1'; subst e2'; (have hok' := ratio_okT hR' (by assumption) (by assumption) (tot_ok (by assumption) (by assumption)).2.1); (have hrb' := ratio_rbT hR' (tot_ok (by assumption) (by assumption)).2.1); (have hrr' := ratio_r' hR' (tot_small2 (by assumption) (by assumption))); (try k_lt l1); (try dsimp only); (try k_fold))
  | ((with_reducible show wpAny _ _ (call (Value.ref 135) _) _ _ _); (refine' Spec.use' (by k_asm) (by k_asm) (by exact word_text_spec _ _ (Item.dec _ _) _ (dat_dec (.head _) (by k_mem)) (And.left (by assumption : OkItem _ ∧ Fine _))) (by k_asm) (by k_asm) (by k_asm) (by first | exact rfl | assumption) (by ktr_room) (by ktr_units) ?_); intro r' n' h' tk' F' N' hp'; obtain ⟨e1', y', t', e2', hy', hyl'⟩ := hp'; rw [e1'] at N'; clear e1'; subst e2'; (have hw' := dec_word2 hy' (by assumption)); (obtain ⟨A', B', p', q', eAB', hCD', hQ', hlA', hlB'⟩ := hw'); (try dsimp only); (try k_fold))
  | ((with_reducible show wpAny _ _ (call (Value.ref 135) _) _ _ _); (refine' Spec.use' (by k_asm) (by k_asm) (by exact word_text_spec _ _ (Item.dec _ _) _ (dat_dec (.head _) (by k_mem)) (Or.inr (by omega))) (by k_asm) (by k_asm) (by k_asm) (by first | exact rfl | assumption) (by ktr_room) (by ktr_units) ?_); intro r' n' h' tk' F' N' hp'; obtain ⟨e1', y', t', e2', hy', hyl'⟩ := hp'; rw [e1'] at N'; clear e1'; subst e2'; (try dsimp only); (try k_fold))
  | ((with_reducible show wpAny _ _ (call (Value.ref 170) _) _ _ _); (refine' Spec.use' (by k_asm) (by k_asm) (by exact decadded_spec2 _ _ _ _ _ _ _ _ _ _ _ _ _ _ (by assumption) (by assumption) (by assumption) (by assumption) (by assumption) (by assumption) (by assumption) (by assumption)) (by k_asm) (by k_asm) (by k_asm) (by first | exact rfl | assumption) (by ktr_room) (by ktr_units) ?_); intro r' n' h' tk' F' N' hp'; obtain ⟨e1', y', t', A', B', p', q', e2', eAB', hCD', hS'⟩ := hp'; rw [e1'] at N'; clear e1'; subst e2'; (try dsimp only); (try k_fold))
  | ((with_reducible show wpAny _ _ (call (Value.ref 163) _) _ _ _); (refine' Spec.use' (by k_asm) (by k_asm) (by exact added_spec _ _ _ 10 _ _ _ _ (text_small (by omega) (by omega)).1 (by decide +kernel) (by decide) (text_small (by omega) (by omega)).2 all_one) (by k_asm) (by k_asm) (by k_asm) (by first | exact rfl | assumption) (by ktr_room) (by ktr_units) ?_); intro r' n' h' tk' F' N' hp'; obtain ⟨e1', y', t', e2', hy', hyl'⟩ := hp'; rw [e1'] at N'; clear e1'; subst e2'; (try dsimp only); (try k_fold))))
  k_with "compareOp NotEq str str" => (first
  | (refine ne_str_same (by exact dec_sum_eq2 (by assumption) (by assumption) (by assumption) (by assumption) (by assumption) (by assumption) (by assumption) (by assumption) (by assumption) (by assumption) (by assumption) (by assumption) (by assumption)) ?_)
  | (refine ne_str_same (by exact dec_neg_eq2 (by assumption) (by assumption) rfl (by omega)) ?_)
  | (refine ne_str_same (by exact num_sum_eq (by assumption) (by assumption) (by assumption) (by assumption) (by omega) (by omega)) ?_)
  | (refine ne_str_same (by exact num_neg_eq (by assumption) (by assumption) (by assumption) (by omega)) ?_))
  k_with "binaryOp Mult int int" => ((k_here; refine PyProof.Rows.mul_int ?_ (PySem.IntMulOk.of_right (bot_bits (by assumption)))))
  k_with "subscriptTail Name Constant ref int" => ((k_here; k_dflt (refine item_tupleT (News.isTup (by k_asm) (by k_mem)) (by decide) (by decide) (by rfl) (by rfl) ?_)))
  k_with "call builtin:list.extend" => ((k_here; (with_reducible show wpAny _ _ (call (Value.builtin _) [Value.ref _, Value.ref _]) _ _ _); k_dflt (refine' my_extend ?F ?N ?b ?U ?d ?z ?y ?_; (case F => k_asm); (case N => k_asm); (case b => exact .head _); (case U => k_upd); (case d => omega); (case z => exact Nat.succ_pos _); (case y => exact Nat.le_of_ble_eq_true rfl); intro h' F' N'; (try dsimp only))))
  k_with "k_all" => (assumption)
  k_with "mine fold" => ((first | (with_reducible show wpAny _ _ (exec _ _) _ _ _) | (with_reducible show wpAny _ _ (eval (Expr.Call _ _ _ _) _) _ _ _)); ((try k_fold); (with_reducible rename Fr _ _ _ _ => lF); (with_reducible rename News _ _ _ _ => lN); (with_reducible refine fold3 lF lN ?_); clear lF lN; intro s9 m9 l9 F9 N9))
  trivial
set_option maxRecDepth 100000 in
set_option maxHeartbeats 4000000 in
theorem numbers_right_spec (w : World) (d c wl : Addr) (o : Obj) (at0 : Int) (vs ws : List Value) (nn : Nat) (ns : List Int) (news : List (Addr × Obj))
   (hd : IsTank w o c at0) (hoff : ∀ p ∈ (c, LCg.lst vs) :: (wl, W.listOf ws.toArray nn) :: news, p.1 ≠ d) (hoff2 : ∀ p ∈ (d, o) :: (c, LCg.lst vs) :: news, p.1 ≠ wl) (hns : IntsAre vs ns) (hlen : ns.length ≤ 60) (hat : 0 ≤ at0) (hat2 : at0 < 50) (hws : ws.length ≤ 30) :
    Spec w 177 20 [.ref d, .ref wl] ((d, o) :: (c, LCg.lst vs) :: (wl, W.listOf ws.toArray nn) :: news) (fun news' r => Out w d c wl o vs ws nn at0 28 8 news news' r) := by
  have hdw : d ≠ wl := hoff2 _ (.head _)
  have hcw : c ≠ wl := hoff2 _ (.tail _ (.head _))
  have hnw : ∀ p ∈ news, p.1 ≠ wl := fun p hp => hoff2 p (.tail _ (.tail _ hp))
  unfold Spec
  k_fill
  intro loose mean mg mb dp un gd cn cs a ccd cl outer A₀ base h₀ L m s Q E B F X N T hk hdp hun hret
  refine wpAny_call ?_
  k_dflt ktr_enter
  (try k_gentoks)
  refine fold_env ?_
  intro A9 v9
  have uA9 : A9.units = un + 3 := by rfl
  have dA9 : A9.depth = dp + 1 := by rfl
  walk_at "mine stmt"
  walk_at "mine stmt"
  walk_at "mine stmt"
  walk_at "mine stmt"
  rename News _ _ _ _ => lN
  have lN2 := drop_to (old := (d, _) :: (c, LCg.lst vs) :: (wl, W.listOf ws.toArray nn) :: news) lN (by repeat (first | exact split_nil | apply split_cons))
  clear lN
  walk_at "mine junk"
  walk_at "mine stmt"
  rename News _ _ _ _ => lN
  have lN2 := drop_to (old := (d, _) :: (c, LCg.lst vs) :: (wl, W.listOf ws.toArray nn) :: news) lN (by repeat (first | exact split_nil | apply split_cons))
  clear lN
  walk_at "mine junk"
  walk_at "mine stmt"
  rename News _ _ _ _ => lN
  rename (d < _ ∧ _) => ly9
  have hof9 := rot_off lN hoff ly9.1
  obtain ⟨lN2, hof9⟩ := hof9
  clear lN
  walk_at "mine gate"
  rename _ < (6:Int) => q6
  have hB1 := bot_of (by assumption) q6
  clear q6
  rename _ < (6:Int) => q6
  have hB0 := bot_of (by assumption) q6
  clear q6
  walk_at "mine stmt"
  walk_at "mine stmt"
  walk_at "mine stmt"
  walk_at "mine stmt"
  walk_at "mine stmt"
  rename News _ _ _ _ => lN
  have lN2 := cb_drop lN (fun p hp => .tail _ (.tail _ (.tail _ (.tail _ hp))))
  clear lN
  walk_at "mine stmt"
  rename News _ _ _ _ => lN
  have lN2 := keep3 lN
  clear lN
  have lk := keep_lt (d := d) (c := c) (wl := wl) (news := news) lN2 ly9 (by omega)
  walk_at "mine junk"
  obtain ⟨lk1, lk2, lk3⟩ := lk
  walk_at "mine steps"
  rename News _ _ _ _ => lN
  refine cut_words (old := (d, o) :: (c, LCg.lst vs) :: (wl, W.listOf ws.toArray nn) :: news) [.num _, .num _, .num _, .num _, .dec _ _, .dec _ _, .dec _ _, .dec _ _] lN (by repeat (first | exact split_nil | apply split_cons)) (by repeat (first | exact above_nil | refine above_cons (above3 (by assumption) (by omega)) ?_)) (by exact .cons (dat_num (by k_mem)) (.cons (dat_num (by k_mem)) (.cons (dat_num (by k_mem)) (.cons (dat_num (by k_mem)) (.cons (dat_dec (by k_mem) (by k_mem)) (.cons (dat_dec (by k_mem) (by k_mem)) (.cons (dat_dec (by k_mem) (by k_mem)) (.cons (dat_dec (by k_mem) (by k_mem)) .nil)))))))) ?_
  clear lN
  intro new kN hAb hDat
  refine hret _ _ _ _ (by k_asm) (cb_drop (by k_asm) (fun p hp => .tail _ hp)) ⟨_, _, _, _, _, new, rfl, by assumption, by omega, by omega, hAb, hDat, num_items (by assumption) (by assumption) (by assumption) (by assumption) (by assumption) (by assumption) (by assumption), Nat.le_refl 8, rfl⟩
end
end Mine
/- part ZB3 -/
namespace Mine
open PyProof.Rows.LCg in
/-- a comprehension by an invariant over the turn's number, the items made and the ledger -/
theorem comp_ind {prog : Program} {w : World} {A : Around} {h₀ : Heap} {L : Addr} {m : Str → Option Value} {env : Env} {elt : Expr} {x : Str} {scope : Scope} {cl : List (Str × Addr)} {s : Shared} {S : List (Addr × Obj) → Prop} {P : Nat → Value → Prop} {Fin : List Value → List (Addr × Obj) → Prop}
    (Inv : Nat → List Value → List (Addr × Obj) → Prop) {n : Nat} {news : List (Addr × Obj)} (start : Inv 0 [] news)
    (step : ∀ i ys nw, i < n → Inv i ys nw → ∀ v I oI C oC D m₂ h tk (E' : Value → Shared → Prop), P i v → NsObj oC m₂ → m₂ x = some v → Fr h₀ L h m → News h₀ L h ((I, oI) :: (C, oC) :: (D, lst ys) :: nw) → Off3 I C D nw → ((@Ne Nat I C) ∧ (@Ne Nat I D) ∧ (@Ne Nat C D)) →
      wpAny (model prog w) A (eval elt (compEnvC scope cl C env)) (CompEnd h₀ L m { s with heap := h, toks := tk } I oI C oC D (lst ys) S (fun y news' => Inv (i + 1) (ys ++ [y]) news')) E' { s with heap := h, toks := tk })
    (fin : ∀ ys nw, Inv n ys nw → Fin ys nw) : CompRest prog w A h₀ L m env elt x scope cl s S P Fin n 0 [] news := by
  have key : ∀ (k i : Nat) (ys : List Value) (nw : List (Addr × Obj)), i + k = n → Inv i ys nw → CompRest prog w A h₀ L m env elt x scope cl s S P Fin k i ys nw := by
    intro k
    induction k with
    | zero =>
      intro i ys nw hi hI
      have e : i = n := by omega
      subst e
      exact CompRest.zero (fin ys nw hI)
    | succ k ih =>
      intro i ys nw hi hI
      refine CompRest.succ ?_
      intro v I oI C oC D m₂ h tk E' hv hC hx F N off ne
      refine wpAny_mono (step i ys nw (by omega) hI v I oI C oC D m₂ h tk E' hv hC hx F N off ne) (fun y s₃ hr => ?_) fun _ _ e => e
      obtain ⟨h', tk', nw', e, F', N', off', hS, hr'⟩ := hr
      exact ⟨h', tk', nw', e, F', N', off', hS, ih (i + 1) _ _ (by omega) hr'⟩
  exact key n 0 [] news (by omega) start
/-- one draw, whatever the place of the tank in the ledger -/
theorem lot_specU (w : World) (d c : Addr) (o : Obj) (t : Tok) (at0 many : Int) (vs : List Value) (ns : List Int) (led pre post : List (Addr × Obj)) (hled : led = pre ++ (d, o) :: post) (hc : (c, LCg.lst vs) ∈ post)
   (hd : IsTank w o c at0) (hp1 : ∀ p ∈ pre, p.1 ≠ d) (hp2 : ∀ p ∈ post, p.1 ≠ d) (hns : IntsAre vs ns) (hlen : ns.length ≤ 60) (hat : 0 ≤ at0) (hat2 : at0 < 1000) (hm : 0 < many) (hm2 : many < 1000) :
    Spec w 142 1 [.ref d, .int many t] led (fun led' r => ∃ o' v t', led' = pre ++ (d, o') :: post ∧ IsTank w o' c (at0 + 1) ∧ r = .int v t' ∧ 0 ≤ v ∧ v < many) := by
  subst hled
  have hoff : ∀ p ∈ (c, LCg.lst vs) :: (pre ++ post), p.1 ≠ d := by
    intro p hp
    rcases List.mem_cons.mp hp with rfl | hp
    · exact hp2 _ hc
    · rcases List.mem_append.mp hp with hp | hp
      · exact hp1 p hp
      · exact hp2 p hp
  intro loose mean mg mb dp un gd cn cs a ccd cl outer A₀ base h₀ L m s Q E B F X N T hk hdp hun hret
  have N1 : News h₀ L s.heap ((d, o) :: (c, LCg.lst vs) :: (pre ++ post)) := by
    intro p hp
    refine N p ?_
    simp only [List.mem_cons, List.mem_append] at hp ⊢
    rcases hp with h | h | h | h
    · exact .inr (.inl h)
    · exact .inr (.inr (h ▸ hc))
    · exact .inl h
    · exact .inr (.inr h)
  refine Spec.use' N1 F (lot_spec w d c o t at0 many vs ns (pre ++ post) hd hoff hns hlen hat hat2 hm hm2) B X T hk hdp hun ?_
  rintro r news' h' tk' F' N' ⟨o', v, t', e1, h1, e2, h2, h3⟩
  subst e1
  refine hret r _ h' tk' F' (cb_drop N' ?_) ⟨o', v, t', rfl, h1, e2, h2, h3⟩
  intro p hp
  simp only [List.mem_cons, List.mem_append] at hp ⊢
  rcases hp with h | h | h
  · exact .inr (.inr (.inl h))
  · exact .inl h
  · exact .inr (.inr (.inr h))
/-- the signs that the law draws from -/
def Six (c : Nat) : Prop := c = 97 ∨ c = 98 ∨ c = 34 ∨ c = 120 ∨ c = 32 ∨ c = 121
def OneSix (x : Str) : Prop := ∃ c, x.cps.toList = [c] ∧ Six c
def Txt6 (x : Str) : Prop := (∀ c ∈ x.cps.toList, Six c) ∧ x.length ≤ 4
theorem six_item {v : Int} (h0 : 0 ≤ v) (h1 : v < 6) : OneSix (Txt.item (Str.ofString "ab\"x y") v) := by
  have hv : v = 0 ∨ v = 1 ∨ v = 2 ∨ v = 3 ∨ v = 4 ∨ v = 5 := by omega
  unfold OneSix Six
  rcases hv with rfl | rfl | rfl | rfl | rfl | rfl
  · exact ⟨97, by decide +kernel, by decide⟩
  · exact ⟨98, by decide +kernel, by decide⟩
  · exact ⟨34, by decide +kernel, by decide⟩
  · exact ⟨120, by decide +kernel, by decide⟩
  · exact ⟨32, by decide +kernel, by decide⟩
  · exact ⟨121, by decide +kernel, by decide⟩
theorem join_six {xs : List Str} (h : ∀ x ∈ xs, OneSix x) (hl : xs.length ≤ 4) : Txt6 (Txt.join (Str.ofString "") xs) := by
  have key : ∀ l : List Str, (∀ x ∈ l, OneSix x) → (∀ c ∈ (l.map fun s => s.cps.toList).flatten, Six c) ∧ (l.map fun s => s.cps.toList).flatten.length = l.length := by
    intro l
    induction l with
    | nil => intro _; exact ⟨fun c hc => by simp at hc, rfl⟩
    | cons x r ih =>
      intro h
      obtain ⟨c, e, hc⟩ := h x (.head _)
      obtain ⟨h1, h2⟩ := ih fun y hy => h y (.tail _ hy)
      rw [List.map_cons, List.flatten_cons, e]
      refine ⟨fun z hz => ?_, by rw [List.length_append, h2, List.length_cons]; simp; omega⟩
      rcases List.mem_append.mp hz with hz | hz
      · rw [List.mem_singleton.mp hz]; exact hc
      · exact h1 z hz
  obtain ⟨h1, h2⟩ := key xs h
  refine ⟨by rw [join_list]; exact h1, ?_⟩
  have : (Txt.join (Str.ofString "") xs).cps.toList.length = (Txt.join (Str.ofString "") xs).length := Array.length_toList
  rw [← this, join_list, h2]
  exact hl
/-- the outer comprehension's turns -/
def TInv (w : World) (d c : Addr) (at0 : Int) (rest : List (Addr × Obj)) (i : Nat) (ys : List Value) (nw : List (Addr × Obj)) : Prop :=
  ∃ o1 at1 xs, nw = (d, o1) :: rest ∧ IsTank w o1 c at1 ∧ at0 ≤ at1 ∧ at1 ≤ at0 + 5 * (i : Int) ∧ StrsAre ys xs ∧ xs.length = i ∧ ∀ x ∈ xs, Txt6 x
theorem tinv_start {w : World} {d c : Addr} {at0 : Int} {rest : List (Addr × Obj)} {o : Obj} (hd : IsTank w o c at0) : TInv w d c at0 rest 0 [] ((d, o) :: rest) :=
  ⟨o, at0, [], rfl, hd, Int.le_refl _, by omega, .nil, rfl, fun _ h => nomatch h⟩
theorem tinv_step {w : World} {d c : Addr} {at0 at1 at2 : Int} {rest : List (Addr × Obj)} {o : Obj} {i : Nat} {ys : List Value} {xs : List Str} {y : Str} {t : Tok} (hd : IsTank w o c at2) (h0 : at0 ≤ at1) (h1 : at1 ≤ at0 + 5 * (i : Int)) (h2 : at1 ≤ at2) (h3 : at2 ≤ at1 + 5) (hs : StrsAre ys xs) (hl : xs.length = i) (hx : ∀ x ∈ xs, Txt6 x) (hy : Txt6 y) :
    TInv w d c at0 rest (i + 1) (ys ++ [.str y t]) ((d, o) :: rest) := by
  refine ⟨o, at2, xs ++ [y], rfl, hd, by omega, by push_cast; omega, hs.append' (.cons _ _ .nil), by rw [List.length_append, hl]; rfl, fun z hz => ?_⟩
  rcases List.mem_append.mp hz with hz | hz
  · exact hx z hz
  · rw [List.mem_singleton.mp hz]; exact hy
/-- the inner one's -/
def UInv (w : World) (d c : Addr) (at0 : Int) (pre rest : List (Addr × Obj)) (i : Nat) (ys : List Value) (nw : List (Addr × Obj)) : Prop :=
  ∃ o1 xs, nw = pre ++ (d, o1) :: rest ∧ IsTank w o1 c (at0 + (i : Int)) ∧ StrsAre ys xs ∧ xs.length = i ∧ ∀ x ∈ xs, OneSix x
theorem uinv_start {w : World} {d c : Addr} {at0 : Int} {pre rest led : List (Addr × Obj)} {o : Obj} (hd : IsTank w o c at0) (e : led = pre ++ (d, o) :: rest) : UInv w d c at0 pre rest 0 [] led :=
  ⟨o, [], e, by simpa using hd, .nil, rfl, fun _ h => nomatch h⟩
theorem uinv_step {w : World} {d c : Addr} {at0 at1 : Int} {pre rest led : List (Addr × Obj)} {o : Obj} {i : Nat} {ys : List Value} {xs : List Str} {y : Str} {t : Tok} (hd : IsTank w o c at1) (ha : at1 = at0 + (i : Int) + 1) (e : led = pre ++ (d, o) :: rest) (hs : StrsAre ys xs) (hl : xs.length = i) (hx : ∀ x ∈ xs, OneSix x) (hy : OneSix y) :
    UInv w d c at0 pre rest (i + 1) (ys ++ [.str y t]) led := by
  refine ⟨o, xs ++ [y], e, by rw [ha] at hd; push_cast; rw [← Int.add_assoc]; exact hd, hs.append' (.cons _ _ .nil), by rw [List.length_append, hl]; rfl, fun z hz => ?_⟩
  rcases List.mem_append.mp hz with hz | hz
  · exact hx z hz
  · rw [List.mem_singleton.mp hz]; exact hy
theorem pre3 {I C D d : Addr} {x y z o : Obj} {led : List (Addr × Obj)} (off : LCg.Off3 I C D led) (hm : (d, o) ∈ led) : ∀ p ∈ [(I, x), (C, y), (D, z)], p.1 ≠ d := by
  obtain ⟨h1, h2, h3⟩ := LCg.Off3.mem off _ hm
  intro p hp
  simp only [List.mem_cons, List.not_mem_nil, or_false] at hp
  rcases hp with rfl | rfl | rfl
  · exact fun e => h1 e.symm
  · exact fun e => h2 e.symm
  · exact fun e => h3 e.symm
theorem pre6 {I C D I2 C2 D2 d : Addr} {x y z x2 y2 z2 o o2 : Obj} {led led2 : List (Addr × Obj)} (off : LCg.Off3 I C D led) (hm : (d, o) ∈ led) (off2 : LCg.Off3 I2 C2 D2 led2) (hm2 : (d, o2) ∈ led2) : ∀ p ∈ [(I, x), (C, y), (D, z), (I2, x2), (C2, y2), (D2, z2)], p.1 ≠ d := by
  intro p hp
  rcases List.mem_append.mp (show p ∈ [(I, x), (C, y), (D, z)] ++ [(I2, x2), (C2, y2), (D2, z2)] from hp) with hp | hp
  · exact pre3 off hm p hp
  · exact pre3 off2 hm2 p hp
theorem weight_six {xs : List Str} (h : ∀ x ∈ xs, OneSix x) (hl : xs.length ≤ 4) : (xs.map (·.length)).sum + xs.length ≤ 1048576 := by
  have key : ∀ l : List Str, (∀ x ∈ l, OneSix x) → (l.map (·.length)).sum = l.length := by
    intro l
    induction l with
    | nil => intro _; rfl
    | cons x r ih =>
      intro h
      obtain ⟨c, e, _⟩ := h x (.head _)
      have e2 : x.cps.toList.length = x.length := Array.length_toList
      rw [e] at e2
      rw [List.map_cons, List.sum_cons, ih fun y hy => h y (.tail _ hy), List.length_cons, ← e2, List.length_singleton]
      omega
  rw [key xs h]; omega
/-- a loop over a made list by an invariant over the turn's number, the frame's map and the ledger -/
theorem list_ind {prog : Program} {w : World} {A : Around} {E : Value → Shared → Prop} {s : Shared} {env : Env} {h₀ : Heap} {x : Str} {body : List Stmt} {Q : Flow → Shared → Prop} {I : Addr} {lp : Addr × Obj}
    (Inv : Nat → (Str → Option Value) → List (Addr × Obj) → Prop) {vs : List Value} {m : Str → Option Value} {news : List (Addr × Obj)} (start : Inv 0 m news) (hlp : ∀ i m nw, Inv i m nw → lp ∈ nw)
    (step : ∀ i v m nw, vs[i]? = some v → Inv i m nw → ∀ (it : Obj) h tk, it.cls = .type "list_iterator" → Fr h₀ env.locals h (fun y => if y = x then some v else m y) → News h₀ env.locals h ((I, it) :: nw) →
      wpAny (model prog w) A (execs body env) (UnrPost h₀ env.locals { s with heap := h, toks := tk } I it (fun m' n' => Inv (i + 1) m' n') Q) E { s with heap := h, toks := tk })
    (fin : ∀ m nw, Inv vs.length m nw → ∀ h tk, Fr h₀ env.locals h m → News h₀ env.locals h nw → Q .next { s with heap := h, toks := tk }) : ListRest prog w A E h₀ env x body Q s I lp vs m news := by
  have key : ∀ (r : List Value) (i : Nat) (m : Str → Option Value) (nw : List (Addr × Obj)), vs.drop i = r → i ≤ vs.length → Inv i m nw → ListRest prog w A E h₀ env x body Q s I lp r m nw := by
    intro r
    induction r with
    | nil =>
      intro i m nw hd hi hI
      have : vs.length ≤ i := List.drop_eq_nil_iff.mp hd
      have e : i = vs.length := by omega
      subst e
      exact ListRest.zero (fin m nw hI)
    | cons v r ih =>
      intro i m nw hd hi hI
      have hlt : i < vs.length := by
        rcases Nat.lt_or_ge i vs.length with q | q
        · exact q
        · rw [List.drop_eq_nil_iff.mpr q] at hd; cases hd
      rw [List.drop_eq_getElem_cons hlt] at hd
      injection hd with hv hr
      refine ListRest.succ fun it h tk hit F N => ?_
      refine wpAny_mono (step i v m nw (by rw [List.getElem?_eq_getElem hlt, hv]) hI it h tk hit F N) (fun f s₂ hq => ?_) fun _ _ e => e
      have up : UnrEnd h₀ env.locals { s with heap := h, toks := tk } I it (fun m' n' => Inv (i + 1) m' n') s₂ → UnrEnd h₀ env.locals { s with heap := h, toks := tk } I it (fun m' n' => lp ∈ n' ∧ ListRest prog w A E h₀ env x body Q s I lp r m' n') s₂ := by
        rintro ⟨h', tk', m', n', e, F', N', ho, hr'⟩
        exact ⟨h', tk', m', n', e, F', N', ho, hlp _ _ _ hr', ih (i + 1) m' n' hr hlt hr'⟩
      cases f with
      | ret v => exact hq
      | brk => exact hq
      | next => exact up hq
      | cont => exact up hq
  exact key vs 0 m news (List.drop_zero ..) (Nat.zero_le _) start
end Mine
/- part ZB4 -/
namespace Mine
open StrLaws in
theorem dbl_append (c : Nat) : ∀ l r : List Nat, dbl c (l ++ r) = dbl c l ++ dbl c r
  | [], r => rfl
  | k :: l, r => by
    have := dbl_append c l r
    simp only [List.cons_append, dbl, this]
    split <;> rfl
theorem strText_list (x : Str) : (strText x).cps.toList = 34 :: (StrLaws.dbl 34 x.cps.toList ++ [34]) := by
  unfold strText
  rw [Str.cps_append, Str.cps_append, Array.toList_append, Array.toList_append, repl_cps, q1]
  simp
theorem strText_len (x : Str) : (strText x).length = (StrLaws.dbl 34 x.cps.toList).length + 2 := by
  rw [← len_list, strText_list, List.length_cons, List.length_append, List.length_singleton]
theorem str_word {x y : Str} (h : WordIs (.str x) y) (hx : Txt6 x ∨ x.length ≤ 8) : y.length ≤ 20 ∧ 2 ≤ y.length ∧ y.cps.toList = 34 :: (StrLaws.dbl 34 x.cps.toList ++ [34]) := by
  have h' : y = strText x := h
  subst h'
  have h2 := strText_len x
  have h3 := dbl_len 34 x.cps.toList
  rw [len_list] at h3
  have h4 : x.length ≤ 8 := by
    rcases hx with hx | hx
    · exact Nat.le_trans hx.2 (by decide)
    · exact hx
  exact ⟨by omega, by omega, strText_list x⟩
/-- both texts without the two quotes between -/
theorem str_sum_eq {x y one other u : Str} (hu : WordIs (.str (x ++ y)) u) (h1 : WordIs (.str x) one) (h2 : WordIs (.str y) other) : u = Txt.slice one none (some (-1)) ++ Txt.slice other (some 1) none := by
  have hu' : u = strText (x ++ y) := hu
  have h1' : one = strText x := h1
  have h2' : other = strText y := h2
  have l1 := strText_len x
  have l2 := strText_len y
  refine str_ext ?_
  rw [Str.cps_append, Array.toList_append, hu', strText_list, Str.cps_append, Array.toList_append, dbl_append]
  have e1 : (Txt.slice one none (some (-1))).cps.toList = 34 :: StrLaws.dbl 34 x.cps.toList := by
    rw [slice_1 (by rw [h1']; omega), h1', strText_list, l1]
    have : (StrLaws.dbl 34 x.cps.toList).length + 2 - 1 = (34 :: StrLaws.dbl 34 x.cps.toList).length := by simp
    rw [this, ← List.cons_append, List.take_left]
  have e2 : (Txt.slice other (some 1) none).cps.toList = StrLaws.dbl 34 y.cps.toList ++ [34] := by
    rw [show (some (1 : Int)) = some ((1 : Nat) : Int) from rfl, slice_from (by rw [h2']; omega), h2', strText_list]
    rfl
  rw [e1, e2]
  simp
theorem item_first {x : Str} {c : Nat} {d : List Nat} (h : x.cps.toList = c :: d) : Txt.item x 0 = ⟨#[c]⟩ := by
  obtain ⟨k, h1, h2⟩ := item_at (X := x) (k := 0) (by decide) (by have := len_list x; rw [h] at this; simp at this; omega)
  rw [h] at h1
  rw [h2]
  have e : c = k := Option.some.inj h1
  rw [e]
theorem str_ends {x y : Str} (h : WordIs (.str x) y) : Txt.item y 0 = Str.ofString "\"" ∧ Txt.item y (-1) = Str.ofString "\"" := by
  have h' : y = strText x := h
  subst h'
  have e := strText_list x
  refine ⟨by rw [item_first e, q1], ?_⟩
  rw [← List.cons_append] at e
  rw [item_last e, q1]
theorem dat_str {news : List (Addr × Obj)} {a : Addr} {x : Str} {t1 t2 : Tok} {k : Nat} (hm : (a, ({ cls := .type "tuple", data := .seq #[.str (Str.ofString "str") t1, .str x t2] k } : Obj)) ∈ news) : DatIn news (.ref a) (Item.str x).dat :=
  DatIn.tuple hm (.cons (.str _ _) (.cons (.str _ _) .nil))
theorem dat_sym {news : List (Addr × Obj)} {a : Addr} {x : Str} {t1 t2 : Tok} {k : Nat} (hm : (a, ({ cls := .type "tuple", data := .seq #[.str (Str.ofString "sym") t1, .str x t2] k } : Obj)) ∈ news) : DatIn news (.ref a) (Item.sym x).dat :=
  DatIn.tuple hm (.cons (.str _ _) (.cons (.str _ _) .nil))
theorem dat_key {news : List (Addr × Obj)} {a : Addr} {x : Str} {t1 t2 : Tok} {k : Nat} (hm : (a, ({ cls := .type "tuple", data := .seq #[.str (Str.ofString "key") t1, .str x t2] k } : Obj)) ∈ news) : DatIn news (.ref a) (Item.key x).dat :=
  DatIn.tuple hm (.cons (.str _ _) (.cons (.str _ _) .nil))
theorem strOk_of {x : Str} (h : ∀ c ∈ x.cps.toList, c < 0x110000) : PyData.strOk x = true := by
  unfold PyData.strOk
  rw [← Array.all_toList, List.all_eq_true]
  intro c hc
  exact decide_eq_true (h c hc)
theorem six_strOk {x : Str} (h : ∀ c ∈ x.cps.toList, Six c) : PyData.strOk x = true := strOk_of fun c hc => by
  rcases h c hc with e | e | e | e | e | e <;> omega
theorem ok_str6 {x : Str} (h : Txt6 x) : OkItem (.str x) ∧ Fine (.str x) := ⟨by show _ < _; have := h.2; omega, six_strOk h.1⟩
theorem ok_key6 {x : Str} (h : Txt6 x) : OkItem (.key x) ∧ Fine (.key x) := ⟨by show _ ≤ _; have := h.2; omega, six_strOk h.1⟩
theorem six_signs {x : Str} (h : ∀ c ∈ x.cps.toList, Six c) : Signs x := by
  unfold Signs
  rw [List.all_eq_true]
  intro c hc
  rcases h c hc with e | e | e | e | e | e <;> (subst e; rfl)
theorem ok_sym6 {x : Str} (h : Txt6 x) : OkItem (.sym x) ∧ Fine (.sym x) := ⟨⟨by have := h.2; omega, six_signs h.1⟩, six_signs h.1, six_strOk h.1⟩
theorem ok_colon {x : Str} (h : Txt6 x) : OkItem (.sym (Str.ofString ":" ++ x)) ∧ Fine (.sym (Str.ofString ":" ++ x)) := by
  have hs : Signs (Str.ofString ":" ++ x) := by
    unfold Signs
    rw [Str.cps_append, Array.toList_append, List.all_append, show (Str.ofString ":").cps.toList = [58] by decide +kernel]
    have := six_signs h.1
    unfold Signs at this
    rw [this]; rfl
  refine ⟨⟨by rw [Str.length_append, len_colon]; have := h.2; omega, hs⟩, hs, strOk_of fun c hc => ?_⟩
  rw [Str.cps_append, Array.toList_append, show (Str.ofString ":").cps.toList = [58] by decide +kernel] at hc
  rcases List.mem_append.mp hc with hc | hc
  · rw [List.mem_singleton.mp hc]; decide
  · rcases h.1 c hc with e | e | e | e | e | e <;> omega
theorem two_strs {ys : List Value} {xs : List Str} (h : StrsAre ys xs) (hl : xs.length = 2) : ∃ a b t u, xs = [a, b] ∧ ys = [.str a t, .str b u] := by
  match xs, hl, h with
  | [a, b], _, h =>
    cases h with | cons x t r =>
    cases r with | cons y u r =>
    cases r
    exact ⟨_, _, _, _, rfl, rfl⟩
theorem ok_str8 {x y : Str} (hx : Txt6 x) (hy : Txt6 y) : OkItem (.str (x ++ y)) := by
  show _ < _
  rw [Str.length_append]
  have := hx.2
  have := hy.2
  omega
section
variable {prog : Program} {w : World} {A : Around} {E : Value → Shared → Prop} {s : Shared} {value slice : PySem.Expr} {Q : Value → Shared → Prop}
theorem item_lst {l : Addr} {its : List Value} {k : Int} {u : Tok} {x : Value} (hl : s.heap.IsList l its.toArray) (h0 : 0 ≤ k) (hhi : k < 2 ^ 63) (hx : its[k.toNat]? = some x) (h : Q x s)
    (hs : subscripted slice false (.ref l) (.int k u) = operate [.ref l, .int k u] (getItem (.ref l) (.int k u)) := by with_unfolding_all rfl) :
    wpAny (model prog w) A (subscriptTail value slice (.ref l) (.int k u)) Q E s :=
  tail_any hl.typeIs slot_list_getitem.lookup (wpAny_getItem_list hl h0 hhi (by simpa using hx) h) hs
theorem item_q {x y : Str} {t : Tok} {k : Int} {u : Tok} (he : Txt.item x k = y) (h0 : -(x.length : Int) ≤ k) (h2 : k < x.length) (h3 : x.length ≤ 1000) (h : Q (.str y s.toks) { s with toks := s.toks + 1 })
    (hs : subscripted slice false (.str x t) (.int k u) = operate [.str x t, .int k u] (getItem (.str x t) (.int k u)) := by with_unfolding_all rfl)
    (ht : ∀ r, letTemporaryGo value (.str x t) r = pure () := by intro _; with_unfolding_all rfl) :
    wpAny (model prog w) A (subscriptTail value slice (.str x t) (.int k u)) Q E s :=
  item_str (by unfold fitsSsize; simp; omega) h0 h2 (fun _ => he ▸ h) hs ht
end
/-- the loop over the two texts -/
def VInv (w : World) (d c wl Ds I : Addr) (lo o o3 : Obj) (vs ws : List Value) (nn : Nat) (cell : Addr × Obj) (news : List (Addr × Obj)) (m0 : Str → Option Value) (i : Nat) (m : Str → Option Value) (nw : List (Addr × Obj)) : Prop :=
  ∃ (u u2 : Str → Option Value) (ws1 : List Value) (nn1 : Nat) (its : List Item) (new : List (Addr × Obj)),
    m = (fun y => if y = Str.ofString "is_bare" then u y else if y = Str.ofString "text" then u2 y else m0 y) ∧
    nw = (Ds, lo) :: (d, o3) :: (c, LCg.lst vs) :: cell :: (wl, W.listOf (ws ++ ws1).toArray nn1) :: (new ++ news) ∧
    Above new ((d, o) :: (c, LCg.lst vs) :: (wl, W.listOf ws.toArray nn) :: news) ∧ DatAll new ws1 (its.map Item.dat) ∧ (∀ it ∈ its, OkItem it ∧ Fine it) ∧ its.length = 4 * i ∧ (∀ p ∈ nw, p.1 ≠ I)
theorem vinv_start {w : World} {d c wl Ds I : Addr} {lo o o3 : Obj} {vs ws : List Value} {nn : Nat} {cell : Addr × Obj} {news : List (Addr × Obj)} {m0 : Str → Option Value} (hI : ∀ p ∈ (Ds, lo) :: (d, o3) :: (c, LCg.lst vs) :: cell :: (wl, W.listOf ws.toArray nn) :: news, p.1 < I) :
    VInv w d c wl Ds I lo o o3 vs ws nn cell news m0 0 m0 ((Ds, lo) :: (d, o3) :: (c, LCg.lst vs) :: cell :: (wl, W.listOf ws.toArray nn) :: news) := by
  refine ⟨m0, m0, [], nn, [], [], ?_, by simp, fun _ h => (nomatch h), .nil, fun _ h => (nomatch h), rfl, fun p hp => Nat.ne_of_lt (hI p hp)⟩
  funext y
  by_cases h1 : y = Str.ofString "is_bare"
  · rw [if_pos h1]
  · rw [if_neg h1]
    by_cases h2 : y = Str.ofString "text"
    · rw [if_pos h2]
    · rw [if_neg h2]
theorem vinv_mem {w : World} {d c wl Ds I : Addr} {lo o o3 : Obj} {vs ws : List Value} {nn : Nat} {cell : Addr × Obj} {news : List (Addr × Obj)} {m0 : Str → Option Value} {i : Nat} {m : Str → Option Value} {nw : List (Addr × Obj)} (h : VInv w d c wl Ds I lo o o3 vs ws nn cell news m0 i m nw) : (Ds, lo) ∈ nw := by
  obtain ⟨_, _, _, _, _, _, _, rfl, _⟩ := h
  exact .head _
theorem txt_at {T1 T2 : Str} {u1 u2 : Tok} {i : Nat} {v : Value} (hv : [Value.str T1 u1, Value.str T2 u2][i]? = some v) (h1 : Txt6 T1) (h2 : Txt6 T2) : ∃ T t, v = .str T t ∧ Txt6 T ∧ i < 2 := by
  match i, hv with
  | 0, hv => exact ⟨T1, u1, (Option.some.inj hv).symm, h1, by decide⟩
  | 1, hv => exact ⟨T2, u2, (Option.some.inj hv).symm, h2, by decide⟩
theorem key_eq {x y : Str} (h : WordIs (.key x) y) : y = Str.ofString ":" ++ x := h
theorem len_bar : (Str.ofString "|").length = 1 := by decide +kernel
theorem canLay_strs : ∀ {l : List Str}, (∀ x ∈ l, PyData.strOk x = true) → PyData.canLayAll0 (l.map PyData.str) = true ∧ PyData.depthAll (l.map PyData.str) ≤ 1
  | [], _ => by simp [PyData.canLayAll0, PyData.depthAll]
  | x :: r, h => by
    have ih := canLay_strs fun y hy => h y (.tail _ hy)
    have h1 := h x (.head _)
    have h2 := ih.2
    simp only [List.map_cons, PyData.canLayAll0, PyData.depthAll, PyData.canLay0, PyData.depth, h1, ih.1, Bool.and_self, true_and]
    omega
theorem eq_strs_nil {prog : Program} {w : World} {A : Around} {E : Value → Shared → Prop} {s : Shared} {D b : Addr} {ys : List Value} {l : List Str} {Q : Value → Shared → Prop} (hl : s.heap.IsList D ys.toArray) (hC : CarriedAll ys (l.map PyData.str)) (hn : s.heap.IsList b #[]) (hs : ∀ x ∈ l, PyData.strOk x = true) (hu : A.units + 64 < cLine)
    (h : Q (.bool l.isEmpty) s) : wpAny (model prog w) A (compareOp .Eq (.ref D) (.ref b)) Q E s := by
  obtain ⟨o, ho, hc, n, hd⟩ := hl
  obtain ⟨o2, ho2, hc2, n2, hd2⟩ := hn
  have c := canLay_strs hs
  refine eq_dataH (da := .list (l.map PyData.str)) (db := .list []) (Reads.list ho hc hd (by simpa using hC.reads s.heap)) (Reads.list ho2 hc2 hd2 ReadsAll.nil) ?_ rfl hu ?_
  · unfold SeqAt.shaped
    simp only [PyData.canLay0, PyData.depth, c.1, Bool.true_and]
    exact decide_eq_true (by have := c.2; omega)
  · have e : PyData.eqv (.list (l.map PyData.str)) (.list []) = l.isEmpty := by
      cases l <;> simp [PyData.eqv, PyData.eqvAll]
    rw [e]; exact h
theorem six_ok {T : Str} (h : Txt6 T) (p : Str → Bool) : ∀ x ∈ (signs T).filter p, PyData.strOk x = true := by
  intro x hx
  have hm := (List.mem_filter.mp hx).1
  unfold signs at hm
  obtain ⟨c, hc, rfl⟩ := List.mem_map.mp hm
  have := h.1 c hc
  unfold PyData.strOk
  rcases this with e | e | e | e | e | e <;> (subst e; decide +kernel)
theorem out_ne {d c wl : Addr} {o1 o2 o3 : Obj} {new news : List (Addr × Obj)} (hA : Above new ((d, o1) :: (c, o2) :: (wl, o3) :: news)) (h : ∀ p ∈ news, p.1 ≠ wl) : ∀ p ∈ new ++ news, p.1 ≠ wl := by
  intro p hp
  rcases List.mem_append.mp hp with hp | hp
  · exact Nat.ne_of_gt (hA p hp _ (.tail _ (.tail _ (.head _))))
  · exact h p hp
theorem lt_nat {a b : Addr} (h : a < b) : @LT.lt Nat instLTNat a b := h
theorem above4 {D D1 I Ds Lc d c wl : Addr} {oI o1 o2 o3 : Obj} {new news : List (Addr × Obj)} (h : I < D1 ∧ Ds < D1 ∧ d < D1 ∧ c < D1 ∧ Lc < D1 ∧ wl < D1 ∧ AllLt D1 (new ++ news)) (hk : @LE.le Nat instLENat D1 D) : ∀ q ∈ (I, oI) :: (d, o1) :: (c, o2) :: (wl, o3) :: news, q.1 < D := by
  obtain ⟨h1, _, h3, h4, _, h6, h7⟩ := h
  intro q hq
  simp only [List.mem_cons] at hq
  rcases hq with rfl | rfl | rfl | rfl | hq
  · exact Nat.lt_of_lt_of_le h1 hk
  · exact Nat.lt_of_lt_of_le h3 hk
  · exact Nat.lt_of_lt_of_le h4 hk
  · exact Nat.lt_of_lt_of_le h6 hk
  · exact Nat.lt_of_lt_of_le (ktn_ltOf h7 q (List.mem_append_right _ hq)) hk
theorem above_app {a b old : List (Addr × Obj)} (h : Above a old) (k : Above b old) : Above (a ++ b) old := fun p hp q hq => by
  rcases List.mem_append.mp hp with hp | hp
  · exact h p hp q hq
  · exact k p hp q hq
theorem vinv_end {w : World} {d c wl Ds I : Addr} {lo o o3 it : Obj} {vs ws ws1 ws2 : List Value} {nn nn2 : Nat} {cell : Addr × Obj} {new news all X : List (Addr × Obj)} {m0 m' w1 w2 : Str → Option Value} {i : Nat} {its its2 : List Item} {h₀ h' : Heap} {L : Addr} {s₁ : Shared} {tk : Nat} {b v : Option Value}
    (F : Fr h₀ L h' m') (N : News h₀ L h' all) (e : all = X ++ ((I, it) :: (Ds, lo) :: (d, o3) :: (c, LCg.lst vs) :: cell :: (wl, W.listOf ((ws ++ ws1) ++ ws2).toArray nn2) :: (new ++ news)))
    (hm : m' = fun y => if y = Str.ofString "is_bare" then b else if y = Str.ofString "text" then v else if y = Str.ofString "is_bare" then w1 y else if y = Str.ofString "text" then w2 y else m0 y)
    (hA : Above X ((I, it) :: (d, o) :: (c, LCg.lst vs) :: (wl, W.listOf ws.toArray nn) :: news)) (hD : DatAll X ws2 (its2.map Item.dat)) (hok : ∀ x ∈ its2, OkItem x ∧ Fine x) (hl2 : its2.length = 4)
    (hAb : Above new ((d, o) :: (c, LCg.lst vs) :: (wl, W.listOf ws.toArray nn) :: news)) (hDat : DatAll new ws1 (its.map Item.dat)) (hOk : ∀ x ∈ its, OkItem x ∧ Fine x) (hLen : its.length = 4 * i)
    {ob : Obj} (hI : ∀ p ∈ (Ds, lo) :: (d, o3) :: (c, LCg.lst vs) :: cell :: (wl, ob) :: (new ++ news), p.1 ≠ I) :
    UnrEnd h₀ L s₁ I it (fun m' n' => VInv w d c wl Ds I lo o o3 vs ws nn cell news m0 (i + 1) m' n') { s₁ with heap := h', toks := tk } := by
  subst e
  have hA2 : Above X ((d, o) :: (c, LCg.lst vs) :: (wl, W.listOf ws.toArray nn) :: news) := fun p hp q hq => hA p hp q (.tail _ hq)
  have hI2 : ∀ p ∈ (Ds, lo) :: (d, o3) :: (c, LCg.lst vs) :: cell :: (wl, W.listOf (ws ++ (ws1 ++ ws2)).toArray nn2) :: ((X ++ new) ++ news), p.1 ≠ I := by
    intro p hp
    simp only [List.mem_cons, List.mem_append] at hp
    rcases hp with h | h | h | h | h | (h | h) | h
    · exact hI p (by simp [h])
    · exact hI p (by simp [h])
    · exact hI p (by simp [h])
    · exact hI p (by simp [h])
    · subst h
      exact hI (wl, ob) (.tail _ (.tail _ (.tail _ (.tail _ (.head _)))))
    · exact Nat.ne_of_gt (hA p h _ (.head _))
    · exact hI p (by simp [h])
    · exact hI p (by simp [h])
  refine UnrEnd.intro F N ((Ds, lo) :: (d, o3) :: (c, LCg.lst vs) :: cell :: (wl, W.listOf (ws ++ (ws1 ++ ws2)).toArray nn2) :: ((X ++ new) ++ news)) ?_ hI2 ?_
  · intro p hp
    rw [← List.append_assoc] at hp
    simp only [List.mem_cons, List.mem_append] at hp ⊢
    rcases hp with h | h | h | h | h | h | (h | h) | h
    · exact .inr (.inl h)
    · exact .inr (.inr (.inl h))
    · exact .inr (.inr (.inr (.inl h)))
    · exact .inr (.inr (.inr (.inr (.inl h))))
    · exact .inr (.inr (.inr (.inr (.inr (.inl h)))))
    · exact .inr (.inr (.inr (.inr (.inr (.inr (.inl h))))))
    · exact .inl h
    · exact .inr (.inr (.inr (.inr (.inr (.inr (.inr (.inl h)))))))
    · exact .inr (.inr (.inr (.inr (.inr (.inr (.inr (.inr h)))))))
  · refine ⟨fun _ => b, fun _ => v, ws1 ++ ws2, nn2, its ++ its2, X ++ new, ?_, rfl, above_app hA2 hAb, ?_, ?_, by rw [List.length_append, hLen, hl2]; omega, hI2⟩
    · rw [hm]
      funext y
      by_cases h1 : y = Str.ofString "is_bare"
      · simp [h1]
      · by_cases h2 : y = Str.ofString "text"
        · simp [h2]
        · simp [h1, h2]
    · rw [List.map_append]
      exact (hDat.mono fun p hp => List.mem_append_right _ hp).append (hD.mono fun p hp => List.mem_append_left _ hp)
    · intro x hx
      rcases List.mem_append.mp hx with hx | hx
      · exact hOk x hx
      · exact hok x hx
theorem text_items {T : Str} (h : Txt6 T) : ∀ x ∈ [Item.str T, .sym T, .key T, .sym (Str.ofString ":" ++ T)], OkItem x ∧ Fine x := by
  intro x hx
  simp only [List.mem_cons, List.not_mem_nil, or_false] at hx
  rcases hx with rfl | rfl | rfl | rfl
  · exact ok_str6 h
  · exact ok_sym6 h
  · exact ok_key6 h
  · exact ok_colon h
theorem post_off {d c wl : Addr} {o o2 ob ob2 : Obj} {cell : Addr × Obj} {new news old : List (Addr × Obj)} (h : ∀ p ∈ (c, o2) :: cell :: (wl, ob) :: news, p.1 ≠ d) (hA : Above new ((d, o) :: old)) : ∀ p ∈ (c, o2) :: cell :: (wl, ob2) :: (new ++ news), p.1 ≠ d := by
  intro p hp
  simp only [List.mem_cons, List.mem_append] at hp
  rcases hp with e | e | e | e | e
  · exact h p (by simp [e])
  · exact h p (by simp [e])
  · subst e; exact h (wl, ob) (.tail _ (.tail _ (.head _)))
  · exact Nat.ne_of_gt (hA p e _ (.head _))
  · exact h p (by simp [e])
theorem signs_text {v : Int} (h0 : 0 ≤ v) (h1 : v < 100) : OkItem (.sym (Str.ofString (toString v))) ∧ Fine (.sym (Str.ofString (toString v))) := by
  obtain ⟨m, rfl⟩ := Int.eq_ofNat_of_zero_le h0
  have hs : Signs (Str.ofString (toString ((m : Nat) : Int))) := by
    unfold Signs
    rw [dig_of, List.all_eq_true]
    intro c hc
    have r := (dig_canon m).1 c hc
    unfold okCp
    simp only [Bool.and_eq_true, bne_iff_ne, ne_eq]
    omega
  have ho : PyData.strOk (Str.ofString (toString ((m : Nat) : Int))) = true := strOk_of fun c hc => by
    rw [dig_of] at hc
    have r := (dig_canon m).1 c hc
    omega
  refine ⟨⟨?_, hs⟩, hs, ho⟩
  have := toString_length_le (v := (m : Int)) h0 (k := 2) (by decide) (by omega)
  omega
end Mine
/- part ZB5 -/
namespace Mine
abbrev abP (a : Str) : Bool := !!(Builtin.Str.occurrences (Str.ofString "abxy") a 0 (Str.ofString "abxy").length 1).isEmpty
def sixB (c : Nat) : Bool := c == 97 || c == 98 || c == 34 || c == 120 || c == 32 || c == 121
theorem sixB_of {c : Nat} (h : Six c) : sixB c = true := by
  rcases h with e | e | e | e | e | e <;> (subst e; decide)
theorem res_no : RES.all (fun y => y.cps.toList.any fun c => !sixB c) = true := by decide +kernel
theorem res_not {T : Str} (h : Txt6 T) : (RES.any fun y => y == T) = false := by
  rw [List.any_eq_false]
  intro y hy he
  have e := beq_iff_eq.mp he
  subst e
  have h1 := List.all_eq_true.mp res_no y hy
  obtain ⟨c, hc, hn⟩ := List.any_eq_true.mp h1
  rw [sixB_of (h.1 c hc)] at hn
  exact absurd hn (by decide)
def abB (c : Nat) : Bool := c == 97 || c == 98 || c == 120 || c == 121
theorem six_simple {c : Nat} (h : Six c) : hasSub simpleS ⟨#[c]⟩ = abB c ∧ hasSub digitS ⟨#[c]⟩ = false ∧ abP ⟨#[c]⟩ = !abB c := by
  rcases h with e | e | e | e | e | e <;> (subst e; decide +kernel)
theorem bare_all {T : Str} (h : Txt6 T) : ((KStt.codes T).all fun v => hasSub simpleS ⟨#[v.toNat]⟩) = T.cps.toList.all abB := by
  have e : KStt.codes T = T.cps.toList.map (fun n : Nat => (n : Int)) := rfl
  rw [e, List.all_map]
  have key : ∀ l : List Nat, (∀ c ∈ l, Six c) → (l.all ((fun v : Int => hasSub simpleS ⟨#[v.toNat]⟩) ∘ fun n : Nat => (n : Int))) = l.all abB := by
    intro l
    induction l with
    | nil => intro _; rfl
    | cons c r ih =>
      intro hl
      rw [List.all_cons, List.all_cons, ih fun x hx => hl x (.tail _ hx)]
      congr 1
      exact (six_simple (hl c (.head _))).1
  exact key _ h.1
theorem bare_filter {T : Str} (h : Txt6 T) : ((signs T).filter abP).isEmpty = T.cps.toList.all abB := by
  unfold signs
  have key : ∀ l : List Nat, (∀ c ∈ l, Six c) → (((l.map fun n => (⟨#[n]⟩ : Str)).filter abP).isEmpty) = l.all abB := by
    intro l
    induction l with
    | nil => intro _; rfl
    | cons c r ih =>
      intro hl
      have e := (six_simple (hl c (.head _))).2.2
      rw [List.map_cons, List.all_cons, List.filter_cons, e]
      cases hb : abB c with
      | true => simpa using ih fun x hx => hl x (.tail _ hx)
      | false => simp
  exact key _ h.1
theorem sym_text {T y : Str} (hy : WordIs (.sym T) y) (h : Txt6 T) : y = if ((T != Str.ofString "") && T.cps.toList.all abB) = true then T else Str.ofString "|" ++ T ++ Str.ofString "|" := by
  have hy' : y = symText T := hy
  rw [hy', symText, res_not h, Bool.false_or]
  have e : isSimple T = ((T != Str.ofString "") && T.cps.toList.all abB) := by
    unfold isSimple
    rw [res_not h, bare_all h]
    by_cases he : T = Str.ofString ""
    · subst he; rfl
    · have h0 : (T == Str.ofString "") = false := beq_eq_false_iff_ne.mpr he
      have hne : T.cps.toList ≠ [] := fun q => he (str_ext (q.trans (show [] = (Str.ofString "").cps.toList by decide +kernel)))
      obtain ⟨c, r, hc⟩ := List.exists_cons_of_ne_nil hne
      have hd := (six_simple (h.1 c (by rw [hc]; exact .head _))).2.1
      rw [item_first hc, hd]
      simp [h0, bne]
  rw [e]
theorem sym_1 {T y : Str} (hy : WordIs (.sym T) y) (h : Txt6 T) (h1 : (T != Str.ofString "") = false) : y = Str.ofString "|" ++ T ++ Str.ofString "|" := by
  rw [sym_text hy h, h1]; rfl
theorem sym_2 {T y : Str} (hy : WordIs (.sym T) y) (h : Txt6 T) (h1 : (T != Str.ofString "") = true) (h2 : ((signs T).filter abP).isEmpty = true) : y = T := by
  rw [bare_filter h] at h2
  rw [sym_text hy h, h1, h2]; rfl
theorem sym_3 {T y : Str} (hy : WordIs (.sym T) y) (h : Txt6 T) (_h1 : (T != Str.ofString "") = true) (h2 : ((signs T).filter abP).isEmpty = false) : y = Str.ofString "|" ++ T ++ Str.ofString "|" := by
  rw [bare_filter h] at h2
  rw [sym_text hy h, h2, Bool.and_false]; rfl
theorem texts_news {h₀ h : Heap} {L D d c wl : Addr} {tp o' x : Obj} {cell : Addr × Obj} {ws ws1 : List Value} {v : Value} {n : Nat} {new news : List (Addr × Obj)} (N : News h₀ L h ((D, tp) :: (d, o') :: (c, x) :: cell :: (wl, W.listOf ((ws ++ ws1).toArray.push v) n) :: (new ++ news))) :
    News h₀ L h ((d, o') :: (c, x) :: (wl, W.listOf (ws ++ (ws1 ++ [v])).toArray n) :: (((D, tp) :: new) ++ news)) := by
  have e : (ws ++ ws1).toArray.push v = (ws ++ (ws1 ++ [v])).toArray := by simp
  rw [e] at N
  intro p hp
  refine N p ?_
  simp only [List.mem_cons, List.cons_append] at hp ⊢
  rcases hp with h | h | h | h | h
  · exact .inr (.inl h)
  · exact .inr (.inr (.inl h))
  · exact .inr (.inr (.inr (.inr (.inl h))))
  · exact .inl h
  · exact .inr (.inr (.inr (.inr (.inr h))))
theorem texts_out {w : World} {d c wl D Lc : Addr} {o o' : Obj} {vs ws ws1 : List Value} {nn n k : Nat} {at0 at1 : Int} {new news : List (Addr × Obj)} {its : List Item} {x : Str} {t1 t2 : Tok} (hT : IsTank w o' c at1) (h1 : at0 ≤ at1) (h2 : at1 ≤ at0 + 20)
    (hAb : Above new ((d, o) :: (c, LCg.lst vs) :: (wl, W.listOf ws.toArray nn) :: news)) (l : d < D ∧ c < D ∧ Lc < D ∧ wl < D ∧ AllLt D (new ++ news)) (hDat : DatAll new ws1 (its.map Item.dat)) (hOk : ∀ x ∈ its, OkItem x ∧ Fine x) (hLen : its.length = 4 * 2) (hx : OkItem (.sym x) ∧ Fine (.sym x)) :
    Out w d c wl o vs ws nn at0 20 9 news ((d, o') :: (c, LCg.lst vs) :: (wl, W.listOf (ws ++ (ws1 ++ [Value.ref D])).toArray n) :: (((D, { cls := .type "tuple", data := .seq #[.str (Str.ofString "sym") t1, .str x t2] k }) :: new) ++ news)) (.bool true) := by
  refine ⟨o', at1, n, ws1 ++ [Value.ref D], its ++ [.sym x], _, rfl, hT, h1, h2, above_cons ?_ hAb, ?_, ?_, by rw [List.length_append, hLen]; exact Nat.le_refl 9, rfl⟩
  · intro q hq
    obtain ⟨h3, h4, _, h5, h6⟩ := l
    simp only [List.mem_cons] at hq
    rcases hq with rfl | rfl | rfl | hq
    · exact h3
    · exact h4
    · exact h5
    · exact ktn_ltOf h6 q (List.mem_append_right _ hq)
  · rw [List.map_append]
    exact (hDat.mono fun p hp => .tail _ hp).append (.cons (dat_sym (.head _)) .nil)
  · intro y hy
    rcases List.mem_append.mp hy with hy | hy
    · exact hOk y hy
    · rw [List.mem_singleton.mp hy]; exact hx
end Mine
namespace Mine
theorem rest_ZN19 : True := by
  w_top off
  k_with_none
  first | walk1 | trivial
end Mine
/- part ZN19 -/
namespace Mine
theorem ne_nat {a b : Addr} (h : @Ne Nat b a) : a ≠ b := fun e => h e.symm
section
theorem words_N19_1 : True := by
  w_top off
  k_with_none
  k_with "mine steps" => (repeat' (first | (k_unfold; (try dsimp only)) | (goal_lacks PySem.W.InvEndN PySem.W.KswEnd; (fail_if_success (with_reducible show wpAny _ _ (pyIter _) _ _ _)); (fail_if_success (with_reducible show wpAny _ _ (exec (Stmt.While _ _ _ _) _) _ _ _)); first | ((with_reducible show wpAny _ _ (call (Value.ref _) _) _ _ _); walk_at "mine call") | ((fail_if_success (with_reducible show wpAny _ _ (call (Value.ref _) _) _ _ _)); first | (k_end; wrow_close) | (walk1 <;> (try walk_at "mine fold")) | (dsimp only; walk1) | (leave1; walk_say "STEP leave1"; try dsimp only) | fail "no step"))))
  k_with "mine steps" => (repeat' (first | (k_unfold; (try dsimp only)) | (goal_lacks PySem.W.InvEndN PySem.W.KswEnd; (fail_if_success (with_reducible show wpAny _ _ (eval (Expr.ListComp _ _ _ _) (envOfC _ _ _ _ _)) _ _ _)); (fail_if_success (with_reducible show LCg.CompSrc _ _ _ _ _ _ _ _ _ _ _ _ _ _)); (fail_if_success (with_reducible show LCg.CompEnd _ _ _ _ _ _ _ _ _ _ _ _ _ _)); (fail_if_success (with_reducible show UnrEnd _ _ _ _ _ _ _)); (fail_if_success (with_reducible show wpAny _ _ (eval (Expr.List [] _) _) _ _ _)); (fail_if_success (with_reducible show LCg.FinE _ _ _ _ _ _ _)); (fail_if_success (with_reducible show LCg.FinA _ _ _ _ _ _ _ _)); (fail_if_success (with_reducible show wpAny _ _ (pyIter _) _ _ _)); first | ((with_reducible show wpAny _ _ (call (Value.ref _) _) _ _ _); walk_at "mine call") | ((fail_if_success (with_reducible show wpAny _ _ (call (Value.ref _) _) _ _ _)); first | (k_end; wrow_close) | (walk1 <;> (try walk_at "mine fold")) | (dsimp only; walk1) | (leave1; walk_say "STEP leave1"; try dsimp only) | fail "no step"))))
  k_with "mine call" => (k_dflt (first
  | ((with_reducible show wpAny _ _ (call (Value.ref 142) _) _ _ _); (refine' Spec.use' (by k_asm) (by k_asm) (by exact lot_specU _ _ _ _ _ _ _ _ _ _ _ _ (by repeat (first | exact split_nil | apply split_cons)) (.head _) (by assumption) (by first | exact List.forall_mem_nil _ | exact pre3 (by assumption) (by k_mem) | exact pre6 (by assumption) (by k_mem) (by assumption) (by k_mem)) (by assumption) (by assumption) (by assumption) (by omega) (by omega) (by omega) (by omega)) (by k_asm) (by k_asm) (by k_asm) (by first | exact rfl | assumption) (by ktr_room) (by ktr_units) ?_); intro r' n' h' tk' F' N' hp'; obtain ⟨o', v', t', e1', ht', e2', hv1', hv2'⟩ := hp'; subst e1'; subst e2'; (try simp only [List.cons_append, List.nil_append] at N'); (try dsimp only); (try k_fold))
  | ((with_reducible show wpAny _ _ (call (Value.ref 135) _) _ _ _); (refine' Spec.use' (by k_asm) (by k_asm) (by exact word_text_spec _ _ (Item.str _) _ (dat_str (.head _)) (by first | exact (ok_str6 (by assumption)).1 | exact ok_str8 (by assumption) (by assumption))) (by k_asm) (by k_asm) (by k_asm) (by first | exact rfl | assumption) (by ktr_room) (by ktr_units) ?_); intro r' n' h' tk' F' N' hp'; obtain ⟨e1', y', t', e2', hy', hyl'⟩ := hp'; rw [e1'] at N'; clear e1'; subst e2'; (try (have hw' := str_word hy' (by first | exact Or.inl (by assumption) | exact Or.inr (by rw [Str.length_append]; omega)); obtain ⟨hl1', hl2', hl3'⟩ := hw')); (try (have hw' := str_ends hy'; obtain ⟨he1', he2'⟩ := hw')); (try dsimp only); (try k_fold))))
  k_with "mine call" => (k_dflt (first
  | ((with_reducible show wpAny _ _ (call (Value.ref 135) _) _ _ _); (refine' Spec.use' (by k_asm) (by k_asm) (by exact word_text_spec _ _ (Item.key _) _ (dat_key (.head _)) (ok_key6 (by assumption)).1) (by k_asm) (by k_asm) (by k_asm) (by first | exact rfl | assumption) (by ktr_room) (by ktr_units) ?_); intro r' n' h' tk' F' N' hp'; obtain ⟨e1', y', t', e2', hy', hyl'⟩ := hp'; rw [e1'] at N'; clear e1'; subst e2'; (try dsimp only); (try k_fold))
  | ((with_reducible show wpAny _ _ (call (Value.ref 135) _) _ _ _); (refine' Spec.use' (by k_asm) (by k_asm) (by exact word_text_spec _ _ (Item.sym _) _ (dat_sym (.head _)) (ok_sym6 (by assumption)).1) (by k_asm) (by k_asm) (by k_asm) (by first | exact rfl | assumption) (by ktr_room) (by ktr_units) ?_); intro r' n' h' tk' F' N' hp'; obtain ⟨e1', y', t', e2', hy', hyl'⟩ := hp'; rw [e1'] at N'; clear e1'; subst e2'; (try dsimp only); (try k_fold))))
  k_with "compareOp Eq ref ref" => ((k_here; (with_reducible show wpAny _ _ (compareOp CmpOp.Eq (Value.ref _) (Value.ref _)) _ _ _); k_dflt (refine eq_strs_nil (News.isList (by k_asm) (by k_mem)) (by assumption) (News.isList (by k_asm) (by k_mem)) (six_ok (by assumption) _) (by ktr_units) ?_)))
  k_with "subscriptTail Name Constant ref int" => ((k_here; k_dflt (refine item_lst (News.isList (by k_asm) (by k_mem)) (by decide) (by decide) (by rfl) ?_)))
  k_with "subscriptTail Name Constant str int" => ((k_here; k_dflt (refine item_q (by assumption) (by omega) (by omega) (by omega) ?_)))
  k_with "subscriptTail Name UnaryOp str int" => ((k_here; k_dflt (refine item_q (by assumption) (by omega) (by omega) (by omega) ?_)))
  k_with "subscriptTail Name Slice str ref" => (((with_reducible show wpAny _ _ (subscriptTail _ (Expr.Slice none (some _) none _) _ _) _ _ _); (with_reducible rename Fr _ _ _ _ => F'); (with_reducible rename News _ _ _ _ => N'); (refine slice_strN_ns_len (hsz := ?hsz) (s := ⟨_, _, _, _, _⟩) F' N' ?_); (case hsz => (rw [sizeLine_eq]; omega)); intro _ _ _ _ _ _; (try k_sweep)))
  k_with "subscriptTail Name Slice str ref" => (((with_reducible show wpAny _ _ (subscriptTail _ (Expr.Slice (some _) none none _) _ _) _ _ _); (with_reducible rename Fr _ _ _ _ => F'); (with_reducible rename News _ _ _ _ => N'); (refine slice_strN_sn_len (hsz := ?hsz) (s := ⟨_, _, _, _, _⟩) F' N' ?_); (case hsz => (rw [sizeLine_eq]; omega)); intro _ _ _ _ _ _; (try k_sweep)))
  k_with "binaryOp Add str str" => ((refine PyProof.Rows.add_str (hsz := ?hsz) ?_; (case hsz => (rw [sizeLine_eq]; (try simp only [Str.length_append, len_bar, len_colon]); omega)); intro _ _))
  k_with "compareOp NotEq str str" => (first
  | (refine ne_str_same (by exact str_sum_eq (by with_reducible assumption) (by with_reducible assumption) (by with_reducible assumption)) ?_)
  | (refine ne_str_same (by exact key_eq (by with_reducible assumption)) ?_)
  | (refine ne_str_same (by exact sym_1 (by with_reducible assumption) (by with_reducible assumption) (by with_reducible assumption)) ?_)
  | (refine ne_str_same (by exact sym_2 (by with_reducible assumption) (by with_reducible assumption) (by with_reducible assumption) (by with_reducible assumption)) ?_)
  | (refine ne_str_same (by exact sym_3 (by with_reducible assumption) (by with_reducible assumption) (by with_reducible assumption) (by with_reducible assumption)) ?_))
  k_with "call builtin:list.extend" => ((k_here; (with_reducible show wpAny _ _ (call (Value.builtin _) [Value.ref _, Value.ref _]) _ _ _); k_dflt (refine' my_extend ?kF ?kN ?kb ?kU ?kd ?kz ?ky ?_; (case kF => k_asm); (case kN => k_asm); (case kb => exact .head _); (case kU => k_upd); (case kd => (rw [List.length_append]; omega)); (case kz => exact Nat.succ_pos _); (case ky => exact Nat.le_of_ble_eq_true rfl); intro h' F' N'; (try dsimp only))))
  k_with "mine junk" => (((repeat (with_reducible rename LCg.Off3 _ _ _ _ => qj; clear qj)); (repeat (with_reducible rename (_ ≠ _ ∧ _ ≠ _ ∧ _ ≠ _) => qj; clear qj)); (repeat (with_reducible rename (_ < _ ∧ _) => qj; clear qj)); (repeat (with_reducible rename LCg.NsObj _ _ => qj; clear qj)); (repeat (with_reducible rename InElt _ _ => qj; clear qj))))
  k_with "mine enterC" => ((refine' code_defC ?k1 ?k2 ?k3 ?k4 ?k5 ?kA ?kF ?kK ?k6 ?k7 ?k8 ?k9 ?kB ?kD ?_ ?c2 ?c3 ?c4; (case kA => exact rfl); (case kF => exact rfl); (case kK => assumption); (case k1 => k_asm); (case k2 => k_asm); (case k3 => k_asm); (case k4 => k_asm); (case k5 => k_asm); (case k6 => k_is); (case k7 => k_is); (case k8 => ktr_room); (case k9 => exact BindsTo.of_eq rfl); (case kB => exact rfl); (case kD => decide +kernel); (case c2 => exact rfl); (case c3 => exact rfl); (case c4 => exact rfl); k_whole; intro g' L' h' tk' cells' FG' F' N' Y' B' X' T' l1; (try k_lt l1); k_cells Y'; (try simp only [List.cons_append, List.nil_append] at N'); (try dsimp only); (try k_fold)))
  k_with "call builtin:str.join" => ((k_here; (with_reducible show wpAny _ _ (call (Value.builtin _) [Value.str _ _, Value.ref _]) _ _ _); k_dflt (refine join_listW (News.isList (by k_asm) (by k_mem)) (by assumption) (by decide +kernel) (by assumption) ?_); intro _ _))
  k_with "mine comp" => ((k_here; k_dflt (refine LCg.ListComp_U (F₀ := by k_asm) (by with_unfolding_all rfl) (by decide) (by rfl) (by decide) (by rfl) ?_)))
  k_with "call builtin:list.append" => ((k_here; (with_reducible show wpAny _ _ (call (Value.builtin _) [Value.ref _, _]) _ _ _); k_dflt (refine' append_K ?k1 ?k2 ?k3 ?_ ?z; (case k1 => k_asm); (case k2 => k_asm); (case k3 => k_upd); (case z => (rw [List.size_toArray, List.length_append]; unfold sizeLine; omega)); k_whole); intro h' F' N'))
  k_with "k_all" => (assumption)
  k_with "mine fold" => ((first | (with_reducible show wpAny _ _ (exec _ _) _ _ _) | (with_reducible show wpAny _ _ (eval (Expr.Call _ _ _ _) _) _ _ _)); ((try k_fold); (with_reducible rename Fr _ _ _ _ => lF); (with_reducible rename News _ _ _ _ => lN); (with_reducible refine fold3 lF lN ?_); clear lF lN; intro s9 m9 l9 F9 N9))
  trivial
set_option maxRecDepth 100000 in
set_option maxHeartbeats 4000000 in
theorem texts_right_spec (w : World) (d c wl : Addr) (o : Obj) (at0 : Int) (vs ws : List Value) (nn : Nat) (ns : List Int) (news : List (Addr × Obj))
   (hd : IsTank w o c at0) (hoff : ∀ p ∈ (c, LCg.lst vs) :: (wl, W.listOf ws.toArray nn) :: news, p.1 ≠ d) (hoff2 : ∀ p ∈ (d, o) :: (c, LCg.lst vs) :: news, p.1 ≠ wl) (hns : IntsAre vs ns) (hlen : ns.length ≤ 60) (hat : 0 ≤ at0) (hat2 : at0 < 100) (hws : ws.length ≤ 30) :
    Spec w 187 20 [.ref d, .ref wl] ((d, o) :: (c, LCg.lst vs) :: (wl, W.listOf ws.toArray nn) :: news) (fun news' r => Out w d c wl o vs ws nn at0 20 9 news news' r) := by
  have hdw : d ≠ wl := hoff2 _ (.head _)
  have hcw : c ≠ wl := hoff2 _ (.tail _ (.head _))
  have hnw : ∀ p ∈ news, p.1 ≠ wl := fun p hp => hoff2 p (.tail _ (.tail _ hp))
  unfold Spec
  k_fill
  intro loose mean mg mb dp un gd cn cs a ccd cl outer A₀ base h₀ L m s Q E B F X N T hk hdp hun hret
  refine wpAny_call ?_
  k_dflt (walk_at "mine enterC")
  (try k_gentoks)
  refine fold_env ?_
  intro A9 v9
  have uA9 : A9.units = un + 3 := by rfl
  have dA9 : A9.depth = dp + 1 := by rfl
  rename Obj.data _ = _ => dC
  have dC2 : Obj.data _ = .cell (some (.ref d)) := dC
  clear dC
  rename News _ _ _ _ => lN
  rename (d < _ ∧ _) => ly9
  have lN2 := rot_off lN hoff (Nat.lt_succ_of_lt ly9.1)
  obtain ⟨lN3, hof9⟩ := lN2
  clear lN
  walk_at "mine steps"
  refine LCg.CompSrc.range (n := 2) rfl (by k_asm) (by k_asm) (by assumption) (by decide +kernel) (by decide +kernel) (by size_fits) ?_
  intro gg
  refine comp_ind (TInv w d c at0 _) (tinv_start hd) ?_ ?_
  · intro i ys nw hi hI v I oI C oC D m₂ h tk E' hv hC hx F9 N9 off9 ne9
    obtain ⟨o1, at1, xs, rfl, hT1, ha1, ha2, hS1, hl1, hx1⟩ := hI
    obtain ⟨t9, rfl⟩ := hv
    walk_at "mine steps"
    refine LCg.CompSrc.range rfl (by k_asm) (by k_asm) (by assumption) (small_one (by omega) (by omega) (by omega) (by omega)) (rangeSize_nat _ _) (by unfold sizeLine; omega) ?_
    intro g2
    refine comp_ind (UInv w d c _ _ _) (uinv_start (by assumption) (by repeat (first | exact split_nil | apply split_cons))) ?_ ?_
    · intro i2 ys2 nw2 hi2 hI2 v2 I2 oI2 C2 oC2 D2 m₃ h2 tk2 E2' hv2 hC2 hx2 F8 N8 off8 ne8
      obtain ⟨o2, xs2, rfl, hT2, hS2, hl2, hx2'⟩ := hI2
      obtain ⟨t8, rfl⟩ := hv2
      simp only [List.cons_append, List.nil_append] at off8 N8 ⊢
      walk_at "mine steps"
      refine LCg.CompEnd.intro (by k_asm) (by k_asm) _ (fun p hp => hp) (by assumption) trivial ?_
      exact uinv_step (by assumption) rfl rfl hS2 hl2 hx2' (six_item (by assumption) (by assumption))
    · intro ys2 nw2 hI2
      obtain ⟨o2, xs2, rfl, hT2, hS2, hl2, hx2'⟩ := hI2
      have hj := join_six hx2' (by omega)
      have hw2 := weight_six hx2' (by omega)
      walk_at "FinE"
      simp only [List.cons_append, List.nil_append] at *
      walk_at "mine steps"
      refine LCg.CompEnd.intro (by k_asm) (by k_asm) _ (fun p hp => .tail _ hp) (by assumption) trivial ?_
      exact tinv_step hT2 ha1 ha2 (by omega) (by omega) hS1 hl1 hx1 hj
  · intro ys nw hI
    obtain ⟨o3, at3, xs, rfl, hT3, ha3, ha4, hS3, hl3, hx3⟩ := hI
    walk_at "FinA"
    obtain ⟨T1, T2, u1, u2, rfl, rfl⟩ := two_strs hS3 hl3
    clear hS3
    have hT61 := hx3 T1 (.head _)
    have hT71 := hT61.2
    have hT72 := (hx3 T2 (.tail _ (.head _))).2
    have hT62 := hx3 T2 (.tail _ (.head _))
    walk_at "mine steps"
    walk_at "mine comp"
    walk_at "mine steps"
    refine LCg.CompSrc.ledger rfl (by k_asm) (by k_asm) (by k_mem) (by first | size_fits | exact Nat.le_of_ble_eq_true rfl) ?_
    intro g3
    refine LCg.CompRest.succ ?_
    intro v I oI C oC D m₂ h tk E' hv hC hx F9 N9 off9 ne9
    have hv2 : Value.str T1 u1 = v := Option.some.inj hv
    subst hv2
    walk_at "mine steps"
    refine LCg.CompEnd.intro (by k_asm) (by k_asm) _ (fun p hp => .tail _ hp) off9 (.inr ⟨_, List.Mem.head _, rfl, _, rfl⟩) ?_
    clear hx hC
    refine LCg.CompRest.succ ?_
    intro v I2 oI2 C2 oC2 D2 m₃ h2 tk2 E2' hv2 hC2 hx2 F8 N8 off8 ne8
    have hv3 : Value.str T2 u2 = v := Option.some.inj hv2
    subst hv3
    walk_at "mine steps"
    refine LCg.CompEnd.intro (by k_asm) (by k_asm) _ (fun p hp => .tail _ hp) off8 (.inr ⟨_, List.Mem.head _, rfl, _, rfl⟩) ?_
    refine LCg.CompRest.zero ?_
    clear hx2 hC2
    walk_at "FinE"
    walk_at "mine steps"
    have l9k : True ∧ _ := ⟨trivial, ly9⟩
    walk_at "mine junk"
    have ly9 := l9k.2
    rename News _ _ _ _ => lN
    have lN2 := drop_to (old := (_, LCg.lst [Value.str T1 u1, Value.str T2 u2]) :: (d, _) :: (c, LCg.lst vs) :: _ :: (wl, W.listOf ws.toArray nn) :: news) lN (by repeat (first | exact split_nil | apply split_cons))
    clear lN
    rename Fr _ _ _ _ => lF
    refine iter_listUnr rfl lF lN2 (.head _) rfl rfl ?_
    intro I lI
    refine list_ind (VInv w d c wl _ I _ o o3 vs ws nn _ news _) (vinv_start lI) (fun i m nw h => vinv_mem h) ?_ ?_
    · intro i v m nw hv hI it h tk hit F9 N9
      obtain ⟨w1, w2, ws1, nn1, its, new, rfl, rfl, hAb, hDat, hOk, hLen, hIoff⟩ := hI
      obtain ⟨T, tT, rfl, hT6, hi2⟩ := txt_at hv hT61 hT62
      have hT8 := hT6.2
      have hws1 : ws1.length = 4 * i := by rw [hDat.length, List.length_map, hLen]
      have hnw2 : ∀ p ∈ new ++ news, p.1 ≠ wl := out_ne hAb hnw
      have lw := lt_nat (lI _ (.tail _ (.tail _ (.tail _ (.tail _ (.head _))))))
      dsimp only at lw
      clear hT61 hT62 hT71 hT72 hv lF lN2
      walk_at "mine steps"
      iterate 3 walk1
      walk_at "mine steps"
      rename NewPlain _ _ _ _ => npX
      obtain ⟨nX, NX⟩ := made_enters npX (by assumption) (by assumption) (by assumption)
      clear npX
      iterate 4 walk1
      rename News _ _ _ _ => lN
      have lN2 := cb_drop lN (fun p hp => .tail _ (.tail _ hp))
      clear lN
      rename Heap.IsList _ _ _ => qj
      clear qj
      (repeat (rename CarriedAll _ _ => qj; clear qj))
      walk_at "mine steps"
      all_goals (
        rename Fr _ _ _ _ => eF
        rename News _ _ _ _ => eN
        (try dsimp (config := {zetaDelta := true}) only at eN)
        (try dsimp (config := {zetaDelta := true}) only at eF)
        exact vinv_end (its2 := [.str T, .sym T, .key T, .sym (Str.ofString ":" ++ T)]) eF eN (by repeat (first | exact split_nil | apply split_cons)) rfl (by repeat (first | exact above_nil | refine above_cons (above4 (by assumption) (by omega)) ?_)) (by exact .cons (dat_str (by k_mem)) (.cons (dat_sym (by k_mem)) (.cons (dat_key (by k_mem)) (.cons (dat_sym (by k_mem)) .nil)))) (text_items hT6) rfl hAb hDat hOk hLen hIoff)
    · intro m1 nw hI h tk F9 N9
      obtain ⟨w1, w2, ws1, nn1, its, new, rfl, rfl, hAb, hDat, hOk, hLen, hIo⟩ := hI
      have hws1 : ws1.length = 8 := by rw [hDat.length, List.length_map, hLen]; rfl
      have hnw2 : ∀ p ∈ new ++ news, p.1 ≠ wl := out_ne hAb hnw
      have hpo := post_off (ob2 := W.listOf (ws ++ ws1).toArray nn1) hof9 hAb
      have N10 := cb_drop N9 (fun p hp => .tail _ hp)
      clear lF lN2 N9 lI hIo
      walk_at "mine steps"
      rename News _ _ _ _ => kN9
      exact hret _ _ _ _ (by k_asm) (texts_news kN9) (texts_out (by assumption) (by omega) (by omega) hAb (by assumption) hDat hOk hLen (signs_text (by assumption) (by assumption)))
end
end Mine
/- part ZA11 -/
namespace Mine
open PySem.Builtin.Str
/-! no two unlike words have one text -/
def isDig (c : Nat) : Bool := decide (48 ≤ c) && decide (c ≤ 57)
/-- the first sign of a name's text -/
def symHead (c : Nat) : Bool := !(isDig c) && c != 40 && c != 35 && c != 34 && c != 58
theorem dig_head {l : List Nat} {v : Nat} (h : Canon l v) : ∃ c r, l = c :: r ∧ isDig c = true ∧ 46 ∉ l := by
  obtain ⟨h1, h2, _, _⟩ := h
  obtain ⟨c, r, e⟩ := List.exists_cons_of_ne_nil h2
  refine ⟨c, r, e, ?_, fun hm => ?_⟩
  · have := h1 c (by rw [e]; exact .head _)
    simp [isDig]; omega
  · have := h1 46 hm; omega
theorem neg_list {v : Int} {y : Str} (h : WordIs (.num v) y) (hv : v < 0) : y.cps.toList = 40 :: 45 :: 32 :: (Dig (-v).toNat ++ [41]) := by
  have h' : y = numText v := h
  rw [h', numText, if_pos hv]
  obtain ⟨m, e⟩ := Int.eq_ofNat_of_zero_le (show 0 ≤ -v by omega)
  rw [e, Int.toNat_natCast]
  have q1 : (Str.ofString "(- ").cps.toList = [40, 45, 32] := by decide +kernel
  have q2 : (Str.ofString ")").cps.toList = [41] := by decide +kernel
  rw [Str.cps_append, Str.cps_append, Array.toList_append, Array.toList_append, q1, q2, dig_of]
  simp
theorem res_heads : RES.all (fun y => match y.cps.toList with | c :: _ => symHead c | [] => false) = true := by decide +kernel
theorem simple_head {c : Nat} (h1 : hasSub digitS ⟨#[c]⟩ = false) (h2 : hasSub simpleS ⟨#[c]⟩ = true) : symHead c = true := by
  by_cases hd : 48 ≤ c ∧ c ≤ 57
  · exfalso
    have key : ∀ c : Nat, c < 58 → 48 ≤ c → hasSub digitS ⟨#[c]⟩ = true := by decide +kernel
    rw [key c (Nat.lt_succ_of_le hd.2) hd.1] at h1
    cases h1
  · have n1 : c ≠ 40 := fun e => by subst e; exact absurd h2 (by decide +kernel)
    have n2 : c ≠ 35 := fun e => by subst e; exact absurd h2 (by decide +kernel)
    have n3 : c ≠ 34 := fun e => by subst e; exact absurd h2 (by decide +kernel)
    have n4 : c ≠ 58 := fun e => by subst e; exact absurd h2 (by decide +kernel)
    have n5 : isDig c = false := by
      unfold isDig
      rcases Nat.lt_or_ge c 48 with q | q
      · simp; omega
      · simp; omega
    simp [symHead, n1, n2, n3, n4, n5]
theorem bar_list (x : Str) : (Str.ofString "|" ++ x ++ Str.ofString "|").cps.toList = 124 :: (x.cps.toList ++ [124]) := by
  have q : (Str.ofString "|").cps.toList = [124] := by decide +kernel
  rw [Str.cps_append, Str.cps_append, Array.toList_append, Array.toList_append, q]
  simp
theorem sym_head {x y : Str} (h : WordIs (.sym x) y) : ∃ c r, y.cps.toList = c :: r ∧ symHead c = true := by
  have h' : y = symText x := h
  rw [h']
  unfold symText
  split
  · rename_i hc
    rw [Bool.or_eq_true] at hc
    rcases hc with hc | hc
    · obtain ⟨z, hz, he⟩ := List.any_eq_true.mp hc
      have e := beq_iff_eq.mp he
      subst e
      have h1 := List.all_eq_true.mp res_heads z hz
      cases hl : z.cps.toList with
      | nil => rw [hl] at h1; cases h1
      | cons c r => rw [hl] at h1; exact ⟨c, r, rfl, h1⟩
    · unfold isSimple at hc
      simp only [Bool.and_eq_true, Bool.not_eq_true'] at hc
      obtain ⟨⟨⟨h1, h2⟩, h3⟩, h4⟩ := hc
      have hne : x.cps.toList ≠ [] := fun q => by
        have e : x = Str.ofString "" := str_ext (q.trans (show [] = (Str.ofString "").cps.toList by decide +kernel))
        rw [e] at h1
        exact absurd h1 (by decide +kernel)
      obtain ⟨c, r, e⟩ := List.exists_cons_of_ne_nil hne
      rw [item_first e] at h3
      have h5 : hasSub simpleS ⟨#[c]⟩ = true := by
        have hm : ((c : Nat) : Int) ∈ KStt.codes x := by
          show _ ∈ x.cps.toList.map (fun n : Nat => (n : Int))
          rw [e]; exact .head _
        have := List.all_eq_true.mp h4 _ hm
        simpa using this
      exact ⟨c, r, e, simple_head h3 h5⟩
  · exact ⟨124, _, bar_list x, by decide⟩
theorem ratio_inj {t b t' b' : Nat} (h : Nat.gcd t b = 1) (h' : Nat.gcd t' b' = 1) (e : t * b' = t' * b) (hb : 0 < b) (hb' : 0 < b') : t = t' ∧ b = b' := by
  have d1 : b ∣ b' := by
    have : b ∣ t * b' := ⟨t', by rw [e, Nat.mul_comm]⟩
    exact (Nat.Coprime.dvd_of_dvd_mul_left (by rw [Nat.coprime_comm]; exact h) this)
  have d2 : b' ∣ b := by
    have : b' ∣ t' * b := ⟨t, by rw [← e, Nat.mul_comm]⟩
    exact (Nat.Coprime.dvd_of_dvd_mul_left (by rw [Nat.coprime_comm]; exact h') this)
  have eb := Nat.dvd_antisymm d1 d2
  subst eb
  exact ⟨Nat.eq_of_mul_eq_mul_right hb e, rfl⟩
open StrLaws in
theorem dbl_inj (c : Nat) : ∀ {l r : List Nat}, dbl c l = dbl c r → l = r
  | [], [], _ => rfl
  | [], k :: r, h => by simp only [dbl] at h; split at h <;> cases h
  | k :: l, [], h => by simp only [dbl] at h; split at h <;> cases h
  | k :: l, j :: r, h => by
    simp only [dbl] at h
    split at h <;> split at h
    · injection h with h1 h2
      injection h2 with _ h3
      rw [h1, dbl_inj c h3]
    · rename_i q1 q2
      injection h with h1 _
      exact absurd (h1 ▸ q1) q2
    · rename_i q1 q2
      injection h with h1 _
      exact absurd (h1 ▸ q2) q1
    · injection h with h1 h2
      rw [h1, dbl_inj c h2]
/-- what the first signs of an item's text say -/
def Head : Item → Str → Prop
  | .num _, y => (∃ c r, y.cps.toList = c :: r ∧ isDig c = true ∧ 46 ∉ y.cps.toList) ∨ (∃ r, y.cps.toList = 40 :: r)
  | .dec _ _, y => ∃ c r, y.cps.toList = c :: r ∧ isDig c = true ∧ 46 ∈ y.cps.toList
  | .bits _ _, y => ∃ r, y.cps.toList = 35 :: r
  | .str _, y => ∃ r, y.cps.toList = 34 :: r
  | .sym _, y => ∃ c r, y.cps.toList = c :: r ∧ symHead c = true
  | .key _, y => ∃ r, y.cps.toList = 58 :: r
theorem head_of {it : Item} {y : Str} (h : WordIs it y) (hf : Fine it) : Head it y := by
  cases it with
  | num v =>
    by_cases hv : v < 0
    · exact .inr ⟨_, neg_list h hv⟩
    · obtain ⟨c, r, e, h1, h2⟩ := dig_head (num_is h (by omega)).2
      exact .inl ⟨c, r, e, h1, h2⟩
  | dec t b =>
    obtain ⟨A, B, p, Q, e1, e2, _, _, _⟩ := dec_cdec (dec_is h hf.1) hf.1 hf.2
    obtain ⟨c, r, e, h1, _⟩ := dig_head e2.canon.1
    refine ⟨c, r ++ 46 :: B.cps.toList, ?_, h1, ?_⟩
    · rw [e1, cat_dot, e]; rfl
    · rw [e1, cat_dot]; simp
  | bits v n => exact ⟨_, (bits_facts h hf.1).2⟩
  | str x => exact ⟨_, by have h' : y = strText x := h; rw [h', strText_list]⟩
  | sym x => exact sym_head h
  | key x =>
    have h' : y = Str.ofString ":" ++ x := h
    exact ⟨x.cps.toList, by rw [h', Str.cps_append, Array.toList_append, show (Str.ofString ":").cps.toList = [58] by decide +kernel]; rfl⟩
theorem dig_no {c : Nat} (h : isDig c = true) : 48 ≤ c ∧ c ≤ 57 := by
  simpa [isDig] using h
theorem symHead_no {c : Nat} (h : symHead c = true) : ¬ (48 ≤ c ∧ c ≤ 57) ∧ c ≠ 40 ∧ c ≠ 35 ∧ c ≠ 34 ∧ c ≠ 58 := by
  simp only [symHead, isDig, Bool.and_eq_true, bne_iff_ne, ne_eq, Bool.not_eq_true', Bool.and_eq_false_iff, decide_eq_false_iff_not] at h
  omega

theorem num_inj {v v' : Int} {y : Str} (h : WordIs (.num v) y) (h' : WordIs (.num v') y) : v = v' := by
  by_cases hv : v < 0 <;> by_cases hv' : v' < 0
  · have e1 := neg_list h hv
    rw [neg_list h' hv'] at e1
    injection e1 with _ e1
    injection e1 with _ e1
    injection e1 with _ e1
    have e2 := List.append_cancel_right e1
    have v1 := (dig_canon (-v).toNat).2.2.1
    rw [← e2, (dig_canon (-v').toNat).2.2.1] at v1
    omega
  · obtain ⟨c, r, e, hd, _⟩ := dig_head (num_is h' (by omega)).2
    rw [neg_list h hv] at e
    injection e with e _
    have := dig_no hd
    omega
  · obtain ⟨c, r, e, hd, _⟩ := dig_head (num_is h (by omega)).2
    rw [neg_list h' hv'] at e
    injection e with e _
    have := dig_no hd
    omega
  · have v1 := (num_is h (by omega)).2.2.2.1
    rw [(num_is h' (by omega)).2.2.2.1] at v1
    omega
theorem dec_inj {t b t' b' : Int} {y : Str} (h : WordIs (.dec t b) y) (h' : WordIs (.dec t' b') y) (f : Fine (.dec t b)) (f' : Fine (.dec t' b')) : t = t' ∧ b = b' := by
  obtain ⟨A, B, p, Q, e1, e2, e3, _, hb⟩ := dec_cdec (dec_is h f.1) f.1 f.2
  obtain ⟨A', B', p', Q', e1', e2', e3', _, hb'⟩ := dec_cdec (dec_is h' f'.1) f'.1 f'.2
  have e : (A ++ Str.ofString "." ++ B).cps.toList = (A' ++ Str.ofString "." ++ B').cps.toList := by rw [← e1, ← e1']
  rw [cat_dot, cat_dot] at e
  obtain ⟨q1, q2⟩ := dot_split (allB_dot e2.1) (allB_dot e2'.1) e
  have ep : p = p' := by rw [← e2.2.2.1, ← e2'.2.2.1, q2]
  have eQ : Q = Q' := by rw [← e2.2.2.2.2.2.1, ← e2'.2.2.2.2.2.1, q1, q2]
  subst ep eQ
  have h10 : 0 < (10 : Nat) ^ p := Nat.pow_pos (show 0 < 10 by decide)
  have key : t.toNat * b'.toNat = t'.toNat * b.toNat := by
    refine Nat.eq_of_mul_eq_mul_right h10 ?_
    calc t.toNat * b'.toNat * 10 ^ p = (t.toNat * 10 ^ p) * b'.toNat := by ac_rfl
      _ = Q * b.toNat * b'.toNat := by rw [e3]
      _ = Q * b'.toNat * b.toNat := by ac_rfl
      _ = t'.toNat * 10 ^ p * b.toNat := by rw [e3']
      _ = t'.toNat * b.toNat * 10 ^ p := by ac_rfl
  have g1 : Nat.gcd t.toNat b.toNat = 1 := by
    have := f.2
    obtain ⟨n, rfl⟩ := Int.eq_ofNat_of_zero_le f.1
    obtain ⟨k, rfl⟩ := Int.eq_ofNat_of_zero_le (Int.le_of_lt hb)
    exact this
  have g2 : Nat.gcd t'.toNat b'.toNat = 1 := by
    have := f'.2
    obtain ⟨n, rfl⟩ := Int.eq_ofNat_of_zero_le f'.1
    obtain ⟨k, rfl⟩ := Int.eq_ofNat_of_zero_le (Int.le_of_lt hb')
    exact this
  obtain ⟨r1, r2⟩ := ratio_inj g1 g2 key (by omega) (by omega)
  have := f.1
  have := f'.1
  omega
theorem bits_inj {v v' : Int} {n n' : Nat} {y : Str} (h : WordIs (.bits v n) y) (h' : WordIs (.bits v' n') y) (f : Fine (.bits v n)) (f' : Fine (.bits v' n')) : v = v' ∧ n = n' := by
  have e := (bits_facts h f.1).2
  have el := (bits_facts h f.1).1
  have el' := (bits_facts h' f'.1).1
  rw [(bits_facts h' f'.1).2] at e
  injection e with _ e
  injection e with _ e
  have en : n = n' := by omega
  subst en
  have v1 := bitsL_val v.toNat n
  rw [← e, bitsL_val] at v1
  have hp : ((2 ^ n : Nat) : Int) = (2 : Int) ^ n := by simp
  have a1 := f.2.1
  have a2 := f'.2.1
  have a3 := f.1
  have a4 := f'.1
  rw [Nat.mod_eq_of_lt (by omega), Nat.mod_eq_of_lt (by omega)] at v1
  exact ⟨by omega, rfl⟩
theorem sym_inj {x x' y : Str} (h : WordIs (.sym x) y) (h' : WordIs (.sym x') y) (f : Fine (.sym x)) (f' : Fine (.sym x')) : x = x' := by
  have nb : ∀ z : Str, Signs z → 124 ∉ z.cps.toList := fun z hz hm => by
    have := List.all_eq_true.mp hz 124 hm
    exact absurd this (by decide)
  have e1 : y = symText x := h
  have e2 : y = symText x' := h'
  have e := e1.symm.trans e2
  unfold symText at e
  split at e <;> split at e
  · exact e
  · exact absurd (by rw [e, bar_list]; exact .head _) (nb x f.1)
  · exact absurd (by rw [← e, bar_list]; exact .head _) (nb x' f'.1)
  · have q : (Str.ofString "|" ++ x ++ Str.ofString "|").cps.toList = (Str.ofString "|" ++ x' ++ Str.ofString "|").cps.toList := by rw [e]
    rw [bar_list, bar_list] at q
    injection q with _ q
    exact str_ext (List.append_cancel_right q)
theorem word_inj {it it' : Item} {y : Str} (h : WordIs it y) (h' : WordIs it' y) (f : Fine it) (f' : Fine it') : it = it' := by
  have H := head_of h f
  have H' := head_of h' f'
  cases it with
  | num v =>
    cases it' with
    | num v' => rw [num_inj h h']
    | dec t b =>
      obtain ⟨c', r', e', hd', hm⟩ := H'
      rcases H with ⟨c, r, e, hd, hn⟩ | ⟨r, e⟩
      · exact absurd hm hn
      · rw [e] at e'; injection e' with e' _; have := dig_no hd'; omega
    | bits a n =>
      obtain ⟨r', e'⟩ := H'
      rcases H with ⟨c, r, e, hd, _⟩ | ⟨r, e⟩ <;> (rw [e] at e'; injection e' with e' _)
      · have := dig_no hd; omega
      · omega
    | str x =>
      obtain ⟨r', e'⟩ := H'
      rcases H with ⟨c, r, e, hd, _⟩ | ⟨r, e⟩ <;> (rw [e] at e'; injection e' with e' _)
      · have := dig_no hd; omega
      · omega
    | sym x =>
      obtain ⟨c', r', e', hs⟩ := H'
      have := symHead_no hs
      rcases H with ⟨c, r, e, hd, _⟩ | ⟨r, e⟩ <;> (rw [e] at e'; injection e' with e' _)
      · have := dig_no hd; omega
      · omega
    | key x =>
      obtain ⟨r', e'⟩ := H'
      rcases H with ⟨c, r, e, hd, _⟩ | ⟨r, e⟩ <;> (rw [e] at e'; injection e' with e' _)
      · have := dig_no hd; omega
      · omega
  | dec t b =>
    obtain ⟨c, r, e, hd, hm⟩ := H
    have hd' := dig_no hd
    cases it' with
    | num v =>
      rcases H' with ⟨c', r', e', _, hn⟩ | ⟨r', e'⟩
      · exact absurd hm hn
      · rw [e] at e'; injection e' with e' _; omega
    | dec t' b' => obtain ⟨e1, e2⟩ := dec_inj h h' f f'; rw [e1, e2]
    | bits a n => obtain ⟨r', e'⟩ := H'; rw [e] at e'; injection e' with e' _; omega
    | str x => obtain ⟨r', e'⟩ := H'; rw [e] at e'; injection e' with e' _; omega
    | sym x => obtain ⟨c', r', e', hs⟩ := H'; have := symHead_no hs; rw [e] at e'; injection e' with e' _; omega
    | key x => obtain ⟨r', e'⟩ := H'; rw [e] at e'; injection e' with e' _; omega
  | bits a n =>
    obtain ⟨r, e⟩ := H
    cases it' with
    | num v => rcases H' with ⟨c', r', e', hd, _⟩ | ⟨r', e'⟩ <;> (rw [e] at e'; injection e' with e' _) <;> first | omega | (have := dig_no hd; omega)
    | dec t' b' => obtain ⟨c', r', e', hd, _⟩ := H'; have := dig_no hd; rw [e] at e'; injection e' with e' _; omega
    | bits a' n' => obtain ⟨e1, e2⟩ := bits_inj h h' f f'; rw [e1, e2]
    | str x => obtain ⟨r', e'⟩ := H'; rw [e] at e'; injection e' with e' _; omega
    | sym x => obtain ⟨c', r', e', hs⟩ := H'; have := symHead_no hs; rw [e] at e'; injection e' with e' _; omega
    | key x => obtain ⟨r', e'⟩ := H'; rw [e] at e'; injection e' with e' _; omega
  | str x =>
    obtain ⟨r, e⟩ := H
    cases it' with
    | num v => rcases H' with ⟨c', r', e', hd, _⟩ | ⟨r', e'⟩ <;> (rw [e] at e'; injection e' with e' _) <;> first | omega | (have := dig_no hd; omega)
    | dec t' b' => obtain ⟨c', r', e', hd, _⟩ := H'; have := dig_no hd; rw [e] at e'; injection e' with e' _; omega
    | bits a' n' => obtain ⟨r', e'⟩ := H'; rw [e] at e'; injection e' with e' _; omega
    | str x' =>
      have e1 : y = strText x := h
      have e2 : y = strText x' := h'
      have q : (strText x).cps.toList = (strText x').cps.toList := by rw [← e1, ← e2]
      rw [strText_list, strText_list] at q
      injection q with _ q
      rw [str_ext (dbl_inj 34 (List.append_cancel_right q))]
    | sym x' => obtain ⟨c', r', e', hs⟩ := H'; have := symHead_no hs; rw [e] at e'; injection e' with e' _; omega
    | key x' => obtain ⟨r', e'⟩ := H'; rw [e] at e'; injection e' with e' _; omega
  | sym x =>
    obtain ⟨c, r, e, hs⟩ := H
    have hs' := symHead_no hs
    cases it' with
    | num v => rcases H' with ⟨c', r', e', hd, _⟩ | ⟨r', e'⟩ <;> (rw [e] at e'; injection e' with e' _) <;> first | omega | (have := dig_no hd; omega)
    | dec t' b' => obtain ⟨c', r', e', hd, _⟩ := H'; have := dig_no hd; rw [e] at e'; injection e' with e' _; omega
    | bits a' n' => obtain ⟨r', e'⟩ := H'; rw [e] at e'; injection e' with e' _; omega
    | str x' => obtain ⟨r', e'⟩ := H'; rw [e] at e'; injection e' with e' _; omega
    | sym x' => rw [sym_inj h h' f f']
    | key x' => obtain ⟨r', e'⟩ := H'; rw [e] at e'; injection e' with e' _; omega
  | key x =>
    obtain ⟨r, e⟩ := H
    cases it' with
    | num v => rcases H' with ⟨c', r', e', hd, _⟩ | ⟨r', e'⟩ <;> (rw [e] at e'; injection e' with e' _) <;> first | omega | (have := dig_no hd; omega)
    | dec t' b' => obtain ⟨c', r', e', hd, _⟩ := H'; have := dig_no hd; rw [e] at e'; injection e' with e' _; omega
    | bits a' n' => obtain ⟨r', e'⟩ := H'; rw [e] at e'; injection e' with e' _; omega
    | str x' => obtain ⟨r', e'⟩ := H'; rw [e] at e'; injection e' with e' _; omega
    | sym x' => obtain ⟨c', r', e', hs⟩ := H'; have := symHead_no hs; rw [e] at e'; injection e' with e' _; omega
    | key x' =>
      have e1 : y = Str.ofString ":" ++ x := h
      have e2 : y = Str.ofString ":" ++ x' := h'
      have q : (Str.ofString ":" ++ x).cps.toList = (Str.ofString ":" ++ x').cps.toList := by rw [← e1, ← e2]
      rw [Str.cps_append, Str.cps_append, Array.toList_append, Array.toList_append] at q
      rw [str_ext (List.append_cancel_left q)]
end Mine
/- part ZC1 -/
namespace Mine
set_option maxRecDepth 100000
theorem strs_at : ∀ {vs : List Value} {xs : List Str}, StrsAre vs xs → ∀ {i : Nat} {v : Value}, vs[i]? = some v → ∃ x t, xs[i]? = some x ∧ v = .str x t
  | _, _, .nil, i, v, h => by simp at h
  | _, _, .cons x t r, 0, v, h => ⟨x, t, rfl, (Option.some.inj h).symm⟩
  | _, _, .cons x t r, i + 1, v, h => by
    simp only [List.getElem?_cons_succ] at h ⊢
    exact strs_at r h
open PySem.Builtin in
/-- what is put one by one into a new set, no two alike -/
theorem set_loop {prog : Program} {w : World} {A : Around} {R : Result → Shared → Prop} {I S : Addr} {fp wr : List Addr} {P : Nat → Value → Prop} {St : Nat → Heap → Prop} (xs : List Str) (W : Walks prog w A.in1 I fp wr xs.length P St) (hSf : S ∉ fp)
    (hP : ∀ i v, P i v → ∃ x t, xs[i]? = some x ∧ v = .str x t) (hnd : xs.Nodup) (hb : xs.length + 1 < scanBound) :
    ∀ (k i : Nat) (s : Shared), i + k = xs.length → St i s.heap → s.heap.SetOf (strKind prog w) S (fun y => decide (y ∈ xs.take i)) i →
      (∀ h' tk, (∀ b o, b ∉ S :: wr → s.heap.get? b = some o → h'.get? b = some o) → h'.SetOf (strKind prog w) S (fun y => decide (y ∈ xs)) xs.length → R (.ok (.ret .none)) { s with heap := h', toks := tk }) →
      codeAny (model prog w) A (.builtin "set.update.loop" ⟨[.ref S, .ref I], []⟩) R s := by
  have hSw : S ∉ wr := fun h => hSf (W.sub _ h)
  intro k
  induction k with
  | zero =>
    intro i s hi hst hS hR
    obtain rfl : i = xs.length := by omega
    refine codeAny_builtin F.entry_set_update_loop ?_
    rw [Around.under_plainId F.plain_set_update_loop _]
    show wpAny _ A.in1 (pyNext (.ref I) >>= _) _ _ s
    refine wpAny_bind (W.done s _ _ hst fun h' tk hk => ?_)
    show wpAny _ A.in1 (ret Value.none) _ _ _
    refine wpAny_pure (hR h' tk (fun b o hn => hk b o fun hm => hn (.tail _ hm)) ?_)
    obtain ⟨o, es, ep, t, ho, rest⟩ := hS
    rw [List.take_length] at rest
    exact ⟨o, es, ep, t, hk S _ hSw ho, rest⟩
  | succ k ih =>
    intro i s hi hst hS hR
    refine codeAny_builtin F.entry_set_update_loop ?_
    rw [Around.under_plainId F.plain_set_update_loop _]
    show wpAny _ A.in1 (pyNext (.ref I) >>= _) _ _ s
    refine wpAny_bind (W.item i s _ _ (by omega) hst fun v h₁ tk₁ hv hst₁ hk₁ => ?_)
    obtain ⟨x, t, hx, rfl⟩ := hP i v hv
    have hS₁ : h₁.SetOf (strKind prog w) S (fun y => decide (y ∈ xs.take i)) i := by
      obtain ⟨o, es, ep, tb, ho, rest⟩ := hS
      exact ⟨o, es, ep, tb, hk₁ S _ hSw ho, rest⟩
    have hnew : decide (x ∈ xs.take i) = false := by
      refine decide_eq_false fun hm => ?_
      obtain ⟨j, hj, e⟩ := List.mem_iff_getElem.mp hm
      rw [List.length_take] at hj
      rw [List.getElem_take] at e
      have hxi : xs[i]'(by omega) = x := by
        have := List.getElem?_eq_getElem (l := xs) (i := i) (by omega)
        rw [hx] at this
        exact (Option.some.inj this).symm
      exact (List.pairwise_iff_getElem.mp hnd j i (by omega) (by omega) (by omega)) (e.trans hxi.symm)
    show wpAny _ A.in1 (holding [Value.str x t] (setAdd S (.str x t)) >>= _) _ _ _
    refine wpAny_bind (wpAny_holding ?_)
    unfold setAdd
    refine wpAny_holding ?_
    refine wpAny_bind ((strKind prog w).pyHash (k := x) (strKind_is _ _ _ _) ?_)
    refine wpAny_setAddHashed_of (knd := strKind prog w) (strKind_is _ _ _ _) rfl hS₁ (by omega) fun h₂ hsb hS₂ => ?_
    rw [hnew] at hS₂
    have hS₃ : h₂.SetOf (strKind prog w) S (fun y => decide (y ∈ xs.take (i + 1))) (i + 1) := by
      refine SetOf_congr hS₂ (fun y => ?_) (by simp)
      rw [List.take_add_one, hx]
      simp only [Option.toList_some, List.mem_append, List.mem_singleton]
      by_cases h1 : y ∈ xs.take i <;> by_cases h2 : y = x <;> simp [h1, h2]
    refine wpAny_pure ⟨plainId_quiet F.plain_set_update_loop _, ih (i + 1) _ (by omega) (W.frame _ _ _ hst₁ fun b hbf o e => ?_) hS₃ fun h' tk hk hS' => ?_⟩
    · rw [hsb.2 b (fun q : b = S => hSf (q ▸ hbf))]; exact e
    · refine hR h' tk (fun b o hn e => hk b o hn ?_) hS'
      rw [hsb.2 b (fun q : b = S => hn (q ▸ .head _))]
      exact hk₁ b o (fun hm => hn (.tail _ hm)) e

/-- the new set is filled -/
theorem set_filled {prog : Program} {w : World} {A : Around} {E : Value → Shared → Prop} {h : Heap} {g : Array GenState} {d : Drawn} {t : Nat} {os : OsState} {S l : Addr} {led : Bool} {vs : List Value} {xs : List Str} {Q : Fin → Shared → Prop} (hh : A.handled = none) (hl : h.IsList l vs.toArray) (hi : StrsAre vs xs) (hnd : xs.Nodup) (hb : xs.length + 1 < scanBound)
    (hS : h.get? S = some { cls := .type "set", dict := none, data := .set #[] 0 (.fresh 0 0 led) }) (hne : l ≠ S)
    (hq : ∀ h' tk, h'.SetOf (strKind prog w) S (fun y => decide (y ∈ xs)) xs.length → (∀ b o, b ≠ S → h.get? b = some o → h'.get? b = some o) → Q (.done (.ret .none)) ⟨h', g, d, tk, os⟩) :
    wpAny (model prog w) A (Builtin.«set.__init__» ⟨[.ref S, .ref l], []⟩) Q E ⟨h, g, d, t, os⟩ := by
  have hT : (⟨h, g, d, t, os⟩ : Shared).TypeIs (.ref S) "set" := ⟨_, hS, rfl⟩
  have hsl := F.sub_list_set
  have hsf := F.sub_list_frozenset
  have hlen : vs.toArray.size = xs.length := by rw [List.size_toArray, hi.length]
  have hlc : (⟨h, g, d, t, os⟩ : Shared).TypeIs (.ref l) "list" := let ⟨o, e, c, _⟩ := hl; ⟨o, e, c⟩
  obtain ⟨⟨oc, od, odt, osl⟩, hol, hoc, on, hod⟩ := id hl
  dsimp only at hoc hod
  subst hoc hod
  have hlt : l < h.objs.size := Heap.lt_size hol
  have hSlt : S < h.objs.size := Heap.lt_size hS
  have hnd2 : (Value.type "list" == Value.type "dict") = false := by decide
  unfold Builtin.«set.__init__» noKeywords Builtin.Frozenset.updateFrom
  generalize hPI : pyIter = PI
  wp_walk
  subst hPI
  refine wpAny_pyIter_list hl ?_
  refine wpAny_bind (wpAny_runValue ?_)
  have hne2 : l ≠ h.objs.size := Nat.ne_of_lt hlt
  have hSf : S ∉ [h.objs.size, l] := by
    intro hm
    rcases List.mem_cons.mp hm with e | hm
    · exact Nat.ne_of_lt hSlt e
    · exact hne (List.mem_singleton.mp hm).symm
  have W := Walks.list (prog := prog) (w := w) (A := A.in1) (by simpa using hh) h.objs.size l hne2 vs.toArray
  rw [hlen] at W
  have up : ∀ b o, h.get? b = some o → (h.push { cls := .type "list_iterator", data := .fields #[.ref l, .int 0 0] }).get? b = some o := fun b o e => Heap.get?_push_of_some _ e
  refine set_loop xs W hSf (fun i v hv => ?_) hnd hb xs.length 0 _ (Nat.zero_add _) ⟨⟨_, Heap.get?_push_size _ rfl, rfl, rfl⟩, hl.at fun o e => up _ _ e⟩ ?_ ?_
  · exact strs_at hi (by simpa using hv)
  · exact SetOf_congr ((PyProof.Rows.setObjOf_fresh (knd := strKind prog w) led).setOf (up _ _ hS) (by unfold scanBound; omega)) (fun _ => by simp) rfl
  · intro h' tk hk hS'
    refine wpAny_pure (wpAny_pure (hq h' tk hS' fun b o hb e => ?_))
    refine hk b o (fun hm => ?_) (up _ _ e)
    rcases List.mem_cons.mp hm with q | hm
    · exact hb q
    · have := Heap.lt_size e
      rw [List.mem_singleton.mp hm] at this
      exact Nat.lt_irrefl _ this
set_option maxHeartbeats 2000000 in
/-- set(list of texts, no two alike) -/
theorem call_set_strs {prog : Program} {w : World} {A : Around} {E : Value → Shared → Prop} {s : Shared} {l : Addr} {vs : List Value} {xs : List Str} {Q : Value → Shared → Prop} (hh : A.handled = none) (hl : s.heap.IsList l vs.toArray) (hi : StrsAre vs xs) (hnd : xs.Nodup) (hb : xs.length + 1 < scanBound)
    (h : ∀ (h' : Heap) (tk : Nat), h'.SetOf (strKind prog w) s.heap.objs.size (fun y => decide (y ∈ xs)) xs.length → (∀ b o, s.heap.get? b = some o → h'.get? b = some o) → Q (.ref s.heap.objs.size) { s with heap := h', toks := tk }) :
    wpAny (model prog w) A (call (.type "set") [.ref l]) Q E s := by
  obtain ⟨c, tl, hmro⟩ := F.called_set.mro
  have hmade := F.called_set.made
  have hsub := F.called_set.sub
  have h1 := F.called_set.notType
  have h2 := F.called_set.canCreate
  have h3 := F.typeCall_set_1 (.ref l)
  have hlS : l < s.heap.objs.size := let ⟨_, e, _⟩ := hl; Heap.lt_size e
  refine wpAny_call (codeAny_of_tree ?_)
  show wpAny _ _ (callAny (.type "set") _) _ _ _
  refine wpAny_pure ⟨Code.quiet_builtin _ (by decide +kernel), codeAny_builtin F.entry_type_call ?_⟩
  rw [Around.under_plain (weight_type_call_type "set" [.ref l] []) rfl]
  repeat (any_goals (first | assumption | wp_step))
  refine codeAny_mono (code_set_new_1 (.ref l) (E := E) (Q₁ := fun obj s₁ => ∃ led : Bool, obj = .ref s.heap.objs.size ∧ s₁ = { s with heap := s.heap.push { cls := .type "set", dict := none, data := .set #[] 0 (.fresh 0 0 led) } }) fun led => ⟨led, rfl, rfl⟩) fun r s₁ hr => ?_
  match r, hr with
  | .error e, hr => exact hr
  | .ok (.ret obj), hr =>
    obtain ⟨led, rfl, rfl⟩ := hr
    obtain ⟨hp, g, d, t, os⟩ := s
    have hS : (hp.push { cls := .type "set", dict := none, data := .set #[] 0 (.fresh 0 0 led) }).get? hp.objs.size = some { cls := .type "set", dict := none, data := .set #[] 0 (.fresh 0 0 led) } := Heap.get?_push_size _ rfl
    have hT : Shared.TypeIs ⟨hp.push { cls := .type "set", dict := none, data := .set #[] 0 (.fresh 0 0 led) }, g, d, t, os⟩ (.ref hp.objs.size) "set" := ⟨_, hS, rfl⟩
    have hli := F.called_set.init.lookup
    have hbi := F.called_set.init.bind (.ref hp.objs.size)
    dsimp only at hlS hl h ⊢
    repeat (any_goals (first | assumption | wp_step))
    refine codeAny_mono (codeAny_call_builtin (R := wants (fun r s₂ => r = .none ∧ ∃ h' tk, s₂ = ⟨h', g, d, tk, os⟩ ∧ h'.SetOf (strKind prog w) hp.objs.size (fun y => decide (y ∈ xs)) xs.length ∧ ∀ b o, hp.get? b = some o → h'.get? b = some o) E) F.called_set.init.plain F.entry_set_init (check_set_init_1 hT ?_)) fun r₂ s₂ hr₂ => ?_
    · refine set_filled (by simpa using hh) (hl.at fun o e => Heap.get?_push_of_some _ e) hi hnd hb hS (Nat.ne_of_lt hlS) fun h' tk hS' hk => ?_
      exact ⟨rfl, h', tk, rfl, hS', fun b o e => hk b o (Nat.ne_of_lt (Heap.lt_size e)) (Heap.get?_push_of_some _ e)⟩
    · match r₂, hr₂ with
      | .error e, hr₂ => exact hr₂
      | .ok (.ret r), hr₂ =>
        obtain ⟨rfl, h', tk, rfl, hS', hk'⟩ := hr₂
        repeat (any_goals (first | assumption | wp_step))
        exact h _ _ hS' hk'
theorem set_strs_N {prog : Program} {w : World} {A : Around} {E : Value → Shared → Prop} {s : Shared} {h₀ : Heap} {L l : Addr} {m : Str → Option Value} {news : List (Addr × Obj)} {vs : List Value} {xs : List Str} {Q : Value → Shared → Prop} (F : Fr h₀ L s.heap m) (N : News h₀ L s.heap news)
    (hh : A.handled = none) (hl : s.heap.IsList l vs.toArray) (hi : StrsAre vs xs) (hnd : xs.Nodup) (hb : xs.length ≤ 100)
    (h : ∀ D h' (tk : Nat) o, Fr h₀ L h' m → News h₀ L h' ((D, o) :: news) → o.SetObjOf (strKind prog w) (fun y => decide (y ∈ xs)) xs.length → Q (.ref D) { s with heap := h', toks := tk }) :
    wpAny (model prog w) A (call (.type "set") [.ref l]) Q E s := by
  refine call_set_strs hh hl hi hnd (by unfold scanBound; omega) fun h' tk hS hk => ?_
  obtain ⟨o, ho, hso⟩ := hS.objOf
  obtain ⟨F', N', _⟩ := ks_newsPush F N rfl ho hk
  exact h _ h' tk o F' N' hso
theorem len_set_N {prog : Program} {w : World} {A : Around} {E : Value → Shared → Prop} {s : Shared} {h₀ : Heap} {L D : Addr} {news : List (Addr × Obj)} {o : Obj} {xs : List Str} {Q : Value → Shared → Prop} (N : News h₀ L s.heap ((D, o) :: news)) (hso : o.SetObjOf (strKind prog w) (fun y => decide (y ∈ xs)) xs.length) (hb : xs.length ≤ 100)
    (h : ∀ t tk, Q (.int xs.length t) { s with toks := tk }) : wpAny (model prog w) A (call (.builtin "len") [.ref D]) Q E s :=
  len_sl1 (own := []) (rest := news) N hso (by omega) (h _ _)
end Mine
/- part ZD1 -/
namespace Mine
theorem len60 {vs : List Value} {f : Int → Int} {l : List Int} (_h : IntsAre vs (List.map f (List.take 60 l))) : (List.map f (List.take 60 l)).length ≤ 60 := by
  rw [List.length_map, List.length_take]; omega
theorem law_led {h₀ h : Heap} {L D d c wl sl : Addr} {x y z u o : Obj} {rest : List (Addr × Obj)} (N : News h₀ L h ((D, x) :: (wl, y) :: (c, z) :: (sl, u) :: (d, o) :: rest)) : News h₀ L h [(d, o), (c, z), (wl, y)] := by
  intro p hp
  refine N p ?_
  simp only [List.mem_cons, List.not_mem_nil, or_false] at hp ⊢
  rcases hp with h | h | h <;> simp [h]
/-- what the next part of the law asks of the ledger -/
theorem out_offs {d c wl : Addr} {o o' ob ob' oc : Obj} {new news : List (Addr × Obj)} (hA : Above new ((d, o) :: (c, oc) :: (wl, ob) :: news)) (h1 : ∀ p ∈ (c, oc) :: (wl, ob) :: news, p.1 ≠ d) (h2 : ∀ p ∈ (d, o) :: (c, oc) :: news, p.1 ≠ wl) :
    (∀ p ∈ (c, oc) :: (wl, ob') :: (new ++ news), p.1 ≠ d) ∧ ∀ p ∈ (d, o') :: (c, oc) :: (new ++ news), p.1 ≠ wl := by
  constructor
  · intro p hp
    simp only [List.mem_cons, List.mem_append] at hp
    rcases hp with e | e | e | e
    · exact h1 p (by simp [e])
    · subst e; exact h1 (wl, ob) (.tail _ (.head _))
    · exact Nat.ne_of_gt (hA p e _ (.head _))
    · exact h1 p (by simp [e])
  · intro p hp
    simp only [List.mem_cons, List.mem_append] at hp
    rcases hp with e | e | e | e
    · subst e; exact h2 (d, o) (.head _)
    · exact h2 p (by simp [e])
    · exact Nat.ne_of_gt (hA p e _ (.tail _ (.tail _ (.head _))))
    · exact h2 p (by simp [e])
theorem dat_inj {a b : Item} (h : a.dat = b.dat) : a = b := by
  cases a <;> cases b <;> simp only [Item.dat, Dat.tuple.injEq, List.cons.injEq, Dat.str.injEq, Dat.int.injEq, and_true, true_and] at h
  all_goals first
    | (subst h; rfl)
    | (obtain ⟨h1, h2⟩ := h; subst h1; first | (subst h2; rfl) | (have := Int.ofNat.inj h2; subst this; rfl))
    | (exfalso; exact absurd h.1 (by decide +kernel))
    | (exfalso; exact absurd h (by simp))
    | skip
theorem ok_dat {it : Item} (hf : Fine it) : kqdOk 8 it.dat = true := by
  have q : ∀ s : String, s = "num" ∨ s = "dec" ∨ s = "bits" ∨ s = "str" ∨ s = "sym" ∨ s = "key" → PyData.strOk (Str.ofString s) = true := by
    intro s hs
    rcases hs with e | e | e | e | e | e <;> (subst e; decide +kernel)
  cases it with
  | num v => simp [Item.dat, kqdOk, q]
  | dec t b => simp [Item.dat, kqdOk, q]
  | bits v n => simp [Item.dat, kqdOk, q]
  | str x => simp [Item.dat, kqdOk, q]; exact hf
  | sym x => simp [Item.dat, kqdOk, q]; exact hf.2
  | key x => simp [Item.dat, kqdOk, q]; exact hf
/-- the loop that drops what is there already -/
def LInv (wl ul I : Addr) (lo : Obj) (NEW : List (Addr × Obj)) (its : List Item) (m0 : Str → Option Value) (i : Nat) (m : Str → Option Value) (nw : List (Addr × Obj)) : Prop :=
  ∃ (u : Str → Option Value) (us : List Value) (n : Nat) (uit : List Item), m = (fun y => if y = Str.ofString "item" then u y else m0 y) ∧ nw = (wl, lo) :: (ul, W.listOf us.toArray n) :: NEW ∧ DatAll NEW us (uit.map Item.dat) ∧ uit.Nodup ∧ (∀ x ∈ uit, x ∈ its) ∧ uit.length ≤ i ∧ ∀ p ∈ nw, p.1 ≠ I
theorem linv_start {wl ul I : Addr} {lo : Obj} {NEW : List (Addr × Obj)} {its : List Item} {m0 : Str → Option Value} {n : Nat} (hI : ∀ p ∈ (wl, lo) :: (ul, W.listOf ([] : List Value).toArray n) :: NEW, p.1 < I) : LInv wl ul I lo NEW its m0 0 m0 ((wl, lo) :: (ul, W.listOf ([] : List Value).toArray n) :: NEW) := by
  refine ⟨m0, [], n, [], ?_, rfl, .nil, List.nodup_nil, fun _ h => (nomatch h), Nat.le_refl _, fun p hp => Nat.ne_of_lt (hI p hp)⟩
  funext y
  split <;> rfl
theorem linv_mem {wl ul I : Addr} {lo : Obj} {NEW : List (Addr × Obj)} {its : List Item} {m0 : Str → Option Value} {i : Nat} {m : Str → Option Value} {nw : List (Addr × Obj)} (h : LInv wl ul I lo NEW its m0 i m nw) : (wl, lo) ∈ nw := by
  obtain ⟨_, _, _, _, _, rfl, _⟩ := h
  exact .head _
theorem linv_item {NEW : List (Addr × Obj)} {W : List Value} {its : List Item} {i : Nat} {v : Value} (hD : DatAll NEW W (its.map Item.dat)) (hv : W[i]? = some v) : ∃ it, it ∈ its ∧ DatIn NEW v it.dat := by
  have hl := hD.length
  rw [List.length_map] at hl
  have hi : i < W.length := by
    rcases Nat.lt_or_ge i W.length with q | q
    · exact q
    · rw [List.getElem?_eq_none_iff.mpr q] at hv; cases hv
  obtain ⟨v', e, h⟩ := hD.get (k := i) (by rw [List.length_map]; omega)
  rw [hv] at e
  cases e
  rw [List.getElem_map] at h
  exact ⟨_, List.getElem_mem _, h⟩
/-- a turn that drops the item -/
theorem linv_old {wl ul I L : Addr} {lo it : Obj} {NEW : List (Addr × Obj)} {its uit : List Item} {m0 u m' : Str → Option Value} {i n : Nat} {us : List Value} {h₀ h' : Heap} {s₁ : Shared} {tk : Nat} {v : Option Value} (F : Fr h₀ L h' m') (N : News h₀ L h' ((I, it) :: (wl, lo) :: (ul, W.listOf us.toArray n) :: NEW))
    (hm : m' = fun y => if y = Str.ofString "item" then v else if y = Str.ofString "item" then u y else m0 y) (hD : DatAll NEW us (uit.map Item.dat)) (hN : uit.Nodup) (hS : ∀ x ∈ uit, x ∈ its) (hl : uit.length ≤ i) (hI : ∀ p ∈ (wl, lo) :: (ul, W.listOf us.toArray n) :: NEW, p.1 ≠ I) :
    UnrEnd h₀ L s₁ I it (fun m' n' => LInv wl ul I lo NEW its m0 (i + 1) m' n') { s₁ with heap := h', toks := tk } := by
  refine UnrEnd.intro F N ((wl, lo) :: (ul, W.listOf us.toArray n) :: NEW) (fun p hp => hp) hI ⟨fun _ => v, us, n, uit, ?_, rfl, hD, hN, hS, by omega, hI⟩
  rw [hm]
  funext y
  by_cases h : y = Str.ofString "item" <;> simp [h]
theorem linv_new {wl ul I L : Addr} {lo it : Obj} {NEW : List (Addr × Obj)} {its uit : List Item} {m0 u m' : Str → Option Value} {i n n' : Nat} {us : List Value} {h₀ h' : Heap} {s₁ : Shared} {tk : Nat} {v : Option Value} {x : Value} {e : Item} (F : Fr h₀ L h' m') (N : News h₀ L h' ((I, it) :: (wl, lo) :: (ul, W.listOf (us.toArray.push x) n') :: NEW))
    (hm : m' = fun y => if y = Str.ofString "item" then v else if y = Str.ofString "item" then u y else m0 y) (hD : DatAll NEW us (uit.map Item.dat)) (hN : uit.Nodup) (hS : ∀ x ∈ uit, x ∈ its) (hl : uit.length ≤ i) (hI : ∀ p ∈ (wl, lo) :: (ul, W.listOf us.toArray n) :: NEW, p.1 ≠ I)
    (he : e ∈ its) (hx : DatIn NEW x e.dat) (hn : e.dat ∉ uit.map Item.dat) :
    UnrEnd h₀ L s₁ I it (fun m' n' => LInv wl ul I lo NEW its m0 (i + 1) m' n') { s₁ with heap := h', toks := tk } := by
  have ea : us.toArray.push x = (us ++ [x]).toArray := by simp
  rw [ea] at N
  have hI2 : ∀ p ∈ (wl, lo) :: (ul, W.listOf (us ++ [x]).toArray n') :: NEW, p.1 ≠ I := by
    intro p hp
    simp only [List.mem_cons] at hp
    rcases hp with h | h | h
    · exact hI p (by simp [h])
    · subst h; exact hI (ul, W.listOf us.toArray n) (.tail _ (.head _))
    · exact hI p (by simp [h])
  refine UnrEnd.intro F N ((wl, lo) :: (ul, W.listOf (us ++ [x]).toArray n') :: NEW) (fun p hp => hp) hI2 ⟨fun _ => v, us ++ [x], n', uit ++ [e], ?_, rfl, ?_, ?_, ?_, ?_, hI2⟩
  · rw [hm]
    funext y
    by_cases h : y = Str.ofString "item" <;> simp [h]
  · rw [List.map_append]
    exact hD.append (.cons hx .nil)
  · refine List.nodup_append.mpr ⟨hN, List.nodup_cons.mpr ⟨fun h => (nomatch h), List.nodup_nil⟩, fun a ha b hb hab => ?_⟩
    rw [List.mem_singleton.mp hb] at hab
    exact hn (hab ▸ List.mem_map_of_mem ha)
  · intro y hy
    rcases List.mem_append.mp hy with hy | hy
    · exact hS y hy
    · rw [List.mem_singleton.mp hy]; exact he
  · rw [List.length_append, List.length_singleton]; omega
theorem law_off1 {h₀ h : Heap} {L d c wl : Addr} {o x y : Obj} (_N : News h₀ L h [(d, o), (c, x), (wl, y)]) (h1 : @Ne Nat d c) (h2 : @Ne Nat d wl) : ∀ p ∈ [(c, x), (wl, y)], p.1 ≠ d := by
  intro p hp
  simp only [List.mem_cons, List.not_mem_nil, or_false] at hp
  rcases hp with rfl | rfl
  · exact fun e => h1 e.symm
  · exact fun e => h2 e.symm
theorem law_off2 {h₀ h : Heap} {L d c wl : Addr} {o x y : Obj} (_N : News h₀ L h [(d, o), (c, x), (wl, y)]) (h1 : @Ne Nat d wl) (h2 : @Ne Nat c wl) : ∀ p ∈ [(d, o), (c, x)], p.1 ≠ wl := by
  intro p hp
  simp only [List.mem_cons, List.not_mem_nil, or_false] at hp
  rcases hp with rfl | rfl
  · exact h1
  · exact h2
theorem loop_led {h₀ h : Heap} {L ul d c wl : Addr} {y o x lo : Obj} {NEW : List (Addr × Obj)} (N : News h₀ L h ((ul, y) :: (d, o) :: (c, x) :: (wl, lo) :: NEW)) : News h₀ L h ((wl, lo) :: (ul, y) :: NEW) := by
  intro p hp
  refine N p ?_
  simp only [List.mem_cons] at hp ⊢
  rcases hp with h | h | h <;> simp [h]
theorem law_dat {new1 new2 new3 : List (Addr × Obj)} {ws1 ws2 ws3 : List Value} {its1 its2 its3 : List Item} (h1 : DatAll new1 ws1 (its1.map Item.dat)) (h2 : DatAll new2 ws2 (its2.map Item.dat)) (h3 : DatAll new3 ws3 (its3.map Item.dat)) :
    DatAll (new3 ++ (new2 ++ (new1 ++ []))) ((([] ++ ws1) ++ ws2) ++ ws3) (((its1 ++ its2) ++ its3).map Item.dat) := by
  rw [List.map_append, List.map_append, List.nil_append]
  exact ((h1.mono fun p hp => List.mem_append_right _ (List.mem_append_right _ (List.mem_append_left _ hp))).append (h2.mono fun p hp => List.mem_append_right _ (List.mem_append_left _ hp))).append (h3.mono fun p hp => List.mem_append_left _ hp)
theorem law_ok {its1 its2 its3 : List Item} (h1 : ∀ x ∈ its1, OkItem x ∧ Fine x) (h2 : ∀ x ∈ its2, OkItem x ∧ Fine x) (h3 : ∀ x ∈ its3, OkItem x ∧ Fine x) : ∀ x ∈ (its1 ++ its2) ++ its3, OkItem x ∧ Fine x := by
  intro x hx
  rcases List.mem_append.mp hx with hx | hx
  · rcases List.mem_append.mp hx with hx | hx
    · exact h1 x hx
    · exact h2 x hx
  · exact h3 x hx
open Classical in
theorem not_in_items {prog : Program} {w : World} {A : Around} {E : Value → Shared → Prop} {s : Shared} {h₀ : Heap} {L ul : Addr} {led NEW : List (Addr × Obj)} {us : List Value} {n : Nat} {uit : List Item} {x : Value} {e : Item} {Q : Value → Shared → Prop} (N : News h₀ L s.heap led) (hm : (ul, W.listOf us.toArray n) ∈ led) (hs : ∀ p ∈ NEW, p ∈ led)
    (hD : DatAll NEW us (uit.map Item.dat)) (hx : DatIn NEW x e.dat) (ho : ∀ y ∈ uit, Fine y) (he : Fine e) (hu : A.units + 64 < cLine) (h : ∀ b : Bool, (b = true → e.dat ∉ uit.map Item.dat) → Q (.bool b) s) : wpAny (model prog w) A (compareOp .NotIn x (.ref ul)) Q E s := by
  refine kqd_notIn N hm rfl rfl hD hs hx hs (fun d hd => ?_) (ok_dat he) hu (h _ fun hb => ?_)
  · obtain ⟨y, hy, rfl⟩ := List.mem_map.mp hd
    exact ok_dat (ho y hy)
  · simpa using hb
theorem loop_ne {a b : Addr} (h : a < b) : @Ne Nat a b := Nat.ne_of_lt h
theorem loop_apart {h₀ h : Heap} {L wl ul : Addr} {x y : Obj} {r : List (Addr × Obj)} (_N : News h₀ L h ((wl, x) :: (ul, y) :: r)) : True := trivial
theorem all_ne {D : Addr} {l : List (Addr × Obj)} (h : AllLt D l) : ∀ p ∈ l, p.1 ≠ D := fun p hp => Nat.ne_of_lt (ktn_ltOf h p hp)
theorem item_lt {W : List Value} {i : Nat} {v : Value} (hv : W[i]? = some v) : i < W.length := by
  rcases Nat.lt_or_ge i W.length with q | q
  · exact q
  · rw [List.getElem?_eq_none_iff.mpr q] at hv; cases hv

theorem item_lt' {α : Type} {W : List α} {i : Nat} {v : α} (hv : W[i]? = some v) : i < W.length := by
  rcases Nat.lt_or_ge i W.length with q | q
  · exact q
  · rw [List.getElem?_eq_none_iff.mpr q] at hv; cases hv
/-- the comprehension of the texts -/
def TxInv (led : List (Addr × Obj)) (uit : List Item) (i : Nat) (ys : List Value) (nw : List (Addr × Obj)) : Prop :=
  nw = led ∧ ∃ xs : List Str, StrsAre ys xs ∧ xs.length = i ∧ ∀ (j : Nat) (it : Item) (x : Str), uit[j]? = some it → xs[j]? = some x → WordIs it x
theorem txinv_start {led : List (Addr × Obj)} {uit : List Item} : TxInv led uit 0 [] led := ⟨rfl, [], .nil, rfl, fun j it x _ h => by simp at h⟩
theorem linv_at {NEW : List (Addr × Obj)} {us : List Value} {uit : List Item} {i : Nat} {v : Value} (hD : DatAll NEW us (uit.map Item.dat)) (hv : us[i]? = some v) : ∃ it, uit[i]? = some it ∧ it ∈ uit ∧ DatIn NEW v it.dat := by
  have hl := hD.length
  rw [List.length_map] at hl
  have hi := item_lt hv
  obtain ⟨v', e, h⟩ := hD.get (k := i) (by rw [List.length_map]; omega)
  rw [hv] at e
  cases e
  rw [List.getElem_map] at h
  exact ⟨_, List.getElem?_eq_getElem (by omega), List.getElem_mem _, h⟩
theorem txinv_step {led : List (Addr × Obj)} {uit : List Item} {i : Nat} {ys : List Value} {xs : List Str} {y : Str} {t : Tok} {it : Item} (hS : StrsAre ys xs) (hl : xs.length = i) (hW : ∀ (j : Nat) (it : Item) (x : Str), uit[j]? = some it → xs[j]? = some x → WordIs it x) (hi : uit[i]? = some it) (hy : WordIs it y) : TxInv led uit (i + 1) (ys ++ [.str y t]) led := by
  refine ⟨rfl, xs ++ [y], hS.append' (.cons _ _ .nil), by rw [List.length_append, hl]; rfl, fun j it' x h1 h2 => ?_⟩
  rcases Nat.lt_or_ge j xs.length with q | q
  · rw [List.getElem?_append_left q] at h2
    exact hW j it' x h1 h2
  · rw [List.getElem?_append_right q] at h2
    have hj : j - xs.length = 0 := by
      have := item_lt' h2
      simp at this; omega
    rw [hj] at h2
    have e1 : y = x := Option.some.inj h2
    have e2 : j = i := by omega
    rw [e2, hi] at h1
    rw [← Option.some.inj h1, ← e1]
    exact hy
theorem texts_nodup {uit : List Item} {xs : List Str} (hN : uit.Nodup) (hF : ∀ x ∈ uit, Fine x) (hl : xs.length = uit.length) (hW : ∀ (j : Nat) (it : Item) (x : Str), uit[j]? = some it → xs[j]? = some x → WordIs it x) : xs.Nodup := by
  refine List.pairwise_iff_getElem.mpr fun a b ha hb hab e => ?_
  have w1 := hW a _ _ (List.getElem?_eq_getElem (by omega)) (List.getElem?_eq_getElem ha)
  have w2 := hW b _ _ (List.getElem?_eq_getElem (by omega)) (List.getElem?_eq_getElem hb)
  rw [e] at w1
  have ei := word_inj w1 w2 (hF _ (List.getElem_mem _)) (hF _ (List.getElem_mem _))
  exact List.pairwise_iff_getElem.mp hN a b (by omega) (by omega) hab ei
theorem ne_int_same {prog : Program} {w : World} {A : Around} {E : Value → Shared → Prop} {s : Shared} {a b : Int} {t u : Tok} {Q : Value → Shared → Prop} (e : a = b) (h : Q (.bool false) s) : wpAny (model prog w) A (compareOp .NotEq (.int a t) (.int b u)) Q E s := by
  refine PyProof.Rows.ne_int ?_
  subst e
  simpa using h
end Mine
/- part ZE1 -/
namespace Mine
open PySem.Builtin.Str
section
variable {prog : Program} {w : World} {A : Around} {K : Frag} {h₀ : Heap} {L : Addr} {m : Str → Option Value} {news : List (Addr × Obj)}
variable {nm q : Str} {C N : Addr} {bs bm : List Value} {hdct : Bool} {sn : List Str} {sub : List Value} {ab : Bool} {col : Option Bool} {dd : Option Addr} {k0 k1 k2 k3 k5 : Option Value} {B newId inN : String} {bmN : List Value}
/-- an exception object as `__new__` leaves it -/
abbrev excO (C t : Addr) : Obj := { cls := .ref C, data := .fields #[.ref t, .none, .none, .none, .bool false, .none] }
abbrev tupO (l : List Value) : Obj := { cls := .type "tuple", data := .seq l.toArray }

theorem exc_check {h : Heap} {g : Array GenState} {d : Drawn} {t : Nat} {os : OsState} {M : Model} {E : Value → Shared → Prop} (Fn : ExcBaseFacts B newId inN bmN)
    (hB : (Value.ref C :: bm).contains (.type B) = true) {rest : List Value} {Q : Unit → Shared → Prop} (hC : h.get? C = some (excClassObj nm q C N bs bm hdct sn sub ab col dd k0 k1 k2 k3 k5 newId))
    (hq : Q () ⟨h, g, d, t, os⟩) : wpAny M A (checkBuiltinCall newId ⟨.ref C :: rest, []⟩) Q E ⟨h, g, d, t, os⟩ := by
  have hstar := Fn.noStar
  simp only [checkBuiltinCall, Fn.newKind, Fn.newSplit, Fn.newRow]
  repeat (first | refine wpAny_loadPart_at hC ?_ | (refine wpAny_isSubtype_exc hC ?_; rw [hB]) | refine wpAny_staticBase_exc hC ?_ | refine wpAny_madeBy_exc hC ?_ | simp only [bne_self_eq_false, Bool.false_eq_true, if_false] | wp_step)
  exact hq

theorem exc_new {h : Heap} {g : Array GenState} {d : Drawn} {t : Nat} {os : OsState} {R : Result → Shared → Prop} (Fn : ExcBaseFacts B newId inN bmN)
    (hB : (Value.ref C :: bm).contains (.type B) = true) (hA : (Value.ref C :: bm).contains (.type "AttributeError") = false) (hN : (Value.ref C :: bm).contains (.type "NameError") = false)
    {rest : List Value} (hC : h.get? C = some (excClassObj nm q C N bs bm hdct sn sub ab col dd k0 k1 k2 k3 k5 newId))
    (hq : R (.ok (.ret (.ref (h.objs.size + 1)))) ⟨(h.push (tupO rest)).push (excO C h.objs.size), g, d, t, os⟩) (hrest : rest.length ≤ sizeLine) :
    codeAny (model prog w) A (.builtin newId ⟨.ref C :: rest, []⟩) R ⟨h, g, d, t, os⟩ := by
  have hends := Fn.ends
  refine codeAny_builtinAt Fn.entry ?_
  unfold Builtin.«BaseException.__new__»
  refine PySem.wpAt_bind ?_
  show PySem.wpAt _ _ _ (stack >>= _) _ _ _
  refine PySem.wpAt_bind (PySem.wpAt_stack fun p below => PySem.wpAt_of_wpAny ?_)
  wp_walk
  refine PySem.wpAt_of_wpAny ?_
  rw [Fn.owner]
  repeat (first | with_reducible refine wpAny_madeHere_exc Fn.canon hC ?_ | with_reducible refine wpAny_loadPart_at hC ?_ | (with_reducible refine wpAny_isSubtype_exc hC ?_; first | rw [hB] | rw [hA] | rw [hN]) | wp_step)
  show R _ _
  rw [Heap.size_push]
  exact hq

theorem exc_make {rest : List Value} {fI : Addr} {s : Shared} {R : Result → Shared → Prop} (F : Fr h₀ L s.heap m) (Nn : News h₀ L s.heap news) (X : K.In s.heap)
    (hC : K.lookup C = some (excClassObj nm q C N bs bm hdct sn sub ab col dd k0 k1 k2 k3 k5 newId)) (Fn : ExcBaseFacts B newId inN bmN)
    (hB : (Value.ref C :: bm).contains (.type B) = true) (hA : (Value.ref C :: bm).contains (.type "AttributeError") = false) (hN : (Value.ref C :: bm).contains (.type "NameError") = false)
    (hi : findIn K (.ref C) "__init__" = some (some (.ref fI))) (hf : typeIn K (.ref fI) = some (.type "function")) (hrest : rest.length ≤ sizeLine)
    (h : ∀ e t h', Fr h₀ L h' m → News h₀ L h' ((e, excO C t) :: (t, tupO rest) :: news) → (∀ p ∈ news, p.1 < t) → t < e →
      codeAny (model prog w) (A.under (.builtin "type.__call__" ⟨.ref C :: rest, []⟩)) (.call (.ref fI) ⟨.ref e :: rest, []⟩) (InitBack e R) { s with heap := h' }) :
    codeAny (model prog w) A (.call (.ref C) ⟨rest, []⟩) R s := by
  obtain ⟨hh, g, d, t, os⟩ := s
  have hC₀ : hh.get? C = some (excClassObj nm q C N bs bm hdct sn sub ab col dd k0 k1 k2 k3 k5 newId) := X _ _ hC
  have hl := looks_findIn (M := model prog w) X hi
  have hb := bind_fn (M := model prog w) X (.ref (hh.objs.size + 1)) hf
  have f1 := tc_lookup
  have f2 := tc_bind (.ref C)
  have hT : (⟨hh, g, d, t, os⟩ : Shared).TypeIs (.ref C) "type" := ⟨_, hC₀, rfl⟩
  refine codeAny_of_tree ?_
  show wpAny _ _ (callAny (.ref C) _) _ _ _
  repeat (any_goals (first | assumption | with_reducible refine wpAny_loadPart_at hC₀ ?_ | wp_step))
  refine ⟨rfl, ?_⟩
  refine codeAny_call_builtin_at (Code.quiet_builtin _ (by decide +kernel)) entry_typeCall (wpAny_check_type_call_sub hC₀ ?_)
  show wpAny (model prog w) (A.under (.builtin "type.__call__" ⟨.ref C :: rest, []⟩)) (Builtin.«type.__call__» ⟨.ref C :: rest, []⟩) _ _ _
  repeat (first | with_reducible refine wpAny_loadPart_at hC₀ ?_ | with_reducible refine wpAny_madeBy_exc hC₀ ?_ | wp_step)
  refine codeAny_call_builtin_code (Code.quiet_builtin _ Fn.quiet) (exc_check Fn hB hC₀ ?_)
  refine exc_new Fn hB hA hN hC₀ ?_ hrest
  show wpAny _ _ _ _ _ _
  have k : ∀ b o, hh.get? b = some o → ((hh.push (tupO rest)).push (excO C hh.objs.size)).get? b = some o := fun b o e => Heap.get?_push_of_some _ (Heap.get?_push_of_some _ e)
  have hC₁ := k _ _ hC₀
  have hget : ((hh.push (tupO rest)).push (excO C hh.objs.size)).get? (hh.objs.size + 1) = some (excO C hh.objs.size) := by heap_get
  have hcC : (Value.ref C :: bm).contains (.ref C) = true := by simp
  have hl₁ := hl.keeps k
  have hb₁ := hb.keeps k
  have N' := (Nn.push F (tupO rest)).push (F.push _) (excO C hh.objs.size)
  rw [Heap.size_push] at N'
  unfold isInstance
  repeat (first | with_reducible refine wpAny_loadPart_at hget ?_ | (with_reducible refine wpAny_isSubtype_exc hC₁ ?_; rw [hcC]) | wp_step)
  show wpAny _ _ (typeLookup (.ref C) _) _ _ _
  refine Looks.at hl₁ ?_
  refine wpAny_holding (wpAny_bind (Looks.at hb₁ ?_))
  refine wpAny_bind (wpAny_call (codeAny_mono (h _ hh.objs.size _ ((F.push _).push _) N' (fun p hp => Heap.lt_size (Nn p hp).1) (Nat.lt_succ_self _)) fun r s' z => ?_))
  rcases r with e | (v | _ | _ | _) <;> first | exact z | exact z.elim | skip
  obtain ⟨rfl, z⟩ := z
  wp_walk
  exact z
end
end Mine
/- part ZE2 -/
namespace Mine
open PySem.Builtin.Str
theorem wd_slot : Slot "wrapper_descriptor" "__get__" "wrapper_descriptor.__get__" := .of (owner := "wrapper_descriptor") (n := "__get__") (by rw [typeLookup_type, builtinLookup_eq_fast]; kernel_rfl) (by decide +kernel) (by decide +kernel) (by decide +kernel)
  (by first | exact .inl (by decide +kernel) | exact .inr (by decide +kernel)) (by rw [isSubtype_type]; kernel_rfl)
theorem wd_entry : entryFor table "wrapper_descriptor.__get__" = some Builtin.«wrapper_descriptor.__get__» := entryFor_of_tree (by kernel_rfl)
theorem wd_args (a b c : Value) : argsOk "wrapper_descriptor.__get__" ⟨[a, b, c], []⟩ := by unfold argsOk; kernel_rfl
theorem wd_type : typeOf (.builtin "Exception.__init__") = pure (.type "wrapper_descriptor") := by
  show builtinType _ = _
  rw [builtinType_eq_fast]; kernel_rfl
/-- the bound slot of a built-in -/
abbrev wrapO (id : String) (x : Addr) : Obj := { cls := .type "method-wrapper", data := .fields #[.builtin id, .ref x] }
section
variable {prog : Program} {w : World} {A : Around} {E : Value → Shared → Prop} {h : Heap} {g : Array GenState} {d : Drawn} {t : Nat} {os : OsState}
theorem wd_get {x C : Addr} {ox : Obj} {Q : Fin → Shared → Prop} (hx : h.get? x = some ox) (hc : ox.cls = .ref C) (hs : Looks (model prog w) h (isSubtype (.ref C) (.type "Exception")) true)
    (hq : Q (.done (.ret (.ref h.objs.size))) ⟨h.push (wrapO "Exception.__init__" x), g, d, t, os⟩) :
    wpAny (model prog w) A (Builtin.«wrapper_descriptor.__get__» ⟨[.builtin "Exception.__init__", .ref x, .ref C], []⟩) Q E ⟨h, g, d, t, os⟩ := by
  have t1 : Looks (model prog w) h (isInstance (.ref x) (.type "Exception")) true := by
    have : Looks (model prog w) h (typeOf (.ref x)) (.ref C) := hc ▸ (Looks.ld hx).andThen .now
    exact this.andThen hs
  unfold Builtin.«wrapper_descriptor.__get__»
  have e : ".".intercalate ("Exception.__init__".cutAt '.').dropLast = "Exception" := by kernel_rfl
  repeat (first | rw [e] | with_reducible refine Looks.at t1 ?_ | with_reducible refine wpAny_newObj_type ?_ (by size_fits) | lk)
  all_goals exact hq

set_option maxRecDepth 100000 in
set_option maxHeartbeats 4000000 in
theorem super_wrap {so D x C : Addr} {ox : Obj} {l₀ l : List Value} {K : Frag} {name : Str} {pl : Sem Bool} {Q : Value × List Value → Shared → Prop}
    (hso : h.get? so = some (ks_superObj D x C)) (hno : Looks (model prog w) h (opaqueClassAbove (.ref C)) none)
    (hC : Looks (model prog w) h (mroOf (.ref C)) l₀) (hl : (l₀.dropWhile (· != .ref D)).drop 1 = l) (X : K.In h)
    (hf : alongIn K name l = some (some (.builtin "Exception.__init__"))) (hx : h.get? x = some ox) (hc : ox.cls = .ref C) (hs : Looks (model prog w) h (isSubtype (.ref C) (.type "Exception")) true)
    (hxC : x ≠ C) (hn : (name == ("__class__" : Str)) = false)
    (hq : Q (.ref h.objs.size, []) ⟨h.push (wrapO "Exception.__init__" x), g, d, t + 1, os⟩) :
    wpAny (model prog w) A (getMethod (.ref so) name pl) Q E ⟨h, g, d, t, os⟩ := by
  have hlk := F.ks_slot_super_ga.lookup
  have hcan := F.ks_canon_super_ga
  have hT : ∀ t', (⟨h, g, d, t', os⟩ : Shared).TypeIs (.ref so) "super" := fun _ => ⟨_, hso, rfl⟩
  unfold getMethod
  refine wpAny_bind (wpAny_specialOf (hT _) hlk ?_)
  show wpAny _ _ (if (Manifest.canonical "super.__getattribute__" != "object.__getattribute__") = true then _ else _) _ _ _
  rw [if_pos hcan]
  unfold getAttr getAttrBy
  refine wpAny_bind (wpAny_bind (wpAny_mkText (wpAny_holding (wpAny_bind (wpAny_typeOf (hT _) (wpAny_bind (wpAny_of_eq hlk ?_)))))))
  show wpAny _ _ (getAttrByItsOwn (.ref so) (.str name t) (.type "super") (.builtin "super.__getattribute__") true false) _ _ _
  unfold getAttrByItsOwn hookBefore callGetattribute boundAndCalled
  refine wpAny_bind (wpAny_of_eq (show (if onTheHeap (.type "super") then typeLookup (.type "super") "__getattr__" else pure none) = pure none from rfl) ?_)
  refine wpAny_bind (wpAny_attempt (wpAny_holding ?_))
  show wpAny _ _ (bindSpecial (.builtin "super.__getattribute__") (.ref so) >>= _) _ _ _
  refine wpAny_bind (wpAny_of_eq (F.ks_slot_super_ga.bind _) ?_)
  refine wpAny_mono (Q := fun v s' => v = .ref h.objs.size ∧ s' = ⟨h.push (wrapO "Exception.__init__" x), g, d, t + 1, os⟩) (E := fun _ _ => False)
    (wpAny_call_entry F.ks_slot_super_ga (hT _) F.ks_entry_super_ga ?_ (F.ks_gaArgs_super _ _)) (fun v s' hv => ?_) fun _ _ z => z.elim
  · have hlg := wd_slot.lookup
    have hne : (Value.ref x == Value.ref C) = false := by simp [hxC]
    have hTf : ∀ s : Shared, s.TypeIs (.builtin "Exception.__init__") "wrapper_descriptor" := fun _ => wd_type
    have hdt : (ks_superObj D x C).data = .fields #[.ref D, .ref x, .ref C] := rfl
    have f0 : (#[.ref D, .ref x, .ref C] : Array Value)[0]? = some (.ref D) := rfl
    have f1 : (#[.ref D, .ref x, .ref C] : Array Value)[1]? = some (.ref x) := rfl
    have f2 : (#[.ref D, .ref x, .ref C] : Array Value)[2]? = some (.ref C) := rfl
    unfold Builtin.«super.__getattribute__»
    repeat (first
      | (with_reducible refine wpAny_field hso hdt f0 ?_) | (with_reducible refine wpAny_field hso hdt f1 ?_) | (with_reducible refine wpAny_field hso hdt f2 ?_)
      | (with_reducible refine ks_wpAny_notOpaque hno ?_)
      | (with_reducible refine Looks.at hC ?_; rw [hl])
      | (refine ks_forIn_along X (fun _ _ => rfl) rfl ?_ hf)
      | (with_reducible refine wpAny_typeOf (hTf _) ?_)
      | (with_reducible refine wpAny_call_entry wd_slot (hTf _) wd_entry ?_ (wd_args _ _ _))
      | (with_reducible refine wd_get hx hc hs ?_)
      | (with_reducible refine ⟨_, rfl, ?_⟩)
      | (simp only [hn, hne, Bool.or_false, Bool.false_eq_true, if_false])
      | wp_step
      | dsimp only)
    all_goals exact ⟨trivial, trivial⟩
  · obtain ⟨rfl, rfl⟩ := hv
    exact wpAny_pure (wpAny_pure hq)
end
end Mine
/- part ZE3 -/
namespace Mine
open PySem.Builtin.Str
section
variable {prog : Program} {w : World} {A : Around} {E : Value → Shared → Prop} {s : Shared} {h₀ : Heap} {L : Addr} {m : Str → Option Value} {led news : List (Addr × Obj)} {K : Frag} {x C D so b t0 : Addr}
/-- `super().__init__` that lands on the built-in slot -/
theorem super_wrap_K {name : Str} {pl : Sem Bool} {ox : Obj} {cd : ClassData} {Q : Value × List Value → Shared → Prop} (F : Fr h₀ L s.heap m) (X₀ : K.In h₀) (N : News h₀ L s.heap led) (hso : (so, ks_superObj D x C) ∈ led) (hx : (x, ox) ∈ led) (hcl : ox.cls = .ref C) (hnc : notCls ox = true)
    (hc : clsIn K C = some cd) (ho : nsIn K cStatics "thirdparty.any" = some none)
    (hm : ks_superIn K C D name = some (some (.builtin "Exception.__init__"))) (hs : mroIn K C (.type "Exception") = some true) (hn : (name == ("__class__" : Str)) = false)
    (h : ∀ q h', Fr h₀ L h' m → News h₀ L h' ((q, wrapO "Exception.__init__" x) :: led) → (∀ p ∈ led, p.1 < q) → Q (.ref q, []) { s with heap := h', toks := s.toks + 1 }) : wpAny (model prog w) A (getMethod (.ref so) name pl) Q E s := by
  have X : K.In s.heap := X₀.keeps F.keep
  obtain ⟨hh, g, d, t, os⟩ := s
  have hxC : x ≠ C := by
    rintro rfl
    have e := (N _ hx).1
    unfold clsIn at hc
    split at hc
    · rename_i c d' cd' sl hl
      rw [X _ _ hl] at e
      cases e
      exact Bool.noConfusion hnc
    · cases hc
  unfold ks_superIn at hm
  rw [hc] at hm
  refine super_wrap (N _ hso).1 (looks_opaque X ho) (l₀ := cd.mro) ?_ rfl X hm (N _ hx).1 hcl (looks_mroIn X hs) hxC hn ?_
  · exact fun A Q E s k q => wpAny_bind ((looks_clsIn X hc) A _ E s k (wpAny_pure q))
  · obtain ⟨F', N', l'⟩ := ks_newsPush (s := ⟨hh, g, d, t, os⟩) (o := wrapO "Exception.__init__" x) F N rfl (Heap.get?_push_at rfl rfl) (fun b o e => Heap.get?_push_of_some _ e)
    exact h _ _ F' N' l'

/-- the built-in slot, bound, called -/
theorem wrap_call {rest : List Value} {cd : ClassData} {Q : Value → Shared → Prop} (F : Fr h₀ L s.heap m) (X₀ : K.In h₀) (hc : clsIn K C = some cd) (hms : cd.mro.isEmpty = false) (N : News h₀ L s.heap led) (hb : (b, wrapO "Exception.__init__" x) ∈ led) (hx : (x, excO C t0) ∈ led)
    (hsub : ∀ p ∈ news, p ∈ led) (hne : ∀ p ∈ news, p.1 ≠ x)
    (h : ∀ t h', Fr h₀ L h' m → News h₀ L h' ((x, excO C t) :: (t, tupO rest) :: news) → Q .none { s with heap := h' }) (hrest : rest.length ≤ sizeLine) :
    wpAny (model prog w) A (call (.ref b) rest) Q E s := by
  have hB := (N _ hb).1
  have hX := (N _ hx).1
  obtain ⟨hh, g, d, t, os⟩ := s
  have F1 := F.push (tupO rest)
  have N1 := N.push F (tupO rest)
  have hX1 := (N1 _ (.tail _ hx)).1
  dsimp only at hB hX F1 N1 hX1
  obtain ⟨c0, d0, l0, hC⟩ : ∃ c d l, hh.get? C = some ⟨c, d, .cls cd, l⟩ := by
    unfold clsIn at hc
    split at hc
    · rename_i ho
      cases hc
      exact ⟨_, _, _, X₀.keeps F.keep _ _ ho⟩
    · cases hc
  have fin : ∀ h', h'.get? x = some (excO C hh.objs.size) → Heap.SameBut x (hh.push (tupO rest)) h' → Q .none ⟨h', g, d, t, os⟩ := by
    intro h' e k
    have zx := N1 _ (.tail _ hx)
    refine h hh.objs.size h' (F1.change k zx.2.1 zx.2.2) (fun p hp => ?_)
    rcases List.mem_cons.mp hp with rfl | hp
    · exact ⟨e, zx.2⟩
    rcases List.mem_cons.mp hp with rfl | hp
    · have z := N1 _ (.head _)
      exact ⟨(k.2 _ (Nat.ne_of_gt (Heap.lt_size hX))).trans z.1, z.2⟩
    · have z := N1 _ (.tail _ (hsub _ hp))
      exact ⟨(k.2 _ (hne _ hp)).trans z.1, z.2⟩
  refine wpAny_call (codeAny_of_tree ?_)
  show wpAny _ A.in1 (callAny (.ref b) ⟨rest, []⟩) _ _ _
  unfold callAny
  refine wpAny_bind (wpAny_load hB ?_)
  dsimp only
  have s1 := PySem.F.excBase_Exception.initRow
  have s2 := PySem.F.excBase_Exception.initKind
  have s3 := PySem.F.excBase_Exception.noStar
  unfold checkBoundCall
  simp only [s1, s2]
  repeat (first | (with_reducible refine wpAny_onRaise ?_; rw [show ∀ (a b : String) (n : Nat) (l : List Value), Bind.check ⟨.positional, "*", "Exception", .self, [⟨"args", .varPos, false⟩]⟩ a b n (List.map (fun x => x.fst) ({ pos := l } : Args).kw) = pure () from
    fun a b n l => check_star_args _ _ _ _ _ _]) | with_reducible refine wpAny_loadPart_at hC ?_ | wp_step)
  refine ⟨Code.quiet_builtin _ (by decide +kernel), codeAny_builtin PySem.F.excBase_Exception.initEntry ?_⟩
  unfold Builtin.«BaseException.__init__»
  dsimp only
  rw [if_neg (by simp)]
  unfold newTuple Builtin.BaseException.bexcPut
  refine wpAny_bind (wpAny_newObj_type (wpAny_bind (wpAny_bind (wpAny_field hX1 rfl rfl (wpAny_bind (wpAny_setField hX1 rfl (by show 0 < 6; decide) ?_))))) (by show rest.toArray.size ≤ sizeLine; rw [List.size_toArray]; exact hrest))
  refine wpAny_letGo (wpAny_pure ?_)
  exact fin _ (by rw [Heap.get?_update_self _ hX1 rfl]; rfl) (.update ..)
end
end Mine
/- part ZE4 -/
namespace Mine
open PySem.Builtin.Str
theorem exc_pass (self : Value) : refuseLoop self "__setattr__" [.type "Exception", .type "BaseException", .type "object"] = pure () := by kernel_rfl
section
open PySem.Builtin PySem.Builtin.ObjectAttr
variable {prog : Program} {w : World} {A : Around} {E : Value → Shared → Prop} {s : Shared} {h₀ : Heap} {L : Addr} {m : Str → Option Value} {led news : List (Addr × Obj)} {K : Frag} {x C dx : Addr} {ox : Obj} {od : Option Obj} {name : Str} {tk : Tok} {v : Value} {R : Result → Shared → Prop} {cd : ClassData}
/-- object.__setattr__ on an object of an own exception class, up to its own dict -/
theorem exc_osa (X : K.In s.heap) (I : InstAt s.heap x ox C od) (hc : clsIn K C = some cd) (ne : cd.mro.isEmpty = false) (hob : cd.mro.contains (.type "object") = true) (hp : refuseLoop (.ref x) "__setattr__" cd.mro = pure ()) (ht : findIn K (.ref C) name = some none)
    (h : ∀ b, wpAny (model prog w) A.in1 (storeInOwnDict (.ref x) (.ref C) (.str name tk) name v b)
      (fun fin s' => match fin with | .done f => R (.ok f) s' | .again c' => c'.quiet = true ∧ codeAny (model prog w) A c' R s') (fun e s' => R (.error e) s') s) :
    codeAny (model prog w) A (.call (.builtin "object.__setattr__") ⟨[.ref x, .str name tk, v], []⟩) R s := by
  have SF := PySem.F.store_object
  have sub : Looks (model prog w) s.heap (isInstance (.ref x) (.type "object")) true := I.type.andThen (looks_mroIn X (by unfold mroIn; rw [hc, Option.bind_some, if_neg (by rw [ne]; decide), hob]))
  refine codeAny_call_builtin SF.slot.plain SF.entry (@check_slot (model prog w) _ _ s "object.__setattr__" "object" "__setattr__" (.ref x) [.str name tk, v] [] _ SF.kind SF.split sub (SF.args (.ref x) (.str name tk) v) ?_)
  have hm : Looks (model prog w) s.heap (mroOf (.ref C)) cd.mro := (looks_clsIn X hc).andThen .now
  rw [osa_eq, refuse_eq]
  refine wpAny_bind (wpAny_bind (I.type.here (wpAny_bind (hm.here ?_))))
  rw [hp]
  refine wpAny_pure (wpAny_bind (I.type.here (wpAny_bind ((looks_findIn X ht).here (wpAny_bind (wpAny_pure ?_))))))
  exact h _

/-- a value laid into the own dict of an object -/
theorem put_in {es : List DictEntry} {n : Nat} {Q : PySem.Fin → Shared → Prop} (F : Fr h₀ L s.heap m) (N : News h₀ L s.heap led) (hd : (dx, dictOf es n) ∈ led) (hsub : ∀ p ∈ news, p ∈ led) (hne : ∀ p ∈ news, p.1 ≠ dx)
    (hl : (getL name es).isSome = true) (hz : (putL name (PyData.keyHash w.params name) (.str name s.toks) v es).length ≤ 1000)
    (h : ∀ h', Fr h₀ L h' m → News h₀ L h' ((dx, dictOf (putL name (PyData.keyHash w.params name) (.str name s.toks) v es) (putN name es n)) :: news) → Q (.done (.ret .none)) { s with heap := h', toks := s.toks + 1 }) :
    wpAny (model prog w) A (storeInDict dx (.str name tk) name v) Q E s := by
  have N₀ : News h₀ L s.heap ([] ++ (dx, dictOf es n) :: news) := fun p hp => by
    rcases List.mem_cons.mp hp with rfl | hp
    · exact N _ hd
    · exact N _ (hsub _ hp)
  obtain ⟨U1, U2⟩ := news_upd (f := Obj.putName name (PyData.keyHash w.params name) (.str name s.toks) v) F N₀ (fun _ q => nomatch q) hne (putName_dict name (PyData.keyHash w.params name) (.str name s.toks) v es n) rfl
  have D := (N₀ (dx, dictOf es n) (.head _)).1
  have D' := (U2 (dx, _) (.head _)).1
  unfold storeInDict newKeyGuard
  refine wpAny_bind (wpAny_pure (wpAny_bind ?_))
  unfold nsSet
  refine wpAny_bind (wpAny_bind (wpAny_askSetting (wpAny_pure (wpAny_bind (wpAny_mkText (wpAny_bind (wpAny_loadPart D ?_)))))))
  dsimp only
  have c : (!es.toArray.any (·.key.isStr name) && es.toArray.any (·.refKey)) = false := by
    rw [← Array.any_toList, ← Array.any_toList]
    unfold getL at hl
    split at hl
    · rename_i en he
      rw [List.any_eq_true.mpr ⟨en, List.mem_of_find?_eq_some he, List.find?_some he⟩]; rfl
    · split at hl
      · cases hl
      · rename_i z; rw [Bool.not_eq_true] at z; rw [z, Bool.and_false]
  rw [aRefKeyMayBeTheName_at, c]
  refine wpAny_updatePart D ?_
  refine wpAny_bind (wpAny_lookBehind D' (pastItsLine_dict (by rw [List.size_toArray, sizeLine_eq]; omega)) ?_)
  exact wpAny_pure (h _ U1 U2)

theorem exc_set_new {vs : Array Value} {Q : Unit → Shared → Prop} (F : Fr h₀ L s.heap m) (X₀ : K.In h₀) (N : News h₀ L s.heap led) (hx : (x, ({ cls := .ref C, data := .fields vs } : Obj)) ∈ led)
    (hsub : ∀ p ∈ news, p ∈ led) (hne : ∀ p ∈ news, p.1 ≠ x) (hs : findIn K (.ref C) "__setattr__" = some (some (.builtin "object.__setattr__")))
    (hc : clsIn K C = some cd) (hhd : cd.hasDict = true) (ne : cd.mro.isEmpty = false) (hob : cd.mro.contains (.type "object") = true) (hp : refuseLoop (.ref x) "__setattr__" cd.mro = pure ()) (ht : findIn K (.ref C) name = some none)
    (h : ∀ dx h' k, Fr h₀ L h' m → News h₀ L h' ((dx, dictOf [⟨k, .str name (s.toks + 1), v⟩] 1) :: (x, { cls := .ref C, dict := some dx, data := .fields vs }) :: news) → (∀ p ∈ news, p.1 ≠ dx) → x ≠ dx → Q () { s with heap := h', toks := s.toks + 2 }) :
    wpAny (model prog w) A (setAttr (.ref x) name v) Q E s := by
  have hX := (N _ hx).1
  have I : InstAt s.heap x { cls := .ref C, data := .fields vs } C none := ⟨hX, rfl, rfl, trivial⟩
  refine set_plain (X₀.keeps F.keep) I hs (exc_osa (s := { s with toks := s.toks + 1 }) (X₀.keeps F.keep) I hc ne hob hp ht fun b => ?_)
  obtain ⟨hh, g, d, t, os⟩ := s
  dsimp only at hX F N ⊢
  have N1 := N.push F emptyDict
  have F1 := F.push emptyDict
  have hX1 := (N1 _ (.tail _ hx)).1
  have lx := Heap.lt_size hX
  have F2 := F1.change (Heap.SameBut.update (hh.push emptyDict) x (fun o => { o with dict := some hh.objs.size })) (N1 _ (.tail _ hx)).2.1 (N1 _ (.tail _ hx)).2.2
  have N2 : News h₀ L ((hh.push emptyDict).update x (fun o => { o with dict := some hh.objs.size })) ((hh.objs.size, dictOf [] 0) :: (x, { cls := .ref C, dict := some hh.objs.size, data := .fields vs }) :: news) := fun p hp => by
    rcases List.mem_cons.mp hp with rfl | hp
    · have z := N1 _ (.head _)
      exact ⟨(Heap.get?_update_other _ _ (Nat.ne_of_lt lx)).trans z.1, z.2⟩
    rcases List.mem_cons.mp hp with rfl | hp
    · have z := N1 _ (.tail _ hx)
      exact ⟨by rw [Heap.get?_update_self _ hX1 rfl], z.2⟩
    · have z := N1 _ (.tail _ (hsub _ hp))
      exact ⟨(Heap.get?_update_other _ _ (Ne.symm (hne _ hp))).trans z.1, z.2⟩
  have l2 : ∀ p ∈ news, p.1 ≠ hh.objs.size := fun p hp => Nat.ne_of_lt (Heap.lt_size (N _ (hsub _ hp)).1)
  unfold storeInOwnDict
  refine wpAny_bind (wpAny_pure (wpAny_bind ?_))
  unfold ownDictForStores instanceDict
  refine wpAny_bind (wpAny_loadPart hX ?_)
  dsimp only
  refine wpAny_bind ((looks_clsIn (M := model prog w) (X₀.keeps F.keep) hc).here ?_)
  rw [hhd]
  show wpAny _ _ (alloc emptyDict >>= fun d => update x (fun o => { o with dict := some d }) >>= fun _ => dictMade (.ref C) x d) _ _ _
  refine wpAny_bind (wpAny_alloc (wpAny_bind (wpAny_update hX1 (wpAny_pure (a := some hh.objs.size) ?_))))
  dsimp only
  refine put_in (A := A.in1) (news := (x, { cls := .ref C, dict := some hh.objs.size, data := .fields vs }) :: news) (s := ⟨(hh.push emptyDict).update x (fun o => { o with dict := some hh.objs.size }), g, d, t + 1, os⟩) F2 N2 (.head _) (fun p hp => .tail _ hp) (fun p hp => ?_) rfl (by show 1 ≤ 1000; decide) fun h' F' N' => h _ h' _ F' N' l2 (Nat.ne_of_lt lx)
  rcases List.mem_cons.mp hp with rfl | hp
  · exact Nat.ne_of_lt lx
  · exact l2 _ hp

theorem exc_set_old {vs : Array Value} {es : List DictEntry} {n : Nat} {Q : Unit → Shared → Prop} (F : Fr h₀ L s.heap m) (X₀ : K.In h₀) (N : News h₀ L s.heap led) (hx : (x, ({ cls := .ref C, dict := some dx, data := .fields vs } : Obj)) ∈ led) (hd : (dx, dictOf es n) ∈ led)
    (hsub : ∀ p ∈ news, p ∈ led) (hne : ∀ p ∈ news, p.1 ≠ dx) (hxd : x ≠ dx) (hs : findIn K (.ref C) "__setattr__" = some (some (.builtin "object.__setattr__")))
    (hc : clsIn K C = some cd) (hhd : cd.hasDict = true) (ne : cd.mro.isEmpty = false) (hob : cd.mro.contains (.type "object") = true) (hp : refuseLoop (.ref x) "__setattr__" cd.mro = pure ()) (ht : findIn K (.ref C) name = some none)
    (hl : (getL name es).isSome = true) (hz : ∀ k u, (putL name k (.str name u) v es).length ≤ 1000)
    (h : ∀ h' k, Fr h₀ L h' m → News h₀ L h' ((dx, dictOf (putL name k (.str name (s.toks + 1)) v es) (putN name es n)) :: (x, { cls := .ref C, dict := some dx, data := .fields vs }) :: news) → Q () { s with heap := h', toks := s.toks + 2 }) :
    wpAny (model prog w) A (setAttr (.ref x) name v) Q E s := by
  have hX := (N _ hx).1
  have I : InstAt s.heap x { cls := .ref C, dict := some dx, data := .fields vs } C (some (dictOf es n)) := ⟨hX, rfl, rfl, (N _ hd).1⟩
  refine set_plain (X₀.keeps F.keep) I hs (exc_osa (s := { s with toks := s.toks + 1 }) (X₀.keeps F.keep) I hc ne hob hp ht fun b => ?_)
  obtain ⟨hh, g, d, t, os⟩ := s
  dsimp only at hX F N ⊢
  unfold storeInOwnDict
  refine wpAny_bind (wpAny_pure (wpAny_bind ?_))
  unfold ownDictForStores instanceDict
  refine wpAny_bind (wpAny_loadPart hX ?_)
  dsimp only
  refine wpAny_bind ((looks_clsIn (M := model prog w) (X₀.keeps F.keep) hc).here ?_)
  rw [hhd]
  refine wpAny_pure (a := some dx) ?_
  dsimp only
  exact put_in (A := A.in1) (s := ⟨hh, g, d, t + 1, os⟩) F N hd (fun p hp => by
    rcases List.mem_cons.mp hp with rfl | hp
    · exact hx
    · exact hsub _ hp) (fun p hp => by
    rcases List.mem_cons.mp hp with rfl | hp
    · exact hxd
    · exact hne _ hp) hl (hz _ _) fun h' F' N' => h h' _ F' N'
end
end Mine
namespace Mine
theorem rest_ZN21 : True := by
  w_top off
  k_with_none
  first | walk1 | trivial
end Mine
/- part ZN21 -/
namespace Mine
abbrev faultMro : List Value := [.ref 47, .type "Exception", .type "BaseException", .type "object"]
theorem fault_cls (w : World) : (hd.heap_39 w.params).lookup 76 = some (excClassObj (Str.ofString "SyntaxFault") (Str.ofString "SyntaxFault") 76 75 [.ref 47] faultMro true [] [] false none none (some (.ref 51)) none (some (.str (Str.ofString "SyntaxFault") 234)) (some (.str (Str.ofString "SyntaxFault") 242)) (some (.bool true)) "Exception.__new__") := by kernel_rfl
theorem fault_clsIn (w : World) : clsIn (hd.heap_39 w.params) 76 = some { name := Str.ofString "SyntaxFault", bases := [.ref 47], mro := .ref 76 :: faultMro, ns := 75, qualname := Str.ofString "SyntaxFault" } := by kernel_rfl
def WrapP (q x : Addr) (h : Heap) : Prop := h.get? q = some (wrapO "Exception.__init__" x)
theorem wrapP_of {h₀ h : Heap} {L q x : Addr} {led : List (Addr × Obj)} (N : News h₀ L h led) (hq : (q, wrapO "Exception.__init__" x) ∈ led) : WrapP q x h := (N _ hq).1
theorem callWith_W {M : Model} {A : Around} {E : Value → Shared → Prop} {s : Shared} {env : Env} {pos : Pos} {first : List Value} {Q : Value → Shared → Prop} {q x : Addr} {e : Expr} {rest : List Expr} (_X : WrapP q x s.heap)
    (h : wpAny M A (spliced (backTo pos (starEach (e :: rest) env))) (fun vs s₁ => WrapP q x s₁.heap ∧ wpAny M A (call (.ref q) (first ++ vs)) Q E s₁) E s)
    (he : starEach (e :: rest) env = (false, eval e env) :: starEach rest env := by rfl) (hplain : (backTo pos (starEach rest env)).any (·.1) = false := by rfl) :
    wpAny M A (callWith pos (.ref q) first (backTo pos (starEach (e :: rest) env)) []) Q E s := by
  rw [he] at h ⊢
  exact callWith_of (P := WrapP q x) (by show ((false || (backTo pos (starEach rest env)).any (·.1)) || false) = false; rw [hplain]; rfl)
    (fun h X => ⟨.machine, .inr (.inl rfl), (Looks.ld (part := none) X).andThen .now⟩) (evalArgs_plain h)
theorem exc_inst {h₀ h : Heap} {L x C t : Addr} {led : List (Addr × Obj)} (N : News h₀ L h led) (hx : (x, excO C t) ∈ led) : InstAt h x (excO C t) C none := ⟨(N _ hx).1, rfl, rfl, trivial⟩
section
theorem words_N21_1 : True := by
  w_top off
  k_with_none
  k_with "mine steps" => (repeat' (first | (k_unfold; (try dsimp only)) | (goal_lacks PySem.W.InvEndN PySem.W.KswEnd; (fail_if_success (with_reducible show wpAny _ _ (pyIter _) _ _ _)); (fail_if_success (with_reducible show wpAny _ _ (exec (Stmt.While _ _ _ _) _) _ _ _)); first | ((with_reducible show wpAny _ _ (call (Value.ref _) _) _ _ _); walk_at "mine call") | ((fail_if_success (with_reducible show wpAny _ _ (call (Value.ref _) _) _ _ _)); first | (k_end; wrow_close) | (walk1 <;> (try walk_at "mine fold")) | (dsimp only; walk1) | (leave1; walk_say "STEP leave1"; try dsimp only) | fail "no step"))))
  k_with "And" => (((with_reducible show WrapP _ _ _ ∧ _); refine ⟨wrapP_of (by k_asm) (by k_mem), ?_⟩; try dsimp only [List.nil_append, List.cons_append]))
  k_with "callWith ref" => ((k_here; k_dflt (refine' callWith_W (x := _) ?k1 ?_; (case k1 => exact wrapP_of (by k_asm) (by k_mem)); k_whole)))
  k_with "wpAt" => ((ks_step "attributeBase Call"; k_here; k_dflt (refine ks_node (by k_asm) (by k_asm) (by k_asm) (by k_asm) (by k_is) (by rfl) (by rfl) (exc_inst (by k_asm) (by k_mem)) (by k_is) (by rfl) (by first | rfl | decide +kernel) (by k_is) (by k_is) (by k_is) (by k_is) (by decide) (by rfl) (by rfl) (by rfl) (by rfl) (by decide +kernel) (by first | boot_by_name | rfl | kernel_rfl) ?_; intro so' h' F' N' l1)))
  k_with "getMethod ref" => ((k_here; k_dflt (first
  | (refine' ks_method ?k1 ?k2 ?k3 ?k4 ?k5 ?k6 ?k7 ?k8 ?k9 ?_; (case k1 => k_asm); (case k2 => k_asm); (case k3 => k_asm); (case k4 => k_mem); (case k5 => exact exc_inst (by k_asm) (by k_mem)); (case k6 => k_is); (case k7 => ks_is); (case k8 => k_is); (case k9 => decide); intro q' h' F' N' l1)
  | (refine' super_wrap_K (ox := excO 76 _) ?k1 ?k2 ?k3 ?k4 ?k5 rfl rfl (fault_clsIn _) ?k6 ?k7 ?k8 ?k9 ?_; (case k1 => k_asm); (case k2 => k_asm); (case k3 => k_asm); (case k4 => k_mem); (case k5 => k_mem); (case k6 => k_is); (case k7 => ks_is); (case k8 => k_is); (case k9 => decide); intro q' h' F' N' l1))))
  k_with "call ref" => ((k_here; k_dflt (first
  | (refine' wrap_call (x := e) (news := news) ?k1 ?k2 (fault_clsIn _) rfl ?k3 ?k4 ?k5 ?k6 ?k7 ?_ ?k8; (case k1 => k_asm); (case k2 => k_asm); (case k3 => k_asm); (case k4 => k_mem); (case k5 => k_mem); (case k6 => (intro p hp; repeat (first | exact hp | apply List.Mem.tail))); (case k7 => assumption); (case k8 => size_fits); intro t' h' F' N')
  | (refine' call_meth ?k1 ?k2 ?_; (case k1 => k_asm); (case k2 => k_mem); walk_at "mine enterS"))))
  k_with "setAttr ref" => ((k_here; k_dflt (first
  | (refine' exc_set_new (news := news) ?k1 ?k2 ?k3 ?k4 ?k5 ?k6 ?k7 (fault_clsIn _) rfl rfl rfl ?k8 ?k9 ?_; (case k1 => k_asm); (case k2 => k_asm); (case k3 => k_asm); (case k4 => k_mem); (case k5 => (intro p hp; repeat (first | exact hp | apply List.Mem.tail))); (case k6 => assumption); (case k7 => k_is); (case k8 => (rw [refuseLoop_ref, refuseLoop_ref]; exact exc_pass _)); (case k9 => k_is); intro dx' h' k' F' N' ne1' ne2')
  | (refine' exc_set_old (news := news) ?k1 ?k2 ?k3 ?k4 ?kd ?k5 ?k6 ?kx ?k7 (fault_clsIn _) rfl rfl rfl ?k8 ?k9 ?ka ?kb ?_; (case k1 => k_asm); (case k2 => k_asm); (case k3 => k_asm); (case k4 => k_mem); (case kd => k_mem); (case k5 => (intro p hp; repeat (first | exact hp | apply List.Mem.tail))); (case k6 => assumption); (case kx => assumption); (case k7 => k_is); (case k8 => (rw [refuseLoop_ref, refuseLoop_ref]; exact exc_pass _)); (case k9 => k_is); (case ka => rfl); (case kb => (intro k u; show 2 ≤ 1000; decide)); intro h' k' F' N'))))
  k_with "WrapP" => ((k_dflt (exact wrapP_of (by k_asm) (by k_mem))))
  k_with "mine enterS" => ((refine' ks_code_super ?k1 ?k2 ?k3 ?k4 ?k5 ?kA ?kF ?kK ?k6 ?k7 ?k8 ?k9 ?kB ?_ ?c1 ?c2 ?c3 ?c4; (case kA => exact rfl); (case kF => exact rfl); (case kK => first | exact rfl | assumption); (case k1 => k_asm); (case k2 => k_asm); (case k3 => k_asm); (case k4 => k_asm); (case k5 => k_asm); (case k6 => k_is); (case k7 => k_is); (case k8 => ktr_room); (case k9 => exact BindsTo.of_eq rfl); (case kB => exact locs rfl); (case c1 => decide); (case c2 => exact rfl); (case c3 => exact rfl); (case c4 => exact rfl); intro g' L' h' FG' F' N' B' X' T' l1; (try dsimp only); (try k_fold)))
  k_with "mine fold" => ((first | (with_reducible show wpAny _ _ (exec _ _) _ _ _) | (with_reducible show wpAny _ _ (eval (Expr.Call _ _ _ _) _) _ _ _)); ((try k_fold); (with_reducible rename Fr _ _ _ _ => lF); (with_reducible rename News _ _ _ _ => lN); (with_reducible refine fold3 lF lN ?_); clear lF lN; intro s9 m9 l9 F9 N9))
  trivial
set_option maxRecDepth 100000 in
set_option maxHeartbeats 4000000 in
theorem fault_spec (w : World) (y : Str) (t0 t1 : Tok) (news : List (Addr × Obj)) :
    Spec w 76 10 [.str y t0, .int 0 t1] news (fun news' r => ∃ e dx ta es n, r = .ref e ∧ news' = (dx, dictOf es n) :: (e, ({ cls := .ref 76, dict := some dx, data := .fields #[.ref ta, .none, .none, .none, .bool false, .none] } : Obj)) :: news ∧
      lookIn (Str.ofString "spot") (dictOf es n) = some (some (.int 0 t1)) ∧ e ≠ dx ∧ (∀ p ∈ news, p.1 ≠ e ∧ p.1 ≠ dx)) := by
  unfold Spec
  k_fill
  intro loose mean mg mb dp un gd cn cs a ccd cl outer A₀ base h₀ L m s Q E B F X N T hk hdp hun hret
  refine wpAny_call (exc_make (C := 76) (fI := 66) F N (X.keeps F.keep) (fault_cls w) PySem.F.excBase_Exception (by decide) (by decide) (by decide) (by k_is) (by k_is) (by size_fits) ?_)
  intro e t h1 F1 N1 l1 l2
  have hne : ∀ p ∈ news, p.1 ≠ e := fun p hp => Nat.ne_of_lt (Nat.lt_trans (l1 p hp) l2)
  walk_at "mine enterS"
  k_steps
  exact hret _ _ _ _ (by k_asm) (by k_asm) ⟨e, dx', _, _, _, rfl, rfl, rfl, ne2', fun p hp => ⟨hne p hp, ne1' p hp⟩⟩
end
end Mine
/- part ZE5 -/
namespace Mine
open PySem.Builtin.Str
theorem dict_mapFields (o : Obj) (f) : (o.mapFields f).dict = o.dict := by
  obtain ⟨c, d, dt, sl⟩ := o
  cases dt <;> rfl
section
open PySem.Heap
/-- an exception object on its way, its own dict told -/
def TrD (h base : Heap) (e : Addr) (cls a0 fl : Value) (dx : Addr) : Prop :=
  ∃ oe vs T oT ts, h.get? e = some oe ∧ (oe.cls = cls ∧ vs[0]? = some a0 ∧ oe.dict = some dx) ∧ oe.data = .fields vs ∧ vs[1]? = some (.ref T) ∧ base.get? T = none ∧ T ≠ e ∧ h.get? T = some oT ∧ oT.data = .fields ts ∧ ts[3]? = some fl
/-- what a note leaves behind -/
structure NoteD (base : Heap) (l : List Env) (e : Addr) (cls a0 fl : Value) (dx : Addr) (h h' : Heap) : Prop where
  stays : base.StaysIn h'
  fun_ : h'.FunFrames base l
  tr : TrD h' base e cls a0 fl dx
  up : h.UpToSlots h'

variable {M : Model} {A : Around} {E : Value → Shared → Prop} {s : Shared} {base : Heap} {env : Env} {outer l : List Env} {L e dx : Addr} {oe : Obj} {vs : Array Value} {head a0 cls fl : Value} {hadNext : Bool} {Q : Unit → Shared → Prop}

theorem entryD (hfr : A.frames = some (env :: outer)) (hl : s.heap.FunFrames base (env :: outer)) (hf : env.frame = some L)
    (he : s.heap.get? e = some oe) (hkb : base.StaysIn s.heap) (hen : base.get? e = none) (hd : oe.data = .fields vs) (hsz : 1 < vs.size) (h0 : vs[0]? = some a0) (hdx : oe.dict = some dx)
    (h : ∀ h', NoteD base (env :: outer) e oe.cls a0 (rawInt L) dx s.heap h' → Q () { s with heap := h' }) :
    wpAny M A (do let a ← frameOf env; let pl ← entryPlaceOf L hadNext; let b ← EntryCells.newEntry head a .none (rawInt L) .none pl; setField (.ref e) 1 b) Q E s := by
  have nf : ∀ b o, s.heap.get? b = some o → (∀ vs, o.data ≠ .fields vs) → b ≠ e := fun b o hb hn q => by
    subst q
    rw [he] at hb
    cases hb
    exact hn vs hd
  refine wpAny_bind (wpAny_frameOf_fun hfr hl hf fun h₁ hs₁ => ?_)
  have he₁ : h₁.get? e = some oe := (hs₁.2.1 e fun hm => by
    obtain ⟨_, o, ho, hn⟩ := hl.mem hm
    exact nf e o ho hn rfl).trans he
  have kb₁ : base.StaysIn h₁ := fun b o hb => (hs₁.2.1 b fun hm => by
    rw [(hl.mem hm).1] at hb
    cases hb).trans (hkb b o hb)
  refine wpAny_bind (wpAny_entryPlaceOf fun pl hpl => ?_)
  unfold EntryCells.newEntry newFields
  refine wpAny_bind (wpAny_newObj_type ?_ (hpl.sizeOk5 _ _ _ _ _))
  generalize hT : ({ cls := .type "traceback", dict := none, data := .fields ([head, .ref L, .none, rawInt L, .none] ++ (if pl.isEmpty then List.replicate 6 Value.none else pl)).toArray } : Obj) = tb
  have htd : ∃ ts, tb.data = .fields ts ∧ ts[3]? = some (rawInt L) := by
    subst hT
    exact ⟨_, rfl, by rcases hpl with rfl | ⟨_, _, _, _, _, _, _, rfl⟩ <;> simp⟩
  have hfree : tb.isFreed = false := by subst hT; rfl
  have he₂ := Heap.get?_push_of_some (h := h₁) tb he₁
  refine wpAny_setField he₂ hd hsz (h _ ?_)
  have hTe : h₁.objs.size ≠ e := Nat.ne_of_gt (Heap.lt_size he₁)
  have hd₃ := Obj.data_mapFields hd (·.setIfInBounds 1 (Value.ref h₁.objs.size))
  have keep : ∀ b o, b ≠ e → h₁.get? b = some o → ((h₁.push tb).update e (Obj.mapFields (·.setIfInBounds 1 (Value.ref h₁.objs.size)))).get? b = some o := fun b o hbe hb =>
    (Heap.get?_update_other _ _ (Ne.symm hbe)).trans (Heap.get?_push_of_some _ hb)
  refine ⟨fun b o hb => keep b o (fun q => by rw [q, hen] at hb; cases hb) (kb₁ b o hb), hl.of_keeps fun b o hb hn => ?_, ?_, fun b o hb hn => ?_⟩
  · obtain ⟨sl, hs⟩ := hs₁.2.2 b o hb
    exact ⟨_, keep b _ (nf b o hb hn) hs, rfl⟩
  · obtain ⟨ts, htd, ht3⟩ := htd
    refine ⟨_, _, h₁.objs.size, tb, ts, Heap.get?_update_self _ he₂ (Obj.isFreed_of_fields hd₃), ⟨Obj.cls_mapFields _ _, ?_, ?_⟩, hd₃, by simp [hsz], kb₁.fresh, hTe, ?_, htd, ht3⟩
    · rw [Array.getElem?_setIfInBounds_ne (by decide)]; exact h0
    · rw [dict_mapFields]; exact hdx
    · exact (Heap.get?_update_other _ _ (Ne.symm hTe)).trans (Heap.get?_push_size h₁ hfree)
  · obtain ⟨sl, hs⟩ := hs₁.2.2 b o hb
    exact ⟨sl, keep b _ (nf b o hb hn) hs⟩

theorem note_firstD (hfr : A.frames = some (env :: outer)) (hl : s.heap.FunFrames base (env :: outer)) (hf : env.frame = some L)
    (he : s.heap.get? e = some oe) (hkb : base.StaysIn s.heap) (hen : base.get? e = none) (hd : oe.data = .fields vs) (h1 : vs[1]? = some .none) (h0 : vs[0]? = some a0) (hdx : oe.dict = some dx)
    (h : ∀ h', NoteD base (env :: outer) e oe.cls a0 (rawInt L) dx s.heap h' → Q () { s with heap := h' }) : wpAny M A (noteFrame (.ref e) env) Q E s := by
  unfold noteFrame
  simp only [hf]
  refine wpAny_bind (wpAny_field he hd h1 ?_)
  rw [if_neg (by decide)]
  exact entryD hfr hl hf he hkb hen hd (Array.getElem?_eq_some_iff.mp h1).1 h0 hdx h

theorem note_onD (hfr : A.frames = some (env :: outer)) (hl : s.heap.FunFrames base (env :: outer)) (hf : env.frame = some L) (ht : TrD s.heap base e cls a0 .none dx) (hkb : base.StaysIn s.heap) (hen : base.get? e = none)
    (h : ∀ h', NoteD base (env :: outer) e cls a0 (rawInt L) dx s.heap h' → Q () { s with heap := h' }) : wpAny M A (noteFrame (.ref e) env) Q E s := by
  obtain ⟨oe, vs, T, oT, ts, he, ⟨hcls, h0, hdx⟩, hd, h1, hnT, hTe, hT, hdT, h3⟩ := ht
  subst hcls
  unfold noteFrame
  simp only [hf]
  refine wpAny_bind (wpAny_field he hd h1 ?_)
  rw [if_pos (show (Value.ref T != Value.none) = true from by simp)]
  refine wpAny_bind (wpAny_field hT hdT h3 ?_)
  rw [if_neg (show ¬ ((Value.none == rawInt L) = true) from by simp [rawInt])]
  refine wpAny_bind (wpAny_setField hT hdT (Array.getElem?_eq_some_iff.mp h3).1 ?_)
  have hT' : ∀ b, b ≠ T → (s.heap.update T (Obj.mapFields (·.setIfInBounds 3 Value.none))).get? b = s.heap.get? b := fun b hb => Heap.get?_update_other _ _ (Ne.symm hb)
  have nf : ∀ b o, s.heap.get? b = some o → (∀ vs, o.data ≠ .fields vs) → b ≠ T := fun b o hb hn q => by
    subst q
    rw [hT] at hb
    cases hb
    exact hn ts hdT
  refine entryD hfr (hl.of_keeps fun b o hb hn => ⟨o, (hT' b (nf b o hb hn)).trans hb, rfl⟩) hf ((hT' e (Ne.symm hTe)).trans he)
    (fun b o hb => (hT' b fun q => by rw [q, hnT] at hb; cases hb).trans (hkb b o hb)) hen hd (Array.getElem?_eq_some_iff.mp h1).1 h0 hdx
    fun h' n => h h' ⟨n.stays, n.fun_, n.tr, fun b o hb hn => n.up b o ((hT' b (nf b o hb hn)).trans hb) hn⟩

theorem flightD (hkb : base.StaysIn s.heap) (hl : s.heap.FunFrames base l) (ht : TrD s.heap base e cls a0 fl dx) (h : ∀ h', NoteD base l e cls a0 .none dx s.heap h' → Q () { s with heap := h' }) :
    wpAny M A (setFlight (.ref e) none) Q E s := by
  obtain ⟨oe, vs, T, oT, ts, he, hcls, hd, h1, hnT, hTe, hT, hdT, h3⟩ := ht
  have hsz3 : 3 < ts.size := (Array.getElem?_eq_some_iff.mp h3).1
  have hT' : ∀ b, b ≠ T → (s.heap.update T (Obj.mapFields (·.setIfInBounds 3 ((none : Option Addr).elim Value.none fun f => rawInt f)))).get? b = s.heap.get? b :=
    fun b hb => Heap.get?_update_other _ _ (Ne.symm hb)
  have nf : ∀ b o, s.heap.get? b = some o → (∀ vs, o.data ≠ .fields vs) → b ≠ T := fun b o hb hn q => by
    subst q
    rw [hT] at hb
    cases hb
    exact hn ts hdT
  unfold setFlight
  refine wpAny_bind (wpAny_field he hd h1 ?_)
  rw [if_pos (show (Value.ref T != Value.none) = true from by simp)]
  refine wpAny_setField hT hdT hsz3 (h _ ⟨fun b o hb => (hT' b fun q => by rw [q, hnT] at hb; cases hb).trans (hkb b o hb), hl.of_keeps fun b o hb hn => ⟨o, (hT' b (nf b o hb hn)).trans hb, rfl⟩, ?_,
    fun b o hb hn => ⟨o.slots, (hT' b (nf b o hb hn)).trans hb⟩⟩)
  exact ⟨oe, vs, T, _, _, (hT' e (Ne.symm hTe)).trans he, hcls, hd, h1, hnT, hTe, Heap.get?_update_self _ hT (Obj.isFreed_of_fields (Obj.data_mapFields hdT _)), Obj.data_mapFields hdT _, by simp [hsz3]⟩

/-- a frame is left by a fresh exception -/
theorem leave_firstD (hfr : A.frames = some (env :: outer)) (hl : s.heap.FunFrames base (env :: outer)) (hf : env.frame = some L)
    (he : s.heap.get? e = some oe) (hkb : base.StaysIn s.heap) (hen : base.get? e = none) (hd : oe.data = .fields vs) (h1 : vs[1]? = some .none) (h0 : vs[0]? = some a0) (hdx : oe.dict = some dx)
    (h : ∀ h', NoteD base (env :: outer) e oe.cls a0 .none dx s.heap h' → Q () { s with heap := h' }) : wpAny M A (leaving env (.ref e)) Q E s := by
  unfold leaving
  refine wpAny_bind (note_firstD hfr hl hf he hkb hen hd h1 h0 hdx fun h₁ n₁ => ?_)
  exact flightD n₁.stays n₁.fun_ n₁.tr fun h₂ n₂ => h h₂ ⟨n₂.stays, n₂.fun_, n₂.tr, n₁.up.trans n₂.up⟩
end
end Mine
/- part ZE6 -/
namespace Mine
open PySem.Builtin.Str
/-- an own exception on its way, its own dict and the ledger told -/
def RaisedD (base G : Heap) (l : List Env) (e : Addr) (cls : Value) (dx : Addr) (news : List (Addr × Obj)) (h : Heap) : Prop :=
  ∃ B, base.StaysIn B ∧ (∀ b o, G.get? b = some o → b ∉ l.filterMap (·.frame) → B.get? b = some o) ∧ (∀ q ∈ news, B.get? q.1 = some q.2 ∧ G.get? q.1 = none ∧ base.get? q.1 = none) ∧
    B.StaysIn h ∧ B.get? e = none ∧ h.FunFrames B l ∧ ∃ a0, TrD h B e cls a0 .none dx
section
variable {M : Model} {A : Around} {E : Value → Shared → Prop} {s' : Shared} {base g h : Heap} {outer : List Env} {L a e dx : Addr} {m : Str → Option Value} {name : Str} {scope : Scope} {cd cls a0 : Value} {Q : Unit → Shared → Prop} {news : List (Addr × Obj)} {oe : Obj} {vs : Array Value}
theorem leave_raiseD (K : Below A base outer g) (F : Fr g L s'.heap m) (N : News g L s'.heap ((e, oe) :: news)) (hne : ∀ p ∈ news, p.1 ≠ e) (hcls : oe.cls = cls) (hd : oe.data = .fields vs) (h1 : vs[1]? = some .none) (h0 : vs[0]? = some a0) (hdx : oe.dict = some dx)
    (hQ : ∀ h', RaisedD base g outer e cls dx news h' → g.UpToSlots h' → Q () { s' with heap := h' }) (hk : scope.kind = .function := by rfl) :
    wpAny M (A.deeper (envOf name scope L a cd)) (leaving (envOf name scope L a cd) (.ref e)) Q E s' := by
  have K' := K.push (name := name) (a := a) (cd := cd) F hk
  have he := (N _ (.head _)).1
  have nfe : e ∉ (envOf name scope L a cd :: outer).filterMap (·.frame) := fun hm => by
    obtain ⟨_, o, ho, hn⟩ := K'.frames.mem hm
    rw [he] at ho
    cases ho
    exact hn _ hd
  have hge : g.get? e = none := (N _ (.head _)).2.2
  have hbe : base.get? e = none := fresh_of_stays K.stays hge
  have hin : ∀ env ∈ (envOf name scope L a cd :: outer), ∀ b, env.frame = some b → b ∈ e :: (envOf name scope L a cd :: outer).filterMap (·.frame) := fun env he b hb => .tail _ (List.mem_filterMap.mpr ⟨env, he, hb⟩)
  have get : ∀ b o, s'.heap.get? b = some o → b ≠ e → b ∉ (envOf name scope L a cd :: outer).filterMap (·.frame) → (hideAll s'.heap (e :: (envOf name scope L a cd :: outer).filterMap (·.frame))).get? b = some o := fun b o q n1 n2 => hideAll_get _ q fun hm => by
    rcases List.mem_cons.mp hm with z | z
    · exact n1 z
    · exact n2 z
  have st : base.StaysIn (hideAll s'.heap (e :: (envOf name scope L a cd :: outer).filterMap (·.frame))) := fun b o q => get b o (K'.stays b o q) (fun z => by rw [z, hbe] at q; cases q) fun hm => by
    rw [(K'.frames.mem hm).1] at q; cases q
  have sg : ∀ b o, g.get? b = some o → b ∉ outer.filterMap (·.frame) → (hideAll s'.heap (e :: (envOf name scope L a cd :: outer).filterMap (·.frame))).get? b = some o := fun b o q nm => get b o (F.keep b o q) (fun z => by rw [z, hge] at q; cases q) fun hm => by
    rcases kts_mem hm with z | z
    · rw [z, kts_self F] at q
      cases q
    · exact nm z
  have hl : ∀ q ∈ news, (hideAll s'.heap (e :: (envOf name scope L a cd :: outer).filterMap (·.frame))).get? q.1 = some q.2 ∧ g.get? q.1 = none ∧ base.get? q.1 = none := fun q hq => by
    have z := N _ (.tail _ hq)
    refine ⟨get _ _ z.1 (hne _ hq) fun hm => ?_, z.2.2, fresh_of_stays K.stays z.2.2⟩
    rcases kts_mem hm with y | y
    · exact z.2.1 y
    · obtain ⟨_, o, ho, _⟩ := K.frames.mem y
      rw [z.2.2] at ho
      cases ho
  refine leave_firstD K'.stack (funFrames_hide K'.frames hin) rfl he (fun b o q => of_hideAll _ q) (hideAll_none _ (.head _)) hd h1 h0 hdx fun h' n => ?_
  obtain ⟨n1, ⟨_, _, n2⟩, n3, n4⟩ := n
  exact hQ h' ⟨_, st, sg, hl, n1, hideAll_none _ (.head _), n2, a0, by rw [← hcls]; exact n3⟩ ((Heap.UpToSlots.of_keeps F.keep).trans n4)
end

section
variable {prog : Program} {w : World} {A₀ : Around} {E : Value → Shared → Prop} {s' : Shared} {base g g₀ G : Heap} {outer : List Env} {L a e dx C : Addr} {m : Str → Option Value} {name : Str} {scope : Scope} {cd : Value}
  {n : Str} {b₀ : Stmt} {suite : List Stmt} {pos np : Pos} {rest : List ExceptHandler} {Q : Flow → Shared → Prop} {news : List (Addr × Obj)} {KF : Frag}
  {p : Program} {loose : List Str} {mean : ExcName → Option Value} {mg mb : Str → Option Value} {x : Str}
theorem caughtD (R : RaisedD base G (envOf name scope L a cd :: outer) e (.ref C) dx news s'.heap) (F : Fr g L G m) (K : Below A₀ base outer g) (hsm : G.UpToSlots s'.heap) (XB : KF.In base) (TB : Top p loose mean mg mb base)
    (T0 : KtsTurn (outer.filterMap (·.frame)) g₀ g)
    (ex : nsIn KF mainGlobals x = some (some (.ref C))) (q : ktsIn KF C "BaseException" = true)
    (k : ∀ h' g' tk oe ws, KtsTurn (outer.filterMap (·.frame)) g₀ g' → Fr g' L h' (fun y => if y = n then some (.ref e) else m y) → News g' L h' ((e, oe) :: news) → oe.cls = .ref C → oe.dict = some dx → oe.data = .fields ws → Below A₀ base outer g' → KF.In g' → Top p loose mean mg mb g' →
      wpAny (model prog w) ((A₀.deeper (envOf name scope L a cd)).mark (some (.ref e))) (execs (b₀ :: suite) (envOf name scope L a cd))
        (fun f s₄ => wpAny (model prog w) (A₀.deeper (envOf name scope L a cd)) (do bindName (envOf name scope L a cd) n .none; unbindBehindTheSuite (envOf name scope L a cd) n pos) (fun _ s₅ => Q f s₅) E s₄)
        (AsSuiteRaised (model prog w) ((A₀.deeper (envOf name scope L a cd)).mark (some (.ref e))) (envOf name scope L a cd) n pos (notedBy (model prog w) ((A₀.deeper (envOf name scope L a cd)).mark (some (.ref e))) (envOf name scope L a cd) (cameBackBy (model prog w) (A₀.deeper (envOf name scope L a cd)) (envOf name scope L a cd) E)))
        { s' with heap := h', toks := tk })
    (hk : scope.kind = .function := by rfl) (hlo : (envOf name scope L a cd).kindOf n = some .local := by rfl) (hx : (envOf name scope L a cd).kindOf x = some .globalImplicit := by rfl) (hd : (x == ("__debug__" : Str)) = false := by decide) :
    wpAny (model prog w) (A₀.deeper (envOf name scope L a cd)) (noteFrame (.ref e) (envOf name scope L a cd))
      (fun _ s₂ => wpAny (model prog w) (A₀.deeper (envOf name scope L a cd)) (setFlight (.ref e) none) (fun _ s₃ =>
        wpAny (model prog w) (A₀.deeper (envOf name scope L a cd)) (handleBy (.ref e) (envOf name scope L a cd) (.ExceptHandler (some (.Name x np)) (some n) (b₀ :: suite) pos :: rest)) Q E s₃) E s₂) E s' := by
  obtain ⟨B, hB, hBG, hl, r1, r2, r3, a0, r4⟩ := R
  have hL : B.get? L = none := by
    obtain ⟨_, ⟨L', _, hf, hn', _⟩, _⟩ := r3
    obtain rfl : L = L' := Option.some.inj hf
    exact hn'
  refine note_onD (Around.frames_deeper K.stack) r3 rfl r4 r1 r2 fun h₄ n₄ => ?_
  refine flightD n₄.stays n₄.fun_ n₄.tr fun h₅ n₅ => ?_
  have hsm₅ := n₄.up.trans n₅.up
  obtain ⟨g₅, T₅, F₅, K₅⟩ := kts_ground K F hBG n₅.stays (hsm.trans hsm₅)
  have X₅ : KF.In g₅ := XB.keeps K₅.stays
  have P₅ : TopRead p loose mg mb g₅ := topRead_of (TB.keeps K₅.stays)
  obtain ⟨ob, _, _, _, _, hob, ⟨hobc, _, _⟩, _⟩ := n₅.tr
  obtain ⟨nm, q', N, bs, bm, hdct, sn, sub, ab, col, dd, k0, k1, k2, k3, k5, newId, hC, hbase, hbT⟩ := kts_cls X₅ q
  have hC₅ := F₅.keep _ _ hC
  refine wpAny_handleBy_cons (codeAny_handlers_test (name_K F₅ X₅ P₅ ex ?_ hk hx hd)) (by intro q; cases q)
  refine wpAny_excMatches_sub_self hC₅ hob hobc hbase (codeAny_handlers_suite_as ?_)
  refine flightD n₅.stays n₅.fun_ n₅.tr fun h₆ n₆ => ?_
  have hsm₆ := hsm₅.trans n₆.up
  obtain ⟨g₆, T₆, F₆, K₆⟩ := kts_ground K F hBG n₆.stays (hsm.trans hsm₆)
  obtain ⟨oe, ws, _, _, _, hoe, ⟨hoec, _, hoex⟩, hoed, _⟩ := n₆.tr
  have ne₆ : g₆.get? e = none := T₆.none_ _ (kts_fresh F hBG r2 fun o ho m => by
    obtain ⟨_, o', ho', hd⟩ := K.frames.mem m
    rw [ho] at ho'
    cases ho'
    obtain ⟨sl, hs⟩ := (hsm.trans hsm₆) _ _ (F.keep _ _ ho) hd
    rw [hoe] at hs
    cases hs
    exact hd _ hoed)
  have Nl : News g₆ L h₆ news := fun q hq => ⟨n₆.stays _ _ (hl q hq).1, (fun z => by have := (hl q hq).1; rw [z, hL] at this; cases this), T₆.none_ _ (kts_none F.keep (hl q hq).2.1)⟩
  have N₆ := News.more F₆ Nl hoe (fun es n q => by rw [hoed] at q; cases q) ne₆
  have X₆ : KF.In g₆ := XB.keeps K₆.stays
  have P₆ : Top p loose mean mg mb g₆ := TB.keeps K₆.stays
  refine stN F₆ N₆ (fun h₇ F₇ N₇ => ?_) hk hlo
  exact k h₇ g₆ _ oe ws (T0.trans T₆) F₇ N₇ hoec hoex hoed K₆ X₆ P₆
end
end Mine
namespace Mine
theorem rest_ZN22 : True := by
  w_top off
  k_with_none
  first | walk1 | trivial
end Mine
/- part ZN22 -/
namespace Mine
abbrev faultO : Obj := excClassObj (Str.ofString "SyntaxFault") (Str.ofString "SyntaxFault") 76 75 [.ref 47] faultMro true [] [] false none none (some (.ref 51)) none (some (.str (Str.ofString "SyntaxFault") 234)) (some (.str (Str.ofString "SyntaxFault") 242)) (some (.bool true)) "Exception.__new__"
def RaisableD (E : Value → Shared → Prop) (v : Value) (s₁ : Shared) : Prop :=
  ∃ a t dx, v = .ref a ∧ s₁.heap.get? 76 = some faultO ∧ s₁.heap.get? a = some { cls := .ref 76, dict := some dx, data := .fields #[.ref t, .none, .none, .none, .bool false, .none] } ∧ E (.ref a) s₁
theorem news_swap {h₀ h : Heap} {L : Addr} {p q : Addr × Obj} {r : List (Addr × Obj)} (N : News h₀ L h (p :: q :: r)) : News h₀ L h (q :: p :: r) := fun x hx => by
  rcases List.mem_cons.mp hx with rfl | hx
  · exact N _ (.tail _ (.head _))
  rcases List.mem_cons.mp hx with rfl | hx
  · exact N _ (.head _)
  · exact N _ (.tail _ (.tail _ hx))
theorem cons_ne {news : List (Addr × Obj)} {x d : Addr} {o : Obj} (h2 : x ≠ d) (h1 : ∀ p ∈ news, p.1 ≠ d) : ∀ p ∈ (x, o) :: news, p.1 ≠ d := fun p hp => by
  rcases List.mem_cons.mp hp with rfl | hp
  · exact h2
  · exact h1 p hp
theorem Raise_D {M : Model} {A : Around} {E : Value → Shared → Prop} {s : Shared} {env : Env} {e : Expr} {pos : Pos} {Q : Flow → Shared → Prop} (hh : A.handled = none)
    (h : wpAny M A (eval e env) (RaisableD E) E s) : wpAny M A (exec (.Raise (some e) none pos) env) Q E s := by
  have hcB : (Value.ref 76 :: faultMro).contains (.type "BaseException") = true := by decide
  show wpAny M A (do standAt pos; raiseStmt env (some (do let v ← eval e env; standAt pos; pure v)) none) Q E s
  refine wpAny_bind (wpAny_standAt ?_)
  unfold raiseStmt
  dsimp only
  refine wpAny_bind (wpAny_bind (wpAny_mono h (fun v s₁ h₁ => wpAny_bind (wpAny_standAt (wpAny_pure ?_))) fun _ _ x => x))
  obtain ⟨a, t, dx, rfl, hC, he, hE⟩ := h₁
  obtain ⟨hp, g, d, tk, os⟩ := s₁
  repeat (first | with_reducible refine wpAny_loadPart_at he ?_ | with_reducible refine wpAny_loadPart_at hC ?_ | (with_reducible refine wpAny_isSubtype_exc hC ?_; rw [hcB]) | wp_step)
  exact wpAny_raiseNew_none hh hE
theorem not_kinds {k : Str} (h : k = Str.ofString "list" ∨ k = Str.ofString "number" ∨ k = Str.ofString "") : (k == Str.ofString "sym") = false ∧ (k == Str.ofString "num") = false ∧ (k == Str.ofString "dec") = false ∧ (k == Str.ofString "bits") = false ∧ (k == Str.ofString "str") = false ∧ (k == Str.ofString "key") = false ∧ k.length ≤ 6 := by
  rcases h with rfl | rfl | rfl <;> decide +kernel
section
theorem words_N22_1 : True := by
  w_top off
  k_with_none
  k_with "mine steps" => (repeat' (first | (k_unfold; (try dsimp only)) | (goal_lacks PySem.W.InvEndN PySem.W.KswEnd; (fail_if_success (with_reducible show wpAny _ _ (pyIter _) _ _ _)); (fail_if_success (with_reducible show wpAny _ _ (exec (Stmt.While _ _ _ _) _) _ _ _)); first | ((with_reducible show wpAny _ _ (call (Value.ref _) _) _ _ _); walk_at "mine call") | ((fail_if_success (with_reducible show wpAny _ _ (call (Value.ref _) _) _ _ _)); first | (k_end; wrow_close) | (walk1 <;> (try walk_at "mine fold")) | (dsimp only; walk1) | (leave1; walk_say "STEP leave1"; try dsimp only) | fail "no step"))))
  k_with "exec Raise some none" => ((k_here; refine Raise_D rfl ?_))
  k_with "mine enter" => ((refine' code_def ?k1 ?k2 ?k3 ?k4 ?k5 ?kA ?kF ?kK ?k6 ?k7 ?k8 ?k9 ?kB ?_ ?c2 ?c3 ?c4 ?c5; (case kA => exact rfl); (case kF => exact rfl); (case kK => first | exact rfl | assumption); (case k1 => k_asm); (case k2 => k_asm); (case k3 => k_asm); (case k4 => k_asm); (case k5 => k_asm); (case k6 => k_is); (case k7 => k_is); (case k8 => ktr_room); (case k9 => exact BindsTo.of_eq rfl); (case c5 => decide); (case kB => exact locs rfl); (case c2 => exact rfl); (case c3 => exact rfl); (case c4 => exact rfl); k_whole; intro g' L' h' FG' F' N' B' X' T'; (try dsimp only); (try k_fold)))
  k_with "ite" => (first | refine ite_t (by assumption) ?_ | refine ite_f (by assumption) ?_ | refine ite_n (by assumption) ?_)
  k_with "mine fold" => ((first | (with_reducible show wpAny _ _ (exec _ _) _ _ _) | (with_reducible show wpAny _ _ (eval (Expr.Call _ _ _ _) _) _ _ _)); ((try k_fold); (with_reducible rename Fr _ _ _ _ => lF); (with_reducible rename News _ _ _ _ => lN); (with_reducible refine fold3 lF lN ?_); clear lF lN; intro s9 m9 l9 F9 N9))
  trivial
set_option maxRecDepth 100000 in
set_option maxHeartbeats 4000000 in
theorem word_raises (w : World) (d : Addr) (n : Nat) (v2 : Value) (t : Tok) (k : Str) (hk1 : k = Str.ofString "list" ∨ k = Str.ofString "number" ∨ k = Str.ofString "") (news : List (Addr × Obj)) :
    ∀ (loose : List Str) (mean : ExcName → Option Value) (mg mb : Str → Option Value) (dp un : Nat) (gd : Option (List Code)) (cn : Str) (cs : Scope) (L a : Addr) (ccd : Value) (cl : List (Str × Addr)) (outer : List Env) (A₀ : Around) (base h₀ : Heap) (m : Str → Option Value) (s : Shared) (Q E : Value → Shared → Prop),
    Below A₀ base outer h₀ → Fr h₀ L s.heap m → (hd.heap_39 w.params).In h₀ → News h₀ L s.heap ((d, ({ cls := .type "tuple", data := .seq #[Value.str k t, v2] n } : Obj)) :: news) → Top hd.view_39 loose mean mg mb h₀ → cs.kind = .function → dp + 20 < recursionLimit → un + 8 * 20 < cLine →
    (∀ e dx es j t1 g h' tk, RaisedD base g (envX cn cs L a ccd cl :: outer) e (.ref 76) dx ((dx, dictOf es j) :: (d, ({ cls := .type "tuple", data := .seq #[Value.str k t, v2] n } : Obj)) :: news) h' → Fr h₀ L g m → g.UpToSlots h' → lookIn (Str.ofString "spot") (dictOf es j) = some (some (.int 0 t1)) → E (.ref e) { s with heap := h', toks := tk }) →
    wpAny (model PySem.Challenge.rw_qz0001_01.row.prog w) (ktrTop dp un gd cn cs L a ccd cl outer) (call (.ref 135) [.ref d]) Q E s := by
  k_fill
  obtain ⟨q1, q2, q3, q4, q5, q6, hkl⟩ := not_kinds hk1
  intro loose mean mg mb dp un gd cn cs L a ccd cl outer A₀ base h₀ m s Q E B F X N T hk hdp hun herr
  refine wpAny_call ?_
  k_dflt (walk_at "mine enter")
  (try k_gentoks)
  refine fold_env ?_
  intro A9 v9
  have uA9 : A9.units = un + 3 := by rfl
  have dA9 : A9.depth = dp + 1 := by rfl
  walk_at "mine steps"
  k_dflt (refine Spec.use' (by k_asm) (by k_asm) (by exact fault_spec _ _ _ _ _) (by k_asm) (by k_asm) (by k_asm) (by first | exact rfl | assumption) (by ktr_room) (by ktr_units) ?_)
  rintro r1 news1 h1 tk1 F1 N1 ⟨e, dx, ta, es, j, rfl, rfl, hsp, hed, hne⟩
  refine ⟨e, ta, dx, rfl, F1.keep _ _ ((by k_asm : (hd.heap_39 w.params).In _) _ _ (fault_cls w)), (N1 _ (.tail _ (.head _))).1, ?_⟩
  have N2 := news_swap N1
  have hne2 := cons_ne (o := dictOf es j) (Ne.symm hed) (fun p hp => (hne p hp).1)
  rename Fr h₀ _ _ _ => FG
  refine leave_raiseD (by k_asm) F1 N2 hne2 rfl rfl rfl rfl rfl (fun h' R up => ?_)
  exact herr e dx es j _ _ h' tk1 R FG up hsp
end
end Mine
/- part ZE7 -/
namespace Mine
open PySem.Builtin.Str
section
open PySem.Builtin PySem.Builtin.ObjectAttr
variable {prog : Program} {w : World} {A : Around} {E : Value → Shared → Prop} {s : Shared} {K : Frag} {x C : Addr} {ox : Obj} {od : Option Obj} {name : Str} {expr : Bool} {v : Value} {Q : Value → Shared → Prop}
set_option maxRecDepth 100000 in
set_option maxHeartbeats 400000 in
/-- an attribute of an own exception object, kept in its own dict -/
theorem exc_get (X : K.In s.heap) (I : InstAt s.heap x ox C od) (hga : findIn K (.ref C) "__getattribute__" = some (some (.builtin "BaseException.__getattribute__"))) (hgt : findIn K (.ref C) "__getattr__" = some none)
    (hb : mroIn K C (.type "BaseException") = some true) (hf : findObj K C od name = some (.value v)) (hv : handedIn v = true) (h : Q v { s with toks := s.toks + 1 }) : wpAny (model prog w) A (getAttr (.ref x) name expr) Q E s := by
  obtain ⟨hh, g, d, t, os⟩ := s
  have FB := PySem.F.attr_Exception
  have L0 := I.type (M := model prog w)
  have L1 := looks_findIn (M := model prog w) X hga
  have L2 := looks_findIn (M := model prog w) X hgt
  have L3 := looks_find (M := model prog w) X I hf
  have L4 : Looks (model prog w) hh (isInstance (.ref x) (.type "BaseException")) true := L0.andThen (looks_mroIn X hb)
  have hx : (expr && onTheHeap (Value.builtin "BaseException.__getattribute__")) = false := by cases expr <;> rfl
  have hk : builtinKind "BaseException.__getattribute__" = some .slot := by decide +kernel
  have hsplit : splitId "BaseException.__getattribute__" = some ("BaseException", "__getattribute__") := by decide +kernel
  unfold getAttr getAttrBy
  refine wpAny_bind (wpAny_mkText (wpAny_holding (wpAny_bind (L0.at (wpAny_bind (L1.at ?_))))))
  show wpAny _ _ (if (onTheHeap (.ref C) && (Value.builtin "BaseException.__getattribute__" == .builtin "object.__getattribute__")) = true then _ else getAttrByItsOwn (.ref x) (.str name t) (.ref C) (.builtin "BaseException.__getattribute__") true expr) _ _ _
  have hne : (Value.builtin "BaseException.__getattribute__" == .builtin "object.__getattribute__") = false := by decide +kernel
  rw [hne, Bool.and_false, if_neg (by decide)]
  unfold getAttrByItsOwn
  refine wpAny_bind (show wpAny _ _ (typeLookup (.ref C) "__getattr__") _ _ _ from L2.at ?_)
  refine wpAny_bind (wpAny_attempt (wpAny_holding ?_))
  unfold callGetattribute
  rw [hx, if_neg (by decide)]
  unfold boundAndCalled
  refine wpAny_bind (wpAny_of_eq (FB.ga.bind _) ?_)
  show wpAny (model prog w) A (call (.builtin "BaseException.__getattribute__") [.ref x, .str name t]) _ _ ⟨hh, g, d, t + 1, os⟩
  refine wpAny_call (codeAny_call_builtin FB.ga.plain PySem.F.entry_bexc_ga ?_)
  refine @check_slot (model prog w) _ _ ⟨hh, g, d, t + 1, os⟩ "BaseException.__getattribute__" "BaseException" "__getattribute__" (.ref x) [.str name t] [] _ hk hsplit L4 (PySem.F.args_bexc_ga (.ref x) (.str name t)) ?_
  unfold Builtin.«object.__getattribute__»
  repeat (first | with_reducible refine Looks.at L3 ?_ | with_reducible refine Looks.at L0 ?_ | wp_step)
  show wpAny _ _ (handedOut v) _ _ _
  rw [handedOut_of hv]
  exact wpAny_pure h
end
end Mine
namespace Mine
theorem rest_ZN23 : True := by
  w_top off
  k_with_none
  first | walk1 | trivial
end Mine
/- part ZN23 -/
namespace Mine
theorem fault_inst {h₀ h : Heap} {L e dx C : Addr} {led : List (Addr × Obj)} {oe od : Obj} {ws : Array Value} (N : News h₀ L h led) (h1 : (e, oe) ∈ led) (h2 : (dx, od) ∈ led) (hc : oe.cls = .ref C) (hx : oe.dict = some dx) (hd : oe.data = .fields ws) : InstAt h e oe C (some od) := by
  refine ⟨(N _ h1).1, hc, by unfold notCls; rw [hd], ?_⟩
  rw [hx]
  exact (N _ h2).1
section
theorem words_N23_1 : True := by
  w_top off
  k_with_none
  k_with "mine steps" => (repeat' (first | (k_unfold; (try dsimp only)) | (goal_lacks PySem.W.InvEndN PySem.W.KswEnd; (fail_if_success (with_reducible show wpAny _ _ (pyIter _) _ _ _)); (fail_if_success (with_reducible show wpAny _ _ (exec (Stmt.While _ _ _ _) _) _ _ _)); first | ((with_reducible show wpAny _ _ (call (Value.ref _) _) _ _ _); walk_at "mine call") | ((fail_if_success (with_reducible show wpAny _ _ (call (Value.ref _) _) _ _ _)); first | (k_end; wrow_close) | (walk1 <;> (try walk_at "mine fold")) | (dsimp only; walk1) | (leave1; walk_say "STEP leave1"; try dsimp only) | fail "no step"))))
  k_with "ite" => (first | refine ite_t (by assumption) ?_ | refine ite_f (by assumption) ?_ | refine ite_n (by assumption) ?_)
  k_with "mine fold" => ((first | (with_reducible show wpAny _ _ (exec _ _) _ _ _) | (with_reducible show wpAny _ _ (eval (Expr.Call _ _ _ _) _) _ _ _)); ((try k_fold); (with_reducible rename Fr _ _ _ _ => lF); (with_reducible rename News _ _ _ _ => lN); (with_reducible refine fold3 lF lN ?_); clear lF lN; intro s9 m9 l9 F9 N9))
  trivial
set_option maxRecDepth 100000 in
set_option maxHeartbeats 4000000 in
theorem refused_spec (w : World) (d : Addr) (n : Nat) (v2 : Value) (t : Tok) (k : Str) (hk1 : k = Str.ofString "list" ∨ k = Str.ofString "number" ∨ k = Str.ofString "") (news : List (Addr × Obj)) :
    ∀ (loose : List Str) (mean : ExcName → Option Value) (mg mb : Str → Option Value) (dp un : Nat) (gd : Option (List Code)) (cn : Str) (cs : Scope) (L a : Addr) (ccd : Value) (A₀ : Around) (base h₀ : Heap) (m : Str → Option Value) (s : Shared) (Q E : Value → Shared → Prop),
    Below A₀ base [] h₀ → Fr h₀ L s.heap m → (hd.heap_39 w.params).In h₀ → News h₀ L s.heap ((d, ({ cls := .type "tuple", data := .seq #[Value.str k t, v2] n } : Obj)) :: news) → Top hd.view_39 loose mean mg mb h₀ → cs.kind = .function → dp + 30 < recursionLimit → un + 8 * 30 < cLine →
    (∀ h' tk, Fr h₀ L h' m → News h₀ L h' ((d, ({ cls := .type "tuple", data := .seq #[Value.str k t, v2] n } : Obj)) :: news) → Q (.bool true) { s with heap := h', toks := tk }) →
    wpAny (model PySem.Challenge.rw_qz0001_01.row.prog w) (ktrTop dp un gd cn cs L a ccd [] []) (call (.ref 194) [.ref d]) Q E s := by
  k_fill
  intro loose mean mg mb dp un gd cn cs L a ccd A₀ base h₀ m s Q E B₀ F X N T hk hdp hun hret
  have B : Below A₀ h₀ [] h₀ := ⟨B₀.stack, fun _ _ e => e, trivial⟩
  refine wpAny_call ?_
  k_dflt (refine' code_defS0 (cn := cn) (cs := cs) (a := a) (ccd := ccd) B F X N T ?kA ?k6 ?k7 ?k8 ?k9 ?kB ?_ hk ?c2 ?c3 ?c4 ?c5; (case kA => exact rfl); (case k6 => k_is); (case k7 => k_is); (case k8 => ktr_room); (case k9 => exact BindsTo.of_eq rfl); (case c5 => decide); (case kB => exact locs rfl); (case c2 => exact rfl); (case c3 => exact rfl); (case c4 => exact rfl); k_whole; intro g' L' h' FG' F' N' B' X' T' D'; (try dsimp only); (try k_fold))
  k_steps
  k_dflt (refine' word_raises w d n v2 t k hk1 news _ _ _ _ _ _ _ _ _ _ _ _ _ _ _ _ _ _ _ _ _ ?aB ?aF ?aX ?aN ?aT ?ahk ?ahd ?ahu ?_; (case aB => k_asm); (case aF => k_asm); (case aX => k_asm); (case aN => k_asm); (case aT => k_asm); (case ahk => rfl); (case ahd => ktr_room); (case ahu => ktr_units))
  intro e dx es j t1 g2 h2 tk2 R FG2 up2 hsp
  dsimp only
  k_dflt (refine caughtD (KF := hd.heap_39 w.params) (p := hd.view_39) (g₀ := g') R FG2 B' up2 X T KtsTurn.refl (by k_is) (by kernel_rfl) ?_)
  intro h3 g3 tk3 oe ws T3 F3 N3 hc3 hdx3 hd3 B3 X3 P3
  k_steps
  k_dflt (refine exc_get (K := hd.heap_39 w.params) (X3.keeps F3.keep) (fault_inst N3 (.head _) (.tail _ (.head _)) hc3 hdx3 hd3) (by kernel_rfl) (by kernel_rfl) (by kernel_rfl) (findObj_own (attr := none) (by kernel_rfl) (by kernel_rfl) (by kernel_rfl) hsp) rfl ?_)
  k_steps
  rename News h₀ L _ ((e, oe) :: _) => lN
  exact hret _ _ (by k_asm) (fun p hp => lN p (.tail _ (.tail _ hp)))
end
end Mine
namespace Mine
theorem rest_ZN20 : True := by
  w_top off
  k_with_none
  first | walk1 | trivial
end Mine
/- part ZN20 -/
namespace Mine
set_option maxRecDepth 100000 in
set_option maxHeartbeats 4000000 in
theorem end_true {cl : Str → Option Addr} {mean : ExcName → Option Value} {s₁ s' : Shared} {L : Addr} {m : Str → Option Value} {xs : List Int} (F : Fr s₁.heap L s'.heap m) (hg : s'.gens = #[]) (hos : s'.os = s₁.os) :
    GoodW PySem.Challenge.rw_qz0001_01.row.claim cl mean [ofPy (PyData.list (xs.map PyData.int))] s₁ (.ok (.ret (.bool true))) s' := by
  refine goodW_bool F hg (raisesW_false ?_) ?_ hos
  · wrow_none_raised
  · wrow_post
theorem list_item {α : Type} {l : List α} : l ++ ([] : List α) = l := List.append_nil l
section
theorem words_N20_1 : True := by
  w_top off
  k_with_none
  k_with "mine steps" => (repeat' (first | (k_unfold; (try dsimp only)) | (goal_lacks PySem.W.InvEndN PySem.W.KswEnd; (fail_if_success (with_reducible show wpAny _ _ (pyIter _) _ _ _)); (fail_if_success (with_reducible show wpAny _ _ (exec (Stmt.While _ _ _ _) _) _ _ _)); first | ((with_reducible show wpAny _ _ (call (Value.ref _) _) _ _ _); walk_at "mine call") | ((fail_if_success (with_reducible show wpAny _ _ (call (Value.ref _) _) _ _ _)); first | (k_end; wrow_close) | (walk1 <;> (try walk_at "mine fold")) | (dsimp only; walk1) | (leave1; walk_say "STEP leave1"; try dsimp only) | fail "no step"))))
  k_with "mine gate" => (repeat' (first | (k_unfold; (try dsimp only)) | (goal_lacks PySem.W.InvEndN PySem.W.KswEnd; (fail_if_success (with_reducible show wpAny _ _ (call (Value.ref _) _) _ _ _)); (fail_if_success (with_reducible show wpAny _ _ (compareOp CmpOp.NotIn _ _) _ _ _)); (fail_if_success (with_reducible show wpAny _ _ (call (Value.builtin "len") [Value.ref _]) _ _ _)); (fail_if_success (with_reducible show wpAny _ _ (pyIter _) _ _ _)); (fail_if_success (with_reducible show wpAny _ _ (eval (Expr.ListComp (Expr.Call _ _ _ _) _ _ _) _) _ _ _)); (fail_if_success (with_reducible show LCg.CompSrc _ _ _ _ _ _ _ _ _ _ _ _ _ _)); (fail_if_success (with_reducible show UnrEnd _ _ _ _ _ _ _)); first | (k_end; (fail_if_success w_end); wrow_close) | (walk1 <;> (try walk_at "mine fold")) | (dsimp only; walk1) | (leave1; walk_say "STEP leave1"; try dsimp only) | fail "no step")))
  k_with "call builtin:list.append" => ((k_here; (with_reducible show wpAny _ _ (call (Value.builtin _) [Value.ref _, _]) _ _ _); k_dflt (refine' append_K ?k1 ?k2 ?k3 ?_ ?z; (case k1 => k_asm); (case k2 => k_asm); (case k3 => k_upd); (case z => (rw [List.size_toArray]; unfold sizeLine; omega)); k_whole); intro h' F' N'))
  k_with "k_all" => (assumption)
  k_with "mine fold" => ((first | (with_reducible show wpAny _ _ (exec _ _) _ _ _) | (with_reducible show wpAny _ _ (eval (Expr.Call _ _ _ _) _) _ _ _)); ((try k_fold); (with_reducible rename Fr _ _ _ _ => lF); (with_reducible rename News _ _ _ _ => lN); (with_reducible refine fold3 lF lN ?_); clear lF lN; intro s9 m9 l9 F9 N9))
  trivial
set_option maxRecDepth 100000 in
set_option maxHeartbeats 8000000 in
theorem law_holds : PySem.Challenge.rw_qz0001_01.Holds := Mine.hd (by
  k_go0
  all_goals try k_fold
  walk_at "mine gate"
  rename News _ _ _ _ => lN
  have lN2 := law_led lN
  clear lN
  rename Obj.IsDictOf _ _ (strPairs _) => hTd
  rename IntsAre _ (List.map _ _) => hI8
  have h60 := len60 hI8
  have off1 := law_off1 lN2 (by omega) (by omega)
  have off2 := law_off2 lN2 (by omega) (by omega)
  k_dflt (refine Spec.use' (by exact lN2) (by k_asm) (by exact numbers_right_spec _ _ _ _ _ 0 _ ([] : List Value) _ _ [] ⟨_, _, _, hTd⟩ off1 off2 hI8 h60 (by decide) (by decide) (by decide)) (by k_asm) (by k_asm) (by k_asm) (by first | exact rfl | assumption) (by ktr_room) (by ktr_units) ?_)
  rintro r1 news1 h1 tk1 F1 N1 ⟨o1, at1, nn1, ws1, its1, new1, e1, hT1, ha1, hb1, hA1, hD1, hO1, hL1, er1⟩
  subst e1
  subst er1
  have hw1 : ws1.length ≤ 8 := by rw [hD1.length, List.length_map]; exact hL1
  have off3 := out_offs (o' := o1) (ob' := W.listOf ([] ++ ws1).toArray nn1) hA1 off1 off2
  obtain ⟨off3, off4⟩ := off3
  (try dsimp only)
  (try k_fold)
  walk_at "mine gate"
  k_dflt (refine Spec.use' (by k_asm) (by k_asm) (by exact bits_right_spec _ _ _ _ _ at1 _ ([] ++ ws1) nn1 _ (new1 ++ []) hT1 off3 off4 hI8 h60 (by omega) (by omega) (by rw [List.nil_append]; omega)) (by k_asm) (by k_asm) (by k_asm) (by first | exact rfl | assumption) (by ktr_room) (by ktr_units) ?_)
  rintro r2 news2 h2 tk2 F2 N2 ⟨o2, at2, nn2, ws2, its2, new2, e2, hT2, ha2, hb2, hA2, hD2, hO2, hL2, er2⟩
  subst e2
  subst er2
  have hw2 : ws2.length ≤ 4 := by rw [hD2.length, List.length_map]; exact hL2
  have off5 := out_offs (o' := o2) (ob' := W.listOf (([] ++ ws1) ++ ws2).toArray nn2) hA2 off3 off4
  obtain ⟨off5, off6⟩ := off5
  (try dsimp only)
  (try k_fold)
  walk_at "mine gate"
  k_dflt (refine Spec.use' (by k_asm) (by k_asm) (by exact texts_right_spec _ _ _ _ _ at2 _ (([] ++ ws1) ++ ws2) nn2 _ (new2 ++ (new1 ++ [])) hT2 off5 off6 hI8 h60 (by omega) (by omega) (by rw [List.nil_append, List.length_append]; omega)) (by k_asm) (by k_asm) (by k_asm) (by first | exact rfl | assumption) (by ktr_room) (by ktr_units) ?_)
  rintro r3 news3 h3 tk3 F3 N3 ⟨o3, at3, nn3, ws3, its3, new3, e3, hT3, ha3, hb3, hA3, hD3, hO3, hL3, er3⟩
  subst e3
  subst er3
  have hw3 : ws3.length ≤ 9 := by rw [hD3.length, List.length_map]; exact hL3
  (try dsimp only)
  (try k_fold)
  walk_at "mine gate"
  rename News _ _ _ _ => lN9
  have lN8 := loop_led lN9
  clear lN9
  rename Fr _ _ _ _ => lF9
  have hDW := law_dat hD1 hD2 hD3
  rename (_ < _ ∧ _ < _ ∧ _ < _ ∧ AllLt _ (new3 ++ _)) => lq
  have hNu := all_ne lq.2.2.2
  have hOW := law_ok hO1 hO2 hO3
  refine iter_listUnr rfl lF9 lN8 (.head _) rfl rfl ?_
  intro I lI
  refine list_ind (LInv _ _ I _ _ ((its1 ++ its2) ++ its3) _) (linv_start lI) (fun i m nw h => linv_mem h) ?_ ?_
  · intro i v m nw hv hI it h tk hit F9 N9
    obtain ⟨u, us, n, uit, rfl, rfl, hUD, hUN, hUS, hUL, hUI⟩ := hI
    obtain ⟨e, heI, hxe⟩ := linv_item hDW hv
    have hUF : ∀ y ∈ uit, Fine y := fun y hy => (hOW y (hUS y hy)).2
    have heF := (hOW e heI).2
    walk_at "mine gate"
    k_dflt (refine not_in_items N9 (.tail _ (.tail _ (.head _))) (fun p hp => .tail _ (.tail _ (.tail _ hp))) hUD hxe hUF heF (by ktr_units) ?_)
    intro bI hbI
    have lu := loop_ne (lI _ (.tail _ (.head _)))
    dsimp only at lu
    have hil := item_lt hv
    have hus : us.length = uit.length := by rw [hUD.length, List.length_map]
    simp only [List.length_append, List.nil_append] at hil
    clear lI lN8 lF9 off1 off2 off3 off4 off5 off6
    walk_at "mine gate"
    all_goals (
      rename Fr _ _ _ _ => eF
      rename News _ _ _ _ => eN
      first
        | exact linv_new eF eN rfl hUD hUN hUS hUL hUI heI hxe (hbI (by assumption))
        | exact linv_old eF eN rfl hUD hUN hUS hUL hUI)
  · intro m1 nw hI h tk F9 N9
    obtain ⟨u, us, n, uit, rfl, rfl, hUD, hUN, hUS, hUL, hUI⟩ := hI
    simp only [List.length_append, List.nil_append] at hUL
    have hus : us.length = uit.length := by rw [hUD.length, List.length_map]
    clear lI lN8 lF9 off1 off2 off3 off4 off5 off6
    walk_at "mine gate"
    k_dflt (refine LCg.ListComp_U (F₀ := by k_asm) (by rfl) (by decide) (by rfl) (by decide) (by rfl) ?_)
    walk_at "mine gate"
    refine LCg.CompSrc.ledger rfl (by k_asm) (by k_asm) (.tail _ (.head _)) (by rw [List.size_toArray]; unfold sizeLine; omega) ?_
    intro gg
    rw [List.size_toArray]
    refine comp_ind (TxInv _ uit) txinv_start ?_ ?_
    · intro i ys2 nw hi hI v I2 oI C2 oC D2 m₂ h4 tk4 E' hv hC hx F8 N8 off8 ne8
      obtain ⟨rfl, xs, hS, hxl, hW⟩ := hI
      obtain ⟨e, hei, heI, hxe⟩ := linv_at hUD (by simpa using hv)
      have hok := (hOW e (hUS e heI)).1
      walk_at "mine gate"
      k_dflt (refine Spec.use' (by k_asm) (by k_asm) (by exact word_text_spec _ _ e _ (DatIn.mono (fun p hp => .tail _ (.tail _ (.tail _ (.tail _ (.tail _ hp))))) hxe) hok) (by k_asm) (by k_asm) (by k_asm) (by first | exact rfl | assumption) (by ktr_room) (by ktr_units) ?_)
      rintro r4 n4 h5 tk5 F5 N5 ⟨e4, y4, t4, er4, hy4, hyl4⟩
      subst e4
      subst er4
      (try dsimp only)
      refine LCg.CompEnd.intro (by k_asm) (by k_asm) _ (fun p hp => hp) off8 (.inr ⟨_, .tail _ (.head _), rfl, _, rfl⟩) ?_
      exact txinv_step hS hxl hW hei hy4
    · intro ys2 nw hI
      obtain ⟨rfl, xs, hS, hxl, hW⟩ := hI
      have hxl2 : xs.length = uit.length := by rw [hxl, List.size_toArray, hus]
      have hxN := texts_nodup hUN (fun x hx => (hOW x (hUS x hx)).2) hxl2 hW
      walk_at "FinE"
      walk_at "mine gate"
      rename Fr _ _ _ _ => eF
      rename News _ _ _ _ => eN
      k_dflt (refine set_strs_N eF eN rfl (News.isList eN (.head _)) hS hxN (by omega) ?_)
      intro Ds h6 tk6 os F6 N6 hso
      clear eF eN
      walk_at "mine gate"
      k_dflt (refine len_set_N (by k_asm) hso (by omega) ?_)
      intro tL tkL
      walk_at "mine gate"
      k_dflt (refine PyProof.Rows.len_list (News.isList (by k_asm) (by k_mem)) (by rw [List.size_toArray]; omega) ?_)
      walk_at "mine gate"
      k_dflt (refine' refused_spec _ _ _ _ _ _ (Or.inl rfl) _ _ _ _ _ _ _ _ _ _ _ _ _ _ _ _ _ _ _ _ ?aB ?aF ?aX ?aN ?aT ?ahk ?ahd ?ahu ?_; (case aB => k_asm); (case aF => k_asm); (case aX => k_asm); (case aN => k_asm); (case aT => k_asm); (case ahk => first | exact rfl | assumption); (case ahd => ktr_room); (case ahu => ktr_units))
      intro h7 tk7 F7 N7
      (try dsimp only)
      (try k_fold)
      walk_at "mine gate"
      k_dflt (refine' refused_spec _ _ _ _ _ _ (Or.inr (Or.inl rfl)) _ _ _ _ _ _ _ _ _ _ _ _ _ _ _ _ _ _ _ _ ?aB ?aF ?aX ?aN ?aT ?ahk ?ahd ?ahu ?_; (case aB => k_asm); (case aF => k_asm); (case aX => k_asm); (case aN => k_asm); (case aT => k_asm); (case ahk => first | exact rfl | assumption); (case ahd => ktr_room); (case ahu => ktr_units))
      intro h8 tk8 F8 N8
      (try dsimp only)
      (try k_fold)
      walk_at "mine gate"
      k_dflt (refine' refused_spec _ _ _ _ _ _ (Or.inr (Or.inr rfl)) _ _ _ _ _ _ _ _ _ _ _ _ _ _ _ _ _ _ _ _ ?aB ?aF ?aX ?aN ?aT ?ahk ?ahd ?ahu ?_; (case aB => k_asm); (case aF => k_asm); (case aX => k_asm); (case aN => k_asm); (case aT => k_asm); (case ahk => first | exact rfl | assumption); (case ahd => ktr_room); (case ahu => ktr_units))
      intro h9 tk9 F9 N9
      (try dsimp only)
      (try k_fold)
      walk_at "mine gate"
      rename Shared.gens _ = #[] => hgg
      rename Fr _ _ _ _ => eF
      k_dflt (exact end_true eF hgg rfl)
)
end
end Mine
set_option maxRecDepth 100000 in
set_option maxHeartbeats 8000000 in
theorem PySem.Challenge.cw_qz0001_01_holds : PySem.Challenge.rw_qz0001_01.Holds := by
  exact Mine.law_holds
