import PyProof.Rows.All
import Wide.All
import OpenK.AllK
import Wide.FinOn
import Lean
import PySem.Challenge.RW_no0047_01
open PySem PySem.W PyProof.Rows
set_option Elab.async false
set_option maxRecDepth 100000
set_option maxHeartbeats 8000000
namespace Mine
open_top hd for PySem.Challenge.rw_no0047_01
section
section
variable {prog : Program} {w : World} {A : Around} {E : Value → Shared → Prop} {s : Shared} {h₀ : Heap} {L D : Addr} {m : Str → Option Value} {news news' : List (Addr × Obj)} {n : Nat}
theorem pop0 {i : Int} {t u : Tok} {us : List Value} {Q : Value → Shared → Prop} (F : Fr h₀ L s.heap m) (N : News h₀ L s.heap news)
    (U : Upd D (listOf (Value.int i t :: us).toArray n) (listOf us.toArray (n + 1)) news news') (hz : us.length ≤ 100)
    (h : ∀ h', Fr h₀ L h' m → News h₀ L h' news' → Q (.int i t) { s with heap := h' }) :
    wpAny (model prog w) A (PySem.call (.builtin "list.pop") [.ref D, .int 0 u]) Q E s := by
  refine kl_popAt (its := (Value.int i t :: us).toArray) (k := 0) (p := []) (q := us) (y := .int i t) F N (by decide) ?_ rfl U ?_ h
  · simp [seqIndex?]
  · simp only [List.length_cons, sizeLine_eq]; omega
end

local macro_rules | `(tactic| walk_at "call builtin:list.pop") => `(tactic| (k_here; (with_reducible show wpAny _ _ (PySem.call (Value.builtin _) [Value.ref _, Value.int _ _]) _ _ _); k_dflt (refine' pop0 ?F ?N ?U ?z ?_; (case F => k_asm); (case N => k_asm); (case U => k_upd); (case z => omega)); (intro h' F' N'; (try dsimp only [List.nil_append, List.cons_append] at N'))))

set_option linter.unusedVariables false in
theorem take_k {w : World} {mg mb : Str → Option Value} {mean : ExcName → Option Value} {base : Heap} {L fa : Addr} {cdL : Value} {w9 : Addr} {w8 : Obj} {nms : List (Str × NameKind)}
    (KX : (hd.heap_39 w.params).In base) (X : Flt.MathXP hd.view_39 mg base) (V : LooseAre [] mg base)
    (GL : Glob 0 mg mb (List.map itemOf (recsOf hd.view_39)) (scalarsOf [] ++ constsW hd.view_39) [] (namesW hd.view_39 []) base)
    (T : Top hd.view_39 (looseW hd.view_39 []) mean mg mb base) (TB : Tables hd.view_39 w mg base)
    (TE : TopE hd.view_39 (looseW hd.view_39 []) mg base) (TW : TopW hd.view_39 mg base) (M : BMod base mainGlobals mg w9 w8)
    (K0 : Below callerA base [] base)
    {E : Value → Shared → Prop} {Q : Value → Shared → Prop} {s : Shared} {m : Str → Option Value} {b it : Addr} {vs : List Value} {its : List Int} {c n : Nat} {seed : Int} {ts tw : Tok} {wd : Int} {rest : List (Addr × Obj)}
    (F : Fr base L s.heap m) (N : News base L s.heap ((b, W.listOf #[Value.ref it, Value.int seed ts] n) :: (it, W.listOf vs.toArray c) :: rest))
    (hi : IntsAre vs its) (hlen : its.length ≤ 24) (hs : 0 ≤ seed) (hs2 : seed < 2147483647) (hw : 0 < wd) (hw2 : wd ≤ 300)
    (hbi : @Ne Nat b it) (off : OwnOff rest [b, it])
    (h : ∀ h' tk vs' its' c' seed' ts' r tr, Fr base L h' m → News base L h' ((b, W.listOf #[Value.ref it, Value.int seed' ts'] n) :: (it, W.listOf vs'.toArray c') :: rest) →
      IntsAre vs' its' → its'.length ≤ 24 → 0 ≤ seed' → seed' < 2147483647 → 0 ≤ r → r < wd → Q (.int r tr) { s with heap := h', toks := tk }) :
    wpAny (model PySem.Challenge.rw_no0047_01.row.prog w) (callerA.deeper (envOf (Str.ofString "law") { kind := ScopeKind.function, names := nms, isGenerator := false, isCoroutine := false } L fa cdL))
      (PySem.call (Value.ref 77) [Value.ref b, Value.int wd tw]) Q E s := by
  revert KX
  k_fill
  w_top off
  intro KX
  have o1 := OwnOff.ne off (b := b) (by simp)
  have o2 := OwnOff.ne off (b := it) (by simp)
  have hfm : ∀ a k : Int, 0 < k → 0 ≤ a.fmod k ∧ a.fmod k < k := fun a k hk => ⟨Int.fmod_nonneg_of_pos a hk, Int.fmod_lt_of_pos a hk⟩
  cases hi with
  | nil =>
    w_strict (k_steps; all_goals (refine h _ _ [] [] _ _ _ _ _ (by assumption) (by assumption) .nil ?_ ?_ ?_ ?_ ?_))
    · decide
    · exact (hfm _ _ (by decide)).1
    · exact (hfm _ _ (by decide)).2
    · exact (hfm _ _ hw).1
    · exact (hfm _ _ hw).2
  | cons i t r =>
    rename_i us ns
    have hus : us.length ≤ 100 := by have := r.length; simp only [List.length_cons] at hlen; omega
    have hns : ns.length ≤ 24 := by simp only [List.length_cons] at hlen; omega
    w_strict (k_steps; all_goals (refine h _ _ us ns _ _ _ _ _ (by assumption) (by assumption) r hns hs hs2 ?_ ?_))
    · exact (hfm _ _ hw).1
    · exact (hfm _ _ hw).2
end
section
local macro_rules | `(tactic| k_mem) => `(tactic| assumption)
local macro_rules | `(tactic| walk_at "ite") => `(tactic| (first | with_reducible refine ite_ff ?_ | with_reducible refine ite_tt ?_))
set_option linter.unusedVariables false in
theorem within_k {w : World} {mg mb : Str → Option Value} {mean : ExcName → Option Value} {base : Heap} {L fa : Addr} {cdL : Value} {w9 : Addr} {w8 : Obj} {nms : List (Str × NameKind)}
    (KX : (hd.heap_39 w.params).In base) (X : Flt.MathXP hd.view_39 mg base) (V : LooseAre [] mg base)
    (GL : Glob 0 mg mb (List.map itemOf (recsOf hd.view_39)) (scalarsOf [] ++ constsW hd.view_39) [] (namesW hd.view_39 []) base)
    (T : Top hd.view_39 (looseW hd.view_39 []) mean mg mb base) (TB : Tables hd.view_39 w mg base)
    (TE : TopE hd.view_39 (looseW hd.view_39 []) mg base) (TW : TopW hd.view_39 mg base) (M : BMod base mainGlobals mg w9 w8)
    (K0 : Below callerA base [] base)
    {E : Value → Shared → Prop} {Q : Value → Shared → Prop} {s : Shared} {m : Str → Option Value} {f : Addr} {a b num lo hi : Int} {ta tb t1 t2 t3 : Tok} {cn : Nat} {news : List (Addr × Obj)}
    (F : Fr base L s.heap m) (N : News base L s.heap news)
    (hm : (f, ({ cls := Value.type "tuple", data := Data.seq #[Value.int a ta, Value.int b tb] cn } : Obj)) ∈ news)
    (hn1 : -1000000000 ≤ num) (hn2 : num ≤ 1000000000) (hl1 : -1000 ≤ lo) (hl2 : lo ≤ 1000) (hh1 : -1000 ≤ hi) (hh2 : hi ≤ 1000)
    (h1 : lo * b ≤ num * b - a) (h2 : num * b - a < hi * b)
    (h : ∀ h' tk, Fr base L h' m → News base L h' news → Q (.bool true) { s with heap := h', toks := tk }) :
    wpAny (model PySem.Challenge.rw_no0047_01.row.prog w) (callerA.deeper (envOf (Str.ofString "law") { kind := ScopeKind.function, names := nms, isGenerator := false, isCoroutine := false } L fa cdL))
      (PySem.call (Value.ref 105) [Value.int num t1, Value.int lo t2, Value.ref f, Value.int hi t3]) Q E s := by
  revert KX
  k_fill
  w_top off
  intro KX
  w_strict (k_steps; all_goals (rw [decide_eq_true h2]; exact h _ _ (by assumption) (by assumption)))
end
section
def topLaw (p : Program) : Option (List Stmt × Scope) := match p.main.body.getLast? with
  | some (.FunctionDef _ _ body _ _ _ scope _ _ _) => some (body, scope)
  | _ => none
def lawSc (p : Program) : Scope := match topLaw p with
  | some (_, sc) => sc
  | none => default
def loopBody (p : Program) : List Stmt := match topLaw p with
  | some ([_, _, _, _, .For _ _ body _ _, _], _) => body
  | _ => []
def loopTail (p : Program) : List Stmt := match loopBody p with
  | [_, _, _, _, a, b, c, d] => [a, b, c, d]
  | _ => []
def farTail (p : Program) : List Stmt := match loopBody p with
  | [_, _, _, .If _ _ [_, _, _, _, a, b, c] _, _, _, _, _] => [a, b, c]
  | _ => []
inductive Pick (p : Addr × Obj) : List (Addr × Obj) → List (Addr × Obj) → Prop
  | here (r : List (Addr × Obj)) : Pick p (p :: r) r
  | there {q : Addr × Obj} {r r' : List (Addr × Obj)} : Pick p r r' → Pick p (q :: r) (q :: r')
theorem Pick.sub {p : Addr × Obj} {l r : List (Addr × Obj)} (h : Pick p l r) : ∀ q ∈ p :: r, q ∈ l := by
  induction h with
  | here r => exact fun q hq => hq
  | there _ ih =>
    intro q hq
    rcases List.mem_cons.mp hq with rfl | hq
    · exact List.mem_cons_of_mem _ (ih _ (.head _))
    · rcases List.mem_cons.mp hq with rfl | hq
      · exact .head _
      · exact List.mem_cons_of_mem _ (ih _ (List.mem_cons_of_mem _ hq))
theorem News.pick2 {g : Heap} {L : Addr} {h : Heap} {p q : Addr × Obj} {l r r' : List (Addr × Obj)} (N : News g L h l) (h1 : Pick p l r) (h2 : Pick q r r') : News g L h (p :: q :: r') := by
  refine kst_newsOf N fun x hx => h1.sub x ?_
  rcases List.mem_cons.mp hx with rfl | hx
  · exact .head _
  · exact List.mem_cons_of_mem _ (h2.sub x hx)
theorem off2 {rest : List (Addr × Obj)} {b it : Addr} (h1 : ∀ p ∈ rest, p.1 ≠ b) (h2 : ∀ p ∈ rest, p.1 ≠ it) : OwnOff rest [b, it] := by
  intro p hp x hx
  rcases List.mem_cons.mp hx with rfl | hx
  · exact h1 p hp
  · rcases List.mem_cons.mp hx with rfl | hx
    · exact h2 p hp
    · cases hx
section
variable {prog : Program} {w : World} {A : Around} {E : Value → Shared → Prop} {s : Shared} {h₀ : Heap} {L l : Addr} {news : List (Addr × Obj)} {n : Nat}
theorem menu_k {value slice : PySem.Expr} {k : Int} {u t1 t2 t3 : Tok} {Q : Value → Shared → Prop} (N : News h₀ L s.heap news)
    (hm : (l, W.listOf #[Value.none, Value.int 2500 t1, Value.int 0 t2, Value.int 300 t3] n) ∈ news) (h0 : 0 ≤ k) (h4 : k < 4)
    (hN : Q .none s) (hI : ∀ i t, 0 ≤ i → i ≤ 2500 → Q (.int i t) s)
    (hs : subscripted slice false (.ref l) (.int k u) = operate [.ref l, .int k u] (getItem (.ref l) (.int k u))) :
    wpAny (model prog w) A (subscriptTail value slice (.ref l) (.int k u)) Q E s := by
  have hl : s.heap.IsList l #[Value.none, Value.int 2500 t1, Value.int 0 t2, Value.int 300 t3] := ⟨_, (N _ hm).1, rfl, n, rfl⟩
  have hk : k = 0 ∨ k = 1 ∨ k = 2 ∨ k = 3 := by omega
  rcases hk with rfl | rfl | rfl | rfl
  · exact tail_any hl.typeIs slot_list_getitem.lookup (wpAny_getItem_list hl (by decide) (by decide) rfl hN) hs
  · exact tail_any hl.typeIs slot_list_getitem.lookup (wpAny_getItem_list hl (by decide) (by decide) rfl (hI _ _ (by decide) (by decide))) hs
  · exact tail_any hl.typeIs slot_list_getitem.lookup (wpAny_getItem_list hl (by decide) (by decide) rfl (hI _ _ (by decide) (by decide))) hs
  · exact tail_any hl.typeIs slot_list_getitem.lookup (wpAny_getItem_list hl (by decide) (by decide) rfl (hI _ _ (by decide) (by decide))) hs
end
theorem ite_bneF {a b : Int} {p q : Prop} (h : a = b) (hq : q) : if (a != b) = true then p else q := by
  subst h; simpa using hq
theorem ite_bneT {a b : Int} {p q : Prop} (h : ¬ a = b) (hp : p) : if (a != b) = true then p else q := by
  have e : (a != b) = true := by simpa using h
  rw [if_pos e]; exact hp
theorem inKeep {K : Frag} {b h : Heap} {L : Addr} {m : Str → Option Value} (F : Fr b L h m) (X : K.In b) : K.In h := Frag.In.keeps X (Fr.keep F)
end
section
/-- after j + 1 samples: s, v what the object holds; S0/S1, V0/V1 the exact fractions -/
def SInv (j : Nat) (s v S0 S1 V0 V1 : Int) : Prop :=
  0 ≤ s ∧ s ≤ 240007 ∧ 0 ≤ v ∧ v ≤ 120010 ∧ 0 < S1 ∧ S1 ≤ 8 ^ j ∧ 0 < V1 ∧ 0 ≤ s * S1 - S0 ∧ s * S1 - S0 < 7 * S1 ∧ -4 * V1 ≤ v * V1 - V0 ∧ v * V1 - V0 < 7 * V1

def Jn (w : World) (b it x d : Addr) (k1 k2 k3 k4 k5 : Tok) (j : Nat) (m : Str → Option Value) (nx : List (Addr × Obj)) : Prop :=
  ∃ (vs : List Value) (its : List Int) (c : Nat) (seed : Int) (ts : Tok) (a1 a2 : Addr) (le la sm va S0 S1 V0 V1 fa : Int) (q0 q1 q2 q3 q4 q5 r0 r1 r2 r3 : Tok) (n1 n2 : Nat),
    nx = [(b, W.listOf #[Value.ref it, Value.int seed ts] 0), (it, W.listOf vs.toArray c), (x, instObj 66 d),
      (d, dictOf [⟨PyData.keyHash w.params (Str.ofString "latest"), .str (Str.ofString "latest") k1, .int la q1⟩, ⟨PyData.keyHash w.params (Str.ofString "least"), .str (Str.ofString "least") k2, .int le q2⟩,
        ⟨PyData.keyHash w.params (Str.ofString "smoothed8"), .str (Str.ofString "smoothed8") k3, .int sm q3⟩, ⟨PyData.keyHash w.params (Str.ofString "variance4"), .str (Str.ofString "variance4") k4, .int va q4⟩,
        ⟨PyData.keyHash w.params (Str.ofString "first_at"), .str (Str.ofString "first_at") k5, .int fa q5⟩] 5),
      (a1, { cls := Value.type "tuple", data := Data.seq #[Value.int S0 r0, Value.int S1 r1] n1 }), (a2, { cls := Value.type "tuple", data := Data.seq #[Value.int V0 r2, Value.int V1 r3] n2 })] ∧
    IntsAre vs its ∧ its.length ≤ 24 ∧ 0 ≤ seed ∧ seed < 2147483647 ∧
    m (Str.ofString "box") = some (.ref b) ∧ m (Str.ofString "told") = some (.ref x) ∧ m (Str.ofString "least") = some (.int le q0) ∧ m (Str.ofString "smoothed8") = some (.ref a1) ∧ m (Str.ofString "variance4") = some (.ref a2) ∧
    (@Ne Nat a1 b ∧ @Ne Nat a1 it ∧ @Ne Nat a1 x ∧ @Ne Nat a1 d ∧ @Ne Nat a2 b ∧ @Ne Nat a2 it ∧ @Ne Nat a2 x ∧ @Ne Nat a2 d) ∧
    fa = 1000 ∧ 1 ≤ le ∧ le ≤ 30000 ∧ SInv j sm va S0 S1 V0 V1

theorem endJ {w : World} {b it x d : Addr} {k1 k2 k3 k4 k5 : Tok} {j : Nat} {base : Heap} {L : Addr} {s₁ : Shared} {h' : Heap} {tk : Nat} {m' : Str → Option Value} {own news' : List (Addr × Obj)}
    {vs : List Value} {its : List Int} {c : Nat} {seed : Int} {ts : Tok} {a1 a2 : Addr} {le la sm va S0 S1 V0 V1 fa : Int} {q0 q1 q2 q3 q4 q5 r0 r1 r2 r3 : Tok} {n1 n2 : Nat}
    (F : Fr base L h' m') (N : News base L h' news')
    (m1 : m' (Str.ofString "box") = some (.ref b)) (m2 : m' (Str.ofString "told") = some (.ref x)) (m3 : m' (Str.ofString "least") = some (.int le q0)) (m4 : m' (Str.ofString "smoothed8") = some (.ref a1)) (m5 : m' (Str.ofString "variance4") = some (.ref a2))
    (e1 : (b, W.listOf #[Value.ref it, Value.int seed ts] 0) ∈ news') (e2 : (it, W.listOf vs.toArray c) ∈ news') (e3 : (x, instObj 66 d) ∈ news')
    (e4 : (d, dictOf [⟨PyData.keyHash w.params (Str.ofString "latest"), .str (Str.ofString "latest") k1, .int la q1⟩, ⟨PyData.keyHash w.params (Str.ofString "least"), .str (Str.ofString "least") k2, .int le q2⟩,
        ⟨PyData.keyHash w.params (Str.ofString "smoothed8"), .str (Str.ofString "smoothed8") k3, .int sm q3⟩, ⟨PyData.keyHash w.params (Str.ofString "variance4"), .str (Str.ofString "variance4") k4, .int va q4⟩,
        ⟨PyData.keyHash w.params (Str.ofString "first_at"), .str (Str.ofString "first_at") k5, .int fa q5⟩] 5) ∈ news')
    (e5 : (a1, ({ cls := Value.type "tuple", data := Data.seq #[Value.int S0 r0, Value.int S1 r1] n1 } : Obj)) ∈ news') (e6 : (a2, ({ cls := Value.type "tuple", data := Data.seq #[Value.int V0 r2, Value.int V1 r3] n2 } : Obj)) ∈ news')
    (hi : IntsAre vs its) (hlen : its.length ≤ 24) (hs : 0 ≤ seed) (hs2 : seed < 2147483647)
    (off : OwnOff own [b, it, x, d]) (o1 : ∀ p ∈ own, p.1 ≠ a1) (o2 : ∀ p ∈ own, p.1 ≠ a2) (ho : ∀ p ∈ own, p ∈ news')
    (ne : @Ne Nat a1 b ∧ @Ne Nat a1 it ∧ @Ne Nat a1 x ∧ @Ne Nat a1 d ∧ @Ne Nat a2 b ∧ @Ne Nat a2 it ∧ @Ne Nat a2 x ∧ @Ne Nat a2 d)
    (hfa : fa = 1000) (hl1 : 1 ≤ le) (hl2 : le ≤ 30000) (inv : SInv j sm va S0 S1 V0 V1) :
    InvEndG base L (Jn w b it x d k1 k2 k3 k4 k5 j) own s₁ { s₁ with heap := h', toks := tk } := by
  refine ⟨h', tk, m', news', _, rfl, F, N, ?_, ho, ?_, ⟨vs, its, c, seed, ts, a1, a2, le, la, sm, va, S0, S1, V0, V1, fa, q0, q1, q2, q3, q4, q5, r0, r1, r2, r3, n1, n2, rfl, hi, hlen, hs, hs2, m1, m2, m3, m4, m5, ne, hfa, hl1, hl2, inv⟩⟩
  · intro p hp
    simp only [List.mem_cons, List.not_mem_nil, or_false] at hp
    rcases hp with rfl | rfl | rfl | rfl | rfl | rfl <;> assumption
  · intro p hp y hy
    simp only [List.map_cons, List.map_nil, List.mem_cons, List.not_mem_nil, or_false] at hy
    rcases hy with rfl | rfl | rfl | rfl | rfl | rfl
    · exact off p hp _ (by simp)
    · exact off p hp _ (by simp)
    · exact off p hp _ (by simp)
    · exact off p hp _ (by simp)
    · exact o1 p hp
    · exact o2 p hp
theorem sinv0 {la : Int} (h1 : 1 ≤ la) (h2 : la ≤ 30000) : SInv 0 (8 * la) (2 * la) (8 * la) 1 (2 * la) 1 := by
  unfold SInv
  refine ⟨?_, ?_, ?_, ?_, ?_, ?_, ?_, ?_, ?_, ?_, ?_⟩ <;> first | omega | decide
theorem far_bound {j : Nat} {sm va S0 S1 V0 V1 me : Int} (inv : SInv j sm va S0 S1 V0 V1) (h1 : 0 ≤ me) (h2 : me ≤ 30000) :
    -(240007 * S1) ≤ S0 - me * (8 * S1) ∧ S0 - me * (8 * S1) ≤ 240007 * S1 := by
  obtain ⟨a1, a2, _, _, b1, _, _, c1, c2, _, _⟩ := inv
  have e1 : me * (8 * S1) = 8 * (me * S1) := by rw [Int.mul_left_comm]
  have p1 : 0 ≤ me * S1 := Int.mul_nonneg h1 (Int.le_of_lt b1)
  have p2 : me * S1 ≤ 30000 * S1 := Int.mul_le_mul_of_nonneg_right h2 (Int.le_of_lt b1)
  have p3 : 0 ≤ sm * S1 := Int.mul_nonneg a1 (Int.le_of_lt b1)
  have p4 : sm * S1 ≤ 240007 * S1 := Int.mul_le_mul_of_nonneg_right a2 (Int.le_of_lt b1)
  rw [e1]
  omega
theorem far_fits {j : Nat} {sm va S0 S1 V0 V1 me Y : Int} (inv : SInv j sm va S0 S1 V0 V1) (h6 : S1 ≤ 4398046511104) (h1 : 0 ≤ me) (h2 : me ≤ 30000) :
    IntMulOk (if S0 - me * (8 * S1) < 0 then -(S0 - me * (8 * S1)) else S0 - me * (8 * S1)) Y := by
  have hb := far_bound inv h1 h2
  generalize S0 - me * (8 * S1) = z at hb ⊢
  refine PySem.IntMulOk.of_left (PySem.intBits_le_64 ?_ ?_) <;> split <;> omega
end
section
theorem fdiv_facts (x k : Int) (hk : 0 < k) : k * x.fdiv k ≤ x ∧ x < k * x.fdiv k + k := by
  rw [Int.fdiv_eq_ediv_of_nonneg x (Int.le_of_lt hk)]
  have h1 := Int.mul_ediv_add_emod x k
  have h2 := Int.emod_nonneg x (Int.ne_of_gt hk)
  have h3 := Int.emod_lt_of_pos x hk
  omega
theorem fd8 (x : Int) : 8 * x.fdiv 8 ≤ x ∧ x ≤ 8 * x.fdiv 8 + 7 := by have := fdiv_facts x 8 (by decide); omega
theorem fd4 (x : Int) : 4 * x.fdiv 4 ≤ x ∧ x ≤ 4 * x.fdiv 4 + 3 := by have := fdiv_facts x 4 (by decide); omega

/-- the smoothed time's error, one sample on -/
theorem smooth_step {sm q r S0 S1 me : Int} (h0 : sm = 8 * q + r) (hr : 0 ≤ r) (hr2 : r ≤ 7) (h1 : 0 < S1) (e1 : 0 ≤ sm * S1 - S0) (e2 : sm * S1 - S0 < 7 * S1) :
    0 ≤ (sm - q + me) * (8 * S1 * 1) - (7 * S0 * 1 + me * (8 * S1)) ∧ (sm - q + me) * (8 * S1 * 1) - (7 * S0 * 1 + me * (8 * S1)) < 7 * (8 * S1 * 1) := by
  have k1 : 0 ≤ r * S1 := Int.mul_nonneg hr (Int.le_of_lt h1)
  have k2 : r * S1 ≤ 7 * S1 := Int.mul_le_mul_of_nonneg_right hr2 (Int.le_of_lt h1)
  have k3 : (sm - q + me) * (8 * S1 * 1) - (7 * S0 * 1 + me * (8 * S1)) = r * S1 + 7 * (sm * S1 - S0) := by subst h0; grind
  rw [k3]; omega

theorem abs_gap {q r S0 S1 me sm : Int} (h0 : sm = 8 * q + r) (hr : 0 ≤ r) (hr2 : r ≤ 7) (h1 : 0 < S1) (e1 : 0 ≤ sm * S1 - S0) (e2 : sm * S1 - S0 < 7 * S1) :
    -(7 * S1) ≤ 8 * ((if q - me < 0 then -(q - me) else q - me) * S1) - (if S0 - me * (8 * S1) < 0 then -(S0 - me * (8 * S1)) else S0 - me * (8 * S1)) ∧
    8 * ((if q - me < 0 then -(q - me) else q - me) * S1) - (if S0 - me * (8 * S1) < 0 then -(S0 - me * (8 * S1)) else S0 - me * (8 * S1)) ≤ 7 * S1 := by
  have k1 : 0 ≤ r * S1 := Int.mul_nonneg hr (Int.le_of_lt h1)
  have k2 : r * S1 ≤ 7 * S1 := Int.mul_le_mul_of_nonneg_right hr2 (Int.le_of_lt h1)
  have k3 : sm * S1 = 8 * (q * S1) + r * S1 := by subst h0; grind
  have k4 : me * (8 * S1) = 8 * (me * S1) := by grind
  have k5 : (q - me) * S1 = q * S1 - me * S1 := by grind
  have k6 : -(q - me) * S1 = me * S1 - q * S1 := by grind
  have k7 : q - me < 0 → q * S1 - me * S1 < 0 := fun h => by rw [← k5]; exact Int.mul_neg_of_neg_of_pos h h1
  have k8 : ¬ q - me < 0 → 0 ≤ q * S1 - me * S1 := fun h => by rw [← k5]; exact Int.mul_nonneg (by omega) (Int.le_of_lt h1)
  rw [k3] at e1 e2
  rw [k4]
  by_cases hq : q - me < 0
  · have := k7 hq
    rw [if_pos hq, k6]
    by_cases hs : S0 - 8 * (me * S1) < 0
    · rw [if_pos hs]; omega
    · rw [if_neg hs]; omega
  · have := k8 hq
    rw [if_neg hq, k5]
    by_cases hs : S0 - 8 * (me * S1) < 0
    · rw [if_pos hs]; omega
    · rw [if_neg hs]; omega

/-- the variance's error, one sample on -/
theorem var_step {va p t A B V0 V1 S1 : Int} (h0 : va = 4 * p + t) (ht : 0 ≤ t) (ht2 : t ≤ 3) (h1 : 0 < S1) (h2 : 0 < V1) (e1 : -4 * V1 ≤ va * V1 - V0) (e2 : va * V1 - V0 < 7 * V1)
    (c1 : -(7 * S1) ≤ 8 * (A * S1) - B) (c2 : 8 * (A * S1) - B ≤ 7 * S1) :
    -4 * (4 * V1 * (8 * S1)) ≤ (va - p + A) * (4 * V1 * (8 * S1)) - (3 * V0 * (8 * S1) + B * (4 * V1)) ∧
    (va - p + A) * (4 * V1 * (8 * S1)) - (3 * V0 * (8 * S1) + B * (4 * V1)) < 7 * (4 * V1 * (8 * S1)) := by
  have hU : 0 < V1 * S1 := Int.mul_pos h2 h1
  have k1 : 0 ≤ t * (V1 * S1) := Int.mul_nonneg ht (Int.le_of_lt hU)
  have k2 : t * (V1 * S1) ≤ 3 * (V1 * S1) := Int.mul_le_mul_of_nonneg_right ht2 (Int.le_of_lt hU)
  have k3 : (-4 * V1) * S1 ≤ (va * V1 - V0) * S1 := Int.mul_le_mul_of_nonneg_right e1 (Int.le_of_lt h1)
  have k4 : (va * V1 - V0) * S1 < (7 * V1) * S1 := Int.mul_lt_mul_of_pos_right e2 h1
  have k5 : V1 * -(7 * S1) ≤ V1 * (8 * (A * S1) - B) := Int.mul_le_mul_of_nonneg_left c1 (Int.le_of_lt h2)
  have k6 : V1 * (8 * (A * S1) - B) ≤ V1 * (7 * S1) := Int.mul_le_mul_of_nonneg_left c2 (Int.le_of_lt h2)
  have g1 : (-4 * V1) * S1 = -4 * (V1 * S1) := by grind
  have g2 : (7 * V1) * S1 = 7 * (V1 * S1) := by grind
  have g3 : V1 * -(7 * S1) = -7 * (V1 * S1) := by grind
  have g4 : V1 * (7 * S1) = 7 * (V1 * S1) := by grind
  have g5 : 4 * V1 * (8 * S1) = 32 * (V1 * S1) := by grind
  have g6 : (va - p + A) * (32 * (V1 * S1)) - (3 * V0 * (8 * S1) + B * (4 * V1)) = 8 * (t * (V1 * S1)) + 24 * ((va * V1 - V0) * S1) + 4 * (V1 * (8 * (A * S1) - B)) := by subst h0; grind
  rw [g1] at k3; rw [g2] at k4; rw [g3] at k5; rw [g4] at k6
  rw [g5, g6]
  omega

theorem sinvS {j : Nat} {sm va S0 S1 V0 V1 me : Int} (inv : SInv j sm va S0 S1 V0 V1) (h1 : 1 ≤ me) (h2 : me ≤ 30000) :
    SInv (j + 1) (sm - sm.fdiv 8 + me) (va - va.fdiv 4 + (if sm.fdiv 8 - me < 0 then -(sm.fdiv 8 - me) else sm.fdiv 8 - me)) (7 * S0 * 1 + me * (8 * S1)) (8 * S1 * 1)
      (3 * V0 * (8 * S1) + (if S0 - me * (8 * S1) < 0 then -(S0 - me * (8 * S1)) else S0 - me * (8 * S1)) * (4 * V1)) (4 * V1 * (8 * S1)) := by
  obtain ⟨a1, a2, a3, a4, b1, b2, b3, c1, c2, c3, c4⟩ := inv
  have f8 := fd8 sm
  have f4 := fd4 va
  have hs := smooth_step (sm := sm) (q := sm.fdiv 8) (r := sm - 8 * sm.fdiv 8) (S0 := S0) (S1 := S1) (me := me) (by omega) (by omega) (by omega) b1 c1 c2
  have hg := abs_gap (sm := sm) (q := sm.fdiv 8) (r := sm - 8 * sm.fdiv 8) (S0 := S0) (S1 := S1) (me := me) (by omega) (by omega) (by omega) b1 c1 c2
  have hv := var_step (va := va) (p := va.fdiv 4) (t := va - 4 * va.fdiv 4) (by omega) (by omega) (by omega) b1 b3 c3 c4 hg.1 hg.2
  have hp : (8 : Int) ^ (j + 1) = 8 ^ j * 8 := Int.pow_succ 8 j
  refine ⟨?_, ?_, ?_, ?_, ?_, ?_, ?_, hs.1, hs.2, hv.1, hv.2⟩
  · omega
  · omega
  · split <;> omega
  · split <;> omega
  · omega
  · rw [hp]; omega
  · exact Int.mul_pos (by omega) (by omega)
theorem wS1 {j : Nat} {s v S0 S1 V0 V1 : Int} (h : SInv j s v S0 S1 V0 V1) : 0 * S1 ≤ s * S1 - S0 := by
  have := h.2.2.2.2.2.2.2.1; omega
theorem wS2 {j : Nat} {s v S0 S1 V0 V1 : Int} (h : SInv j s v S0 S1 V0 V1) : s * S1 - S0 < 7 * S1 := h.2.2.2.2.2.2.2.2.1
theorem wV1 {j : Nat} {s v S0 S1 V0 V1 : Int} (h : SInv j s v S0 S1 V0 V1) : (0 - 4) * V1 ≤ v * V1 - V0 := by
  have := h.2.2.2.2.2.2.2.2.2.1; omega
theorem wV2 {j : Nat} {s v S0 S1 V0 V1 : Int} (h : SInv j s v S0 S1 V0 V1) : v * V1 - V0 < 7 * V1 := h.2.2.2.2.2.2.2.2.2.2
end
section
theorem fr_kst0 {g : Heap} {L : Addr} {h : Heap} {m₁ : Str → Option Value} {ps : List (Str × Value)} (hp : ∀ p ∈ ps, m₁ p.1 = some p.2) (F : Fr g L h m₁) : Fr g L h (kstB m₁ ps) := by
  have e : kstB m₁ ps = m₁ := funext fun y => kstB_eq hp fun _ => rfl
  rw [e]; exact F
local macro_rules | `(tactic| walk_at "ite") => `(tactic| (first | with_reducible refine ite_ff ?_ | with_reducible refine ite_tt ?_))
local macro_rules | `(tactic| walk_at "ite") => `(tactic| (first | (with_reducible refine ite_bneF (by first | rfl | omega) ?_) | (with_reducible refine ite_bneT (by omega) ?_)))
local macro_rules | `(tactic| walk_at "call ref") => `(tactic| (k_here; (with_reducible show wpAny _ _ (call (Value.ref 105) [Value.int _ _, Value.int _ _, Value.ref _, Value.int _ _]) _ _ _); k_dflt (refine' within_k ?KX ?X ?V ?GL ?T ?TB ?TE ?TW ?M ?K0 ?F ?N ?hm ?n1 ?n2 ?l1 ?l2 ?g1 ?g2 ?h1 ?h2 ?_; (case KX => k_asm); (case X => k_asm); (case V => k_asm); (case GL => k_asm); (case T => k_asm); (case TB => k_asm); (case TE => k_asm); (case TW => k_asm); (case M => k_asm); (case K0 => k_asm); (case F => k_asm); (case N => k_asm); (case hm => k_memK); (case n1 => omega); (case n2 => omega); (case l1 => omega); (case l2 => omega); (case g1 => omega); (case g2 => omega); (case h1 => first | exact wS1 (by assumption) | exact wV1 (by assumption)); (case h2 => first | exact wS2 (by assumption) | exact wV2 (by assumption))); intro h' tk' F' N'; (try dsimp only); (try k_sweep)))
local macro_rules | `(tactic| walk_at "subscriptTail Name Constant ref int") => `(tactic| (k_here; (with_reducible show wpAny _ _ (subscriptTail _ _ (Value.ref _) (Value.int _ _)) _ _ _); k_dflt (refine' item_tupleT ?t ?a ?b ?c ?d ?_; (case t => exact News.isTup (by k_asm) (by k_memK)); (case a => decide); (case b => decide); (case c => rfl); (case d => rfl); k_whole)))
local macro_rules | `(tactic| walk_at "callWith ref") => `(tactic| (k_here; (with_reducible show wpAny _ _ (callWith _ _ _ (backTo _ (starEach [] _)) []) _ _ _); k_dflt (refine' callWith_K0 ?k1 ?k2 ?_; (case k1 => (refine' inKeep ?F ?X; (case F => k_asm); (case X => k_asm))); (case k2 => k_is); k_whole)))
local macro_rules | `(tactic| walk_at "InvEndG") => `(tactic| (k_dflt (refine' endJ ?F ?N ?m1 ?m2 ?m3 ?m4 ?m5 ?e1 ?e2 ?e3 ?e4 ?e5 ?e6 ?hi ?hlen ?hs ?hs2 ?off ?o1 ?o2 ?ho ?ne ?hfa ?hl1 ?hl2 ?inv; ((case F => k_asm)); ((case N => k_asm)); ((case m1 => rfl)); ((case m2 => rfl)); ((case m3 => rfl)); ((case m4 => rfl)); ((case m5 => rfl)); ((case e1 => k_memK)); ((case e2 => k_memK)); ((case e3 => k_memK)); ((case e4 => k_memK)); ((case e5 => k_memK)); ((case e6 => k_memK)); ((case hi => k_asm)); ((case hlen => k_asm)); ((case hs => k_asm)); ((case hs2 => k_asm)); ((case off => k_asm)); ((case o1 => (first | assumption | k_all))); ((case o2 => (first | assumption | k_all))); ((case ho => (intro p hp; k_ownIn))); ((case ne => (refine ⟨?_, ?_, ?_, ?_, ?_, ?_, ?_, ?_⟩ <;> k_ne))); ((case hfa => omega)); ((case hl1 => omega)); ((case hl2 => omega)); ((case inv => (assumption))))))
set_option linter.unusedVariables false in
theorem tail_k {w : World} {mg mb : Str → Option Value} {mean : ExcName → Option Value} {base : Heap} {L fa : Addr} {cdL : Value} {w9 : Addr} {w8 : Obj}
    (KX : (hd.heap_39 w.params).In base) (X : Flt.MathXP hd.view_39 mg base) (V : LooseAre [] mg base)
    (GL : Glob 0 mg mb (List.map itemOf (recsOf hd.view_39)) (scalarsOf [] ++ constsW hd.view_39) [] (namesW hd.view_39 []) base)
    (T : Top hd.view_39 (looseW hd.view_39 []) mean mg mb base) (TB : Tables hd.view_39 w mg base)
    (TE : TopE hd.view_39 (looseW hd.view_39 []) mg base) (TW : TopW hd.view_39 mg base) (M : BMod base mainGlobals mg w9 w8)
    (K0 : Below callerA base [] base)
    {E : Value → Shared → Prop} {Q : Flow → Shared → Prop} {s₁ : Shared} {h' : Heap} {tk j n1 n2 : Nat} {m' : Str → Option Value} {b it x d a1 a2 : Addr} {vs : List Value} {its : List Int} {c : Nat} {seed : Int}
    {ts k1 k2 k3 k4 k5 q0 q1 q2 q3 q4 q5 qa r0 r1 r2 r3 : Tok} {le la sm va S0 S1 V0 V1 fi : Int} {own news' : List (Addr × Obj)}
    (tl : List Stmt) (htl : tl = loopTail Challenge.pw_no0047_01) (sc : Scope) (hsc : sc = lawSc Challenge.pw_no0047_01)
    (F : Fr base L h' m') (N : News base L h' news')
    (m1 : m' (Str.ofString "box") = some (.ref b)) (m2 : m' (Str.ofString "told") = some (.ref x)) (m3 : m' (Str.ofString "least") = some (.int le q0)) (m4 : m' (Str.ofString "smoothed8") = some (.ref a1)) (m5 : m' (Str.ofString "variance4") = some (.ref a2))
    (m6 : m' (Str.ofString "latest") = some (.int la qa))
    (e1 : (b, W.listOf #[Value.ref it, Value.int seed ts] 0) ∈ news') (e2 : (it, W.listOf vs.toArray c) ∈ news') (e3 : (x, instObj 66 d) ∈ news')
    (e4 : (d, dictOf [⟨PyData.keyHash w.params (Str.ofString "latest"), .str (Str.ofString "latest") k1, .int la q1⟩, ⟨PyData.keyHash w.params (Str.ofString "least"), .str (Str.ofString "least") k2, .int le q2⟩,
        ⟨PyData.keyHash w.params (Str.ofString "smoothed8"), .str (Str.ofString "smoothed8") k3, .int sm q3⟩, ⟨PyData.keyHash w.params (Str.ofString "variance4"), .str (Str.ofString "variance4") k4, .int va q4⟩,
        ⟨PyData.keyHash w.params (Str.ofString "first_at"), .str (Str.ofString "first_at") k5, .int fi q5⟩] 5) ∈ news')
    (e5 : (a1, ({ cls := Value.type "tuple", data := Data.seq #[Value.int S0 r0, Value.int S1 r1] n1 } : Obj)) ∈ news') (e6 : (a2, ({ cls := Value.type "tuple", data := Data.seq #[Value.int V0 r2, Value.int V1 r3] n2 } : Obj)) ∈ news')
    (hi : IntsAre vs its) (hlen : its.length ≤ 24) (hs : 0 ≤ seed) (hs2 : seed < 2147483647)
    (off : OwnOff own [b, it, x, d]) (o1 : ∀ p ∈ own, p.1 ≠ a1) (o2 : ∀ p ∈ own, p.1 ≠ a2) (ho : ∀ p ∈ own, p ∈ news')
    (ne : @Ne Nat a1 b ∧ @Ne Nat a1 it ∧ @Ne Nat a1 x ∧ @Ne Nat a1 d ∧ @Ne Nat a2 b ∧ @Ne Nat a2 it ∧ @Ne Nat a2 x ∧ @Ne Nat a2 d)
    (hfa : fi = 1000) (hl1 : 1 ≤ le) (hl2 : le ≤ 30000) (inv : SInv j sm va S0 S1 V0 V1) :
    wpAny (model PySem.Challenge.rw_no0047_01.row.prog w) (callerA.deeper (envOf (Str.ofString "law") sc L fa cdL))
      (execs tl (envOf (Str.ofString "law") sc L fa cdL)) (InvPostG base L (Jn w b it x d k1 k2 k3 k4 k5 j) own s₁ Q) E { s₁ with heap := h', toks := tk } := by
  have inv' := inv
  obtain ⟨i1, i2, i3, i4, _⟩ := inv'
  have f8 := fd8 sm
  have f4 := fd4 va
  have F2 := fr_kst0 (ps := [(Str.ofString "box", .ref b), (Str.ofString "told", .ref x), (Str.ofString "least", .int le q0), (Str.ofString "smoothed8", .ref a1), (Str.ofString "variance4", .ref a2), (Str.ofString "latest", .int la qa)]) (by
    intro p hp
    simp only [List.mem_cons, List.not_mem_nil, or_false] at hp
    rcases hp with rfl | rfl | rfl | rfl | rfl | rfl <;> assumption) F
  have N2 : News base L h' ((b, W.listOf #[Value.ref it, Value.int seed ts] 0) :: (it, W.listOf vs.toArray c) :: (x, instObj 66 d) :: (d, dictOf [⟨PyData.keyHash w.params (Str.ofString "latest"), .str (Str.ofString "latest") k1, .int la q1⟩, ⟨PyData.keyHash w.params (Str.ofString "least"), .str (Str.ofString "least") k2, .int le q2⟩,
        ⟨PyData.keyHash w.params (Str.ofString "smoothed8"), .str (Str.ofString "smoothed8") k3, .int sm q3⟩, ⟨PyData.keyHash w.params (Str.ofString "variance4"), .str (Str.ofString "variance4") k4, .int va q4⟩,
        ⟨PyData.keyHash w.params (Str.ofString "first_at"), .str (Str.ofString "first_at") k5, .int fi q5⟩] 5) ::
      (a1, { cls := Value.type "tuple", data := Data.seq #[Value.int S0 r0, Value.int S1 r1] n1 }) :: (a2, { cls := Value.type "tuple", data := Data.seq #[Value.int V0 r2, Value.int V1 r3] n2 }) :: own) := by
    refine kst_newsOf N fun p hp => ?_
    simp only [List.mem_cons] at hp
    rcases hp with rfl | rfl | rfl | rfl | rfl | rfl | hp
    all_goals first | assumption | exact ho p hp
  clear F N m1 m2 m3 m4 m5 m6 e1 e2 e3 e4 e5 e6 ho
  revert KX
  k_fill
  w_top off
  intro KX
  have kMark := kstMark
  conv at htl => rhs; whnf
  conv at hsc => rhs; whnf
  subst htl hsc
  w_strict k_steps
end
section
local macro_rules | `(tactic| walk_at "ite") => `(tactic| (first | with_reducible refine ite_ff ?_ | with_reducible refine ite_tt ?_))
local macro_rules | `(tactic| walk_at "ite") => `(tactic| (first | (with_reducible refine ite_bneF (by first | rfl | omega) ?_) | (with_reducible refine ite_bneT (by omega) ?_)))
local macro_rules | `(tactic| walk_at "subscriptTail Name Constant ref int") => `(tactic| (k_here; (with_reducible show wpAny _ _ (subscriptTail _ _ (Value.ref _) (Value.int _ _)) _ _ _); k_dflt (refine' item_tupleT ?t ?a ?b ?c ?d ?_; (case t => exact News.isTup (by k_asm) (by k_memK)); (case a => decide); (case b => decide); (case c => rfl); (case d => rfl); k_whole)))
local macro_rules | `(tactic| walk_at "callWith ref") => `(tactic| (k_here; (with_reducible show wpAny _ _ (callWith _ _ _ (backTo _ (starEach [] _)) []) _ _ _); k_dflt (refine' callWith_K0 ?k1 ?k2 ?_; (case k1 => (refine' inKeep ?F ?X; (case F => k_asm); (case X => k_asm))); (case k2 => k_is); k_whole)))
local macro_rules | `(tactic| mul_fits) => `(tactic| exact far_fits (by assumption) (by assumption) (by omega) (by omega))
local macro_rules | `(tactic| walk_at "execs cons") => `(tactic| (k_here; (with_reducible show wpAny _ _ (execs [Stmt.If _ _ _ _, Stmt.If _ _ _ _, Stmt.If _ _ _ _, Stmt.If _ _ _ _] _) _ _ _); k_dflt (refine' tail_k ?KX ?X ?V ?GL ?T ?TB ?TE ?TW ?M ?K0 _ ?htl _ ?hsc ?F ?N ?m1 ?m2 ?m3 ?m4 ?m5 ?m6 ?e1 ?e2 ?e3 ?e4 ?e5 ?e6 ?hi ?hlen ?hs ?hs2 ?off ?o1 ?o2 ?ho ?ne ?hfa ?hl1 ?hl2 ?inv; (case KX => k_asm); (case X => k_asm); (case V => k_asm); (case GL => k_asm); (case T => k_asm); (case TB => k_asm); (case TE => k_asm); (case TW => k_asm); (case M => k_asm); (case K0 => k_asm); (case htl => (with_unfolding_all rfl)); (case hsc => (with_unfolding_all rfl)); (case F => k_asm); (case N => k_asm); (case m1 => rfl); (case m2 => rfl); (case m3 => rfl); (case m4 => rfl); (case m5 => rfl); (case m6 => rfl); (case e1 => k_memK); (case e2 => k_memK); (case e3 => k_memK); (case e4 => k_memK); (case e5 => k_memK); (case e6 => k_memK); (case hi => k_asm); (case hlen => k_asm); (case hs => k_asm); (case hs2 => k_asm); (case off => k_asm); (case o1 => k_all); (case o2 => k_all); (case ho => (intro p hp; k_ownIn)); (case ne => (refine ⟨?_, ?_, ?_, ?_, ?_, ?_, ?_, ?_⟩ <;> k_ne)); (case hfa => omega); (case hl1 => omega); (case hl2 => omega); (case inv => (exact sinvS (by assumption) (by omega) (by omega))))))
set_option linter.unusedVariables false in
theorem far_k {w : World} {mg mb : Str → Option Value} {mean : ExcName → Option Value} {base : Heap} {L fa : Addr} {cdL : Value} {w9 : Addr} {w8 : Obj}
    (KX : (hd.heap_39 w.params).In base) (X : Flt.MathXP hd.view_39 mg base) (V : LooseAre [] mg base)
    (GL : Glob 0 mg mb (List.map itemOf (recsOf hd.view_39)) (scalarsOf [] ++ constsW hd.view_39) [] (namesW hd.view_39 []) base)
    (T : Top hd.view_39 (looseW hd.view_39 []) mean mg mb base) (TB : Tables hd.view_39 w mg base)
    (TE : TopE hd.view_39 (looseW hd.view_39 []) mg base) (TW : TopW hd.view_39 mg base) (M : BMod base mainGlobals mg w9 w8)
    (K0 : Below callerA base [] base)
    {E : Value → Shared → Prop} {Q R : Flow → Shared → Prop} {s₁ : Shared} {h' : Heap} {tk j n1 n2 : Nat} {m' : Str → Option Value} {b it x d a1 a2 : Addr} {vs : List Value} {its : List Int} {c : Nat} {seed : Int}
    {ts k1 k2 k3 k4 k5 q0 q1 q2 q3 q4 q5 qa qm r0 r1 r2 r3 : Tok} {le la sm va S0 S1 V0 V1 fi me : Int} {own news' : List (Addr × Obj)}
    (ft : List Stmt) (hft : ft = farTail Challenge.pw_no0047_01) (tl : List Stmt) (htl : tl = loopTail Challenge.pw_no0047_01) (sc : Scope) (hsc : sc = lawSc Challenge.pw_no0047_01)
    (hQ : ∀ s', wpAny (model PySem.Challenge.rw_no0047_01.row.prog w) (callerA.deeper (envOf (Str.ofString "law") sc L fa cdL)) (execs tl (envOf (Str.ofString "law") sc L fa cdL)) (InvPostG base L (Jn w b it x d k1 k2 k3 k4 k5 (j + 1)) own s₁ R) E s' → Q .next s')
    (F : Fr base L h' m') (N : News base L h' news')
    (m1 : m' (Str.ofString "box") = some (.ref b)) (m2 : m' (Str.ofString "told") = some (.ref x)) (m3 : m' (Str.ofString "least") = some (.int le q0)) (m4 : m' (Str.ofString "smoothed8") = some (.ref a1)) (m5 : m' (Str.ofString "variance4") = some (.ref a2))
    (m6 : m' (Str.ofString "latest") = some (.int la qa)) (m7 : m' (Str.ofString "mended") = some (.int me qm))
    (e1 : (b, W.listOf #[Value.ref it, Value.int seed ts] 0) ∈ news') (e2 : (it, W.listOf vs.toArray c) ∈ news') (e3 : (x, instObj 66 d) ∈ news')
    (e4 : (d, dictOf [⟨PyData.keyHash w.params (Str.ofString "latest"), .str (Str.ofString "latest") k1, .int la q1⟩, ⟨PyData.keyHash w.params (Str.ofString "least"), .str (Str.ofString "least") k2, .int le q2⟩,
        ⟨PyData.keyHash w.params (Str.ofString "smoothed8"), .str (Str.ofString "smoothed8") k3, .int (sm - sm.fdiv 8 + me) q3⟩, ⟨PyData.keyHash w.params (Str.ofString "variance4"), .str (Str.ofString "variance4") k4, .int (va - va.fdiv 4 + (if sm.fdiv 8 - me < 0 then -(sm.fdiv 8 - me) else sm.fdiv 8 - me)) q4⟩,
        ⟨PyData.keyHash w.params (Str.ofString "first_at"), .str (Str.ofString "first_at") k5, .int fi q5⟩] 5) ∈ news')
    (e5 : (a1, ({ cls := Value.type "tuple", data := Data.seq #[Value.int S0 r0, Value.int S1 r1] n1 } : Obj)) ∈ news') (e6 : (a2, ({ cls := Value.type "tuple", data := Data.seq #[Value.int V0 r2, Value.int V1 r3] n2 } : Obj)) ∈ news')
    (hi : IntsAre vs its) (hlen : its.length ≤ 24) (hs : 0 ≤ seed) (hs2 : seed < 2147483647)
    (off : OwnOff own [b, it, x, d]) (ho : ∀ p ∈ own, p ∈ news')
    (hfa : fi = 1000) (hl1 : 1 ≤ le) (hl2 : le ≤ 30000) (inv : SInv j sm va S0 S1 V0 V1) (i5 : 0 < S1) (i6 : S1 ≤ 4398046511104) (h1 : 1 ≤ me) (h2 : me ≤ 30000) :
    wpAny (model PySem.Challenge.rw_no0047_01.row.prog w) (callerA.deeper (envOf (Str.ofString "law") sc L fa cdL)) (execs ft (envOf (Str.ofString "law") sc L fa cdL)) Q E { s₁ with heap := h', toks := tk } := by
  have F2 := fr_kst0 (ps := [(Str.ofString "box", .ref b), (Str.ofString "told", .ref x), (Str.ofString "least", .int le q0), (Str.ofString "smoothed8", .ref a1), (Str.ofString "variance4", .ref a2), (Str.ofString "latest", .int la qa), (Str.ofString "mended", .int me qm)]) (by
    intro p hp
    simp only [List.mem_cons, List.not_mem_nil, or_false] at hp
    rcases hp with rfl | rfl | rfl | rfl | rfl | rfl | rfl <;> assumption) F
  have N2 : News base L h' ((b, W.listOf #[Value.ref it, Value.int seed ts] 0) :: (it, W.listOf vs.toArray c) :: (x, instObj 66 d) :: (d, dictOf [⟨PyData.keyHash w.params (Str.ofString "latest"), .str (Str.ofString "latest") k1, .int la q1⟩, ⟨PyData.keyHash w.params (Str.ofString "least"), .str (Str.ofString "least") k2, .int le q2⟩,
        ⟨PyData.keyHash w.params (Str.ofString "smoothed8"), .str (Str.ofString "smoothed8") k3, .int (sm - sm.fdiv 8 + me) q3⟩, ⟨PyData.keyHash w.params (Str.ofString "variance4"), .str (Str.ofString "variance4") k4, .int (va - va.fdiv 4 + (if sm.fdiv 8 - me < 0 then -(sm.fdiv 8 - me) else sm.fdiv 8 - me)) q4⟩,
        ⟨PyData.keyHash w.params (Str.ofString "first_at"), .str (Str.ofString "first_at") k5, .int fi q5⟩] 5) ::
      (a1, { cls := Value.type "tuple", data := Data.seq #[Value.int S0 r0, Value.int S1 r1] n1 }) :: (a2, { cls := Value.type "tuple", data := Data.seq #[Value.int V0 r2, Value.int V1 r3] n2 }) :: own) := by
    refine kst_newsOf N fun p hp => ?_
    simp only [List.mem_cons] at hp
    rcases hp with rfl | rfl | rfl | rfl | rfl | rfl | hp
    all_goals first | assumption | exact ho p hp
  clear F N m1 m2 m3 m4 m5 m6 m7 e1 e2 e3 e4 e5 e6 ho
  revert KX
  k_fill
  w_top off
  intro KX
  have kMark := kstMark
  conv at hft => rhs; whnf
  conv at htl => rhs; whnf
  conv at hsc => rhs; whnf
  subst hft htl hsc
  w_strict (k_steps; (refine hQ _ ?_); k_steps)
end
section
local macro_rules | `(tactic| walk_at "ite") => `(tactic| (first | with_reducible refine ite_ff ?_ | with_reducible refine ite_tt ?_))
local macro_rules | `(tactic| walk_at "ite") => `(tactic| (first | (with_reducible refine ite_bneF (by first | rfl | omega) ?_) | (with_reducible refine ite_bneT (by omega) ?_)))
local macro_rules | `(tactic| walk_at "call ref") => `(tactic| (k_here; (with_reducible show wpAny _ _ (call (Value.ref 77) [Value.ref _, Value.int _ _]) _ _ _); k_dflt (refine' take_k ?KX ?X ?V ?GL ?T ?TB ?TE ?TW ?M ?K0 ?F (News.pick2 ?N ?p1 ?p2) ?hi ?hlen ?hs ?hs2 ?hw ?hw2 ?hbi ?off ?_; (case KX => k_asm); (case X => k_asm); (case V => k_asm); (case GL => k_asm); (case T => k_asm); (case TB => k_asm); (case TE => k_asm); (case TW => k_asm); (case M => k_asm); (case K0 => k_asm); (case F => k_asm); (case N => k_asm); (case p1 => (repeat (first | exact Pick.here _ | apply Pick.there))); (case p2 => (repeat (first | exact Pick.here _ | apply Pick.there))); (case hi => k_asm); (case hlen => omega); (case hs => omega); (case hs2 => omega); (case hw => omega); (case hw2 => omega); (case hbi => k_ne); (case off => exact off2 (by k_all) (by k_all))); intro h' tk' vs' its' c' seed' ts' r' tq' F' N' iA' iL' s1' s2' r1' r2'; (try dsimp only); (try k_sweep)))
local macro_rules | `(tactic| walk_at "subscriptTail") => `(tactic| (k_here; (with_reducible show wpAny _ _ (subscriptTail _ _ (Value.ref _) (Value.int _ _)) _ _ _); k_dflt (refine' menu_k ?N ?hm ?h0 ?h4 ?hN ?hI ?hs; (case N => k_asm); (case hm => k_memK); (case h0 => omega); (case h4 => omega); (case hs => with_unfolding_all rfl)); (case' hI => (intro bo' bt' b1' b2')); (all_goals (try dsimp only))))
local macro_rules | `(tactic| walk_at "callWith ref") => `(tactic| (k_here; (with_reducible show wpAny _ _ (callWith _ _ _ (backTo _ (starEach [] _)) []) _ _ _); k_dflt (refine' callWith_K0 ?k1 ?k2 ?_; (case k1 => (refine' inKeep ?F ?X; (case F => k_asm); (case X => k_asm))); (case k2 => k_is); k_whole)))
local macro_rules | `(tactic| walk_at "execs cons") => `(tactic| (k_here; (with_reducible show wpAny _ _ (execs [Stmt.If _ _ _ _, Stmt.If _ _ _ _, Stmt.If _ _ _ _, Stmt.If _ _ _ _] _) _ _ _); k_dflt (refine' tail_k ?KX ?X ?V ?GL ?T ?TB ?TE ?TW ?M ?K0 _ ?htl _ ?hsc ?F ?N ?m1 ?m2 ?m3 ?m4 ?m5 ?m6 ?e1 ?e2 ?e3 ?e4 ?e5 ?e6 ?hi ?hlen ?hs ?hs2 ?off ?o1 ?o2 ?ho ?ne ?hfa ?hl1 ?hl2 ?inv; (case KX => k_asm); (case X => k_asm); (case V => k_asm); (case GL => k_asm); (case T => k_asm); (case TB => k_asm); (case TE => k_asm); (case TW => k_asm); (case M => k_asm); (case K0 => k_asm); (case htl => (with_unfolding_all rfl)); (case hsc => (with_unfolding_all rfl)); (case F => k_asm); (case N => k_asm); (case m1 => rfl); (case m2 => rfl); (case m3 => rfl); (case m4 => rfl); (case m5 => rfl); (case m6 => rfl); (case e1 => k_memK); (case e2 => k_memK); (case e3 => k_memK); (case e4 => k_memK); (case e5 => k_memK); (case e6 => k_memK); (case hi => k_asm); (case hlen => k_asm); (case hs => k_asm); (case hs2 => k_asm); (case off => k_asm); (case o1 => k_all); (case o2 => k_all); (case ho => (intro p hp; k_ownIn)); (case ne => (refine ⟨?_, ?_, ?_, ?_, ?_, ?_, ?_, ?_⟩ <;> k_ne)); (case hfa => omega); (case hl1 => omega); (case hl2 => omega); (case inv => (exact sinv0 (by omega) (by omega))))))
set_option linter.unusedVariables false in
theorem turn0 {w : World} {mg mb : Str → Option Value} {mean : ExcName → Option Value} {base : Heap} {L fa : Addr} {cdL : Value} {w9 : Addr} {w8 : Obj}
    (KX : (hd.heap_39 w.params).In base) (X : Flt.MathXP hd.view_39 mg base) (V : LooseAre [] mg base)
    (GL : Glob 0 mg mb (List.map itemOf (recsOf hd.view_39)) (scalarsOf [] ++ constsW hd.view_39) [] (namesW hd.view_39 []) base)
    (T : Top hd.view_39 (looseW hd.view_39 []) mean mg mb base) (TB : Tables hd.view_39 w mg base)
    (TE : TopE hd.view_39 (looseW hd.view_39 []) mg base) (TW : TopW hd.view_39 mg base) (M : BMod base mainGlobals mg w9 w8)
    (K0 : Below callerA base [] base)
    {E : Value → Shared → Prop} {Q : Flow → Shared → Prop} {s : Shared} {u : Str → Option Value} {b it x d : Addr} {vs : List Value} {its : List Int} {c : Nat} {seed : Int} {ts tk k1 k2 k3 k4 k5 v1 v2 v3 v4 : Tok} {n1 n2 n3 n4 k : Int} {own : List (Addr × Obj)}
    (body : List Stmt) (hb : body = loopBody Challenge.pw_no0047_01) (sc : Scope) (hsc : sc = lawSc Challenge.pw_no0047_01)
    (F : Fr base L s.heap (fun y => if y = Str.ofString "turn" then some (.int k tk) else kstB u [(Str.ofString "box", .ref b), (Str.ofString "told", .ref x), (Str.ofString "least", .none)] y))
    (N : News base L s.heap ((b, W.listOf #[Value.ref it, Value.int seed ts] 0) :: (it, W.listOf vs.toArray c) :: (x, instObj 66 d) ::
      (d, dictOf [⟨PyData.keyHash w.params (Str.ofString "latest"), .str (Str.ofString "latest") k1, .int n1 v1⟩, ⟨PyData.keyHash w.params (Str.ofString "least"), .str (Str.ofString "least") k2, .int n2 v2⟩,
        ⟨PyData.keyHash w.params (Str.ofString "smoothed8"), .str (Str.ofString "smoothed8") k3, .int n3 v3⟩, ⟨PyData.keyHash w.params (Str.ofString "variance4"), .str (Str.ofString "variance4") k4, .int n4 v4⟩,
        ⟨PyData.keyHash w.params (Str.ofString "first_at"), .str (Str.ofString "first_at") k5, .none⟩] 5) :: own))
    (hi : IntsAre vs its) (hlen : its.length ≤ 24) (hs : 0 ≤ seed) (hs2 : seed < 2147483647) (hk : k = 0)
    (d1 : @Ne Nat b it) (d2 : @Ne Nat b x) (d3 : @Ne Nat b d) (d4 : @Ne Nat it x) (d5 : @Ne Nat it d) (d6 : @Ne Nat x d) (off : OwnOff own [b, it, x, d]) :
    wpAny (model PySem.Challenge.rw_no0047_01.row.prog w) (callerA.deeper (envOf (Str.ofString "law") sc L fa cdL))
      (execs body (envOf (Str.ofString "law") sc L fa cdL)) (InvPostG base L (Jn w b it x d k1 k2 k3 k4 k5 0) own s Q) E s := by
  revert KX
  k_fill
  w_top off
  intro KX
  have kMark := kstMark
  conv at hb => rhs; whnf
  conv at hsc => rhs; whnf
  subst hb hsc
  w_strict k_steps
end
section
local macro_rules | `(tactic| walk_at "ite") => `(tactic| (first | with_reducible refine ite_ff ?_ | with_reducible refine ite_tt ?_))
local macro_rules | `(tactic| walk_at "ite") => `(tactic| (first | (with_reducible refine ite_bneF (by first | rfl | omega) ?_) | (with_reducible refine ite_bneT (by omega) ?_)))
local macro_rules | `(tactic| walk_at "call ref") => `(tactic| (k_here; (with_reducible show wpAny _ _ (call (Value.ref 77) [Value.ref _, Value.int _ _]) _ _ _); k_dflt (refine' take_k ?KX ?X ?V ?GL ?T ?TB ?TE ?TW ?M ?K0 ?F (News.pick2 ?N ?p1 ?p2) ?hi ?hlen ?hs ?hs2 ?hw ?hw2 ?hbi ?off ?_; (case KX => k_asm); (case X => k_asm); (case V => k_asm); (case GL => k_asm); (case T => k_asm); (case TB => k_asm); (case TE => k_asm); (case TW => k_asm); (case M => k_asm); (case K0 => k_asm); (case F => k_asm); (case N => k_asm); (case p1 => (repeat (first | exact Pick.here _ | apply Pick.there))); (case p2 => (repeat (first | exact Pick.here _ | apply Pick.there))); (case hi => k_asm); (case hlen => omega); (case hs => omega); (case hs2 => omega); (case hw => omega); (case hw2 => omega); (case hbi => k_ne); (case off => exact off2 (by k_all) (by k_all))); intro h' tk' vs' its' c' seed' ts' r' tq' F' N' iA' iL' s1' s2' r1' r2'; (try dsimp only); (try k_sweep)))
local macro_rules | `(tactic| walk_at "subscriptTail") => `(tactic| (k_here; (with_reducible show wpAny _ _ (subscriptTail _ _ (Value.ref _) (Value.int _ _)) _ _ _); k_dflt (refine' menu_k ?N ?hm ?h0 ?h4 ?hN ?hI ?hs; (case N => k_asm); (case hm => k_memK); (case h0 => omega); (case h4 => omega); (case hs => with_unfolding_all rfl)); (case' hI => (intro bo' bt' b1' b2')); (all_goals (try dsimp only))))
local macro_rules | `(tactic| walk_at "subscriptTail Name Constant ref int") => `(tactic| (k_here; (with_reducible show wpAny _ _ (subscriptTail _ _ (Value.ref _) (Value.int _ _)) _ _ _); k_dflt (refine' item_tupleT ?t ?a ?b ?c ?d ?_; (case t => exact News.isTup (by k_asm) (by k_memK)); (case a => decide); (case b => decide); (case c => rfl); (case d => rfl); k_whole)))
local macro_rules | `(tactic| walk_at "callWith ref") => `(tactic| (k_here; (with_reducible show wpAny _ _ (callWith _ _ _ (backTo _ (starEach [] _)) []) _ _ _); k_dflt (refine' callWith_K0 ?k1 ?k2 ?_; (case k1 => (refine' inKeep ?F ?X; (case F => k_asm); (case X => k_asm))); (case k2 => k_is); k_whole)))
local macro_rules | `(tactic| walk_at "execs cons") => `(tactic| (k_here; (with_reducible show wpAny _ _ (execs [Stmt.Assign _ _ _, Stmt.Assign _ _ _, Stmt.Assign _ _ _] _) _ _ _); k_dflt (refine' far_k ?KX ?X ?V ?GL ?T ?TB ?TE ?TW ?M ?K0 _ ?hft (loopTail Challenge.pw_no0047_01) rfl _ ?hsc (fun _ h => h) ?F ?N ?m1 ?m2 ?m3 ?m4 ?m5 ?m6 ?m7 ?e1 ?e2 ?e3 ?e4 ?e5 ?e6 ?hi ?hlen ?hs ?hs2 ?off ?ho ?hfa ?hl1 ?hl2 ?inv ?i5 ?i6 ?h1 ?h2; (case hft => (with_unfolding_all rfl)); (case KX => k_asm); (case X => k_asm); (case V => k_asm); (case GL => k_asm); (case T => k_asm); (case TB => k_asm); (case TE => k_asm); (case TW => k_asm); (case M => k_asm); (case K0 => k_asm); (case hsc => (with_unfolding_all rfl)); (case F => k_asm); (case N => k_asm); (case m1 => rfl); (case m2 => rfl); (case m3 => rfl); (case m4 => rfl); (case m5 => rfl); (case m6 => rfl); (case m7 => rfl); (case e1 => k_memK); (case e2 => k_memK); (case e3 => k_memK); (case e4 => k_memK); (case e5 => k_memK); (case e6 => k_memK); (case hi => k_asm); (case hlen => k_asm); (case hs => k_asm); (case hs2 => k_asm); (case off => k_asm); (case ho => (intro p hp; k_ownIn)); (case hfa => omega); (case hl1 => omega); (case hl2 => omega); (case inv => k_asm); (case i5 => k_asm); (case i6 => k_asm); (case h1 => omega); (case h2 => omega))))
set_option linter.unusedVariables false in
theorem turn1 {w : World} {mg mb : Str → Option Value} {mean : ExcName → Option Value} {base : Heap} {L fa : Addr} {cdL : Value} {w9 : Addr} {w8 : Obj}
    (KX : (hd.heap_39 w.params).In base) (X : Flt.MathXP hd.view_39 mg base) (V : LooseAre [] mg base)
    (GL : Glob 0 mg mb (List.map itemOf (recsOf hd.view_39)) (scalarsOf [] ++ constsW hd.view_39) [] (namesW hd.view_39 []) base)
    (T : Top hd.view_39 (looseW hd.view_39 []) mean mg mb base) (TB : Tables hd.view_39 w mg base)
    (TE : TopE hd.view_39 (looseW hd.view_39 []) mg base) (TW : TopW hd.view_39 mg base) (M : BMod base mainGlobals mg w9 w8)
    (K0 : Below callerA base [] base)
    {E : Value → Shared → Prop} {Q : Flow → Shared → Prop} {s : Shared} {u : Str → Option Value} {b it x d a1 a2 : Addr} {vs : List Value} {its : List Int} {c j n1 n2 : Nat} {seed : Int} {ts tk k1 k2 k3 k4 k5 q0 q1 q2 q3 q4 q5 r0 r1 r2 r3 : Tok} {le la sm va S0 S1 V0 V1 fi k : Int} {own : List (Addr × Obj)}
    (body : List Stmt) (hb : body = loopBody Challenge.pw_no0047_01) (sc : Scope) (hsc : sc = lawSc Challenge.pw_no0047_01)
    (F : Fr base L s.heap (fun y => if y = Str.ofString "turn" then some (.int k tk) else kstB u [(Str.ofString "box", .ref b), (Str.ofString "told", .ref x), (Str.ofString "least", .int le q0), (Str.ofString "smoothed8", .ref a1), (Str.ofString "variance4", .ref a2)] y))
    (N : News base L s.heap ((b, W.listOf #[Value.ref it, Value.int seed ts] 0) :: (it, W.listOf vs.toArray c) :: (x, instObj 66 d) ::
      (d, dictOf [⟨PyData.keyHash w.params (Str.ofString "latest"), .str (Str.ofString "latest") k1, .int la q1⟩, ⟨PyData.keyHash w.params (Str.ofString "least"), .str (Str.ofString "least") k2, .int le q2⟩,
        ⟨PyData.keyHash w.params (Str.ofString "smoothed8"), .str (Str.ofString "smoothed8") k3, .int sm q3⟩, ⟨PyData.keyHash w.params (Str.ofString "variance4"), .str (Str.ofString "variance4") k4, .int va q4⟩,
        ⟨PyData.keyHash w.params (Str.ofString "first_at"), .str (Str.ofString "first_at") k5, .int fi q5⟩] 5) ::
      (a1, { cls := Value.type "tuple", data := Data.seq #[Value.int S0 r0, Value.int S1 r1] n1 }) :: (a2, { cls := Value.type "tuple", data := Data.seq #[Value.int V0 r2, Value.int V1 r3] n2 }) :: own))
    (hi : IntsAre vs its) (hlen : its.length ≤ 24) (hs : 0 ≤ seed) (hs2 : seed < 2147483647)
    (d1 : @Ne Nat b it) (d2 : @Ne Nat b x) (d3 : @Ne Nat b d) (d4 : @Ne Nat it x) (d5 : @Ne Nat it d) (d6 : @Ne Nat x d)
    (g1 : @Ne Nat a1 b) (g2 : @Ne Nat a1 it) (g3 : @Ne Nat a1 x) (g4 : @Ne Nat a1 d) (g5 : @Ne Nat a2 b) (g6 : @Ne Nat a2 it) (g7 : @Ne Nat a2 x) (g8 : @Ne Nat a2 d) (off : OwnOff own [b, it, x, d])
    (hfi : fi = 1000) (hl1 : 1 ≤ le) (hl2 : le ≤ 30000) (inv : SInv j sm va S0 S1 V0 V1)
    (i1 : 0 ≤ sm) (i2 : sm ≤ 240007) (i3 : 0 ≤ va) (i4 : va ≤ 120010) (i5 : 0 < S1) (i6 : S1 ≤ 4398046511104) (i7 : 0 < V1) :
    wpAny (model PySem.Challenge.rw_no0047_01.row.prog w) (callerA.deeper (envOf (Str.ofString "law") sc L fa cdL))
      (execs body (envOf (Str.ofString "law") sc L fa cdL)) (InvPostG base L (Jn w b it x d k1 k2 k3 k4 k5 (j + 1)) own s Q) E s := by
  revert KX
  k_fill
  w_top off
  intro KX
  have kMark := kstMark
  have f8 := fd8 sm
  have f4 := fd4 va
  conv at hb => rhs; whnf
  conv at hsc => rhs; whnf
  subst hb hsc
  w_strict k_steps
end
section
def Jall (w : World) (b it x d : Addr) (k1 k2 k3 k4 k5 : Tok) (vs : List Value) (c : Nat) (seed : Int) (ts v1 v2 v3 v4 : Tok) (n1 n2 n3 n4 : Int) : Nat → (Str → Option Value) → List (Addr × Obj) → Prop
  | 0, m, nx => nx = [(b, W.listOf #[Value.ref it, Value.int seed ts] 0), (it, W.listOf vs.toArray c), (x, instObj 66 d),
      (d, dictOf [⟨PyData.keyHash w.params (Str.ofString "latest"), .str (Str.ofString "latest") k1, .int n1 v1⟩, ⟨PyData.keyHash w.params (Str.ofString "least"), .str (Str.ofString "least") k2, .int n2 v2⟩,
        ⟨PyData.keyHash w.params (Str.ofString "smoothed8"), .str (Str.ofString "smoothed8") k3, .int n3 v3⟩, ⟨PyData.keyHash w.params (Str.ofString "variance4"), .str (Str.ofString "variance4") k4, .int n4 v4⟩,
        ⟨PyData.keyHash w.params (Str.ofString "first_at"), .str (Str.ofString "first_at") k5, .none⟩] 5)] ∧
      m (Str.ofString "box") = some (.ref b) ∧ m (Str.ofString "told") = some (.ref x) ∧ m (Str.ofString "least") = some .none
  | j + 1, m, nx => Jn w b it x d k1 k2 k3 k4 k5 j m nx
theorem fr_kst {g : Heap} {L : Addr} {h : Heap} {z : Str} {v : Value} {m₁ : Str → Option Value} {ps : List (Str × Value)} (hp : ∀ p ∈ ps, m₁ p.1 = some p.2) (F : Fr g L h (fun y => if y = z then some v else m₁ y)) :
    Fr g L h (fun y => if y = z then some v else kstB m₁ ps y) := by
  have e : kstB m₁ ps = m₁ := funext fun y => kstB_eq hp fun _ => rfl
  rw [e]; exact F
theorem pow8 {j : Nat} (h : j ≤ 14) : (8 : Int) ^ j ≤ 4398046511104 := by
  have h14 : (8 : Nat) ^ j ≤ 8 ^ 14 := Nat.pow_le_pow_right (by decide) h
  have e : ((8 ^ j : Nat) : Int) = (8 : Int) ^ j := Int.natCast_pow 8 j
  rw [← e]
  exact Int.ofNat_le.mpr (Nat.le_trans h14 (by decide))
theorem off_of {own : List (Addr × Obj)} {l l' : List Addr} (h : OwnOff own l) (hs : ∀ a ∈ l', a ∈ l) : OwnOff own l' := fun p hp a ha => h p hp a (hs a ha)
set_option linter.unusedVariables false in
theorem loop_k {w : World} {mg mb : Str → Option Value} {mean : ExcName → Option Value} {base : Heap} {L fa : Addr} {cdL : Value} {w9 : Addr} {w8 : Obj}
    (KX : (hd.heap_39 w.params).In base) (X : Flt.MathXP hd.view_39 mg base) (V : LooseAre [] mg base)
    (GL : Glob 0 mg mb (List.map itemOf (recsOf hd.view_39)) (scalarsOf [] ++ constsW hd.view_39) [] (namesW hd.view_39 []) base)
    (T : Top hd.view_39 (looseW hd.view_39 []) mean mg mb base) (TB : Tables hd.view_39 w mg base)
    (TE : TopE hd.view_39 (looseW hd.view_39 []) mg base) (TW : TopW hd.view_39 mg base) (M : BMod base mainGlobals mg w9 w8)
    (K0 : Below callerA base [] base)
    {E : Value → Shared → Prop} {Q : Flow → Shared → Prop} {s : Shared} {m₀ : Str → Option Value} {news : List (Addr × Obj)} {b it x d r : Addr} {vs : List Value} {its : List Int} {c : Nat} {seed many : Int} {ts t u v k1 k2 k3 k4 k5 v1 v2 v3 v4 : Tok} {n1 n2 n3 n4 : Int}
    (body : List Stmt) (hb : body = loopBody Challenge.pw_no0047_01) (sc : Scope) (hsc : sc = lawSc Challenge.pw_no0047_01)
    (hr : IsRange s.heap r 0 many 1 t u v) (hm1 : 1 ≤ many) (hm2 : many ≤ 16)
    (F : Fr base L s.heap m₀) (N : News base L s.heap news)
    (p1 : m₀ (Str.ofString "box") = some (.ref b)) (p2 : m₀ (Str.ofString "told") = some (.ref x)) (p3 : m₀ (Str.ofString "least") = some .none)
    (e1 : (b, W.listOf #[Value.ref it, Value.int seed ts] 0) ∈ news) (e2 : (it, W.listOf vs.toArray c) ∈ news) (e3 : (x, instObj 66 d) ∈ news)
    (e4 : (d, dictOf [⟨PyData.keyHash w.params (Str.ofString "latest"), .str (Str.ofString "latest") k1, .int n1 v1⟩, ⟨PyData.keyHash w.params (Str.ofString "least"), .str (Str.ofString "least") k2, .int n2 v2⟩,
        ⟨PyData.keyHash w.params (Str.ofString "smoothed8"), .str (Str.ofString "smoothed8") k3, .int n3 v3⟩, ⟨PyData.keyHash w.params (Str.ofString "variance4"), .str (Str.ofString "variance4") k4, .int n4 v4⟩,
        ⟨PyData.keyHash w.params (Str.ofString "first_at"), .str (Str.ofString "first_at") k5, .none⟩] 5) ∈ news)
    (hi : IntsAre vs its) (hlen : its.length ≤ 24) (hs : 0 ≤ seed) (hs2 : seed < 2147483647)
    (d1 : @Ne Nat b it) (d2 : @Ne Nat b x) (d3 : @Ne Nat b d) (d4 : @Ne Nat it x) (d5 : @Ne Nat it d) (d6 : @Ne Nat x d)
    (done : ∀ h' tk m' news', Fr base L h' m' → News base L h' news' → Q .next { s with heap := h', toks := tk }) :
    wpAny (model PySem.Challenge.rw_no0047_01.row.prog w) (callerA.deeper (envOf (Str.ofString "law") sc L fa cdL)) (pyIter (.ref r))
      (fun it s₂ => LoopAtV PySem.Challenge.rw_no0047_01.row.prog w (callerA.deeper (envOf (Str.ofString "law") sc L fa cdL)) base (envOf (Str.ofString "law") sc L fa cdL) (Str.ofString "turn") body Q E it s₂) E s := by
  refine wpAny_pyIter_range hr (small_one (by decide) (by decide) (by omega) (by omega)) ?_
  have WW := (Walks.range (prog := PySem.Challenge.rw_no0047_01.row.prog) (w := w) (A := callerA.deeper (envOf (Str.ofString "law") sc L fa cdL)) rfl s.heap.objs.size 0 1 (many - 0).toNat).bound
  refine kdr_loop (Jall w b it x d k1 k2 k3 k4 k5 vs c seed ts v1 v2 v3 v4 n1 n2 n3 n4) WW (fun _ h => h) (fun _ h => h) ?_ ?_ ?_ ?_ ?_ (F.push _) (news := [(b, W.listOf #[Value.ref it, Value.int seed ts] 0), (it, W.listOf vs.toArray c), (x, instObj 66 d),
      (d, dictOf [⟨PyData.keyHash w.params (Str.ofString "latest"), .str (Str.ofString "latest") k1, .int n1 v1⟩, ⟨PyData.keyHash w.params (Str.ofString "least"), .str (Str.ofString "least") k2, .int n2 v2⟩,
        ⟨PyData.keyHash w.params (Str.ofString "smoothed8"), .str (Str.ofString "smoothed8") k3, .int n3 v3⟩, ⟨PyData.keyHash w.params (Str.ofString "variance4"), .str (Str.ofString "variance4") k4, .int n4 v4⟩,
        ⟨PyData.keyHash w.params (Str.ofString "first_at"), .str (Str.ofString "first_at") k5, .none⟩] 5)]) ?_ ⟨rfl, p1, p2, p3⟩ ?_ ?_
  · intro i h st y hy
    rw [List.mem_singleton.mp hy]
    exact ⟨_, st⟩
  · intro hm
    exact absurd F.ns.lt ((List.mem_singleton.mp hm) ▸ Nat.lt_irrefl _)
  · intro y hy
    rw [List.mem_singleton.mp hy]
    exact next_is_new F
  · intro p hp hI
    have hp' : p ∈ news := by
      simp only [List.mem_cons, List.not_mem_nil, or_false] at hp
      rcases hp with rfl | rfl | rfl | rfl <;> assumption
    exact absurd (Heap.lt_size (N p hp').1) ((List.mem_singleton.mp hI) ▸ Nat.lt_irrefl _)
  · show IsRangeIter _ _ _ _ _
    rw [rangeSize_nat]
    simpa using Heap.get?_push_size _ rfl
  · intro p hp
    have hp' : p ∈ news := by
      simp only [List.mem_cons, List.not_mem_nil, or_false] at hp
      rcases hp with rfl | rfl | rfl | rfl <;> assumption
    exact ⟨Heap.get?_push_of_some _ (N p hp').1, (N p hp').2⟩
  · rintro i vv m₁ nx h tk own hi' ⟨_, tt, rfl⟩ hoff hJ F₁ N₁
    cases i with
    | zero =>
      obtain ⟨rfl, q1, q2, q3⟩ := hJ
      have F₂ := fr_kst (ps := [(Str.ofString "box", .ref b), (Str.ofString "told", .ref x), (Str.ofString "least", .none)]) (by
        intro p hp
        simp only [List.mem_cons, List.not_mem_nil, or_false] at hp
        rcases hp with rfl | rfl | rfl <;> assumption) F₁
      exact turn0 KX X V GL T TB TE TW M K0 body hb sc hsc F₂ N₁ hi hlen hs hs2 (by simp) d1 d2 d3 d4 d5 d6 (off_of hoff (by simp))
    | succ j =>
      obtain ⟨vs', its', c', seed', ts', a1, a2, le, la, sm, va, S0, S1, V0, V1, fi, q0, q1, q2, q3, q4, q5, r0, r1, r2, r3, y1, y2, rfl, hi2, hlen2, hsd, hsd2, m1, m2, m3, m4, m5, ⟨g1, g2, g3, g4, g5, g6, g7, g8⟩, hfa, hl1, hl2, inv⟩ := hJ
      have F₂ := fr_kst (ps := [(Str.ofString "box", .ref b), (Str.ofString "told", .ref x), (Str.ofString "least", .int le q0), (Str.ofString "smoothed8", .ref a1), (Str.ofString "variance4", .ref a2)]) (by
        intro p hp
        simp only [List.mem_cons, List.not_mem_nil, or_false] at hp
        rcases hp with rfl | rfl | rfl | rfl | rfl <;> assumption) F₁
      have hj : j ≤ 14 := by omega
      have hb14 := pow8 hj
      have inv' := inv
      obtain ⟨i1, i2, i3, i4, i5, i6, i7, _⟩ := inv'
      exact turn1 KX X V GL T TB TE TW M K0 body hb sc hsc F₂ N₁ hi2 hlen2 hsd hsd2 d1 d2 d3 d4 d5 d6 g1 g2 g3 g4 g5 g6 g7 g8 (off_of hoff (by simp)) hfa hl1 hl2 inv i1 i2 i3 i4 i5 (Int.le_trans i6 hb14) i7
  · rintro m₁ nx h tk _ F₁ N₁
    exact done h tk m₁ nx F₁ N₁
end
section
local macro_rules | `(tactic| walk_at "ite") => `(tactic| (first | with_reducible refine ite_ff ?_ | with_reducible refine ite_tt ?_))
local macro_rules | `(tactic| walk_at "ite") => `(tactic| (first | (with_reducible refine ite_bneF (by first | rfl | omega) ?_) | (with_reducible refine ite_bneT (by omega) ?_)))
local macro_rules | `(tactic| walk_at "call ref") => `(tactic| (k_here; (with_reducible show wpAny _ _ (call (Value.ref 77) [Value.ref _, Value.int _ _]) _ _ _); k_dflt (refine' take_k ?KX ?X ?V ?GL ?T ?TB ?TE ?TW ?M ?K0 ?F (News.pick2 ?N ?p1 ?p2) ?hi ?hlen ?hs ?hs2 ?hw ?hw2 ?hbi ?off ?_; (case KX => k_asm); (case X => k_asm); (case V => k_asm); (case GL => k_asm); (case T => k_asm); (case TB => k_asm); (case TE => k_asm); (case TW => k_asm); (case M => k_asm); (case K0 => k_asm); (case F => k_asm); (case N => k_asm); (case p1 => (repeat (first | exact Pick.here _ | apply Pick.there))); (case p2 => (repeat (first | exact Pick.here _ | apply Pick.there))); (case hi => k_asm); (case hlen => omega); (case hs => omega); (case hs2 => omega); (case hw => omega); (case hw2 => omega); (case hbi => k_ne); (case off => exact off2 (by k_all) (by k_all))); intro h' tk' vs' its' c' seed' ts' r' tq' F' N' iA' iL' s1' s2' r1' r2'; (try dsimp only); (try k_sweep)))
local macro_rules | `(tactic| walk_at "callWith ref") => `(tactic| (k_here; (with_reducible show wpAny _ _ (callWith _ _ _ (backTo _ (starEach [] _)) []) _ _ _); k_dflt (refine' callWith_K0 ?k1 ?k2 ?_; (case k1 => (refine' inKeep ?F ?X; (case F => k_asm); (case X => k_asm))); (case k2 => k_is); k_whole)))
local macro_rules | `(tactic| walk_at "pyIter ref") => `(tactic| (k_here; (with_reducible rename IsRange _ _ _ _ _ _ _ _ => rgX); k_dflt (refine' loop_k ?KX ?X ?V ?GL ?T ?TB ?TE ?TW ?M ?K0 _ ?hb _ ?hsc ?hr ?hm1 ?hm2 ?F ?N ?p1 ?p2 ?p3 ?e1 ?e2 ?e3 ?e4 ?hi ?hlen ?hs ?hs2 ?d1 ?d2 ?d3 ?d4 ?d5 ?d6 ?done; ((case KX => k_asm)); ((case X => k_asm)); ((case V => k_asm)); ((case GL => k_asm)); ((case T => k_asm)); ((case TB => k_asm)); ((case TE => k_asm)); ((case TW => k_asm)); ((case M => k_asm)); ((case K0 => k_asm)); ((case hb => (with_unfolding_all rfl))); ((case hsc => (with_unfolding_all rfl))); ((case hr => exact rgX)); ((case hm1 => omega)); ((case hm2 => omega)); ((case F => k_asm)); ((case N => k_asm)); ((case p1 => rfl)); ((case p2 => rfl)); ((case p3 => rfl)); ((case e1 => k_memK)); ((case e3 => k_memK)); ((case e2 => k_memK)); ((case e4 => k_memK)); ((case hi => k_asm)); ((case hlen => k_asm)); ((case hs => omega)); ((case hs2 => omega)); ((case d1 => k_ne)); ((case d2 => k_ne)); ((case d3 => k_ne)); ((case d4 => k_ne)); ((case d5 => k_ne)); ((case d6 => k_ne))); (intro h' tk' m' news' F' N'); (try dsimp only); (try k_sweep)))
theorem xx : PySem.Challenge.rw_no0047_01.Holds := hd (by
  k_with "pyIter ref" => k_state (fun pre s => 0 ≤ s ∧ s < 2147483647) "seed_here"
  (w_strict (k_go0; (all_goals try k_fold); k_steps; (all_goals (try k_data)); all_goals w_report)))
end
end Mine
theorem PySem.Challenge.cw_no0047_01_holds : PySem.Challenge.rw_no0047_01.Holds := by
  exact Mine.xx
#print axioms PySem.Challenge.cw_no0047_01_holds
