import PyProof.Rows.All
import Wide.All
import OpenK.AllK
import Wide.FinOn
import PySem.Challenge.RW_xw0107_01
open PySem PySem.W PyProof.Rows
set_option Elab.async false
set_option rowWalk.seconds 100000
namespace Mine
set_option maxRecDepth 100000 in
set_option maxHeartbeats 8000000 in
open_top hd for PySem.Challenge.rw_xw0107_01
end Mine
/-! CBase -/
namespace Mine

abbrev Led := List (Addr × Obj)

/-- the ledger bears at v a list of ints -/
inductive LIn (news : Led) : Value → List Int → Prop
  | mk {a : Addr} {vs : List Value} {n : Nat} {ns : List Int} : (a, listOf vs.toArray n) ∈ news → IntsAre vs ns → LIn news (.ref a) ns
/-- the ledger bears at v a signed number: a bool and a list of ints -/
inductive SIn (news : Led) : Value → Bool × List Int → Prop
  | mk {a l : Addr} {b : Bool} {vs : List Value} {n k : Nat} {ns : List Int} : (a, ({ cls := .type "tuple", data := .seq #[.bool b, .ref l] n } : Obj)) ∈ news → (l, listOf vs.toArray k) ∈ news → IntsAre vs ns → SIn news (.ref a) (b, ns)

theorem LIn.mono {news news' : Led} (hs : ∀ p ∈ news, p ∈ news') {v : Value} {ns : List Int} : LIn news v ns → LIn news' v ns
  | .mk h i => .mk (hs _ h) i
theorem SIn.mono {news news' : Led} (hs : ∀ p ∈ news, p ∈ news') {v : Value} {d : Bool × List Int} : SIn news v d → SIn news' v d
  | .mk h k i => .mk (hs _ h) (hs _ k) i
theorem LIn.of {news : Led} {a : Addr} {vs : List Value} {n : Nat} {ns ms : List Int} (hm : (a, listOf vs.toArray n) ∈ news) (hi : IntsAre vs ns) (e : ns = ms) : LIn news (.ref a) ms := e ▸ .mk hm hi
theorem SIn.of {news : Led} {a l : Addr} {b : Bool} {vs : List Value} {n k : Nat} {ns : List Int} {d : Bool × List Int} (h : (a, ({ cls := .type "tuple", data := .seq #[.bool b, .ref l] n } : Obj)) ∈ news) (hm : (l, listOf vs.toArray k) ∈ news) (hi : IntsAre vs ns) (e : (b, ns) = d) : SIn news (.ref a) d := e ▸ .mk h hm hi

theorem mhead {p : Addr × Obj} {l : Led} : p ∈ p :: l := List.mem_cons_self
theorem mtail {p q : Addr × Obj} {l : Led} (h : p ∈ l) : p ∈ q :: l := List.mem_cons_of_mem _ h
theorem mapl {p : Addr × Obj} {l k : Led} (h : p ∈ l) : p ∈ l ++ k := List.mem_append.mpr (.inl h)
theorem mapr {p : Addr × Obj} {l k : Led} (h : p ∈ k) : p ∈ l ++ k := List.mem_append.mpr (.inr h)
theorem endN {h₀ h : Heap} {L : Addr} {news tl led : Led} (N : News h₀ L h led) (hs : ∀ p ∈ news, p ∈ led) (ht : ∀ p ∈ tl, p ∈ led) : News h₀ L h (news ++ tl) := fun p hp => N p ((List.mem_append.mp hp).elim (hs p) (ht p))
theorem end0 {h₀ h : Heap} {L : Addr} {news led : Led} (N : News h₀ L h led) (hs : ∀ p ∈ news, p ∈ led) : News h₀ L h (news ++ []) := fun p hp => N p (hs p (by rwa [List.append_nil] at hp))
theorem one_in {p : Addr × Obj} {led : Led} (h : p ∈ led) : ∀ q ∈ [p], q ∈ led := fun q hq => by rw [List.mem_singleton.mp hq]; exact h
theorem two_in {p p' : Addr × Obj} {led : Led} (h : p ∈ led) (h' : p' ∈ led) : ∀ q ∈ [p, p'], q ∈ led := fun q hq => by
  rcases List.mem_cons.mp hq with rfl | hq
  · exact h
  · rw [List.mem_singleton.mp hq]; exact h'
theorem allLt_mem {d : Addr} : ∀ {l : Led}, AllLt d l → ∀ p ∈ l, p.1 < d
  | [], _, _, hp => nomatch hp
  | q :: r, h, p, hp => by
    rcases List.mem_cons.mp hp with rfl | hp
    · exact h.1
    · exact allLt_mem h.2 p hp

theorem reN {h₀ h : Heap} {L : Addr} {add news tl : Led} (N : News h₀ L h (add ++ (news ++ tl))) : News h₀ L h (news ++ (add ++ tl)) := fun p hp => N p (by
  rcases List.mem_append.mp hp with hp | hp
  · exact mapr (mapl hp)
  · rcases List.mem_append.mp hp with hp | hp
    · exact mapl hp
    · exact mapr (mapr hp))
theorem reM {add news tl : Led} : ∀ p ∈ add ++ (news ++ tl), p ∈ news ++ (add ++ tl) := fun p hp => by
  rcases List.mem_append.mp hp with hp | hp
  · exact mapr (mapl hp)
  · rcases List.mem_append.mp hp with hp | hp
    · exact mapl hp
    · exact mapr (mapr hp)
theorem reO {add news tl : Led} (h1 : ∀ p ∈ add, AllLt p.1 news) (h2 : ∀ q ∈ add ++ news, ∀ p ∈ tl, q.1 < p.1) : ∀ q ∈ news, ∀ p ∈ add ++ tl, q.1 < p.1 := fun q hq p hp => by
  rcases List.mem_append.mp hp with hp | hp
  · exact allLt_mem (h1 p hp) q hq
  · exact h2 q (mapr hq) p hp

/-! ## what the defs compute -/
def endL (a : List Int) : Nat → Nat
  | 0 => 0
  | e + 1 => if a.getD e 0 = 0 then endL a e else e + 1
def normalL (a : List Int) : List Int := a.take (endL a a.length)

def cmpAt (a b : List Int) : Nat → Int
  | 0 => 0
  | k + 1 => if a.getD k 0 = b.getD k 0 then cmpAt a b k else if a.getD k 0 < b.getD k 0 then -1 else 1
def cmpL (a b : List Int) : Int := if a.length = b.length then cmpAt a b a.length else if a.length < b.length then -1 else 1

def addStep1 (a b : List Int) (w : Int) (st : List Int × Int) (k : Int) : List Int × Int :=
  (st.1 ++ [Builtin.bitAnd (st.2 + (a.getD k.toNat 0 + b.getD k.toNat 0)) (1 * 2 ^ w.toNat - 1)], (st.2 + (a.getD k.toNat 0 + b.getD k.toNat 0)).fdiv (2 ^ w.toNat))
def addStep2 (a : List Int) (w : Int) (st : List Int × Int) (k : Int) : List Int × Int :=
  (st.1 ++ [Builtin.bitAnd (st.2 + a.getD k.toNat 0) (1 * 2 ^ w.toNat - 1)], (st.2 + a.getD k.toNat 0).fdiv (2 ^ w.toNat))
def addFold1 (a b : List Int) (w : Int) : List Int × Int := (rangeKs 0 ((b.length : Int) - 0).toNat).foldl (addStep1 a b w) ([], 0)
def addFold2 (a b : List Int) (w : Int) : List Int × Int := (rangeKs b.length ((a.length : Int) - (b.length : Int)).toNat).foldl (addStep2 a w) (addFold1 a b w)
def addCore (a b : List Int) (w : Int) : List Int := if (addFold2 a b w).2 > 0 then (addFold2 a b w).1 ++ [(addFold2 a b w).2] else (addFold2 a b w).1
def addL (a b : List Int) (w : Int) : List Int := if a.length < b.length then addCore b a w else addCore a b w

def subLimb (a b : List Int) (bo k : Int) : Int := a.getD k.toNat 0 - bo - (if k < (b.length : Int) then b.getD k.toNat 0 else 0)
def subStep (a b : List Int) (w : Int) (st : List Int × Int) (k : Int) : List Int × Int :=
  (st.1 ++ [if subLimb a b st.2 k < 0 then subLimb a b st.2 k + 1 * 2 ^ w.toNat else subLimb a b st.2 k], if subLimb a b st.2 k < 0 then 1 else 0)
def subFold (a b : List Int) (w : Int) : List Int × Int := (rangeKs 0 ((a.length : Int) - 0).toNat).foldl (subStep a b w) ([], 0)
def subL (a b : List Int) (w : Int) : List Int := normalL (subFold a b w).1

def sg (b : Bool) (l : List Int) : Bool × List Int := (b && decide (0 < l.length), l)
def sAddL (x y : Bool × List Int) (w : Int) : Bool × List Int :=
  if x.1 = y.1 then sg x.1 (addL x.2 y.2 w) else if cmpL x.2 y.2 < 0 then sg y.1 (subL y.2 x.2 w) else sg x.1 (subL x.2 y.2 w)
def sNegL (x : Bool × List Int) : Bool × List Int := sg (!x.1) x.2
def sSubL (x y : Bool × List Int) (w : Int) : Bool × List Int := sAddL x (sNegL y) w

def limbsF (w : Int) : Nat → Int → List Int
  | 0, _ => []
  | f + 1, n => if 0 < n then Int.fmod n (2 ^ w.toNat) :: limbsF w f (Int.fdiv n (2 ^ w.toNat)) else []
def limbsL (n w : Int) : List Int := limbsF w n.toNat n
def signL (n w : Int) : Bool × List Int := (decide (n < 0), limbsL (if n < 0 then -n else n) w)

/-! ## lemmas -/
theorem add_turn1 {a b : List Int} {w : Int} {f : List Int} {c : Int} {pre : List Int} {k : Int} {P : Prop} (h : P) (hl : f.length = pre.length) (e : (f, c) = pre.foldl (addStep1 a b w) ([], 0)) :
    P ∧ (f ++ [Builtin.bitAnd (c + (a.getD k.toNat 0 + b.getD k.toNat 0)) (1 * 2 ^ w.toNat - 1)]).length = (pre ++ [k]).length ∧
      (f ++ [Builtin.bitAnd (c + (a.getD k.toNat 0 + b.getD k.toNat 0)) (1 * 2 ^ w.toNat - 1)], (c + (a.getD k.toNat 0 + b.getD k.toNat 0)).fdiv (2 ^ w.toNat)) = (pre ++ [k]).foldl (addStep1 a b w) ([], 0) := by
  refine ⟨h, by simp [hl], ?_⟩
  rw [List.foldl_append, ← e]; rfl
theorem add_turn2 {a b : List Int} {w : Int} {f : List Int} {c : Int} {pre : List Int} {k : Int} {P : Prop} (h : P) (hl : f.length = b.length + pre.length) (e : (f, c) = pre.foldl (addStep2 a w) (addFold1 a b w)) :
    P ∧ (f ++ [Builtin.bitAnd (c + a.getD k.toNat 0) (1 * 2 ^ w.toNat - 1)]).length = b.length + (pre ++ [k]).length ∧
      (f ++ [Builtin.bitAnd (c + a.getD k.toNat 0) (1 * 2 ^ w.toNat - 1)], (c + a.getD k.toNat 0).fdiv (2 ^ w.toNat)) = (pre ++ [k]).foldl (addStep2 a w) (addFold1 a b w) := by
  refine ⟨h, by simp [hl]; omega, ?_⟩
  rw [List.foldl_append, ← e]; rfl
theorem add_start2 {a b : List Int} {w : Int} {f : List Int} {c : Int} {P : Prop} (h : P) (hl : f.length = (rangeKs 0 ((b.length : Int) - 0).toNat).length) (e : (f, c) = (rangeKs 0 ((b.length : Int) - 0).toNat).foldl (addStep1 a b w) ([], 0)) :
    P ∧ f.length = b.length + ([] : List Int).length ∧ (f, c) = List.foldl (addStep2 a w) (addFold1 a b w) [] := by
  refine ⟨h, ?_, e⟩
  rw [hl, rangeKs_length]; simp
theorem add_endA {a b : List Int} {w : Int} {f : List Int} {c : Int} (h : ¬ a.length < b.length) (e : (f, c) = (rangeKs b.length ((a.length : Int) - (b.length : Int)).toNat).foldl (addStep2 a w) (addFold1 a b w)) (hc : 0 < c) : f ++ [c] = addL a b w := by
  have e2 : addFold2 a b w = (f, c) := e.symm
  unfold addL addCore
  rw [if_neg h, e2]
  simp [hc]
theorem add_endB {a b : List Int} {w : Int} {f : List Int} {c : Int} (h : ¬ a.length < b.length) (e : (f, c) = (rangeKs b.length ((a.length : Int) - (b.length : Int)).toNat).foldl (addStep2 a w) (addFold1 a b w)) (hc : ¬ 0 < c) : f = addL a b w := by
  have e2 : addFold2 a b w = (f, c) := e.symm
  unfold addL addCore
  rw [if_neg h, e2]
  simp [hc]
theorem add_endC {a b : List Int} {w : Int} {f : List Int} {c : Int} (h : a.length < b.length) (e : (f, c) = (rangeKs a.length ((b.length : Int) - (a.length : Int)).toNat).foldl (addStep2 b w) (addFold1 b a w)) (hc : 0 < c) : f ++ [c] = addL a b w := by
  have e2 : addFold2 b a w = (f, c) := e.symm
  unfold addL addCore
  rw [if_pos h, e2]
  simp [hc]
theorem add_endD {a b : List Int} {w : Int} {f : List Int} {c : Int} (h : a.length < b.length) (e : (f, c) = (rangeKs a.length ((b.length : Int) - (a.length : Int)).toNat).foldl (addStep2 b w) (addFold1 b a w)) (hc : ¬ 0 < c) : f = addL a b w := by
  have e2 : addFold2 b a w = (f, c) := e.symm
  unfold addL addCore
  rw [if_pos h, e2]
  simp [hc]

theorem sub_end {a b : List Int} {w : Int} {f : List Int} {c : Int} (e : (f, c) = (rangeKs 0 ((a.length : Int) - 0).toNat).foldl (subStep a b w) ([], 0)) : normalL f = subL a b w := by
  unfold subL subFold
  rw [← e]
theorem endL_le (a : List Int) : ∀ n, endL a n ≤ n
  | 0 => Nat.le_refl _
  | n + 1 => by
    unfold endL
    split
    · exact Nat.le_succ_of_le (endL_le a n)
    · exact Nat.le_refl _
theorem normalL_length (a : List Int) : (normalL a).length ≤ a.length := by
  unfold normalL
  rw [List.length_take]
  exact Nat.min_le_right _ _

theorem cmpAt_swap (a b : List Int) : ∀ n, cmpAt b a n = - cmpAt a b n
  | 0 => rfl
  | n + 1 => by
    unfold cmpAt
    rw [cmpAt_swap a b n]
    by_cases h : a.getD n 0 = b.getD n 0
    · rw [if_pos h, if_pos h.symm]
    · rw [if_neg h, if_neg (fun e => h e.symm)]
      by_cases h2 : a.getD n 0 < b.getD n 0
      · rw [if_pos h2, if_neg (by omega)]; rfl
      · rw [if_neg h2, if_pos (by omega)]
theorem cmpL_swap (a b : List Int) : cmpL b a = - cmpL a b := by
  unfold cmpL
  by_cases h : a.length = b.length
  · rw [if_pos h, if_pos h.symm, ← h, cmpAt_swap]
  · rw [if_neg h, if_neg (fun e => h e.symm)]
    by_cases h2 : a.length < b.length
    · rw [if_pos h2, if_neg (by omega)]; rfl
    · rw [if_neg h2, if_pos (by omega)]

theorem addFold1_length (a b : List Int) (w : Int) : ∀ (l : List Int) (st : List Int × Int), (l.foldl (addStep1 a b w) st).1.length = st.1.length + l.length
  | [], st => by simp
  | k :: l, st => by
    rw [List.foldl_cons, addFold1_length a b w l]
    simp [addStep1]; omega
theorem addFold2_length (a : List Int) (w : Int) : ∀ (l : List Int) (st : List Int × Int), (l.foldl (addStep2 a w) st).1.length = st.1.length + l.length
  | [], st => by simp
  | k :: l, st => by
    rw [List.foldl_cons, addFold2_length a w l]
    simp [addStep2]; omega
theorem addCore_length (a b : List Int) (w : Int) (h : b.length ≤ a.length) : (addCore a b w).length ≤ a.length + 1 := by
  have e : (addFold2 a b w).1.length = a.length := by
    unfold addFold2 addFold1
    rw [addFold2_length, addFold1_length, rangeKs_length, rangeKs_length]
    simp; omega
  unfold addCore
  split
  · simp [e]
  · omega
theorem addL_length (a b : List Int) (w : Int) (n : Nat) (ha : a.length ≤ n) (hb : b.length ≤ n) : (addL a b w).length ≤ n + 1 := by
  unfold addL
  split
  · exact Nat.le_trans (addCore_length _ _ _ (by omega)) (by omega)
  · exact Nat.le_trans (addCore_length _ _ _ (by omega)) (by omega)
theorem subFold_length (a b : List Int) (w : Int) : ∀ (l : List Int) (st : List Int × Int), (l.foldl (subStep a b w) st).1.length = st.1.length + l.length
  | [], st => by simp
  | k :: l, st => by
    rw [List.foldl_cons, subFold_length a b w l]
    simp [subStep]; omega
theorem subL_length (a b : List Int) (w : Int) : (subL a b w).length ≤ a.length := by
  unfold subL
  refine Nat.le_trans (normalL_length _) ?_
  unfold subFold
  rw [subFold_length, rangeKs_length]
  simp
theorem sAddL_length (x y : Bool × List Int) (w : Int) (n : Nat) (hx : x.2.length ≤ n) (hy : y.2.length ≤ n) : (sAddL x y w).2.length ≤ n + 1 := by
  unfold sAddL
  split
  · exact addL_length _ _ _ _ hx hy
  · split
    · exact Nat.le_trans (subL_length _ _ _) (by omega)
    · exact Nat.le_trans (subL_length _ _ _) (by omega)
end Mine

/-! C_normal -/
namespace Mine
local macro_rules | `(tactic| k_mem) => `(tactic| first | assumption | exact mhead | (refine mtail ?_; k_mem) | (refine mapl ?_; k_mem) | (refine mapr ?_; k_mem))
local macro_rules | `(tactic| walk_at "call builtin:len") => `(tactic| (k_here; (with_reducible show wpAny _ _ (call (Value.builtin "len") [Value.ref _]) _ _ _); k_dflt (refine' kst_len ?k1 ?k2 ?k3 ?k4 ?_; (case k1 => k_asm); (case k2 => k_mem); (case k3 => exact IntsAre.length (by assumption)); (case k4 => omega)); k_whole))

theorem norm_in {a : List Int} {e : Int} (h0 : 0 < e) (h : a.getD (e - 1).toNat 0 = 0) (hi : endL a e.toNat = endL a a.length) : endL a (e - 1).toNat = endL a a.length := by
  rw [← hi]
  have e1 : e.toNat = (e - 1).toNat + 1 := by omega
  rw [e1]
  conv => rhs; unfold endL
  rw [if_pos h]
theorem norm_end0 {a : List Int} {e : Int} (h0 : ¬ 0 < e) (hi : endL a e.toNat = endL a a.length) : a.take e.toNat = normalL a := by
  unfold normalL
  rw [← hi]
  have e1 : e.toNat = 0 := by omega
  rw [e1]; rfl
theorem norm_end1 {a : List Int} {e : Int} (h0 : 0 < e) (h : ¬ a.getD (e - 1).toNat 0 = 0) (hi : endL a e.toNat = endL a a.length) : a.take e.toNat = normalL a := by
  unfold normalL
  rw [← hi]
  have e1 : e.toNat = (e - 1).toNat + 1 := by omega
  rw [e1]
  unfold endL
  rw [if_neg h]
inductive NormR (news : Led) : List Value → List Int → Prop
  | mk {la : Addr} {va : List Value} {na : Nat} {a : List Int} : (la, listOf va.toArray na) ∈ news → IntsAre va a → NormR news [.ref la] a
abbrev normT : ToldN (List Int) where
  Rel := NormR
  Ok := fun d => d.length < 200
  size := fun _ => 1
  Tl := fun _ => True
  Out := fun news r d => LIn news r (normalL d)
set_option maxRecDepth 100000 in
set_option maxHeartbeats 8000000 in
theorem c_normal (w : World) (mean : ExcName → Option Value) (mg mb : Str → Option Value) (d : List Int) :
    TellsN PySem.Challenge.rw_xw0107_01.row.prog w (hd.heap_39 w.params) hd.view_39 (looseW hd.view_39 []) mean mg mb 46 normT d := by
  k_fill
  unfold TellsN
  intro dp un gd cn cs ad ccd cl outer A₀ base h₀ L m news s vs Q E B F X N T hk hR hok hd hu hret
  cases hR with
  | @mk la va na a hma hia =>
  dsimp only at hok hd hu hret
  have kMk := kstMark
  w_top off
  k_with_none
  refine wpAny_call ?_
  k_dflt ktr_enter
  k_with "exec While BoolOp cons nil" => k_while (fun _ e => 0 ≤ e ∧ e ≤ (d.length : Int) ∧ endL d e.toNat = endL d d.length) (fun _ e => e.toNat) "end"
  k_with "state" => first
    | exact ⟨by omega, by omega, rfl⟩
    | exact ⟨by omega, by omega, norm_in (by assumption) (by assumption) (by assumption)⟩
  k_steps
  all_goals (refine hret _ [(_, _)] _ _ (by assumption) (endN (by assumption) (fun p9 h9 => by k_mem) (one_in (by k_mem))) (ktn_ord1 (by first | assumption | exact allLt_of (by assumption) | exact And.right (by assumption) | exact And.right (And.right (by assumption)) | exact And.right (And.right (And.right (by assumption))))) trivial (LIn.of (mapr mhead) (by kst_facts) ?_))
  all_goals first | exact norm_end0 (by assumption) (by assumption) | exact norm_end1 (by assumption) (by assumption) (by assumption)
end Mine

/-! C_compare -/
namespace Mine
local macro_rules | `(tactic| k_mem) => `(tactic| first | assumption | exact mhead | (refine mtail ?_; k_mem) | (refine mapl ?_; k_mem) | (refine mapr ?_; k_mem))
local macro_rules | `(tactic| walk_at "call builtin:len") => `(tactic| (k_here; (with_reducible show wpAny _ _ (call (Value.builtin "len") [Value.ref _]) _ _ _); k_dflt (refine' kst_len ?k1 ?k2 ?k3 ?k4 ?_; (case k1 => k_asm); (case k2 => k_mem); (case k3 => exact IntsAre.length (by assumption)); (case k4 => omega)); k_whole))

theorem cmp_down {a b : List Int} {p : Nat} {k : Int} (hk : k = (a.length : Int) - 1 - (p : Int)) (hp : p < a.length) (hi : cmpAt a b a.length = cmpAt a b (a.length - p)) (h : a.getD k.toNat 0 = b.getD k.toNat 0) : cmpAt a b a.length = cmpAt a b (a.length - (p + 1)) := by
  rw [hi]
  have e1 : a.length - p = k.toNat + 1 := by omega
  have e2 : a.length - (p + 1) = k.toNat := by omega
  rw [e1, e2]
  conv => lhs; unfold cmpAt
  rw [if_pos h]
theorem cmp_found {a b : List Int} {p : Nat} {k : Int} (hk : k = (a.length : Int) - 1 - (p : Int)) (hp : p < a.length) (hi : cmpAt a b a.length = cmpAt a b (a.length - p)) (h : ¬ a.getD k.toNat 0 = b.getD k.toNat 0) : cmpAt a b a.length = if a.getD k.toNat 0 < b.getD k.toNat 0 then -1 else 1 := by
  rw [hi]
  have e1 : a.length - p = k.toNat + 1 := by omega
  rw [e1]
  conv => lhs; unfold cmpAt
  rw [if_neg h]
theorem cmp_is {a b : List Int} (h : (a.length : Int) = (b.length : Int)) : cmpL a b = cmpAt a b a.length := by
  unfold cmpL; rw [if_pos (by omega)]
theorem cmp_lt {a b : List Int} (h : (a.length : Int) < (b.length : Int)) : cmpL a b = -1 := by
  unfold cmpL; rw [if_neg (by omega), if_pos (by omega)]
theorem cmp_gt {a b : List Int} (h : ¬ (a.length : Int) = (b.length : Int)) (h2 : ¬ (a.length : Int) < (b.length : Int)) : cmpL a b = 1 := by
  unfold cmpL; rw [if_neg (by omega), if_neg (by omega)]
theorem cmp_out {x y : Int} {t : Tok} (h : y = x) : ∃ t', Value.int x t = .int y t' := ⟨t, by rw [h]⟩
inductive CmpR (news : Led) : List Value → List Int × List Int → Prop
  | mk {la lb : Addr} {va vb : List Value} {na nb : Nat} {a b : List Int} : (la, listOf va.toArray na) ∈ news → IntsAre va a → (lb, listOf vb.toArray nb) ∈ news → IntsAre vb b → CmpR news [.ref la, .ref lb] (a, b)
abbrev cmpT : ToldN (List Int × List Int) where
  Rel := CmpR
  Ok := fun d => d.1.length < 200 ∧ d.2.length < 200
  size := fun _ => 1
  Tl := fun tl => tl = []
  Out := fun _ r d => ∃ t, r = .int (cmpL d.1 d.2) t
set_option maxRecDepth 100000 in
set_option maxHeartbeats 8000000 in
theorem c_compare (w : World) (mean : ExcName → Option Value) (mg mb : Str → Option Value) (d : List Int × List Int) :
    TellsN PySem.Challenge.rw_xw0107_01.row.prog w (hd.heap_39 w.params) hd.view_39 (looseW hd.view_39 []) mean mg mb 53 cmpT d := by
  k_fill
  unfold TellsN
  intro dp un gd cn cs ad ccd cl outer A₀ base h₀ L m news s vs Q E B F X N T hk hR hok hd hu hret
  cases hR with
  | @mk la lb va vb na nb a b hma hia hmb hib =>
  dsimp only at hok hd hu hret
  have kMk := kstMark
  w_top off
  k_with_none
  obtain ⟨hla, hlb⟩ := hok
  refine wpAny_call ?_
  k_dflt ktr_enter
  k_with "exec For Name Call cons nil" => (k_here; (rename Fr _ _ _ _ => lF'); (with_unfolding_all refine' For_invVF lF' ?k1 ?k2 ?_; (case k1 => exact rfl); (case k2 => exact rfl); k_whole))
  k_with "pyIter ref" => (
    (rename Fr _ _ _ _ => lF'); (rename News _ _ _ _ => lN'); (rename IsRange _ _ _ _ _ _ _ _ => rgX)
    (with_unfolding_all refine' kst_rangeD (σ := Unit) (fun _ => news) (fun _ => []) (fun _ => True) [] (fun pre _ => cmpAt a b a.length = cmpAt a b (a.length - pre.length)) () (by rfl) rgX (small_down (by omega) (by omega) (by omega) (by omega)) (rangeSize_downNat _ _) lF' lN' trivial (List.forall_mem_nil _) rfl ?_ ?_)
    (all_goals (clear lF' lN'))
    (intro c9 kPre kN kT kU kH kTk kOwn kEq kLt kOff kFacts kInv kFr kNews)
    rotate_left
    (intro c9 kU kH kTk kFacts kInv kFr kNews)
    rotate_left
    (all_goals (have kMark := kstMark; (try dsimp only [kstB] at kFr); (try dsimp only at kInv); (try dsimp only at kNews); (try k_fold))))
  k_with "InvEndN" => (refine kst_end () (by assumption) (by assumption) (by first | kst_in | kst_inAny) (by first | (intro p hp; kst_mem) | kst_anyIn) (by rfl) trivial (List.forall_mem_nil _) (by kst_same) ?_)
  k_steps
  all_goals first
    | (refine hret _ [] _ _ (by assumption) (end0 (by assumption) (fun p9 h9 => by k_mem)) ktn_ord0 rfl (cmp_out ?_); first
      | exact cmp_lt (by assumption)
      | exact cmp_gt (by assumption) (by assumption)
      | (rw [cmp_is (by assumption), cmp_found (by assumption) (by omega) (by assumption) (by assumption)]; first | exact if_pos (by assumption) | exact if_neg (by assumption))
      | (rw [cmp_is (by assumption), kInv, downKs_length]; (have e9 : a.length - ((a.length : Int) - 1 - -1).toNat = 0 := by omega); rw [e9]; rfl))
    | (refine Eq.trans (cmp_down (by assumption) (by omega) (by assumption) (by assumption)) ?_; rw [List.length_append]; rfl)
    | skip
end Mine

/-! C_signed -/
namespace Mine
local macro_rules | `(tactic| k_mem) => `(tactic| first | assumption | exact mhead | (refine mtail ?_; k_mem) | (refine mapl ?_; k_mem) | (refine mapr ?_; k_mem))
local macro_rules | `(tactic| walk_at "call builtin:len") => `(tactic| (k_here; (with_reducible show wpAny _ _ (call (Value.builtin "len") [Value.ref _]) _ _ _); k_dflt (refine' kst_len ?k1 ?k2 ?k3 ?k4 ?_; (case k1 => k_asm); (case k2 => k_mem); (case k3 => exact IntsAre.length (by assumption)); (case k4 => omega)); k_whole))

inductive SigR (news : Led) : List Value → Bool × List Int → Prop
  | mk {b : Bool} {l : Addr} {vs : List Value} {n : Nat} {ns : List Int} : (l, listOf vs.toArray n) ∈ news → IntsAre vs ns → SigR news [.bool b, .ref l] (b, ns)
abbrev sigT : ToldN (Bool × List Int) where
  Rel := SigR
  Ok := fun d => d.2.length < 200
  size := fun _ => 1
  Tl := fun _ => True
  Out := fun news r d => SIn news r (sg d.1 d.2)
theorem sg_T {b : Bool} {ns : List Int} (h : b = true) : (decide (0 < (ns.length : Int)), ns) = sg b ns := by
  unfold sg; rw [h, Bool.true_and]; congr 1; simp
theorem sg_F {b : Bool} {ns : List Int} (h : b = false) : (b, ns) = sg b ns := by
  unfold sg; rw [h, Bool.false_and]
set_option maxRecDepth 100000 in
set_option maxHeartbeats 8000000 in
theorem c_signed (w : World) (mean : ExcName → Option Value) (mg mb : Str → Option Value) (d : Bool × List Int) :
    TellsN PySem.Challenge.rw_xw0107_01.row.prog w (hd.heap_39 w.params) hd.view_39 (looseW hd.view_39 []) mean mg mb 74 sigT d := by
  k_fill
  unfold TellsN
  intro dp un gd cn cs ad ccd cl outer A₀ base h₀ L m news s vs Q E B F X N T hk hR hok hd hu hret
  cases hR with
  | @mk b l vs n ns hm hi =>
  dsimp only at hok hd hu hret
  have kMk := kstMark
  w_top off
  k_with_none
  refine wpAny_call ?_
  k_dflt ktr_enter
  k_steps
  all_goals (refine hret _ [(_, _)] _ _ (by assumption) (endN (by assumption) (fun p9 h9 => by k_mem) (one_in (by k_mem))) (ktn_ord1 (by first | assumption | exact allLt_of (by assumption) | exact And.right (by assumption) | exact And.right (And.right (by assumption)) | exact And.right (And.right (And.right (by assumption))))) trivial (SIn.of (mapr mhead) (mapl (by k_mem)) (by assumption) ?_))
  all_goals first | exact sg_T (by assumption) | exact sg_F (by assumption)
end Mine

/-! C_add -/
namespace Mine
local macro_rules | `(tactic| k_mem) => `(tactic| first | assumption | exact mhead | (refine mtail ?_; k_mem) | (refine mapl ?_; k_mem) | (refine mapr ?_; k_mem))
local macro_rules | `(tactic| walk_at "call builtin:len") => `(tactic| (k_here; (with_reducible show wpAny _ _ (call (Value.builtin "len") [Value.ref _]) _ _ _); k_dflt (refine' kst_len ?k1 ?k2 ?k3 ?k4 ?_; (case k1 => k_asm); (case k2 => k_mem); (case k3 => exact IntsAre.length (by assumption)); (case k4 => omega)); k_whole))

inductive AddR (news : Led) : List Value → List Int × List Int × Int → Prop
  | mk {la lb : Addr} {va vb : List Value} {na nb : Nat} {a b : List Int} {w : Int} {t : Tok} : (la, listOf va.toArray na) ∈ news → IntsAre va a → (lb, listOf vb.toArray nb) ∈ news → IntsAre vb b → AddR news [.ref la, .ref lb, .int w t] (a, b, w)
abbrev addT : ToldN (List Int × List Int × Int) where
  Rel := AddR
  Ok := fun d => d.1.length < 100 ∧ d.2.1.length < 100 ∧ 4 ≤ d.2.2 ∧ d.2.2 ≤ 8
  size := fun _ => 1
  Tl := fun _ => True
  Out := fun news r d => LIn news r (addL d.1 d.2.1 d.2.2)
set_option maxRecDepth 100000 in
set_option maxHeartbeats 8000000 in
theorem c_add (w : World) (mean : ExcName → Option Value) (mg mb : Str → Option Value) (d : List Int × List Int × Int) :
    TellsN PySem.Challenge.rw_xw0107_01.row.prog w (hd.heap_39 w.params) hd.view_39 (looseW hd.view_39 []) mean mg mb 60 addT d := by
  k_fill
  unfold TellsN
  intro dp un gd cn cs ad ccd cl outer A₀ base h₀ L m news s vs Q E B F X N T hk hR hok hd hu hret
  cases hR with
  | @mk la lb va vb na nb a b wd t hma hia hmb hib =>
  dsimp only at hok hd hu hret
  have kMk := kstMark
  w_top off
  k_with_none
  obtain ⟨hla, hlb, hw4, hw8⟩ := hok
  refine wpAny_call ?_
  k_dflt ktr_enter
  k_with "pyIter ref" => first
    | ((have hX9 : a.length < b.length := by omega); first
      | ((rename ((_, _) = List.foldl (addStep1 _ _ _) _ _) => hY9); k_state (fun pre carry found => a.length < b.length ∧ found.length = a.length + pre.length ∧ (found, carry) = pre.foldl (addStep2 b wd) (addFold1 b a wd)) "carry" "found")
      | k_state (fun pre carry found => a.length < b.length ∧ found.length = pre.length ∧ (found, carry) = pre.foldl (addStep1 b a wd) ([], 0)) "carry" "found")
    | ((have hX9 : ¬ a.length < b.length := by omega); first
      | ((rename ((_, _) = List.foldl (addStep1 _ _ _) _ _) => hY9); k_state (fun pre carry found => ¬ a.length < b.length ∧ found.length = b.length + pre.length ∧ (found, carry) = pre.foldl (addStep2 a wd) (addFold1 a b wd)) "carry" "found")
      | k_state (fun pre carry found => ¬ a.length < b.length ∧ found.length = pre.length ∧ (found, carry) = pre.foldl (addStep1 a b wd) ([], 0)) "carry" "found")
  k_with "state" => first
    | exact ⟨by assumption, rfl, rfl⟩
    | exact add_turn1 (by assumption) (by assumption) (by assumption)
    | exact add_turn2 (by assumption) (by assumption) (by assumption)
    | exact add_start2 (by assumption) (by assumption) (by assumption)
  k_steps
  all_goals (try simp only [List.push_toArray] at *)
  all_goals (refine hret _ [(_, _)] _ _ (by assumption) (endN (by assumption) (fun p9 h9 => by k_mem) (one_in (by k_mem))) (ktn_ord1 (by first | assumption | exact allLt_of (by assumption) | exact And.right (by assumption) | exact And.right (And.right (by assumption)) | exact And.right (And.right (And.right (by assumption))))) trivial (LIn.of (mapr mhead) (by kst_facts) ?_))
  all_goals first | exact add_endA (by assumption) (by assumption) (by assumption) | exact add_endB (by assumption) (by assumption) (by assumption) | exact add_endC (by assumption) (by assumption) (by assumption) | exact add_endD (by assumption) (by assumption) (by assumption)
end Mine

/-! C_sub -/
namespace Mine
local macro_rules | `(tactic| k_mem) => `(tactic| first | assumption | exact mhead | (refine mtail ?_; k_mem) | (refine mapl ?_; k_mem) | (refine mapr ?_; k_mem))
local macro_rules | `(tactic| walk_at "call builtin:len") => `(tactic| (k_here; (with_reducible show wpAny _ _ (call (Value.builtin "len") [Value.ref _]) _ _ _); k_dflt (refine' kst_len ?k1 ?k2 ?k3 ?k4 ?_; (case k1 => k_asm); (case k2 => k_mem); (case k3 => exact IntsAre.length (by assumption)); (case k4 => omega)); k_whole))

theorem sub_turn {a b : List Int} {w : Int} {f : List Int} {c : Int} {pre : List Int} {k x y : Int} (hl : f.length = pre.length) (e : (f, c) = pre.foldl (subStep a b w) ([], 0))
    (h1 : x = if subLimb a b c k < 0 then subLimb a b c k + 1 * 2 ^ w.toNat else subLimb a b c k) (h2 : y = if subLimb a b c k < 0 then 1 else 0) :
    (f ++ [x]).length = (pre ++ [k]).length ∧ (f ++ [x], y) = (pre ++ [k]).foldl (subStep a b w) ([], 0) := by
  refine ⟨by simp [hl], ?_⟩
  rw [List.foldl_append, ← e, h1, h2]; rfl
theorem sub_limbT {a b : List Int} {c k : Int} (h : k < (b.length : Int)) : a.getD k.toNat 0 - c - b.getD k.toNat 0 = subLimb a b c k := by unfold subLimb; rw [if_pos h]
theorem sub_limbF {a b : List Int} {c k : Int} (h : ¬ k < (b.length : Int)) : a.getD k.toNat 0 - c - 0 = subLimb a b c k := by unfold subLimb; rw [if_neg h]
theorem sub_turnA {a b : List Int} {w : Int} {f : List Int} {c : Int} {pre : List Int} {k : Int} (hl : f.length = pre.length) (e : (f, c) = pre.foldl (subStep a b w) ([], 0)) (h : k < (b.length : Int)) (h2 : a.getD k.toNat 0 - c - b.getD k.toNat 0 < 0) :
    (f ++ [a.getD k.toNat 0 - c - b.getD k.toNat 0 + 1 * 2 ^ w.toNat]).length = (pre ++ [k]).length ∧ (f ++ [a.getD k.toNat 0 - c - b.getD k.toNat 0 + 1 * 2 ^ w.toNat], 1) = (pre ++ [k]).foldl (subStep a b w) ([], 0) := by
  rw [sub_limbT h] at *; exact sub_turn hl e (by rw [if_pos h2]) (by rw [if_pos h2])
theorem sub_turnB {a b : List Int} {w : Int} {f : List Int} {c : Int} {pre : List Int} {k : Int} (hl : f.length = pre.length) (e : (f, c) = pre.foldl (subStep a b w) ([], 0)) (h : k < (b.length : Int)) (h2 : ¬ a.getD k.toNat 0 - c - b.getD k.toNat 0 < 0) :
    (f ++ [a.getD k.toNat 0 - c - b.getD k.toNat 0]).length = (pre ++ [k]).length ∧ (f ++ [a.getD k.toNat 0 - c - b.getD k.toNat 0], 0) = (pre ++ [k]).foldl (subStep a b w) ([], 0) := by
  rw [sub_limbT h] at *; exact sub_turn hl e (by rw [if_neg h2]) (by rw [if_neg h2])
theorem sub_turnC {a b : List Int} {w : Int} {f : List Int} {c : Int} {pre : List Int} {k : Int} (hl : f.length = pre.length) (e : (f, c) = pre.foldl (subStep a b w) ([], 0)) (h : ¬ k < (b.length : Int)) (h2 : a.getD k.toNat 0 - c - 0 < 0) :
    (f ++ [a.getD k.toNat 0 - c - 0 + 1 * 2 ^ w.toNat]).length = (pre ++ [k]).length ∧ (f ++ [a.getD k.toNat 0 - c - 0 + 1 * 2 ^ w.toNat], 1) = (pre ++ [k]).foldl (subStep a b w) ([], 0) := by
  rw [sub_limbF h] at *; exact sub_turn hl e (by rw [if_pos h2]) (by rw [if_pos h2])
theorem sub_turnD {a b : List Int} {w : Int} {f : List Int} {c : Int} {pre : List Int} {k : Int} (hl : f.length = pre.length) (e : (f, c) = pre.foldl (subStep a b w) ([], 0)) (h : ¬ k < (b.length : Int)) (h2 : ¬ a.getD k.toNat 0 - c - 0 < 0) :
    (f ++ [a.getD k.toNat 0 - c - 0]).length = (pre ++ [k]).length ∧ (f ++ [a.getD k.toNat 0 - c - 0], 0) = (pre ++ [k]).foldl (subStep a b w) ([], 0) := by
  rw [sub_limbF h] at *; exact sub_turn hl e (by rw [if_neg h2]) (by rw [if_neg h2])
inductive SubR (news : Led) : List Value → List Int × List Int × Int → Prop
  | mk {la lb : Addr} {va vb : List Value} {na nb : Nat} {a b : List Int} {w : Int} {t : Tok} : (la, listOf va.toArray na) ∈ news → IntsAre va a → (lb, listOf vb.toArray nb) ∈ news → IntsAre vb b → SubR news [.ref la, .ref lb, .int w t] (a, b, w)
abbrev subT : ToldN (List Int × List Int × Int) where
  Rel := SubR
  Ok := fun d => d.1.length < 100 ∧ d.2.1.length < 100 ∧ 4 ≤ d.2.2 ∧ d.2.2 ≤ 8 ∧ ¬ cmpL d.1 d.2.1 < 0
  size := fun _ => 2
  Tl := fun _ => True
  Out := fun news r d => LIn news r (subL d.1 d.2.1 d.2.2)
local macro_rules | `(tactic| ktr_rel) => `(tactic| first
  | exact CmpR.mk (by k_mem) (by assumption) (by k_mem) (by assumption)
  | exact NormR.mk (by k_mem) (by assumption)
  | (dsimp only; omega)
  | ((rename (List.length _ = List.length (rangeKs _ _)) => hL9); rw [rangeKs_length] at hL9; dsimp only; omega))
set_option maxRecDepth 100000 in
set_option maxHeartbeats 8000000 in
theorem c_sub (w : World) (mean : ExcName → Option Value) (mg mb : Str → Option Value) (d : List Int × List Int × Int) :
    TellsN PySem.Challenge.rw_xw0107_01.row.prog w (hd.heap_39 w.params) hd.view_39 (looseW hd.view_39 []) mean mg mb 67 subT d := by
  k_fill
  unfold TellsN
  intro dp un gd cn cs ad ccd cl outer A₀ base h₀ L m news s vs Q E B F X N T hk hR hok hd hu hret
  cases hR with
  | @mk la lb va vb na nb a b wd t hma hia hmb hib =>
  dsimp only at hok hd hu hret
  have kMk := kstMark
  w_top off
  k_with_none
  obtain ⟨hla, hlb, hw4, hw8, hge⟩ := hok
  have Cc := c_compare w mean mg mb
  have Cn := c_normal w mean mg mb
  refine wpAny_call ?_
  k_dflt ktr_enter
  k_with "call ref" => ktn_call (Str.ofString "compare") cmpT
  k_with "call ref" => ktn_call (Str.ofString "normal") normT
  k_with "pyIter ref" => k_state (fun pre borrow found => found.length = pre.length ∧ (found, borrow) = pre.foldl (subStep a b wd) ([], 0)) "borrow" "found"
  k_with "state" => first
    | exact ⟨rfl, rfl⟩
    | exact sub_turnA (by assumption) (by assumption) (by assumption) (by assumption)
    | exact sub_turnB (by assumption) (by assumption) (by assumption) (by assumption)
    | exact sub_turnC (by assumption) (by assumption) (by assumption) (by assumption)
    | exact sub_turnD (by assumption) (by assumption) (by assumption) (by assumption)
  k_steps
  all_goals ((rename LIn _ _ _ => hO9); cases hO9)
  all_goals (refine hret _ ([_, _] ++ _) _ _ (by assumption) (reN (by assumption)) (reO (List.forall_mem_cons.mpr ⟨by first | exact And.right (by assumption) | exact allLt_of (by assumption), List.forall_mem_cons.mpr ⟨by first | exact And.right (by assumption) | exact allLt_of (by assumption), List.forall_mem_nil _⟩⟩) (by assumption)) trivial (LIn.of (reM _ (by assumption)) (by assumption) (sub_end (by assumption))))
end Mine

/-! C_sneg -/
namespace Mine
local macro_rules | `(tactic| k_mem) => `(tactic| first | assumption | exact mhead | (refine mtail ?_; k_mem) | (refine mapl ?_; k_mem) | (refine mapr ?_; k_mem))
local macro_rules | `(tactic| walk_at "call builtin:len") => `(tactic| (k_here; (with_reducible show wpAny _ _ (call (Value.builtin "len") [Value.ref _]) _ _ _); k_dflt (refine' kst_len ?k1 ?k2 ?k3 ?k4 ?_; (case k1 => k_asm); (case k2 => k_mem); (case k3 => exact IntsAre.length (by assumption)); (case k4 => omega)); k_whole))

inductive SNegR (news : Led) : List Value → Bool × List Int → Prop
  | mk {a l : Addr} {b : Bool} {vs : List Value} {n k : Nat} {ns : List Int} : (a, ({ cls := .type "tuple", data := .seq #[.bool b, .ref l] n } : Obj)) ∈ news → (l, listOf vs.toArray k) ∈ news → IntsAre vs ns → SNegR news [.ref a] (b, ns)
abbrev sNegT : ToldN (Bool × List Int) where
  Rel := SNegR
  Ok := fun d => d.2.length < 100
  size := fun _ => 2
  Tl := fun _ => True
  Out := fun news r d => SIn news r (sNegL d)
local macro_rules | `(tactic| ktr_rel) => `(tactic| first
  | exact SigR.mk (by k_mem) (by assumption)
  | (dsimp only; omega))
set_option maxRecDepth 100000 in
set_option maxHeartbeats 8000000 in
theorem c_sneg (w : World) (mean : ExcName → Option Value) (mg mb : Str → Option Value) (d : Bool × List Int) :
    TellsN PySem.Challenge.rw_xw0107_01.row.prog w (hd.heap_39 w.params) hd.view_39 (looseW hd.view_39 []) mean mg mb 81 sNegT d := by
  k_fill
  unfold TellsN
  intro dp un gd cn cs ad ccd cl outer A₀ base h₀ L m news s vs Q E B F X N T hk hR hok hd hu hret
  cases hR with
  | @mk la ll b vs nn kk ns hma hml hi =>
  dsimp only at hok hd hu hret
  have kMk := kstMark
  w_top off
  k_with_none
  have Cs := c_signed w mean mg mb
  refine wpAny_call ?_
  k_dflt ktr_enter
  k_with "call ref" => ktn_call (Str.ofString "signed") sigT
  k_steps
  all_goals exact hret _ _ _ _ (by assumption) (by assumption) (by assumption) trivial (by assumption)
end Mine

/-! C_sadd -/
namespace Mine
local macro_rules | `(tactic| k_mem) => `(tactic| first | assumption | exact mhead | (refine mtail ?_; k_mem) | (refine mapl ?_; k_mem) | (refine mapr ?_; k_mem))
local macro_rules | `(tactic| walk_at "call builtin:len") => `(tactic| (k_here; (with_reducible show wpAny _ _ (call (Value.builtin "len") [Value.ref _]) _ _ _); k_dflt (refine' kst_len ?k1 ?k2 ?k3 ?k4 ?_; (case k1 => k_asm); (case k2 => k_mem); (case k3 => exact IntsAre.length (by assumption)); (case k4 => omega)); k_whole))

theorem LIn.cases_on' {news : Led} {v : Value} {ns : List Int} (h : LIn news v ns) : ∃ a vs n, v = .ref a ∧ (a, listOf vs.toArray n) ∈ news ∧ IntsAre vs ns := by
  cases h with
  | mk h i => exact ⟨_, _, _, rfl, h, i⟩
theorem SIn.cast {news : Led} {v : Value} {d d' : Bool × List Int} (e : d = d') (h : SIn news v d) : SIn news v d' := e ▸ h
theorem sAdd_1 {b b' : Bool} {ns ns' : List Int} {w : Int} (h : (b == b') = true) : sg b (addL ns ns' w) = sAddL (b, ns) (b', ns') w := by
  unfold sAddL; rw [if_pos (by simpa using h)]
theorem sAdd_2 {b b' : Bool} {ns ns' : List Int} {w : Int} (h : (b == b') = false) (h2 : cmpL ns ns' < 0) : sg b' (subL ns' ns w) = sAddL (b, ns) (b', ns') w := by
  unfold sAddL; rw [if_neg (by simpa using h), if_pos h2]
theorem sAdd_3 {b b' : Bool} {ns ns' : List Int} {w : Int} (h : (b == b') = false) (h2 : ¬ cmpL ns ns' < 0) : sg b (subL ns ns' w) = sAddL (b, ns) (b', ns') w := by
  unfold sAddL; rw [if_neg (by simpa using h), if_neg h2]
inductive SAddR (news : Led) : List Value → (Bool × List Int) × (Bool × List Int) × Int → Prop
  | mk {a l a' l' : Addr} {b b' : Bool} {vs vs' : List Value} {n k n' k' : Nat} {ns ns' : List Int} {w : Int} {t : Tok} : (a, ({ cls := .type "tuple", data := .seq #[.bool b, .ref l] n } : Obj)) ∈ news → (l, listOf vs.toArray k) ∈ news → IntsAre vs ns →
    (a', ({ cls := .type "tuple", data := .seq #[.bool b', .ref l'] n' } : Obj)) ∈ news → (l', listOf vs'.toArray k') ∈ news → IntsAre vs' ns' → SAddR news [.ref a, .ref a', .int w t] ((b, ns), (b', ns'), w)
abbrev sAddT : ToldN ((Bool × List Int) × (Bool × List Int) × Int) where
  Rel := SAddR
  Ok := fun d => d.1.2.length < 90 ∧ d.2.1.2.length < 90 ∧ 4 ≤ d.2.2 ∧ d.2.2 ≤ 8
  size := fun _ => 3
  Tl := fun _ => True
  Out := fun news r d => SIn news r (sAddL d.1 d.2.1 d.2.2)
local macro_rules | `(tactic| ktr_rel) => `(tactic| first
  | exact SigR.mk (by k_mem) (by assumption)
  | exact AddR.mk (by k_mem) (by assumption) (by k_mem) (by assumption)
  | exact SubR.mk (by k_mem) (by assumption) (by k_mem) (by assumption)
  | exact CmpR.mk (by k_mem) (by assumption) (by k_mem) (by assumption)
  | (dsimp only; omega)
  | exact Nat.lt_of_le_of_lt (addL_length _ _ _ 90 (by omega) (by omega)) (by omega)
  | exact Nat.lt_of_le_of_lt (subL_length _ _ _) (by omega)
  | (dsimp only; exact ⟨by omega, by omega, by omega, by omega, by rw [cmpL_swap]; omega⟩))
set_option maxRecDepth 100000 in
set_option maxHeartbeats 8000000 in
theorem c_sadd (w : World) (mean : ExcName → Option Value) (mg mb : Str → Option Value) (d : (Bool × List Int) × (Bool × List Int) × Int) :
    TellsN PySem.Challenge.rw_xw0107_01.row.prog w (hd.heap_39 w.params) hd.view_39 (looseW hd.view_39 []) mean mg mb 88 sAddT d := by
  k_fill
  unfold TellsN
  intro dp un gd cn cs ad ccd cl outer A₀ base h₀ L m news s vs Q E B F X N T hk hR hok hd hu hret
  cases hR with
  | @mk a l a' l' b b' vs vs' n k n' k' ns ns' wd t hma hml hi hma' hml' hi' =>
  dsimp only at hok hd hu hret
  have kMk := kstMark
  w_top off
  k_with_none
  obtain ⟨hla, hlb, hw4, hw8⟩ := hok
  have Cs := c_signed w mean mg mb
  have Ca := c_add w mean mg mb
  have Cu := c_sub w mean mg mb
  have Cc := c_compare w mean mg mb
  refine wpAny_call ?_
  k_dflt ktr_enter
  k_with "call ref" => (ktn_call (Str.ofString "signed") sigT)
  k_with "call ref" => (ktn_call (Str.ofString "add") addT; (rename LIn _ _ _ => hO9); cases hO9)
  k_with "call ref" => (ktn_call (Str.ofString "sub") subT; (rename LIn _ _ _ => hO9); cases hO9)
  k_with "call ref" => (ktn_call (Str.ofString "compare") cmpT)
  k_steps
  all_goals (refine hret _ _ _ _ (by assumption) (by assumption) (ktn_ordA (by assumption) (by assumption)) trivial (SIn.cast ?_ (by assumption)))
  all_goals first | exact sAdd_1 (by assumption) | exact sAdd_2 (by assumption) (by assumption) | exact sAdd_3 (by assumption) (by assumption)
end Mine

/-! C_ssub -/
namespace Mine
local macro_rules | `(tactic| k_mem) => `(tactic| first | assumption | exact mhead | (refine mtail ?_; k_mem) | (refine mapl ?_; k_mem) | (refine mapr ?_; k_mem))
local macro_rules | `(tactic| walk_at "call builtin:len") => `(tactic| (k_here; (with_reducible show wpAny _ _ (call (Value.builtin "len") [Value.ref _]) _ _ _); k_dflt (refine' kst_len ?k1 ?k2 ?k3 ?k4 ?_; (case k1 => k_asm); (case k2 => k_mem); (case k3 => exact IntsAre.length (by assumption)); (case k4 => omega)); k_whole))

inductive SSubR (news : Led) : List Value → (Bool × List Int) × (Bool × List Int) × Int → Prop
  | mk {a l a' l' : Addr} {b b' : Bool} {vs vs' : List Value} {n k n' k' : Nat} {ns ns' : List Int} {w : Int} {t : Tok} : (a, ({ cls := .type "tuple", data := .seq #[.bool b, .ref l] n } : Obj)) ∈ news → (l, listOf vs.toArray k) ∈ news → IntsAre vs ns →
    (a', ({ cls := .type "tuple", data := .seq #[.bool b', .ref l'] n' } : Obj)) ∈ news → (l', listOf vs'.toArray k') ∈ news → IntsAre vs' ns' → SSubR news [.ref a, .ref a', .int w t] ((b, ns), (b', ns'), w)
abbrev sSubT : ToldN ((Bool × List Int) × (Bool × List Int) × Int) where
  Rel := SSubR
  Ok := fun d => d.1.2.length < 90 ∧ d.2.1.2.length < 90 ∧ 4 ≤ d.2.2 ∧ d.2.2 ≤ 8
  size := fun _ => 4
  Tl := fun _ => True
  Out := fun news r d => SIn news r (sSubL d.1 d.2.1 d.2.2)
local macro_rules | `(tactic| ktr_rel) => `(tactic| first
  | exact SNegR.mk (by k_mem) (by k_mem) (by assumption)
  | exact SAddR.mk (by k_mem) (by k_mem) (by assumption) (by k_mem) (by k_mem) (by assumption)
  | (dsimp only; omega))
set_option maxRecDepth 100000 in
set_option maxHeartbeats 8000000 in
theorem c_ssub (w : World) (mean : ExcName → Option Value) (mg mb : Str → Option Value) (d : (Bool × List Int) × (Bool × List Int) × Int) :
    TellsN PySem.Challenge.rw_xw0107_01.row.prog w (hd.heap_39 w.params) hd.view_39 (looseW hd.view_39 []) mean mg mb 95 sSubT d := by
  k_fill
  unfold TellsN
  intro dp un gd cn cs ad ccd cl outer A₀ base h₀ L m news s vs Q E B F X N T hk hR hok hd hu hret
  cases hR with
  | @mk a l a' l' b b' vs vs' n k n' k' ns ns' wd t hma hml hi hma' hml' hi' =>
  dsimp only at hok hd hu hret
  have kMk := kstMark
  w_top off
  k_with_none
  obtain ⟨hla, hlb, hw4, hw8⟩ := hok
  have Cn := c_sneg w mean mg mb
  have Ca := c_sadd w mean mg mb
  refine wpAny_call ?_
  k_dflt ktr_enter
  k_with "call ref" => (ktn_call (Str.ofString "s_neg") sNegT; (rename SIn _ _ _ => hO9); (rename_i hXX; clear hXX); cases hO9)
  k_with "call ref" => (ktn_call (Str.ofString "s_add") sAddT)
  k_steps
  all_goals exact hret _ _ _ _ (by assumption) (by assumption) (ktn_ordA (by assumption) (by assumption)) trivial (by assumption)
end Mine

/-! C_limbs -/
namespace Mine
local macro_rules | `(tactic| k_mem) => `(tactic| first | assumption | exact mhead | (refine mtail ?_; k_mem) | (refine mapl ?_; k_mem) | (refine mapr ?_; k_mem))
local macro_rules | `(tactic| walk_at "call builtin:len") => `(tactic| (k_here; (with_reducible show wpAny _ _ (call (Value.builtin "len") [Value.ref _]) _ _ _); k_dflt (refine' kst_len ?k1 ?k2 ?k3 ?k4 ?_; (case k1 => k_asm); (case k2 => k_mem); (case k3 => exact IntsAre.length (by assumption)); (case k4 => omega)); k_whole))

theorem limbs_fall {w n : Int} (hw : 4 ≤ w) (h : 0 < n) : 0 ≤ Int.fdiv n (2 ^ w.toNat) ∧ Int.fdiv n (2 ^ w.toNat) < n := by
  have hp : (2 : Int) ≤ 2 ^ w.toNat := by
    have e : w.toNat = (w.toNat - 1) + 1 := by omega
    rw [e, Int.pow_succ]
    have := (Int.pow_pos (show (0 : Int) < 2 by decide) : (0 : Int) < 2 ^ (w.toNat - 1))
    omega
  generalize (2 : Int) ^ w.toNat = p at hp
  rw [Int.fdiv_eq_ediv_of_nonneg _ (by omega)]
  refine ⟨Int.ediv_nonneg (by omega) (by omega), ?_⟩
  exact Int.ediv_lt_self_of_pos_of_ne_one (by omega) (by omega)
theorem limbsF_stable (w : Int) (hw : 4 ≤ w) : ∀ (f g : Nat) (n : Int), n.toNat ≤ f → n.toNat ≤ g → limbsF w f n = limbsF w g n
  | 0, 0, _, _, _ => rfl
  | 0, g + 1, n, hf, _ => by
    unfold limbsF
    rw [if_neg (by omega)]
  | f + 1, 0, n, _, hg => by
    unfold limbsF
    rw [if_neg (by omega)]
  | f + 1, g + 1, n, hf, hg => by
    unfold limbsF
    by_cases h : 0 < n
    · rw [if_pos h, if_pos h]
      have hd := limbs_fall hw h
      rw [limbsF_stable w hw f g _ (by omega) (by omega)]
    · rw [if_neg h, if_neg h]
theorem limbs_turn {w n n0 : Int} {f : List Int} (hw : 4 ≤ w) (h : 0 < n) (h1 : 0 ≤ n) (h2 : n ≤ n0) (h3 : (f.length : Int) + n ≤ n0) (e : f ++ limbsF w n.toNat n = limbsF w n0.toNat n0) :
    (0 ≤ Int.fdiv n (2 ^ w.toNat) ∧ Int.fdiv n (2 ^ w.toNat) ≤ n0 ∧ ((f ++ [Int.fmod n (2 ^ w.toNat)]).length : Int) + Int.fdiv n (2 ^ w.toNat) ≤ n0 ∧
      (f ++ [Int.fmod n (2 ^ w.toNat)]) ++ limbsF w (Int.fdiv n (2 ^ w.toNat)).toNat (Int.fdiv n (2 ^ w.toNat)) = limbsF w n0.toNat n0) ∧ (Int.fdiv n (2 ^ w.toNat)).toNat < n.toNat := by
  have hd := limbs_fall hw h
  refine ⟨⟨hd.1, by omega, by simp only [List.length_append, List.length_cons, List.length_nil]; omega, ?_⟩, by omega⟩
  rw [← e, List.append_assoc]
  congr 1
  have e1 : n.toNat = (n.toNat - 1) + 1 := by omega
  rw [e1]
  conv => rhs; unfold limbsF
  rw [if_pos h, limbsF_stable w hw (Int.fdiv n (2 ^ w.toNat)).toNat (n.toNat - 1) _ (Nat.le_refl _) (by omega)]
  rfl
theorem limbs_end {w n n0 : Int} {f : List Int} (h : ¬ 0 < n) (e : f ++ limbsF w n.toNat n = limbsF w n0.toNat n0) : f = limbsL n0 w := by
  unfold limbsL
  rw [← e]
  have e1 : n.toNat = 0 := by omega
  rw [e1]
  simp [limbsF]
inductive LimR (news : Led) : List Value → Int × Int → Prop
  | mk {n w : Int} {t u : Tok} : LimR news [.int n t, .int w u] (n, w)
abbrev limT : ToldN (Int × Int) where
  Rel := LimR
  Ok := fun d => 0 ≤ d.1 ∧ d.1 < 10000 ∧ 4 ≤ d.2 ∧ d.2 ≤ 8
  size := fun _ => 1
  Tl := fun _ => True
  Out := fun news r d => LIn news r (limbsL d.1 d.2)
set_option maxRecDepth 100000 in
set_option maxHeartbeats 8000000 in
theorem c_limbs (w : World) (mean : ExcName → Option Value) (mg mb : Str → Option Value) (d : Int × Int) :
    TellsN PySem.Challenge.rw_xw0107_01.row.prog w (hd.heap_39 w.params) hd.view_39 (looseW hd.view_39 []) mean mg mb 123 limT d := by
  k_fill
  unfold TellsN
  intro dp un gd cn cs ad ccd cl outer A₀ base h₀ L m news s vs Q E B F X N T hk hR hok hd hu hret
  cases hR with
  | @mk n0 wd t u =>
  dsimp only at hok hd hu hret
  have kMk := kstMark
  w_top off
  k_with_none
  obtain ⟨hn0, hn1, hw4, hw8⟩ := hok
  refine wpAny_call ?_
  k_dflt ktr_enter
  k_with "exec While Compare cons nil" => (
    (rename Fr _ _ _ _ => lF'); (rename News _ _ _ _ => lN')
    (with_unfolding_all refine' ksw_while (σ := Int × Nat × List Value × List Int × Nat) (fun c => (_, listOf c.2.2.1.toArray c.2.2.2.2) :: news) (fun c => [(Str.ofString "number", .int c.1 c.2.1)]) (fun c => IntsAre c.2.2.1 c.2.2.2.1) [] (fun c => 0 ≤ c.1 ∧ c.1 ≤ n0 ∧ (c.2.2.2.1.length : Int) + c.1 ≤ n0 ∧ c.2.2.2.1 ++ limbsF wd c.1.toNat c.1 = limbsF wd n0.toNat n0) (fun c => c.1.toNat) (n0, t, [], [], 0) lF' ?kn ?kf ?kk ?kp ?_)
    (case kn => exact lN')
    (case kf => exact IntsAre.nil)
    (case kk => kst_all)
    (case kp => exact ⟨hn0, Int.le_refl _, by simp, rfl⟩)
    (clear lF' lN')
    (rintro ⟨n1, t1, vs1, ns1, c1⟩ kU kH kTk kFacts ⟨kI1, kI2, kI3, kI4⟩ kFr kNews)
    (have kMark := kstMark)
    (dsimp only [kstB] at kFr kFacts kI1 kI2 kI3 kI4 kNews)
    (have kLen := IntsAre.length kFacts)
    (try k_fold))
  k_with "KswEnd" => ((rename News _ _ _ _ => nE'); (try simp only [List.push_toArray] at nE'); (refine ksw_end ⟨_, _, _, _, _⟩ (by assumption) nE' (by kst_in) (by kst_facts) (by kst_all) (by ksw_same) ?_ ?_); (exact (limbs_turn (by assumption) (by assumption) (by assumption) (by assumption) (by assumption) (by assumption)).1); (exact (limbs_turn (by assumption) (by assumption) (by assumption) (by assumption) (by assumption) (by assumption)).2))
  k_steps
  all_goals (refine hret _ [(_, _)] _ _ (by assumption) (endN (by assumption) (fun p9 h9 => by k_mem) (one_in (by k_mem))) (ktn_ord1 (by first | assumption | exact allLt_of (by assumption) | exact And.right (by assumption) | exact And.right (And.right (by assumption)) | exact And.right (And.right (And.right (by assumption))))) trivial (LIn.of (mapr mhead) (by kst_facts) ?_))
  all_goals exact limbs_end (by assumption) (by assumption)
end Mine

/-! C_lsigned -/
namespace Mine
local macro_rules | `(tactic| k_mem) => `(tactic| first | assumption | exact mhead | (refine mtail ?_; k_mem) | (refine mapl ?_; k_mem) | (refine mapr ?_; k_mem))
local macro_rules | `(tactic| walk_at "call builtin:len") => `(tactic| (k_here; (with_reducible show wpAny _ _ (call (Value.builtin "len") [Value.ref _]) _ _ _); k_dflt (refine' kst_len ?k1 ?k2 ?k3 ?k4 ?_; (case k1 => k_asm); (case k2 => k_mem); (case k3 => exact IntsAre.length (by assumption)); (case k4 => omega)); k_whole))

inductive LsgR (news : Led) : List Value → Int × Int → Prop
  | mk {n w : Int} {t u : Tok} : LsgR news [.int n t, .int w u] (n, w)
abbrev lsgT : ToldN (Int × Int) where
  Rel := LsgR
  Ok := fun d => -10000 < d.1 ∧ d.1 < 10000 ∧ 4 ≤ d.2 ∧ d.2 ≤ 8
  size := fun _ => 2
  Tl := fun _ => True
  Out := fun news r d => SIn news r (signL d.1 d.2)
local macro_rules | `(tactic| ktr_rel) => `(tactic| first
  | exact LimR.mk
  | (dsimp only; omega))
set_option maxRecDepth 100000 in
set_option maxHeartbeats 8000000 in
theorem c_lsigned (w : World) (mean : ExcName → Option Value) (mg mb : Str → Option Value) (d : Int × Int) :
    TellsN PySem.Challenge.rw_xw0107_01.row.prog w (hd.heap_39 w.params) hd.view_39 (looseW hd.view_39 []) mean mg mb 130 lsgT d := by
  k_fill
  unfold TellsN
  intro dp un gd cn cs ad ccd cl outer A₀ base h₀ L m news s vs Q E B F X N T hk hR hok hd hu hret
  cases hR with
  | @mk n0 wd t u =>
  dsimp only at hok hd hu hret
  have kMk := kstMark
  w_top off
  k_with_none
  obtain ⟨hn0, hn1, hw4, hw8⟩ := hok
  have Cl := c_limbs w mean mg mb
  refine wpAny_call ?_
  k_dflt ktr_enter
  k_with "call ref" => (ktn_call (Str.ofString "_law_limbs") limT; (rename LIn _ _ _ => hO9); cases hO9)
  k_steps
  all_goals exact hret _ ((_, _) :: _) _ _ (by assumption) (ktn_tl2 (by assumption)) (ktn_ord2 (allLt_of (by assumption)) (by assumption)) trivial (SIn.of (mapr mhead) (ktn_subB _ (by assumption)) (by assumption) rfl)
end Mine

/-! C_parted -/
namespace Mine
local macro_rules | `(tactic| k_mem) => `(tactic| first | assumption | exact mhead | (refine mtail ?_; k_mem) | (refine mapl ?_; k_mem) | (refine mapr ?_; k_mem))
local macro_rules | `(tactic| walk_at "call builtin:len") => `(tactic| (k_here; (with_reducible show wpAny _ _ (call (Value.builtin "len") [Value.ref _]) _ _ _); k_dflt (refine' kst_len ?k1 ?k2 ?k3 ?k4 ?_; (case k1 => k_asm); (case k2 => k_mem); (case k3 => exact IntsAre.length (by assumption)); (case k4 => omega)); k_whole))

def partStep (part : Int) (f : List Int) (n : Int) : List Int := f.set n.toNat (f.getD n.toNat 0 + f.getD (n - part).toNat 0)
def partRow (most : Int) (f : List Int) (part : Int) : List Int := (rangeKs part (most + 1 - part).toNat).foldl (partStep part) f
def partL (most : Int) : List Int := (rangeKs 1 (most + 1 - 1).toNat).foldl (partRow most) ([1] ++ (List.replicate most.toNat [0]).flatten)
theorem part_start {d : Int} (h : 10 ≤ d) : ([1] ++ (List.replicate d.toNat [(0 : Int)]).flatten).length = d.toNat + 1 ∧ [1] ++ (List.replicate d.toNat [(0 : Int)]).flatten = List.foldl (partRow d) ([1] ++ (List.replicate d.toNat [0]).flatten) [] := by
  refine ⟨?_, rfl⟩
  simp
theorem part_turn {f f0 pre : List Int} {k part : Int} (hl : f.length = f0.length) (e : f = pre.foldl (partStep part) f0) :
    (f.set k.toNat (f.getD k.toNat 0 + f.getD (k - part).toNat 0)).length = f0.length ∧ f.set k.toNat (f.getD k.toNat 0 + f.getD (k - part).toNat 0) = List.foldl (partStep part) f0 (pre ++ [k]) := by
  refine ⟨by rw [List.length_set, hl], ?_⟩
  rw [List.foldl_append, ← e]; rfl
theorem part_row {f f0 pre i : List Int} {k d : Int} {n : Nat} (hl : f.length = f0.length) (hl0 : f0.length = n) (e0 : f0 = pre.foldl (partRow d) i) (e : f = (rangeKs k (d + 1 - k).toNat).foldl (partStep k) f0) :
    f.length = n ∧ f = List.foldl (partRow d) i (pre ++ [k]) := by
  refine ⟨hl.trans hl0, ?_⟩
  rw [List.foldl_append, ← e0, e]; rfl
inductive ParR (news : Led) : List Value → Int → Prop
  | mk {n : Int} {t : Tok} : ParR news [.int n t] n
abbrev parT : ToldN Int where
  Rel := ParR
  Ok := fun d => 10 ≤ d ∧ d ≤ 14
  size := fun _ => 1
  Tl := fun _ => True
  Out := fun news r d => LIn news r (partL d)
set_option maxRecDepth 100000 in
set_option maxHeartbeats 8000000 in
theorem c_parted (w : World) (mean : ExcName → Option Value) (mg mb : Str → Option Value) (d : Int) :
    TellsN PySem.Challenge.rw_xw0107_01.row.prog w (hd.heap_39 w.params) hd.view_39 (looseW hd.view_39 []) mean mg mb 137 parT d := by
  k_fill
  unfold TellsN
  intro dp un gd cn cs ad ccd cl outer A₀ base h₀ L m news s vs Q E B F X N T hk hR hok hd hu hret
  cases hR with
  | @mk n0 t =>
  dsimp only at hok hd hu hret
  have kMk := kstMark
  w_top off
  k_with_none
  obtain ⟨hn0, hn1⟩ := hok
  refine wpAny_call ?_
  k_dflt ktr_enter
  k_with "pyIter ref" => k_state (fun pre found => found.length = d.toNat + 1 ∧ found = pre.foldl (partRow d) ([1] ++ (List.replicate d.toNat [0]).flatten)) "found"
  k_with "pyIter ref" => k_state_given ["found!", "part"] (fun f0 part pre found => found.length = f0.length ∧ found = pre.foldl (partStep part) f0) "found"
  k_with "state" => first
    | exact ⟨rfl, rfl⟩
    | exact part_start (by assumption)
    | exact part_turn (by assumption) (by assumption)
    | exact part_row (by assumption) (by assumption) (by assumption) (by assumption)
  k_steps
  all_goals (refine hret _ [(_, _)] _ _ (by assumption) (endN (by assumption) (fun p9 h9 => by k_mem) (one_in (by k_mem))) (ktn_ord1 (by first | assumption | exact allLt_of (by assumption) | exact And.right (by assumption) | exact And.right (And.right (by assumption)) | exact And.right (And.right (And.right (by assumption))))) trivial (LIn.of (mapr mhead) (by kst_facts) ?_))
  all_goals assumption
end Mine

/-! C_mulbase -/
namespace Mine
local macro_rules | `(tactic| k_mem) => `(tactic| first | assumption | exact mhead | (refine mtail ?_; k_mem) | (refine mapl ?_; k_mem) | (refine mapr ?_; k_mem))

section
open PySem.Calls
variable {prog : Program} {w : World} {A A₀ : Around} {s : Shared} {K : Frag} {L : Addr} {h₀ base : Heap} {m mg mb : Str → Option Value} {news sub : List (Addr × Obj)} {p : Program} {loose : List Str} {mean : ExcName → Option Value}
/-- a def is entered with a part of the ledger alone; the rest lies in the new ground -/
theorem code_part {env : Env} {outer : List Env} {R : Result → Shared → Prop} {name qual : Str} {params : Arguments} {body : List Stmt} {scope : Scope} {dV kV doc pm cdv ct oc : Value} {an od : Option Addr} {osl : Array (Option Value)} {f : Addr} {args : Args} {binds : List (Str × Value)}
    (B : Below A₀ base outer h₀) (F : Fr h₀ L s.heap m) (X₀ : K.In h₀) (N : News h₀ L s.heap news) (hs : ∀ q ∈ sub, q ∈ news) (T : Top p loose mean mg mb h₀) (hA : A.frames = some (env :: outer)) (hf : env.frame = some L) (hke : env.scope.kind = .function)
    (ho : K.lookup f = some ⟨oc, od, .func (fnOf name qual params body scope dV kV doc pm an cdv ct), osl⟩) (hcd : codeIn K cdv qual = true) (hroom : A.depth < recursionLimit)
    (hbind : BindsTo s (fnOf name qual params body scope dV kV doc pm an cdv ct) args binds) (hloc : ∀ y ∈ binds, scope.names.lookup y.1 = some .local)
    (h : ∀ g L' h₁, (∀ q ∈ news, q ∈ sub ∨ g.get? q.1 = some q.2) → Fr h₀ L g m → Fr g L' h₁ (fun y => binds.reverse.lookup y) → News g L' h₁ sub → Below A base (env :: outer) g → K.In g → Top p loose mean mg mb g →
      wpAny (model prog w) (A.deeper (envOf qual scope L' f cdv)) (execs body (envOf qual scope L' f cdv))
        (fun fl s' => LeaveK h₀ L m g R (match fl with | .ret v => v | _ => .none) s')
        (fun e s' => wpAny (model prog w) (A.deeper (envOf qual scope L' f cdv)) (leaving (envOf qual scope L' f cdv) e) (fun _ s'' => R (.error e) s'') (fun e' s'' => R (.error e') s'') s')
        { s with heap := h₁, toks := s.toks + binds.length })
    (hco : scope.isCoroutine = false) (hgen : scope.isGenerator = false) (hk : scope.kind = .function)
    (hcell : ∀ x ∈ scope.names, x.2 ≠ .cell) : codeAny (model prog w) A (.call (.ref f) args) R s := by
  have Ns : News h₀ L s.heap sub := fun q hq => N q (hs q hq)
  obtain ⟨FG, BG, st, lv⟩ := groundX (R := R) B F Ns hA hf hke
  refine codeAny_call_def (fd := fnOf name qual params body scope dV kV doc pm an cdv ct) (body := body) (binds := binds) hroom ((X₀.keeps F.keep) _ _ ho) rfl (T.nolimit.keeps F.keep) (codeRec_of (X₀.keeps F.keep) hcd) rfl hbind hcell hloc (fun h₁ hns hk₁ => ?_) hco hgen hk
  refine wpAny_mono (h _ s.heap.objs.size h₁ (fun q hq => ?_) FG ⟨hns, fun b o e => hk₁ b o (of_hideAll _ e), Nat.le_of_eq (hideAll_size _ _)⟩
    (fun q hq => ⟨hk₁ _ _ (Ns q hq).1, Nat.ne_of_lt (Heap.lt_size (Ns q hq).1), hideAll_none _ (List.mem_map_of_mem hq)⟩) BG (X₀.keeps st) (T.keeps st)) (fun fl s' hl => lv _ _ hl) fun _ _ y => y
  by_cases hi : q.1 ∈ sub.map (·.1)
  · obtain ⟨q', hq', e⟩ := List.mem_map.mp hi
    have e1 := (Ns q' hq').1
    rw [e, (N q hq).1] at e1
    exact .inl (by rw [show q = q' from Prod.ext e.symm (Option.some.inj e1)]; exact hq')
  · exact .inr (hideAll_get _ (N q hq).1 hi)
/-- back from such a call: the whole ledger stands -/
theorem back_part {g h' : Heap} {L' : Addr} {m' : Str → Option Value} {led tl : List (Addr × Obj)} {h : Heap} (N : News h₀ L h news) (hg : ∀ q ∈ news, q ∈ sub ∨ g.get? q.1 = some q.2) (Fg : Fr g L' h' m') (N' : News h₀ L h' led) (hs : ∀ q ∈ sub, q ∈ led) (ht : ∀ q ∈ tl, q ∈ led) : News h₀ L h' (news ++ tl) := by
  intro q hq
  rcases List.mem_append.mp hq with hq | hq
  · rcases hg q hq with h1 | h1
    · exact N' q (hs q h1)
    · exact ⟨Fg.keep _ _ h1, (N q hq).2.1, (N q hq).2.2⟩
  · exact N' q (ht q hq)
theorem off_part {g h' : Heap} {L' : Addr} {led tl : List (Addr × Obj)} (hg : ∀ q ∈ news, q ∈ sub ∨ g.get? q.1 = some q.2) (N' : News g L' h' led) (ht : ∀ q ∈ tl, q ∈ led) (ho : ∀ q ∈ sub, ∀ p ∈ tl, q.1 < p.1) : ∀ q ∈ news, ∀ p ∈ tl, q.1 ≠ p.1 := by
  intro q hq p hp e
  rcases hg q hq with h1 | h1
  · exact Nat.ne_of_lt (ho q h1 p hp) e
  · have h2 := (N' p (ht p hp)).2.2
    rw [← e, h1] at h2
    cases h2
end

theorem one_two {va : List Value} {a : List Int} (h : IntsAre va a) (h1 : 1 ≤ a.length) (h2 : a.length ≤ 2) :
    (∃ x t, va = [.int x t] ∧ a = [x]) ∨ (∃ x t y u, va = [.int x t, .int y u] ∧ a = [x, y]) := by
  cases h with
  | nil => simp at h1
  | cons x t h =>
    cases h with
    | nil => exact .inl ⟨x, t, rfl, rfl⟩
    | cons y u h =>
      cases h with
      | nil => exact .inr ⟨x, t, y, u, rfl, rfl⟩
      | cons z v h => simp at h2
def mulStep (x : Int) (i : Nat) (w : Int) (st : List Int × Int) (p : Int × Nat) : List Int × Int :=
  (st.1.set (i + p.2) (Builtin.bitAnd (st.2 + (st.1.getD (i + p.2) 0 + x * p.1)) (1 * 2 ^ w.toNat - 1)), (st.2 + (st.1.getD (i + p.2) 0 + x * p.1)).fdiv (2 ^ w.toNat))
def mulRow (b : List Int) (w : Int) (f : List Int) (p : Int × Nat) : List Int :=
  (b.zipIdx.foldl (mulStep p.1 p.2 w) (f, 0)).1.set (p.2 + b.length) (b.zipIdx.foldl (mulStep p.1 p.2 w) (f, 0)).2
def mulL (a b : List Int) (w : Int) : List Int := normalL (a.zipIdx.foldl (mulRow b w) (List.replicate (a.length + b.length) 0))
theorem led_in {add sub tl news : Led} (hs : ∀ q ∈ sub, q ∈ news) : ∀ q ∈ add ++ (sub ++ tl), q ∈ news ++ (add ++ tl) := fun q hq => by
  rcases List.mem_append.mp hq with hq | hq
  · exact mapr (mapl hq)
  · rcases List.mem_append.mp hq with hq | hq
    · exact mapl (hs q hq)
    · exact mapr (mapr hq)
theorem led_add {add sub tl : Led} : ∀ q ∈ add ++ tl, q ∈ add ++ (sub ++ tl) := fun q hq => by
  rcases List.mem_append.mp hq with hq | hq
  · exact mapl hq
  · exact mapr (mapr hq)
theorem led_sub {add sub tl : Led} : ∀ q ∈ sub, q ∈ add ++ (sub ++ tl) := fun q hq => mapr (mapl hq)
theorem mul_fin {g h h' h₀ : Heap} {L L' : Addr} {m' : Str → Option Value} {news tl : Led} {x1 x2 x3 qa qb : Addr × Obj} (N : News h₀ L h news) (hG : ∀ q ∈ news, q ∈ [qa, qb] ∨ g.get? q.1 = some q.2) (hSub : ∀ q ∈ [qa, qb], q ∈ news)
    (kN : News h₀ L h' (x1 :: x2 :: x3 :: qa :: qb :: tl)) (N9 : News g L' h' (x1 :: x2 :: x3 :: qa :: qb :: tl)) (F9 : Fr g L' h' m')
    (hl : ∀ q ∈ [x1, x2, x3, qa, qb], ∀ p ∈ tl, q.1 < p.1) (o1 : x2.1 < x1.1 ∧ x3.1 < x1.1 ∧ qa.1 < x1.1 ∧ qb.1 < x1.1) (o2 : x3.1 < x2.1 ∧ qa.1 < x2.1 ∧ qb.1 < x2.1) (o3 : qa.1 < x3.1 ∧ qb.1 < x3.1) :
    News h₀ L h' (news ++ ([x1, x2, x3] ++ tl)) ∧ (∀ q ∈ news, ∀ p ∈ [x1, x2, x3] ++ tl, q.1 ≠ p.1) ∧ (∀ z ∈ x1 :: x2 :: x3 :: qa :: qb :: tl, z ∈ news ++ ([x1, x2, x3] ++ tl)) := by
  have ht : ∀ q ∈ [x1, x2, x3] ++ tl, q ∈ x1 :: x2 :: x3 :: qa :: qb :: tl := led_add (add := [x1, x2, x3]) (sub := [qa, qb])
  refine ⟨back_part N hG F9 kN (led_sub (add := [x1, x2, x3])) ht, off_part hG N9 ht ?_, led_in (add := [x1, x2, x3]) hSub⟩
  intro q hq p hp
  have hq' : q ∈ [x1, x2, x3, qa, qb] := by
    rcases List.mem_cons.mp hq with rfl | hq
    · simp
    · rw [List.mem_singleton.mp hq]; simp
  rcases List.mem_append.mp hp with hp | hp
  · rcases List.mem_cons.mp hq with rfl | hq
    · rcases List.mem_cons.mp hp with rfl | hp
      · exact o1.2.2.1
      · rcases List.mem_cons.mp hp with rfl | hp
        · exact o2.2.1
        · rw [List.mem_singleton.mp hp]; exact o3.1
    · rw [List.mem_singleton.mp hq]
      rcases List.mem_cons.mp hp with rfl | hp
      · exact o1.2.2.2
      · rcases List.mem_cons.mp hp with rfl | hp
        · exact o2.2.2
        · rw [List.mem_singleton.mp hp]; exact o3.2
  · exact hl q hq' p hp
end Mine

/-! C_m11 -/
namespace Mine
local macro_rules | `(tactic| k_mem) => `(tactic| first | assumption | exact mhead | (refine mtail ?_; k_mem) | (refine mapl ?_; k_mem) | (refine mapr ?_; k_mem))
local macro_rules | `(tactic| ktr_rel) => `(tactic| first
  | exact NormR.mk (by k_mem) (by first | assumption | (repeat constructor))
  | (dsimp only; omega)
  | (dsimp only; decide))
set_option maxRecDepth 100000 in
set_option maxHeartbeats 8000000 in
theorem m11 {w : World} {mean : ExcName → Option Value} {mg mb : Str → Option Value} {dp un : Nat} {gd : Option (List Code)} {cn : Str} {cs : Scope} {ad : Addr} {ccd : Value} {cl : List (Str × Addr)} {outer : List Env} {A₀ : Around} {base h₀ : Heap} {L : Addr} {m : Str → Option Value} {news : Led} {s : Shared} {Q E : Value → Shared → Prop}
    (B : Below A₀ base outer h₀) (F : Fr h₀ L s.heap m) (X : (hd.heap_39 w.params).In h₀) (N : News h₀ L s.heap news) (T : Top hd.view_39 (looseW hd.view_39 []) mean mg mb h₀) (hk : cs.kind = .function)
    {la lb : Addr} {na nb : Nat} {x y wd : Int} {tx ty t : Tok} (hma : (la, listOf #[Value.int x tx] na) ∈ news) (hmb : (lb, listOf #[Value.int y ty] nb) ∈ news)
    (hw4 : 4 ≤ wd) (hw8 : wd ≤ 8) (hx : -1000 < x ∧ x < 1000) (hy : -1000 < y ∧ y < 1000) (hd : dp + 2 < recursionLimit) (hu : un + 16 < cLine)
    (hret : ∀ r tl h' tk', Fr h₀ L h' m → News h₀ L h' (news ++ tl) → (∀ q ∈ news, ∀ p ∈ tl, q.1 ≠ p.1) → LIn (news ++ tl) r (mulL [x] [y] wd) → Q r { s with heap := h', toks := tk' }) :
    wpAny (model PySem.Challenge.rw_xw0107_01.row.prog w) (ktrTop dp un gd cn cs L ad ccd cl outer) (call (.ref 109) [.ref la, .ref lb, .int wd t]) Q E s := by
  revert X
  k_fill
  intro X
  have kMk := kstMark
  have Cn := c_normal w mean mg mb
  w_top off
  k_with_none
  refine wpAny_call ?_
  k_dflt (refine' code_part (sub := [(la, listOf #[Value.int x tx] na), (lb, listOf #[Value.int y ty] nb)]) ?k1 ?k2 ?k3 ?k4 ?kS ?k5 ?kA ?kF ?kK ?k6 ?k7 ?k8 ?k9 ?kB ?_ ?c2 ?c3 ?c4 ?c5; (case kA => exact rfl); (case kF => exact rfl); (case kK => assumption); (case k1 => k_asm); (case k2 => k_asm); (case k3 => k_asm); (case k4 => exact N); (case kS => exact two_in hma hmb); (case k5 => k_asm); (case k6 => k_is); (case k7 => k_is); (case k8 => ktr_room); (case k9 => exact BindsTo.of_eq rfl); (case c5 => decide); (case kB => exact locs rfl); (case c2 => exact rfl); (case c3 => exact rfl); (case c4 => exact rfl); k_whole; intro g' L' h' hG FG' F' N' B' X' T'; (try dsimp only); (try k_fold))
  have hSub := two_in hma hmb
  clear hma hmb
  k_with "call ref" => (ktn_call (Str.ofString "normal") normT; (rename LIn _ _ _ => hO9); cases hO9)
  k_steps
  all_goals (obtain ⟨e1, e2, e3⟩ := mul_fin N hG hSub (by assumption) (by assumption) (by assumption) (by assumption) (by assumption) (by assumption) (by assumption))
  all_goals exact hret _ _ _ _ (by assumption) e1 e2 (LIn.of (e3 _ (by assumption)) (by assumption) (congrArg normalL rfl))
end Mine

/-! C_m12 -/
namespace Mine
local macro_rules | `(tactic| k_mem) => `(tactic| first | assumption | exact mhead | (refine mtail ?_; k_mem) | (refine mapl ?_; k_mem) | (refine mapr ?_; k_mem))
local macro_rules | `(tactic| ktr_rel) => `(tactic| first
  | exact NormR.mk (by k_mem) (by first | assumption | (repeat constructor))
  | (dsimp only; omega)
  | (dsimp only; decide))
set_option maxRecDepth 100000 in
set_option maxHeartbeats 8000000 in
theorem m12 {w : World} {mean : ExcName → Option Value} {mg mb : Str → Option Value} {dp un : Nat} {gd : Option (List Code)} {cn : Str} {cs : Scope} {ad : Addr} {ccd : Value} {cl : List (Str × Addr)} {outer : List Env} {A₀ : Around} {base h₀ : Heap} {L : Addr} {m : Str → Option Value} {news : Led} {s : Shared} {Q E : Value → Shared → Prop}
    (B : Below A₀ base outer h₀) (F : Fr h₀ L s.heap m) (X : (hd.heap_39 w.params).In h₀) (N : News h₀ L s.heap news) (T : Top hd.view_39 (looseW hd.view_39 []) mean mg mb h₀) (hk : cs.kind = .function)
    {la lb : Addr} {na nb : Nat} {x y z wd : Int} {tx ty tz t : Tok} (hma : (la, listOf #[Value.int x tx] na) ∈ news) (hmb : (lb, listOf #[Value.int y ty, Value.int z tz] nb) ∈ news)
    (hw4 : 4 ≤ wd) (hw8 : wd ≤ 8) (hx : -1000 < x ∧ x < 1000) (hy : -1000 < y ∧ y < 1000) (hz : -1000 < z ∧ z < 1000) (hd : dp + 2 < recursionLimit) (hu : un + 16 < cLine)
    (hret : ∀ r tl h' tk', Fr h₀ L h' m → News h₀ L h' (news ++ tl) → (∀ q ∈ news, ∀ p ∈ tl, q.1 ≠ p.1) → LIn (news ++ tl) r (mulL [x] [y, z] wd) → Q r { s with heap := h', toks := tk' }) :
    wpAny (model PySem.Challenge.rw_xw0107_01.row.prog w) (ktrTop dp un gd cn cs L ad ccd cl outer) (call (.ref 109) [.ref la, .ref lb, .int wd t]) Q E s := by
  revert X
  k_fill
  intro X
  have kMk := kstMark
  have Cn := c_normal w mean mg mb
  w_top off
  k_with_none
  refine wpAny_call ?_
  k_dflt (refine' code_part (sub := [(la, listOf #[Value.int x tx] na), (lb, listOf #[Value.int y ty, Value.int z tz] nb)]) ?k1 ?k2 ?k3 ?k4 ?kS ?k5 ?kA ?kF ?kK ?k6 ?k7 ?k8 ?k9 ?kB ?_ ?c2 ?c3 ?c4 ?c5; (case kA => exact rfl); (case kF => exact rfl); (case kK => assumption); (case k1 => k_asm); (case k2 => k_asm); (case k3 => k_asm); (case k4 => exact N); (case kS => exact two_in hma hmb); (case k5 => k_asm); (case k6 => k_is); (case k7 => k_is); (case k8 => ktr_room); (case k9 => exact BindsTo.of_eq rfl); (case c5 => decide); (case kB => exact locs rfl); (case c2 => exact rfl); (case c3 => exact rfl); (case c4 => exact rfl); k_whole; intro g' L' h' hG FG' F' N' B' X' T'; (try dsimp only); (try k_fold))
  have hSub := two_in hma hmb
  clear hma hmb
  k_with "call ref" => (ktn_call (Str.ofString "normal") normT; (rename LIn _ _ _ => hO9); cases hO9)
  k_steps
  all_goals (obtain ⟨e1, e2, e3⟩ := mul_fin N hG hSub (by assumption) (by assumption) (by assumption) (by assumption) (by assumption) (by assumption) (by assumption))
  all_goals exact hret _ _ _ _ (by assumption) e1 e2 (LIn.of (e3 _ (by assumption)) (by assumption) (congrArg normalL rfl))
end Mine

/-! C_m21 -/
namespace Mine
local macro_rules | `(tactic| k_mem) => `(tactic| first | assumption | exact mhead | (refine mtail ?_; k_mem) | (refine mapl ?_; k_mem) | (refine mapr ?_; k_mem))
local macro_rules | `(tactic| ktr_rel) => `(tactic| first
  | exact NormR.mk (by k_mem) (by first | assumption | (repeat constructor))
  | (dsimp only; omega)
  | (dsimp only; decide))
set_option maxRecDepth 100000 in
set_option maxHeartbeats 8000000 in
theorem m21 {w : World} {mean : ExcName → Option Value} {mg mb : Str → Option Value} {dp un : Nat} {gd : Option (List Code)} {cn : Str} {cs : Scope} {ad : Addr} {ccd : Value} {cl : List (Str × Addr)} {outer : List Env} {A₀ : Around} {base h₀ : Heap} {L : Addr} {m : Str → Option Value} {news : Led} {s : Shared} {Q E : Value → Shared → Prop}
    (B : Below A₀ base outer h₀) (F : Fr h₀ L s.heap m) (X : (hd.heap_39 w.params).In h₀) (N : News h₀ L s.heap news) (T : Top hd.view_39 (looseW hd.view_39 []) mean mg mb h₀) (hk : cs.kind = .function)
    {la lb : Addr} {na nb : Nat} {x y z wd : Int} {tx ty tz t : Tok} (hma : (la, listOf #[Value.int x tx, Value.int y ty] na) ∈ news) (hmb : (lb, listOf #[Value.int z tz] nb) ∈ news)
    (hw4 : 4 ≤ wd) (hw8 : wd ≤ 8) (hx : -1000 < x ∧ x < 1000) (hy : -1000 < y ∧ y < 1000) (hz : -1000 < z ∧ z < 1000) (hd : dp + 2 < recursionLimit) (hu : un + 16 < cLine)
    (hret : ∀ r tl h' tk', Fr h₀ L h' m → News h₀ L h' (news ++ tl) → (∀ q ∈ news, ∀ p ∈ tl, q.1 ≠ p.1) → LIn (news ++ tl) r (mulL [x, y] [z] wd) → Q r { s with heap := h', toks := tk' }) :
    wpAny (model PySem.Challenge.rw_xw0107_01.row.prog w) (ktrTop dp un gd cn cs L ad ccd cl outer) (call (.ref 109) [.ref la, .ref lb, .int wd t]) Q E s := by
  revert X
  k_fill
  intro X
  have kMk := kstMark
  have Cn := c_normal w mean mg mb
  w_top off
  k_with_none
  refine wpAny_call ?_
  k_dflt (refine' code_part (sub := [(la, listOf #[Value.int x tx, Value.int y ty] na), (lb, listOf #[Value.int z tz] nb)]) ?k1 ?k2 ?k3 ?k4 ?kS ?k5 ?kA ?kF ?kK ?k6 ?k7 ?k8 ?k9 ?kB ?_ ?c2 ?c3 ?c4 ?c5; (case kA => exact rfl); (case kF => exact rfl); (case kK => assumption); (case k1 => k_asm); (case k2 => k_asm); (case k3 => k_asm); (case k4 => exact N); (case kS => exact two_in hma hmb); (case k5 => k_asm); (case k6 => k_is); (case k7 => k_is); (case k8 => ktr_room); (case k9 => exact BindsTo.of_eq rfl); (case c5 => decide); (case kB => exact locs rfl); (case c2 => exact rfl); (case c3 => exact rfl); (case c4 => exact rfl); k_whole; intro g' L' h' hG FG' F' N' B' X' T'; (try dsimp only); (try k_fold))
  have hSub := two_in hma hmb
  clear hma hmb
  k_with "call ref" => (ktn_call (Str.ofString "normal") normT; (rename LIn _ _ _ => hO9); cases hO9)
  k_steps
  all_goals (obtain ⟨e1, e2, e3⟩ := mul_fin N hG hSub (by assumption) (by assumption) (by assumption) (by assumption) (by assumption) (by assumption) (by assumption))
  all_goals exact hret _ _ _ _ (by assumption) e1 e2 (LIn.of (e3 _ (by assumption)) (by assumption) (congrArg normalL rfl))
end Mine

/-! C_smul -/
namespace Mine
local macro_rules | `(tactic| k_mem) => `(tactic| first | assumption | exact mhead | (refine mtail ?_; k_mem) | (refine mapl ?_; k_mem) | (refine mapr ?_; k_mem))
local macro_rules | `(tactic| walk_at "call builtin:len") => `(tactic| (k_here; (with_reducible show wpAny _ _ (call (Value.builtin "len") [Value.ref _]) _ _ _); k_dflt (refine' kst_len ?k1 ?k2 ?k3 ?k4 ?_; (case k1 => k_asm); (case k2 => k_mem); (case k3 => exact IntsAre.length (by assumption)); (case k4 => omega)); k_whole))

def mulOk (a b : List Int) : Prop := ((a.length = 1 ∧ b.length = 1) ∨ (a.length = 1 ∧ b.length = 2) ∨ (a.length = 2 ∧ b.length = 1)) ∧ (∀ x ∈ a, -1000 < x ∧ x < 1000) ∧ (∀ x ∈ b, -1000 < x ∧ x < 1000)
theorem c_mul {w : World} {mean : ExcName → Option Value} {mg mb : Str → Option Value} {dp un : Nat} {gd : Option (List Code)} {cn : Str} {cs : Scope} {ad : Addr} {ccd : Value} {cl : List (Str × Addr)} {outer : List Env} {A₀ : Around} {base h₀ : Heap} {L : Addr} {m : Str → Option Value} {news : Led} {s : Shared} {Q E : Value → Shared → Prop}
    (B : Below A₀ base outer h₀) (F : Fr h₀ L s.heap m) (X : (hd.heap_39 w.params).In h₀) (N : News h₀ L s.heap news) (T : Top hd.view_39 (looseW hd.view_39 []) mean mg mb h₀) (hk : cs.kind = .function)
    {la lb : Addr} {va vb : List Value} {na nb : Nat} {a b : List Int} {wd : Int} {t : Tok} (hma : (la, listOf va.toArray na) ∈ news) (hia : IntsAre va a) (hmb : (lb, listOf vb.toArray nb) ∈ news) (hib : IntsAre vb b)
    (hw4 : 4 ≤ wd) (hw8 : wd ≤ 8) (hok : mulOk a b) (hd : dp + 2 < recursionLimit) (hu : un + 16 < cLine)
    (hret : ∀ r tl h' tk', Fr h₀ L h' m → News h₀ L h' (news ++ tl) → (∀ q ∈ news, ∀ p ∈ tl, q.1 ≠ p.1) → LIn (news ++ tl) r (mulL a b wd) → Q r { s with heap := h', toks := tk' }) :
    wpAny (model PySem.Challenge.rw_xw0107_01.row.prog w) (ktrTop dp un gd cn cs L ad ccd cl outer) (call (.ref 109) [.ref la, .ref lb, .int wd t]) Q E s := by
  obtain ⟨hl, ha, hb⟩ := hok
  rcases one_two hia (by omega) (by omega) with ⟨x, tx, rfl, rfl⟩ | ⟨x, tx, y, ty, rfl, rfl⟩
  · rcases one_two hib (by omega) (by omega) with ⟨u, tu, rfl, rfl⟩ | ⟨u, tu, v, tv, rfl, rfl⟩
    · exact m11 B F X N T hk hma hmb hw4 hw8 (ha x (by simp)) (hb u (by simp)) hd hu hret
    · exact m12 B F X N T hk hma hmb hw4 hw8 (ha x (by simp)) (hb u (by simp)) (hb v (by simp)) hd hu hret
  · rcases one_two hib (by omega) (by omega) with ⟨u, tu, rfl, rfl⟩ | ⟨u, tu, v, tv, rfl, rfl⟩
    · exact m21 B F X N T hk hma hmb hw4 hw8 (ha x (by simp)) (ha y (by simp)) (hb u (by simp)) hd hu hret
    · exfalso; simp at hl
def sMulL (x y : Bool × List Int) (w : Int) : Bool × List Int := sg (x.1 != y.1) (mulL x.2 y.2 w)
theorem mulRow_length (b : List Int) (w : Int) (f : List Int) (p : Int × Nat) : (mulRow b w f p).length = f.length := by
  unfold mulRow
  rw [List.length_set]
  have h : ∀ (l : List (Int × Nat)) (st : List Int × Int), (l.foldl (mulStep p.1 p.2 w) st).1.length = st.1.length := by
    intro l
    induction l with
    | nil => intro st; rfl
    | cons q r ih => intro st; rw [List.foldl_cons, ih]; simp [mulStep]
  exact h _ _
theorem mulL_length (a b : List Int) (w : Int) : (mulL a b w).length ≤ a.length + b.length := by
  unfold mulL
  refine Nat.le_trans (normalL_length _) ?_
  have h : ∀ (l : List (Int × Nat)) (f : List Int), (l.foldl (mulRow b w) f).length = f.length := by
    intro l
    induction l with
    | nil => intro f; rfl
    | cons q r ih => intro f; rw [List.foldl_cons, ih, mulRow_length]
  rw [h]; simp
theorem ne_lt {news tl : Led} (h : ∀ q ∈ news, ∀ p ∈ tl, q.1 < p.1) : ∀ q ∈ news, ∀ p ∈ tl, q.1 ≠ p.1 := fun q hq p hp => Nat.ne_of_lt (h q hq p hp)
theorem ne_app {news tl tl' : Led} (h : ∀ q ∈ news, ∀ p ∈ tl, q.1 ≠ p.1) (k : ∀ q ∈ news ++ tl, ∀ p ∈ tl', q.1 ≠ p.1) : ∀ q ∈ news, ∀ p ∈ tl ++ tl', q.1 ≠ p.1 := fun q hq p hp => by
  rcases List.mem_append.mp hp with hp | hp
  · exact h q hq p hp
  · exact k q (mapl hq) p hp
local macro_rules | `(tactic| ktr_rel) => `(tactic| first
  | exact SigR.mk (by k_mem) (by assumption)
  | ((dsimp only); exact Nat.lt_of_le_of_lt (mulL_length _ _ _) (by assumption)))
set_option maxRecDepth 100000 in
set_option maxHeartbeats 8000000 in
theorem c_smul {w : World} {mean : ExcName → Option Value} {mg mb : Str → Option Value} {dp un : Nat} {gd : Option (List Code)} {cn : Str} {cs : Scope} {ad : Addr} {ccd : Value} {cl : List (Str × Addr)} {outer : List Env} {A₀ : Around} {base h₀ : Heap} {L : Addr} {m : Str → Option Value} {news : Led} {s : Shared} {Q E : Value → Shared → Prop}
    (B : Below A₀ base outer h₀) (F : Fr h₀ L s.heap m) (X : (hd.heap_39 w.params).In h₀) (N : News h₀ L s.heap news) (T : Top hd.view_39 (looseW hd.view_39 []) mean mg mb h₀) (hk : cs.kind = .function)
    {a l a' l' : Addr} {b b' : Bool} {vs vs' : List Value} {n k n' k' : Nat} {ns ns' : List Int} {wd : Int} {t : Tok} (hma : (a, ({ cls := .type "tuple", data := .seq #[.bool b, .ref l] n } : Obj)) ∈ news) (hml : (l, listOf vs.toArray k) ∈ news) (hi : IntsAre vs ns)
    (hma' : (a', ({ cls := .type "tuple", data := .seq #[.bool b', .ref l'] n' } : Obj)) ∈ news) (hml' : (l', listOf vs'.toArray k') ∈ news) (hi' : IntsAre vs' ns')
    (hw4 : 4 ≤ wd) (hw8 : wd ≤ 8) (hok : mulOk ns ns') (hd : dp + 3 < recursionLimit) (hu : un + 24 < cLine)
    (hret : ∀ r tl h' tk', Fr h₀ L h' m → News h₀ L h' (news ++ tl) → (∀ q ∈ news, ∀ p ∈ tl, q.1 ≠ p.1) → SIn (news ++ tl) r (sMulL (b, ns) (b', ns') wd) → Q r { s with heap := h', toks := tk' }) :
    wpAny (model PySem.Challenge.rw_xw0107_01.row.prog w) (ktrTop dp un gd cn cs L ad ccd cl outer) (call (.ref 102) [.ref a, .ref a', .int wd t, .ref 109]) Q E s := by
  revert X
  k_fill
  intro X
  have kMk := kstMark
  have Cs := c_signed w mean mg mb
  have hlen : ns.length + ns'.length < 200 := by obtain ⟨h, _, _⟩ := hok; omega
  w_top off
  k_with_none
  refine wpAny_call ?_
  k_dflt ktr_enter
  k_with "call ref" => (ktn_call (Str.ofString "signed") sigT)
  k_with "call ref" => ((with_reducible show wpAny _ _ (call (Value.ref 109) _) _ _ _); (refine' c_mul ?k1 ?k2 ?k3 ?k4 ?k5 ?kK hml hi hml' hi' hw4 hw8 hok ?kd ?ku ?_); (case k1 => k_asm); (case k2 => k_asm); (case k3 => k_asm); (case k4 => k_asm); (case k5 => k_asm); (case kK => first | exact rfl | assumption); (case kd => ktr_room); (case ku => ktr_units); (intro r9 tl9 h9 tk9 F9 N9 hl9 ho9); cases ho9; (try k_fold))
  k_steps
  all_goals exact hret _ _ _ _ (by assumption) (by assumption) (ne_app (by assumption) (ne_lt (by assumption))) (by assumption)
end Mine

/-! C_lawbase -/
namespace Mine
local macro_rules | `(tactic| k_mem) => `(tactic| first | assumption | exact mhead | (refine mtail ?_; k_mem) | (refine mapl ?_; k_mem) | (refine mapr ?_; k_mem))
local macro_rules | `(tactic| walk_at "call builtin:len") => `(tactic| (k_here; (with_reducible show wpAny _ _ (call (Value.builtin "len") [Value.ref _]) _ _ _); k_dflt (refine' kst_len ?k1 ?k2 ?k3 ?k4 ?_; (case k1 => k_asm); (case k2 => k_mem); (case k3 => exact IntsAre.length (by assumption)); (case k4 => omega)); k_whole))

/-! ## the law's own text, by its places -/
def lawStmt : Stmt := match PySem.Challenge.pw_xw0107_01.main.body.drop 20 with
  | s :: _ => s
  | [] => .Pass ⟨0, 0, 0, 0⟩
def lawBody : List Stmt := match lawStmt with
  | .FunctionDef _ _ b _ _ _ _ _ _ _ => b
  | _ => []
def lawScope : Scope := match lawStmt with
  | .FunctionDef _ _ _ _ _ _ sc _ _ _ => sc
  | _ => { kind := .function, names := [], isGenerator := false, isCoroutine := false }
def bodyOf (s : Stmt) : List Stmt := match s with
  | .For _ _ b _ _ => b
  | _ => []
def nth (l : List Stmt) (n : Nat) : Stmt := match l.drop n with
  | s :: _ => s
  | [] => .Pass ⟨0, 0, 0, 0⟩
def numStmt : Stmt := nth lawBody 3
def turnStmt : Stmt := nth (bodyOf numStmt) 1
def placeStmt : Stmt := nth (bodyOf turnStmt) 0
def partStmt : Stmt := nth (bodyOf numStmt) 5
abbrev lawEnv (L fa : Addr) (cd : Value) : Env := envOfC (Str.ofString "law") lawScope L fa cd
abbrev cellO (v : Option Value) : Obj := { cls := .type "cell", data := .cell v }

/-! ## what the law reckons -/
def sigma (n : Int) : Int := ((rangeKs 1 n.toNat).filter fun p => n.fmod p == 0).sum
def sigS (w j : Int) : Bool × List Int := if j = 0 then (false, []) else signL (sigma j) w
def placeStep (w k turn : Int) (tot : Bool × List Int) (place : Int) : Bool × List Int :=
  if place ≤ k then
    (if turn.fmod 2 = 1 then sAddL tot (if place = k then signL k w else sigS w (k - place)) w else sSubL tot (if place = k then signL k w else sigS w (k - place)) w)
  else tot
def turnStep (w k : Int) (tot : Bool × List Int) (turn : Int) : Bool × List Int :=
  placeStep w k turn (placeStep w k turn tot ((turn * (3 * turn - 1)).fdiv 2)) ((turn * (3 * turn + 1)).fdiv 2)

/-- the values zs are borne as the numbers ds -/
structure AllS (news : Led) (zs : List Value) (w : Int) (n : Nat) : Prop where
  len : zs.length = n
  get : ∀ j : Nat, j < n → ∃ v, zs[j]? = some v ∧ SIn news v (sigS w j)
theorem AllS.mono {news news' : Led} (hs : ∀ p ∈ news, p ∈ news') {zs : List Value} {w : Int} {n : Nat} (h : AllS news zs w n) : AllS news' zs w n :=
  ⟨h.len, fun j hj => let ⟨v, h1, h2⟩ := h.get j hj; ⟨v, h1, h2.mono hs⟩⟩

theorem place_1 {w k t p : Int} {d : Bool × List Int} (h1 : p ≤ k) (h2 : p = k) (h3 : t.fmod 2 = 1) : sAddL (d.1, d.2) ((signL k w).1, (signL k w).2) w = placeStep w k t d p := by
  unfold placeStep; rw [if_pos h1, if_pos h3, if_pos h2]
theorem place_2 {w k t p : Int} {d : Bool × List Int} (h1 : p ≤ k) (h2 : p = k) (h3 : t.fmod 2 ≠ 1) : sSubL (d.1, d.2) ((signL k w).1, (signL k w).2) w = placeStep w k t d p := by
  unfold placeStep; rw [if_pos h1, if_neg h3, if_pos h2]
theorem place_3 {w k t p : Int} {d : Bool × List Int} (h1 : p ≤ k) (h2 : p ≠ k) (h3 : t.fmod 2 = 1) : sAddL (d.1, d.2) ((sigS w (k - p)).1, (sigS w (k - p)).2) w = placeStep w k t d p := by
  unfold placeStep; rw [if_pos h1, if_pos h3, if_neg h2]
theorem place_4 {w k t p : Int} {d : Bool × List Int} (h1 : p ≤ k) (h2 : p ≠ k) (h3 : t.fmod 2 ≠ 1) : sSubL (d.1, d.2) ((sigS w (k - p)).1, (sigS w (k - p)).2) w = placeStep w k t d p := by
  unfold placeStep; rw [if_pos h1, if_neg h3, if_neg h2]
theorem place_5 {w k t p : Int} {d : Bool × List Int} (h1 : ¬ p ≤ k) : d = placeStep w k t d p := by
  unfold placeStep; rw [if_neg h1]
theorem SIn.inv {news : Led} {v : Value} {d : Bool × List Int} (h : SIn news v d) : ∃ a l vs n k, v = .ref a ∧ (a, ({ cls := .type "tuple", data := .seq #[.bool d.1, .ref l] n } : Obj)) ∈ news ∧ (l, listOf vs.toArray k) ∈ news ∧ IntsAre vs d.2 := by
  cases h with
  | mk h1 h2 h3 => exact ⟨_, _, _, _, _, rfl, h1, h2, h3⟩
theorem limbsF_len (w : Int) : ∀ (f : Nat) (n : Int), (limbsF w f n).length ≤ f
  | 0, _ => Nat.le_refl _
  | f + 1, n => by
    unfold limbsF
    split
    · exact Nat.succ_le_succ (limbsF_len w f _)
    · exact Nat.zero_le _
theorem signL_len {n w : Int} (h1 : 0 ≤ n) (h2 : n < 80) : (signL n w).2.length < 80 := by
  refine Nat.lt_of_le_of_lt (limbsF_len w _ _) ?_
  rw [if_neg (by omega)]
  omega
theorem sigma_small : ∀ j : Nat, j ≤ 14 → 0 ≤ sigma j ∧ sigma j < 80 := by decide
theorem sigS_len {w j : Int} (h1 : 0 ≤ j) (h2 : j ≤ 14) : (sigS w j).2.length < 80 := by
  unfold sigS
  split
  · exact Nat.lt_of_lt_of_le (Nat.zero_lt_succ 0) (by decide)
  · have h := sigma_small j.toNat (by omega)
    rw [Int.toNat_of_nonneg h1] at h
    exact signL_len h.1 h.2
section
variable {h₀ : Heap} {L : Addr} {s : Shared} {led : Led} {w : World}
theorem cell_is {C : Addr} {v : Option Value} (N : News h₀ L s.heap led) (h : (C, cellO v) ∈ led) : s.heap.IsCell C v := ⟨_, (N _ h).1, rfl⟩
theorem num_cell {M : Model} {A : Around} {E : Value → Shared → Prop} {Q : Value → Shared → Prop} {name x : Str} {scope : Scope} {fa : Addr} {cd v : Value} {pos : Pos} {oc : Obj} (N : News h₀ L s.heap led) (hC : (L + 1, oc) ∈ led) (hoc : oc.data = .cell (some v)) (h : Q v s)
    (hk : scope.kind = .function) (hl : (envOfC name scope L fa cd).kindOf x = some .cell) (hc : (envOfC name scope L fa cd).cells.lookup x = some (L + 1)) (hd : (x == ("__debug__" : Str)) = false) :
    wpAny M A (eval (.Name x pos) (envOfC name scope L fa cd)) Q E s := wpAny_Name (wpAny_loadName_cell hk hl hc ⟨_, (N _ hC).1, hoc⟩ h) hd
theorem sums_item {prog : Program} {A : Around} {E : Value → Shared → Prop} {Q : Value → Shared → Prop} {value slice : PySem.Expr} {S : Addr} {c : Nat} {zs : List Value} {k : Int} {u : Tok} {v : Value}
    (N : News h₀ L s.heap led) (h : (S, listOf zs.toArray c) ∈ led) (h0 : 0 ≤ k) (h1 : k < 1000) (hx : zs[k.toNat]? = some v) (hq : Q v s)
    (hs : subscripted slice false (.ref S) (.int k u) = operate [.ref S, .int k u] (getItem (.ref S) (.int k u)) := by with_unfolding_all rfl) :
    wpAny (model prog w) A (subscriptTail value slice (.ref S) (.int k u)) Q E s := by
  have hl : s.heap.IsList S zs.toArray := ⟨_, (N _ h).1, rfl, c, rfl⟩
  exact tail_any hl.typeIs slot_list_getitem.lookup (wpAny_getItem_list hl h0 (by omega) (by simpa using hx) hq) hs
end
end Mine

/-! C_loops -/
namespace Mine
local macro_rules | `(tactic| k_mem) => `(tactic| first | assumption | exact mhead | (refine mtail ?_; k_mem) | (refine mapl ?_; k_mem) | (refine mapr ?_; k_mem))
local macro_rules | `(tactic| walk_at "call builtin:len") => `(tactic| (k_here; (with_reducible show wpAny _ _ (call (Value.builtin "len") [Value.ref _]) _ _ _); k_dflt (refine' kst_len ?k1 ?k2 ?k3 ?k4 ?_; (case k1 => k_asm); (case k2 => k_mem); (case k3 => exact IntsAre.length (by assumption)); (case k4 => omega)); k_whole))

section
open PySem.Spec PySem.Calls
variable {prog : Program} {w : World} {A : Around} {E : Value → Shared → Prop} {s : Shared} {env : Env} {h₀ : Heap} {x : Str} {body : List Stmt} {Q : Flow → Shared → Prop}
/-- what a turn leaves -/
def TurnOk (h₀ : Heap) (L I : Addr) (o : Obj) (J : (Str → Option Value) → Led → Prop) (s : Shared) (f : Flow) (s' : Shared) : Prop :=
  f = .next ∧ ∃ h' tk' m' nx, s' = { s with heap := h', toks := tk' } ∧ Fr h₀ L h' m' ∧ News h₀ L h' ((I, o) :: nx) ∧ (∀ p ∈ nx, p.1 ≠ I) ∧ J m' nx
theorem rng_loop {r : Addr} {a₀ b₀ : Int} {t₀ u₀ v₀ : Tok} {n : Nat} {m₀ : Str → Option Value} {news : Led} (J : Nat → (Str → Option Value) → Led → Prop)
    (hh : A.handled = none) (hr : IsRange s.heap r a₀ b₀ 1 t₀ u₀ v₀) (hsmall : Builtin.Range.small a₀ b₀ 1 = true) (hsz : Builtin.Range.rangeSize a₀ b₀ 1 = (n : Int)) (F : Fr h₀ env.locals s.heap m₀) (N : News h₀ env.locals s.heap news) (hj : J 0 m₀ news)
    (turn : ∀ i m nx h t tk I o, i < n → o.cls = .type "range_iterator" → (∀ p ∈ nx, p.1 ≠ I) → J i m nx → Fr h₀ env.locals h (fun z => if z = x then some (.int (a₀ + (i : Int)) t) else m z) → News h₀ env.locals h ((I, o) :: nx) →
      wpAny (model prog w) A (execs body env) (TurnOk h₀ env.locals I o (J (i + 1)) { s with heap := h, toks := tk }) E { s with heap := h, toks := tk })
    (done : ∀ m nx h tk, J n m nx → Fr h₀ env.locals h m → News h₀ env.locals h nx → Q .next { s with heap := h, toks := tk }) :
    wpAny (model prog w) A (pyIter (.ref r)) (fun it s₂ => LoopAtV prog w A h₀ env x body Q E it s₂) E s := by
  refine wpAny_pyIter_range hr hsmall ?_
  have W : Walks prog w A s.heap.objs.size [s.heap.objs.size] [s.heap.objs.size] n (fun i v => i < n ∧ ∃ t, v = .int (a₀ + i * 1) t)
      (fun i h => IsRangeIter h s.heap.objs.size (a₀ + (i : Nat) * 1) ((n : Int) - (i : Nat)) 1) := (Walks.range hh _ a₀ 1 n).bound
  refine ⟨_, _, _, n, _, _, m₀, news, J, rfl, W, ?_, ?_, ?_, (by show IsRangeIter _ _ _ _ _; rw [hsz]; simpa using Heap.get?_push_size _ rfl), F.push _, (fun p hp => ⟨Heap.get?_push_of_some _ (N p hp).1, (N p hp).2⟩), hj, ?_, ?_⟩
  · intro hm
    exact absurd F.ns.lt ((List.mem_singleton.mp hm) ▸ Nat.lt_irrefl _)
  · intro b hb
    rw [List.mem_singleton.mp hb]
    exact next_is_new F
  · intro p hp hI
    exact absurd (Heap.lt_size (N p hp).1) ((List.mem_singleton.mp hI) ▸ Nat.lt_irrefl _)
  · rintro i v m₁ nx s₁ own ⟨hh', tk', rfl⟩ hin ⟨_, t, rfl⟩ hJ hoff hown hget hall hst F₁ N₁
    have hst' : hh'.get? s.heap.objs.size = some _ := hst
    have hio := hall _ (List.mem_singleton.mpr rfl) (next_is_new F) _ hst'
    have hone : ∀ p ∈ own, p = (s.heap.objs.size, _) := fun p hp => by
      have h1 := List.mem_singleton.mp (hown p hp)
      have h2 := hget p hp
      have h2' : hh'.get? p.1 = some p.2 := h2
      rw [h1, hst'] at h2'
      exact Prod.ext h1 (Option.some.inj h2').symm
    have N₂ : News h₀ env.locals hh' ((s.heap.objs.size, _) :: nx) := fun p hp => by
      rcases List.mem_cons.mp hp with rfl | hp
      · exact N₁ _ (List.mem_append_left _ hio)
      · exact N₁ _ (List.mem_append_right _ hp)
    have e1 : a₀ + (i : Int) * 1 = a₀ + (i : Int) := by omega
    rw [e1] at F₁
    refine wpAny_mono (turn i m₁ nx hh' t tk' _ _ hin rfl (fun p hp e => hoff p hp (List.mem_singleton.mpr e)) hJ F₁ N₂) (fun f s₂ p => ?_) fun _ _ e => e
    obtain ⟨rfl, h', tk2, m', nx', rfl, F', N', hI', hJ'⟩ := p
    exact .next ⟨rfl, h', tk2, m', nx', rfl, F', fun p hp => N' p ((List.mem_append.mp hp).elim (fun h => List.mem_cons.mpr (.inl (hone p h))) (fun h => List.mem_cons.mpr (.inr h))), fun p hp hI => hI' p hp (List.mem_singleton.mp hI), hJ'⟩
  · rintro h' tk m' news' F' N' _ hJ
    exact done m' news' h' tk hJ F' N'
theorem store_cell {M : Model} {env : Env} {name : Str} {c : Addr} {oc : Obj} {v₀ : Option Value} {v : Value} {Q : Unit → Shared → Prop} (hk : env.scope.kind = .function) (hl : env.kindOf name = some .cell) (hc : env.cells.lookup name = some c) (ho : s.heap.get? c = some oc) (hd : oc.data = .cell v₀)
    (h : ∀ h' oc', h'.get? c = some oc' → oc'.data = .cell (some v) → Heap.SameBut c s.heap h' → Q () { s with heap := h' }) : wpAny M A (storeName env name v) Q E s :=
  wpAny_storeName_cell hk hl hc ⟨oc, ho, hd⟩ fun h' hi hs => by
    obtain ⟨oc', h1, h2⟩ := hi
    exact h h' oc' h1 h2 hs
theorem cell_loop {name x : Str} {px : Pos} {scope : Scope} {fa : Addr} {cd : Value} {L r : Addr} {a₀ b₀ : Int} {t₀ u₀ v₀ : Tok} {n : Nat} {m₀ : Str → Option Value} {news : Led} (J : Nat → (Str → Option Value) → Led → Prop)
    (hk : scope.kind = .function) (hl : (envOfC name scope L fa cd).kindOf x = some .cell) (hc : (envOfC name scope L fa cd).cells.lookup x = some (L + 1))
    (hh : A.handled = none) (hr : IsRange s.heap r a₀ b₀ 1 t₀ u₀ v₀) (hsmall : Builtin.Range.small a₀ b₀ 1 = true) (hsz : Builtin.Range.rangeSize a₀ b₀ 1 = (n : Int)) (F : Fr h₀ L s.heap m₀) (N : News h₀ L s.heap news) (hj : J 0 m₀ news)
    (hcell : ∀ i m nx, J i m nx → ∃ oc v, (L + 1, oc) ∈ nx ∧ oc.data = .cell v)
    (turn : ∀ i m nx t I o oc (s' : Shared), i < n → o.cls = .type "range_iterator" → (∀ v, o.data ≠ .cell v) → (∀ p ∈ nx, p.1 ≠ I) → (∀ p ∈ nx, (∀ v, p.2.data ≠ .cell v) → p.1 ≠ L + 1) → J i m nx → oc.data = .cell (some (.int (a₀ + (i : Int)) t)) → Fr h₀ L s'.heap m → News h₀ L s'.heap ((I, o) :: (L + 1, oc) :: nx.filter (fun p => decide (p.1 ≠ L + 1))) →
      wpAny (model prog w) A (execs body (envOfC name scope L fa cd)) (TurnOk h₀ L I o (J (i + 1)) s') E s')
    (done : ∀ m nx h tk, J n m nx → Fr h₀ L h m → News h₀ L h nx → Q .next { s with heap := h, toks := tk }) :
    wpAny (model prog w) A (pyIter (.ref r)) (fun it s₂ => LoopAtT prog w A h₀ (envOfC name scope L fa cd) (.Name x px) body Q E it s₂) E s := by
  refine wpAny_pyIter_range hr hsmall ?_
  have W : Walks prog w A s.heap.objs.size [s.heap.objs.size] [s.heap.objs.size] n (fun i v => i < n ∧ ∃ t, v = .int (a₀ + i * 1) t)
      (fun i h => IsRangeIter h s.heap.objs.size (a₀ + (i : Nat) * 1) ((n : Int) - (i : Nat)) 1) := (Walks.range hh _ a₀ 1 n).bound
  refine ⟨_, _, _, n, _, _, m₀, news, J, rfl, W, ?_, ?_, ?_, (by show IsRangeIter _ _ _ _ _; rw [hsz]; simpa using Heap.get?_push_size _ rfl), F.push _, (fun p hp => ⟨Heap.get?_push_of_some _ (N p hp).1, (N p hp).2⟩), (fun _ _ _ _ _ h => wpAny_pure h), hj, ?_, ?_⟩
  · intro hm
    exact absurd F.ns.lt ((List.mem_singleton.mp hm) ▸ Nat.lt_irrefl _)
  · intro b hb
    rw [List.mem_singleton.mp hb]
    exact next_is_new F
  · intro p hp hI
    exact absurd (Heap.lt_size (N p hp).1) ((List.mem_singleton.mp hI) ▸ Nat.lt_irrefl _)
  · rintro i v m₁ nx s₁ own hin ⟨_, t, rfl⟩ hJ hoff hown hget hall hst F₁ N₁
    have hst' : s₁.heap.get? s.heap.objs.size = some _ := hst
    have hio := hall _ (List.mem_singleton.mpr rfl) (next_is_new F) _ hst'
    have hone : ∀ p ∈ own, p = (s.heap.objs.size, _) := fun p hp => by
      have h1 := List.mem_singleton.mp (hown p hp)
      have h2 := hget p hp
      rw [h1, hst'] at h2
      exact Prod.ext h1 (Option.some.inj h2).symm
    have e1 : a₀ + (i : Int) * 1 = a₀ + (i : Int) := by omega
    rw [e1]
    obtain ⟨oc, v0, hcm, hcd⟩ := hcell i m₁ nx hJ
    have hcn := N₁ _ (List.mem_append_right _ hcm)
    refine wpAny_assign_Name (store_cell hk hl hc hcn.1 hcd fun h₂ oc' hg hd hsb => ?_)
    have F₂ : Fr h₀ L h₂ m₁ := F₁.change hsb hcn.2.1 hcn.2.2
    have hIc : s.heap.objs.size ≠ L + 1 := fun e => hoff _ hcm (List.mem_singleton.mpr e.symm)
    have N₂ : News h₀ L h₂ ((s.heap.objs.size, _) :: (L + 1, oc') :: nx.filter (fun p => decide (p.1 ≠ L + 1))) := fun p hp => by
      rcases List.mem_cons.mp hp with rfl | hp
      · have z := N₁ _ (List.mem_append_left _ hio)
        exact ⟨(hsb.2 _ hIc).trans z.1, z.2⟩
      · rcases List.mem_cons.mp hp with rfl | hp
        · exact ⟨hg, hcn.2⟩
        · have z := N₁ p (List.mem_append_right _ (List.mem_filter.mp hp).1)
          exact ⟨(hsb.2 _ (of_decide_eq_true (List.mem_filter.mp hp).2)).trans z.1, z.2⟩
    have hodd : ∀ p ∈ nx, (∀ v, p.2.data ≠ .cell v) → p.1 ≠ L + 1 := fun p hp hv e => by
      have z := (N₁ p (List.mem_append_right _ hp)).1
      rw [e, hcn.1] at z
      exact hv v0 (by rw [← Option.some.inj z]; exact hcd)
    refine wpAny_mono (turn i m₁ nx t _ _ oc' { s₁ with heap := h₂ } hin rfl (fun v e => by cases e) (fun p hp e => hoff p hp (List.mem_singleton.mpr e)) hodd hJ hd F₂ N₂) (fun f s₂ p => ?_) fun _ _ e => e
    obtain ⟨rfl, h', tk2, m', nx', rfl, F', N', hI', hJ'⟩ := p
    exact ⟨rfl, h', tk2, m', nx', rfl, F', fun p hp => N' p ((List.mem_append.mp hp).elim (fun h => List.mem_cons.mpr (.inl (hone p h))) (fun h => List.mem_cons.mpr (.inr h))), fun p hp hI => hI' p hp (List.mem_singleton.mp hI), hJ'⟩
  · rintro h' tk m' news' F' N' _ hJ
    exact done m' news' h' tk hJ F' N'
/-- over a list of the ledger -/
theorem lst_loop {l : Addr} {vs : List Value} {nn : Nat} {m₀ : Str → Option Value} {news : Led} (J : Nat → (Str → Option Value) → Led → Prop)
    (hh : A.handled = none) (hl : (l, listOf vs.toArray nn) ∈ news) (F : Fr h₀ env.locals s.heap m₀) (N : News h₀ env.locals s.heap news) (hj : J 0 m₀ news)
    (turn : ∀ i v m nx h tk I o, vs[i]? = some v → o.cls = .type "list_iterator" → (∀ p ∈ nx, p.1 ≠ I) → (l, listOf vs.toArray nn) ∈ nx → J i m nx → Fr h₀ env.locals h (fun z => if z = x then some v else m z) → News h₀ env.locals h ((I, o) :: nx) →
      wpAny (model prog w) A (execs body env) (TurnOk h₀ env.locals I o (fun m' nx' => (l, listOf vs.toArray nn) ∈ nx' ∧ J (i + 1) m' nx') { s with heap := h, toks := tk }) E { s with heap := h, toks := tk })
    (done : ∀ m nx h tk, J vs.length m nx → Fr h₀ env.locals h m → News h₀ env.locals h nx → Q .next { s with heap := h, toks := tk }) :
    wpAny (model prog w) A (pyIter (.ref l)) (fun it s₂ => LoopAtV prog w A h₀ env x body Q E it s₂) E s := by
  have hol : s.heap.get? l = some (listOf vs.toArray nn) := (N _ hl).1
  have hls : s.heap.IsList l vs.toArray := ⟨_, hol, rfl, nn, rfl⟩
  have hne : l ≠ s.heap.objs.size := Nat.ne_of_lt (Heap.lt_size hol)
  refine wpAny_pyIter_list hls ?_
  have W := Walks.list (prog := prog) (w := w) hh s.heap.objs.size l hne vs.toArray
  have hlen : vs.toArray.size = vs.length := by simp
  rw [hlen] at W
  refine ⟨_, _, _, vs.length, _, _, m₀, news, (fun i m nx => (l, listOf vs.toArray nn) ∈ nx ∧ J i m nx), rfl, W, ?_, ?_, ?_, ⟨⟨_, Heap.get?_push_size _ rfl, rfl, rfl⟩, hls.at fun o e => Heap.get?_push_of_some _ e⟩, F.push _, (fun p hp => ⟨Heap.get?_push_of_some _ (N p hp).1, (N p hp).2⟩), ⟨hl, hj⟩, ?_, ?_⟩
  · intro hm
    rcases List.mem_cons.mp hm with e | hm
    · exact absurd F.ns.lt (e ▸ Nat.lt_irrefl _)
    · exact (N _ hl).2.1 ((List.mem_singleton.mp hm).symm)
  · intro b hb
    rw [List.mem_singleton.mp hb]
    exact next_is_new F
  · intro p hp hI
    exact absurd (Heap.lt_size (N p hp).1) ((List.mem_singleton.mp hI) ▸ Nat.lt_irrefl _)
  · rintro i v m₁ nx s₁ own ⟨hh', tk', rfl⟩ hin hP ⟨hl₁, hJ⟩ hoff hown hget hall hst F₁ N₁
    have hP' : vs[i]? = some v := by simpa using hP
    obtain ⟨⟨oI, hoI, hoc, _⟩, _⟩ := id hst
    have hoI' : hh'.get? s.heap.objs.size = some oI := hoI
    have hio := hall _ (List.mem_cons.mpr (.inl rfl)) (next_is_new F) _ hoI
    have hlo : hh'.get? l = some (listOf vs.toArray nn) := (N₁ _ (List.mem_append.mpr (.inr hl₁))).1
    have N₂ : News h₀ env.locals hh' ((s.heap.objs.size, oI) :: nx) := fun p hp => by
      rcases List.mem_cons.mp hp with rfl | hp
      · exact N₁ _ (List.mem_append_left _ hio)
      · exact N₁ _ (List.mem_append_right _ hp)
    refine wpAny_mono (turn i v m₁ nx hh' tk' _ oI hP' hoc (fun p hp e => hoff p hp (List.mem_singleton.mpr e)) hl₁ hJ F₁ N₂) (fun f s₂ p => ?_) fun _ _ e => e
    obtain ⟨rfl, h', tk2, m', nx', rfl, F', N', hI', hl', hJ'⟩ := p
    refine .next ⟨rfl, h', tk2, m', nx', rfl, F', fun p hp => ?_, fun p hp hI => hI' p hp (List.mem_singleton.mp hI), hl', hJ'⟩
    rcases List.mem_append.mp hp with h | h
    · have h2 : hh'.get? p.1 = some p.2 := hget p h
      rcases List.mem_cons.mp (hown p h) with h1 | h1
      · rw [h1, hoI'] at h2
        rw [show p = (s.heap.objs.size, oI) from Prod.ext h1 (Option.some.inj h2).symm]
        exact N' _ (List.mem_cons.mpr (.inl rfl))
      · have h1 := List.mem_singleton.mp h1
        rw [h1, hlo] at h2
        rw [show p = (l, listOf vs.toArray nn) from Prod.ext h1 (Option.some.inj h2).symm]
        exact N' _ (List.mem_cons.mpr (.inr hl'))
    · exact N' p (List.mem_cons.mpr (.inr h))
  · rintro h' tk m' news' F' N' _ ⟨_, hJ⟩
    exact done m' news' h' tk hJ F' N'
end
theorem one_len {w k p : Int} (hk1 : 1 ≤ k) (hk2 : k ≤ 14) (hp : 0 < p) (hpk : p ≤ k) : (if p = k then signL k w else sigS w (k - p)).2.length ≤ 28 := by
  split
  · refine Nat.le_trans (limbsF_len w _ _) ?_
    rw [if_neg (by omega)]
    omega
  · unfold sigS
    split
    · exact Nat.zero_le _
    · have h := (by decide : ∀ j : Nat, j ≤ 14 → 0 ≤ sigma j ∧ sigma j ≤ 28) (k - p).toNat (by omega)
      rw [Int.toNat_of_nonneg (by omega)] at h
      refine Nat.le_trans (limbsF_len w _ _) ?_
      rw [if_neg (by omega)]
      omega
theorem placeStep_len {w k t p : Int} {d : Bool × List Int} {n : Nat} (hk1 : 1 ≤ k) (hk2 : k ≤ 14) (hp : 0 < p) (hd : d.2.length ≤ n) (hn : 28 ≤ n) : (placeStep w k t d p).2.length ≤ n + 1 := by
  unfold placeStep
  split
  · rename_i h
    have h1 := one_len (w := w) hk1 hk2 hp h
    split
    · exact sAddL_length _ _ _ _ hd (by omega)
    · exact sAddL_length _ _ _ _ hd (show (sNegL _).2.length ≤ n from Nat.le_trans h1 hn)
  · omega
theorem place_pos {t : Int} (h1 : 1 ≤ t) (h2 : t ≤ 14) : 0 < (t * (3 * t - 1)).fdiv 2 ∧ 0 < (t * (3 * t + 1)).fdiv 2 := by
  have h := (by decide : ∀ j : Nat, j ≤ 14 → 1 ≤ j → 0 < ((j : Int) * (3 * (j : Int) - 1)).fdiv 2 ∧ 0 < ((j : Int) * (3 * (j : Int) + 1)).fdiv 2) t.toNat (by omega) (by omega)
  rwa [Int.toNat_of_nonneg (by omega)] at h
theorem turnStep_len {w k t : Int} {d : Bool × List Int} {n : Nat} (hk1 : 1 ≤ k) (hk2 : k ≤ 14) (h1 : 1 ≤ t) (h2 : t ≤ 14) (hd : d.2.length ≤ n) (hn : 28 ≤ n) : (turnStep w k d t).2.length ≤ n + 2 := by
  have hp := place_pos h1 h2
  exact placeStep_len hk1 hk2 hp.2 (placeStep_len hk1 hk2 hp.1 hd hn) (by omega)
/-- what is new lies apart from what stood -/
structure Fresh (led nx : Led) : Prop where
  keep : ∀ p ∈ led, p ∈ nx
  apart : ∀ p ∈ nx, p ∈ led ∨ ∀ q ∈ led, q.1 ≠ p.1
theorem Fresh.refl (led : Led) : Fresh led led := ⟨fun _ h => h, fun _ h => .inl h⟩
theorem Fresh.push {led : Led} {p : Addr × Obj} (h : ∀ q ∈ led, q.1 < p.1) : Fresh led (p :: led) :=
  ⟨fun _ h => mtail h, fun q hq => by
    rcases List.mem_cons.mp hq with rfl | hq
    · exact .inr fun q hq => Nat.ne_of_lt (h q hq)
    · exact .inl hq⟩
theorem Fresh.more {led nx tl : Led} (h : Fresh led nx) (h2 : ∀ q ∈ nx, ∀ p ∈ tl, q.1 ≠ p.1) : Fresh led (nx ++ tl) :=
  ⟨fun p hp => mapl (h.keep p hp), fun p hp => by
    rcases List.mem_append.mp hp with hp | hp
    · exact h.apart p hp
    · exact .inr fun q hq => h2 q (h.keep q hq) p hp⟩
theorem Fresh.trans {a b c : Led} (h : Fresh a b) (k : Fresh b c) : Fresh a c :=
  ⟨fun p hp => k.keep p (h.keep p hp), fun p hp => by
    rcases k.apart p hp with h1 | h1
    · exact h.apart p h1
    · exact .inr fun q hq => h1 q (h.keep q hq)⟩
theorem fr_put {m m' : Str → Option Value} {x : Str} {v : Value} (h : m x = some v) (k : ∀ y, y ≠ x → m y = m' y) : ∀ y, m y = if y = x then some v else m' y := fun y => by
  by_cases e : y = x
  · rw [if_pos e, e]; exact h
  · rw [if_neg e]; exact k y e
theorem fr4 {m : Str → Option Value} {x1 x2 x3 x4 : Str} {v1 v2 v3 v4 : Value} (h1 : m x1 = some v1) (h2 : m x2 = some v2) (h3 : m x3 = some v3) (h4 : m x4 = some v4) :
    m = fun y => if y = x1 then some v1 else if y = x2 then some v2 else if y = x3 then some v3 else if y = x4 then some v4 else m y :=
  funext (fr_put h1 fun y _ => fr_put h2 (fun y _ => fr_put h3 (fun y _ => fr_put h4 (fun _ _ => rfl) y) y) y)
theorem fr5 {m : Str → Option Value} {x1 x2 x3 x4 x5 : Str} {v1 v2 v3 v4 v5 : Value} (h1 : m x1 = some v1) (h2 : m x2 = some v2) (h3 : m x3 = some v3) (h4 : m x4 = some v4) (h5 : m x5 = some v5) :
    m = fun y => if y = x1 then some v1 else if y = x2 then some v2 else if y = x3 then some v3 else if y = x4 then some v4 else if y = x5 then some v5 else m y :=
  funext (fr_put h1 fun y _ => fr_put h2 (fun y _ => fr_put h3 (fun y _ => fr_put h4 (fun y _ => fr_put h5 (fun _ _ => rfl) y) y) y) y)
theorem not_tup {o : Obj} {x : String} (h : o.cls = .type x) (h1 : x ≠ "tuple") : o.cls ≠ .type "tuple" := fun e => h1 (by rw [h] at e; injection e)
theorem not_lst {o : Obj} {x : String} (h : o.cls = .type x) (h1 : x ≠ "list") : o.cls ≠ .type "list" := fun e => h1 (by rw [h] at e; injection e)
/-- an iterator is none of a number's objects -/
theorem SIn.drop {I : Addr} {o : Obj} {nx : Led} {v : Value} {d : Bool × List Int} (h1 : o.cls ≠ .type "tuple") (h2 : o.cls ≠ .type "list") (h : SIn ((I, o) :: nx) v d) : SIn nx v d := by
  cases h with
  | mk ha hl hi =>
    rcases List.mem_cons.mp ha with e | e
    · exact absurd (by rw [← (Prod.mk.inj e).2]) h1
    · rcases List.mem_cons.mp hl with e' | e'
      · exact absurd (by rw [← (Prod.mk.inj e').2]) h2
      · exact .mk e e' hi
theorem SIn.reads {h₀ h : Heap} {L : Addr} {led : Led} {v : Value} {d : Bool × List Int} (N : News h₀ L h led) (hs : SIn led v d) : ∃ as, Reads h v (.tuple [.bool d.1, .list (d.2.map PyData.int)]) as := by
  cases hs with
  | mk ha hl hi =>
    have h2 : h.IsList _ _ := ⟨_, (N _ hl).1, rfl, _, rfl⟩
    exact ⟨_, reads_tuple_at (N _ ha).1 rfl rfl (ReadsAll.cons (Reads.bool _) (ReadsAll.cons (reads_newData h2 (ke_carried hi)) ReadsAll.nil))⟩
theorem sg_ne {prog : Program} {w : World} {A : Around} {E : Value → Shared → Prop} {s : Shared} {Q : Value → Shared → Prop} {h₀ : Heap} {L : Addr} {led : Led} {va vb : Value} (d : Bool × List Int) (N : News h₀ L s.heap led) (ha : SIn led va d) (hb : SIn led vb d)
    (hu : A.units + 64 < cLine) (h : Q (.bool false) s) : wpAny (model prog w) A (compareOp .NotEq va vb) Q E s := by
  obtain ⟨as, ra⟩ := ha.reads N
  obtain ⟨bs, rb⟩ := hb.reads N
  have hsh : SeqAt.shaped (.tuple [.bool d.1, .list (d.2.map PyData.int)]) = true := by
    simp [SeqAt.shaped, PyData.canLay0, PyData.canLayAll0, PyData.depth, PyData.depthAll, ke_canLayAll0, ke_depthAll]
  have he : PyData.eqv (.tuple [.bool d.1, .list (d.2.map PyData.int)]) (.tuple [.bool d.1, .list (d.2.map PyData.int)]) = true := by
    simp [PyData.eqv, PyData.eqvAll, ked_eqvAll]
  exact ne_dataH ra rb hsh hsh hu (by rw [he]; exact h)
theorem sums_append {prog : Program} {w : World} {A : Around} {E : Value → Shared → Prop} {s : Shared} {Q : Value → Shared → Prop} {h₀ : Heap} {L S r : Addr} {m : Str → Option Value} {led : Led} {zs : List Value} {c : Nat} {x : Value}
    (F : Fr h₀ L s.heap m) (N : News h₀ L s.heap led) (hS : (S, listOf zs.toArray c) ∈ led) (hsz : zs.length < 1000) (hz : zs[0]? = some (.ref r))
    (h : ∀ h' led', Fr h₀ L h' m → News h₀ L h' led' → (S, listOf (zs ++ [x]).toArray (c + 1)) ∈ led' → (∀ v d, SIn led v d → SIn led' v d) → (∀ p ∈ led, p.2 ≠ listOf zs.toArray c → p ∈ led') →
      (∀ W vs n ns, (W, listOf vs.toArray n) ∈ led → IntsAre vs ns → (W, listOf vs.toArray n) ∈ led') → Q .none { s with heap := h' }) : wpAny (model prog w) A (call (.builtin "list.append") [.ref S, x]) Q E s := by
  have hin : ∀ p ∈ led, p.2 ≠ listOf zs.toArray c → p ∈ led.filter (fun p => decide (p.1 ≠ S)) := fun p hp hc => by
    refine List.mem_filter.mpr ⟨hp, decide_eq_true fun e => hc ?_⟩
    have h1 := (N p hp).1
    have h2 := (N _ hS).1
    rw [e] at h1
    exact Option.some.inj (h1.symm.trans h2)
  have hcl : ∀ p ∈ led, p.2.cls ≠ .type "list" → p ∈ led.filter (fun p => decide (p.1 ≠ S)) := fun p hp hc => hin p hp fun e => hc (by rw [e])
  have hint : ∀ W vs n ns, (W, listOf vs.toArray n) ∈ led → IntsAre vs ns → (W, listOf vs.toArray n) ∈ led.filter (fun p => decide (p.1 ≠ S)) := fun W vs n ns hW hi => hin _ hW fun e => by
    have e1 : vs.toArray = zs.toArray := by
      have e2 : (listOf vs.toArray n).data = (listOf zs.toArray c).data := congrArg Obj.data e
      injection e2
    have e3 : vs = zs := by simpa using e1
    subst e3
    cases hi with
    | nil => cases hz
    | cons n t hi => cases hz
  have N' : News h₀ L s.heap ((S, listOf zs.toArray c) :: led.filter (fun p => decide (p.1 ≠ S))) := fun p hp => by
    rcases List.mem_cons.mp hp with rfl | hp
    · exact N _ hS
    · exact N p (List.mem_filter.mp hp).1
  refine append_K F N' (Upd.head fun p hp => of_decide_eq_true (List.mem_filter.mp hp).2) (fun h' F' N'' => ?_) (by rw [PySem.sizeLine_eq, List.size_toArray]; omega)
  rw [List.push_toArray] at N''
  refine h h' _ F' N'' mhead (fun v d hs => ?_) (fun p hp hc => mtail (hin p hp hc)) (fun W vs n ns hW hi => mtail (hint W vs n ns hW hi))
  cases hs with
  | mk ha hl hi => exact .mk (mtail (hcl _ ha (by intro e; injection e with e; exact absurd e (by decide)))) (mtail (hint _ _ _ _ hl hi)) hi
theorem AllS.snoc {led led' : Led} {zs : List Value} {w k : Int} {v : Value} (h : AllS led zs w k.toNat) (hk : 1 ≤ k) (hm : ∀ v d, SIn led v d → SIn led' v d) (hv : SIn led' v (signL (sigma k) w)) : AllS led' (zs ++ [v]) w (k.toNat + 1) := by
  refine ⟨by rw [List.length_append, h.len]; rfl, fun j hj => ?_⟩
  by_cases e : j < k.toNat
  · obtain ⟨v', h1, h2⟩ := h.get j e
    exact ⟨v', by rw [List.getElem?_append_left (by rw [h.len]; exact e)]; exact h1, hm _ _ h2⟩
  · have e1 : j = k.toNat := by omega
    subst e1
    refine ⟨v, by rw [List.getElem?_append_right (by rw [h.len]; exact Nat.le_refl _), h.len]; simp, ?_⟩
    rw [Int.toNat_of_nonneg (by omega)]
    unfold sigS
    rw [if_neg (by omega)]
    exact hv
theorem AllS.first {led : Led} {zs : List Value} {w k : Int} (h : AllS led zs w k.toNat) (hk : 1 ≤ k) : ∃ r, zs[0]? = some (.ref r) := by
  obtain ⟨v, h1, h2⟩ := h.get 0 (by omega)
  obtain ⟨a, _, _, _, _, rfl, _⟩ := h2.inv
  exact ⟨a, h1⟩
theorem SIn.map {led led' : Led} {v : Value} {d : Bool × List Int} (h : SIn led v d) (ht : ∀ a b l n, (a, ({ cls := .type "tuple", data := .seq #[.bool b, .ref l] n } : Obj)) ∈ led → (a, ({ cls := .type "tuple", data := .seq #[.bool b, .ref l] n } : Obj)) ∈ led')
    (hl : ∀ a (vs : List Value) n, (a, listOf vs.toArray n) ∈ led → (a, listOf vs.toArray n) ∈ led') : SIn led' v d := by
  cases h with
  | mk h1 h2 h3 => exact .mk (ht _ _ _ _ h1) (hl _ _ _ h2) h3
theorem AllS.map {led led' : Led} {zs : List Value} {w : Int} {n : Nat} (h : AllS led zs w n) (ht : ∀ a b l n, (a, ({ cls := .type "tuple", data := .seq #[.bool b, .ref l] n } : Obj)) ∈ led → (a, ({ cls := .type "tuple", data := .seq #[.bool b, .ref l] n } : Obj)) ∈ led')
    (hl : ∀ a (vs : List Value) n, (a, listOf vs.toArray n) ∈ led → (a, listOf vs.toArray n) ∈ led') : AllS led' zs w n :=
  ⟨h.len, fun j hj => let ⟨v, h1, h2⟩ := h.get j hj; ⟨v, h1, h2.map ht hl⟩⟩
theorem off_it {h₀ h : Heap} {L I : Addr} {o : Obj} {led : Led} (N : News h₀ L h led) (hio : (I, o) ∈ led) {p : Addr × Obj} (hp : p ∈ led) (hne : p.2 ≠ o) : p ∈ led.filter (fun p => decide (p.1 ≠ I)) := by
  refine List.mem_filter.mpr ⟨hp, decide_eq_true fun e => hne ?_⟩
  have h1 := (N p hp).1
  have h2 := (N _ hio).1
  have e' : p.1 = (I, o).1 := e
  rw [e', h2] at h1
  exact (Option.some.inj h1).symm
theorem fr3 {m : Str → Option Value} {x1 x2 x3 : Str} {v1 v2 v3 : Value} (h1 : m x1 = some v1) (h2 : m x2 = some v2) (h3 : m x3 = some v3) :
    m = fun y => if y = x1 then some v1 else if y = x2 then some v2 else if y = x3 then some v3 else m y :=
  funext (fr_put h1 fun y _ => fr_put h2 (fun y _ => fr_put h3 (fun _ _ => rfl) y) y)
/-- the iterator is taken off what a turn leaves -/
theorem it_off {h₀ h : Heap} {L I : Addr} {o : Obj} {x : String} {led nx nx' : Led} {v : Value} {d : Bool × List Int} (ho : o.cls = .type x) (x1 : x ≠ "tuple") (x2 : x ≠ "list") (hI : ∀ p ∈ nx, p.1 ≠ I) (hf : Fresh led nx) (hf' : Fresh ((I, o) :: nx) nx') (N : News h₀ L h nx') (hs : SIn nx' v d) :
    ∃ nx2, News h₀ L h ((I, o) :: nx2) ∧ (∀ p ∈ nx2, p.1 ≠ I) ∧ Fresh led nx2 ∧ SIn nx2 v d := by
  have hio : (I, o) ∈ nx' := hf'.keep _ mhead
  have hin : ∀ p ∈ nx', p.2.cls ≠ o.cls → p ∈ nx'.filter (fun p => decide (p.1 ≠ I)) := fun p hp hc => by
    refine List.mem_filter.mpr ⟨hp, decide_eq_true fun e => hc ?_⟩
    have h1 := (N p hp).1
    have h2 := (N _ hio).1
    have e' : p.1 = (I, o).1 := e
    rw [e', h2] at h1
    rw [← Option.some.inj h1]
  refine ⟨nx'.filter (fun p => decide (p.1 ≠ I)), fun p hp => ?_, fun p hp => of_decide_eq_true (List.mem_filter.mp hp).2, ⟨fun p hp => ?_, fun p hp => ?_⟩, ?_⟩
  · rcases List.mem_cons.mp hp with rfl | hp
    · exact N _ hio
    · exact N p (List.mem_filter.mp hp).1
  · exact List.mem_filter.mpr ⟨hf'.keep _ (mtail (hf.keep p hp)), decide_eq_true (hI p (hf.keep p hp))⟩
  · obtain ⟨hp1, hp2⟩ := List.mem_filter.mp hp
    rcases hf'.apart p hp1 with h1 | h1
    · rcases List.mem_cons.mp h1 with rfl | h1
      · exact absurd rfl (of_decide_eq_true hp2)
      · exact hf.apart p h1
    · exact .inr fun q hq => h1 q (mtail (hf.keep q hq))
  · cases hs with
    | mk ha hl hi => exact .mk (hin _ ha (fun e => not_tup ho x1 e.symm)) (hin _ hl (fun e => not_lst ho x2 e.symm)) hi
end Mine

/-! C_place -/
namespace Mine
local macro_rules | `(tactic| k_mem) => `(tactic| first | assumption | exact mhead | (refine mtail ?_; k_mem) | (refine mapl ?_; k_mem) | (refine mapr ?_; k_mem))
local macro_rules | `(tactic| walk_at "call builtin:len") => `(tactic| (k_here; (with_reducible show wpAny _ _ (call (Value.builtin "len") [Value.ref _]) _ _ _); k_dflt (refine' kst_len ?k1 ?k2 ?k3 ?k4 ?_; (case k1 => k_asm); (case k2 => k_mem); (case k3 => exact IntsAre.length (by assumption)); (case k4 => omega)); k_whole))

local macro_rules | `(tactic| walk_at "eval Name") => `(tactic| ((with_reducible show wpAny _ _ (eval (Expr.Name (Str.ofString "number") _) _) _ _ _); k_dflt ((refine' num_cell ?N ?C ?O ?_ ?k1 ?k2 ?k3 ?k4); (case N => k_asm); (case C => k_mem); (case O => assumption); (case k1 => rfl); (case k2 => rfl); (case k3 => rfl); (case k4 => decide))))
local macro_rules | `(tactic| ktr_rel) => `(tactic| first
  | exact SAddR.mk (by k_mem) (by k_mem) (by assumption) (by k_mem) (by k_mem) (by assumption)
  | exact SSubR.mk (by k_mem) (by k_mem) (by assumption) (by k_mem) (by k_mem) (by assumption)
  | exact LsgR.mk
  | (dsimp only; omega))
set_option maxRecDepth 100000 in
set_option maxHeartbeats 8000000 in
theorem t_place {w : World} {mean : ExcName → Option Value} {mg mb : Str → Option Value} {fa : Addr} {cd : Value} {h₀ : Heap} {L : Addr} {led : Led} {s : Shared} {Q : Flow → Shared → Prop}
    (B : Below callerA h₀ [] h₀) (X : (hd.heap_39 w.params).In h₀) (T : Top hd.view_39 (looseW hd.view_39 []) mean mg mb h₀) (N : News h₀ L s.heap led)
    {wd k p turn : Int} {tw tp tt tk : Tok} {oc : Obj} {S : Addr} {zs : List Value} {cS : Nat} {u : Str → Option Value} {vt : Value} {tot : Bool × List Int}
    (F : Fr h₀ L s.heap (fun y => if y = Str.ofString "place" then some (.int p tp) else if y = Str.ofString "turn" then some (.int turn tt) else if y = Str.ofString "total" then some vt else if y = Str.ofString "w" then some (.int wd tw) else if y = Str.ofString "sums" then some (.ref S) else u y))
    (hC : (L + 1, oc) ∈ led) (hoc : oc.data = .cell (some (.int k tk))) (hS : (S, listOf zs.toArray cS) ∈ led) (hZ : AllS led zs wd k.toNat) (hT : SIn led vt tot) (hl : tot.2.length < 80)
    (hw4 : 4 ≤ wd) (hw8 : wd ≤ 8) (hk1 : 1 ≤ k) (hk2 : k ≤ 14) (hp : 0 < p)
    (hQ : ∀ h' tk' m' tl vt', Fr h₀ L h' m' → (∀ z, z ≠ Str.ofString "total" → z ≠ Str.ofString "one" → m' z = (fun y => if y = Str.ofString "place" then some (.int p tp) else if y = Str.ofString "turn" then some (.int turn tt) else if y = Str.ofString "total" then some vt else if y = Str.ofString "w" then some (.int wd tw) else if y = Str.ofString "sums" then some (.ref S) else u y) z) →
      m' (Str.ofString "total") = some vt' → News h₀ L h' (led ++ tl) → (∀ q ∈ led, ∀ p ∈ tl, q.1 ≠ p.1) → SIn (led ++ tl) vt' (placeStep wd k turn tot p) → Q .next { s with heap := h', toks := tk' }) :
    wpAny (model PySem.Challenge.rw_xw0107_01.row.prog w) (callerA.deeper (lawEnv L fa cd)) (execs (bodyOf placeStmt) (lawEnv L fa cd)) Q (fun _ _ => False) s := by
  revert X
  k_fill
  intro X
  have kMk := kstMark
  have Ca := c_sadd w mean mg mb
  have Cb := c_ssub w mean mg mb
  have Cl := c_lsigned w mean mg mb
  w_top off
  k_with_none
  have hL1 := signL_len (n := k) (w := wd) (by omega) (by omega)
  obtain ⟨ta, tl, tvs, tn, tk9, rfl, hT1, hT2, hT3⟩ := hT.inv
  unfold lawEnv
  generalize hbd : bodyOf placeStmt = bd
  conv at hbd => lhs; whnf
  subst hbd
  generalize hsc : lawScope = sc
  conv at hsc => lhs; whnf
  subst hsc
  k_with "call ref" => (ktn_call (Str.ofString "s_add") sAddT)
  k_with "call ref" => (ktn_call (Str.ofString "s_sub") sSubT)
  k_with "call ref" => (ktn_call (Str.ofString "_law_signed") lsgT; (rename SIn _ _ _ => hO9); (obtain ⟨oa, ol, ovs, on, ok9, rfl, hO1, hO2, hO3⟩ := hO9.inv))
  k_with "subscriptTail" => ((obtain ⟨v9, hv9, hs9⟩ := hZ.get (k - p).toNat (by omega)); (have e9 : (((k - p).toNat : Nat) : Int) = k - p := Int.toNat_of_nonneg (by omega)); (rw [e9] at hs9); (have hL2 := sigS_len (w := wd) (j := k - p) (by omega) (by omega)); (obtain ⟨oa, ol, ovs, on, ok9, rfl, hO1, hO2, hO3⟩ := hs9.inv); (k_dflt (refine' sums_item ?N ?C ?h0 ?h1 hv9 ?_ ?hs; (case N => k_asm); (case C => k_mem); (case h0 => omega); (case h1 => omega); (case hs => with_unfolding_all rfl))))
  k_steps
  all_goals first
    | exact hQ _ _ _ [] _ F (fun _ _ _ => rfl) rfl (end0 N (fun _ h => h)) (fun _ _ _ h => nomatch h) (SIn.cast (place_5 (by assumption)) (hT.mono (fun _ h => mapl h)))
    | exact hQ _ _ _ _ _ (by assumption) (fun z h1 h2 => (if_neg h1).trans (if_neg h2)) (if_pos rfl) (by assumption) (by first | exact ne_lt (by assumption) | exact ne_lt (ktn_ordA (by assumption) (by assumption))) (SIn.cast (by first | exact place_1 (by assumption) (by assumption) (by assumption) | exact place_2 (by assumption) (by assumption) (by assumption) | exact place_3 (by assumption) (by assumption) (by assumption) | exact place_4 (by assumption) (by assumption) (by assumption)) (by assumption))
end Mine

/-! C_turn -/
namespace Mine
local macro_rules | `(tactic| k_mem) => `(tactic| first | assumption | exact mhead | (refine mtail ?_; k_mem) | (refine mapl ?_; k_mem) | (refine mapr ?_; k_mem))
local macro_rules | `(tactic| walk_at "call builtin:len") => `(tactic| (k_here; (with_reducible show wpAny _ _ (call (Value.builtin "len") [Value.ref _]) _ _ _); k_dflt (refine' kst_len ?k1 ?k2 ?k3 ?k4 ?_; (case k1 => k_asm); (case k2 => k_mem); (case k3 => exact IntsAre.length (by assumption)); (case k4 => omega)); k_whole))

set_option maxRecDepth 100000 in
set_option maxHeartbeats 8000000 in
theorem t_turn {w : World} {mean : ExcName → Option Value} {mg mb : Str → Option Value} {fa : Addr} {cd : Value} {h₀ : Heap} {L : Addr} {led : Led} {s : Shared} {Q : Flow → Shared → Prop}
    (B : Below callerA h₀ [] h₀) (X : (hd.heap_39 w.params).In h₀) (T : Top hd.view_39 (looseW hd.view_39 []) mean mg mb h₀) (N : News h₀ L s.heap led)
    {wd k turn : Int} {tw tt tk : Tok} {oc : Obj} {S : Addr} {zs : List Value} {cS : Nat} {u : Str → Option Value} {vt : Value} {tot : Bool × List Int} {bn : Nat}
    (F : Fr h₀ L s.heap (fun y => if y = Str.ofString "turn" then some (.int turn tt) else if y = Str.ofString "total" then some vt else if y = Str.ofString "w" then some (.int wd tw) else if y = Str.ofString "sums" then some (.ref S) else u y))
    (hC : (L + 1, oc) ∈ led) (hoc : oc.data = .cell (some (.int k tk))) (hS : (S, listOf zs.toArray cS) ∈ led) (hZ : AllS led zs wd k.toNat) (hT : SIn led vt tot) (hl : tot.2.length ≤ bn) (hbn : 28 ≤ bn) (hbn2 : bn < 78)
    (hw4 : 4 ≤ wd) (hw8 : wd ≤ 8) (hk1 : 1 ≤ k) (hk2 : k ≤ 14) (ht1 : 1 ≤ turn) (ht2 : turn ≤ 14)
    (hQ : ∀ h' tk' m' nx vt', Fr h₀ L h' m' → (∀ z, z ≠ Str.ofString "total" → z ≠ Str.ofString "one" → z ≠ Str.ofString "place" → m' z = (fun y => if y = Str.ofString "turn" then some (.int turn tt) else if y = Str.ofString "total" then some vt else if y = Str.ofString "w" then some (.int wd tw) else if y = Str.ofString "sums" then some (.ref S) else u y) z) →
      m' (Str.ofString "total") = some vt' → News h₀ L h' nx → Fresh led nx → SIn nx vt' (turnStep wd k tot turn) → Q .next { s with heap := h', toks := tk' }) :
    wpAny (model PySem.Challenge.rw_xw0107_01.row.prog w) (callerA.deeper (lawEnv L fa cd)) (execs (bodyOf turnStmt) (lawEnv L fa cd)) Q (fun _ _ => False) s := by
  revert X
  k_fill
  intro X
  have kMk := kstMark
  w_top off
  k_with_none
  unfold lawEnv
  generalize hbd : bodyOf turnStmt = bd
  conv at hbd => lhs; whnf
  subst hbd
  generalize hsc : lawScope = sc
  conv at hsc => lhs; whnf
  subst hsc
  k_with "exec For Name List cons nil" => (k_here; (rename Fr _ _ _ _ => lF'); (with_unfolding_all refine' For_invVF lF' ?k1 ?k2 ?_; (case k1 => exact rfl); (case k2 => exact rfl); k_whole))
  k_steps
  (rename Fr _ _ _ _ => lF'); (rename News _ _ _ _ => lN'); (rename (∀ p ∈ led, p.1 < _) => lt9)
  k_dflt (refine' lst_loop (fun i m' nx => (∀ z, z ≠ Str.ofString "total" → z ≠ Str.ofString "one" → z ≠ Str.ofString "place" → m' z = (fun y => if y = Str.ofString "turn" then some (.int turn tt) else if y = Str.ofString "total" then some vt else if y = Str.ofString "w" then some (.int wd tw) else if y = Str.ofString "sums" then some (.ref S) else u y) z) ∧ Fresh led nx ∧ ∃ vt', m' (Str.ofString "total") = some vt' ∧ SIn nx vt' (match i with | 0 => tot | 1 => placeStep wd k turn tot ((turn * (3 * turn - 1)).fdiv 2) | _ => turnStep wd k tot turn)) rfl mhead lF' lN' ?hj ?turn ?done)
  (case hj => exact ⟨fun _ _ _ _ => rfl, Fresh.push lt9, _, rfl, hT.mono (fun _ h => mtail h)⟩)
  (case done => (rintro m' nx h9 tk9 ⟨hag, hfr, vt', hmt, hs⟩ F9 N9; dsimp only; k_steps; exact hQ _ _ _ _ _ F9 hag hmt N9 hfr hs))
  (case turn =>
    rintro i v m1 nx h9 tk9 I o hv ho hI hlm ⟨hag, hfr, vt', hmt, hs⟩ F9 N9
    have q1 : m1 (Str.ofString "turn") = some (.int turn tt) := by rw [hag _ (by decide) (by decide) (by decide)]; rfl
    have q2 : m1 (Str.ofString "w") = some (.int wd tw) := by rw [hag _ (by decide) (by decide) (by decide)]; rfl
    have q3 : m1 (Str.ofString "sums") = some (.ref S) := by rw [hag _ (by decide) (by decide) (by decide)]; rfl
    have e := fr4 q1 hmt q2 q3
    have hpp := place_pos ht1 ht2
    rcases i with _ | _ | i
    · obtain rfl : Value.int ((turn * (3 * turn - 1)).fdiv 2) _ = v := by simpa using hv
      rw [e] at F9
      refine t_place (u := m1) B X T N9 F9 (mtail (hfr.keep _ hC)) hoc (mtail (hfr.keep _ hS)) (hZ.mono fun _ h => mtail (hfr.keep _ h)) (hs.mono fun _ h => mtail h) (show tot.2.length < 80 by omega) hw4 hw8 hk1 hk2 hpp.1 ?_
      intro h' tk' m' tl vt'' F' hag' hmt' N' hne hs'
      exact ⟨rfl, h', tk', m', nx ++ tl, rfl, F', N', fun p hp => (List.mem_append.mp hp).elim (hI p) (fun h => (hne (I, o) mhead p h).symm), mapl hlm, fun z a b c => ((hag' z a b).trans ((if_neg c).trans (congrFun e z).symm)).trans (hag z a b c), hfr.more (fun q hq => hne q (mtail hq)), vt'', hmt', SIn.drop (not_tup ho (by decide)) (not_lst ho (by decide)) hs'⟩
    · obtain rfl : Value.int ((turn * (3 * turn + 1)).fdiv 2) _ = v := by simpa using hv
      rw [e] at F9
      have hlen := placeStep_len (w := wd) (t := turn) hk1 hk2 hpp.1 hl hbn
      refine t_place (u := m1) B X T N9 F9 (mtail (hfr.keep _ hC)) hoc (mtail (hfr.keep _ hS)) (hZ.mono fun _ h => mtail (hfr.keep _ h)) (hs.mono fun _ h => mtail h) (show (placeStep wd k turn tot ((turn * (3 * turn - 1)).fdiv 2)).2.length < 80 by omega) hw4 hw8 hk1 hk2 hpp.2 ?_
      intro h' tk' m' tl vt'' F' hag' hmt' N' hne hs'
      exact ⟨rfl, h', tk', m', nx ++ tl, rfl, F', N', fun p hp => (List.mem_append.mp hp).elim (hI p) (fun h => (hne (I, o) mhead p h).symm), mapl hlm, fun z a b c => ((hag' z a b).trans ((if_neg c).trans (congrFun e z).symm)).trans (hag z a b c), hfr.more (fun q hq => hne q (mtail hq)), vt'', hmt', SIn.drop (not_tup ho (by decide)) (not_lst ho (by decide)) hs'⟩
    · simp at hv)
end Mine

/-! C_part -/
namespace Mine
local macro_rules | `(tactic| k_mem) => `(tactic| first | assumption | exact mhead | (refine mtail ?_; k_mem) | (refine mapl ?_; k_mem) | (refine mapr ?_; k_mem))
local macro_rules | `(tactic| walk_at "call builtin:len") => `(tactic| (k_here; (with_reducible show wpAny _ _ (call (Value.builtin "len") [Value.ref _]) _ _ _); k_dflt (refine' kst_len ?k1 ?k2 ?k3 ?k4 ?_; (case k1 => k_asm); (case k2 => k_mem); (case k3 => exact IntsAre.length (by assumption)); (case k4 => omega)); k_whole))

local macro_rules | `(tactic| walk_at "eval Name") => `(tactic| ((with_reducible show wpAny _ _ (eval (Expr.Name (Str.ofString "number") _) _) _ _ _); k_dflt ((refine' num_cell ?N ?C ?O ?_ ?k1 ?k2 ?k3 ?k4); (case N => k_asm); (case C => k_mem); (case O => assumption); (case k1 => rfl); (case k2 => rfl); (case k3 => rfl); (case k4 => decide))))
def bothStep (w k : Int) (wl : List Int) (b : Bool × List Int) (p : Int) : Bool × List Int := sAddL b (sMulL (sigS w p) (signL (wl.getD (k - p).toNat 0) w) w) w
local macro_rules | `(tactic| ktr_rel) => `(tactic| first
  | exact SAddR.mk (by k_mem) (by k_mem) (by assumption) (by k_mem) (by k_mem) (by assumption)
  | exact LsgR.mk
  | (dsimp only; omega))
set_option maxRecDepth 100000 in
set_option maxHeartbeats 8000000 in
theorem t_part {w : World} {mean : ExcName → Option Value} {mg mb : Str → Option Value} {fa : Addr} {cd : Value} {h₀ : Heap} {L : Addr} {led : Led} {s : Shared} {Q : Flow → Shared → Prop}
    (B : Below callerA h₀ [] h₀) (X : (hd.heap_39 w.params).In h₀) (T : Top hd.view_39 (looseW hd.view_39 []) mean mg mb h₀) (N : News h₀ L s.heap led)
    {wd k p : Int} {tw tp tk : Tok} {oc : Obj} {S W : Addr} {zs ws : List Value} {cS cW : Nat} {wl : List Int} {u : Str → Option Value} {vt : Value} {tot : Bool × List Int}
    (F : Fr h₀ L s.heap (fun y => if y = Str.ofString "part" then some (.int p tp) else if y = Str.ofString "both" then some vt else if y = Str.ofString "w" then some (.int wd tw) else if y = Str.ofString "sums" then some (.ref S) else if y = Str.ofString "ways" then some (.ref W) else u y))
    (hC : (L + 1, oc) ∈ led) (hoc : oc.data = .cell (some (.int k tk))) (hS : (S, listOf zs.toArray cS) ∈ led) (hZ : AllS led zs wd (k.toNat + 1)) (hW : (W, listOf ws.toArray cW) ∈ led) (hWi : IntsAre ws wl) (hWl : k < (wl.length : Int)) (hT : SIn led vt tot) (hl : tot.2.length < 80)
    (hw4 : 4 ≤ wd) (hw8 : wd ≤ 8) (hk1 : 1 ≤ k) (hk2 : k ≤ 14) (hp1 : 1 ≤ p) (hp2 : p ≤ k)
    (hr : -10000 < wl.getD (k - p).toNat 0 ∧ wl.getD (k - p).toNat 0 < 10000) (hok : mulOk (sigS wd p).2 (signL (wl.getD (k - p).toNat 0) wd).2)
    (hQ : ∀ h' tk' m' tl vt', Fr h₀ L h' m' → (∀ z, z ≠ Str.ofString "both" → m' z = (fun y => if y = Str.ofString "part" then some (.int p tp) else if y = Str.ofString "both" then some vt else if y = Str.ofString "w" then some (.int wd tw) else if y = Str.ofString "sums" then some (.ref S) else if y = Str.ofString "ways" then some (.ref W) else u y) z) →
      m' (Str.ofString "both") = some vt' → News h₀ L h' (led ++ tl) → (∀ q ∈ led, ∀ p ∈ tl, q.1 ≠ p.1) → SIn (led ++ tl) vt' (bothStep wd k wl tot p) → Q .next { s with heap := h', toks := tk' }) :
    wpAny (model PySem.Challenge.rw_xw0107_01.row.prog w) (callerA.deeper (lawEnv L fa cd)) (execs (bodyOf partStmt) (lawEnv L fa cd)) Q (fun _ _ => False) s := by
  revert X
  k_fill
  intro X
  have kMk := kstMark
  have Ca := c_sadd w mean mg mb
  have Cl := c_lsigned w mean mg mb
  have hLm : (sMulL (sigS wd p) (signL (wl.getD (k - p).toNat 0) wd) wd).2.length < 90 := by
    obtain ⟨h, _, _⟩ := hok
    exact Nat.lt_of_le_of_lt (mulL_length _ _ _) (by omega)
  obtain ⟨ta, tl, tvs, tn, tk9, rfl, hT1, hT2, hT3⟩ := hT.inv
  obtain ⟨v9, hv9, hs9⟩ := hZ.get p.toNat (by omega)
  rw [Int.toNat_of_nonneg (show 0 ≤ p by omega)] at hs9
  obtain ⟨oa, ol, ovs, on, ok9, rfl, hO1, hO2, hO3⟩ := hs9.inv
  w_top off
  k_with_none
  unfold lawEnv
  generalize hbd : bodyOf partStmt = bd
  conv at hbd => lhs; whnf
  subst hbd
  generalize hsc : lawScope = sc
  conv at hsc => lhs; whnf
  subst hsc
  k_with "call ref" => (ktn_call (Str.ofString "s_add") sAddT)
  k_with "call ref" => (ktn_call (Str.ofString "_law_signed") lsgT; (rename SIn _ _ (signL _ _) => hO9); (obtain ⟨qa, ql, qvs, qn, qk9, rfl, hQ1, hQ2, hQ3⟩ := hO9.inv))
  k_with "call ref" => ((with_reducible show wpAny _ _ (call (Value.ref 102) _) _ _ _); k_dflt ((refine' c_smul ?k1 ?k2 ?k3 ?k4 ?k5 ?kK ?a1 ?a2 ?a3 ?a4 ?a5 ?a6 hw4 hw8 hok ?kd ?ku ?_); (case k1 => k_asm); (case k2 => k_asm); (case k3 => k_asm); (case k4 => k_asm); (case k5 => k_asm); (case kK => first | exact rfl | assumption); (case a1 => k_mem); (case a2 => k_mem); (case a3 => assumption); (case a4 => k_mem); (case a5 => k_mem); (case a6 => assumption); (case kd => ktr_room); (case ku => ktr_units)); (intro r9 tl9 h9 tk9 F9 N9 hl9 ho9); (have ho8 : SIn _ _ (sMulL (sigS wd p) (signL (wl.getD (k - p).toNat 0) wd) wd) := ho9); (obtain ⟨pa, pl, pvs, pn, pk9, rfl, hP1, hP2, hP3⟩ := ho8.inv); (clear ho9 ho8); (try k_fold))
  k_with "subscriptTail Name Name ref int" => k_dflt (refine' sums_item ?N ?C ?h0 ?h1 hv9 ?_ ?hs; (case N => k_asm); (case C => k_mem); (case h0 => omega); (case h1 => omega); (case hs => with_unfolding_all rfl))
  k_steps
  all_goals exact hQ _ _ _ _ _ (by assumption) (fun z h => if_neg h) (if_pos rfl) (by assumption) (ne_app (ne_lt (by assumption)) (ne_app (by assumption) (ne_lt (by assumption)))) (by assumption)
end Mine

/-! C_plain -/
namespace Mine
def waysT : List Int := [1, 1, 2, 3, 5, 7, 11, 15, 22, 30, 42, 56, 77, 101, 135]
def totAt (w k : Int) (i : Nat) : Bool × List Int := (rangeKs 1 i).foldl (turnStep w k) (false, [])
def bothAt (w k : Int) (i : Nat) : Bool × List Int := (rangeKs 1 i).foldl (bothStep w k waysT) (false, [])
def mulOkB (a b : List Int) : Bool := (decide (a.length = 1 ∧ b.length = 1) || decide (a.length = 1 ∧ b.length = 2) || decide (a.length = 2 ∧ b.length = 1)) && a.all (fun x => decide (-1000 < x ∧ x < 1000)) && b.all (fun x => decide (-1000 < x ∧ x < 1000))
theorem mulOk_of {a b : List Int} (h : mulOkB a b = true) : mulOk a b := by
  unfold mulOkB at h
  simp only [Bool.and_eq_true, Bool.or_eq_true, decide_eq_true_eq, List.all_eq_true] at h
  exact ⟨by rcases h.1.1 with (h1 | h1) | h1 <;> simp [h1], h.1.2, h.2⟩
set_option maxRecDepth 100000
theorem plain1 : ∀ w : Nat, w < 5 → ∀ i : Nat, i < 5 → ∀ k : Nat, k < 14 → totAt (4 + w) (1 + k) (9 + i) = signL (sigma (1 + k)) (4 + w) := by decide +kernel
theorem plain2 : ∀ w : Nat, w < 5 → ∀ k : Nat, k < 14 → bothAt (4 + w) (1 + k) (1 + k) = signL ((1 + k) * waysT.getD (1 + k) 0) (4 + w) := by decide +kernel
theorem plain3 : ∀ w : Nat, w < 5 → ∀ p : Nat, p < 14 → ∀ j : Nat, j < 14 → p + j < 14 → mulOkB (sigS (4 + w) (1 + p)).2 (signL (waysT.getD j 0) (4 + w)).2 = true := by decide +kernel
theorem plain4 : ∀ i : Nat, i < 5 → partL (10 + i) = waysT.take (11 + i) := by decide +kernel
theorem plain5 : ∀ j : Nat, j < 15 → 0 ≤ waysT.getD j 0 ∧ waysT.getD j 0 < 200 := by decide +kernel
theorem plain1' {w k most : Int} (hw4 : 4 ≤ w) (hw8 : w ≤ 8) (hk1 : 1 ≤ k) (hk2 : k ≤ most) (hm1 : 10 ≤ most) (hm2 : most ≤ 14) : totAt w k (most - 1).toNat = signL (sigma k) w := by
  have h := plain1 (w - 4).toNat (by omega) (most - 10).toNat (by omega) (k - 1).toNat (by omega)
  rw [show (4 : Int) + ((w - 4).toNat : Int) = w by omega, show (1 : Int) + ((k - 1).toNat : Int) = k by omega, show 9 + (most - 10).toNat = (most - 1).toNat by omega] at h
  exact h
theorem plain2' {w k : Int} (hw4 : 4 ≤ w) (hw8 : w ≤ 8) (hk1 : 1 ≤ k) (hk2 : k ≤ 14) : bothAt w k k.toNat = signL (k * waysT.getD k.toNat 0) w := by
  have h := plain2 (w - 4).toNat (by omega) (k - 1).toNat (by omega)
  rw [show (4 : Int) + ((w - 4).toNat : Int) = w by omega, show (1 : Int) + ((k - 1).toNat : Int) = k by omega, show 1 + (k - 1).toNat = k.toNat by omega] at h
  exact h
theorem plain3' {w p : Int} {j : Nat} (hw4 : 4 ≤ w) (hw8 : w ≤ 8) (hp1 : 1 ≤ p) (hj : p + (j : Int) ≤ 14) : mulOk (sigS w p).2 (signL (waysT.getD j 0) w).2 := by
  have h := mulOk_of (plain3 (w - 4).toNat (by omega) (p - 1).toNat (by omega) j (by omega) (by omega))
  rw [show (4 : Int) + ((w - 4).toNat : Int) = w by omega, show (1 : Int) + ((p - 1).toNat : Int) = p by omega] at h
  exact h
theorem plain4' {most : Int} (hm1 : 10 ≤ most) (hm2 : most ≤ 14) : partL most = waysT.take (most.toNat + 1) := by
  have h := plain4 (most - 10).toNat (by omega)
  rw [show (10 : Int) + ((most - 10).toNat : Int) = most by omega, show 11 + (most - 10).toNat = most.toNat + 1 by omega] at h
  exact h
theorem totAt_len {w k : Int} (hk1 : 1 ≤ k) (hk2 : k ≤ 14) : ∀ i : Nat, i ≤ 14 → (totAt w k i).2.length ≤ 28 + 2 * i
  | 0, _ => Nat.zero_le _
  | i + 1, hi => by
    have h := totAt_len (w := w) hk1 hk2 i (by omega)
    have e : totAt w k (i + 1) = turnStep w k (totAt w k i) (1 + (i : Int)) := by
      unfold totAt rangeKs
      rw [List.range_succ, List.map_append, List.foldl_append]; rfl
    rw [e]
    exact Nat.le_trans (turnStep_len (n := 28 + 2 * i) hk1 hk2 (by omega) (by omega) h (by omega)) (by omega)
theorem comp_sum {k : Int} (hk1 : 1 ≤ k) (hk2 : k ≤ 14) : ((rangeKs 1 (k + 1 - 1).toNat).foldl (fun l p => if k.fmod p = 0 then l ++ [p] else l) []).sum = sigma k := by
  have h := (by decide +kernel : ∀ j : Nat, j < 14 → ((rangeKs 1 (((1 : Int) + (j : Int)) + 1 - 1).toNat).foldl (fun l p => if ((1 : Int) + (j : Int)).fmod p = 0 then l ++ [p] else l) []).sum = sigma ((1 : Int) + (j : Int))) (k - 1).toNat (by omega)
  rw [show (1 : Int) + ((k - 1).toNat : Int) = k by omega] at h
  exact h
theorem comp_grow (k : Int) : KPfGrows (fun l p => if k.fmod p = 0 then l ++ [p] else l) := by
  intro l p
  dsimp only
  split
  · simp
  · omega
theorem totAt_succ (w k : Int) (i : Nat) : totAt w k (i + 1) = turnStep w k (totAt w k i) (1 + (i : Int)) := by
  unfold totAt rangeKs
  rw [List.range_succ, List.map_append, List.foldl_append]; rfl
theorem way_eq {most : Int} {j : Nat} (hm1 : 10 ≤ most) (hm2 : most ≤ 14) (hj : (j : Int) ≤ most) : (partL most).getD j 0 = waysT.getD j 0 := by
  rw [plain4' hm1 hm2, List.getD_eq_getElem?_getD, List.getD_eq_getElem?_getD, List.getElem?_take, if_pos (by omega)]
theorem part_len {most : Int} (hm1 : 10 ≤ most) (hm2 : most ≤ 14) : ((partL most).length : Int) = most + 1 := by
  rw [plain4' hm1 hm2, List.length_take, show waysT.length = 15 from rfl]
  omega
theorem prod_small {k : Int} (h1 : 1 ≤ k) (h2 : k ≤ 14) : 0 ≤ k * waysT.getD k.toNat 0 ∧ k * waysT.getD k.toNat 0 < 3000 := by
  have h := (by decide +kernel : ∀ j : Nat, j < 15 → 0 ≤ (j : Int) * waysT.getD j 0 ∧ (j : Int) * waysT.getD j 0 < 3000) k.toNat (by omega)
  rwa [Int.toNat_of_nonneg (by omega)] at h
theorem bothStep_len {w k p : Int} {b : Bool × List Int} {n : Nat} (hw4 : 4 ≤ w) (hw8 : w ≤ 8) (hk2 : k ≤ 14) (hp1 : 1 ≤ p) (hp2 : p ≤ k) (hb : b.2.length ≤ n) (hn : 3 ≤ n) : (bothStep w k waysT b p).2.length ≤ n + 1 := by
  obtain ⟨h, _, _⟩ := plain3' hw4 hw8 hp1 (show p + (((k - p).toNat : Nat) : Int) ≤ 14 by omega)
  exact sAddL_length _ _ _ _ hb (Nat.le_trans (mulL_length _ _ _) (by omega))
theorem bothAt_len {w k : Int} (hw4 : 4 ≤ w) (hw8 : w ≤ 8) (hk2 : k ≤ 14) : ∀ i : Nat, (i : Int) ≤ k → (bothAt w k i).2.length ≤ 3 + i
  | 0, _ => Nat.zero_le _
  | i + 1, hi => by
    have h := bothAt_len hw4 hw8 hk2 i (by omega)
    have e : bothAt w k (i + 1) = bothStep w k waysT (bothAt w k i) (1 + (i : Int)) := by
      unfold bothAt rangeKs
      rw [List.range_succ, List.map_append, List.foldl_append]; rfl
    rw [e]
    exact bothStep_len (n := 3 + i) hw4 hw8 hk2 (by omega) (by omega) h (by omega)
theorem bothStep_eq {w k p : Int} {wl : List Int} {b : Bool × List Int} (h : wl.getD (k - p).toNat 0 = waysT.getD (k - p).toNat 0) : bothStep w k wl b p = bothStep w k waysT b p := by
  unfold bothStep; rw [h]
theorem bothAt_succ (w k : Int) (i : Nat) : bothAt w k (i + 1) = bothStep w k waysT (bothAt w k i) (1 + (i : Int)) := by
  unfold bothAt rangeKs
  rw [List.range_succ, List.map_append, List.foldl_append]; rfl
end Mine

/-! C_num -/
namespace Mine
local macro_rules | `(tactic| k_mem) => `(tactic| first | assumption | exact mhead | (refine mtail ?_; k_mem) | (refine mapl ?_; k_mem) | (refine mapr ?_; k_mem))
local macro_rules | `(tactic| walk_at "call builtin:len") => `(tactic| (k_here; (with_reducible show wpAny _ _ (call (Value.builtin "len") [Value.ref _]) _ _ _); k_dflt (refine' kst_len ?k1 ?k2 ?k3 ?k4 ?_; (case k1 => k_asm); (case k2 => k_mem); (case k3 => exact IntsAre.length (by assumption)); (case k4 => omega)); k_whole))

local macro_rules | `(tactic| walk_at "eval Name") => `(tactic| ((with_reducible show wpAny _ _ (eval (Expr.Name (Str.ofString "number") _) _) _ _ _); k_dflt ((refine' num_cell ?N ?C ?O ?_ ?k1 ?k2 ?k3 ?k4); (case N => k_asm); (case C => k_mem); (case O => assumption); (case k1 => rfl); (case k2 => rfl); (case k3 => rfl); (case k4 => decide))))
local macro_rules | `(tactic| ktr_rel) => `(tactic| first
  | exact LsgR.mk
  | (dsimp only; omega))
local macro_rules | `(tactic| walk_at "CompSrcT") => `(tactic| k_extra "CompSrcT")
local macro_rules | `(tactic| walk_at "CompEnd") => `(tactic| k_extra "CompEnd")
local macro_rules | `(tactic| walk_at "compareOp NotEq ref ref") => `(tactic| k_extra "compareOp NotEq ref ref")
set_option maxRecDepth 100000 in
set_option maxHeartbeats 8000000 in
theorem t_num {w : World} {mean : ExcName → Option Value} {mg mb : Str → Option Value} {fa : Addr} {cd : Value} {h₀ : Heap} {L : Addr} {led : Led} {s : Shared} {Q : Flow → Shared → Prop}
    (B : Below callerA h₀ [] h₀) (X : (hd.heap_39 w.params).In h₀) (T : Top hd.view_39 (looseW hd.view_39 []) mean mg mb h₀) (N : News h₀ L s.heap led)
    {wd k most : Int} {tw tm tk : Tok} {oc : Obj} {S W : Addr} {zs ws : List Value} {cS cW : Nat} {u : Str → Option Value}
    (F : Fr h₀ L s.heap (fun y => if y = Str.ofString "w" then some (.int wd tw) else if y = Str.ofString "most" then some (.int most tm) else if y = Str.ofString "sums" then some (.ref S) else if y = Str.ofString "ways" then some (.ref W) else u y))
    (hC : (L + 1, oc) ∈ led) (hoc : oc.data = .cell (some (.int k tk))) (hS : (S, listOf zs.toArray cS) ∈ led) (hZ : AllS led zs wd k.toNat) (hW : (W, listOf ws.toArray cW) ∈ led) (hWi : IntsAre ws (partL most))
    (hw4 : 4 ≤ wd) (hw8 : wd ≤ 8) (hk1 : 1 ≤ k) (hk2 : k ≤ most) (hm1 : 10 ≤ most) (hm2 : most ≤ 14)
    (hQ : ∀ h' tk' m' led' zs' cS', Fr h₀ L h' m' → m' (Str.ofString "w") = some (.int wd tw) → m' (Str.ofString "most") = some (.int most tm) → m' (Str.ofString "sums") = some (.ref S) → m' (Str.ofString "ways") = some (.ref W) → News h₀ L h' led' →
      (L + 1, oc) ∈ led' → (S, listOf zs'.toArray cS') ∈ led' → AllS led' zs' wd (k.toNat + 1) → (W, listOf ws.toArray cW) ∈ led' → (∀ p ∈ led, p.2.cls = .type "range_iterator" → p ∈ led') → Q .next { s with heap := h', toks := tk' }) :
    wpAny (model PySem.Challenge.rw_xw0107_01.row.prog w) (callerA.deeper (lawEnv L fa cd)) (execs (bodyOf numStmt) (lawEnv L fa cd)) Q (fun _ _ => False) s := by
  revert X
  k_fill
  intro X
  have kMk := kstMark
  have Cl := c_lsigned w mean mg mb
  have hk14 : k ≤ 14 := by omega
  have hpl := part_len hm1 hm2
  have hsig := sigma_small k.toNat (by omega)
  rw [Int.toNat_of_nonneg (show 0 ≤ k by omega)] at hsig
  obtain ⟨r0, hz0⟩ := hZ.first hk1
  w_top off
  k_with_none
  unfold lawEnv
  generalize hbd : bodyOf numStmt = bd
  conv at hbd => lhs; whnf
  subst hbd
  generalize hsc : lawScope = sc
  conv at hsc => lhs; whnf
  subst hsc
  k_with "exec For Name Call cons nil" => (k_here; (rename Fr _ _ _ _ => lF'); (with_unfolding_all refine' For_invVF lF' ?k1 ?k2 ?_; (case k1 => exact rfl); (case k2 => exact rfl); k_whole))
  k_with "pyIter ref" => k_dflt (
    (rename Fr _ _ _ _ => lF'); (rename News _ _ _ _ => lN'); (rename IsRange _ _ _ _ _ _ _ _ => rgX); (rename (∀ p ∈ led, p.1 < _) => lt1); (rename (_ < _ ∧ AllLt _ led) => lt2)
    k_dflt (refine' rng_loop (n := (most - 1).toNat) (fun i m' nx => (∀ z, z ≠ Str.ofString "total" → z ≠ Str.ofString "one" → z ≠ Str.ofString "place" → z ≠ Str.ofString "turn" → m' z = (fun y => if y = Str.ofString "w" then some (.int wd tw) else if y = Str.ofString "most" then some (.int most tm) else if y = Str.ofString "sums" then some (.ref S) else if y = Str.ofString "ways" then some (.ref W) else u y) z) ∧ Fresh led nx ∧ ∃ vt', m' (Str.ofString "total") = some vt' ∧ SIn nx vt' (totAt wd k i)) rfl rgX (small_one (by omega) (by omega) (by omega) (by omega)) (rangeSize_nat _ _) lF' lN' ?hj ?turn ?done)
    (case hj => k_dflt exact ⟨fun z h1 _ _ _ => if_neg h1, (Fresh.push lt1).trans (Fresh.push fun q hq => by (rcases List.mem_cons.mp hq with rfl | hq; (exact lt2.1); (exact allLt_mem lt2.2 q hq))), _, if_pos rfl, SIn.of (b := false) (vs := []) (ns := []) mhead (mtail mhead) .nil rfl⟩)
    (case turn =>
      rintro i m1 nx h9 t9 tk9 I o hi ho hI ⟨hag, hfr, vt', hmt, hs⟩ F9 N9
      have q2 : m1 (Str.ofString "w") = some (.int wd tw) := by rw [hag _ (by decide) (by decide) (by decide) (by decide)]; rfl
      have q3 : m1 (Str.ofString "sums") = some (.ref S) := by rw [hag _ (by decide) (by decide) (by decide) (by decide)]; rfl
      have e := fr3 hmt q2 q3
      rw [e] at F9
      have hlen := totAt_len (w := wd) hk1 (show k ≤ 14 by omega) i (by omega)
      refine t_turn (u := m1) (turn := 1 + (i : Int)) (bn := 28 + 2 * i) B X T N9 F9 (mtail (hfr.keep _ hC)) hoc (mtail (hfr.keep _ hS)) (hZ.mono fun _ h => mtail (hfr.keep _ h)) (hs.mono fun _ h => mtail h) hlen (by omega) (by omega) hw4 hw8 hk1 (by omega) (by omega) (by omega) ?_
      intro h' tk' m' nx' vt'' F' hag' hmt' N' hfr' hs'
      rw [← totAt_succ] at hs'
      obtain ⟨nx2, hN2, hI2, hF2, hS2⟩ := it_off ho (by decide) (by decide) hI hfr hfr' N' hs'
      exact ⟨rfl, h', tk', m', nx2, rfl, F', hN2, hI2, fun z a b c d => ((hag' z a b c).trans ((if_neg d).trans (congrFun e z).symm)).trans (hag z a b c d), hF2, vt'', hmt', hS2⟩)
    (rintro m1 nx h9 tk9 ⟨hag, hfr, vt', hmt, hs⟩ F9 N9)
    rw [plain1' hw4 hw8 hk1 hk2 hm1 hm2] at hs
    (have q1 : m1 (Str.ofString "w") = some (.int wd tw) := by rw [hag _ (by decide) (by decide) (by decide) (by decide)]; rfl)
    (have q2 : m1 (Str.ofString "most") = some (.int most tm) := by rw [hag _ (by decide) (by decide) (by decide) (by decide)]; rfl)
    (have q3 : m1 (Str.ofString "sums") = some (.ref S) := by rw [hag _ (by decide) (by decide) (by decide) (by decide)]; rfl)
    (have q4 : m1 (Str.ofString "ways") = some (.ref W) := by rw [hag _ (by decide) (by decide) (by decide) (by decide)]; rfl)
    rw [fr5 hmt q1 q2 q3 q4] at F9
    (have hC9 := hfr.keep _ hC)
    (have hS9 := hfr.keep _ hS)
    (have hW9 := hfr.keep _ hW)
    (have hZ9 := hZ.mono hfr.keep)
    (obtain ⟨ta, tl, tvs, tn, tk8, rfl, hT1, hT2, hT3⟩ := hs.inv)
    clear lF' lN' rgX lt1 lt2 q1 q2 q3 q4 hmt hag
    dsimp only)
  k_with "CompSrcT" => k_dflt (
    (refine LCt.CompSrcT.range (by rfl) (by k_asm) (by k_asm) (by assumption) (small_one (by omega) (by omega) (by omega) (by omega)) (rangeSize_nat _ _) (by (rw [PySem.sizeLine_eq]; omega)) ?_)
    intro g'
    refine' kci_range (fun l p => if k.fmod p = 0 then l ++ [p] else l) (fun p' t' I' oI' C' oC' D' m' ys' l' h' tk' E' hlo' hhi' hI' hC' hx' F' N' off' ne' hMk' => ?_) ?_ (comp_grow k))
  k_with "CompEnd" => k_dflt (first
    | exact LCg.CompEnd.intro (by assumption) (by assumption) _ (fun _ h => h) (by assumption) trivial ⟨rfl, _, _, rfl, if_pos (by assumption)⟩
    | exact LCg.CompEnd.intro (by assumption) (by assumption) _ (fun _ h => h) (by assumption) trivial ⟨rfl, if_neg (by assumption)⟩)
  k_with "call ref" => k_dflt ((rw [comp_sum hk1 hk14]); ktn_call (Str.ofString "_law_signed") lsgT; (rename SIn _ _ (signL _ _) => hO9); (obtain ⟨qa, ql, qvs, qn, qk9, rfl, hQ1, hQ2, hQ3⟩ := hO9.inv))
  k_with "compareOp NotEq ref ref" => k_dflt ((refine sg_ne (signL (sigma k) wd) (by k_asm) ?a ?b ?u ?_); (case a => exact SIn.mono (fun _ h => by k_mem) hs); (case b => assumption); (case u => ke_room))
  k_with "call builtin:list.append" => k_dflt (
    (refine' sums_append (zs := zs) ?F ?N ?S ?sz hz0 ?_)
    (case F => k_asm)
    (case N => k_asm)
    (case S => k_mem)
    (case sz => (rw [hZ.len]; omega))
    (intro h7 led2 F7 N7 hS7 hm7 hc7 hi7)
    (have hT7 : SIn led2 (.ref ta) (signL (sigma k) wd) := hm7 _ _ (hs.mono fun _ h => by k_mem))
    (have hZ7 := hZ9.snoc hk1 (fun v d h => hm7 v d (h.mono (fun _ h => by k_mem))) hT7)
    (have hW7 := hi7 _ _ _ _ (mtail (mapl hW9)) hWi)
    (have hC7 := hc7 _ (mtail (mapl hC9)) (fun e => by (have e' : oc = listOf _ _ := e); rw [e'] at hoc; cases hoc))
    (have hR7 : ∀ p ∈ led, p.2.cls = .type "range_iterator" → p ∈ led2 := fun p hp hc => hc7 p (by (have hp9 := hfr.keep p hp); k_mem) (fun e => not_lst hc (by decide) (by rw [e])))
    (try k_fold))
  k_with "pyIter ref" => k_dflt (
    (rename Fr _ _ _ _ => lF'); (rename News _ _ _ _ => lN'); (rename IsRange _ _ _ _ _ _ _ _ => rgX); (rename (∀ p ∈ led2, p.1 < _) => lt1); (rename (_ < _ ∧ AllLt _ led2) => lt2)
    (refine' rng_loop (n := (k + 1 - 1).toNat) (fun i m' nx => (∀ z, z ≠ Str.ofString "both" → z ≠ Str.ofString "part" → m' z = (fun y => if y = Str.ofString "total" then some (.ref ta) else if y = Str.ofString "w" then some (.int wd tw) else if y = Str.ofString "most" then some (.int most tm) else if y = Str.ofString "sums" then some (.ref S) else if y = Str.ofString "ways" then some (.ref W) else m1 y) z) ∧ Fresh led2 nx ∧ ∃ vt', m' (Str.ofString "both") = some vt' ∧ SIn nx vt' (bothAt wd k i)) rfl rgX (small_one (by omega) (by omega) (by omega) (by omega)) (rangeSize_nat _ _) lF' lN' ?hj2 ?turn2 ?done2)
    (case hj2 => exact ⟨fun z h1 _ => if_neg h1, (Fresh.push lt1).trans (Fresh.push fun q hq => by (rcases List.mem_cons.mp hq with rfl | hq; (exact lt2.1); (exact allLt_mem lt2.2 q hq))), _, if_pos rfl, SIn.of (b := false) (vs := []) (ns := []) mhead (mtail mhead) .nil rfl⟩)
    (case turn2 =>
      rintro i m2 nx2 h9 t9 tk9 I o hi ho hI ⟨hag, hfr2, vt', hmt, hs2⟩ F9 N9
      have q1 : m2 (Str.ofString "w") = some (.int wd tw) := by rw [hag _ (by decide) (by decide)]; rfl
      have q3 : m2 (Str.ofString "sums") = some (.ref S) := by rw [hag _ (by decide) (by decide)]; rfl
      have q4 : m2 (Str.ofString "ways") = some (.ref W) := by rw [hag _ (by decide) (by decide)]; rfl
      have e := fr4 hmt q1 q3 q4
      rw [e] at F9
      have hlen := bothAt_len hw4 hw8 hk14 i (by omega)
      have hwe := way_eq (j := (k - (1 + (i : Int))).toNat) hm1 hm2 (by omega)
      refine t_part (u := m2) (p := 1 + (i : Int)) (wl := partL most) B X T N9 F9 (mtail (hfr2.keep _ hC7)) hoc (mtail (hfr2.keep _ hS7)) (hZ7.mono fun _ h => mtail (hfr2.keep _ h)) (mtail (hfr2.keep _ hW7)) hWi (by rw [part_len hm1 hm2]; omega) (hs2.mono fun _ h => mtail h) (by omega) hw4 hw8 hk1 hk14 (by omega) (by omega) (by rw [hwe]; have h5 := plain5 (k - (1 + (i : Int))).toNat (by omega); omega) (by rw [hwe]; exact plain3' hw4 hw8 (by omega) (by omega)) ?_
      intro h' tk' m' tl vt'' F' hag' hmt' N' hne hs'
      rw [bothStep_eq hwe, ← bothAt_succ] at hs'
      exact ⟨rfl, h', tk', m', nx2 ++ tl, rfl, F', N', fun p hp => (List.mem_append.mp hp).elim (hI p) (fun h => (hne (I, o) mhead p h).symm), fun z a b => ((hag' z a).trans ((if_neg b).trans (congrFun e z).symm)).trans (hag z a b), hfr2.more (fun q hq => hne q (mtail hq)), vt'', hmt', SIn.drop (not_tup ho (by decide)) (not_lst ho (by decide)) hs'⟩)
    (rintro m2 nx2 h9 tk9 ⟨hag, hfr2, vt', hmt, hs2⟩ F9 N9)
    rw [show (k + 1 - 1).toNat = k.toNat by omega, plain2' hw4 hw8 hk1 hk14] at hs2
    (have q1 : m2 (Str.ofString "w") = some (.int wd tw) := by rw [hag _ (by decide) (by decide)]; rfl)
    (have q2 : m2 (Str.ofString "most") = some (.int most tm) := by rw [hag _ (by decide) (by decide)]; rfl)
    (have q3 : m2 (Str.ofString "sums") = some (.ref S) := by rw [hag _ (by decide) (by decide)]; rfl)
    (have q4 : m2 (Str.ofString "ways") = some (.ref W) := by rw [hag _ (by decide) (by decide)]; rfl)
    rw [fr5 hmt q1 q2 q3 q4] at F9
    (have hC8 := hfr2.keep _ hC7)
    (have hS8 := hfr2.keep _ hS7)
    (have hW8 := hfr2.keep _ hW7)
    (have hZ8 := hZ7.mono hfr2.keep)
    (obtain ⟨ba, bl, bvs, bn, bk8, rfl, hB1, hB2, hB3⟩ := hs2.inv)
    (have hpr := prod_small hk1 hk14)
    clear lF' lN' rgX lt1 lt2 hmt hag
    dsimp only)
  k_with "call ref" => k_dflt ((rw [way_eq (j := k.toNat) hm1 hm2 (by omega)]); ktn_call (Str.ofString "_law_signed") lsgT; (rename SIn _ _ (signL _ _) => hO9); (obtain ⟨qa, ql, qvs, qn, qk9, rfl, hQ1, hQ2, hQ3⟩ := hO9.inv))
  k_with "compareOp NotEq ref ref" => k_dflt ((refine sg_ne (signL (k * waysT.getD k.toNat 0) wd) (by k_asm) ?a ?b ?u ?_); (case a => exact SIn.mono (fun _ h => by k_mem) hs2); (case b => assumption); (case u => ke_room))
  k_steps
  all_goals (try k_data)
  all_goals exact hQ _ _ _ _ _ _ (by assumption) rfl rfl rfl rfl (by assumption) (mapl hC8) (mapl hS8) (hZ8.mono fun _ h => mapl h) (mapl hW8) (fun p hp hc => mapl (hfr2.keep _ (hR7 p hp hc)))
end Mine

/-! C_for -/
namespace Mine
local macro_rules | `(tactic| k_mem) => `(tactic| first | assumption | exact mhead | (refine mtail ?_; k_mem) | (refine mapl ?_; k_mem) | (refine mapr ?_; k_mem))
local macro_rules | `(tactic| walk_at "call builtin:len") => `(tactic| (k_here; (with_reducible show wpAny _ _ (call (Value.builtin "len") [Value.ref _]) _ _ _); k_dflt (refine' kst_len ?k1 ?k2 ?k3 ?k4 ?_; (case k1 => k_asm); (case k2 => k_mem); (case k3 => exact IntsAre.length (by assumption)); (case k4 => omega)); k_whole))

set_option maxRecDepth 100000 in
set_option maxHeartbeats 8000000 in
theorem t_for {w : World} {mean : ExcName → Option Value} {mg mb : Str → Option Value} {fa : Addr} {cd : Value} {h₀ : Heap} {L : Addr} {led : Led} {s : Shared} {Q : Flow → Shared → Prop}
    (B : Below callerA h₀ [] h₀) (X : (hd.heap_39 w.params).In h₀) (T : Top hd.view_39 (looseW hd.view_39 []) mean mg mb h₀) (N : News h₀ L s.heap led)
    {wd most : Int} {tw tm : Tok} {oc : Obj} {v0 : Option Value} {S W : Addr} {zs ws : List Value} {cS cW : Nat} {u : Str → Option Value}
    (F : Fr h₀ L s.heap (fun y => if y = Str.ofString "w" then some (.int wd tw) else if y = Str.ofString "most" then some (.int most tm) else if y = Str.ofString "sums" then some (.ref S) else if y = Str.ofString "ways" then some (.ref W) else u y))
    (hC : (L + 1, oc) ∈ led) (hoc : oc.data = .cell v0) (hS : (S, listOf zs.toArray cS) ∈ led) (hZ : AllS led zs wd 1) (hW : (W, listOf ws.toArray cW) ∈ led) (hWi : IntsAre ws (partL most))
    (hw4 : 4 ≤ wd) (hw8 : wd ≤ 8) (hm1 : 10 ≤ most) (hm2 : most ≤ 14)
    (hQ : ∀ h' tk' m' led', Fr h₀ L h' m' → News h₀ L h' led' → Q .next { s with heap := h', toks := tk' }) :
    wpAny (model PySem.Challenge.rw_xw0107_01.row.prog w) (callerA.deeper (lawEnv L fa cd)) (exec numStmt (lawEnv L fa cd)) Q (fun _ _ => False) s := by
  revert X
  k_fill
  intro X
  have kMk := kstMark
  w_top off
  k_with_none
  unfold lawEnv
  generalize hbd : numStmt = bd
  conv at hbd => lhs; whnf
  subst hbd
  generalize hsc : lawScope = sc
  conv at hsc => lhs; whnf
  subst hsc
  refine For_invTF F ?_ (fun _ => rfl)
  k_steps
  all_goals (try k_data)
  (rename Fr _ _ _ _ => lF'); (rename News _ _ _ _ => lN'); (rename IsRange _ _ _ _ _ _ _ _ => rgX)
  (refine' cell_loop (n := (most + 1 - 1).toNat) (fun i m' nx => m' (Str.ofString "w") = some (.int wd tw) ∧ m' (Str.ofString "most") = some (.int most tm) ∧ m' (Str.ofString "sums") = some (.ref S) ∧ m' (Str.ofString "ways") = some (.ref W) ∧ (∃ oc v, (L + 1, oc) ∈ nx ∧ oc.data = .cell v) ∧ (W, listOf ws.toArray cW) ∈ nx ∧ ∃ zs' cS', (S, listOf zs'.toArray cS') ∈ nx ∧ AllS nx zs' wd (i + 1)) rfl rfl rfl rfl rgX (small_one (by omega) (by omega) (by omega) (by omega)) (rangeSize_nat _ _) lF' lN' ?hj ?hcell ?turn ?done)
  (case hj => exact ⟨rfl, rfl, rfl, rfl, ⟨oc, v0, hC, hoc⟩, hW, zs, cS, hS, hZ⟩)
  (case hcell => exact fun i m nx h => h.2.2.2.2.1)
  (case done => exact fun m nx h9 tk9 _ F9 N9 => hQ _ _ _ _ F9 N9)
  (case turn =>
    rintro i m nx t9 I o oc' s' hi ho hod hI hoff ⟨q1, q2, q3, q4, ⟨oc0, vv, hc0, hd0⟩, hW', zs', cS', hS', hZ'⟩ hoc' F9 N9
    have hf : ∀ p ∈ nx, (∀ v, p.2.data ≠ .cell v) → p ∈ (I, o) :: (L + 1, oc') :: nx.filter (fun p => decide (p.1 ≠ L + 1)) := fun p hp hv => mtail (mtail (List.mem_filter.mpr ⟨hp, decide_eq_true (hoff p hp hv)⟩))
    have e := fr4 q1 q2 q3 q4
    rw [e] at F9
    have ek : (1 + (i : Int)).toNat = i + 1 := by omega
    refine t_num (u := m) (k := 1 + (i : Int)) (tk := t9) B X T N9 F9 (mtail mhead) hoc' (hf _ hS' (fun v e => by cases e)) (by rw [ek]; exact hZ'.map (fun a b l n h => hf _ h (fun v e => by cases e)) (fun a vs n h => hf _ h (fun v e => by cases e))) (hf _ hW' (fun v e => by cases e)) hWi hw4 hw8 (by omega) (by omega) hm1 hm2 ?_
    intro h' tk' m' led' zs2 cS2 F' r1 r2 r3 r4 N' hC' hS2 hZ2 hW2 hR
    have hio := hR (I, o) mhead ho
    rw [ek] at hZ2
    refine ⟨rfl, h', tk', m', led'.filter (fun p => decide (p.1 ≠ I)), rfl, F', ?_, fun p hp => of_decide_eq_true (List.mem_filter.mp hp).2, r1, r2, r3, r4, ⟨oc', _, off_it N' hio hC' (fun e => hod _ ((congrArg Obj.data (show oc' = o from e)).symm.trans hoc')), hoc'⟩, off_it N' hio hW2 (fun e => not_lst ho (by decide) (e ▸ rfl)), zs2, cS2, off_it N' hio hS2 (fun e => not_lst ho (by decide) (e ▸ rfl)), hZ2.map (fun a b l n h => off_it N' hio h (fun e => not_tup ho (by decide) (e ▸ rfl))) (fun a vs n h => off_it N' hio h (fun e => not_lst ho (by decide) (e ▸ rfl)))⟩
    intro p hp
    rcases List.mem_cons.mp hp with rfl | hp
    · exact N' _ hio
    · exact N' p (List.mem_filter.mp hp).1)
end Mine

/-! C_law -/
namespace Mine
local macro_rules | `(tactic| k_mem) => `(tactic| first | assumption | exact mhead | (refine mtail ?_; k_mem) | (refine mapl ?_; k_mem) | (refine mapr ?_; k_mem))
local macro_rules | `(tactic| walk_at "call builtin:len") => `(tactic| (k_here; (with_reducible show wpAny _ _ (call (Value.builtin "len") [Value.ref _]) _ _ _); k_dflt (refine' kst_len ?k1 ?k2 ?k3 ?k4 ?_; (case k1 => k_asm); (case k2 => k_mem); (case k3 => exact IntsAre.length (by assumption)); (case k4 => omega)); k_whole))

theorem bnd5 (x : Int) : 0 ≤ x.fmod 5 ∧ x.fmod 5 < 5 := by
  rw [Int.fmod_eq_emod_of_nonneg _ (by decide)]
  omega
theorem Fr.four {h₀ h : Heap} {L : Addr} {m : Str → Option Value} {x1 x2 x3 x4 : Str} {v1 v2 v3 v4 : Value} (F : Fr h₀ L h m) (h1 : m x1 = some v1) (h2 : m x2 = some v2) (h3 : m x3 = some v3) (h4 : m x4 = some v4) :
    Fr h₀ L h (fun y => if y = x1 then some v1 else if y = x2 then some v2 else if y = x3 then some v3 else if y = x4 then some v4 else m y) := by
  have e := fr4 h1 h2 h3 h4
  rw [← e]
  exact F
theorem AllS.one {led : Led} {v : Value} {w : Int} (h : SIn led v (false, [])) : AllS led [v] w 1 :=
  ⟨rfl, fun j hj => by
    have e : j = 0 := by omega
    subst e
    have e2 : sigS w ((0 : Nat) : Int) = (false, []) := if_pos rfl
    exact ⟨v, rfl, by rw [e2]; exact h⟩⟩
theorem ok10 (x : Int) : 10 ≤ 10 + x.fmod 5 ∧ 10 + x.fmod 5 ≤ 14 := by have := bnd5 x; omega
theorem ok4 (x : Int) : 4 ≤ 4 + x.fmod 5 ∧ 4 + x.fmod 5 ≤ 8 := by have := bnd5 x; omega
theorem parted_of {w : World} {mean : ExcName → Option Value} {mg mb : Str → Option Value} {h : Heap} (_X : (hd.heap_39 w.params).In h) (_T : Top hd.view_39 (looseW hd.view_39 []) mean mg mb h) :
    ∀ d, TellsN PySem.Challenge.rw_xw0107_01.row.prog w (hd.heap_39 w.params) hd.view_39 (looseW hd.view_39 []) mean mg mb 137 parT d := c_parted w mean mg mb
local macro_rules | `(tactic| ktr_rel) => `(tactic| first
  | exact ParR.mk
  | exact ok10 _)
set_option maxRecDepth 100000 in
set_option maxHeartbeats 8000000 in
theorem lawT : PySem.Challenge.rw_xw0107_01.Holds := hd (by
  k_go0
  all_goals try k_fold
  w_top off
  k_with_none
  all_goals (have Cp := parted_of (by assumption) (by assumption))
  k_with "call ref" => k_dflt (ktn_call (Str.ofString "_law_parted") parT; (rename LIn _ _ _ => hO9); cases hO9)
  k_with "exec For Name Call cons nil" => k_dflt (
    (refine wpAny_mono (E := fun _ _ => False) ?_ (fun _ _ h => h) (fun _ _ h => h.elim))
    (rename Fr _ _ _ _ => lF'); (rename News _ _ _ _ => lN')
    (refine' t_for (wd := 4 + Int.fmod _ 5) (most := 10 + Int.fmod _ 5) (zs := [_]) (by assumption) (by assumption) (by assumption) lN' (Fr.four lF' rfl rfl rfl rfl) (by k_mem) (by assumption) (by k_mem) (AllS.one (SIn.of (b := false) (vs := []) (ns := []) (by k_mem) (by k_mem) .nil rfl)) (by k_mem) (by assumption) (ok4 _).1 (ok4 _).2 (ok10 _).1 (ok10 _).2 ?_)
    clear lF' lN'
    (intro h7 tk7 m7 led7 F7 N7)
    (try k_fold))
  k_steps
  all_goals (try k_data))
end Mine

set_option maxRecDepth 100000 in
set_option maxHeartbeats 8000000 in
theorem PySem.Challenge.cw_xw0107_01_holds : PySem.Challenge.rw_xw0107_01.Holds := by
  exact Mine.lawT
