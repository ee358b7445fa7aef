import PyProof.Rows.All
import Wide.All
import OpenK.AllK
import Wide.FinOn
import PySem.Challenge.RW_xw0300_01
set_option Elab.async false
section
open PySem PySem.W PyProof.Rows
namespace Mine
set_option maxRecDepth 100000 in
set_option maxHeartbeats 8000000 in
open_top hd for PySem.Challenge.rw_xw0300_01
end Mine
end
section
open PySem PySem.W PyProof.Rows
namespace Mine
/-- a tie of the grid: its two ends, the lesser first -/
abbrev Tie := (Int × Int) × (Int × Int)
def dirX (w : Int) : Int := if w = 0 then 1 else if w = 2 then -1 else 0
def dirY (w : Int) : Int := if w = 1 then 1 else if w = 3 then -1 else 0
def tieOf (x y w : Int) : Tie := if w = 0 ∨ w = 1 then ((x, y), (x + dirX w, y + dirY w)) else ((x + dirX w, y + dirY w), (x, y))
def turned (w : Int) (c : Nat) : Int := (w + (if c = 49 then 1 else 3)) % 4
/-- the walk along the creases: none where a tie is met twice -/
def go : List Nat → Int → Int → Int → List Tie → Option (Int × Int)
  | [], x, y, _, _ => some (x, y)
  | c :: r, x, y, w, T => if tieOf x y w ∈ T then none else go r (x + dirX w) (y + dirY w) (turned w c) (T ++ [tieOf x y w])
def sw (c : Nat) : Nat := if c = 48 then 49 else if c = 49 then 48 else c
/-- one fold: what was, the new crease, what was from behind and turned -/
def fold1 (c : List Nat) (f : Nat) : List Nat := c ++ f :: (c.reverse.map sw)
def creases (F : List Nat) : List Nat := F.foldl fold1 []
/-- the specification's own: every second crease the first fold's, by turns -/
def weave (f : Nat) (inner : List Nat) : Nat → List Nat
  | 0 => []
  | n + 1 => weave f inner n ++ [if n % 2 = 0 then f else sw f] ++ (inner.drop n).take 1
def between : List Nat → List Nat
  | [] => []
  | f :: r => weave f (between r) ((between r).length + 1)
def Bits (F : List Nat) : Prop := ∀ c ∈ F, c = 48 ∨ c = 49
def allBits : Nat → List (List Nat)
  | 0 => [[]]
  | n + 1 => (allBits n).flatMap fun l => [48 :: l, 49 :: l]
theorem mem_allBits : ∀ (F : List Nat), Bits F → F ∈ allBits F.length
  | [], _ => by simp [allBits]
  | c :: r, h => by
    have hr := mem_allBits r fun x hx => h x (.tail _ hx)
    have hc := h c (.head _)
    simp only [List.length_cons, allBits, List.mem_flatMap]
    refine ⟨r, hr, ?_⟩
    rcases hc with rfl | rfl <;> simp
def okB (F : List Nat) : Bool := (creases F == between F) && (match go (creases F ++ [48]) 0 0 0 [] with
  | some (x, y) => x * x + y * y == ((2 ^ F.length : Nat) : Int)
  | none => false)
theorem ok1 : (allBits 1).all okB = true := by decide +kernel
theorem ok2 : (allBits 2).all okB = true := by decide +kernel
theorem ok3 : (allBits 3).all okB = true := by decide +kernel
theorem ok4 : (allBits 4).all okB = true := by decide +kernel
theorem ok5 : (allBits 5).all okB = true := by decide +kernel
theorem ok_all (F : List Nat) (h : Bits F) (h1 : 1 ≤ F.length) (h5 : F.length ≤ 5) : okB F = true := by
  have hm := mem_allBits F h
  generalize hn : F.length = n at *
  have : n = 1 ∨ n = 2 ∨ n = 3 ∨ n = 4 ∨ n = 5 := by omega
  rcases this with rfl | rfl | rfl | rfl | rfl
  · exact List.all_eq_true.mp ok1 _ hm
  · exact List.all_eq_true.mp ok2 _ hm
  · exact List.all_eq_true.mp ok3 _ hm
  · exact List.all_eq_true.mp ok4 _ hm
  · exact List.all_eq_true.mp ok5 _ hm
theorem law_holds (F : List Nat) (h : Bits F) (h1 : 1 ≤ F.length) (h5 : F.length ≤ 5) :
    creases F = between F ∧ ∃ x y, go (creases F ++ [48]) 0 0 0 [] = some (x, y) ∧ x * x + y * y = ((2 ^ F.length : Nat) : Int) := by
  have k := ok_all F h h1 h5
  unfold okB at k
  rw [Bool.and_eq_true] at k
  refine ⟨by simpa using k.1, ?_⟩
  have k2 := k.2
  split at k2
  · rename_i x y e
    exact ⟨x, y, e, by simpa using k2⟩
  · cases k2
end Mine
end
section
open PySem PySem.W PyProof.Rows PySem.Calls PyProof.V PySem.Spec
namespace Mine
/-- what a def of the text's does for its caller, whoever that is -/
abbrev Clm (w : World) (mean : ExcName → Option Value) (mg mb : Str → Option Value) (f : Addr) (news : List (Addr × Obj)) (pre : Prop) (sz : Nat) (vs : List Value) (R : Tok → Value) : Prop :=
  CbRec PySem.Challenge.rw_xw0300_01.row.prog w (hd.heap_39 w.params) hd.view_39 (looseW hd.view_39 [Str.ofString "SnobolError"]) mean mg mb f news [] pre sz vs R
theorem clm_use {w : World} {mean : ExcName → Option Value} {mg mb : Str → Option Value} {f : Addr} {news : List (Addr × Obj)} {pre : Prop} {sz : Nat} {vs : List Value} {R : Tok → Value}
    {dp un : Nat} {gd : Option (List Code)} {cn : Str} {cs : Scope} {a : Addr} {ccd : Value} {cl : List (Str × Addr)} {outer : List Env} {A₀ : Around} {base h₀ : Heap} {L : Addr} {m : Str → Option Value} {s : Shared} {Q E : Value → Shared → Prop}
    (C : Clm w mean mg mb f news pre sz vs R) (B : Below A₀ base outer h₀) (F : Fr h₀ L s.heap m) (X : (hd.heap_39 w.params).In h₀) (N : News h₀ L s.heap news) (T : Top hd.view_39 (looseW hd.view_39 [Str.ofString "SnobolError"]) mean mg mb h₀) (hk : cs.kind = .function)
    (hp : pre) (hd : dp + sz + 1 < recursionLimit) (hu : un + 8 * (sz + 1) < cLine)
    (ret : ∀ (t : Tok) (h' : Heap) (tk' : Nat), Fr h₀ L h' m → News h₀ L h' news → Q (R t) { s with heap := h', toks := tk' }) :
    wpAny (model PySem.Challenge.rw_xw0300_01.row.prog w) (ktrTop dp un gd cn cs L a ccd cl outer) (call (.ref f) vs) Q E s :=
  C dp un gd cn cs a ccd cl outer A₀ base h₀ L m s Q E B F X N T hk hp hd hu ret
/-- _law_between upon one text -/
def BtwOf (w : World) (mean : ExcName → Option Value) (mg mb : Str → Option Value) (sz : Nat) (r : List Nat) : Prop :=
  ∀ (news : List (Addr × Obj)) (t : Tok), Clm w mean mg mb 127 news True sz [.str ⟨r.toArray⟩ t] (fun t => .str ⟨(between r).toArray⟩ t)
theorem BtwOf.at {w : World} {mean : ExcName → Option Value} {mg mb : Str → Option Value} {sz : Nat} {r : List Nat} {x : Str} (C : BtwOf w mean mg mb sz r) (e : x = ⟨r.toArray⟩) (news : List (Addr × Obj)) (t : Tok) :
    Clm w mean mg mb 127 news True sz [.str x t] (fun t => .str ⟨(between r).toArray⟩ t) := e ▸ C news t
end Mine
end
section
open PySem PySem.W PyProof.Rows PySem.Calls PyProof.V PySem.Spec PySem.Builtin PySem.Builtin.Str
namespace Mine
theorem tx_append (a b : List Nat) : ((⟨a.toArray⟩ : Str) ++ ⟨b.toArray⟩) = ⟨(a ++ b).toArray⟩ := by
  refine Str.ext' ?_
  rw [Str.cps_append]
  simp
theorem tx_len (a : List Nat) : (⟨a.toArray⟩ : Str).length = a.length := by simp [Str.length]
theorem tx_empty : Str.ofString "" = ⟨([] : List Nat).toArray⟩ := by decide +kernel
theorem slice_tail (f : Nat) (r : List Nat) : Txt.slice ⟨(f :: r).toArray⟩ (some 1) none = ⟨r.toArray⟩ := by
  show StrLaws.sliceText _ (some 1) none = _
  rw [StrLaws.sliceText_from (by simp; omega)]
  congr 1
  simp
theorem slice_to {F : List Nat} {k : Int} (h0 : 0 ≤ k) (h : k ≤ F.length) : Txt.slice ⟨F.toArray⟩ none (some k) = ⟨(F.take k.toNat).toArray⟩ := by
  show StrLaws.sliceText _ none (some k) = _
  rw [StrLaws.sliceText_to (by simp; omega)]
  congr 1
  simp
theorem slice_one {l : List Nat} {k : Int} (h0 : 0 ≤ k) (h : k ≤ l.length) : Txt.slice ⟨l.toArray⟩ (some k) (some (k + 1)) = ⟨((l.drop k.toNat).take 1).toArray⟩ := by
  by_cases hk : k < l.length
  · show StrLaws.sliceText _ (some k) (some (k + 1)) = _
    rw [StrLaws.sliceText_plain (by simp; omega)]
    congr 1
    have e : (k + 1 - k).toNat = 1 := by omega
    simp [e]
  · have e : k = l.length := by omega
    subst e
    have e2 : List.drop ((l.length : Int)).toNat l = [] := List.drop_eq_nil_of_le (by omega)
    have e3 : strSliceIndices (some ((l.length : Int))) (some ((l.length : Int) + 1)) 1 (⟨l.toArray⟩ : Str).length = [] := by
      rw [tx_len]
      unfold strSliceIndices sliceRange
      have a1 : ¬ ((l.length : Int) < 0) := by omega
      have a2 : ¬ ((l.length : Int) + 1 < 0) := by omega
      have a3 : max 0 (min ((l.length : Int)) l.length) = l.length := by omega
      have a4 : max 0 (min ((l.length : Int) + 1) l.length) = l.length := by omega
      simp [a1, a2, a3, a4]
    rw [e2]
    unfold Txt.slice
    rw [e3, tx_len]
    split
    · rename_i h9
      have h8 : 0 = l.length := by simpa using h9
      have : l = [] := List.length_eq_zero_iff.mp h8.symm
      rw [this]
      rfl
    · rfl
theorem rev_text (l : List Nat) (u : Tok) : Txt.sliceBy ⟨l.toArray⟩ none none (-1, u) = ⟨l.reverse.toArray⟩ := by
  have h := step_rev_list (⟨l.toArray⟩ : Str) u
  refine Str.ext' (Array.toList_inj.mp ?_)
  rw [h, tx_len]
  show List.map (fun k => (l.toArray).getD (l.length - 1 - k) 0) (List.range l.length) = l.reverse
  refine List.ext_getElem (by simp) fun i h1 h2 => ?_
  have hi : i < l.length := by simpa using h1
  have hk : l.length - 1 - i < l.length := by omega
  simp [Array.getD, hk]
theorem not_empty (f : Nat) (r : List Nat) : ((⟨(f :: r).toArray⟩ : Str) == Str.ofString "") = false := by
  rw [tx_empty, beq_eq_false_iff_ne]
  intro e
  have e2 := congrArg (fun x : Str => x.cps.toList) e
  simp at e2
end Mine
namespace Mine
def bc (b : Int) : Nat := if b = 0 then 48 else 49
theorem item01 {b : Int} (h0 : 0 ≤ b) (h2 : b < 2) : Txt.item (Str.ofString "01") b = ⟨#[bc b]⟩ := by
  have h : b = 0 ∨ b = 1 := by omega
  rcases h with rfl | rfl <;> decide +kernel
theorem bc_bit (b : Int) : bc b = 48 ∨ bc b = 49 := by
  unfold bc
  split <;> simp
theorem creases_snoc (l : List Nat) (c : Nat) : creases (l ++ [c]) = fold1 (creases l) c := by
  unfold creases
  rw [List.foldl_append]
  rfl
theorem creases_len : ∀ (l : List Nat), (creases l).length + 1 = 2 ^ l.length := by
  intro l
  have key : ∀ (l acc : List Nat), (l.foldl fold1 acc).length + 1 = (acc.length + 1) * 2 ^ l.length := by
    intro l
    induction l with
    | nil => intro acc; simp
    | cons c r ih =>
      intro acc
      rw [List.foldl_cons, ih, List.length_cons, Nat.pow_succ]
      simp only [fold1, List.length_append, List.length_cons, List.length_map, List.length_reverse]
      rw [show acc.length + (acc.length + 1) + 1 = (acc.length + 1) * 2 by omega, Nat.mul_assoc, Nat.mul_comm 2]
  have := key l []
  simpa [creases] using this
theorem sw_bit {c : Nat} (h : c = 48 ∨ c = 49) : sw c = 48 ∨ sw c = 49 := by
  rcases h with rfl | rfl <;> simp [sw]
theorem creases_bits : ∀ (l : List Nat), Bits l → Bits (creases l) := by
  intro l
  have key : ∀ (l acc : List Nat), Bits l → Bits acc → Bits (l.foldl fold1 acc) := by
    intro l
    induction l with
    | nil => intro acc _ h; exact h
    | cons c r ih =>
      intro acc h1 h2
      rw [List.foldl_cons]
      refine ih _ (fun x hx => h1 x (.tail _ hx)) fun x hx => ?_
      simp only [fold1, List.mem_append, List.mem_cons, List.mem_map, List.mem_reverse] at hx
      rcases hx with hx | hx | ⟨y, hy, hx⟩
      · exact h2 x hx
      · exact hx ▸ h1 c (.head _)
      · exact hx ▸ sw_bit (h2 y hy)
  intro h
  exact key l [] h fun _ hx => nomatch hx
theorem weave_length (f : Nat) (inner : List Nat) : ∀ n, n ≤ inner.length + 1 → (weave f inner n).length = n + min n inner.length
  | 0, _ => by simp [weave]
  | n + 1, h => by
    have ih := weave_length f inner n (by omega)
    have e : ((inner.drop n).take 1).length = min 1 (inner.length - n) := by rw [List.length_take, List.length_drop]
    simp only [weave, List.length_append, List.length_singleton, ih, e]
    omega
theorem between_len : ∀ l : List Nat, (between l).length + 1 = 2 ^ l.length
  | [] => rfl
  | f :: r => by
    have ih := between_len r
    rw [between, weave_length _ _ _ (Nat.le_refl _), List.length_cons, Nat.pow_succ]
    omega
end Mine
end
section
open PySem PySem.W PyProof.Rows PySem.Calls PyProof.V PySem.Spec
namespace Mine
/-- the walk halts here -/
def Halt (P : Prop) : Prop := P
theorem Halt.off {P : Prop} (h : Halt P) : P := h
theorem Halt.on {P : Prop} (h : P) : Halt P := h
theorem allLt_succ {d : Addr} : ∀ {l : List (Addr × Obj)}, AllLt d l → AllLt (d + 1) l
  | [], _ => trivial
  | _ :: _, h => ⟨Nat.lt_succ_of_lt h.1, allLt_succ h.2⟩
theorem weave_len (f : Nat) (inner : List Nat) : ∀ n, (weave f inner n).length ≤ 2 * n
  | 0 => by simp [weave]
  | n + 1 => by
    have h := weave_len f inner n
    have h2 : ((inner.drop n).take 1).length ≤ 1 := List.length_take_le _ _
    simp only [weave, List.length_append, List.length_singleton]
    omega
theorem weave_next {f i c : Nat} {inner : List Nat} {cs : Str} (hc : cs = ⟨#[c]⟩) (hi : i ≤ inner.length) (h : c = if i % 2 = 0 then f else sw f) :
    ((⟨(weave f inner i).toArray⟩ : Str) ++ cs) ++ Txt.slice ⟨inner.toArray⟩ (some (i : Int)) (some ((i : Int) + 1)) = ⟨(weave f inner (i + 1)).toArray⟩ := by
  rw [slice_one (by omega) (by omega), Int.toNat_natCast, hc]
  show (_ ++ (⟨[c].toArray⟩ : Str)) ++ _ = _
  rw [tx_append, tx_append, h]
  rfl
theorem even_of {i : Nat} (h : (i : Int).fmod 2 = 0) : i % 2 = 0 := by
  rw [Int.fmod_eq_emod_of_nonneg _ (by decide)] at h
  omega
theorem odd_of {i : Nat} (h : (i : Int).fmod 2 ≠ 0) : ¬ i % 2 = 0 := by
  rw [Int.fmod_eq_emod_of_nonneg _ (by decide)] at h
  omega
theorem t0 : Str.ofString "0" = ⟨#[48]⟩ := by decide +kernel
theorem t1 : Str.ofString "1" = ⟨#[49]⟩ := by decide +kernel
theorem item_first (f : Nat) (r : List Nat) : Txt.item ⟨(f :: r).toArray⟩ 0 = ⟨#[f]⟩ := PyProof.Rows.item_meets (by decide) (by simp)
section
variable {prog : Program} {w : World} {A : Around} {E : Value → Shared → Prop} {s : Shared}
theorem head_item {value slice : PySem.Expr} {f : Nat} {r : List Nat} {t u : Tok} {Q : Value → Shared → Prop} (hr : r.length ≤ 100) (h : Q (.str ⟨#[f]⟩ s.toks) { s with toks := s.toks + 1 })
    (hs : subscripted slice false (.str ⟨(f :: r).toArray⟩ t) (.int 0 u) = operate [.str ⟨(f :: r).toArray⟩ t, .int 0 u] (getItem (.str ⟨(f :: r).toArray⟩ t) (.int 0 u)) := by with_unfolding_all rfl)
    (ht : ∀ r', letTemporaryGo value (.str ⟨(f :: r).toArray⟩ t) r' = pure () := by intro _; with_unfolding_all rfl) :
    wpAny (model prog w) A (subscriptTail value slice (.str ⟨(f :: r).toArray⟩ t) (.int 0 u)) Q E s :=
  KXi.item (n := r.length + 1) (by rw [tx_len, List.length_cons]) (by omega) (by omega) (by omega) (fun _ => by rw [item_first]; exact h) hs ht
variable {env : Env} {h₀ : Heap} {body : List Stmt} {Q : Flow → Shared → Prop}
/-- the state of a loop that turns one text: the text y, the loop's own name x -/
def TxtJ (news : List (Addr × Obj)) (m₀ : Str → Option Value) (x y : Str) (v : List Nat) (m : Str → Option Value) (nx : List (Addr × Obj)) : Prop :=
  nx = news ∧ (∃ tc, m y = some (.str ⟨v.toArray⟩ tc)) ∧ ∀ z, z ≠ x → z ≠ y → m z = m₀ z
theorem txt_frame {m m₀ : Str → Option Value} {x y : Str} {v : Str} {tc : Tok} (hy : m y = some (.str v tc)) (hz : ∀ z, z ≠ x → z ≠ y → m z = m₀ z) :
    m = fun z => if z = y then some (.str v tc) else if z = x then m z else m₀ z := by
  funext z
  by_cases h1 : z = y
  · rw [if_pos h1, h1, hy]
  · rw [if_neg h1]
    by_cases h2 : z = x
    · rw [if_pos h2]
    · rw [if_neg h2]
      exact hz z h2 h1
theorem txt_range {x y : Str} {r : Addr} {t₀ u₀ v₀ : Tok} {b : Int} {n : Nat} {m₀ : Str → Option Value} {news : List (Addr × Obj)} (W : Nat → List Nat) {tc : Tok}
    (hh : A.handled = none) (hr : IsRange s.heap r 0 b 1 t₀ u₀ v₀) (hb : b = (n : Int)) (hn : n ≤ 1000) (F : Fr h₀ env.locals s.heap m₀) (N : News h₀ env.locals s.heap news) (hc : m₀ y = some (.str ⟨(W 0).toArray⟩ tc))
    (turn : ∀ (i : Nat) t tc h tk own, i < n → OwnOff own (news.map (·.1)) → Fr h₀ env.locals h (fun z => if z = x then some (.int (i : Int) t) else if z = y then some (.str ⟨(W i).toArray⟩ tc) else m₀ z) → News h₀ env.locals h (news ++ own) →
      wpAny (model prog w) A (execs body env) (InvPostN h₀ env.locals (TxtJ news m₀ x y (W (i + 1))) own (news.map (·.1)) { s with heap := h, toks := tk } Q) E { s with heap := h, toks := tk })
    (done : ∀ (u : Str → Option Value) tc h tk, Fr h₀ env.locals h (fun z => if z = y then some (.str ⟨(W n).toArray⟩ tc) else if z = x then u z else m₀ z) → News h₀ env.locals h news → Q .next { s with heap := h, toks := tk }) :
    wpAny (model prog w) A (pyIter (.ref r)) (fun it s₂ => LoopAtV prog w A h₀ env x body Q E it s₂) E s := by
  subst hb
  refine wpAny_pyIter_range hr (small_one (by omega) (by omega) (by omega) (by omega)) ?_
  have hz : Builtin.Range.rangeSize 0 (n : Int) 1 = (n : Int) := by
    have := rangeSize_nat 0 (n : Int)
    simpa using this
  have Wk : Walks prog w A s.heap.objs.size [s.heap.objs.size] [s.heap.objs.size] n (fun i v => i < n ∧ ∃ t, v = .int (0 + i * 1) t)
      (fun i h => IsRangeIter h s.heap.objs.size (0 + (i : Nat) * 1) ((n : Int) - (i : Nat)) 1) := (Walks.range hh _ 0 1 n).bound
  refine loop_invN (fun i m nx => TxtJ news m₀ x y (W i) m nx) Wk ?_ ?_ ?_ ?_ (by show IsRangeIter _ _ _ _ _; rw [hz]; simpa using Heap.get?_push_size _ rfl) (F.push _) (fun p hp => ⟨Heap.get?_push_of_some _ (N p hp).1, (N p hp).2⟩) ⟨rfl, ⟨tc, hc⟩, fun _ _ _ => rfl⟩ ?_ ?_
  · intro hm
    exact absurd F.ns.lt ((List.mem_singleton.mp hm) ▸ Nat.lt_irrefl _)
  · intro b hb
    rw [List.mem_singleton.mp hb]
    exact next_is_new F
  · intro p hp hI
    exact absurd (Heap.lt_size (N p hp).1) ((List.mem_singleton.mp hI) ▸ Nat.lt_irrefl _)
  · intro p hp hI
    exact absurd (Heap.lt_size (N p hp).1) ((List.mem_singleton.mp hI) ▸ Nat.lt_irrefl _)
  · rintro i v m₁ nx h tk own hi ⟨_, t, rfl⟩ _ hoff ⟨rfl, ⟨tc', hc'⟩, hz'⟩ F₁ N₁
    have e1 : (0 : Int) + (i : Int) * 1 = (i : Int) := by omega
    rw [e1] at F₁
    refine turn i t tc' h tk own hi hoff ?_ N₁
    have e : (fun z => if z = x then some (Value.int (i : Int) t) else m₁ z) = fun z => if z = x then some (Value.int (i : Int) t) else if z = y then some (.str ⟨(W i).toArray⟩ tc') else m₀ z := by
      funext z
      by_cases h1 : z = x
      · rw [if_pos h1, if_pos h1]
      · rw [if_neg h1, if_neg h1]
        by_cases h2 : z = y
        · rw [if_pos h2, h2, hc']
        · rw [if_neg h2]
          exact hz' z h1 h2
    rw [e] at F₁
    exact F₁
  · rintro m₁ nx h tk ⟨rfl, ⟨tc', hc'⟩, hz'⟩ F₁ N₁
    rw [txt_frame hc' hz'] at F₁
    exact done m₁ tc' h tk F₁ N₁
theorem txt_end {L : Addr} {m₀ m' : Str → Option Value} {news own news' : List (Addr × Obj)} {x y : Str} {v : List Nat} {vs : Str} {tc : Tok} {s₁ : Shared} {h' : Heap} {tk : Nat} (F : Fr h₀ L h' m') (N : News h₀ L h' news') (hy : m' y = some (.str vs tc)) (hv : vs = ⟨v.toArray⟩)
    (hz : ∀ z, z ≠ x → z ≠ y → m' z = m₀ z) (hn : ∀ p ∈ news, p ∈ news') (ho : ∀ p ∈ own, p ∈ news') : InvEndN h₀ L (TxtJ news m₀ x y v) own (news.map (·.1)) s₁ { s₁ with heap := h', toks := tk } :=
  InvEndN.intro F N ⟨rfl, ⟨tc, hv ▸ hy⟩, hz⟩ rfl hn ho
end
end Mine
end
section
open PySem PySem.W PyProof.Rows PySem.Calls PyProof.V PySem.Spec
namespace Mine
section
variable {prog : Program} {w : World} {A : Around} {E : Value → Shared → Prop} {s : Shared} {env : Env} {h₀ : Heap} {L : Addr} {m : Str → Option Value}
theorem text_iterK {xt : Str} {tx : Tok} {R : Value → Shared → Prop}
    (hQ : ∀ (o : Obj) (ty : String), (∀ A' : Around, A'.handled = none → Walks prog w A' s.heap.objs.size [s.heap.objs.size] [s.heap.objs.size] xt.cps.size (SignAt xt) (fun i h => h.IsStrIter s.heap.objs.size ty xt tx i)) →
      (s.heap.push o).IsStrIter s.heap.objs.size ty xt tx 0 → R (.ref s.heap.objs.size) { s with heap := s.heap.push o }) :
    wpAny (model prog w) A (pyIter (.str xt tx)) R E s := by
  cases ha : xt.cps.all (· < 128)
  · exact wpAny_pyIter_wide ha (hQ _ _ (fun A' hA => Walks.strWide hA _ xt tx) ⟨_, Heap.get?_push_size _ rfl, rfl, rfl⟩)
  · exact wpAny_pyIter_ascii ha (hQ _ _ (fun A' hA => Walks.strAscii hA _ xt tx) ⟨_, Heap.get?_push_size _ rfl, rfl, rfl⟩)
/-- a comprehension over a text -/
def SrcS (prog : Program) (w : World) (A : Around) (h₀ : Heap) (L : Addr) (m : Str → Option Value) (env : Env) (elt : Expr) (x : Str) (scope : Scope) (cl : List (Str × Addr)) (Fin : Shared → List Value → List (Addr × Obj) → Prop) (xv : Value) (s₁ : Shared) : Prop :=
  ∃ xt tx news, xv = .str xt tx ∧ A.handled = none ∧ Fr h₀ L s₁.heap m ∧ News h₀ L s₁.heap news ∧ xt.cps.size ≤ sizeLine ∧
    ∀ s₂ : Shared, (∃ h, s₂ = { s₁ with heap := h }) → LCg.CompRest prog w A h₀ L m env elt x scope cl s₂ (fun _ => True) (SignAt xt) (Fin s₂) xt.cps.size 0 [] news
theorem ListComp_S {elt iter : Expr} {x : Str} {px : Pos} {scope : Scope} {cl : List (Str × Addr)} {pos : Pos} {Q : Value → Shared → Prop} (_F₀ : Fr h₀ L s.heap m)
    (hclos : closureFor scope env = pure cl) (hcell : ∀ y ∈ scope.names, y.2 ≠ .cell) (hkind : scope.kind = .function)
    (hnames : ∀ y ∈ scope.names, y.2 = .local → scope.names.lookup y.1 = some .local) (hx : scope.names.lookup x = some .local)
    (h : wpAny (model prog w) A (eval iter env) (SrcS prog w A h₀ L m env elt x scope cl (fun s₂ => LCg.FinE h₀ L m s₂ Q)) E s)
    (hs : ∀ x, foldedSetIterable iter env x = pure x := by intro _; rfl) :
    wpAny (model prog w) A (eval (.ListComp elt [⟨.Name x px, iter, [], 0⟩] scope pos) env) Q E s := by
  rw [eval_ListComp]
  refine wpAny_comprehension_free (use := none) rfl hs hclos hkind hnames (wpAny_mono h (fun xv s₁ h₁ => ?_) fun _ _ e => e)
  obtain ⟨xt, tx, news, rfl, hh, F, N, hsz, R⟩ := h₁
  refine text_iterK fun o ty hW hst => ?_
  refine LCg.block_U (hW A hh) hsz (fun i h st => by obtain ⟨o, e, _⟩ := st; exact ⟨o, e⟩) (S := fun _ => True) (fun i h h' o nw st e e' _ _ _ => by obtain ⟨o', q, r⟩ := st; rw [e] at q; cases q; exact ⟨o, e', r⟩) hcell hkind hx hst (fun b hb => ?_)
    (F.keeps fun _ _ e => Heap.get?_push_of_some _ e) (N.grown fun _ _ e => Heap.get?_push_of_some _ e) (Nat.ne_of_lt F.ns.lt) (next_is_new F) (fun p hp => Nat.ne_of_lt (Heap.lt_size (N p hp).1)) trivial (R _ ⟨_, rfl⟩) ?_
  · rw [List.mem_singleton.mp hb]
    show s₁.heap.objs.size < (s₁.heap.push _).objs.size
    rw [Heap.size_push]
    exact Nat.lt_succ_self _
  · intro D C h tk m' ys news' F' N' o1 hn hC₀ hD₀ hCL hDL hCD offC fin
    refine ⟨m', hn, fun h'' hs'' => fin D h'' tk (F'.change hs'' hCL hC₀) (fun p hp => ?_) o1⟩
    refine ⟨hs''.extBut _ _ ?_ (N' p hp).1, (N' p hp).2⟩
    rcases List.mem_cons.mp hp with rfl | hp
    · exact Ne.symm hCD
    · exact offC p hp
theorem signs_rest {elt : Expr} {x : Str} {scope : Scope} {cl : List (Str × Addr)} {Fin : List Value → List (Addr × Obj) → Prop} {news : List (Addr × Obj)} {l : List Nat} (g : Nat → Nat)
    (turn : ∀ c t I oI C oC D m₂ ys h tk (E' : Value → Shared → Prop), c ∈ l → LCg.NsObj oC m₂ → m₂ x = some (.str ⟨#[c]⟩ t) → Fr h₀ L h m → News h₀ L h ((I, oI) :: (C, oC) :: (D, LCg.lst ys) :: news) → LCg.Off3 I C D news → ((@Ne Nat I C) ∧ (@Ne Nat I D) ∧ (@Ne Nat C D)) →
      wpAny (model prog w) A (eval elt (compEnvC scope cl C env)) (LCg.CompEnd h₀ L m { s with heap := h, toks := tk } I oI C oC D (LCg.lst ys) (fun _ => True) (fun y news' => KCtEl news ⟨#[g c]⟩ y news')) E' { s with heap := h, toks := tk })
    (fin : ∀ ys, CarriedAll ys (l.map fun c => PyData.str ⟨#[g c]⟩) → Fin ys news) : LCg.CompRest prog w A h₀ L m env elt x scope cl s (fun _ => True) (SignAt ⟨l.toArray⟩) Fin l.length 0 [] news := by
  have key : ∀ (j i : Nat) (ys : List Value), i + j = l.length → StrsAre ys ((l.take i).map fun c => (⟨#[g c]⟩ : Str)) → LCg.CompRest prog w A h₀ L m env elt x scope cl s (fun _ => True) (SignAt ⟨l.toArray⟩) Fin j i ys news := by
    intro j
    induction j with
    | zero =>
      intro i ys hi hy
      have e : i = l.length := by omega
      subst e
      rw [List.take_length] at hy
      have hc := hy.carried
      rw [List.map_map] at hc
      exact LCg.CompRest.zero (fin ys hc)
    | succ j ih =>
      intro i ys hi hy
      refine LCg.CompRest.succ ?_
      intro v I oI C oC D m₂ h tk E' hv hC hx F N off ne
      obtain ⟨c, t, hk, rfl⟩ := hv
      have hk' : l[i]? = some c := by simpa using hk
      refine wpAny_mono (turn c t I oI C oC D m₂ ys h tk E' (List.mem_of_getElem? hk') hC hx F N off ne) (fun y s₂ hq => ?_) fun _ _ e => e
      obtain ⟨h', tk', nw, e, F', N', off', hS, hn, t', hy'⟩ := hq
      rw [hn] at N' off'
      refine ⟨h', tk', news, e, F', N', off', trivial, ?_⟩
      rw [hy']
      refine ih (i + 1) _ (by omega) ?_
      rw [List.take_add_one, hk']
      simpa using kct_snoc hy
  exact key l.length 0 [] (by omega) (by simp only [List.take_zero, List.map_nil]; exact .nil)
end
theorem join_go : ∀ l : List Nat, Str.join (⟨([] : List Nat).toArray⟩ : Str) (l.map fun c => (⟨#[c]⟩ : Str)) = ⟨l.toArray⟩
  | [] => rfl
  | [c] => rfl
  | c :: d :: r => by
    have ih := join_go (d :: r)
    show ((⟨[c].toArray⟩ : Str) ++ ⟨([] : List Nat).toArray⟩) ++ Str.join _ (((d :: r)).map fun c => (⟨#[c]⟩ : Str)) = _
    rw [ih, tx_append, tx_append]
    rfl
theorem join_text (l : List Nat) : Txt.join (Str.ofString "") (l.map fun c => (⟨#[c]⟩ : Str)) = ⟨l.toArray⟩ := by
  show Builtin.Str.glued (Str.ofString "") _ = _
  rw [StrLaws.glued_eq_join, tx_empty]
  exact join_go l
section
variable {prog : Program} {w : World} {A : Around} {E : Value → Shared → Prop} {s : Shared} {env : Env} {h₀ : Heap} {m₀ : Str → Option Value} {news : List (Addr × Obj)} {xi xc : Str} {body : List Stmt} {Q : Flow → Shared → Prop} {xv : Value}
/-- a loop over an enumerated text: x the counter's name, c the sign's; I: what holds of the ledger, V: what holds of the frame's other names -/
theorem pair_loop {as : List Str} (S : PairSrc prog w A E h₀ env ItemKind.str as xv s m₀ news) (J : Nat → (Str → Option Value) → List (Addr × Obj) → Prop) (h0 : J 0 m₀ news)
    (turn : ∀ (i : Nat) (a : Str) t t' m₁ nx h tk own, as[i]? = some a → J i m₁ nx → OwnOff own (nx.map (·.1)) → Fr h₀ env.locals h (fun y => if y = xc then some (.str a t') else if y = xi then some (.int (i : Int) t) else m₁ y) → News h₀ env.locals h (nx ++ own) →
      wpAny (model prog w) A (execs body env) (LoopStep3 h₀ env.locals own nx (J (i + 1)) { s with heap := h, toks := tk } (fun v s' => Q (.ret v) s') fun s' => Q .next s') E { s with heap := h, toks := tk })
    (done : ∀ h tk m' nx, Fr h₀ env.locals h m' → News h₀ env.locals h nx → nx.map (·.1) = news.map (·.1) → J as.length m' nx → Q .next { s with heap := h, toks := tk }) :
    wpAny (model prog w) A (pyIter xv) (fun it s₂ => PairAt3 prog w A h₀ env xi xc body Q E it s₂) E s := by
  refine S xi xc body Q J h0 ?_ ?_
  · rintro i a t v m₁ nx s₁ own ⟨h, tk, rfl⟩ ha hk hJ hadr hoff F N
    obtain ⟨t', rfl⟩ := ItemKind.str_is hk
    refine turn i a t t' m₁ nx h tk own ha hJ (fun p hp b hb => ?_) F fun p hp => N p ((List.mem_append.mp hp).elim (fun q => List.mem_append.mpr (.inr q)) fun q => List.mem_append.mpr (.inl q))
    rw [hadr] at hb
    obtain ⟨q, hq, rfl⟩ := List.mem_map.mp hb
    exact hoff p hp q hq
  · intro h tk m' nx F N hadr hJ
    exact done h tk m' nx F N hadr hJ
end
theorem pair_end {h₀ h' : Heap} {L : Addr} {own nx nx' news' : List (Addr × Obj)} {J : (Str → Option Value) → List (Addr × Obj) → Prop} {m' : Str → Option Value} {s₁ : Shared} {tk : Nat} {Qr : Value → Shared → Prop} {Qb : Shared → Prop} (F : Fr h₀ L h' m') (N : News h₀ L h' news')
    (hn : ∀ p ∈ nx', p ∈ news') (ho : ∀ p ∈ own, p ∈ news') (ha : nx'.map (·.1) = nx.map (·.1)) (hJ : J m' nx') : LoopStep3 h₀ L own nx J s₁ Qr Qb .next { s₁ with heap := h', toks := tk } :=
  ⟨rfl, h', tk, m', nx', rfl, F, fun p hp => N p ((List.mem_append.mp hp).elim (ho p) (hn p)), ha, hJ⟩
/-- the frame between the turns: three names stand apart -/
theorem frame_two {m₀ m₁ : Str → Option Value} {xi xc : Str} {v v' : Value} (hz : ∀ z, z ≠ xc → z ≠ xi → m₁ z = m₀ z) :
    (fun y => if y = xc then some v else if y = xi then some v' else m₁ y) = fun y => if y = xc then some v else if y = xi then some v' else m₀ y := by
  funext y
  by_cases h1 : y = xc
  · simp only [if_pos h1]
  · by_cases h2 : y = xi
    · simp only [if_neg h1, if_pos h2]
    · simp only [if_neg h1, if_neg h2]
      exact hz y h1 h2
theorem frame_two_out {m₀ m₁ : Str → Option Value} {xi xc : Str} (hz : ∀ z, z ≠ xc → z ≠ xi → m₁ z = m₀ z) :
    m₁ = fun y => if y = xc then m₁ y else if y = xi then m₁ y else m₀ y := by
  funext y
  by_cases h1 : y = xc
  · simp only [if_pos h1]
  · by_cases h2 : y = xi
    · simp only [if_neg h1, if_pos h2]
    · simp only [if_neg h1, if_neg h2]
      exact hz y h1 h2
end Mine
end
section
open PySem PySem.W PyProof.Rows PySem.Calls PyProof.V PySem.Spec
namespace Mine
section
variable {prog : Program} {w : World} {A : Around} {E : Value → Shared → Prop} {s : Shared} {env : Env} {h₀ : Heap} {x : Str} {body : List Stmt} {Q : Flow → Shared → Prop}
/-- an iterator over a text, with its object at hand -/
theorem text_iter {xt : Str} {tx : Tok} {R : Value → Shared → Prop}
    (hQ : ∀ (o : Obj) (St : Nat → Heap → Prop), (∀ A' : Around, A'.handled = none → Walks prog w A' s.heap.objs.size [s.heap.objs.size] [s.heap.objs.size] xt.cps.size (SignAt xt) St) → St 0 (s.heap.push o) →
      (∀ i h, St i h → ∃ o', h.get? s.heap.objs.size = some o') → R (.ref s.heap.objs.size) { s with heap := s.heap.push o }) :
    wpAny (model prog w) A (pyIter (.str xt tx)) R E s := by
  cases ha : xt.cps.all (· < 128)
  · exact wpAny_pyIter_wide ha (hQ _ _ (fun A' hA => Walks.strWide hA _ xt tx) ⟨_, Heap.get?_push_size _ rfl, rfl, rfl⟩ fun i h st => let ⟨o, ho, _⟩ := st; ⟨o, ho⟩)
  · exact wpAny_pyIter_ascii ha (hQ _ _ (fun A' hA => Walks.strAscii hA _ xt tx) ⟨_, Heap.get?_push_size _ rfl, rfl, rfl⟩ fun i h st => let ⟨o, ho, _⟩ := st; ⟨o, ho⟩)
set_option maxHeartbeats 3200000 in
/-- a loop over a text whose state holds data -/
theorem data_text {σ : Type} {xt : Str} {tx : Tok} {m₀ : Str → Option Value} {news : List (Addr × Obj)} (Led : σ → List (Addr × Obj)) (cst : List (Addr × Obj)) (ps : σ → List (Str × Value)) (Facts : List (Addr × Obj) → σ → Prop) (stored : List Str) (P : Nat → σ → Prop) (adr : List Addr) (c₀ : σ)
    (hh : A.handled = none) (F : Fr h₀ env.locals s.heap m₀) (N : News h₀ env.locals s.heap news) (hn : ∀ p ∈ Led c₀ ++ (cst ++ []), p ∈ news) (hadr : ∀ c, (Led c ++ cst).map (·.1) = adr) (hf : Facts (cst ++ []) c₀) (hk : ∀ p ∈ ps c₀, m₀ p.1 = some p.2) (hp : P 0 c₀)
    (turn : ∀ (c : σ) tl (i : Nat) (n : Nat) t (u : Str → Option Value) h tk own, xt.cps[i]? = some n → KdSep own tl adr → OwnOff (tl ++ own) adr → Facts (cst ++ tl) c → P i c →
      Fr h₀ env.locals h (fun y => if y = x then some (.str ⟨#[n]⟩ t) else kstB (fun z => if stored.contains z then u z else m₀ z) (ps c) y) → News h₀ env.locals h (Led c ++ (cst ++ (tl ++ own))) →
      wpAny (model prog w) A (execs body env) (InvPostG h₀ env.locals (KdS Led cst ps Facts x stored m₀ P adr (i + 1)) own { s with heap := h, toks := tk } Q) E { s with heap := h, toks := tk })
    (done : ∀ (c : σ) tl (u : Str → Option Value) h tk, OwnOff tl adr → Facts (cst ++ tl) c → P xt.cps.size c → Fr h₀ env.locals h (fun y => if y = x then u y else kstB (fun z => if stored.contains z then u z else m₀ z) (ps c) y) → News h₀ env.locals h (Led c ++ (cst ++ tl)) → Q .next { s with heap := h, toks := tk }) :
    wpAny (model prog w) A (pyIter (.str xt tx)) (fun it s₂ => LoopAtV prog w A h₀ env x body Q E it s₂) E s := by
  refine text_iter fun o St hW hst hob => ?_
  refine kdr_loop (fun i m nx => KdS Led cst ps Facts x stored m₀ P adr i m nx) (hW A hh) (fun _ h => h) (fun _ h => h) ?_ ?_ ?_ ?_ hst (F.push _) (fun p hp => ⟨Heap.get?_push_of_some _ (N p (hn p hp)).1, (N p (hn p hp)).2⟩) ⟨c₀, [], rfl, fun _ hp => (nomatch hp), hf, hk, fun _ _ _ _ => rfl, hp⟩ ?_ ?_
  · intro i h hi b hb
    rw [List.mem_singleton.mp hb]
    exact hob i h hi
  · intro hm
    exact absurd F.ns.lt ((List.mem_singleton.mp hm) ▸ Nat.lt_irrefl _)
  · intro b hb
    rw [List.mem_singleton.mp hb]
    exact next_is_new F
  · intro p hp hI
    exact absurd (Heap.lt_size (N p (hn p hp)).1) ((List.mem_singleton.mp hI) ▸ Nat.lt_irrefl _)
  · rintro i v m₁ nx h tk own hi ⟨n, u, hn', rfl⟩ hoff ⟨c, tl, rfl, ht, hf', h1, h2, hp'⟩ F₁ N₁
    obtain ⟨o1, o2⟩ := kd_split (hadr c) hoff
    rw [List.append_assoc, List.append_assoc] at N₁
    exact turn c tl i n u m₁ h tk own hn' ⟨o1, o2, ht⟩ (kd_off o1 ht) hf' hp' (kst_fr h1 h2 F₁) N₁
  · rintro m₁ nx h tk ⟨c, tl, rfl, ht, hf', h1, h2, hp'⟩ F₁ N₁
    exact done c tl m₁ h tk ht hf' hp' (kst_frOut h1 h2 F₁) N₁
end
end Mine
end
section
open PySem PySem.W PyProof.Rows PySem.Calls PyProof.V PySem.Spec
namespace Mine
def tieD (t : Tie) : Dat := .list [.tuple [.int t.1.1, .int t.1.2], .tuple [.int t.2.1, .int t.2.2]]
abbrev St := Value × Int × Int × Int × Tok × List Value × List Tie × Nat
/-- what holds ahead of the turn i -/
def Word (lc : List Nat) (X Y : Int) (i : Nat) : St → Prop
  | (_, x, y, w, _, _, T, _) => (0 ≤ w ∧ w < 4) ∧ T.length = i ∧ (-(i : Int) ≤ x ∧ x ≤ i) ∧ (-(i : Int) ≤ y ∧ y ≤ i) ∧ go (lc.drop i) x y w T = some (X, Y)
def Known (L : List (Addr × Obj)) : St → Prop
  | (v, x, y, _, _, xs, T, _) => DatIn L v (.tuple [.int x, .int y]) ∧ DatAll L xs (T.map tieD)
def LedOf (aT : Addr) : St → List (Addr × Obj)
  | (_, _, _, _, _, xs, _, k) => [(aT, listOf xs.toArray k)]
def PsOf : St → List (Str × Value)
  | (v, _, _, w, tw, _, _, _) => [(Str.ofString "at", v), (Str.ofString "way", .int w tw)]
def names2 : List Str := [Str.ofString "to", Str.ofString "tie"]
section
variable {prog : Program} {w : World} {A : Around} {E : Value → Shared → Prop} {s : Shared} {env : Env} {h₀ : Heap} {body : List Stmt} {Q : Flow → Shared → Prop}
theorem dist_loop {q : Addr × Obj} {aT : Addr} {cst : List (Addr × Obj)} {m₀ : Str → Option Value} {vA : Value} {tw : Tok} {xt : Str} {tx : Tok} (lc : List Nat) (X Y : Int)
    (hx : xt.cps = lc.toArray) (hgo : go lc 0 0 0 [] = some (X, Y)) (hh : A.handled = none) (F : Fr h₀ env.locals s.heap m₀) (N : News h₀ env.locals s.heap (q :: (aT, listOf #[] 0) :: cst))
    (hA : m₀ (Str.ofString "at") = some vA) (hW : m₀ (Str.ofString "way") = some (.int 0 tw)) (hD : DatIn cst vA (.tuple [.int 0, .int 0]))
    (turn : ∀ (aA : Addr) (x y w : Int) (t1 t2 tw : Tok) (nA : Nat) (xs : List Value) (T : List Tie) (k : Nat) tl (i : Nat) (n : Nat) t (u : Str → Option Value) h tk own, lc[i]? = some n → KdSep own tl (aT :: cst.map (·.1)) → OwnOff (tl ++ own) (aT :: cst.map (·.1)) →
      (aA, ({ cls := .type "tuple", data := .seq #[.int x t1, .int y t2] nA } : Obj)) ∈ cst ++ tl → @Ne Nat aA aT → DatAll (cst ++ tl) xs (T.map tieD) → Word lc X Y i (.ref aA, x, y, w, tw, xs, T, k) →
      Fr h₀ env.locals h (fun z => if z = Str.ofString "crease" then some (.str ⟨#[n]⟩ t) else if z = Str.ofString "at" then some (.ref aA) else if z = Str.ofString "way" then some (.int w tw) else if z = Str.ofString "to" then u z else if z = Str.ofString "tie" then u z else m₀ z) → News h₀ env.locals h ((aA, ({ cls := .type "tuple", data := .seq #[.int x t1, .int y t2] nA } : Obj)) :: (aT, listOf xs.toArray k) :: (cst ++ (tl ++ own))) →
      wpAny (model prog w₀) A (execs body env) (InvPostG h₀ env.locals (KdS (LedOf aT) cst PsOf Known (Str.ofString "crease") names2 m₀ (Word lc X Y) (aT :: cst.map (·.1)) (i + 1)) own { s with heap := h, toks := tk } Q) E { s with heap := h, toks := tk })
    (done : ∀ (aA : Addr) (x y w : Int) (t1 t2 tw : Tok) (nA : Nat) (xs : List Value) (k : Nat) tl (u : Str → Option Value) h tk, x = X → y = Y → (-(lc.length : Int) ≤ x ∧ x ≤ lc.length) → (-(lc.length : Int) ≤ y ∧ y ≤ lc.length) →
      Fr h₀ env.locals h (fun z => if z = Str.ofString "crease" then u z else if z = Str.ofString "at" then some (.ref aA) else if z = Str.ofString "way" then some (.int w tw) else if z = Str.ofString "to" then u z else if z = Str.ofString "tie" then u z else m₀ z) → News h₀ env.locals h ((aA, ({ cls := .type "tuple", data := .seq #[.int x t1, .int y t2] nA } : Obj)) :: (aT, listOf xs.toArray k) :: (cst ++ tl)) → Q .next { s with heap := h, toks := tk }) :
    wpAny (model prog w₀) A (pyIter (.str xt tx)) (fun it s₂ => LoopAtV prog w₀ A h₀ env (Str.ofString "crease") body Q E it s₂) E s := by
  have frm : ∀ (u : Str → Option Value) (c : St), kstB (fun z => if names2.contains z then u z else m₀ z) (PsOf c) = fun z => if z = Str.ofString "at" then some c.1 else if z = Str.ofString "way" then some (.int c.2.2.2.1 c.2.2.2.2.1) else if z = Str.ofString "to" then u z else if z = Str.ofString "tie" then u z else m₀ z := by
    rintro u ⟨v, x, y, w, tw, xs, T, k⟩
    funext z
    simp only [PsOf, kstB, names2, List.contains_cons, List.contains_nil, Bool.or_false, Bool.or_eq_true, beq_iff_eq]
    by_cases h1 : z = Str.ofString "to"
    · simp [h1]
    · by_cases h2 : z = Str.ofString "tie" <;> simp [h1, h2]
  refine data_text (LedOf aT) cst PsOf Known names2 (Word lc X Y) (aT :: cst.map (·.1)) (vA, 0, 0, 0, tw, [], [], 0) hh F N ?_ ?_ ?_ ?_ ?_ ?_ ?_
  · intro p hp
    simp only [LedOf, List.append_nil, List.cons_append, List.nil_append] at hp
    exact .tail _ hp
  · rintro ⟨v, x, y, w, tw, xs, T, k⟩
    rfl
  · rw [List.append_nil]
    exact ⟨hD, .nil⟩
  · intro p hp
    simp only [PsOf, List.mem_cons, List.not_mem_nil, or_false] at hp
    rcases hp with rfl | rfl
    · exact hA
    · exact hW
  · exact ⟨⟨by decide, by decide⟩, rfl, ⟨by decide, by decide⟩, ⟨by decide, by decide⟩, by rw [List.drop_zero]; exact hgo⟩
  · rintro ⟨v, x, y, w, tw, xs, T, k⟩ tl i n t u h tk own hn h1 h2 hf hp F₁ N₁
    rw [frm] at F₁
    rw [hx] at hn
    obtain ⟨hD, hX⟩ := hf
    cases hD with
    | tuple hm r =>
      rename_i aA vs nA
      cases r with
      | cons r1 r =>
        cases r1 with
        | int _ t1 =>
          cases r with
          | cons r2 r =>
            cases r2 with
            | int _ t2 =>
              cases r
              have hin : (aA, ({ cls := .type "tuple", data := .seq #[.int x t1, .int y t2] nA } : Obj)) ∈ LedOf aT (Value.ref aA, x, y, w, tw, xs, T, k) ++ (cst ++ (tl ++ own)) :=
                List.mem_append.mpr (.inr ((List.mem_append.mp hm).elim (fun q => List.mem_append.mpr (.inl q)) fun q => List.mem_append.mpr (.inr (List.mem_append.mpr (.inl q)))))
              have hne : aA ≠ aT := N₁.twoPlaces hin (List.mem_append.mpr (.inl (.head _))) (fun e => absurd (Value.type.inj (congrArg Obj.cls e)) (by decide))
              exact turn aA x y w t1 t2 tw nA xs T k tl i n t u h tk own (by simpa using hn) h1 h2 hm hne hX hp F₁ (List.forall_mem_cons.mpr ⟨N₁ _ hin, N₁⟩)
  · rintro ⟨v, x, y, w, tw, xs, T, k⟩ tl u h tk h2 hf hp F₁ N₁
    rw [frm] at F₁
    rw [hx] at hp
    obtain ⟨-, -, hX, hY, hg⟩ := hp
    have e : lc.toArray.size = lc.length := List.size_toArray
    rw [e] at hX hY hg
    rw [List.drop_length, go, Option.some.injEq, Prod.mk.injEq] at hg
    obtain ⟨hD, -⟩ := hf
    cases hD with
    | tuple hm r =>
      rename_i aA vs nA
      cases r with
      | cons r1 r =>
        cases r1 with
        | int _ t1 =>
          cases r with
          | cons r2 r =>
            cases r2 with
            | int _ t2 =>
              cases r
              have hin : (aA, ({ cls := .type "tuple", data := .seq #[.int x t1, .int y t2] nA } : Obj)) ∈ LedOf aT (Value.ref aA, x, y, w, tw, xs, T, k) ++ (cst ++ tl) := List.mem_append.mpr (.inr hm)
              exact done aA x y w t1 t2 tw nA xs k tl u h tk hg.1 hg.2 hX hY F₁ (List.forall_mem_cons.mpr ⟨N₁ _ hin, N₁⟩)
end
theorem free_tie {lc : List Nat} {i n : Nat} {x y w : Int} {T : List Tie} {X Y : Int} (hn : lc[i]? = some n) (hg : go (lc.drop i) x y w T = some (X, Y)) :
    tieOf x y w ∉ T ∧ go (lc.drop (i + 1)) (x + dirX w) (y + dirY w) (turned w n) (T ++ [tieOf x y w]) = some (X, Y) := by
  obtain ⟨hi, e⟩ := List.getElem?_eq_some_iff.mp hn
  rw [List.drop_eq_getElem_cons hi, e, go] at hg
  split at hg
  · cases hg
  · rename_i h
    exact ⟨h, hg⟩
theorem tieD_inj {a b : Tie} (h : tieD a = tieD b) : a = b := by
  obtain ⟨⟨a1, a2⟩, ⟨a3, a4⟩⟩ := a
  obtain ⟨⟨b1, b2⟩, ⟨b3, b4⟩⟩ := b
  simp only [tieD, Dat.list.injEq, List.cons.injEq, Dat.tuple.injEq, Dat.int.injEq, and_true] at h
  obtain ⟨⟨h1, h2⟩, h3, h4⟩ := h
  subst h1 h2 h3 h4
  rfl
theorem tie_off {t : Tie} {T : List Tie} (h : t ∉ T) : tieD t ∉ T.map tieD := fun hm => by
  obtain ⟨u, hu, e⟩ := List.mem_map.mp hm
  exact h (tieD_inj e ▸ hu)
section
variable {prog : Program} {w : World} {A : Around} {E : Value → Shared → Prop} {s : Shared} {h₀ : Heap} {L a : Addr} {news n₁ n₂ : List (Addr × Obj)} {oa : Obj} {xs : List Value} {ka : Nat} {ds : List Dat} {x : Value} {d : Dat} {Q : Value → Shared → Prop}
/-- a datum that is known not to lie in a list of data -/
theorem in_free (N : News h₀ L s.heap news) (ma : (a, oa) ∈ news) (ca : oa.cls = .type "list") (da : oa.data = .seq xs.toArray ka) (Da : DatAll n₁ xs ds) (sa : ∀ p ∈ n₁, p ∈ news)
    (Dx : DatIn n₂ x d) (sx : ∀ p ∈ n₂, p ∈ news) (ha : ∀ d ∈ ds, kqdOk 8 d = true) (hd : kqdOk 8 d = true) (hu : A.units + 64 < cLine) (hF : ¬ d ∈ ds) (h : Q (.bool false) s) : wpAny (model prog w) A (compareOp .In x (.ref a)) Q E s :=
  have e : ∀ inst : Decidable (d ∈ ds), @decide (d ∈ ds) inst = false := fun inst => @decide_eq_false _ inst hF
  kqd_isIn N ma ca da Da sa Dx sx ha hd hu (by rw [e]; exact h)
end
theorem tie_ok (T : List Tie) : ∀ d ∈ T.map tieD, kqdOk 8 d = true := by
  intro d hd
  obtain ⟨t, _, rfl⟩ := List.mem_map.mp hd
  rfl
theorem tie0 (x y : Int) : tieOf x y 0 = ((x, y), (x + 1, y + 0)) := by simp [tieOf, dirX, dirY]
theorem tie1 (x y : Int) : tieOf x y 1 = ((x, y), (x + 0, y + 1)) := by simp [tieOf, dirX, dirY]
theorem tie2 (x y : Int) : tieOf x y 2 = ((x + -1, y + 0), (x, y)) := by simp [tieOf, dirX, dirY]
theorem tie3 (x y : Int) : tieOf x y 3 = ((x + 0, y + -1), (x, y)) := by simp [tieOf, dirX, dirY]
theorem is_one {n : Nat} (h : ((⟨#[n]⟩ : Str) == Str.ofString "1") = true) : n = 49 := by
  have e : (⟨#[n]⟩ : Str) = ⟨#[49]⟩ := (beq_iff_eq.mp h).trans (by decide +kernel)
  have e2 : (#[n] : Array Nat) = #[49] := congrArg Str.cps e
  simpa using e2
theorem not_one {n : Nat} (h : ((⟨#[n]⟩ : Str) == Str.ofString "1") = false) : n ≠ 49 := by
  intro e
  subst e
  exact absurd (h.symm.trans (by decide +kernel : ((⟨#[49]⟩ : Str) == Str.ofString "1") = true)) Bool.false_ne_true
/-- the word behind a turn -/
theorem word_next {lc : List Nat} {X Y : Int} {i n : Nat} {x y w x' y' w' : Int} {T : List Tie} {t : Tie} {v v' : Value} {tw tw' : Tok} {xs xs' : List Value} {k k' : Nat}
    (hP : Word lc X Y i (v, x, y, w, tw, xs, T, k)) (hn : lc[i]? = some n) (ht : t = tieOf x y w) (hx : x' = x + dirX w) (hy : y' = y + dirY w) (hw : w' = turned w n) :
    Word lc X Y (i + 1) (v', x', y', w', tw', xs', T ++ [t], k') := by
  obtain ⟨h0, hT, hX, hY, hg⟩ := hP
  subst ht hx hy hw
  have hdx : -1 ≤ dirX w ∧ dirX w ≤ 1 := by unfold dirX; split <;> (try split) <;> decide
  have hdy : -1 ≤ dirY w ∧ dirY w ≤ 1 := by unfold dirY; split <;> (try split) <;> decide
  refine ⟨⟨?_, ?_⟩, by rw [List.length_append, List.length_singleton, hT], ⟨by omega, by omega⟩, ⟨by omega, by omega⟩, (free_tie hn hg).2⟩
  · unfold turned; omega
  · unfold turned; omega
section
variable {h₀ h' : Heap} {L aT aA aTie aTo : Addr} {cst tl own : List (Addr × Obj)} {m₀ m' : Str → Option Value} {q0 q1 : Addr × Obj} {oA oT : Obj} {xs : List Value} {k c nA nT : Nat} {x y x' y' w' : Int} {t1 t2 s1 s2 tw' : Tok} {T : List Tie} {t : Tie} {lc : List Nat} {X Y : Int} {i : Nat} {s₁ : Shared} {tk : Nat} {vT : List Value}
theorem dist_end (hs : KdSep own tl (aT :: cst.map (·.1))) (F : Fr h₀ L h' m')
    (N : News h₀ L h' (q0 :: (aTie, listOf vT.toArray c) :: q1 :: (aTo, ({ cls := .type "tuple", data := .seq #[.int x' s1, .int y' s2] nT } : Obj)) :: (aA, oA) :: (aT, listOf (xs.toArray.push (.ref aTie)) (k + 1)) :: (cst ++ (tl ++ own))))
    (l1 : AllLt aTo ((aA, oA) :: (aT, oT) :: (cst ++ (tl ++ own)))) (l2 : AllLt aTie (q1 :: (aTo, oT) :: (aA, oA) :: (aT, oT) :: (cst ++ (tl ++ own))))
    (hAt : m' (Str.ofString "at") = some (.ref aTo)) (hWay : m' (Str.ofString "way") = some (.int w' tw')) (hrest : ∀ z, z ≠ Str.ofString "crease" → z ≠ Str.ofString "at" → z ≠ Str.ofString "way" → z ≠ Str.ofString "to" → z ≠ Str.ofString "tie" → m' z = m₀ z)
    (hX : DatAll (cst ++ tl) xs (T.map tieD))
    (hV : DatAll (cst ++ ([(aTie, listOf vT.toArray c), (aTo, ({ cls := .type "tuple", data := .seq #[.int x' s1, .int y' s2] nT } : Obj))] ++ tl)) vT [.tuple [.int t.1.1, .int t.1.2], .tuple [.int t.2.1, .int t.2.2]])
    (hW : Word lc X Y (i + 1) (.ref aTo, x', y', w', tw', xs ++ [.ref aTie], T ++ [t], k + 1)) :
    InvEndG h₀ L (KdS (LedOf aT) cst PsOf Known (Str.ofString "crease") names2 m₀ (Word lc X Y) (aT :: cst.map (·.1)) (i + 1)) own s₁ { s₁ with heap := h', toks := tk } := by
  have b1 := ktn_ltOf l1
  have b2 := ktn_ltOf l2
  have hin1 : (aTie, listOf vT.toArray c) ∈ cst ++ ([(aTie, listOf vT.toArray c), (aTo, ({ cls := .type "tuple", data := .seq #[.int x' s1, .int y' s2] nT } : Obj))] ++ tl) :=
    List.mem_append.mpr (.inr (.head _))
  have hin2 : (aTo, ({ cls := .type "tuple", data := .seq #[.int x' s1, .int y' s2] nT } : Obj)) ∈ cst ++ ([(aTie, listOf vT.toArray c), (aTo, ({ cls := .type "tuple", data := .seq #[.int x' s1, .int y' s2] nT } : Obj))] ++ tl) :=
    List.mem_append.mpr (.inr (.tail _ (.head _)))
  have hsub : ∀ p ∈ cst ++ tl, p ∈ cst ++ ([(aTie, listOf vT.toArray c), (aTo, ({ cls := .type "tuple", data := .seq #[.int x' s1, .int y' s2] nT } : Obj))] ++ tl) := kd_sub
  refine kd_end (Led := LedOf aT) (ps := PsOf) (Facts := Known) (P := Word lc X Y) (adr := aT :: cst.map (·.1)) (.ref aTo, x', y', w', tw', xs ++ [.ref aTie], T ++ [t], k + 1) [(aTie, listOf vT.toArray c), (aTo, ({ cls := .type "tuple", data := .seq #[.int x' s1, .int y' s2] nT } : Obj))] (tl := tl) hs F N ?_ ?_ rfl ?_ ?_ ?_ ?_ ⟨?_, ?_⟩ hW
  · intro p hp
    have e : (xs ++ [Value.ref aTie]).toArray = xs.toArray.push (.ref aTie) := by simp
    simp only [LedOf, e, List.cons_append, List.nil_append, List.mem_cons, List.mem_append] at hp ⊢
    rcases hp with h | h | h | h | h
    · exact .inr (.inr (.inr (.inr (.inr (.inl h)))))
    · exact .inr (.inr (.inr (.inr (.inr (.inr (.inl h))))))
    · exact .inr (.inl h)
    · exact .inr (.inr (.inr (.inl h)))
    · exact .inr (.inr (.inr (.inr (.inr (.inr (.inr (.inl h)))))))
  · intro p hp
    exact .tail _ (.tail _ (.tail _ (.tail _ (.tail _ (.tail _ (List.mem_append.mpr (.inr (List.mem_append.mpr (.inr hp)))))))))
  · intro q hq b hb
    have hb' : b = aT ∨ ∃ p ∈ cst, p.1 = b := by
      rcases List.mem_cons.mp hb with e | hb
      · exact .inl e
      · obtain ⟨p, hp, e⟩ := List.mem_map.mp hb
        exact .inr ⟨p, hp, e⟩
    simp only [List.mem_cons, List.not_mem_nil, or_false] at hq
    rcases hq with rfl | rfl
    · rcases hb' with rfl | ⟨p, hp, rfl⟩
      · exact Nat.ne_of_lt (b2 _ (.tail _ (.tail _ (.tail _ (.head _)))))
      · exact Nat.ne_of_lt (b2 p (.tail _ (.tail _ (.tail _ (.tail _ (List.mem_append.mpr (.inl hp)))))))
    · rcases hb' with rfl | ⟨p, hp, rfl⟩
      · exact Nat.ne_of_lt (b1 _ (.tail _ (.head _)))
      · exact Nat.ne_of_lt (b1 p (.tail _ (.tail _ (List.mem_append.mpr (.inl hp)))))
  · intro q hq p hp
    simp only [List.mem_cons, List.not_mem_nil, or_false] at hq
    rcases hq with rfl | rfl
    · exact Nat.ne_of_lt (b2 p (.tail _ (.tail _ (.tail _ (.tail _ (List.mem_append.mpr (.inr (List.mem_append.mpr (.inr hp)))))))))
    · exact Nat.ne_of_lt (b1 p (.tail _ (.tail _ (List.mem_append.mpr (.inr (List.mem_append.mpr (.inr hp)))))))
  · intro p hp
    simp only [PsOf, List.mem_cons, List.not_mem_nil, or_false] at hp
    rcases hp with rfl | rfl
    · exact hAt
    · exact hWay
  · intro z hz hp hc
    have ha := hp (Str.ofString "at", .ref aTo) (.head _)
    have hw := hp (Str.ofString "way", .int w' tw') (.tail _ (.head _))
    have h2 : ¬ (z = Str.ofString "to" ∨ z = Str.ofString "tie") := by
      intro e
      have : names2.contains z = true := by
        simp only [names2, List.contains_cons, List.contains_nil, Bool.or_false, Bool.or_eq_true, beq_iff_eq]
        exact e
      rw [hc] at this
      cases this
    exact hrest z hz ha hw (fun e => h2 (.inl e)) fun e => h2 (.inr e)
  · exact DatIn.tuple hin2 (.cons (.int _ _) (.cons (.int _ _) .nil))
  · rw [List.map_append]
    exact DatAll.append (DatAll.mono hsub hX) (.one (DatIn.list hin1 hV))
theorem dist_endA (hs : KdSep own tl (aT :: cst.map (·.1))) (F : Fr h₀ L h' m')
    (N : News h₀ L h' (q0 :: (aTie, listOf #[.ref aA, .ref aTo] c) :: q1 :: (aTo, ({ cls := .type "tuple", data := .seq #[.int x' s1, .int y' s2] nT } : Obj)) :: (aA, oA) :: (aT, listOf (xs.toArray.push (.ref aTie)) (k + 1)) :: (cst ++ (tl ++ own))))
    (l1 : AllLt aTo ((aA, oA) :: (aT, oT) :: (cst ++ (tl ++ own)))) (l2 : AllLt aTie (q1 :: (aTo, oT) :: (aA, oA) :: (aT, oT) :: (cst ++ (tl ++ own))))
    (hAt : m' (Str.ofString "at") = some (.ref aTo)) (hWay : m' (Str.ofString "way") = some (.int w' tw')) (hrest : ∀ z, z ≠ Str.ofString "crease" → z ≠ Str.ofString "at" → z ≠ Str.ofString "way" → z ≠ Str.ofString "to" → z ≠ Str.ofString "tie" → m' z = m₀ z)
    (hX : DatAll (cst ++ tl) xs (T.map tieD)) (hm : (aA, ({ cls := .type "tuple", data := .seq #[.int x t1, .int y t2] nA } : Obj)) ∈ cst ++ tl)
    (hW : Word lc X Y (i + 1) (.ref aTo, x', y', w', tw', xs ++ [.ref aTie], T ++ [((x, y), (x', y'))], k + 1)) :
    InvEndG h₀ L (KdS (LedOf aT) cst PsOf Known (Str.ofString "crease") names2 m₀ (Word lc X Y) (aT :: cst.map (·.1)) (i + 1)) own s₁ { s₁ with heap := h', toks := tk } := by
  refine dist_end (vT := [.ref aA, .ref aTo]) (t := ((x, y), (x', y'))) hs F N l1 l2 hAt hWay hrest hX ?_ hW
  exact .cons (DatIn.tuple (kd_sub _ hm) (.cons (.int _ _) (.cons (.int _ _) .nil))) (.cons (DatIn.tuple (List.mem_append.mpr (.inr (.tail _ (.head _)))) (.cons (.int _ _) (.cons (.int _ _) .nil))) .nil)
theorem dist_endB (hs : KdSep own tl (aT :: cst.map (·.1))) (F : Fr h₀ L h' m')
    (N : News h₀ L h' (q0 :: (aTie, listOf #[.ref aTo, .ref aA] c) :: q1 :: (aTo, ({ cls := .type "tuple", data := .seq #[.int x' s1, .int y' s2] nT } : Obj)) :: (aA, oA) :: (aT, listOf (xs.toArray.push (.ref aTie)) (k + 1)) :: (cst ++ (tl ++ own))))
    (l1 : AllLt aTo ((aA, oA) :: (aT, oT) :: (cst ++ (tl ++ own)))) (l2 : AllLt aTie (q1 :: (aTo, oT) :: (aA, oA) :: (aT, oT) :: (cst ++ (tl ++ own))))
    (hAt : m' (Str.ofString "at") = some (.ref aTo)) (hWay : m' (Str.ofString "way") = some (.int w' tw')) (hrest : ∀ z, z ≠ Str.ofString "crease" → z ≠ Str.ofString "at" → z ≠ Str.ofString "way" → z ≠ Str.ofString "to" → z ≠ Str.ofString "tie" → m' z = m₀ z)
    (hX : DatAll (cst ++ tl) xs (T.map tieD)) (hm : (aA, ({ cls := .type "tuple", data := .seq #[.int x t1, .int y t2] nA } : Obj)) ∈ cst ++ tl)
    (hW : Word lc X Y (i + 1) (.ref aTo, x', y', w', tw', xs ++ [.ref aTie], T ++ [((x', y'), (x, y))], k + 1)) :
    InvEndG h₀ L (KdS (LedOf aT) cst PsOf Known (Str.ofString "crease") names2 m₀ (Word lc X Y) (aT :: cst.map (·.1)) (i + 1)) own s₁ { s₁ with heap := h', toks := tk } := by
  refine dist_end (vT := [.ref aTo, .ref aA]) (t := ((x', y'), (x, y))) hs F N l1 l2 hAt hWay hrest hX ?_ hW
  exact .cons (DatIn.tuple (List.mem_append.mpr (.inr (.tail _ (.head _)))) (.cons (.int _ _) (.cons (.int _ _) .nil))) (.cons (DatIn.tuple (kd_sub _ hm) (.cons (.int _ _) (.cons (.int _ _) .nil))) .nil)
end
theorem cps_zero (l : List Nat) : ((⟨l.toArray⟩ : Str) ++ Str.ofString "0").cps = (l ++ [48]).toArray := by
  rw [Str.cps_append, show (Str.ofString "0") = ⟨#[48]⟩ from by decide +kernel]
  simp
end Mine
end
section
open PySem PySem.W PyProof.Rows PySem.Calls PyProof.V PySem.Spec
namespace Mine
local macro_rules | `(tactic| walk_at "subscriptTail Name Name ref int") => `(tactic| (k_here; (with_reducible show wpAny _ _ (subscriptTail _ _ (Value.ref _) (Value.int _ _)) _ _ _); (with_unfolding_all refine' item_litK ?k1 ?k2 ?k3 ?k4 ?_ ?k6; (case k1 => is_list); (case k2 => decide); (case k3 => decide); (case k4 => rfl); (case k6 => with_unfolding_all rfl); k_whole)))
local macro_rules | `(tactic| walk_at "call builtin:sorted") => `(tactic| (k_here; (with_reducible show wpAny _ _ (call (Value.builtin _) [Value.ref _]) _ _ _); (with_unfolding_all refine' kat_sorted ?k1 ?k2 ?k3 ?k4 ?k5 ?_; (case k1 => k_asm); (case k2 => k_asm); (case k3 => kso_list); (case k4 => exact Nat.le_of_ble_eq_true rfl); (case k5 => exact Nat.le_of_ble_eq_true rfl); k_whole); intro D' e' h' F' N' l1; (try k_lt l1); (try k_sweep); kat_kinds))
local macro_rules | `(tactic| walk_at "compareOp In ref ref") => `(tactic| (k_here; (with_reducible show wpAny _ _ (compareOp CmpOp.In _ (Value.ref _)) _ _ _); (refine' in_free ?N ?a ?b ?c ?d ?e ?x (fun _ h => h) ?l ?m ?n ?f ?_; (case N => k_asm); (case a => k_mem); (case b => rfl); (case c => rfl); (case d => with_reducible assumption); (case e => kqd_sub); (case x => kqd_in); (case l => exact tie_ok _); (case m => rfl); (case n => ktr_units); (case f => assumption); k_whole)))
local macro_rules | `(tactic| walk_at "KasNext") => `(tactic| (exfalso; omega))
local macro_rules | `(tactic| walk_at "KatGo") => `(tactic| (exfalso; omega))
local macro_rules | `(tactic| walk_at "KatLex") => `(tactic| (exfalso; omega))
local macro_rules | `(tactic| walk_at "kasWp") => `(tactic| (exfalso; omega))
local macro_rules | `(tactic| walk_at "KasFin") => `(tactic| (exfalso; omega))
local macro_rules | `(tactic| walk_at "exec For Name BinOp cons nil") => `(tactic| (k_here; (rename Fr _ _ _ _ => lF'); (with_unfolding_all refine' For_invVF lF' ?k1 ?k2 ?_; (case k1 => exact rfl); (case k2 => exact rfl); k_whole)))
set_option maxRecDepth 100000 in
set_option maxHeartbeats 8000000 in
theorem dist_claim (w : World) (mean : ExcName → Option Value) (mg mb : Str → Option Value) (news : List (Addr × Obj)) (l : List Nat) (t : Tok) (X Y : Int) :
    Clm w mean mg mb 134 news (l.length ≤ 31 ∧ Bits l ∧ go (l ++ [48]) 0 0 0 [] = some (X, Y)) 10 [.str ⟨l.toArray⟩ t] (fun t => .int (X * X + Y * Y) t) := by
  w_top off
  dsimp only [Clm]
  k_fill
  dsimp only [CbRec, CbLists, CbRet]
  intro dp un gd cn cs a ccd cl outer A₀ base h₀ L m s Q E B F KX N T hcs hpre hdp hun hret
  refine wpAny_call ?_
  k_dflt cell_enter
  k_steps
  obtain ⟨hl, hb, hg⟩ := hpre
  rename Fr _ _ _ _ => lF
  rename News _ _ _ _ => lN
  refine dist_loop (l ++ [48]) X Y ?hx hg (by rfl) lF lN (by rfl) (by rfl) ?hD ?turn ?done
  case hx => exact cps_zero l
  case hD => exact DatIn.tuple (by k_mem) (by kqd_all)
  case turn =>
    intro aA x y w t1 t2 tw nA xs T k tl i n t u h tk own hn hs hoff hm hne hX hP lF2 lN2
    clear lF lN
    have kM1 := kstMark
    have kM2 := kdMark
    have hw := hP.1
    have hT := hP.2.1
    have hx := hP.2.2.1
    have hy := hP.2.2.2.1
    have hgo := hP.2.2.2.2
    simp only [List.map_cons, List.cons_append, List.nil_append] at hs hoff hm hX lN2
    have hw' : w = 0 ∨ w = 1 ∨ w = 2 ∨ w = 3 := by omega
    have kLen := hX.length
    rw [List.length_map, hT] at kLen
    have hi := (List.getElem?_eq_some_iff.mp hn).1
    rw [List.length_append, List.length_singleton] at hi
    rcases hw' with rfl | rfl | rfl | rfl
    · (with_reducible show wpAny _ _ _ _ _ _)
      k_fold
      obtain ⟨hfree, hgo'⟩ := free_tie hn hgo
      rw [tie0] at hfree
      replace hfree := tie_off hfree
      dsimp only [tieD] at hfree
      k_steps
      · refine' dist_endA (oT := listOf #[] 0) hs ?F ?N ?l1 ?l2 ?hA ?hW ?hr hX hm ?hP
        (case F => assumption)
        (case N => assumption)
        (case l1 => assumption)
        (case l2 => assumption)
        (case hA => rfl)
        (case hW => rfl)
        (case hr => (intro z h1 h2 h3 h4 h5; simp only [h1, h2, h3, h4, h5, if_false]))
        (case hP => exact word_next hP hn (tie0 x y).symm (by simp [dirX]) (by simp [dirY]) (by rw [turned, if_pos (is_one (by assumption))]; rfl))
      · refine' dist_endA (oT := listOf #[] 0) hs ?F ?N ?l1 ?l2 ?hA ?hW ?hr hX hm ?hP
        (case F => assumption)
        (case N => assumption)
        (case l1 => assumption)
        (case l2 => assumption)
        (case hA => rfl)
        (case hW => rfl)
        (case hr => (intro z h1 h2 h3 h4 h5; simp only [h1, h2, h3, h4, h5, if_false]))
        (case hP => exact word_next hP hn (tie0 x y).symm (by simp [dirX]) (by simp [dirY]) (by rw [turned, if_neg (not_one (by assumption))]; rfl))
    · (with_reducible show wpAny _ _ _ _ _ _)
      k_fold
      obtain ⟨hfree, hgo'⟩ := free_tie hn hgo
      rw [tie1] at hfree
      replace hfree := tie_off hfree
      dsimp only [tieD] at hfree
      k_steps
      · refine' dist_endA (oT := listOf #[] 0) hs ?F ?N ?l1 ?l2 ?hA ?hW ?hr hX hm ?hP
        (case F => assumption)
        (case N => assumption)
        (case l1 => assumption)
        (case l2 => assumption)
        (case hA => rfl)
        (case hW => rfl)
        (case hr => (intro z h1 h2 h3 h4 h5; simp only [h1, h2, h3, h4, h5, if_false]))
        (case hP => exact word_next hP hn (tie1 x y).symm (by simp [dirX]) (by simp [dirY]) (by rw [turned, if_pos (is_one (by assumption))]; rfl))
      · refine' dist_endA (oT := listOf #[] 0) hs ?F ?N ?l1 ?l2 ?hA ?hW ?hr hX hm ?hP
        (case F => assumption)
        (case N => assumption)
        (case l1 => assumption)
        (case l2 => assumption)
        (case hA => rfl)
        (case hW => rfl)
        (case hr => (intro z h1 h2 h3 h4 h5; simp only [h1, h2, h3, h4, h5, if_false]))
        (case hP => exact word_next hP hn (tie1 x y).symm (by simp [dirX]) (by simp [dirY]) (by rw [turned, if_neg (not_one (by assumption))]; rfl))
    · (with_reducible show wpAny _ _ _ _ _ _)
      k_fold
      obtain ⟨hfree, hgo'⟩ := free_tie hn hgo
      rw [tie2] at hfree
      replace hfree := tie_off hfree
      dsimp only [tieD] at hfree
      k_steps
      · refine' dist_endB (oT := listOf #[] 0) hs ?F ?N ?l1 ?l2 ?hA ?hW ?hr hX hm ?hP
        (case F => assumption)
        (case N => assumption)
        (case l1 => assumption)
        (case l2 => assumption)
        (case hA => rfl)
        (case hW => rfl)
        (case hr => (intro z h1 h2 h3 h4 h5; simp only [h1, h2, h3, h4, h5, if_false]))
        (case hP => exact word_next hP hn (tie2 x y).symm (by simp [dirX]) (by simp [dirY]) (by rw [turned, if_pos (is_one (by assumption))]; rfl))
      · refine' dist_endB (oT := listOf #[] 0) hs ?F ?N ?l1 ?l2 ?hA ?hW ?hr hX hm ?hP
        (case F => assumption)
        (case N => assumption)
        (case l1 => assumption)
        (case l2 => assumption)
        (case hA => rfl)
        (case hW => rfl)
        (case hr => (intro z h1 h2 h3 h4 h5; simp only [h1, h2, h3, h4, h5, if_false]))
        (case hP => exact word_next hP hn (tie2 x y).symm (by simp [dirX]) (by simp [dirY]) (by rw [turned, if_neg (not_one (by assumption))]; rfl))
    · (with_reducible show wpAny _ _ _ _ _ _)
      k_fold
      obtain ⟨hfree, hgo'⟩ := free_tie hn hgo
      rw [tie3] at hfree
      replace hfree := tie_off hfree
      dsimp only [tieD] at hfree
      k_steps
      · refine' dist_endB (oT := listOf #[] 0) hs ?F ?N ?l1 ?l2 ?hA ?hW ?hr hX hm ?hP
        (case F => assumption)
        (case N => assumption)
        (case l1 => assumption)
        (case l2 => assumption)
        (case hA => rfl)
        (case hW => rfl)
        (case hr => (intro z h1 h2 h3 h4 h5; simp only [h1, h2, h3, h4, h5, if_false]))
        (case hP => exact word_next hP hn (tie3 x y).symm (by simp [dirX]) (by simp [dirY]) (by rw [turned, if_pos (is_one (by assumption))]; rfl))
      · refine' dist_endB (oT := listOf #[] 0) hs ?F ?N ?l1 ?l2 ?hA ?hW ?hr hX hm ?hP
        (case F => assumption)
        (case N => assumption)
        (case l1 => assumption)
        (case l2 => assumption)
        (case hA => rfl)
        (case hW => rfl)
        (case hr => (intro z h1 h2 h3 h4 h5; simp only [h1, h2, h3, h4, h5, if_false]))
        (case hP => exact word_next hP hn (tie3 x y).symm (by simp [dirX]) (by simp [dirY]) (by rw [turned, if_neg (not_one (by assumption))]; rfl))
  case done =>
    intro aA x y w t1 t2 tw nA xs k tl u h tk hX hY hx hy lF2 lN2
    clear lF lN
    subst hX hY
    rw [List.length_append, List.length_singleton] at hx hy
    have hx1 : -32 ≤ x ∧ x ≤ 32 := by omega
    have hy1 : -32 ≤ y ∧ y ≤ 32 := by omega
    dsimp only
    k_steps
    cb_end hret
end Mine
end
section
open PySem PySem.W PyProof.Rows PySem.Calls PyProof.V PySem.Spec
namespace Mine
local macro_rules | `(tactic| walk_at "call ref") => `(tactic| (k_here; (with_reducible show wpAny _ _ (call (Value.ref 127) [Value.str _ _]) _ _ _); (rename BtwOf _ _ _ _ _ _ => hC9); k_dflt (refine' clm_use (hC9.at ?e _ _) ?k1 ?k2 ?k3 ?k4 ?k5 ?k6 True.intro ?k7 ?k8 ?_; (case e => exact slice_tail _ _); (case k1 => k_asm); (case k2 => k_asm); (case k3 => k_asm); (case k4 => k_asm); (case k5 => k_asm); (case k6 => first | exact rfl | assumption); (case k7 => ktr_room); (case k8 => ktr_units)); intro t' h' tk' F' N'; (try dsimp only); (try k_fold)))
local macro_rules | `(tactic| walk_at "exec For Name Call cons nil") => `(tactic| (k_here; (rename Fr _ _ _ _ => lF'); (with_unfolding_all refine' For_invVF lF' ?k1 ?k2 ?_; (case k1 => exact rfl); (case k2 => exact rfl); k_whole)))
local macro_rules | `(tactic| walk_at "pyIter ref") => `(tactic| ((with_reducible show wpAny _ _ (pyIter (Value.ref _)) (fun it s₂ => LoopAtV _ _ _ _ _ _ _ _ _ it s₂) _ _); refine Halt.off ?_))
local macro_rules | `(tactic| walk_at "execs nil") => `(tactic| refine wpAny_execs_nil ?_)
local macro_rules | `(tactic| walk_at "InvEndN") => `(tactic| (refine Halt.off ?_))
local macro_rules | `(tactic| walk_at "subscriptTail Name Constant str int") => `(tactic| (k_here; (with_reducible show wpAny _ _ (subscriptTail _ _ (Value.str _ _) (Value.int _ _)) _ _ _); (refine head_item (by omega) ?_)))
local macro_rules | `(tactic| walk_at "storeName") => `(tactic| (k_here; k_dflt (refine' storeX_L ?F ?N ?_ ?a ?b; (case F => k_asm); (case N => k_asm); (case a => rfl); (case b => rfl); k_whole; intro h' F' N'; (try k_sweep))))
set_option maxRecDepth 100000 in
set_option maxHeartbeats 8000000 in
theorem btw_nil (w : World) (mean : ExcName → Option Value) (mg mb : Str → Option Value) : BtwOf w mean mg mb 10 [] := by
  intro news t
  w_top off
  dsimp only [Clm]
  k_fill
  dsimp only [CbRec, CbLists, CbRet]
  intro dp un gd cn cs a ccd cl outer A₀ base h₀ L m s Q E B F KX N T hcs hpre hdp hun hret
  refine wpAny_call ?_
  k_dflt cell_enter
  k_steps
  rw [tx_empty]
  cb_end hret
set_option maxRecDepth 100000 in
set_option maxHeartbeats 8000000 in
theorem btw_cons (w : World) (mean : ExcName → Option Value) (mg mb : Str → Option Value) (sz f : Nat) (r : List Nat) (hC : BtwOf w mean mg mb sz r) (hf : f = 48 ∨ f = 49) (hr : r.length ≤ 4) (hl : (between r).length ≤ 15) : BtwOf w mean mg mb (sz + 1) (f :: r) := by
  intro news t
  w_top off
  dsimp only [Clm]
  k_fill
  dsimp only [CbRec, CbLists, CbRet]
  intro dp un gd cn cs a ccd cl outer A₀ base h₀ L m s Q E B F KX N T hcs hpre hdp hun hret
  have hne := not_empty f r
  have hln : (⟨(f :: r).toArray⟩ : Str).length ≤ 5 := by rw [tx_len, List.length_cons]; omega
  have hlb : (⟨(between r).toArray⟩ : Str).length ≤ 15 := by rw [tx_len]; exact hl
  refine wpAny_call ?_
  k_dflt cell_enter
  k_steps
  refine Halt.on ?_
  rename Fr _ _ _ _ => lF
  rename News _ _ _ _ => lN
  rename IsRange _ _ _ _ _ _ _ _ => lR
  refine txt_range (x := Str.ofString "at") (y := Str.ofString "creases") (n := (between r).length + 1) (weave f (between r)) (by rfl) lR ?hb (by omega) lF lN (by rfl) ?turn ?done
  case hb => rw [tx_len]; omega
  case turn =>
    intro i t2 tc h tk own hi hoff lF2 lN2
    clear lF lN lR
    (with_reducible show wpAny _ _ _ _ _ _)
    k_fold
    have hwl : (⟨(weave f (between r) i).toArray⟩ : Str).length ≤ 40 := by
      have := weave_len f (between r) i
      rw [tx_len]; omega
    rcases hf with rfl | rfl
    · k_steps
      · refine Halt.on ?_
        refine' txt_end ?F ?N ?y ?v ?z ?n ?o
        (case F => assumption)
        (case N => assumption)
        (case y => rfl)
        (case v => first | exact weave_next t0 (by omega) (by rw [if_pos (even_of (by assumption))] <;> rfl) | exact weave_next rfl (by omega) (by rw [if_pos (even_of (by assumption))] <;> rfl) | exact weave_next (by decide +kernel) (by omega) (by rw [if_pos (even_of (by assumption))] <;> rfl))
        (case z => (intro z h1 h2; simp only [h1, h2, if_false]))
        (case n => exact fun p hp => List.mem_append.mpr (.inl hp))
        (case o => exact fun p hp => List.mem_append.mpr (.inr hp))
      · refine Halt.on ?_
        refine' txt_end ?F ?N ?y ?v ?z ?n ?o
        (case F => assumption)
        (case N => assumption)
        (case y => rfl)
        (case v => first | exact weave_next t1 (by omega) (by rw [if_neg (odd_of (by assumption))] <;> rfl) | exact weave_next rfl (by omega) (by rw [if_neg (odd_of (by assumption))] <;> rfl) | exact weave_next (by decide +kernel) (by omega) (by rw [if_neg (odd_of (by assumption))] <;> rfl))
        (case z => (intro z h1 h2; simp only [h1, h2, if_false]))
        (case n => exact fun p hp => List.mem_append.mpr (.inl hp))
        (case o => exact fun p hp => List.mem_append.mpr (.inr hp))
    · k_steps
      · refine Halt.on ?_
        refine' txt_end ?F ?N ?y ?v ?z ?n ?o
        (case F => assumption)
        (case N => assumption)
        (case y => rfl)
        (case v => first | exact weave_next t1 (by omega) (by rw [if_pos (even_of (by assumption))] <;> rfl) | exact weave_next rfl (by omega) (by rw [if_pos (even_of (by assumption))] <;> rfl) | exact weave_next (by decide +kernel) (by omega) (by rw [if_pos (even_of (by assumption))] <;> rfl))
        (case z => (intro z h1 h2; simp only [h1, h2, if_false]))
        (case n => exact fun p hp => List.mem_append.mpr (.inl hp))
        (case o => exact fun p hp => List.mem_append.mpr (.inr hp))
      · refine Halt.on ?_
        refine' txt_end ?F ?N ?y ?v ?z ?n ?o
        (case F => assumption)
        (case N => assumption)
        (case y => rfl)
        (case v => first | exact weave_next t0 (by omega) (by rw [if_neg (odd_of (by assumption))] <;> rfl) | exact weave_next rfl (by omega) (by rw [if_neg (odd_of (by assumption))] <;> rfl) | exact weave_next (by decide +kernel) (by omega) (by rw [if_neg (odd_of (by assumption))] <;> rfl))
        (case z => (intro z h1 h2; simp only [h1, h2, if_false]))
        (case n => exact fun p hp => List.mem_append.mpr (.inl hp))
        (case o => exact fun p hp => List.mem_append.mpr (.inr hp))
  case done =>
    intro u tc h tk lF2 lN2
    clear lF lN lR
    dsimp only
    k_steps
    cb_end hret
theorem btw_all (w : World) (mean : ExcName → Option Value) (mg mb : Str → Option Value) : ∀ l : List Nat, Bits l → l.length ≤ 5 → BtwOf w mean mg mb (10 + l.length) l
  | [], _, _ => btw_nil w mean mg mb
  | f :: r, hb, hl => by
    have h4 : r.length ≤ 4 := by rw [List.length_cons] at hl; omega
    have ih := btw_all w mean mg mb r (fun c hc => hb c (.tail _ hc)) (by omega)
    have hq : (between r).length ≤ 15 := by
      have e := between_len r
      have p : 2 ^ r.length ≤ 2 ^ 4 := Nat.pow_le_pow_right (by decide) h4
      have p16 : (2 : Nat) ^ 4 = 16 := rfl
      omega
    have k := btw_cons w mean mg mb (10 + r.length) f r ih (hb f (.head _)) h4 hq
    rwa [show 10 + r.length + 1 = 10 + (f :: r).length by rw [List.length_cons]; omega] at k
end Mine
end
section
open PySem PySem.W PyProof.Rows PySem.Calls PyProof.V PySem.Spec
namespace Mine
def tabD (i : Nat) : List (PyData × PyData) := [(PyData.str ⟨#[48]⟩, PyData.str ⟨#[49]⟩), (PyData.str ⟨#[49]⟩, PyData.str ⟨#[48]⟩)].take i
def TabJ (prog : Program) (w : World) (d c : Addr) (oc : Obj) (news : List (Addr × Obj)) (m₀ : Str → Option Value) (i : Nat) (m : Str → Option Value) (nx : List (Addr × Obj)) : Prop :=
  ∃ o kvs, nx = (d, o) :: (c, oc) :: news ∧ o.IsDictOf (strKind prog w) kvs ∧ FlatPairs PyData.str kvs (tabD i) ∧ ∀ z, z ≠ Str.ofString "sign" → z ≠ Str.ofString "at" → m z = m₀ z
theorem TabJ.start {prog : Program} {w : World} {d c : Addr} {o oc : Obj} {news : List (Addr × Obj)} {m₀ : Str → Option Value} (hd : o.IsDictOf (strKind prog w) []) (hf : FlatPairs PyData.str [] []) : TabJ prog w d c oc news m₀ 0 m₀ ((d, o) :: (c, oc) :: news) :=
  ⟨o, [], rfl, hd, hf, fun _ _ _ => rfl⟩
theorem put0 : putD (PyData.str ⟨#[48]⟩) (PyData.str (Txt.item (Str.ofString "10") 0)) (tabD 0) = tabD 1 := by kernel_rfl
theorem put1 : putD (PyData.str ⟨#[49]⟩) (PyData.str (Txt.item (Str.ofString "10") 1)) (tabD 1) = tabD 2 := by kernel_rfl
theorem signs01 : signs (Str.ofString "01") = [⟨#[48]⟩, ⟨#[49]⟩] := by decide +kernel
local macro_rules | `(tactic| walk_at "pyIter ref") => `(tactic| ((with_reducible show wpAny _ _ (pyIter (Value.ref _)) (fun it s₂ => PairAt3 _ _ _ _ _ _ _ _ _ _ it s₂) _ _); refine Halt.off ?_))
local macro_rules | `(tactic| walk_at "subscriptTail Name Name str int") => `(tactic| (k_here; (with_reducible show wpAny _ _ (subscriptTail _ _ (Value.str _ _) (Value.int _ _)) _ _ _); (refine KXi.item (n := 2) (by decide +kernel) (by decide) (by decide) (by decide) ?_); intro kxiE))
local macro_rules | `(tactic| walk_at "eval ListComp") => `(tactic| (k_here; k_dflt (refine ListComp_S (by k_asm) (by with_unfolding_all rfl) (by decide) (by rfl) (by decide) (by rfl) ?_)))
local macro_rules | `(tactic| walk_at "LoopStep3") => `(tactic| (refine Halt.off ?_))
local macro_rules | `(tactic| walk_at "LoopStep2") => `(tactic| (refine Halt.off ?_))
set_option maxRecDepth 100000 in
set_option maxHeartbeats 8000000 in
theorem rs_claim (w : World) (mean : ExcName → Option Value) (mg mb : Str → Option Value) (news : List (Addr × Obj)) (l : List Nat) (t t1 t2 : Tok) :
    Clm w mean mg mb 77 news (l.length ≤ 31 ∧ Bits l) 10 [.str ⟨l.toArray⟩ t, .str (Str.ofString "01") t1, .str (Str.ofString "10") t2] (fun t => .str ⟨(l.map sw).toArray⟩ t) := by
  w_top off
  dsimp only [Clm]
  k_fill
  dsimp only [CbRec, CbLists, CbRet]
  rintro dp un gd cn cs a ccd cl outer A₀ base h₀ L m s Q E B F KX N T hcs ⟨hl31, hbits⟩ hdp hun hret
  refine wpAny_call ?_
  k_dflt (refine' code_defC ?k1 ?k2 ?k3 ?k4 ?k5 ?kA ?kF ?kK ?k6 ?k7 ?k8 ?k9 ?kB ?kD ?_ ?c2 ?c3 ?c4; (case kA => exact rfl); (case kF => exact rfl); (case kK => assumption); (case k1 => k_asm); (case k2 => k_asm); (case k3 => k_asm); (case k4 => k_asm); (case k5 => k_asm); (case k6 => k_is); (case k7 => k_is); (case k8 => ktr_room); (case k9 => exact BindsTo.of_eq rfl); (case kB => exact rfl); (case kD => decide +kernel); (case c2 => exact rfl); (case c3 => exact rfl); (case c4 => exact rfl); k_whole; intro g' L' h' tk' cells' FG' F' N' Y' B' X' T' l1; (try k_lt l1); (have lS := allLt_succ (allLt_of l1)); (have kM2 := kdMark); k_cells Y'; (try simp only [List.cons_append, List.nil_append] at N'); (try dsimp only); (try k_lift B'); (try k_fold))
  k_steps
  refine Halt.on ?_
  rename PairSrcL _ _ _ _ _ _ _ _ _ _ _ _ => lS
  refine' pair_loop (lS.at _ ?e0) (TabJ _ w _ _ _ _ _) ?h0 ?turn ?done
  case e0 => rfl
  case h0 => exact TabJ.start (by assumption) (by assumption)
  case turn =>
    rintro i a t5 t6 m₁ nx h tk own ha ⟨o, kvs, rfl, hD, hf, hz⟩ hoff lF2 lN2
    rw [frame_two hz] at lF2
    rw [signs01] at ha
    match i, ha with
    | 0, ha =>
      have ea : a = ⟨#[48]⟩ := by simpa using ha.symm
      subst ea
      rw [show ((0 : Nat) : Int) = 0 from rfl] at lF2
      simp only [List.cons_append, List.map_cons] at lN2 hoff
      (with_reducible show wpAny _ _ _ _ _ _)
      k_steps
      refine Halt.on ?_
      refine' pair_end ?F ?N ?n ?o ?a ⟨_, _, rfl, ?d, ?f, ?z⟩
      (case F => assumption)
      (case N => assumption)
      (case d => assumption)
      (case f => (rw [← put0]; assumption))
      (case z => (intro z h1 h2; simp only [h1, h2, if_false]))
      (case a => rfl)
      (case n => exact fun p hp => (by simp only [List.mem_cons, List.mem_append] at hp ⊢; rcases hp with h | h | h <;> simp [h]))
      (case o => exact fun p hp => .tail _ (.tail _ (List.mem_append.mpr (.inr hp))))
    | 1, ha =>
      have ea : a = ⟨#[49]⟩ := by simpa using ha.symm
      subst ea
      rw [show ((1 : Nat) : Int) = 1 from rfl] at lF2
      simp only [List.cons_append, List.map_cons] at lN2 hoff
      (with_reducible show wpAny _ _ _ _ _ _)
      k_steps
      refine Halt.on ?_
      refine' pair_end ?F ?N ?n ?o ?a ⟨_, _, rfl, ?d, ?f, ?z⟩
      (case F => assumption)
      (case N => assumption)
      (case d => assumption)
      (case f => (rw [← put1]; assumption))
      (case z => (intro z h1 h2; simp only [h1, h2, if_false]))
      (case a => rfl)
      (case n => exact fun p hp => (by simp only [List.mem_cons, List.mem_append] at hp ⊢; rcases hp with h | h | h <;> simp [h]))
      (case o => exact fun p hp => .tail _ (.tail _ (List.mem_append.mpr (.inr hp))))
    | i + 2, ha => simp at ha
  case done =>
    rintro h tk m' nx lF2 lN2 - ⟨o, kvs, rfl, hD, hf, hz⟩
    rw [frame_two_out hz] at lF2
    replace hf : FlatPairs PyData.str kvs (tabD 2) := hf
    dsimp only
    k_steps
    have hls : ((⟨l.toArray⟩ : Str).cps.size) = l.length := List.size_toArray
    refine ⟨⟨l.toArray⟩, t, _, rfl, by rfl, by assumption, by assumption, by rw [sizeLine_eq, hls]; omega, ?_⟩
    rintro s₂ ⟨hq, rfl⟩
    rw [hls]
    refine signs_rest sw ?turn2 ?fin2
    case turn2 =>
      intro c t7 I oI C oC D m₂ ys h7 tk7 E' hc hC hx F7 N7 off ne
      have off0 := off
      simp only [LCg.Off3, and_true] at off
      have hc' := hbits c hc
      rcases hc' with rfl | rfl
      · (with_reducible show wpAny _ _ _ _ _ _)
        k_fold
        k_steps
        exact ⟨h7, _, _, rfl, F7, N7, off0, trivial, rfl, _, rfl⟩
      · (with_reducible show wpAny _ _ _ _ _ _)
        k_fold
        k_steps
        exact ⟨h7, _, _, rfl, F7, N7, off0, trivial, rfl, _, rfl⟩
    case fin2 =>
      intro ys hc D h7 tk7 F7 N7 off
      (with_reducible show wpAny _ _ _ _ _ _)
      k_fold
      k_steps
      dsimp only [List.cons_append, List.nil_append]
      refine KT.join_1 (News.isList N7 (.head _)) hc (fun _ _ => rfl) (by omega) ?_
      intro t8 k8 e8
      have ej : Txt.join (Str.ofString "") (l.map fun c => (⟨#[sw c]⟩ : Str)) = ⟨(l.map sw).toArray⟩ := by
        have := join_text (l.map sw)
        rw [List.map_map] at this
        exact this
      rw [ej]
      k_steps
      cb_end hret
end Mine
end
section
open PySem PySem.W PyProof.Rows PySem.Calls PyProof.V PySem.Spec
namespace Mine
theorem cells_two {vs : List Value} {f : Int → Int} {ns : List Int} (h : IntsAre vs (List.map f (List.take 2 ns) ++ List.drop (((List.take 2 ns).length : Int)).toNat [3, 5])) : ∃ cs : List Int, IntsAre vs cs ∧ cs.length = 2 := by
  refine ⟨_, h, ?_⟩
  rw [List.length_append, List.length_map, List.length_drop, List.length_take, Int.toNat_natCast]
  simp only [List.length_cons, List.length_nil]
  omega
theorem news_ends {h₀ h : Heap} {L : Addr} {a b c d e f g : Addr × Obj} (N : News h₀ L h [a, b, c, d, e, f, g]) : News h₀ L h [a, g] := fun p hp => by
  simp only [List.mem_cons, List.not_mem_nil, or_false] at hp
  rcases hp with rfl | rfl
  · exact N _ (.head _)
  · exact N _ (.tail _ (.tail _ (.tail _ (.tail _ (.tail _ (.tail _ (.head _)))))))
/-- the folds' signs: the lowest bits of a seed -/
theorem folds_text (b : Int) {nn : Nat} (h1 : 1 ≤ nn ∧ nn ≤ 5) : ∃ l : List Nat, Bits l ∧ 1 ≤ l.length ∧ l.length ≤ 5 ∧
    Txt.join (Str.ofString "") ((rangeKs 0 nn).map fun k => Txt.item (Str.ofString "01") ((b.fdiv (2 ^ k.toNat)).fmod 2)) = ⟨l.toArray⟩ := by
  refine ⟨(rangeKs 0 nn).map fun k => bc ((b.fdiv (2 ^ k.toNat)).fmod 2), ?_, ?_, ?_, ?_⟩
  · intro c hc
    obtain ⟨k, _, rfl⟩ := List.mem_map.mp hc
    exact bc_bit _
  · rw [List.length_map, rangeKs_length]; exact h1.1
  · rw [List.length_map, rangeKs_length]; exact h1.2
  · rw [← join_text, List.map_map]
    congr 1
    refine List.map_congr_left fun k _ => ?_
    exact item01 (fmod_lo _ (by decide)) (fmod_hi _ (by decide))
theorem news_none {h₀ h : Heap} {L : Addr} {l : List (Addr × Obj)} (_ : News h₀ L h l) : News h₀ L h [] := fun _ hp => nomatch hp
end Mine
end
section
open PySem PySem.W PyProof.Rows PySem.Calls PyProof.V PySem.Spec
namespace Mine
theorem clm_pre {w : World} {mean : ExcName → Option Value} {mg mb : Str → Option Value} {f : Addr} {news : List (Addr × Obj)} {P : Prop} {sz sz' : Nat} {vs : List Value} {R : Tok → Value} (h : P) (hs : sz ≤ sz')
    (C : Clm w mean mg mb f news P sz vs R) : Clm w mean mg mb f news True sz' vs R := by
  intro dp un gd cn cs a ccd cl outer A₀ base h₀ L m s Q E B F X N T hk _ hd hu ret
  exact C dp un gd cn cs a ccd cl outer A₀ base h₀ L m s Q E B F X N T hk h (by omega) (by omega) ret
/-- what one fold's turn needs -/
structure TurnF (l : List Nat) (i c : Nat) (A Bk C : List Nat) (X Y : Int) : Prop where
  rev : A.reverse.length ≤ 31 ∧ Bits A.reverse
  bk : A.reverse.map sw = Bk
  cat : ((⟨A.toArray⟩ : Str) ++ ⟨#[c]⟩) ++ ⟨Bk.toArray⟩ = ⟨C.toArray⟩
  here : creases (l.take i) = A
  next : creases (l.take (i + 1)) = C
  btw : between (l.take (i + 1)) = C
  gbits : Bits (l.take (i + 1))
  glen : (l.take (i + 1)).length ≤ 5
  le : i + 1 ≤ l.length
  dist : C.length ≤ 31 ∧ Bits C ∧ go (C ++ [48]) 0 0 0 [] = some (X, Y)
  far : X * X + Y * Y = 2 ^ (i + 1)
  al : (⟨A.toArray⟩ : Str).length ≤ 15
  bl : (⟨Bk.toArray⟩ : Str).length ≤ 15
  clen : (⟨C.toArray⟩ : Str).length ≤ 31
theorem turn_facts {l : List Nat} {i c : Nat} (hb : Bits l) (h5 : l.length ≤ 5) (hc : l[i]? = some c) : ∃ A Bk C X Y, TurnF l i c A Bk C X Y := by
  have hi : i < l.length := (List.getElem?_eq_some_iff.mp hc).1
  have hlen : (l.take (i + 1)).length = i + 1 := by rw [List.length_take]; omega
  have hlen0 : (l.take i).length = i := by rw [List.length_take]; omega
  have hgb : Bits (l.take (i + 1)) := fun x hx => hb x (List.mem_of_mem_take hx)
  have hgb0 : Bits (l.take i) := fun x hx => hb x (List.mem_of_mem_take hx)
  have hA : (creases (l.take i)).length + 1 = 2 ^ i := by rw [creases_len, hlen0]
  have hC : (creases (l.take (i + 1))).length + 1 = 2 ^ (i + 1) := by rw [creases_len, hlen]
  have p0 : 2 ^ i ≤ 2 ^ 4 := Nat.pow_le_pow_right (by decide) (by omega)
  have p1 : 2 ^ (i + 1) ≤ 2 ^ 5 := Nat.pow_le_pow_right (by decide) (by omega)
  have p16 : (2 : Nat) ^ 4 = 16 := rfl
  have p32 : (2 : Nat) ^ 5 = 32 := rfl
  have hsn : l.take (i + 1) = l.take i ++ [c] := by rw [List.take_add_one, hc]; rfl
  obtain ⟨e1, X, Y, e2, e3⟩ := law_holds (l.take (i + 1)) hgb (by omega) (by omega)
  refine ⟨_, _, _, X, Y, ⟨⟨?_, ?_⟩, rfl, ?_, rfl, rfl, e1.symm, hgb, by omega, hi, ⟨by omega, creases_bits _ hgb, e2⟩, ?_, ?_, ?_, ?_⟩⟩
  · rw [List.length_reverse]; omega
  · exact fun x hx => creases_bits _ hgb0 x (List.mem_reverse.mp hx)
  · show ((_ : Str) ++ (⟨[c].toArray⟩ : Str)) ++ _ = _
    rw [tx_append, tx_append, hsn, creases_snoc]
    congr 2
    simp [fold1]
  · rw [e3, hlen]; simp
  · rw [tx_len]; omega
  · rw [tx_len, List.length_map, List.length_reverse]; omega
  · rw [tx_len]; omega
section
variable {l : List Nat} {i c : Nat} {A Bk C : List Nat} {X Y : Int}
theorem TurnF.rs (S : TurnF l i c A Bk C X Y) (w : World) (mean : ExcName → Option Value) (mg mb : Str → Option Value) (news : List (Addr × Obj)) (t t1 t2 u : Tok) :
    Clm w mean mg mb 77 news True 10 [.str (Txt.sliceBy ⟨A.toArray⟩ none none (-1, u)) t, .str (Str.ofString "01") t1, .str (Str.ofString "10") t2] (fun t => .str ⟨Bk.toArray⟩ t) := by
  rw [rev_text, ← S.bk]
  exact clm_pre S.rev (Nat.le_refl _) (rs_claim w mean mg mb news A.reverse t t1 t2)
theorem TurnF.bt (S : TurnF l i c A Bk C X Y) (w : World) (mean : ExcName → Option Value) (mg mb : Str → Option Value) (news : List (Addr × Obj)) (t : Tok) :
    Clm w mean mg mb 127 news True 15 [.str (Txt.slice ⟨l.toArray⟩ none (some ((i : Int) + 1))) t] (fun t => .str ⟨C.toArray⟩ t) := by
  have hle := S.le
  rw [slice_to (by omega) (by omega), ← S.btw, show ((i : Int) + 1).toNat = i + 1 by omega]
  have hg := S.glen
  exact clm_pre True.intro (by omega) (btw_all w mean mg mb (l.take (i + 1)) S.gbits S.glen news t)
theorem TurnF.ds (S : TurnF l i c A Bk C X Y) (w : World) (mean : ExcName → Option Value) (mg mb : Str → Option Value) (news : List (Addr × Obj)) (t : Tok) :
    Clm w mean mg mb 134 news True 10 [.str ⟨C.toArray⟩ t] (fun t => .int (2 ^ (i + 1)) t) := by
  rw [← S.far]
  exact clm_pre S.dist (Nat.le_refl _) (dist_claim w mean mg mb news C t X Y)
end
theorem sign_at {l : List Nat} {i : Nat} {a : Str} (h : (signs ⟨l.toArray⟩)[i]? = some a) : ∃ c, l[i]? = some c ∧ a = ⟨#[c]⟩ := by
  unfold signs at h
  simp only [List.getElem?_map, Option.map_eq_some_iff] at h
  obtain ⟨c, h1, h2⟩ := h
  exact ⟨c, by simpa using h1, h2.symm⟩
theorem signs_len (l : List Nat) : (signs ⟨l.toArray⟩).length = l.length := by
  unfold signs
  simp
/-- the loop's state: the creases so far; the names written in the loop stand apart -/
def FoldJ (l : List Nat) (m₀ : Str → Option Value) (i : Nat) (m : Str → Option Value) (nx : List (Addr × Obj)) : Prop :=
  nx = [] ∧ ∃ t, m (Str.ofString "creases") = some (.str ⟨(creases (l.take i)).toArray⟩ t) ∧ ∀ z, z ≠ Str.ofString "fold" → z ≠ Str.ofString "at" → z ≠ Str.ofString "creases" → z ≠ Str.ofString "behind" → m z = m₀ z
theorem FoldJ.start (l : List Nat) {m₀ : Str → Option Value} {t : Tok} (h : m₀ (Str.ofString "creases") = some (.str (Str.ofString "") t)) : FoldJ l m₀ 0 m₀ [] :=
  ⟨rfl, t, by rw [h, tx_empty]; rfl, fun _ _ _ _ _ => rfl⟩
theorem frame_four {m₀ m₁ : Str → Option Value} {xi xc xa xb : Str} {v v' va : Value} (ha : m₁ xa = some va) (hz : ∀ z, z ≠ xc → z ≠ xi → z ≠ xa → z ≠ xb → m₁ z = m₀ z) :
    (fun y => if y = xc then some v else if y = xi then some v' else m₁ y) = fun y => if y = xc then some v else if y = xi then some v' else if y = xa then some va else if y = xb then m₁ xb else m₀ y := by
  funext y
  by_cases h1 : y = xc
  · simp only [if_pos h1]
  · by_cases h2 : y = xi
    · simp only [if_neg h1, if_pos h2]
    · by_cases h3 : y = xa
      · simp only [if_neg h1, if_neg h2, if_pos h3]; rw [h3, ha]
      · by_cases h4 : y = xb
        · simp only [if_neg h1, if_neg h2, if_neg h3, if_pos h4]; rw [h4]
        · simp only [if_neg h1, if_neg h2, if_neg h3, if_neg h4]
          exact hz y h1 h2 h3 h4
theorem frame_four_out {m₀ m₁ : Str → Option Value} {xi xc xa xb : Str} {va : Value} (ha : m₁ xa = some va) (hz : ∀ z, z ≠ xc → z ≠ xi → z ≠ xa → z ≠ xb → m₁ z = m₀ z) :
    m₁ = fun y => if y = xa then some va else if y = xc then m₁ xc else if y = xi then m₁ xi else if y = xb then m₁ xb else m₀ y := by
  funext y
  by_cases h3 : y = xa
  · simp only [if_pos h3]; rw [h3, ha]
  · by_cases h1 : y = xc
    · simp only [if_neg h3, if_pos h1]; rw [h1]
    · by_cases h2 : y = xi
      · simp only [if_neg h3, if_neg h1, if_pos h2]; rw [h2]
      · by_cases h4 : y = xb
        · simp only [if_neg h3, if_neg h1, if_neg h2, if_pos h4]; rw [h4]
        · simp only [if_neg h1, if_neg h2, if_neg h3, if_neg h4]
          exact hz y h1 h2 h3 h4
theorem FoldJ.step {l : List Nat} {i c : Nat} {A Bk C : List Nat} {X Y : Int} (S : TurnF l i c A Bk C X Y) {m₀ m : Str → Option Value} {t : Tok} (ha : m (Str.ofString "creases") = some (.str ⟨C.toArray⟩ t))
    (hz : ∀ z, z ≠ Str.ofString "fold" → z ≠ Str.ofString "at" → z ≠ Str.ofString "creases" → z ≠ Str.ofString "behind" → m z = m₀ z) : FoldJ l m₀ (i + 1) m [] :=
  ⟨rfl, t, by rw [ha, S.next], hz⟩
theorem pow_at (i : Nat) : (2 : Int) ^ (i + 1) = 2 ^ ((i : Int) + 1).toNat := by
  rw [show ((i : Int) + 1).toNat = i + 1 by omega]
theorem bne_self_no {x : Str} (h : (x != x) = true) : False := by simp at h
theorem done_facts {l : List Nat} (h5 : l.length ≤ 5) : ∃ C, creases l = C ∧ (⟨C.toArray⟩ : Str).length ≤ 31 ∧ (⟨l.toArray⟩ : Str).length ≤ 5 ∧ (((⟨C.toArray⟩ : Str).length : Nat) : Int) = 2 ^ (((⟨l.toArray⟩ : Str).length : Nat) : Int).toNat - 1 := by
  refine ⟨_, rfl, ?_⟩
  have h := creases_len l
  have p1 : 2 ^ l.length ≤ 2 ^ 5 := Nat.pow_le_pow_right (by decide) h5
  have p32 : (2 : Nat) ^ 5 = 32 := rfl
  rw [tx_len, tx_len, Int.toNat_natCast]
  refine ⟨by omega, h5, ?_⟩
  have h2 : (((creases l).length + 1 : Nat) : Int) = ((2 ^ l.length : Nat) : Int) := by rw [h]
  rw [Int.natCast_pow] at h2
  have h3 : ((2 : Nat) : Int) = 2 := rfl
  rw [h3] at h2
  omega
end Mine
end
section
open PySem PySem.W PyProof.Rows PySem.Calls PyProof.V PySem.Spec
namespace Mine
local macro_rules | `(tactic| walk_at "CompSrc") => `(tactic| ((with_reducible show LCg.CompSrc _ _ _ _ _ _ _ (PySem.Expr.Subscript (PySem.Expr.Constant _ _ _) _ _) _ _ _ _ _ _); refine Halt.off ?_))
local macro_rules | `(tactic| walk_at "subscriptTail Name Slice ref ref") => `(tactic| (k_here; (with_reducible show wpAny _ _ (subscriptTail _ (PySem.Expr.Slice _ _ none _) (Value.ref _) (Value.ref _)) _ _ _); k_dflt (refine' kmk_slice_ints ?F ?N ?l ?p ?q ?i ?m ?c ?_ ?s ?t ?z; (case F => k_asm); (case N => k_asm); (case l => kmk_list); (case p => kmk_part); (case q => kmk_part); (case i => l_ints); (case m => first | exact kmk_from (by l_ints) (Int.natCast_nonneg _) | kmk_nums); (case c => kmk_len); (case s => with_unfolding_all rfl); (case t => kmk_pure); (case z => kmk_size)); intro D' ws' h' F' N' l1 hI' hC' hL'; (try simp only [Int.reduceNeg, Int.neg_neg, Int.reduceToNat] at hI' hC' hL'); (try k_lt l1); (try k_sweep)))
local macro_rules | `(tactic| walk_at "storeName") => `(tactic| ((with_reducible rename (IntsAre _ (_ ++ _)) => hCells9); refine Halt.off ?_))
local macro_rules | `(tactic| walk_at "exec For Tuple Call") => `(tactic| ((with_reducible rename (News _ _ _ (_ :: _)) => hBig9); refine Halt.off ?_))
local macro_rules | `(tactic| walk_at "pyIter ref") => `(tactic| ((with_reducible show wpAny _ _ (pyIter (Value.ref _)) (fun it s₂ => PairAt3 _ _ _ _ _ _ _ _ _ _ it s₂) _ _); refine Halt.off ?_))
local macro_rules | `(tactic| walk_at "call builtin:str.join") => `(tactic| (refine Halt.off ?_))
local macro_rules | `(tactic| walk_at "call ref") => `(tactic| (k_here; (with_reducible show wpAny _ _ (call (Value.ref 77) [Value.str _ _, Value.str _ _, Value.str _ _]) _ _ _); (with_reducible rename TurnF _ _ _ _ _ _ _ _ => hT9); first | (k_dflt (refine' clm_use (hT9.rs _ _ _ _ _ _ _ _ _) ?k1 ?k2 ?k3 ?k4 ?k5 ?k6 True.intro ?k7 ?k8 ?_; (case k1 => k_asm); (case k2 => k_asm); (case k3 => k_asm); (case k4 => k_asm); (case k5 => k_asm); (case k6 => first | exact rfl | assumption); (case k7 => ktr_room); (case k8 => ktr_units)); intro t' h' tk' F' N'; (try dsimp only); (try k_fold)) | (refine Halt.off ?_)))
local macro_rules | `(tactic| walk_at "call ref") => `(tactic| (k_here; (with_reducible show wpAny _ _ (call (Value.ref 127) [Value.str _ _]) _ _ _); (with_reducible rename TurnF _ _ _ _ _ _ _ _ => hT9); first | (k_dflt (refine' clm_use (hT9.bt _ _ _ _ _ _) ?k1 ?k2 ?k3 ?k4 ?k5 ?k6 True.intro ?k7 ?k8 ?_; (case k1 => k_asm); (case k2 => k_asm); (case k3 => k_asm); (case k4 => k_asm); (case k5 => k_asm); (case k6 => first | exact rfl | assumption); (case k7 => ktr_room); (case k8 => ktr_units)); intro t' h' tk' F' N'; (try dsimp only); (try k_fold)) | (refine Halt.off ?_)))
local macro_rules | `(tactic| walk_at "call ref") => `(tactic| (k_here; (with_reducible show wpAny _ _ (call (Value.ref 134) [Value.str _ _]) _ _ _); (with_reducible rename TurnF _ _ _ _ _ _ _ _ => hT9); first | (k_dflt (refine' clm_use (hT9.ds _ _ _ _ _ _) ?k1 ?k2 ?k3 ?k4 ?k5 ?k6 True.intro ?k7 ?k8 ?_; (case k1 => k_asm); (case k2 => k_asm); (case k3 => k_asm); (case k4 => k_asm); (case k5 => k_asm); (case k6 => first | exact rfl | assumption); (case k7 => ktr_room); (case k8 => ktr_units)); intro t' h' tk' F' N'; (try dsimp only); (try k_fold)) | (refine Halt.off ?_)))
local macro_rules | `(tactic| walk_at "storeName") => `(tactic| ((with_reducible show wpAny _ _ (storeName _ _ (Value.str (_ ++ _ ++ _) _)) _ _ _); (with_reducible rename TurnF _ _ _ _ _ _ _ _ => hT9); rw [hT9.cat]))
local macro_rules | `(tactic| walk_at "LoopStep3") => `(tactic| (refine Halt.off ?_))
local macro_rules | `(tactic| walk_at "LoopStep2") => `(tactic| (refine Halt.off ?_))
set_option maxRecDepth 100000 in
set_option maxHeartbeats 8000000 in
theorem main : PySem.Challenge.rw_xw0300_01.Holds := hd (by
  w_strict (
  k_go0
  all_goals (try k_fold)
  k_steps
  refine Halt.on ?_
  (with_reducible rename (IntsAre _ (_ ++ _)) => hCells)
  have hCs := cells_two hCells
  clear hCells
  iterate 5 (with_reducible rename (IntsAre _ _) => hz; clear hz)
  iterate 6 (with_reducible rename (List.length _ = _) => hz; clear hz)
  iterate 3 (with_reducible rename (List.length _ ≤ _) => hz; clear hz)
  (with_reducible rename News _ _ _ _ => lN)
  have lN2 := news_ends lN
  clear lN
  obtain ⟨cs, hcs, hcl⟩ := hCs
  k_steps
  refine Halt.on ?_
  have hn0 := fmod_lo (cs.getD (Int.toNat 0) 0) (n := 5) (by decide)
  have hn5 := fmod_hi (cs.getD (Int.toNat 0) 0) (n := 5) (by decide)
  generalize (cs.getD (Int.toNat 0) 0).fmod 5 = q at *
  k_dflt (refine LCg.CompSrc.range (by rfl) (by k_asm) (by k_asm) (by assumption) (small_one (by omega) (by omega) (by omega) (by omega)) (rangeSize_nat _ _) (by rw [PySem.sizeLine_eq]; omega) ?_)
  intro g'
  have hnn : 1 ≤ (1 + q - 0).toNat ∧ (1 + q - 0).toNat ≤ 5 := by omega
  generalize (1 + q - 0).toNat = nn at *
  clear hn0 hn5
  refine' kct_range (fun k => Txt.item (Str.ofString "01") (((cs.getD (Int.toNat 1) 0).fdiv (2 ^ k.toNat)).fmod 2)) (fun k' t' I' oI' C' oC' D' m' ys' h' tk' E' hlo' hhi' hC' hx' F' N' off' ne' => ?turn) ?fin
  case turn =>
    have off0 := off'
    (try (simp only [LCg.Off3, and_true] at off'))
    (try ((show KPfMark → _); intro hMark'))
    have hk5 : k' < 5 := by omega
    clear hhi'
    (with_reducible show wpAny _ _ _ _ _ _)
    k_fold
    k_steps
  case fin =>
    (show ∀ _, _)
    intro ys hc hlen D h7 tk7 F7 N7 off
    (with_reducible show wpAny _ _ _ _ _ _)
    k_fold
    k_steps
    refine Halt.on ?_
    (try dsimp only [List.cons_append, List.nil_append])
    refine KT.join_1 (News.isList N7 (.head _)) hc (fun _ _ => rfl) (by rw [rangeKs_length]; omega) ?_
    intro t8 k8 e8
    clear e8 hc hlen
    obtain ⟨l, hbits, hl1, hl5, el⟩ := folds_text (cs.getD (Int.toNat 1) 0) hnn
    rw [el]
    clear el hnn
    k_steps
    refine Halt.on ?_
    (with_reducible rename News _ _ _ _ => lN)
    have lE := news_none lN
    clear lN
    repeat (with_reducible rename (News _ _ _ (_ :: _)) => hz; clear hz)
    k_steps
    refine Halt.on ?_
    rename PairSrcL _ _ _ _ _ _ _ _ _ _ _ _ => lS
    refine' pair_loop (lS.at _ ?e0) (FoldJ l _) ?h0 ?lturn ?done
    case e0 => rfl
    case h0 =>
      refine' FoldJ.start l ?hh
      case hh => first | rfl | with_unfolding_all rfl
    case lturn =>
      clear lS
      rintro i a ta tt m₁ nx h tk own ha ⟨rfl, tc, hJa, hJz⟩ hoff lF2 lN2
      rw [frame_four hJa hJz] at lF2
      generalize m₁ (Str.ofString "behind") = ub at lF2
      obtain ⟨c, hc, rfl⟩ := sign_at ha
      obtain ⟨A, Bk, C, X, Y, hT⟩ := turn_facts hbits hl5 hc
      rw [hT.here] at lF2
      clear hJa hJz ha
      have hal := hT.al
      have hbl := hT.bl
      have hcl2 := hT.clen
      have hle := hT.le
      simp only [List.nil_append] at lN2
      (with_reducible show wpAny _ _ _ _ _ _)
      k_steps
      all_goals refine Halt.on ?_
      · exfalso
        (with_reducible rename (((_ : Str) != _) = true) => hx)
        exact bne_self_no hx
      · exfalso
        (with_reducible rename ((_ : Int) ≠ _) => hx)
        exact hx (pow_at i)
      · (with_reducible rename TurnF _ _ _ _ _ _ _ _ => hT)
        refine' pair_end ?p9F ?p9N ?p9n ?p9o ?p9a (FoldJ.step hT ?p9c ?p9z)
        (case p9F => assumption)
        (case p9N => assumption)
        (case p9c => first | rfl | with_unfolding_all rfl)
        (case p9z => (intro z h1 h2 h3 h4; simp only [h1, h2, h3, h4, if_false]))
        (case p9a => rfl)
        (case p9n => exact fun p hp => nomatch hp)
        (case p9o => exact fun p hp => List.mem_cons_of_mem _ (List.mem_cons_of_mem _ (List.mem_cons_of_mem _ hp)))
    case done =>
      clear lS
      rintro h9 tk9 m' nx F9 N9 - ⟨rfl, tc, hJa, hJz⟩
      rw [signs_len, List.take_length] at hJa
      rw [frame_four_out hJa hJz] at F9
      generalize m' (Str.ofString "behind") = ub at F9
      generalize m' (Str.ofString "fold") = uf at F9
      generalize m' (Str.ofString "at") = ua at F9
      clear hJa hJz
      dsimp only
      obtain ⟨C, hc9, hC31, hl59, hEq9⟩ := done_facts hl5
      rw [hc9] at F9
      clear hc9 hbits hl1 hl5
      k_steps
    ))
end Mine
end
set_option maxRecDepth 100000 in
set_option maxHeartbeats 8000000 in
theorem PySem.Challenge.cw_xw0300_01_holds : PySem.Challenge.rw_xw0300_01.Holds :=
  Mine.main
