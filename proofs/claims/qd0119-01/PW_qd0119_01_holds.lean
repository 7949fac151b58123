import PyProof.Rows.All
import Wide.All
import OpenK.KWith
import KE.KTreeN
import KE.KItem
import KE.LcTurns
import PyProof.StrWalks
import PyProof.WalksPairs
import OpenK.KApp
import KE.RegLcTurns
import KE.KCells
import PyProof.EqKinds
import PyProof.EqAt
import PyProof.ListIndexNeg
import KE.KTryDeep
import Lean
import PySem.Challenge.RW_qd0119_01
open PySem PySem.W PyProof.Rows PySem.Calls
set_option Elab.async false
set_option maxRecDepth 100000
set_option maxHeartbeats 16000000
open_top hd for PySem.Challenge.rw_qd0119_01
namespace Mine
theorem topOff : True := by
  w_top off
  trivial
inductive Pc | any | one | sign (c : Nat)
def tkF (f : Nat → Nat → Bool) : Pc → Nat → Bool
  | .any, _ => false
  | .one, _ => true
  | .sign c, d => f c d
/-- what the pieces stand for -/
def Mt (f : Nat → Nat → Bool) : List Pc → List Nat → Bool
  | [], t => t.isEmpty
  | .any :: p, [] => Mt f p []
  | .any :: p, d :: t => Mt f p (d :: t) || Mt f (.any :: p) t
  | .one :: _, [] => false
  | .one :: p, _ :: t => Mt f p t
  | .sign _ :: _, [] => false
  | .sign c :: p, d :: t => f c d && Mt f p t
termination_by p t => p.length + t.length
section Plain
variable {f : Nat → Nat → Bool}
theorem Mt_any {p : List Pc} : ∀ {t : List Nat}, Mt f (.any :: p) t = true ↔ ∃ k, k ≤ t.length ∧ Mt f p (t.drop k) = true
  | [] => by
    rw [Mt]
    constructor
    · intro h; exact ⟨0, Nat.le_refl _, h⟩
    · rintro ⟨k, _, h⟩; simpa using h
  | d :: t => by
    rw [Mt, Bool.or_eq_true, Mt_any]
    constructor
    · rintro (h | ⟨k, hk, h⟩)
      · exact ⟨0, Nat.zero_le _, h⟩
      · exact ⟨k + 1, by simpa using hk, by simpa using h⟩
    · rintro ⟨k, hk, h⟩
      cases k with
      | zero => exact .inl h
      | succ k => exact .inr ⟨k, by simpa using hk, by simpa using h⟩
theorem Mt_cons {q : Pc} (hq : q ≠ .any) {p : List Pc} {d : Nat} {t : List Nat} : Mt f (q :: p) (d :: t) = (tkF f q d && Mt f p t) := by
  cases q with
  | any => exact absurd rfl hq
  | one => rw [Mt]; simp [tkF]
  | sign c => rw [Mt]; rfl
theorem Mt_cons_nil {q : Pc} (hq : q ≠ .any) {p : List Pc} : Mt f (q :: p) [] = false := by
  cases q with
  | any => exact absurd rfl hq
  | one => rw [Mt]
  | sign c => rw [Mt]
theorem Mt_any_nil {p : List Pc} : Mt f (.any :: p) [] = Mt f p [] := by rw [Mt]
theorem Mt_nil {t : List Nat} : Mt f [] t = t.isEmpty := by rw [Mt]
def NoAny (seg : List Pc) : Prop := ∀ q ∈ seg, q ≠ .any
theorem Mt_seg {r : List Pc} : ∀ {seg : List Pc} {u : List Nat}, NoAny seg → Mt f (seg ++ r) u = true → seg.length ≤ u.length ∧ Mt f r (u.drop seg.length) = true
  | [], u, _, h => ⟨Nat.zero_le _, h⟩
  | q :: seg, [], hn, h => by
    rw [List.cons_append, Mt_cons_nil (hn q (.head _))] at h
    cases h
  | q :: seg, d :: u, hn, h => by
    rw [List.cons_append, Mt_cons (hn q (.head _)), Bool.and_eq_true] at h
    obtain ⟨h1, h2⟩ := Mt_seg (fun x hx => hn x (.tail _ hx)) h.2
    exact ⟨by simpa using h1, by simpa using h2⟩

/-- what holds of the greedy search: where it is, and where it may go back to -/
def GInv (f : Nat → Nat → Bool) (ps : List Pc) (t : List Nat) (place at_ : Nat) : Option (Nat × Nat) → Prop
  | none => Mt f ps t = Mt f (ps.drop place) (t.drop at_)
  | some (bp, ba) => (∃ seg, ps.drop bp = seg ++ ps.drop place ∧ NoAny seg ∧ at_ = ba + seg.length) ∧ bp ≤ place ∧ Mt f (ps.drop bp) (t.drop ba) = Mt f (ps.drop place) (t.drop at_) ∧
    (Mt f ps t = true ↔ ∃ k, ba ≤ k ∧ k ≤ t.length ∧ Mt f (ps.drop bp) (t.drop k) = true)
variable {ps : List Pc} {t : List Nat} {place at_ : Nat} {back : Option (Nat × Nat)}
theorem ginv_start : GInv f ps t 0 0 none := rfl
theorem drop_of {α : Type} {l : List α} {i : Nat} {x : α} (h : l[i]? = some x) : l.drop i = x :: l.drop (i + 1) := by
  obtain ⟨hl, rfl⟩ := List.getElem?_eq_some_iff.mp h
  exact List.drop_eq_getElem_cons hl
theorem any_iff {rest : List Pc} (ha : at_ ≤ t.length) : Mt f (.any :: rest) (t.drop at_) = true ↔ ∃ k, at_ ≤ k ∧ k ≤ t.length ∧ Mt f rest (t.drop k) = true := by
  rw [Mt_any]
  constructor
  · rintro ⟨k, hk, h⟩
    rw [List.length_drop] at hk
    rw [List.drop_drop] at h
    exact ⟨at_ + k, by omega, by omega, h⟩
  · rintro ⟨k, h1, h2, h⟩
    refine ⟨k - at_, by rw [List.length_drop]; omega, ?_⟩
    rw [List.drop_drop, show at_ + (k - at_) = k by omega]
    exact h
theorem ginv_any (h : GInv f ps t place at_ back) (hp : ps[place]? = some .any) (ha : at_ ≤ t.length) : GInv f ps t (place + 1) at_ (some (place + 1, at_)) := by
  refine ⟨⟨[], rfl, (fun q hq => by cases hq), by simp⟩, Nat.le_refl _, rfl, ?_⟩
  have hd := drop_of hp
  cases back with
  | none =>
    have h : Mt f ps t = Mt f (ps.drop place) (t.drop at_) := h
    rw [h, hd, any_iff ha]
  | some b =>
    obtain ⟨bp, ba⟩ := b
    obtain ⟨⟨seg, hs, hn, hat⟩, _, he, hb⟩ := h
    rw [hb]
    constructor
    · rintro ⟨k, h1, h2, h⟩
      rw [hs] at h
      obtain ⟨h3, h4⟩ := Mt_seg hn h
      rw [hd, List.drop_drop] at h4
      rw [List.length_drop] at h3
      obtain ⟨k', h5, h6, h7⟩ := (any_iff (by omega)).mp h4
      exact ⟨k', by omega, h6, h7⟩
    · intro h
      refine ⟨ba, Nat.le_refl _, by omega, ?_⟩
      rw [he, hd, any_iff ha]
      exact h
theorem ginv_take {q : Pc} {d : Nat} (h : GInv f ps t place at_ back) (hp : ps[place]? = some q) (hq : q ≠ .any) (hd : t[at_]? = some d) (hk : tkF f q d = true) : GInv f ps t (place + 1) (at_ + 1) back := by
  have h1 := drop_of hp
  have h2 := drop_of hd
  have e : Mt f (ps.drop place) (t.drop at_) = Mt f (ps.drop (place + 1)) (t.drop (at_ + 1)) := by rw [h1, h2, Mt_cons hq, hk, Bool.true_and]
  cases back with
  | none =>
    have h : Mt f ps t = Mt f (ps.drop place) (t.drop at_) := h
    exact h.trans e
  | some b =>
    obtain ⟨bp, ba⟩ := b
    obtain ⟨⟨seg, hs, hn, hat⟩, hle, he, hb⟩ := h
    refine ⟨⟨seg ++ [q], by rw [hs, h1]; simp, ?_, by rw [List.length_append, List.length_singleton]; omega⟩, by omega, he.trans e, hb⟩
    intro x hx
    rcases List.mem_append.mp hx with hx | hx
    · exact hn x hx
    · rw [List.mem_singleton.mp hx]; exact hq
/-- the search can go no further here -/
def Stuck (f : Nat → Nat → Bool) (ps : List Pc) (t : List Nat) (place at_ : Nat) : Prop := ps.length ≤ place ∨ ∃ q d, ps[place]? = some q ∧ q ≠ .any ∧ t[at_]? = some d ∧ tkF f q d = false
theorem stuck_false (h : Stuck f ps t place at_) (ha : at_ < t.length) : Mt f (ps.drop place) (t.drop at_) = false := by
  rcases h with h | ⟨q, d, h1, h2, h3, h4⟩
  · rw [List.drop_eq_nil_of_le h, Mt_nil]
    cases e : t.drop at_ with
    | nil => have := congrArg List.length e; rw [List.length_drop, List.length_nil] at this; omega
    | cons _ _ => rfl
  · rw [drop_of h1, drop_of h3, Mt_cons h2, h4, Bool.false_and]
theorem ginv_none (h : GInv f ps t place at_ none) (hs : Stuck f ps t place at_) (ha : at_ < t.length) : Mt f ps t = false := by
  have h : Mt f ps t = Mt f (ps.drop place) (t.drop at_) := h
  rw [h, stuck_false hs ha]
theorem ginv_back {bp ba : Nat} (h : GInv f ps t place at_ (some (bp, ba))) (hs : Stuck f ps t place at_) (ha : at_ < t.length) : GInv f ps t bp (ba + 1) (some (bp, ba + 1)) := by
  obtain ⟨⟨seg, hs', hn, hat⟩, hle, he, hb⟩ := h
  refine ⟨⟨[], rfl, (fun q hq => by cases hq), by simp⟩, Nat.le_refl _, rfl, ?_⟩
  rw [hb]
  constructor
  · rintro ⟨k, h1, h2, h⟩
    refine ⟨k, ?_, h2, h⟩
    rcases Nat.lt_or_ge ba k with h3 | h3
    · exact h3
    · obtain rfl : k = ba := by omega
      rw [he, stuck_false hs ha] at h
      cases h
  · rintro ⟨k, h1, h2, h⟩
    exact ⟨k, by omega, h2, h⟩
theorem ginv_end (h : GInv f ps t place at_ back) (ha : at_ = t.length) : Mt f ps t = Mt f (ps.drop place) [] := by
  have ht : t.drop at_ = [] := by rw [ha]; exact List.drop_length
  cases back with
  | none =>
    have h : Mt f ps t = Mt f (ps.drop place) (t.drop at_) := h
    rw [h, ht]
  | some b =>
    obtain ⟨bp, ba⟩ := b
    obtain ⟨⟨seg, hs, hn, hat⟩, hle, he, hb⟩ := h
    rw [ht] at he
    rw [← he, Bool.eq_iff_iff, hb]
    constructor
    · rintro ⟨k, h1, h2, h⟩
      have h5 := h
      rw [hs] at h
      obtain ⟨h3, _⟩ := Mt_seg hn h
      rw [List.length_drop] at h3
      obtain rfl : k = ba := by omega
      exact h5
    · intro h
      exact ⟨ba, Nat.le_refl _, by omega, h⟩
theorem back_le {bp ba : Nat} (h : GInv f ps t place at_ (some (bp, ba))) : bp ≤ place ∧ ba ≤ at_ := by
  obtain ⟨⟨seg, _, _, hat⟩, hle, _⟩ := h
  exact ⟨hle, by omega⟩

/-- the measure of the search -/
def gm (n k place at_ : Nat) (bp ba : Nat) : Nat := ((n + 1 - bp) * (k + 2) + (k + 1 - ba)) * (k + 2) + (k + 1 - at_)
theorem lex2 {X X' K c c' : Nat} (h : X' + 1 ≤ X) (hc : c' < K) : X' * K + c' < X * K + c := by
  have h1 : (X' + 1) * K ≤ X * K := Nat.mul_le_mul_right K h
  rw [Nat.add_mul, Nat.one_mul] at h1
  omega
theorem gm_any {n k place at_ at' bp ba ba' p' : Nat} (h : bp < p') (h2 : p' ≤ n) : gm n k place at' p' ba' < gm n k place at_ bp ba :=
  lex2 (Nat.succ_le_of_lt (lex2 (by omega) (by omega))) (by omega)
theorem gm_back {n k place place' at_ at' bp ba : Nat} (h : ba < k + 1) : gm n k place' at' bp (ba + 1) < gm n k place at_ bp ba :=
  lex2 (by
    have := Nat.le_refl ((n + 1 - bp) * (k + 2))
    omega) (by omega)
theorem gm_take {n k place place' at_ bp ba : Nat} (h : at_ < k + 1) : gm n k place' (at_ + 1) bp ba < gm n k place at_ bp ba := by
  unfold gm; omega

/-! the rows of the law -/
theorem Mt_append {qs : List Pc} : ∀ {ps : List Pc} {u : List Nat}, Mt f (ps ++ qs) u = true ↔ ∃ i, i ≤ u.length ∧ Mt f ps (u.take i) = true ∧ Mt f qs (u.drop i) = true
  | [], u => by
    constructor
    · intro h; exact ⟨0, Nat.zero_le _, by simp [Mt_nil], h⟩
    · rintro ⟨i, hi, h1, h2⟩
      rw [Mt_nil, List.isEmpty_iff, List.take_eq_nil_iff] at h1
      rcases h1 with rfl | rfl
      · exact h2
      · simpa using h2
  | .any :: ps, u => by
    rw [List.cons_append, Mt_any]
    constructor
    · rintro ⟨k, hk, h⟩
      obtain ⟨i, hi, h1, h2⟩ := Mt_append.mp h
      rw [List.length_drop] at hi
      refine ⟨k + i, by omega, ?_, ?_⟩
      · rw [Mt_any]
        refine ⟨k, by rw [List.length_take]; omega, ?_⟩
        rw [List.drop_take, show k + i - k = i by omega]
        exact h1
      · rw [List.drop_drop] at h2
        exact h2
    · rintro ⟨i, hi, h1, h2⟩
      obtain ⟨k, hk, h3⟩ := Mt_any.mp h1
      rw [List.length_take] at hk
      rw [List.drop_take] at h3
      refine ⟨k, by omega, Mt_append.mpr ⟨i - k, by rw [List.length_drop]; omega, h3, ?_⟩⟩
      rw [List.drop_drop, show k + (i - k) = i by omega]
      exact h2
  | .one :: ps, [] => by
    rw [List.cons_append, Mt_cons_nil (by simp)]
    constructor
    · intro h; cases h
    · rintro ⟨i, hi, h1, h2⟩
      rw [List.take_nil, Mt_cons_nil (by simp)] at h1
      cases h1
  | .one :: ps, d :: u => by
    rw [List.cons_append, Mt_cons (by simp)]
    constructor
    · intro h
      rw [Bool.and_eq_true] at h
      obtain ⟨i, hi, h1, h2⟩ := Mt_append.mp h.2
      exact ⟨i + 1, by simpa using hi, by rw [List.take_succ_cons, Mt_cons (by simp), h.1, h1]; rfl, by simpa using h2⟩
    · rintro ⟨i, hi, h1, h2⟩
      cases i with
      | zero => rw [List.take_zero, Mt_cons_nil (by simp)] at h1; cases h1
      | succ i =>
        rw [List.take_succ_cons, Mt_cons (by simp), Bool.and_eq_true] at h1
        rw [Bool.and_eq_true]
        exact ⟨h1.1, Mt_append.mpr ⟨i, by simpa using hi, h1.2, by simpa using h2⟩⟩
  | .sign c :: ps, [] => by
    rw [List.cons_append, Mt_cons_nil (by simp)]
    constructor
    · intro h; cases h
    · rintro ⟨i, hi, h1, h2⟩
      rw [List.take_nil, Mt_cons_nil (by simp)] at h1
      cases h1
  | .sign c :: ps, d :: u => by
    rw [List.cons_append, Mt_cons (by simp)]
    constructor
    · intro h
      rw [Bool.and_eq_true] at h
      obtain ⟨i, hi, h1, h2⟩ := Mt_append.mp h.2
      exact ⟨i + 1, by simpa using hi, by rw [List.take_succ_cons, Mt_cons (by simp), h.1, h1]; rfl, by simpa using h2⟩
    · rintro ⟨i, hi, h1, h2⟩
      cases i with
      | zero => rw [List.take_zero, Mt_cons_nil (by simp)] at h1; cases h1
      | succ i =>
        rw [List.take_succ_cons, Mt_cons (by simp), Bool.and_eq_true] at h1
        rw [Bool.and_eq_true]
        exact ⟨h1.1, Mt_append.mpr ⟨i, by simpa using hi, h1.2, by simpa using h2⟩⟩
end Plain
def Con (w : World) (loose : List Str) (mean : ExcName → Option Value) (mg mb : Str → Option Value) (f : Addr) (news : List (Addr × Obj)) (vs : List Value) (need : Nat) (post : List (Addr × Obj) → Value → Prop) : Prop :=
  ∀ (dp un : Nat) (gd : Option (List Code)) (cn : Str) (cs : Scope) (a : Addr) (ccd : Value) (cl : List (Str × Addr)) (outer : List Env) (A₀ : Around) (base h₀ : Heap) (L : Addr) (m : Str → Option Value) (s : Shared) (Q E : Value → Shared → Prop),
    Below A₀ base outer h₀ → Fr h₀ L s.heap m → (hd.heap_39 w.params).In h₀ → News h₀ L s.heap news → Top hd.view_39 loose mean mg mb h₀ → cs.kind = .function →
    dp + need < recursionLimit → un + 8 * need < cLine →
    (∀ r h' tk' news', Fr h₀ L h' m → News h₀ L h' news' → post news' r → Q r { s with heap := h', toks := tk' }) →
    wpAny (model PySem.Challenge.rw_qd0119_01.row.prog w) (ktrTop dp un gd cn cs L a ccd cl outer) (call (.ref f) vs) Q E s

theorem Con.use {w : World} {loose : List Str} {mean : ExcName → Option Value} {mg mb : Str → Option Value} {f : Addr} {news : List (Addr × Obj)} {vs : List Value} {need : Nat} {post : List (Addr × Obj) → Value → Prop}
    {dp un : Nat} {gd : Option (List Code)} {cn : Str} {cs : Scope} {a : Addr} {ccd : Value} {cl : List (Str × Addr)} {outer : List Env} {A₀ : Around} {base h₀ : Heap} {L : Addr} {m : Str → Option Value} {s : Shared} {Q E : Value → Shared → Prop}
    (B : Below A₀ base outer h₀) (F : Fr h₀ L s.heap m) (X : (hd.heap_39 w.params).In h₀) (N : News h₀ L s.heap news) (T : Top hd.view_39 loose mean mg mb h₀) (hk : cs.kind = .function)
    (hd1 : dp + need < recursionLimit) (hu : un + 8 * need < cLine) (C : Con w loose mean mg mb f news vs need post)
    (ret : ∀ r h' tk' news', Fr h₀ L h' m → News h₀ L h' news' → post news' r → Q r { s with heap := h', toks := tk' }) :
    wpAny (model PySem.Challenge.rw_qd0119_01.row.prog w) (ktrTop dp un gd cn cs L a ccd cl outer) (call (.ref f) vs) Q E s := C _ _ _ _ _ _ _ _ _ _ _ _ _ _ _ _ _ B F X N T hk hd1 hu ret

/-- the same, with a fact of the caller's own heap ahead -/
def ConB (w : World) (loose : List Str) (mean : ExcName → Option Value) (mg mb : Str → Option Value) (f : Addr) (news : List (Addr × Obj)) (vs : List Value) (need : Nat) (pre : Heap → Prop) (post : List (Addr × Obj) → Value → Prop) : Prop :=
  ∀ (dp un : Nat) (gd : Option (List Code)) (cn : Str) (cs : Scope) (a : Addr) (ccd : Value) (cl : List (Str × Addr)) (outer : List Env) (A₀ : Around) (base h₀ : Heap) (L : Addr) (m : Str → Option Value) (s : Shared) (Q E : Value → Shared → Prop),
    Below A₀ base outer h₀ → Fr h₀ L s.heap m → (hd.heap_39 w.params).In h₀ → News h₀ L s.heap news → Top hd.view_39 loose mean mg mb h₀ → cs.kind = .function →
    dp + need < recursionLimit → un + 8 * need < cLine → pre base →
    (∀ r h' tk' news', Fr h₀ L h' m → News h₀ L h' news' → post news' r → Q r { s with heap := h', toks := tk' }) →
    wpAny (model PySem.Challenge.rw_qd0119_01.row.prog w) (ktrTop dp un gd cn cs L a ccd cl outer) (call (.ref f) vs) Q E s

/-- one entry taken out of the ledger, the rest as it stood -/
inductive Pick (d : Addr) (o : Obj) : List (Addr × Obj) → List (Addr × Obj) → Prop
  | head {r} : Pick d o ((d, o) :: r) r
  | tail {p r r'} : Pick d o r r' → Pick d o (p :: r) (p :: r')
theorem Pick.sub {d : Addr} {o : Obj} {l r : List (Addr × Obj)} (h : Pick d o l r) : ∀ p ∈ (d, o) :: r, p ∈ l := by
  induction h with
  | head => exact fun _ h => h
  | tail _ ih =>
    intro q hq
    rcases List.mem_cons.mp hq with rfl | hq
    · exact .tail _ (ih _ (.head _))
    · rcases List.mem_cons.mp hq with rfl | hq
      · exact .head _
      · exact .tail _ (ih _ (.tail _ hq))
theorem Pick.news {d : Addr} {o : Obj} {l r : List (Addr × Obj)} {h₀ h : Heap} {L : Addr} (p : Pick d o l r) (N : News h₀ L h l) : News h₀ L h ((d, o) :: r) := fun q hq => N q (p.sub q hq)
theorem ne_of_allLt {d : Addr} {l : List (Addr × Obj)} (h : AllLt d l) : ∀ p ∈ l, p.1 ≠ d := fun p hp => Nat.ne_of_lt (ktn_ltOf h p hp)

theorem tl1 {h₀ h : Heap} {L : Addr} {p : Addr × Obj} {l : List (Addr × Obj)} (N : News h₀ L h (p :: l)) : News h₀ L h l := fun q hq => N q (.tail _ hq)
theorem tl2 {h₀ h : Heap} {L : Addr} {p q : Addr × Obj} {l : List (Addr × Obj)} (N : News h₀ L h (p :: q :: l)) : News h₀ L h l := tl1 (tl1 N)
theorem swp {h₀ h : Heap} {L : Addr} {p q : Addr × Obj} {l : List (Addr × Obj)} (N : News h₀ L h (p :: q :: l)) : News h₀ L h (q :: p :: l) := fun r hr => N r (by
  rcases List.mem_cons.mp hr with rfl | hr
  · exact .tail _ (.head _)
  · rcases List.mem_cons.mp hr with rfl | hr
    · exact .head _
    · exact .tail _ (.tail _ hr))
theorem rot3 {h₀ h : Heap} {L : Addr} {p q r : Addr × Obj} {l : List (Addr × Obj)} (N : News h₀ L h (p :: q :: r :: l)) : News h₀ L h (r :: p :: q :: l) := fun x hx => N x (by
  simp only [List.mem_cons] at hx ⊢
  rcases hx with hx | hx | hx | hx <;> simp [hx])
theorem ne_of_ltAll {d : Addr} {l : List (Addr × Obj)} (h : ∀ p ∈ l, p.1 < d) : ∀ p ∈ l, p.1 ≠ d := fun p hp => Nat.ne_of_lt (h p hp)
theorem ltAll_of {d : Addr} {l : List (Addr × Obj)} (h : AllLt d l) : ∀ p ∈ l, p.1 < d := ktn_ltOf h
def SrcOk (so : Obj) : Prop := ∃ b x tb tx n, so = W.listOf #[.int b tb, .int x tx] n ∧ 0 ≤ b ∧ 0 ≤ x ∧ x < 2147483647

section
variable {prog : Program} {w : World} {A : Around} {E : Value → Shared → Prop} {s : Shared} {h₀ : Heap} {L D : Addr} {m : Str → Option Value} {rest : List (Addr × Obj)} {its : Array Value} {n : Nat} {k : Int} {t : Tok} {v x y : Value}
theorem set_at {Q : Unit → Shared → Prop} (F : Fr h₀ L s.heap m) (N : News h₀ L s.heap ((D, W.listOf its n) :: rest)) (hne : ∀ p ∈ rest, p.1 ≠ D) (h0 : 0 ≤ k) (hfit : k < 2 ^ 63) (hn : k < its.size)
    (h : ∀ h', Fr h₀ L h' m → News h₀ L h' ((D, W.listOf (its.setIfInBounds k.toNat v) n) :: rest) → Q () { s with heap := h' }) : wpAny (model prog w) A (setItem (.ref D) (.int k t) v) Q E s := by
  have z := N (D, W.listOf its n) (.head _)
  refine ki_setAt z.1 h0 hfit hn (h _ (F.change (Heap.SameBut.update ..) z.2.1 z.2.2) ?_)
  exact ki_turn (pre := []) (post := rest) _ N (fun _ h => nomatch h) hne rfl (by simp)
theorem set_0 {Q : Unit → Shared → Prop} (F : Fr h₀ L s.heap m) (N : News h₀ L s.heap ((D, W.listOf #[x, y] n) :: rest)) (hne : ∀ p ∈ rest, p.1 ≠ D)
    (h : ∀ h', Fr h₀ L h' m → News h₀ L h' ((D, W.listOf #[v, y] n) :: rest) → Q () { s with heap := h' }) : wpAny (model prog w) A (setItem (.ref D) (.int 0 t) v) Q E s :=
  set_at F N hne (by decide) (by decide) (by simp) h
theorem set_1 {Q : Unit → Shared → Prop} (F : Fr h₀ L s.heap m) (N : News h₀ L s.heap ((D, W.listOf #[x, y] n) :: rest)) (hne : ∀ p ∈ rest, p.1 ≠ D)
    (h : ∀ h', Fr h₀ L h' m → News h₀ L h' ((D, W.listOf #[x, v] n) :: rest) → Q () { s with heap := h' }) : wpAny (model prog w) A (setItem (.ref D) (.int 1 t) v) Q E s :=
  set_at F N hne (by decide) (by decide) (by simp) h

theorem item_at {news : List (Addr × Obj)} {value slice : PySem.Expr} {Q : Value → Shared → Prop} (N : News h₀ L s.heap news) (hm : (D, W.listOf its n) ∈ news) (h0 : 0 ≤ k) (hhi : k < 2 ^ 63) (hx : its[k.toNat]? = some v) (h : Q v s)
    (hs : subscripted slice false (.ref D) (.int k t) = operate [.ref D, .int k t] (getItem (.ref D) (.int k t)) := by with_unfolding_all rfl) :
    wpAny (model prog w) A (subscriptTail value slice (.ref D) (.int k t)) Q E s :=
  have hl : s.heap.IsList D its := PySem.IsL.isList (n := n) (N _ hm).1
  tail_any hl.typeIs slot_list_getitem.lookup (wpAny_getItem_list hl h0 hhi hx h) hs
theorem item_0 {news : List (Addr × Obj)} {value slice : PySem.Expr} {Q : Value → Shared → Prop} (N : News h₀ L s.heap news) (hm : (D, W.listOf #[x, y] n) ∈ news) (h : Q x s)
    (hs : subscripted slice false (.ref D) (.int 0 t) = operate [.ref D, .int 0 t] (getItem (.ref D) (.int 0 t)) := by with_unfolding_all rfl) :
    wpAny (model prog w) A (subscriptTail value slice (.ref D) (.int 0 t)) Q E s := item_at N hm (by decide) (by decide) rfl h hs
theorem item_1 {news : List (Addr × Obj)} {value slice : PySem.Expr} {Q : Value → Shared → Prop} (N : News h₀ L s.heap news) (hm : (D, W.listOf #[x, y] n) ∈ news) (h : Q y s)
    (hs : subscripted slice false (.ref D) (.int 1 t) = operate [.ref D, .int 1 t] (getItem (.ref D) (.int 1 t)) := by with_unfolding_all rfl) :
    wpAny (model prog w) A (subscriptTail value slice (.ref D) (.int 1 t)) Q E s := item_at N hm (by decide) (by decide) rfl h hs
theorem len_at {news : List (Addr × Obj)} {Q : Value → Shared → Prop} (N : News h₀ L s.heap news) (hm : (D, W.listOf its n) ∈ news) (hfit : its.size < 1000000)
    (h : Q (.int its.size (s.toks + 1)) { s with toks := s.toks + 1 + 1 }) : wpAny (model prog w) A (call (.builtin "len") [.ref D]) Q E s :=
  PyProof.Rows.len_list (PySem.IsL.isList (n := n) (N _ hm).1) (by omega) h
theorem item_in {news : List (Addr × Obj)} {value slice : PySem.Expr} {Q : Value → Shared → Prop} (N : News h₀ L s.heap news) (hm : (D, W.listOf its n) ∈ news) (h0 : 0 ≤ k) (hlt : k < its.size) (hfit : its.size < 1000000) (h : ∀ v ∈ its.toList, Q v s)
    (hs : subscripted slice false (.ref D) (.int k t) = operate [.ref D, .int k t] (getItem (.ref D) (.int k t)) := by with_unfolding_all rfl) :
    wpAny (model prog w) A (subscriptTail value slice (.ref D) (.int k t)) Q E s :=
  item_at (v := its[k.toNat]'(by omega)) N hm h0 (by omega) (Array.getElem?_eq_getElem _) (h _ (Array.getElem_mem_toList _)) hs
end
abbrev tupOf (its : Array Value) : Obj := { cls := .type "tuple", data := .seq its }
theorem newTuple_my {M : Model} {A : Around} {E : Value → Shared → Prop} {s : Shared} {h₀ : Heap} {L : Addr} {m : Str → Option Value} {news : List (Addr × Obj)} {vs : List Value} {Q : Value → Shared → Prop} (F : Fr h₀ L s.heap m) (N : News h₀ L s.heap news)
    (h : ∀ a h', Fr h₀ L h' m → News h₀ L h' ((a, tupOf vs.toArray) :: news) → (∀ p ∈ news, p.1 < a) → Q (.ref a) { s with heap := h' }) (hsz : vs.length ≤ 1000) :
    wpAny M A (newTuple vs) Q E s :=
  newTuple_N F N (fun h' F' N' => h _ h' F' N' fun p hp => Heap.lt_size (N p hp).1) (by rw [PySem.sizeLine_eq]; omega)
theorem eq_ii {prog : Program} {w : World} {A : Around} {E : Value → Shared → Prop} {s : Shared} {a b : Int} {t u : Tok} {Q : Value → Shared → Prop} (h : Q (.bool (decide (a = b))) s) : wpAny (model prog w) A (compareOp .Eq (.int a t) (.int b u)) Q E s := PyProof.Rows.eq_int h
theorem size_ok {vs : List Value} (h : vs.length ≤ 10000) : vs.toArray.size ≤ sizeLine := by
  rw [List.size_toArray, PySem.sizeLine_eq]; omega
theorem cat_at {prog : Program} {w : World} {A : Around} {E : Value → Shared → Prop} {s : Shared} {h₀ : Heap} {L a b : Addr} {m : Str → Option Value} {news : List (Addr × Obj)} {its its2 : Array Value} {n n2 : Nat} {Q : Value → Shared → Prop} (F : Fr h₀ L s.heap m) (N : News h₀ L s.heap news)
    (h1 : (a, W.listOf its n) ∈ news) (h2 : (b, W.listOf its2 n2) ∈ news) (hz : its.size + its2.size ≤ 100000)
    (h : ∀ D h', Fr h₀ L h' m → News h₀ L h' ((D, W.listOf (its.toList ++ its2.toList).toArray 0) :: news) → (∀ p ∈ news, p.1 < D) → Q (.ref D) { s with heap := h' }) :
    wpAny (model prog w) A (binaryOp .Add (.ref a) (.ref b)) Q E s :=
  PyProof.Rows.add_arrays F N (PySem.IsL.isList (n := n) (N _ h1).1) (PySem.IsL.isList (n := n2) (N _ h2).1) (fun h' F' N' => h _ h' F' N' fun p hp => Heap.lt_size (N p hp).1) (by rw [PySem.sizeLine_eq]; omega)
theorem cat_abs {prog : Program} {w : World} {A : Around} {E : Value → Shared → Prop} {s : Shared} {h₀ : Heap} {L a b : Addr} {m : Str → Option Value} {news : List (Addr × Obj)} {its its2 : Array Value} {n n2 : Nat} {Q : Value → Shared → Prop} (F : Fr h₀ L s.heap m) (N : News h₀ L s.heap news)
    (h1 : (a, W.listOf its n) ∈ news) (h2 : (b, W.listOf its2 n2) ∈ news) (hz : its.size + its2.size ≤ 100000)
    (h : ∀ D h' its3, its3.size = its.size + its2.size → (∀ v ∈ its3.toList, v ∈ its.toList ∨ v ∈ its2.toList) → Fr h₀ L h' m → News h₀ L h' ((D, W.listOf its3 0) :: news) → (∀ p ∈ news, p.1 < D) → Q (.ref D) { s with heap := h' }) :
    wpAny (model prog w) A (binaryOp .Add (.ref a) (.ref b)) Q E s :=
  cat_at F N h1 h2 hz fun D h' F' N' l => h D h' _ (by simp) (by intro v hv; simpa using hv) F' N' l
theorem cellsNe {x L : Addr} {rest : List (Addr × Obj)} (h : x < L ∧ AllLt L rest) : (∀ p ∈ rest, p.1 ≠ L + 1) ∧ (∀ p ∈ rest, p.1 ≠ L + 1 + 1) ∧ (∀ p ∈ rest, p.1 ≠ L + 1 + 1 + 1) ∧ (∀ p ∈ rest, p.1 ≠ L + 1 + 1 + 1 + 1) :=
  ⟨fun p hp => Nat.ne_of_lt (Nat.lt_succ_of_lt (ktn_ltOf h.2 p hp)), fun p hp => Nat.ne_of_lt (Nat.lt_succ_of_lt (Nat.lt_succ_of_lt (ktn_ltOf h.2 p hp))), fun p hp => Nat.ne_of_lt (Nat.lt_succ_of_lt (Nat.lt_succ_of_lt (Nat.lt_succ_of_lt (ktn_ltOf h.2 p hp)))), fun p hp => Nat.ne_of_lt (Nat.lt_succ_of_lt (Nat.lt_succ_of_lt (Nat.lt_succ_of_lt (Nat.lt_succ_of_lt (ktn_ltOf h.2 p hp)))))⟩
/-- the walk stands still here -/
def Stop (P : Prop) : Prop := P
theorem item_nat {prog : Program} {w : World} {A : Around} {E : Value → Shared → Prop} {s : Shared} {h₀ : Heap} {L D : Addr} {news : List (Addr × Obj)} {vs : List Value} {n j : Nat} {t : Tok} {v : Value} {value slice : PySem.Expr} {Q : Value → Shared → Prop} (N : News h₀ L s.heap news) (hm : (D, W.listOf vs.toArray n) ∈ news) (hx : vs[j]? = some v) (hfit : vs.length < 1000000) (h : Q v s)
    (hs : subscripted slice false (.ref D) (.int (j : Int) t) = operate [.ref D, .int (j : Int) t] (getItem (.ref D) (.int (j : Int) t)) := by with_unfolding_all rfl) :
    wpAny (model prog w) A (subscriptTail value slice (.ref D) (.int (j : Int) t)) Q E s := by
  have hj : j < vs.length := (List.getElem?_eq_some_iff.mp hx).1
  exact item_at N hm (by omega) (by omega) (by simpa using hx) h hs
theorem mulfit (z : Int) : Builtin.Int.intBits (z.fmod 2147483647) ≤ 64 := by
  have h1 := Int.fmod_nonneg_of_pos z (b := 2147483647) (by decide)
  have h2 := Int.fmod_lt_of_pos z (b := 2147483647) (by decide)
  exact PySem.intBits_le_64 (by omega) (by omega)
theorem fdiv_nn {b top : Int} (hb : 0 ≤ b) (ht : 1 ≤ top) : 0 ≤ b.fdiv top := by
  rw [Int.fdiv_eq_ediv_of_nonneg _ (by omega)]; exact Int.ediv_nonneg hb (by omega)
theorem fdiv_le {b top : Int} (hb : 0 ≤ b) (ht : 1 ≤ top) : b.fdiv top ≤ b := by
  rw [Int.fdiv_eq_ediv_of_nonneg _ (by omega)]; exact Int.ediv_le_self _ hb

theorem room_m {d dp n m r : Nat} (k : Nat) (h : dp + n < r) (hd : d = dp + k) (e : Nat.ble (k + m) n = true) : d + m < r := by
  subst hd
  have := Nat.le_of_ble_eq_true e
  omega
theorem room_0 {d dp n r : Nat} (k : Nat) (h : dp + n < r) (hd : d = dp + k) (e : Nat.ble k n = true) : d < r := by
  subst hd
  have := Nat.le_of_ble_eq_true e
  omega
theorem unit_m {u un n m r : Nat} (k : Nat) (h : un + 8 * n < r) (hu : u = un + k) (e : Nat.ble (k + 8 * m) (8 * n) = true) : u + 8 * m < r := by
  subst hu
  have := Nat.le_of_ble_eq_true e
  omega
theorem lt10 {n m : Nat} (h : n < 10) (e : Nat.ble 10 m = true) : n < m := Nat.lt_of_lt_of_le h (Nat.le_of_ble_eq_true e)
theorem lt100 {n m : Nat} (h : n < 100) (e : Nat.ble 100 m = true) : n < m := Nat.lt_of_lt_of_le h (Nat.le_of_ble_eq_true e)
theorem small_k {k : Nat} (h : k < 100000) : Builtin.Range.small 0 (k : Int) 1 = true := small_one (by omega) (by omega) (by omega) (by omega)
theorem rsz_k {k : Nat} : Builtin.Range.rangeSize 0 (k : Int) 1 = (k : Int) := by rw [rangeSize_nat]; omega
theorem szl_k {k : Nat} (h : k < 100000) : k ≤ sizeLine := by rw [PySem.sizeLine_eq]; omega
theorem sz14a {n : Nat} (h : n = 14) : 1 ≤ n := by omega
theorem sz14b {n : Nat} (h : n = 14) : n < 1000 := by omega
theorem pj1 {a b c : Prop} (h : a ∧ b ∧ c) : b := h.2.1
theorem pj2 {a b c d : Prop} (h : a ∧ b ∧ c ∧ d) : c := h.2.2.1
theorem pj3 {a b c d e : Prop} (h : a ∧ b ∧ c ∧ d ∧ e) : d := h.2.2.2.1
theorem pj4 {a b c d e f : Prop} (h : a ∧ b ∧ c ∧ d ∧ e ∧ f) : e := h.2.2.2.2.1
theorem pj5 {a b c d e f g : Prop} (h : a ∧ b ∧ c ∧ d ∧ e ∧ f ∧ g) : f := h.2.2.2.2.2.1
theorem pj6 {a b c d e f g i : Prop} (h : a ∧ b ∧ c ∧ d ∧ e ∧ f ∧ g ∧ i) : g := h.2.2.2.2.2.2.1
theorem pj7 {a b c d e f g i j : Prop} (h : a ∧ b ∧ c ∧ d ∧ e ∧ f ∧ g ∧ i ∧ j) : i := h.2.2.2.2.2.2.2.1
theorem le_lit {n m k : Nat} (h : n ≤ m) (e : Nat.ble m k = true) : n ≤ k := Nat.le_trans h (Nat.le_of_ble_eq_true e)
theorem ne_off {L : Nat} (a b : Nat) (h : Nat.beq a b = false) : L + a ≠ L + b := by
  have : a ≠ b := fun e => by subst e; rw [Nat.beq_refl] at h; cases h
  omega
theorem small_02 : Builtin.Range.small 0 2 1 = true := small_one (by decide) (by decide) (by decide) (by decide)
theorem len1 {prog : Program} {w : World} {A : Around} {E : Value → Shared → Prop} {s : Shared} {K : Frag} {h₀ : Heap} {L a : Addr} {m mg mb : Str → Option Value} {cn : Str} {cs : Scope} {ccd : Value} {cl : List (Str × Addr)} {p : Program} {loose : List Str} {v : Str} {p1 p2 p3 : Pos} {x : Value} {Q : Value → Shared → Prop}
    (F : Fr h₀ L s.heap m) (X : K.In h₀) (T : TopRead p loose mg mb h₀) (e : nsIn K mainGlobals (Str.ofString "len") = some none) (hv : m v = some x) (h : wpAny (model prog w) A (call (.builtin "len") [x]) Q E s)
    (hk : cs.kind = .function := by rfl) (hx : (envX cn cs L a ccd cl).kindOf (Str.ofString "len") = some .globalImplicit := by rfl) (hx2 : (envX cn cs L a ccd cl).kindOf v = some .local := by rfl) (hd2 : (v == ("__debug__" : Str)) = false := by decide) :
    wpAny (model prog w) A (eval (.Call (.Name (Str.ofString "len") p1) [.Name v p2] [] p3) (envX cn cs L a ccd cl)) Q E s :=
  Call_ (nameX_B F X T e PySem.boot_len (by decide) (callWith_builtin1 (args_cons (nameX_L F hv (args_nil h) hk hx2 hd2))) hk hx)
section Loops
variable {prog : Program} {w : World} {A : Around} {E : Value → Shared → Prop} {s : Shared} {env : Env} {h₀ : Heap}

abbrev NoE : Value → Shared → Prop := fun _ _ => False

/-- what a turn of a for hands on: the frame, the iterator's entry I and the ledger, by the word J -/
def TurnEnd (h₀ : Heap) (L I : Addr) (oI : Obj) (J : (Str → Option Value) → List (Addr × Obj) → Prop) (s : Shared) (Q : Flow → Shared → Prop) (f : Flow) (s₂ : Shared) : Prop :=
  match f with
  | .ret v => Q (.ret v) s₂
  | .brk => Q .next s₂
  | _ => ∃ h' tk' m' nx', s₂ = { s with heap := h', toks := tk' } ∧ Fr h₀ L h' m' ∧ News h₀ L h' ((I, oI) :: nx') ∧ (∀ p ∈ nx', p.1 ≠ I) ∧ J m' nx'

theorem for_my {target : Expr} {body : List Stmt} {Q : Flow → Shared → Prop} {I : Addr} {fp : List Addr} {n : Nat} {P : Nat → Value → Prop} {St : Nat → Heap → Prop} {m : Str → Option Value} {news : List (Addr × Obj)}
    (W : Walks prog w A I fp [I] n P St) (hIo : ∀ i h, St i h → ∃ o, h.get? I = some o) (hL : env.locals ≠ I) (hI₀ : h₀.get? I = none) (hnw : ∀ p ∈ news, p.1 ≠ I) (hst : St 0 s.heap)
    (F : Fr h₀ env.locals s.heap m) (N : News h₀ env.locals s.heap news)
    (hgo : ∀ i (s' : Shared) v (Q' : Unit → Shared → Prop), St i s'.heap → Q' () s' → wpAny (model prog w) A (letOwnedTupleGo target (.ref I) v) Q' NoE s')
    (J : Nat → (Str → Option Value) → List (Addr × Obj) → Prop) (hfp : ∀ b ∈ fp, b = I ∨ ∃ o, ∀ i m nx, J i m nx → (b, o) ∈ nx) (h0 : J 0 m news)
    (turn : ∀ i v m₁ nx h tk oI, i < n → P i v → J i m₁ nx → (∀ p ∈ nx, p.1 ≠ I) → Fr h₀ env.locals h m₁ → News h₀ env.locals h ((I, oI) :: nx) →
      wpAny (model prog w) A (assign target env v) (fun _ s₂ => wpAny (model prog w) A (execs body env) (TurnEnd h₀ env.locals I oI (J (i + 1)) s Q) NoE s₂) NoE { s with heap := h, toks := tk })
    (done : ∀ m₁ nx h tk, J n m₁ nx → Fr h₀ env.locals h m₁ → News h₀ env.locals h nx → Q .next { s with heap := h, toks := tk }) :
    codeAny (model prog w) A (.forLoop target (.ref I) body [] env) (fun r s' => match r with | .ok f => Q f s' | .error e => cameBackBy (model prog w) A env E e s') s := by
  have no : ∀ {α : Type} {t : Sem α} {Q' : α → Shared → Prop} {E' : Value → Shared → Prop} {s' : Shared}, wpAny (model prog w) A t Q' NoE s' → wpAny (model prog w) A t Q' E' s' := fun h => wpAny_mono h (fun _ _ x => x) fun _ _ x => x.elim
  refine codeAny_forLoop_any
    (fun k s' => ∃ h' tk m' nx i, s' = { s with heap := h', toks := tk } ∧ St i h' ∧ Fr h₀ env.locals h' m' ∧ News h₀ env.locals h' nx ∧ (∀ p ∈ nx, p.1 ≠ I) ∧ J i m' nx ∧ i ≤ n ∧ k = n + 1 - i) ?_ (n + 1)
    ⟨s.heap, s.toks, m, news, 0, rfl, hst, F, N, hnw, h0, Nat.zero_le _, rfl⟩
  rintro k s' ⟨h', tk, m', nx, i, rfl, hst', F', N', hnw', hJ, hi, rfl⟩
  have next : ∀ h₁ : Heap, (∀ b o, b ∉ [I] → h'.get? b = some o → h₁.get? b = some o) → Fr h₀ env.locals h₁ m' ∧ News h₀ env.locals h₁ nx := fun h₁ hk₁ =>
    ⟨LCg.fr_but F' hk₁ hL hI₀, LCg.news_but N' hk₁ hnw'⟩
  by_cases hlt : i < n
  · refine W.item i _ _ _ hlt hst' fun v h₁ tk₁ hP hst₁ hk₁ => ?_
    obtain ⟨F₁, N₁⟩ := next h₁ hk₁
    obtain ⟨oI, heI⟩ := hIo _ _ hst₁
    have N₂ : News h₀ env.locals h₁ ((I, oI) :: nx) := fun p hp => by
      rcases List.mem_cons.mp hp with rfl | hp
      · exact ⟨heI, Ne.symm hL, hI₀⟩
      · exact N₁ p hp
    refine no (hgo (i + 1) _ v _ hst₁ ?_)
    refine no (wpAny_mono (turn i v m' nx h₁ tk₁ oI hlt hP hJ hnw' F₁ N₂) (fun _ s₂ h₂ => no (wpAny_mono h₂ (fun f s₃ h₃ => ?_) fun _ _ e => e)) fun _ _ e => e)
    have fin : (∃ h' tk' m' nx', s₃ = { s with heap := h', toks := tk' } ∧ Fr h₀ env.locals h' m' ∧ News h₀ env.locals h' ((I, oI) :: nx') ∧ (∀ p ∈ nx', p.1 ≠ I) ∧ J (i + 1) m' nx') →
        ∃ m, m < n + 1 - i ∧ ∃ h' tk m' nx i, s₃ = { s with heap := h', toks := tk } ∧ St i h' ∧ Fr h₀ env.locals h' m' ∧ News h₀ env.locals h' nx ∧ (∀ p ∈ nx, p.1 ≠ I) ∧ J i m' nx ∧ i ≤ n ∧ m = n + 1 - i := by
      rintro ⟨h₃', tk₃, m₃, nx₃, rfl, F₃, N₃, ha₃, hJ₃⟩
      refine ⟨n + 1 - (i + 1), by omega, h₃', tk₃, m₃, nx₃, i + 1, rfl, ?_, F₃, fun p hp => N₃ p (.tail _ hp), ha₃, hJ₃, hlt, rfl⟩
      refine W.frame _ _ _ hst₁ fun b hb o e => ?_
      rcases hfp b hb with rfl | ⟨o', ho'⟩
      · rw [heI] at e; cases e; exact (N₃ _ (.head _)).1
      · have e1 := (N₁ _ (ho' _ _ _ hJ)).1
        rw [e] at e1; cases e1
        exact (N₃ _ (.tail _ (ho' _ _ _ hJ₃))).1
    cases f with
    | ret v => exact h₃
    | brk => exact h₃
    | next => exact fin h₃
    | cont => exact fin h₃
  · have hin : i = n := by omega
    subst hin
    refine W.done _ _ _ hst' fun h₁ tk₁ hk₁ => wpAny_execs_nil ?_
    obtain ⟨F₁, N₁⟩ := next h₁ hk₁
    exact done m' nx h₁ tk₁ hJ F₁ N₁

/-- a for over a text -/
theorem for_text {x : Str} {px : Pos} {body : List Stmt} {Q : Flow → Shared → Prop} {xt : Str} {tx : Tok} {m : Str → Option Value} {news : List (Addr × Obj)} (hh : A.handled = none)
    (F : Fr h₀ env.locals s.heap m) (N : News h₀ env.locals s.heap news) (hx : env.kindOf x = some .local) (hp : (env.scope.kind == .class || (env.scope.kind == .module && env.locals != env.globals)) = false)
    (J : (Str → Option Value) → Nat → (Str → Option Value) → List (Addr × Obj) → Prop) (h0 : J m 0 m news)
    (turn : ∀ i c u m₁ nx h tk I oI, xt.cps[i]? = some c → J m i m₁ nx → (∀ p ∈ nx, p.1 ≠ I) → Fr h₀ env.locals h (fun y => if y = x then some (.str ⟨#[c]⟩ u) else m₁ y) → News h₀ env.locals h ((I, oI) :: nx) →
      wpAny (model prog w) A (execs body env) (TurnEnd h₀ env.locals I oI (J m (i + 1)) s Q) NoE { s with heap := h, toks := tk })
    (done : ∀ m₁ nx h tk, J m xt.cps.size m₁ nx → Fr h₀ env.locals h m₁ → News h₀ env.locals h nx → Q .next { s with heap := h, toks := tk }) :
    wpAny (model prog w) A (pyIter (.str xt tx)) (fun it s₂ => codeAny (model prog w) A (.forLoop (.Name x px) it body [] env) (fun r s' => match r with | .ok f => Q f s' | .error e => cameBackBy (model prog w) A env E e s') s₂) E s := by
  have key : ∀ (o : Obj) (ty : String), Walks prog w A s.heap.objs.size [s.heap.objs.size] [s.heap.objs.size] xt.cps.size (SignAt xt) (fun i h => h.IsStrIter s.heap.objs.size ty xt tx i) → (s.heap.push o).IsStrIter s.heap.objs.size ty xt tx 0 →
      codeAny (model prog w) A (.forLoop (.Name x px) (.ref s.heap.objs.size) body [] env) (fun r s' => match r with | .ok f => Q f s' | .error e => cameBackBy (model prog w) A env E e s') { s with heap := s.heap.push o } := by
    intro o ty W hst
    refine for_my (E := E) W (fun i h st => let ⟨o, ho, _⟩ := st; ⟨o, ho⟩) (Nat.ne_of_lt F.ns.lt) (next_is_new F) (fun p hp => Nat.ne_of_lt (Heap.lt_size (N p hp).1)) hst (F.push _) (fun p hp => ⟨Heap.get?_push_of_some _ (N p hp).1, (N p hp).2⟩)
      (fun _ _ _ _ _ hq => wpAny_pure hq) (J m) (fun b hb => .inl (List.mem_singleton.mp hb)) h0 ?_ done
    rintro i v m₁ nx h tk oI hlt ⟨c, u, hc, rfl⟩ hJ hne F₁ N₁
    refine wpAny_assign_Name (wpAny_storeName_local hx F₁.ns (fun h₂ hn₂ hs₂ => ?_) hp)
    exact turn i c u m₁ nx h₂ _ _ oI hc hJ hne (F₁.set hn₂ hs₂) (N₁.set hs₂)
  cases ha : xt.cps.all (· < 128)
  · exact wpAny_pyIter_wide ha (key _ _ (Walks.strWide hh _ xt tx) ⟨_, Heap.get?_push_size _ rfl, rfl, rfl⟩)
  · exact wpAny_pyIter_ascii ha (key _ _ (Walks.strAscii hh _ xt tx) ⟨_, Heap.get?_push_size _ rfl, rfl, rfl⟩)

/-- a for over a list of the ledger, any target -/
theorem for_list {target : Expr} {body : List Stmt} {Q : Flow → Shared → Prop} {l : Addr} {its : Array Value} {k : Nat} {m : Str → Option Value} {news : List (Addr × Obj)} (hh : A.handled = none)
    (F : Fr h₀ env.locals s.heap m) (N : News h₀ env.locals s.heap news)
    (hgo : ∀ I i (s' : Shared) v (Q' : Unit → Shared → Prop), s'.heap.IsListIter I l i → Q' () s' → wpAny (model prog w) A (letOwnedTupleGo target (.ref I) v) Q' NoE s')
    (J : (Str → Option Value) → Nat → (Str → Option Value) → List (Addr × Obj) → Prop) (hm : ∀ i m₁ nx, J m i m₁ nx → (l, W.listOf its k) ∈ nx) (h0 : J m 0 m news)
    (turn : ∀ i v m₁ nx h tk I oI, its[i]? = some v → J m i m₁ nx → (∀ p ∈ nx, p.1 ≠ I) → Fr h₀ env.locals h m₁ → News h₀ env.locals h ((I, oI) :: nx) →
      wpAny (model prog w) A (assign target env v) (fun _ s₂ => wpAny (model prog w) A (execs body env) (TurnEnd h₀ env.locals I oI (J m (i + 1)) s Q) NoE s₂) NoE { s with heap := h, toks := tk })
    (done : ∀ m₁ nx h tk, J m its.size m₁ nx → Fr h₀ env.locals h m₁ → News h₀ env.locals h nx → Q .next { s with heap := h, toks := tk }) :
    wpAny (model prog w) A (pyIter (.ref l)) (fun it s₂ => codeAny (model prog w) A (.forLoop target it body [] env) (fun r s' => match r with | .ok f => Q f s' | .error e => cameBackBy (model prog w) A env E e s') s₂) E s := by
  have hg := (N _ (hm _ _ _ h0)).1
  have hl : s.heap.IsList l its := PySem.IsL.isList (n := k) hg
  refine wpAny_pyIter_list hl ?_
  refine for_my (E := E) (Walks.list hh _ l (Nat.ne_of_lt (Heap.lt_size hg)) its) (fun i h st => let ⟨o, ho, _⟩ := st.1; ⟨o, ho⟩) (Nat.ne_of_lt F.ns.lt) (next_is_new F) (fun p hp => Nat.ne_of_lt (Heap.lt_size (N p hp).1)) ⟨⟨_, Heap.get?_push_size _ rfl, rfl, rfl⟩, hl.push _⟩ (F.push _) (fun p hp => ⟨Heap.get?_push_of_some _ (N p hp).1, (N p hp).2⟩)
    (fun i s' v Q' st hq => hgo _ i s' v Q' st.1 hq) (J m) (fun b hb => ?_) h0 ?_ done
  · rcases List.mem_cons.mp hb with rfl | hb
    · exact .inl rfl
    · rw [List.mem_singleton.mp hb]; exact .inr ⟨_, hm⟩
  · rintro i v m₁ nx h tk oI hlt hv hJ hne F₁ N₁
    exact turn i v m₁ nx h tk _ oI hv hJ hne F₁ N₁

/-- a for over a range from a by ones, n turns -/
theorem for_range {x : Str} {px : Pos} {body : List Stmt} {Q : Flow → Shared → Prop} {r : Addr} {a b : Int} {ta tb tc : Tok} {n : Nat} {m : Str → Option Value} {news : List (Addr × Obj)} (hh : A.handled = none)
    (F : Fr h₀ env.locals s.heap m) (N : News h₀ env.locals s.heap news) (hr : IsRange s.heap r a b 1 ta tb tc) (hsm : Builtin.Range.small a b 1 = true) (hn : Builtin.Range.rangeSize a b 1 = (n : Int))
    (hx : env.kindOf x = some .local) (hp : (env.scope.kind == .class || (env.scope.kind == .module && env.locals != env.globals)) = false)
    (J : (Str → Option Value) → Nat → (Str → Option Value) → List (Addr × Obj) → Prop) (h0 : J m 0 m news)
    (turn : ∀ i u m₁ nx h tk I oI, i < n → J m i m₁ nx → (∀ p ∈ nx, p.1 ≠ I) → Fr h₀ env.locals h (fun y => if y = x then some (.int (a + (i : Int)) u) else m₁ y) → News h₀ env.locals h ((I, oI) :: nx) →
      wpAny (model prog w) A (execs body env) (TurnEnd h₀ env.locals I oI (J m (i + 1)) s Q) NoE { s with heap := h, toks := tk })
    (done : ∀ m₁ nx h tk, J m n m₁ nx → Fr h₀ env.locals h m₁ → News h₀ env.locals h nx → Q .next { s with heap := h, toks := tk }) :
    wpAny (model prog w) A (pyIter (.ref r)) (fun it s₂ => codeAny (model prog w) A (.forLoop (.Name x px) it body [] env) (fun r s' => match r with | .ok f => Q f s' | .error e => cameBackBy (model prog w) A env E e s') s₂) E s := by
  refine wpAny_pyIter_range hr hsm ?_
  refine for_my (E := E) (LCg.range_walks hh a n) (fun i h st => ⟨_, st⟩) (Nat.ne_of_lt F.ns.lt) (next_is_new F) (fun p hp => Nat.ne_of_lt (Heap.lt_size (N p hp).1)) (by show IsRangeIter _ _ _ _ _; rw [hn]; simpa using Heap.get?_push_size _ rfl) (F.push _) (fun p hp => ⟨Heap.get?_push_of_some _ (N p hp).1, (N p hp).2⟩)
    (fun _ _ _ _ _ hq => wpAny_pure hq) (J m) (fun b hb => .inl (List.mem_singleton.mp hb)) h0 ?_ done
  rintro i v m₁ nx h tk oI hlt ⟨u, rfl⟩ hJ hne F₁ N₁
  refine wpAny_assign_Name (wpAny_storeName_local hx F₁.ns (fun h₂ hn₂ hs₂ => ?_) hp)
  exact turn i u m₁ nx h₂ _ _ oI hlt hJ hne (F₁.set hn₂ hs₂) (N₁.set hs₂)

/-- what a turn of a while hands on -/
def WhileEnd (h₀ : Heap) (L : Addr) (J : (Str → Option Value) → List (Addr × Obj) → Nat → Prop) (k : Nat) (s : Shared) (Q : Flow → Shared → Prop) (f : Flow) (s₂ : Shared) : Prop :=
  match f with
  | .ret v => Q (.ret v) s₂
  | .brk => Q .next s₂
  | _ => ∃ h' tk' m' nx' k', s₂ = { s with heap := h', toks := tk' } ∧ Fr h₀ L h' m' ∧ News h₀ L h' nx' ∧ k' < k ∧ J m' nx' k'

theorem while_my {test : Expr} {body : List Stmt} {pos : Pos} {Q : Flow → Shared → Prop} {m : Str → Option Value} {news : List (Addr × Obj)} {k : Nat}
    (F : Fr h₀ env.locals s.heap m) (N : News h₀ env.locals s.heap news) (J : (Str → Option Value) → (Str → Option Value) → List (Addr × Obj) → Nat → Prop) (h0 : J m m news k)
    (turn : ∀ m₁ nx k h tk, J m m₁ nx k → Fr h₀ env.locals h m₁ → News h₀ env.locals h nx →
      wpAny (model prog w) A (isTrue test env (eval test env)) (fun b s₂ => if b then wpAny (model prog w) A (execs body env) (WhileEnd h₀ env.locals (J m) k s Q) NoE s₂ else Q .next s₂) NoE { s with heap := h, toks := tk }) :
    wpAny (model prog w) A (exec (.While test body [] pos) env) Q E s := by
  have no : ∀ {α : Type} {t : Sem α} {Q' : α → Shared → Prop} {E' : Value → Shared → Prop} {s' : Shared}, wpAny (model prog w) A t Q' NoE s' → wpAny (model prog w) A t Q' E' s' := fun h => wpAny_mono h (fun _ _ x => x) fun _ _ x => x.elim
  refine wpAny_While (codeAny_whileLoop (fun k s' => ∃ h' tk m' nx, s' = { s with heap := h', toks := tk } ∧ Fr h₀ env.locals h' m' ∧ News h₀ env.locals h' nx ∧ J m m' nx k) ?_ k ⟨s.heap, s.toks, m, news, rfl, F, N, h0⟩)
  rintro k s' ⟨h', tk, m', nx, rfl, F', N', hJ⟩
  refine no (wpAny_mono (turn m' nx k h' tk hJ F' N') (fun b s₂ h₂ => ?_) fun _ _ e => e)
  cases b with
  | false => exact wpAny_execs_nil h₂
  | true =>
    refine no (wpAny_mono h₂ (fun f s₃ h₃ => ?_) fun _ _ e => e)
    cases f with
    | ret v => exact h₃
    | brk => exact h₃
    | next => obtain ⟨h₃', tk₃, m₃, nx₃, k₃, rfl, F₃, N₃, hk₃, hJ₃⟩ := h₃; exact ⟨k₃, hk₃, h₃', tk₃, m₃, nx₃, rfl, F₃, N₃, hJ₃⟩
    | cont => obtain ⟨h₃', tk₃, m₃, nx₃, k₃, rfl, F₃, N₃, hk₃, hJ₃⟩ := h₃; exact ⟨k₃, hk₃, h₃', tk₃, m₃, nx₃, rfl, F₃, N₃, hJ₃⟩
theorem fr0 (m : Str → Option Value) (x : Str) : m = fun y => if y = x then m x else m y := by
  funext y
  by_cases h : y = x
  · subst h; simp
  · simp [h]
theorem fr1 (m : Str → Option Value) (x : Str) (a b : Option Value) : (fun y => if y = x then a else if y = x then b else m y) = fun y => if y = x then a else m y := by
  funext y
  by_cases h : y = x
  · subst h; simp
  · simp [h]
theorem fr2 (m : Str → Option Value) (x : Str) (a : Option Value) : (fun y => if y = x then a else m y) = fun y => if y = x then a else if y = x then a else m y := by
  funext y
  by_cases h : y = x
  · subst h; simp
  · simp [h]
theorem fr3 (m : Str → Option Value) (x : Str) (a : Option Value) (h : m x = a) : m = fun y => if y = x then a else m y := by
  subst h; exact fr0 m x
theorem fr1t (m : Str → Option Value) (x : Str) (a b c : Option Value) : (fun y => if y = x then a else if y = x then b else if y = x then c else m y) = fun y => if y = x then a else m y := by
  funext y
  by_cases h : y = x
  · subst h; simp
  · simp [h]
theorem WhileEnd.mk {L : Addr} {J : (Str → Option Value) → List (Addr × Obj) → Nat → Prop} {k : Nat} {Q : Flow → Shared → Prop} {h' : Heap} {tk' : Nat} {m' : Str → Option Value} {nx' : List (Addr × Obj)} (k' : Nat)
    (F : Fr h₀ L h' m') (N : News h₀ L h' nx') (h : k' < k ∧ J m' nx' k') : WhileEnd h₀ L J k s Q .next { s with heap := h', toks := tk' } := ⟨_, _, _, _, k', rfl, F, N, h.1, h.2⟩
theorem frab1 (m : Str → Option Value) (a b : Str) (v u v0 u0 : Option Value) : (fun y => if y = a then v else if y = b then u else if y = a then v0 else if y = b then u0 else m y) = fun y => if y = a then v else if y = b then u else m y := by
  funext y
  by_cases h1 : y = a
  · simp [h1]
  · by_cases h2 : y = b
    · simp [h2]
    · simp [h1, h2]
theorem frab2 (m : Str → Option Value) (a b : Str) (v w u v0 u0 : Option Value) : (fun y => if y = a then v else if y = a then w else if y = b then u else if y = a then v0 else if y = b then u0 else m y) = fun y => if y = a then v else if y = b then u else m y := by
  funext y
  by_cases h1 : y = a
  · simp [h1]
  · by_cases h2 : y = b
    · subst h2; simp [h1]
    · simp [h1, h2]
theorem frab0 (m : Str → Option Value) (a b : Str) (v : Option Value) (h : m a = v) : m = fun y => if y = a then v else if y = b then m b else m y := by
  funext y
  by_cases h1 : y = a
  · simp [h1, h]
  · by_cases h2 : y = b
    · subst h2; simp [h1]
    · simp [h1, h2]
/-- a turn's end by name: the walk inside carries a letter for it, and letters for what of the state stays -/
theorem abs_turn {α : Type} {M : Model} {A : Around} {t : Sem α} {E : Value → Shared → Prop} {R : α → Shared → Prop} {h : Heap} {g : Array GenState} {d : Drawn} {tk : Nat} {o : OsState}
    (H : ∀ (R' : α → Shared → Prop) g' d' o', (∀ f h' tk', R f ⟨h', g, d, tk', o⟩ → R' f ⟨h', g', d', tk', o'⟩) → wpAny M A t R' E ⟨h, g', d', tk, o'⟩) : wpAny M A t R E ⟨h, g, d, tk, o⟩ := H R g d o fun _ _ _ x => x
theorem abs_turn2 {α β : Type} {M : Model} {A : Around} {t : Sem β} {t2 : Sem α} {E E2 : Value → Shared → Prop} {R : α → Shared → Prop} {h : Heap} {g : Array GenState} {d : Drawn} {tk : Nat} {o : OsState}
    (H : ∀ (R' : α → Shared → Prop) g' d' o', (∀ f h' tk', R f ⟨h', g, d, tk', o⟩ → R' f ⟨h', g', d', tk', o'⟩) → wpAny M A t (fun _ s₂ => wpAny M A t2 R' E2 s₂) E ⟨h, g', d', tk, o'⟩) :
    wpAny M A t (fun _ s₂ => wpAny M A t2 R E2 s₂) E ⟨h, g, d, tk, o⟩ := H R g d o fun _ _ _ x => x
theorem abs_while {α : Type} {M : Model} {A : Around} {t : Sem Bool} {t2 : Sem α} {E E2 : Value → Shared → Prop} {R : α → Shared → Prop} {Qn : Shared → Prop} {h : Heap} {g : Array GenState} {d : Drawn} {tk : Nat} {o : OsState}
    (H : ∀ (R' : α → Shared → Prop) (Q' : Shared → Prop) g' d' o', (∀ f h' tk', R f ⟨h', g, d, tk', o⟩ → R' f ⟨h', g', d', tk', o'⟩) → (∀ h' tk', Qn ⟨h', g, d, tk', o⟩ → Q' ⟨h', g', d', tk', o'⟩) →
      wpAny M A t (fun b s₂ => if b then wpAny M A t2 R' E2 s₂ else Q' s₂) E ⟨h, g', d', tk, o'⟩) :
    wpAny M A t (fun b s₂ => if b then wpAny M A t2 R E2 s₂ else Qn s₂) E ⟨h, g, d, tk, o⟩ := H R Qn g d o (fun _ _ _ x => x) fun _ _ x => x
end Loops
section Txts
/-- texts glued by nothing -/
def jn (ys : List Str) : Str := ⟨(ys.map (·.cps.toList)).flatten.toArray⟩
theorem join_jn : ∀ ys : List Str, PySem.Str.join (Str.ofString "") ys = jn ys
  | [] => rfl
  | [x] => by
    show x = _
    exact PySem.Str.ext' (Array.toList_inj.mp (by simp [jn]))
  | x :: y :: r => by
    show x ++ Str.ofString "" ++ PySem.Str.join (Str.ofString "") (y :: r) = _
    rw [join_jn (y :: r)]
    refine PySem.Str.ext' (Array.toList_inj.mp ?_)
    rw [PySem.Str.cps_append, PySem.Str.cps_append]
    have e : (Str.ofString "").cps = #[] := by decide
    rw [e]
    simp [jn]
theorem txt_join (ys : List Str) : Txt.join (Str.ofString "") ys = jn ys := (StrLaws.glued_eq_join _ _).trans (join_jn ys)
section
variable {prog : Program} {w : World} {A : Around} {E : Value → Shared → Prop} {s : Shared} {h₀ : Heap} {L D : Addr} {m : Str → Option Value} {news : List (Addr × Obj)} {vs : List Value} {ys : List Str} {n : Nat} {t u : Tok}
theorem join_at {Q : Value → Shared → Prop} (N : News h₀ L s.heap news) (hm : (D, W.listOf vs.toArray n) ∈ news) (hs : StrsAre vs ys) (hl : (ys.map (·.length)).sum ≤ 100000)
    (h : ∀ t' k, Q (.str (jn ys) t') { s with toks := k }) : wpAny (model prog w) A (call (.builtin "str.join") [.str (Str.ofString "") t, .ref D]) Q E s := by
  refine PyProof.Rows.join_list (PySem.IsL.isList (n := n) (N _ hm).1) hs ?_ (fun t' k => by rw [txt_join]; exact h t' k)
  have e : (Str.ofString "").length = 0 := by decide
  rw [e]; omega
end
theorem jn_one (l : List Nat) : jn (l.map fun c => ⟨#[c]⟩) = ⟨l.toArray⟩ := by
  have : ((l.map fun c => (⟨#[c]⟩ : Str)).map (·.cps.toList)).flatten = l := by
    induction l with
    | nil => rfl
    | cons a r ih => simpa using ih
  show PySem.Str.mk _ = _
  rw [this]
theorem sum_ones {ys : List Str} (h : ∀ y ∈ ys, y.length = 1) : (ys.map (·.length)).sum = ys.length := by
  induction ys with
  | nil => rfl
  | cons a r ih => rw [List.map_cons, List.sum_cons, ih fun y hy => h y (.tail _ hy), h a (.head _), List.length_cons]; omega
theorem lt_one (a b : Nat) : ((⟨#[a]⟩ : Str).cps.toList < (⟨#[b]⟩ : Str).cps.toList) ↔ a < b := by
  show ([a] < [b]) ↔ _
  simp [List.cons_lt_cons_iff]
theorem isA : Str.ofString "A" = ⟨#[65]⟩ := by decide
theorem isZ : Str.ofString "Z" = ⟨#[90]⟩ := by decide
theorem ltA {a : Nat} : ((⟨#[a]⟩ : Str).cps.toList < (Str.ofString "A").cps.toList) ↔ a < 65 := by rw [isA]; exact lt_one _ _
theorem ltZ {a : Nat} : ((Str.ofString "Z").cps.toList < (⟨#[a]⟩ : Str).cps.toList) ↔ 90 < a := by rw [isZ]; exact lt_one _ _

def escV : Option Nat → Tok → Value
  | none, _ => .none
  | some e, t => .str ⟨#[e]⟩ t
section
variable {prog : Program} {w : World} {A : Around} {E : Value → Shared → Prop} {s : Shared} {x : Str} {i : Int} {j c d : Nat} {t u : Tok} {e : Option Nat}
theorem str_at {value slice : PySem.Expr} {Q : Value → Shared → Prop} (hi : i = (j : Int)) (hc : x.cps[j]? = some c) (hx : x.cps.size < 100000)
    (h : Q (.str ⟨#[c]⟩ s.toks) { s with toks := s.toks + 1 })
    (hs : subscripted slice false (.str x t) (.int i u) = operate [.str x t, .int i u] (getItem (.str x t) (.int i u)) := by with_unfolding_all rfl)
    (ht : ∀ r, letTemporaryGo value (.str x t) r = pure () := by intro _; with_unfolding_all rfl) :
    wpAny (model prog w) A (subscriptTail value slice (.str x t) (.int i u)) Q E s := by
  have hj : j < x.cps.size := (Array.getElem?_eq_some_iff.mp hc).1
  have hl : x.length = x.cps.size := rfl
  have e1 : Txt.item x i = ⟨#[c]⟩ := by
    unfold Txt.item Txt.charAt
    rw [PySem.seqIndex_of (by omega) (by rw [hl]; omega)]
    subst hi
    simp [hc]
  refine item_str (fitsSsize_of (N := 9223372036854775808) (by omega) (by omega) (Int.le_refl _)) (by rw [hl]; omega) (by rw [hl]; omega) (fun _ => ?_) hs ht
  rw [e1]; exact h
theorem str_at0 {value slice : PySem.Expr} {Q : Value → Shared → Prop} (hc : x.cps[j]? = some c) (hx : x.cps.size < 100000)
    (h : Q (.str ⟨#[c]⟩ s.toks) { s with toks := s.toks + 1 })
    (hs : subscripted slice false (.str x t) (.int (j : Int) u) = operate [.str x t, .int (j : Int) u] (getItem (.str x t) (.int (j : Int) u)) := by with_unfolding_all rfl)
    (ht : ∀ r, letTemporaryGo value (.str x t) r = pure () := by intro _; with_unfolding_all rfl) :
    wpAny (model prog w) A (subscriptTail value slice (.str x t) (.int (j : Int) u)) Q E s := str_at rfl hc hx h hs ht
theorem str_at1 {value slice : PySem.Expr} {Q : Value → Shared → Prop} (hc : x.cps[j + 1]? = some c) (hx : x.cps.size < 100000)
    (h : Q (.str ⟨#[c]⟩ s.toks) { s with toks := s.toks + 1 })
    (hs : subscripted slice false (.str x t) (.int ((j : Int) + 1) u) = operate [.str x t, .int ((j : Int) + 1) u] (getItem (.str x t) (.int ((j : Int) + 1) u)) := by with_unfolding_all rfl)
    (ht : ∀ r, letTemporaryGo value (.str x t) r = pure () := by intro _; with_unfolding_all rfl) :
    wpAny (model prog w) A (subscriptTail value slice (.str x t) (.int ((j : Int) + 1) u)) Q E s := str_at (j := j + 1) (by omega) hc hx h hs ht
theorem eq_cc {Q : Value → Shared → Prop} (h : Q (.bool (decide (c = d))) s) : wpAny (model prog w) A (compareOp .Eq (.str ⟨#[c]⟩ t) (.str ⟨#[d]⟩ u)) Q E s := by
  refine PyProof.Rows.eq_str ?_
  rw [mk_one_beq]; exact h
theorem eq_ce {Q : Value → Shared → Prop} (h : Q (.bool (decide (some c = e))) s) : wpAny (model prog w) A (compareOp .Eq (.str ⟨#[c]⟩ t) (escV e u)) Q E s := by
  cases e with
  | none => exact PySem.EqNone.eq_str_none (by simpa using h)
  | some d => exact eq_cc (by simpa using h)
theorem isnot_e {Q : Value → Shared → Prop} (h : Q (.bool e.isSome) s) : wpAny (model prog w) A (compareOp .IsNot (escV e u) .none) Q E s := by
  cases e with
  | none => exact isnot_none_none h
  | some d => exact isnot_str_none h
theorem len_e {Q : Value → Shared → Prop} (he : e.isSome = true) (h : Q (.int 1 (s.toks + 1)) { s with toks := s.toks + 1 + 1 }) : wpAny (model prog w) A (call (.builtin "len") [escV e t]) Q E s := by
  cases e with
  | none => cases he
  | some d => exact PySem.P.len_str (show ¬ ((1 : Nat) : Int) ≥ 2 ^ 63 by decide) h
theorem eq_pct {Q : Value → Shared → Prop} (h : Q (.bool (decide (c = 37))) s) : wpAny (model prog w) A (compareOp .Eq (.str ⟨#[c]⟩ t) (.str (Str.ofString "%") u)) Q E s := by
  rw [show Str.ofString "%" = ⟨#[37]⟩ from by decide]; exact eq_cc h
theorem eq_und {Q : Value → Shared → Prop} (h : Q (.bool (decide (c = 95))) s) : wpAny (model prog w) A (compareOp .Eq (.str ⟨#[c]⟩ t) (.str (Str.ofString "_") u)) Q E s := by
  rw [show Str.ofString "_" = ⟨#[95]⟩ from by decide]; exact eq_cc h
theorem in_pu {Q : Value → Shared → Prop} (h : Q (.bool (decide (c = 37 ∨ c = 95))) s) : wpAny (model prog w) A (compareOp .In (.str ⟨#[c]⟩ t) (.str (Str.ofString "%_") u)) Q E s := by
  refine PyProof.Rows.in_str ?_
  rw [PySem.StrLaws.found_one, show (Str.ofString "%_").cps.toList = [37, 95] from by decide]
  simpa using h
theorem len_txt {Q : Value → Shared → Prop} (hx : x.cps.size < 100000) (h : Q (.int x.cps.size (s.toks + 1)) { s with toks := s.toks + 1 + 1 }) : wpAny (model prog w) A (call (.builtin "len") [.str x t]) Q E s :=
  PySem.P.len_str (by show ¬ (x.cps.size : Int) ≥ 2 ^ 63; omega) h
end
end Txts
section Comps
variable {prog : Program} {w : World} {A : Around} {E : Value → Shared → Prop} {s : Shared} {h₀ : Heap} {L : Addr} {m : Str → Option Value} {env : Env}
theorem CompEnd.mono {I C D : Addr} {oI oC oD : Obj} {S : List (Addr × Obj) → Prop} {r1 r2 : Value → List (Addr × Obj) → Prop} {y : Value} {s₂ : Shared} (h : LCg.CompEnd h₀ L m s I oI C oC D oD S r1 y s₂) (hr : ∀ nx, r1 y nx → r2 y nx) :
    LCg.CompEnd h₀ L m s I oI C oC D oD S r2 y s₂ := by
  obtain ⟨h', tk, nx, e, F, N, o, hS, r⟩ := h
  exact ⟨h', tk, nx, e, F, N, o, hS, hr _ r⟩
theorem rest_ind {elt : Expr} {x : Str} {scope : Scope} {cl : List (Str × Addr)} {S : List (Addr × Obj) → Prop} {P : Nat → Value → Prop} {Fin : List Value → List (Addr × Obj) → Prop} {n : Nat} (Inv : Nat → List Value → List (Addr × Obj) → Prop)
    (step : ∀ i ys nx, i < n → Inv i ys nx → ∀ v I oI C oC D m₂ h tk, P i v → LCg.NsObj oC m₂ → m₂ x = some v → Fr h₀ L h m → News h₀ L h ((I, oI) :: (C, oC) :: (D, LCg.lst ys) :: nx) → LCg.Off3 I C D nx → ((@Ne Nat I C) ∧ (@Ne Nat I D) ∧ (@Ne Nat C D)) →
      wpAny (model prog w) A (eval elt (compEnvC scope cl C env)) (LCg.CompEnd h₀ L m { s with heap := h, toks := tk } I oI C oC D (LCg.lst ys) S (fun y nx' => Inv (i + 1) (ys ++ [y]) nx')) NoE { s with heap := h, toks := tk })
    (fin : ∀ ys nx, Inv n ys nx → Fin ys nx) : ∀ k i ys nx, i + k = n → Inv i ys nx → LCg.CompRest prog w A h₀ L m env elt x scope cl s S P Fin k i ys nx := by
  intro k
  induction k with
  | zero =>
    intro i ys nx hi hI
    obtain rfl : i = n := by omega
    exact .zero (fin _ _ hI)
  | succ k ih =>
    intro i ys nx hi hI
    refine .succ fun v I oI C oC D m₂ h tk E' hP hC hx F N o ne => ?_
    exact wpAny_mono (step i ys nx (by omega) hI v I oI C oC D m₂ h tk hP hC hx F N o ne) (fun y s₂ h₂ => CompEnd.mono h₂ fun nx' hI' => ih (i + 1) _ nx' (by omega) hI') fun _ _ e => e.elim
theorem ldC {C : Addr} {scope : Scope} {cl : List (Str × Addr)} {x : Str} {pos : Pos} {c : Addr} {o : Obj} {v : Value} {news : List (Addr × Obj)} {Q : Value → Shared → Prop} {M : Model} (N : News h₀ L s.heap news) (hc : cl.lookup x = some c) (hm : (c, o) ∈ news) (hd : o.data = .cell (some v)) (h : Q v s)
    (hk : (compEnvC scope cl C env).scope.kind = .function := by rfl) (hx : (compEnvC scope cl C env).kindOf x = some .cell := by rfl) (hb : (x == ("__debug__" : Str)) = false := by decide) :
    wpAny M A (eval (.Name x pos) (compEnvC scope cl C env)) Q E s := wpAny_Name (wpAny_loadName_cell hk hx hc ⟨o, N.get hm, hd⟩ h) hb
theorem strs_of : ∀ {ys : List Value}, (∀ y ∈ ys, ∃ c u, y = .str ⟨#[c]⟩ u) → ∃ cs : List Nat, StrsAre ys (cs.map fun c => (⟨#[c]⟩ : Str)) ∧ cs.length = ys.length
  | [], _ => ⟨[], .nil, rfl⟩
  | y :: r, h => by
    obtain ⟨c, u, rfl⟩ := h y (.head _)
    obtain ⟨cs, h1, h2⟩ := strs_of (fun z hz => h z (.tail _ hz))
    exact ⟨c :: cs, .cons _ _ h1, by simp [h2]⟩
end Comps
/-- the law's row after some pieces -/
def rowF (f : Nat → Nat → Bool) (ps : List Pc) (t : List Nat) : List Bool := (List.range (t.length + 1)).map fun j => Mt f ps (t.take j)
section DueP
variable {f : Nat → Nat → Bool} {ps : List Pc} {t : List Nat}
theorem rowF_len : (rowF f ps t).length = t.length + 1 := by simp [rowF]
theorem rowF_get {j : Nat} (h : j ≤ t.length) : (rowF f ps t)[j]? = some (Mt f ps (t.take j)) := by
  simp [rowF, List.getElem?_range (show j < t.length + 1 by omega)]
theorem rowF_nil : rowF f [] t = true :: List.replicate t.length false := by
  refine List.ext_getElem? fun j => ?_
  rcases Nat.lt_or_ge j (t.length + 1) with h | h
  · rw [rowF_get (by omega), Mt_nil]
    cases j with
    | zero => simp
    | succ j =>
      rw [List.getElem?_cons_succ, List.getElem?_replicate, if_pos (by omega)]
      cases t with
      | nil => simp at h
      | cons a t => simp
  · rw [List.getElem?_eq_none (by rw [rowF_len]; omega), List.getElem?_eq_none (by simp; omega)]
theorem Mt_any1 : Mt f [.any] t = true := Mt_any.mpr ⟨t.length, Nat.le_refl _, by simp [Mt_nil]⟩
theorem Mt_snoc_any {u : List Nat} : Mt f (ps ++ [.any]) u = true ↔ ∃ i, i ≤ u.length ∧ Mt f ps (u.take i) = true := by
  rw [Mt_append]
  constructor
  · rintro ⟨i, h, h1, _⟩; exact ⟨i, h, h1⟩
  · rintro ⟨i, h, h1⟩; exact ⟨i, h, h1, Mt_any1⟩
theorem mem_row {b : Bool} : b ∈ rowF f ps t ↔ ∃ j, j ≤ t.length ∧ Mt f ps (t.take j) = b := by
  simp only [rowF, List.mem_map, List.mem_range]
  constructor
  · rintro ⟨j, h, e⟩; exact ⟨j, by omega, e⟩
  · rintro ⟨j, h, e⟩; exact ⟨j, by omega, e⟩
theorem rowF_any_some (h : true ∈ rowF f ps t) : rowF f (ps ++ [.any]) t = (List.range (t.length + 1)).map fun j => decide ((rowF f ps t).idxOf true ≤ j) := by
  have hlt : (rowF f ps t).idxOf true < t.length + 1 := by rw [← rowF_len (f := f) (ps := ps)]; exact List.idxOf_lt_length_iff.mpr h
  have hat : Mt f ps (t.take ((rowF f ps t).idxOf true)) = true := by
    have h1 := rowF_get (f := f) (ps := ps) (t := t) (j := (rowF f ps t).idxOf true) (by omega)
    rw [List.getElem?_eq_getElem (by rw [rowF_len]; exact hlt)] at h1
    rw [← Option.some.inj h1]
    exact List.getElem_idxOf (by rw [rowF_len]; exact hlt)
  refine List.map_congr_left fun j hj => ?_
  have hj : j < t.length + 1 := List.mem_range.mp hj
  rw [Bool.eq_iff_iff, Mt_snoc_any, decide_eq_true_iff]
  constructor
  · rintro ⟨i, hi, h1⟩
    rw [List.take_take] at h1
    rw [List.length_take] at hi
    refine Nat.le_of_not_lt fun hl => ?_
    have h2 : (rowF f ps t)[min i j]? = some true := by rw [rowF_get (by omega), h1]
    obtain ⟨h3, h4⟩ := List.getElem?_eq_some_iff.mp h2
    have h5 := List.not_of_lt_findIdx (p := (· == true)) (xs := rowF f ps t) (i := min i j) (show min i j < List.idxOf true _ by omega)
    rw [h4] at h5
    simp at h5
  · intro hl
    refine ⟨(rowF f ps t).idxOf true, by rw [List.length_take]; omega, ?_⟩
    rw [List.take_take, Nat.min_eq_left hl]
    exact hat
theorem rowF_any_none (h : ¬ true ∈ rowF f ps t) : rowF f (ps ++ [.any]) t = (List.range (t.length + 1)).map fun j => decide (t.length + 1 ≤ j) := by
  refine List.map_congr_left fun j hj => ?_
  have hj : j < t.length + 1 := List.mem_range.mp hj
  rw [Bool.eq_iff_iff, Mt_snoc_any, decide_eq_true_iff]
  constructor
  · rintro ⟨i, hi, h1⟩
    rw [List.take_take] at h1
    exact absurd (mem_row.mpr ⟨min i j, by omega, h1⟩) h
  · intro hl; omega
theorem Mt_one1 {q : Pc} (hq : q ≠ .any) {u : List Nat} : Mt f [q] u = true ↔ ∃ d, u = [d] ∧ tkF f q d = true := by
  cases u with
  | nil => rw [Mt_cons_nil hq]; simp
  | cons d r =>
    rw [Mt_cons hq, Mt_nil, Bool.and_eq_true, List.isEmpty_iff]
    constructor
    · rintro ⟨h, rfl⟩; exact ⟨d, rfl, h⟩
    · rintro ⟨d', e, h⟩; cases e; exact ⟨h, rfl⟩
theorem Mt_snoc {q : Pc} (hq : q ≠ .any) {u : List Nat} {d : Nat} : Mt f (ps ++ [q]) (u ++ [d]) = (Mt f ps u && tkF f q d) := by
  rw [Bool.eq_iff_iff, Mt_append, Bool.and_eq_true]
  constructor
  · rintro ⟨i, hi, h1, h2⟩
    obtain ⟨d', e, h3⟩ := (Mt_one1 hq).mp h2
    have hl := congrArg List.length e
    rw [List.length_drop, List.length_append] at hl
    simp only [List.length_cons, List.length_nil] at hl
    obtain rfl : i = u.length := by omega
    rw [List.take_left] at h1
    rw [List.drop_left] at e
    cases e
    exact ⟨h1, h3⟩
  · rintro ⟨h1, h2⟩
    exact ⟨u.length, by simp, by rw [List.take_left]; exact h1, by rw [List.drop_left]; exact (Mt_one1 hq).mpr ⟨d, rfl, h2⟩⟩
theorem Mt_snoc_nil {q : Pc} (hq : q ≠ .any) : Mt f (ps ++ [q]) [] = false := by
  rw [Bool.eq_false_iff]
  intro h
  obtain ⟨i, _, _, h2⟩ := Mt_append.mp h
  obtain ⟨d, e, _⟩ := (Mt_one1 hq).mp h2
  simp at e
theorem rowF_step {q : Pc} (hq : q ≠ .any) (g : Nat → Bool) (hg : ∀ j d, t[j]? = some d → g j = (Mt f ps (t.take j) && tkF f q d)) : rowF f (ps ++ [q]) t = false :: (List.range t.length).map g := by
  refine List.ext_getElem? fun j => ?_
  rcases Nat.lt_or_ge j (t.length + 1) with h | h
  · rw [rowF_get (by omega)]
    cases j with
    | zero => rw [List.take_zero, Mt_snoc_nil hq]; rfl
    | succ j =>
      have hd : t[j]? = some (t[j]'(by omega)) := List.getElem?_eq_getElem _
      rw [List.getElem?_cons_succ, List.getElem?_map, List.getElem?_range (by omega), Option.map_some, hg j _ hd]
      congr 1
      rw [List.take_add_one, hd]
      exact Mt_snoc hq
  · rw [List.getElem?_eq_none (by rw [rowF_len]; omega), List.getElem?_eq_none (by simp; omega)]
theorem rowF_last : (rowF f ps t)[t.length]? = some (Mt f ps t) := by rw [rowF_get (Nat.le_refl _), List.take_length]
end DueP
theorem Mt_map {f g : Nat → Nat → Bool} {h : Nat → Nat} {fo : Pc → Pc} (hf : ∀ a b, f (h a) (h b) = g a b) (ha : fo .any = .any) (ho : fo .one = .one) (hs : ∀ c, fo (.sign c) = .sign (h c)) : ∀ {p : List Pc} {t : List Nat}, Mt f (p.map fo) (t.map h) = Mt g p t := by
  intro p t
  generalize hn : p.length + t.length = n
  induction n using Nat.strongRecOn generalizing p t with
  | ind n ih =>
    cases p with
    | nil => rw [List.map_nil, Mt_nil, Mt_nil]; cases t <;> rfl
    | cons q p =>
      cases t with
      | nil =>
        cases q with
        | any => rw [List.map_cons, ha, List.map_nil, Mt_any_nil, Mt_any_nil]; exact ih (p.length + 0) (by subst hn; simp) (p := p) (t := []) rfl
        | one => rw [List.map_cons, ho, List.map_nil, Mt_cons_nil (by simp), Mt_cons_nil (by simp)]
        | sign c => rw [List.map_cons, hs, List.map_nil, Mt_cons_nil (by simp), Mt_cons_nil (by simp)]
      | cons d t =>
        cases q with
        | any =>
          have e1 := ih (p.length + (d :: t).length) (by subst hn; simp) (p := p) (t := d :: t) rfl
          have e2 := ih ((Pc.any :: p).length + t.length) (by subst hn; simp) (p := .any :: p) (t := t) rfl
          rw [List.map_cons] at e1
          rw [List.map_cons, ha] at e2
          rw [List.map_cons, ha, List.map_cons, Mt, Mt, e1, e2]
        | one =>
          rw [List.map_cons, ho, List.map_cons, Mt, Mt]; exact ih (p.length + t.length) (by subst hn; simp; omega) rfl
        | sign c =>
          rw [List.map_cons, hs, List.map_cons, Mt, Mt, hf]
          rw [ih (p.length + t.length) (by subst hn; simp; omega) (p := p) (t := t) rfl]
local macro_rules | `(tactic| k_all) => `(tactic| first | assumption | exact ne_of_allLt (by assumption) | exact ne_of_ltAll (by assumption) | fail "no")
local macro_rules | `(tactic| k_mem) => `(tactic| first | assumption | (refine List.mem_cons_of_mem _ ?_; k_mem) | fail "no")
local macro_rules | `(tactic| k_ne) => `(tactic| first | assumption | exact Ne.symm (by assumption) | (refine PySem.W.neN ?_; (try dsimp only); first | assumption | exact Ne.symm (by assumption) | exact Nat.ne_of_gt (by walk_at "lt") | exact Nat.ne_of_lt (by walk_at "lt")) | exact Ne.symm (And.left (And.left (And.right (by assumption)))) | exact Ne.symm (And.left (And.right (And.left (And.right (by assumption))))) | exact Ne.symm (And.right (And.right (And.left (And.right (by assumption))))) | fail "no")
local macro_rules | `(tactic| walk_at "tail0") => `(tactic| (intro g' L' h' tk' cells' FG' F' N' Y' B' X' T' l1; (try k_lt l1); k_cells Y'; (try simp only [List.cons_append, List.nil_append] at N'); (try dsimp only); (try k_fold)))
local macro_rules | `(tactic| walk_at $s:str) => `(tactic| k_extra $s)
theorem rowsAt2 : True := by
  k_with_none
  (k_with "pick" => first | exact Pick.head | exact Pick.tail (Pick.head) | exact Pick.tail (Pick.tail (Pick.head)) | exact Pick.tail (Pick.tail (Pick.tail (Pick.head))) | exact Pick.tail (Pick.tail (Pick.tail (Pick.tail (Pick.head)))) | exact Pick.tail (Pick.tail (Pick.tail (Pick.tail (Pick.tail (Pick.head))))) | exact Pick.tail (Pick.tail (Pick.tail (Pick.tail (Pick.tail (Pick.tail (Pick.head)))))) | exact Pick.tail (Pick.tail (Pick.tail (Pick.tail (Pick.tail (Pick.tail (Pick.tail (Pick.head))))))) | exact Pick.tail (Pick.tail (Pick.tail (Pick.tail (Pick.tail (Pick.tail (Pick.tail (Pick.tail (Pick.head)))))))) | exact Pick.tail (Pick.tail (Pick.tail (Pick.tail (Pick.tail (Pick.tail (Pick.tail (Pick.tail (Pick.tail (Pick.head))))))))) | exact Pick.tail (Pick.tail (Pick.tail (Pick.tail (Pick.tail (Pick.tail (Pick.tail (Pick.tail (Pick.tail (Pick.tail (Pick.head)))))))))) | exact Pick.tail (Pick.tail (Pick.tail (Pick.tail (Pick.tail (Pick.tail (Pick.tail (Pick.tail (Pick.tail (Pick.tail (Pick.tail (Pick.head))))))))))) | exact Pick.tail (Pick.tail (Pick.tail (Pick.tail (Pick.tail (Pick.tail (Pick.tail (Pick.tail (Pick.tail (Pick.tail (Pick.tail (Pick.tail (Pick.head)))))))))))) | exact Pick.tail (Pick.tail (Pick.tail (Pick.tail (Pick.tail (Pick.tail (Pick.tail (Pick.tail (Pick.tail (Pick.tail (Pick.tail (Pick.tail (Pick.tail (Pick.head))))))))))))) | exact Pick.tail (Pick.tail (Pick.tail (Pick.tail (Pick.tail (Pick.tail (Pick.tail (Pick.tail (Pick.tail (Pick.tail (Pick.tail (Pick.tail (Pick.tail (Pick.tail (Pick.head)))))))))))))) | exact Pick.tail (Pick.tail (Pick.tail (Pick.tail (Pick.tail (Pick.tail (Pick.tail (Pick.tail (Pick.tail (Pick.tail (Pick.tail (Pick.tail (Pick.tail (Pick.tail (Pick.tail (Pick.head))))))))))))))))
  (k_with "room" => first | exact room_m 1 hd1 rfl rfl | exact room_m 2 hd1 rfl rfl | exact room_m 3 hd1 rfl rfl | exact room_0 0 hd1 rfl rfl | exact room_0 1 hd1 rfl rfl | exact room_0 2 hd1 rfl rfl | exact room_0 3 hd1 rfl rfl | (walk_say "ROOM BY OMEGA"; (try simp only [depth_under_make, depth_under_kw, depth_in1, depth_deeper, depth_caller]); (try dsimp only [ktrTop]); omega))
  (k_with "units" => first | exact unit_m 0 hu1 rfl rfl | exact unit_m 3 hu1 rfl rfl | exact unit_m 6 hu1 rfl rfl | exact unit_m 4 hu1 rfl rfl | exact unit_m 7 hu1 rfl rfl | (walk_say "UNITS BY OMEGA"; (try simp only [units_in1, units_deeper, Around.mark_units, units_caller]); (try dsimp only [ktrTop]); omega))
  (k_with "con1" => (refine' Con.use ?k1Qh ?k2Qh ?k3Qh (Pick.news ?kpQh ?k4Qh) ?k5Qh ?kKQh ?kdQh ?kuQh ?kCQh ?_; (case k1Qh => k_asm); (case k2Qh => k_asm); (case k3Qh => k_asm); (case k5Qh => k_asm); (case kKQh => first | exact rfl | assumption); rotate_left))
  (k_with "call builtin:len" => (k_here; (with_reducible show wpAny _ _ (call (Value.builtin _) [Value.ref _]) _ _ _); k_dflt (refine' len_at ?k1Qh ?k2Qh ?k3Qh ?_; (case k1Qh => k_asm); (case k2Qh => k_mem); (case k3Qh => first | assumption | exact lt100 (by assumption) rfl | (simp; done) | omega); k_whole)))
  (k_with "call builtin:str.join" => (k_here; k_dflt (refine' join_at ?k1Qh ?k2Qh ?k3Qh ?k4Qh ?_; (case k1Qh => k_asm); (case k2Qh => k_mem); (case k3Qh => assumption); (case k4Qh => assumption); k_whole); intro _ _))
  (k_with "call builtin:list.append" => (k_here; (with_reducible show wpAny _ _ (call (Value.builtin _) [Value.ref _, _]) _ _ _); k_dflt (refine' append_K ?k1Qh ?k2Qh ?k3Qh ?_ ?zQh; (case k1Qh => k_asm); (case k2Qh => k_asm); (case k3Qh => k_upd); (case zQh => assumption); k_whole); intro _ _ _; (try k_sweep)))
  (k_with "subscriptTail Name Name str int" => (k_here; (with_reducible show wpAny _ _ (subscriptTail _ _ (Value.str _ _) (Value.int (Nat.cast _) _)) _ _ _); k_dflt (refine' str_at0 ?k2Qh ?k3Qh ?_; (case k2Qh => assumption); (case k3Qh => first | exact lt100 (by assumption) rfl | exact lt10 (by assumption) rfl | omega); k_whole)))
  (k_with "subscriptTail Name Name str int" => (k_here; (with_reducible show wpAny _ _ (subscriptTail _ _ (Value.str _ _) (Value.int (_ + 1) _)) _ _ _); k_dflt (refine' str_at1 ?k2Qh ?k3Qh ?_; (case k2Qh => first | assumption | exact hc2 (by omega)); (case k3Qh => first | exact lt100 (by assumption) rfl | exact lt10 (by assumption) rfl | omega); k_whole)))
  (k_with "compareOp Eq str str" => ((with_reducible show wpAny _ _ (compareOp _ (Value.str (Str.mk #[_]) _) (Value.str (Str.mk #[_]) _)) _ _ _); refine eq_cc ?_))
  (k_with "compareOp Eq str str" => ((with_reducible show wpAny _ _ (compareOp _ (Value.str (Str.mk #[_]) _) (Value.str (Str.ofString "%") _)) _ _ _); refine eq_pct ?_))
  (k_with "compareOp Eq str str" => ((with_reducible show wpAny _ _ (compareOp _ (Value.str (Str.mk #[_]) _) (Value.str (Str.ofString "_") _)) _ _ _); refine eq_und ?_))
  (k_with "compareOp Eq str" => ((with_reducible show wpAny _ _ (compareOp _ (Value.str (Str.mk #[_]) _) (escV _ _)) _ _ _); refine eq_ce ?_))
  (k_with "compareOp IsNot" => ((with_reducible show wpAny _ _ (compareOp _ (escV _ _) Value.none) _ _ _); refine isnot_e ?_))
  (k_with "compareOp In str str" => ((with_reducible show wpAny _ _ (compareOp _ (Value.str (Str.mk #[_]) _) (Value.str (Str.ofString "%_") _)) _ _ _); refine in_pu ?_))
  (k_with "call builtin:len" => ((with_reducible show wpAny _ _ (call (Value.builtin _) [Value.str _ _]) _ _ _); refine' len_txt ?k1Qh ?_; (case k1Qh => first | exact lt100 (by assumption) rfl | exact lt10 (by assumption) rfl | omega)))
  (k_with "newTuple" => (k_here; k_dflt (refine' newTuple_my ?k1Qh ?k2Qh ?_ ?zQh; (case k1Qh => k_asm); (case k2Qh => k_asm); (case zQh => exact Nat.le_of_ble_eq_true rfl); k_whole); intro _ _ _ _ l1; (try k_lt l1); revert l1; intro _; (try k_sweep)))
  (k_with "compareOp Eq int int" => (refine eq_ii ?_))
  (k_with "enterC" => (refine' code_defC ?k1Qh ?k2Qh ?k3Qh ?k4Qh ?k5Qh ?kAQh ?kFQh ?kKQh ?k6Qh ?k7Qh ?k8Qh ?k9Qh ?kBQh ?kDQh ?_ ?c2Qh ?c3Qh ?c4Qh; (case kAQh => exact rfl); (case kFQh => exact rfl); (case kKQh => assumption); (case k1Qh => k_asm); (case k2Qh => k_asm); (case k3Qh => k_asm); (case k4Qh => k_asm); (case k5Qh => k_asm); (case k6Qh => k_is); (case k7Qh => k_is); (case k8Qh => walk_at "room"); (case k9Qh => exact BindsTo.of_eq rfl); (case kBQh => exact rfl); (case kDQh => decide +kernel); (case c2Qh => exact rfl); (case c3Qh => exact rfl); (case c4Qh => exact rfl); k_whole; walk_at "tail0"))
  (k_with "eval ListComp" => (k_here; k_dflt (refine LCg.ListComp_U (F₀ := by k_asm) (by rfl) (by decide) (by rfl) (by decide) (by rfl) ?_)))
  (k_with "eval Name" => (k_here; (with_reducible show wpAny _ _ (eval (Expr.Name _ _) (compEnvC _ _ _ _)) _ _ _); k_dflt (refine' ldC ?k1Qh ?k2Qh ?k3Qh ?k4Qh ?_; (case k1Qh => k_asm); (case k2Qh => rfl); (case k3Qh => k_mem); (case k4Qh => k_asm); k_whole)))
  (k_with "CompSrc" => fail "own")
  (k_with "exec While Compare cons nil" => show Mine.Stop _)
  (k_with "exec While BoolOp cons nil" => show Mine.Stop _)
  (k_with "enterD" => (refine' code_def ?k1Qh ?k2Qh ?k3Qh ?k4Qh ?k5Qh ?kAQh ?kFQh ?kKQh ?k6Qh ?k7Qh ?k8Qh ?k9Qh ?kBQh ?_ ?c2Qh ?c3Qh ?c4Qh ?c5Qh; (case kAQh => exact rfl); (case kFQh => exact rfl); (case kKQh => first | exact rfl | assumption); (case k1Qh => k_asm); (case k2Qh => k_asm); (case k3Qh => k_asm); (case k4Qh => k_asm); (case k5Qh => k_asm); (case k6Qh => k_is); (case k7Qh => k_is); (case k8Qh => walk_at "room"); (case k9Qh => first | exact BindsTo.of_eq rfl | exact binds_K (by k_in) rfl (by k_is) rfl rfl rfl | fail "enterD: no rule for these arguments"); (case c5Qh => decide); (case kBQh => exact locs rfl); (case c2Qh => exact rfl); (case c3Qh => exact rfl); (case c4Qh => exact rfl); k_whole; intro _ _ _ _ _ _ _ _ _; (try dsimp only); (try k_fold)))
  (k_with "makeD" => (refine' call_cls ?k1Qh ?k2Qh ?k3Qh ?k4Qh ?k5Qh ?k6Qh ?_; (case k1Qh => k_asm); (case k2Qh => k_asm); (case k3Qh => k_asm); (case k4Qh => k_is); (case k5Qh => k_is); (case k6Qh => k_is); k_whole; intro _ _ _ _ _ l1 l2; (try k_lt l1); (try k_lt2 l2); revert l1 l2; intro _ _; (try k_sweep); walk_at "enterD"))
  (k_with "subscriptTail Name Name ref int" => (k_here; (with_reducible show wpAny _ _ (subscriptTail _ _ (Value.ref _) (Value.int (Nat.cast _) _)) _ _ _); k_dflt (refine' item_nat ?k1Qh ?k2Qh ?k3Qh ?k4Qh ?_; (case k1Qh => k_asm); (case k2Qh => k_mem); (case k3Qh => assumption); (case k4Qh => first | exact lt100 (by assumption) rfl | exact lt10 (by assumption) rfl | omega); k_whole)))
  (k_with "call builtin:len" => ((with_reducible show wpAny _ _ (call (Value.builtin _) [escV _ _]) _ _ _); refine' len_e ?k1Qh ?_; (case k1Qh => assumption)))
  (k_with "sub" => ((repeat' (first | refine List.forall_mem_cons.mpr ⟨?_, ?_⟩ | exact List.mem_cons_self | (refine List.mem_cons_of_mem _ ?_; k_mem) | (exact fun x hx => by k_mem))); done))
  (k_with "ifs" => ((try dsimp only); (repeat (refine Eq.trans (if_neg (by assumption)) ?_)); (repeat (refine Eq.trans ?_ (Eq.symm (if_neg (by assumption))))); exact rfl))
  (k_with "storeName" => dsimp only)
  (k_with "eval Call" => (k_here; (with_reducible show wpAny _ _ (eval (Expr.Call (Expr.Name (Str.ofString "len") _) [Expr.Name _ _] [] _) _) _ _ _); k_dflt (refine' len1 ?FQh ?XQh ?TQh ?eQh ?hvQh ?_; (case FQh => k_asm); (case XQh => k_asm); (case TQh => k_asm); (case eQh => k_is); (case hvQh => rfl); k_whole)))
  (k_with "lt" => first | assumption | exact And.left (by assumption) | exact pj1 (by assumption) | exact pj2 (by assumption) | exact pj3 (by assumption) | exact pj4 (by assumption) | exact pj5 (by assumption) | exact pj6 (by assumption) | exact pj7 (by assumption) | exact Nat.lt_succ_of_lt (And.left (by assumption)) | exact Nat.lt_succ_of_lt (Nat.lt_succ_of_lt (And.left (by assumption))))
  trivial
section Take
theorem rowsAt3 : True := by
  (k_with "setItem ref int" => (k_here; (with_reducible show wpAny _ _ (setItem (Value.ref _) (Value.int 0 _) _) _ _ _); k_dflt (refine' set_0 ?k1Qh ?k2Qh ?k3Qh ?_; (case k1Qh => k_asm); (case k2Qh => k_asm); (case k3Qh => assumption); k_whole); intro _ _ _; (try k_sweep)))
  (k_with "setItem ref int" => (k_here; (with_reducible show wpAny _ _ (setItem (Value.ref _) (Value.int 1 _) _) _ _ _); k_dflt (refine' set_1 ?k1Qh ?k2Qh ?k3Qh ?_; (case k1Qh => k_asm); (case k2Qh => k_asm); (case k3Qh => assumption); k_whole); intro _ _ _; (try k_sweep)))
  (k_with "binaryOp FloorDiv int int" => (refine floordiv_int (by assumption) ?_ (Or.inl (PyProof.noPylong_small (by assumption)))))
  (k_with "subscriptTail Name Constant ref int" => (k_here; (with_reducible show wpAny _ _ (subscriptTail _ _ (Value.ref _) (Value.int 0 _)) _ _ _); k_dflt (refine' item_0 ?k1Qh ?k2Qh ?_; (case k1Qh => k_asm); (case k2Qh => k_mem); k_whole)))
  (k_with "subscriptTail Name Constant ref int" => (k_here; (with_reducible show wpAny _ _ (subscriptTail _ _ (Value.ref _) (Value.int 1 _)) _ _ _); k_dflt (refine' item_1 ?k1Qh ?k2Qh ?_; (case k1Qh => k_asm); (case k2Qh => k_mem); k_whole)))
  (k_with "binaryOp Mult int int" => (refine mul_int ?_ (PySem.IntMulOk.of_right (mulfit _))))
  trivial
theorem take_con (w : World) (loose : List Str) (mean : ExcName → Option Value) (mg mb : Str → Option Value) (rest : List (Addr × Obj)) (sa : Addr) (b x : Int) (tb tx : Tok) (n : Nat) (top : Int) (tt : Tok)
   (hne : ∀ p ∈ rest, p.1 ≠ sa) (hb0 : 0 ≤ b) (hx0 : 0 ≤ x) (hx1 : x < 2147483647) (ht : 1 ≤ top) (ht1 : top < 1000) :
    Con w loose mean mg mb 118 ((sa, W.listOf #[.int b tb, .int x tx] n) :: rest) [.ref sa, .int top tt] 2 (fun news' r => ∃ b' x' tb' tx' d td, news' = (sa, W.listOf #[.int b' tb', .int x' tx'] n) :: rest ∧ r = .int d td ∧ 0 ≤ d ∧ d < top ∧ 0 ≤ b' ∧ b' ≤ b ∧ 0 ≤ x' ∧ x' < 2147483647) := by
  have ht0 : top ≠ 0 := by omega
  have ht2 : top.natAbs < 1073741824 := by omega
  unfold Con
  k_fill
  intro dp un gd cn cs a ccd cl outer A₀ base h₀ L m s Q E B F X N T hk hd1 hu1 hret
  refine wpAny_call ?_
  k_dflt ktr_enter
  k_steps
  · exact hret _ _ _ _ (by assumption) (by assumption) ⟨_, _, _, _, _, _, rfl, rfl, Int.fmod_nonneg_of_pos _ (by omega), Int.fmod_lt_of_pos _ (by omega), fdiv_nn hb0 ht, fdiv_le hb0 ht, hx0, hx1⟩
  · exact hret _ _ _ _ (by assumption) (by assumption) ⟨_, _, _, _, _, _, rfl, rfl, Int.fmod_nonneg_of_pos _ (by omega), Int.fmod_lt_of_pos _ (by omega), hb0, Int.le_refl _, Int.fmod_nonneg_of_pos _ (by decide), Int.fmod_lt_of_pos _ (by decide)⟩
end Take

theorem take_c (w : World) (loose : List Str) (mean : ExcName → Option Value) (mg mb : Str → Option Value) (rest : List (Addr × Obj)) (sa : Addr) (so : Obj) (top : Int) (tt : Tok)
   (hne : ∀ p ∈ rest, p.1 ≠ sa) (hs : SrcOk so) (ht : 1 ≤ top) (ht1 : top < 1000) :
    Con w loose mean mg mb 118 ((sa, so) :: rest) [.ref sa, .int top tt] 2 (fun news' r => ∃ so', SrcOk so' ∧ news' = (sa, so') :: rest ∧ ∃ d td, r = .int d td ∧ 0 ≤ d ∧ d < top) := by
  obtain ⟨b, x, tb, tx, n, rfl, hb0, hx0, hx1⟩ := hs
  intro dp un gd cn cs a ccd cl outer A₀ base h₀ L m s Q E B F X N T hk hd1 hu1 hret
  refine Con.use B F X N T hk hd1 hu1 (take_con w loose mean mg mb rest sa b x tb tx n top tt hne hb0 hx0 hx1 ht ht1) ?_
  rintro r h' tk' news' F' N' ⟨b', x', tb', tx', d, td, rfl, rfl, h1, h2, h3, _, h5, h6⟩
  exact hret _ _ _ _ F' N' ⟨_, ⟨b', x', tb', tx', n, rfl, h3, h5, h6⟩, rfl, d, td, rfl, h1, h2⟩
theorem take_u {w : World} {loose : List Str} {mean : ExcName → Option Value} {mg mb : Str → Option Value} {dp un : Nat} {gd : Option (List Code)} {cn : Str} {cs : Scope} {a : Addr} {ccd : Value} {cl : List (Str × Addr)} {outer : List Env} {A₀ : Around} {base h₀ : Heap} {L : Addr} {m : Str → Option Value} {s : Shared} {Q E : Value → Shared → Prop} {rest : List (Addr × Obj)} {sa : Addr} {so : Obj} {top : Int} {tt : Tok}
    (B : Below A₀ base outer h₀) (F : Fr h₀ L s.heap m) (X : (hd.heap_39 w.params).In h₀) (N : News h₀ L s.heap ((sa, so) :: rest)) (T : Top hd.view_39 loose mean mg mb h₀) (hk : cs.kind = .function)
    (hd1 : dp + 2 < recursionLimit) (hu : un + 8 * 2 < cLine) (hne : ∀ p ∈ rest, p.1 ≠ sa) (hs : SrcOk so) (ht : 1 ≤ top) (ht1 : top < 1000)
    (h : ∀ h' tk', Fr h₀ L h' m → ∀ so', SrcOk so' → ∀ d td, 0 ≤ d → d < top → News h₀ L h' ((sa, so') :: rest) → Q (.int d td) { s with heap := h', toks := tk' }) :
    wpAny (model PySem.Challenge.rw_qd0119_01.row.prog w) (ktrTop dp un gd cn cs L a ccd cl outer) (call (.ref 118) [.ref sa, .int top tt]) Q E s :=
  Con.use B F X N T hk hd1 hu (take_c w loose mean mg mb rest sa so top tt hne hs ht ht1) (by
    rintro r h' tk' news' F' N' ⟨so', hs', rfl, d, td, rfl, h1, h2⟩
    exact h _ _ F' _ hs' _ _ h1 h2 N')
theorem rowsAt4 : True := by
  k_with_none
  (k_with "pick" => first | exact Pick.head | exact Pick.tail (Pick.head) | exact Pick.tail (Pick.tail (Pick.head)) | exact Pick.tail (Pick.tail (Pick.tail (Pick.head))) | exact Pick.tail (Pick.tail (Pick.tail (Pick.tail (Pick.head)))) | exact Pick.tail (Pick.tail (Pick.tail (Pick.tail (Pick.tail (Pick.head))))) | exact Pick.tail (Pick.tail (Pick.tail (Pick.tail (Pick.tail (Pick.tail (Pick.head)))))) | exact Pick.tail (Pick.tail (Pick.tail (Pick.tail (Pick.tail (Pick.tail (Pick.tail (Pick.head))))))) | exact Pick.tail (Pick.tail (Pick.tail (Pick.tail (Pick.tail (Pick.tail (Pick.tail (Pick.tail (Pick.head)))))))) | exact Pick.tail (Pick.tail (Pick.tail (Pick.tail (Pick.tail (Pick.tail (Pick.tail (Pick.tail (Pick.tail (Pick.head))))))))) | exact Pick.tail (Pick.tail (Pick.tail (Pick.tail (Pick.tail (Pick.tail (Pick.tail (Pick.tail (Pick.tail (Pick.tail (Pick.head)))))))))) | exact Pick.tail (Pick.tail (Pick.tail (Pick.tail (Pick.tail (Pick.tail (Pick.tail (Pick.tail (Pick.tail (Pick.tail (Pick.tail (Pick.head))))))))))) | exact Pick.tail (Pick.tail (Pick.tail (Pick.tail (Pick.tail (Pick.tail (Pick.tail (Pick.tail (Pick.tail (Pick.tail (Pick.tail (Pick.tail (Pick.head)))))))))))) | exact Pick.tail (Pick.tail (Pick.tail (Pick.tail (Pick.tail (Pick.tail (Pick.tail (Pick.tail (Pick.tail (Pick.tail (Pick.tail (Pick.tail (Pick.tail (Pick.head))))))))))))) | exact Pick.tail (Pick.tail (Pick.tail (Pick.tail (Pick.tail (Pick.tail (Pick.tail (Pick.tail (Pick.tail (Pick.tail (Pick.tail (Pick.tail (Pick.tail (Pick.tail (Pick.head)))))))))))))) | exact Pick.tail (Pick.tail (Pick.tail (Pick.tail (Pick.tail (Pick.tail (Pick.tail (Pick.tail (Pick.tail (Pick.tail (Pick.tail (Pick.tail (Pick.tail (Pick.tail (Pick.tail (Pick.head))))))))))))))))
  (k_with "room" => first | exact room_m 1 hd1 rfl rfl | exact room_m 2 hd1 rfl rfl | exact room_m 3 hd1 rfl rfl | exact room_0 0 hd1 rfl rfl | exact room_0 1 hd1 rfl rfl | exact room_0 2 hd1 rfl rfl | exact room_0 3 hd1 rfl rfl | (walk_say "ROOM BY OMEGA"; (try simp only [depth_under_make, depth_under_kw, depth_in1, depth_deeper, depth_caller]); (try dsimp only [ktrTop]); omega))
  (k_with "units" => first | exact unit_m 0 hu1 rfl rfl | exact unit_m 3 hu1 rfl rfl | exact unit_m 6 hu1 rfl rfl | exact unit_m 4 hu1 rfl rfl | exact unit_m 7 hu1 rfl rfl | (walk_say "UNITS BY OMEGA"; (try simp only [units_in1, units_deeper, Around.mark_units, units_caller]); (try dsimp only [ktrTop]); omega))
  (k_with "con1" => (refine' Con.use ?k1Qh ?k2Qh ?k3Qh (Pick.news ?kpQh ?k4Qh) ?k5Qh ?kKQh ?kdQh ?kuQh ?kCQh ?_; (case k1Qh => k_asm); (case k2Qh => k_asm); (case k3Qh => k_asm); (case k5Qh => k_asm); (case kKQh => first | exact rfl | assumption); rotate_left))
  (k_with "call builtin:len" => (k_here; (with_reducible show wpAny _ _ (call (Value.builtin _) [Value.ref _]) _ _ _); k_dflt (refine' len_at ?k1Qh ?k2Qh ?k3Qh ?_; (case k1Qh => k_asm); (case k2Qh => k_mem); (case k3Qh => first | assumption | exact lt100 (by assumption) rfl | (simp; done) | omega); k_whole)))
  (k_with "call builtin:str.join" => (k_here; k_dflt (refine' join_at ?k1Qh ?k2Qh ?k3Qh ?k4Qh ?_; (case k1Qh => k_asm); (case k2Qh => k_mem); (case k3Qh => assumption); (case k4Qh => assumption); k_whole); intro _ _))
  (k_with "call builtin:list.append" => (k_here; (with_reducible show wpAny _ _ (call (Value.builtin _) [Value.ref _, _]) _ _ _); k_dflt (refine' append_K ?k1Qh ?k2Qh ?k3Qh ?_ ?zQh; (case k1Qh => k_asm); (case k2Qh => k_asm); (case k3Qh => k_upd); (case zQh => assumption); k_whole); intro _ _ _; (try k_sweep)))
  (k_with "subscriptTail Name Name str int" => (k_here; (with_reducible show wpAny _ _ (subscriptTail _ _ (Value.str _ _) (Value.int (Nat.cast _) _)) _ _ _); k_dflt (refine' str_at0 ?k2Qh ?k3Qh ?_; (case k2Qh => assumption); (case k3Qh => first | exact lt100 (by assumption) rfl | exact lt10 (by assumption) rfl | omega); k_whole)))
  (k_with "subscriptTail Name Name str int" => (k_here; (with_reducible show wpAny _ _ (subscriptTail _ _ (Value.str _ _) (Value.int (_ + 1) _)) _ _ _); k_dflt (refine' str_at1 ?k2Qh ?k3Qh ?_; (case k2Qh => first | assumption | exact hc2 (by omega)); (case k3Qh => first | exact lt100 (by assumption) rfl | exact lt10 (by assumption) rfl | omega); k_whole)))
  (k_with "compareOp Eq str str" => ((with_reducible show wpAny _ _ (compareOp _ (Value.str (Str.mk #[_]) _) (Value.str (Str.mk #[_]) _)) _ _ _); refine eq_cc ?_))
  (k_with "compareOp Eq str str" => ((with_reducible show wpAny _ _ (compareOp _ (Value.str (Str.mk #[_]) _) (Value.str (Str.ofString "%") _)) _ _ _); refine eq_pct ?_))
  (k_with "compareOp Eq str str" => ((with_reducible show wpAny _ _ (compareOp _ (Value.str (Str.mk #[_]) _) (Value.str (Str.ofString "_") _)) _ _ _); refine eq_und ?_))
  (k_with "compareOp Eq str" => ((with_reducible show wpAny _ _ (compareOp _ (Value.str (Str.mk #[_]) _) (escV _ _)) _ _ _); refine eq_ce ?_))
  (k_with "compareOp IsNot" => ((with_reducible show wpAny _ _ (compareOp _ (escV _ _) Value.none) _ _ _); refine isnot_e ?_))
  (k_with "compareOp In str str" => ((with_reducible show wpAny _ _ (compareOp _ (Value.str (Str.mk #[_]) _) (Value.str (Str.ofString "%_") _)) _ _ _); refine in_pu ?_))
  (k_with "call builtin:len" => ((with_reducible show wpAny _ _ (call (Value.builtin _) [Value.str _ _]) _ _ _); refine' len_txt ?k1Qh ?_; (case k1Qh => first | exact lt100 (by assumption) rfl | exact lt10 (by assumption) rfl | omega)))
  (k_with "newTuple" => (k_here; k_dflt (refine' newTuple_my ?k1Qh ?k2Qh ?_ ?zQh; (case k1Qh => k_asm); (case k2Qh => k_asm); (case zQh => exact Nat.le_of_ble_eq_true rfl); k_whole); intro _ _ _ _ l1; (try k_lt l1); revert l1; intro _; (try k_sweep)))
  (k_with "compareOp Eq int int" => (refine eq_ii ?_))
  (k_with "enterC" => (refine' code_defC ?k1Qh ?k2Qh ?k3Qh ?k4Qh ?k5Qh ?kAQh ?kFQh ?kKQh ?k6Qh ?k7Qh ?k8Qh ?k9Qh ?kBQh ?kDQh ?_ ?c2Qh ?c3Qh ?c4Qh; (case kAQh => exact rfl); (case kFQh => exact rfl); (case kKQh => assumption); (case k1Qh => k_asm); (case k2Qh => k_asm); (case k3Qh => k_asm); (case k4Qh => k_asm); (case k5Qh => k_asm); (case k6Qh => k_is); (case k7Qh => k_is); (case k8Qh => walk_at "room"); (case k9Qh => exact BindsTo.of_eq rfl); (case kBQh => exact rfl); (case kDQh => decide +kernel); (case c2Qh => exact rfl); (case c3Qh => exact rfl); (case c4Qh => exact rfl); k_whole; walk_at "tail0"))
  (k_with "eval ListComp" => (k_here; k_dflt (refine LCg.ListComp_U (F₀ := by k_asm) (by rfl) (by decide) (by rfl) (by decide) (by rfl) ?_)))
  (k_with "eval Name" => (k_here; (with_reducible show wpAny _ _ (eval (Expr.Name _ _) (compEnvC _ _ _ _)) _ _ _); k_dflt (refine' ldC ?k1Qh ?k2Qh ?k3Qh ?k4Qh ?_; (case k1Qh => k_asm); (case k2Qh => rfl); (case k3Qh => k_mem); (case k4Qh => k_asm); k_whole)))
  (k_with "CompSrc" => fail "own")
  (k_with "exec While Compare cons nil" => show Mine.Stop _)
  (k_with "exec While BoolOp cons nil" => show Mine.Stop _)
  (k_with "enterD" => (refine' code_def ?k1Qh ?k2Qh ?k3Qh ?k4Qh ?k5Qh ?kAQh ?kFQh ?kKQh ?k6Qh ?k7Qh ?k8Qh ?k9Qh ?kBQh ?_ ?c2Qh ?c3Qh ?c4Qh ?c5Qh; (case kAQh => exact rfl); (case kFQh => exact rfl); (case kKQh => first | exact rfl | assumption); (case k1Qh => k_asm); (case k2Qh => k_asm); (case k3Qh => k_asm); (case k4Qh => k_asm); (case k5Qh => k_asm); (case k6Qh => k_is); (case k7Qh => k_is); (case k8Qh => walk_at "room"); (case k9Qh => first | exact BindsTo.of_eq rfl | exact binds_K (by k_in) rfl (by k_is) rfl rfl rfl | fail "enterD: no rule for these arguments"); (case c5Qh => decide); (case kBQh => exact locs rfl); (case c2Qh => exact rfl); (case c3Qh => exact rfl); (case c4Qh => exact rfl); k_whole; intro _ _ _ _ _ _ _ _ _; (try dsimp only); (try k_fold)))
  (k_with "makeD" => (refine' call_cls ?k1Qh ?k2Qh ?k3Qh ?k4Qh ?k5Qh ?k6Qh ?_; (case k1Qh => k_asm); (case k2Qh => k_asm); (case k3Qh => k_asm); (case k4Qh => k_is); (case k5Qh => k_is); (case k6Qh => k_is); k_whole; intro _ _ _ _ _ l1 l2; (try k_lt l1); (try k_lt2 l2); revert l1 l2; intro _ _; (try k_sweep); walk_at "enterD"))
  (k_with "subscriptTail Name Name ref int" => (k_here; (with_reducible show wpAny _ _ (subscriptTail _ _ (Value.ref _) (Value.int (Nat.cast _) _)) _ _ _); k_dflt (refine' item_nat ?k1Qh ?k2Qh ?k3Qh ?k4Qh ?_; (case k1Qh => k_asm); (case k2Qh => k_mem); (case k3Qh => assumption); (case k4Qh => first | exact lt100 (by assumption) rfl | exact lt10 (by assumption) rfl | omega); k_whole)))
  (k_with "call builtin:len" => ((with_reducible show wpAny _ _ (call (Value.builtin _) [escV _ _]) _ _ _); refine' len_e ?k1Qh ?_; (case k1Qh => assumption)))
  (k_with "sub" => ((repeat' (first | refine List.forall_mem_cons.mpr ⟨?_, ?_⟩ | exact List.mem_cons_self | (refine List.mem_cons_of_mem _ ?_; k_mem) | (exact fun x hx => by k_mem))); done))
  (k_with "ifs" => ((try dsimp only); (repeat (refine Eq.trans (if_neg (by assumption)) ?_)); (repeat (refine Eq.trans ?_ (Eq.symm (if_neg (by assumption))))); exact rfl))
  (k_with "storeName" => dsimp only)
  (k_with "eval Call" => (k_here; (with_reducible show wpAny _ _ (eval (Expr.Call (Expr.Name (Str.ofString "len") _) [Expr.Name _ _] [] _) _) _ _ _); k_dflt (refine' len1 ?FQh ?XQh ?TQh ?eQh ?hvQh ?_; (case FQh => k_asm); (case XQh => k_asm); (case TQh => k_asm); (case eQh => k_is); (case hvQh => rfl); k_whole)))
  (k_with "lt" => first | assumption | exact And.left (by assumption) | exact pj1 (by assumption) | exact pj2 (by assumption) | exact pj3 (by assumption) | exact pj4 (by assumption) | exact pj5 (by assumption) | exact pj6 (by assumption) | exact pj7 (by assumption) | exact Nat.lt_succ_of_lt (And.left (by assumption)) | exact Nat.lt_succ_of_lt (Nat.lt_succ_of_lt (And.left (by assumption))))
  (k_with "call ref" => (k_here; (with_reducible show wpAny _ _ (call (Value.ref 118) _ _) _ _ _); k_dflt (refine' take_u ?k1Qh ?k2Qh ?k3Qh (Pick.news ?kpQh ?k4Qh) ?k5Qh ?kKQh ?kdQh ?kuQh ?kneQh ?ksoQh ?ktQh ?kt1Qh ?_; (case k1Qh => k_asm); (case k2Qh => k_asm); (case k3Qh => k_asm); (case k4Qh => k_asm); (case kpQh => walk_at "pick"); (case k5Qh => k_asm); (case kKQh => first | exact rfl | assumption); (case kdQh => walk_at "room"); (case kuQh => walk_at "units"); (case kneQh => k_all); (case ksoQh => assumption); (case ktQh => first | assumption | decide | omega); (case kt1Qh => first | assumption | decide | omega); k_whole; intro _ _ _ _ _ _ _ _ _ _; (try k_sweep))))
  trivial
section One
theorem rowsAt5 : True := by
  (k_with "subscriptTail Name Call ref int" => (k_here; (with_reducible show wpAny _ _ (subscriptTail _ _ (Value.ref _) (Value.int _ _)) _ _ _); k_dflt (refine' item_in ?k1Qh ?k2Qh ?k3Qh ?k4Qh ?k5Qh ?_; (case k1Qh => k_asm); (case k2Qh => k_mem); (case k3Qh => assumption); (case k4Qh => assumption); (case k5Qh => omega); k_whole); intro _ _))
  trivial
theorem one_c (w : World) (loose : List Str) (mean : ExcName → Option Value) (mg mb : Str → Option Value) (rest : List (Addr × Obj)) (sa la : Addr) (so : Obj) (its : Array Value) (n : Nat)
   (hne : ∀ p ∈ rest, p.1 ≠ sa) (hs : SrcOk so) (hm : (la, W.listOf its n) ∈ rest) (h1 : 1 ≤ its.size) (h2 : its.size < 1000) :
    Con w loose mean mg mb 125 ((sa, so) :: rest) [.ref sa, .ref la] 4 (fun news' r => ∃ so', SrcOk so' ∧ news' = (sa, so') :: rest ∧ r ∈ its.toList) := by
  have h3 : its.size < 1000000 := by omega
  have h4 : (1 : Int) ≤ its.size := by omega
  have h5 : (its.size : Int) < 1000 := by omega
  unfold Con
  k_fill
  intro dp un gd cn cs a ccd cl outer A₀ base h₀ L m s Q E B F X N T hk hd1 hu1 hret
  refine wpAny_call ?_
  k_dflt ktr_enter
  k_steps
  exact hret _ _ _ _ (by assumption) (by assumption) ⟨_, by assumption, rfl, by assumption⟩
theorem one_u {w : World} {loose : List Str} {mean : ExcName → Option Value} {mg mb : Str → Option Value} {dp un : Nat} {gd : Option (List Code)} {cn : Str} {cs : Scope} {a : Addr} {ccd : Value} {cl : List (Str × Addr)} {outer : List Env} {A₀ : Around} {base h₀ : Heap} {L : Addr} {m : Str → Option Value} {s : Shared} {Q E : Value → Shared → Prop} {rest : List (Addr × Obj)} {sa la : Addr} {so : Obj} {its : Array Value} {n : Nat}
    (B : Below A₀ base outer h₀) (F : Fr h₀ L s.heap m) (X : (hd.heap_39 w.params).In h₀) (N : News h₀ L s.heap ((sa, so) :: rest)) (T : Top hd.view_39 loose mean mg mb h₀) (hk : cs.kind = .function)
    (hd1 : dp + 4 < recursionLimit) (hu : un + 8 * 4 < cLine) (hne : ∀ p ∈ rest, p.1 ≠ sa) (hs : SrcOk so) (hm : (la, W.listOf its n) ∈ rest) (h1 : 1 ≤ its.size) (h2 : its.size < 1000)
    (h : ∀ r h' tk', Fr h₀ L h' m → ∀ so', SrcOk so' → r ∈ its.toList → News h₀ L h' ((sa, so') :: rest) → Q r { s with heap := h', toks := tk' }) :
    wpAny (model PySem.Challenge.rw_qd0119_01.row.prog w) (ktrTop dp un gd cn cs L a ccd cl outer) (call (.ref 125) [.ref sa, .ref la]) Q E s :=
  Con.use B F X N T hk hd1 hu (one_c w loose mean mg mb rest sa la so its n hne hs hm h1 h2) (by
    rintro r h' tk' news' F' N' ⟨so', hs', rfl, hr⟩
    exact h _ _ _ F' _ hs' hr N')
end One
theorem rowsAt6 : True := by
  k_with_none
  (k_with "pick" => first | exact Pick.head | exact Pick.tail (Pick.head) | exact Pick.tail (Pick.tail (Pick.head)) | exact Pick.tail (Pick.tail (Pick.tail (Pick.head))) | exact Pick.tail (Pick.tail (Pick.tail (Pick.tail (Pick.head)))) | exact Pick.tail (Pick.tail (Pick.tail (Pick.tail (Pick.tail (Pick.head))))) | exact Pick.tail (Pick.tail (Pick.tail (Pick.tail (Pick.tail (Pick.tail (Pick.head)))))) | exact Pick.tail (Pick.tail (Pick.tail (Pick.tail (Pick.tail (Pick.tail (Pick.tail (Pick.head))))))) | exact Pick.tail (Pick.tail (Pick.tail (Pick.tail (Pick.tail (Pick.tail (Pick.tail (Pick.tail (Pick.head)))))))) | exact Pick.tail (Pick.tail (Pick.tail (Pick.tail (Pick.tail (Pick.tail (Pick.tail (Pick.tail (Pick.tail (Pick.head))))))))) | exact Pick.tail (Pick.tail (Pick.tail (Pick.tail (Pick.tail (Pick.tail (Pick.tail (Pick.tail (Pick.tail (Pick.tail (Pick.head)))))))))) | exact Pick.tail (Pick.tail (Pick.tail (Pick.tail (Pick.tail (Pick.tail (Pick.tail (Pick.tail (Pick.tail (Pick.tail (Pick.tail (Pick.head))))))))))) | exact Pick.tail (Pick.tail (Pick.tail (Pick.tail (Pick.tail (Pick.tail (Pick.tail (Pick.tail (Pick.tail (Pick.tail (Pick.tail (Pick.tail (Pick.head)))))))))))) | exact Pick.tail (Pick.tail (Pick.tail (Pick.tail (Pick.tail (Pick.tail (Pick.tail (Pick.tail (Pick.tail (Pick.tail (Pick.tail (Pick.tail (Pick.tail (Pick.head))))))))))))) | exact Pick.tail (Pick.tail (Pick.tail (Pick.tail (Pick.tail (Pick.tail (Pick.tail (Pick.tail (Pick.tail (Pick.tail (Pick.tail (Pick.tail (Pick.tail (Pick.tail (Pick.head)))))))))))))) | exact Pick.tail (Pick.tail (Pick.tail (Pick.tail (Pick.tail (Pick.tail (Pick.tail (Pick.tail (Pick.tail (Pick.tail (Pick.tail (Pick.tail (Pick.tail (Pick.tail (Pick.tail (Pick.head))))))))))))))))
  (k_with "room" => first | exact room_m 1 hd1 rfl rfl | exact room_m 2 hd1 rfl rfl | exact room_m 3 hd1 rfl rfl | exact room_0 0 hd1 rfl rfl | exact room_0 1 hd1 rfl rfl | exact room_0 2 hd1 rfl rfl | exact room_0 3 hd1 rfl rfl | (walk_say "ROOM BY OMEGA"; (try simp only [depth_under_make, depth_under_kw, depth_in1, depth_deeper, depth_caller]); (try dsimp only [ktrTop]); omega))
  (k_with "units" => first | exact unit_m 0 hu1 rfl rfl | exact unit_m 3 hu1 rfl rfl | exact unit_m 6 hu1 rfl rfl | exact unit_m 4 hu1 rfl rfl | exact unit_m 7 hu1 rfl rfl | (walk_say "UNITS BY OMEGA"; (try simp only [units_in1, units_deeper, Around.mark_units, units_caller]); (try dsimp only [ktrTop]); omega))
  (k_with "con1" => (refine' Con.use ?k1Qh ?k2Qh ?k3Qh (Pick.news ?kpQh ?k4Qh) ?k5Qh ?kKQh ?kdQh ?kuQh ?kCQh ?_; (case k1Qh => k_asm); (case k2Qh => k_asm); (case k3Qh => k_asm); (case k5Qh => k_asm); (case kKQh => first | exact rfl | assumption); rotate_left))
  (k_with "call builtin:len" => (k_here; (with_reducible show wpAny _ _ (call (Value.builtin _) [Value.ref _]) _ _ _); k_dflt (refine' len_at ?k1Qh ?k2Qh ?k3Qh ?_; (case k1Qh => k_asm); (case k2Qh => k_mem); (case k3Qh => first | assumption | exact lt100 (by assumption) rfl | (simp; done) | omega); k_whole)))
  (k_with "call builtin:str.join" => (k_here; k_dflt (refine' join_at ?k1Qh ?k2Qh ?k3Qh ?k4Qh ?_; (case k1Qh => k_asm); (case k2Qh => k_mem); (case k3Qh => assumption); (case k4Qh => assumption); k_whole); intro _ _))
  (k_with "call builtin:list.append" => (k_here; (with_reducible show wpAny _ _ (call (Value.builtin _) [Value.ref _, _]) _ _ _); k_dflt (refine' append_K ?k1Qh ?k2Qh ?k3Qh ?_ ?zQh; (case k1Qh => k_asm); (case k2Qh => k_asm); (case k3Qh => k_upd); (case zQh => assumption); k_whole); intro _ _ _; (try k_sweep)))
  (k_with "subscriptTail Name Name str int" => (k_here; (with_reducible show wpAny _ _ (subscriptTail _ _ (Value.str _ _) (Value.int (Nat.cast _) _)) _ _ _); k_dflt (refine' str_at0 ?k2Qh ?k3Qh ?_; (case k2Qh => assumption); (case k3Qh => first | exact lt100 (by assumption) rfl | exact lt10 (by assumption) rfl | omega); k_whole)))
  (k_with "subscriptTail Name Name str int" => (k_here; (with_reducible show wpAny _ _ (subscriptTail _ _ (Value.str _ _) (Value.int (_ + 1) _)) _ _ _); k_dflt (refine' str_at1 ?k2Qh ?k3Qh ?_; (case k2Qh => first | assumption | exact hc2 (by omega)); (case k3Qh => first | exact lt100 (by assumption) rfl | exact lt10 (by assumption) rfl | omega); k_whole)))
  (k_with "compareOp Eq str str" => ((with_reducible show wpAny _ _ (compareOp _ (Value.str (Str.mk #[_]) _) (Value.str (Str.mk #[_]) _)) _ _ _); refine eq_cc ?_))
  (k_with "compareOp Eq str str" => ((with_reducible show wpAny _ _ (compareOp _ (Value.str (Str.mk #[_]) _) (Value.str (Str.ofString "%") _)) _ _ _); refine eq_pct ?_))
  (k_with "compareOp Eq str str" => ((with_reducible show wpAny _ _ (compareOp _ (Value.str (Str.mk #[_]) _) (Value.str (Str.ofString "_") _)) _ _ _); refine eq_und ?_))
  (k_with "compareOp Eq str" => ((with_reducible show wpAny _ _ (compareOp _ (Value.str (Str.mk #[_]) _) (escV _ _)) _ _ _); refine eq_ce ?_))
  (k_with "compareOp IsNot" => ((with_reducible show wpAny _ _ (compareOp _ (escV _ _) Value.none) _ _ _); refine isnot_e ?_))
  (k_with "compareOp In str str" => ((with_reducible show wpAny _ _ (compareOp _ (Value.str (Str.mk #[_]) _) (Value.str (Str.ofString "%_") _)) _ _ _); refine in_pu ?_))
  (k_with "call builtin:len" => ((with_reducible show wpAny _ _ (call (Value.builtin _) [Value.str _ _]) _ _ _); refine' len_txt ?k1Qh ?_; (case k1Qh => first | exact lt100 (by assumption) rfl | exact lt10 (by assumption) rfl | omega)))
  (k_with "newTuple" => (k_here; k_dflt (refine' newTuple_my ?k1Qh ?k2Qh ?_ ?zQh; (case k1Qh => k_asm); (case k2Qh => k_asm); (case zQh => exact Nat.le_of_ble_eq_true rfl); k_whole); intro _ _ _ _ l1; (try k_lt l1); revert l1; intro _; (try k_sweep)))
  (k_with "compareOp Eq int int" => (refine eq_ii ?_))
  (k_with "enterC" => (refine' code_defC ?k1Qh ?k2Qh ?k3Qh ?k4Qh ?k5Qh ?kAQh ?kFQh ?kKQh ?k6Qh ?k7Qh ?k8Qh ?k9Qh ?kBQh ?kDQh ?_ ?c2Qh ?c3Qh ?c4Qh; (case kAQh => exact rfl); (case kFQh => exact rfl); (case kKQh => assumption); (case k1Qh => k_asm); (case k2Qh => k_asm); (case k3Qh => k_asm); (case k4Qh => k_asm); (case k5Qh => k_asm); (case k6Qh => k_is); (case k7Qh => k_is); (case k8Qh => walk_at "room"); (case k9Qh => exact BindsTo.of_eq rfl); (case kBQh => exact rfl); (case kDQh => decide +kernel); (case c2Qh => exact rfl); (case c3Qh => exact rfl); (case c4Qh => exact rfl); k_whole; walk_at "tail0"))
  (k_with "eval ListComp" => (k_here; k_dflt (refine LCg.ListComp_U (F₀ := by k_asm) (by rfl) (by decide) (by rfl) (by decide) (by rfl) ?_)))
  (k_with "eval Name" => (k_here; (with_reducible show wpAny _ _ (eval (Expr.Name _ _) (compEnvC _ _ _ _)) _ _ _); k_dflt (refine' ldC ?k1Qh ?k2Qh ?k3Qh ?k4Qh ?_; (case k1Qh => k_asm); (case k2Qh => rfl); (case k3Qh => k_mem); (case k4Qh => k_asm); k_whole)))
  (k_with "CompSrc" => fail "own")
  (k_with "exec While Compare cons nil" => show Mine.Stop _)
  (k_with "exec While BoolOp cons nil" => show Mine.Stop _)
  (k_with "enterD" => (refine' code_def ?k1Qh ?k2Qh ?k3Qh ?k4Qh ?k5Qh ?kAQh ?kFQh ?kKQh ?k6Qh ?k7Qh ?k8Qh ?k9Qh ?kBQh ?_ ?c2Qh ?c3Qh ?c4Qh ?c5Qh; (case kAQh => exact rfl); (case kFQh => exact rfl); (case kKQh => first | exact rfl | assumption); (case k1Qh => k_asm); (case k2Qh => k_asm); (case k3Qh => k_asm); (case k4Qh => k_asm); (case k5Qh => k_asm); (case k6Qh => k_is); (case k7Qh => k_is); (case k8Qh => walk_at "room"); (case k9Qh => first | exact BindsTo.of_eq rfl | exact binds_K (by k_in) rfl (by k_is) rfl rfl rfl | fail "enterD: no rule for these arguments"); (case c5Qh => decide); (case kBQh => exact locs rfl); (case c2Qh => exact rfl); (case c3Qh => exact rfl); (case c4Qh => exact rfl); k_whole; intro _ _ _ _ _ _ _ _ _; (try dsimp only); (try k_fold)))
  (k_with "makeD" => (refine' call_cls ?k1Qh ?k2Qh ?k3Qh ?k4Qh ?k5Qh ?k6Qh ?_; (case k1Qh => k_asm); (case k2Qh => k_asm); (case k3Qh => k_asm); (case k4Qh => k_is); (case k5Qh => k_is); (case k6Qh => k_is); k_whole; intro _ _ _ _ _ l1 l2; (try k_lt l1); (try k_lt2 l2); revert l1 l2; intro _ _; (try k_sweep); walk_at "enterD"))
  (k_with "subscriptTail Name Name ref int" => (k_here; (with_reducible show wpAny _ _ (subscriptTail _ _ (Value.ref _) (Value.int (Nat.cast _) _)) _ _ _); k_dflt (refine' item_nat ?k1Qh ?k2Qh ?k3Qh ?k4Qh ?_; (case k1Qh => k_asm); (case k2Qh => k_mem); (case k3Qh => assumption); (case k4Qh => first | exact lt100 (by assumption) rfl | exact lt10 (by assumption) rfl | omega); k_whole)))
  (k_with "call builtin:len" => ((with_reducible show wpAny _ _ (call (Value.builtin _) [escV _ _]) _ _ _); refine' len_e ?k1Qh ?_; (case k1Qh => assumption)))
  (k_with "sub" => ((repeat' (first | refine List.forall_mem_cons.mpr ⟨?_, ?_⟩ | exact List.mem_cons_self | (refine List.mem_cons_of_mem _ ?_; k_mem) | (exact fun x hx => by k_mem))); done))
  (k_with "ifs" => ((try dsimp only); (repeat (refine Eq.trans (if_neg (by assumption)) ?_)); (repeat (refine Eq.trans ?_ (Eq.symm (if_neg (by assumption))))); exact rfl))
  (k_with "storeName" => dsimp only)
  (k_with "eval Call" => (k_here; (with_reducible show wpAny _ _ (eval (Expr.Call (Expr.Name (Str.ofString "len") _) [Expr.Name _ _] [] _) _) _ _ _); k_dflt (refine' len1 ?FQh ?XQh ?TQh ?eQh ?hvQh ?_; (case FQh => k_asm); (case XQh => k_asm); (case TQh => k_asm); (case eQh => k_is); (case hvQh => rfl); k_whole)))
  (k_with "lt" => first | assumption | exact And.left (by assumption) | exact pj1 (by assumption) | exact pj2 (by assumption) | exact pj3 (by assumption) | exact pj4 (by assumption) | exact pj5 (by assumption) | exact pj6 (by assumption) | exact pj7 (by assumption) | exact Nat.lt_succ_of_lt (And.left (by assumption)) | exact Nat.lt_succ_of_lt (Nat.lt_succ_of_lt (And.left (by assumption))))
  trivial
section Signs
theorem signs_c (w : World) (loose : List Str) (mean : ExcName → Option Value) (mg mb : Str → Option Value) (news : List (Addr × Obj)) :
    Con w loose mean mg mb 151 news [] 4 (fun news' r => ∃ la its n, news' = (la, W.listOf its n) :: news ∧ (∀ p ∈ news, p.1 < la) ∧ r = .ref la ∧ its.size = 14 ∧ ∀ v ∈ its.toList, ∃ c u, v = .str ⟨#[c]⟩ u) := by
  unfold Con
  k_fill
  intro dp un gd cn cs a ccd cl outer A₀ base h₀ L m s Q E B F X N T hk hd1 hu1 hret
  refine wpAny_call ?_
  k_dflt ktr_enter
  k_steps
  refine hret _ _ _ _ (by assumption) (by assumption) ⟨_, _, _, rfl, by assumption, rfl, rfl, ?_⟩
  show ∀ v ∈ [_, _, _, _, _, _, _, _, _, _, _, _, _, _], _
  simp only [List.mem_cons, List.not_mem_nil, or_false]
  rintro v (rfl | rfl | rfl | rfl | rfl | rfl | rfl | rfl | rfl | rfl | rfl | rfl | rfl | rfl) <;> exact ⟨_, _, rfl⟩
theorem signs_u {w : World} {loose : List Str} {mean : ExcName → Option Value} {mg mb : Str → Option Value} {dp un : Nat} {gd : Option (List Code)} {cn : Str} {cs : Scope} {a : Addr} {ccd : Value} {cl : List (Str × Addr)} {outer : List Env} {A₀ : Around} {base h₀ : Heap} {L : Addr} {m : Str → Option Value} {s : Shared} {Q E : Value → Shared → Prop} {news : List (Addr × Obj)}
    (B : Below A₀ base outer h₀) (F : Fr h₀ L s.heap m) (X : (hd.heap_39 w.params).In h₀) (N : News h₀ L s.heap news) (T : Top hd.view_39 loose mean mg mb h₀) (hk : cs.kind = .function)
    (hd1 : dp + 4 < recursionLimit) (hu : un + 8 * 4 < cLine) 
    (h : ∀ h' tk', Fr h₀ L h' m → ∀ la its n, (∀ p ∈ news, p.1 < la) → its.size = 14 → (∀ v ∈ its.toList, ∃ c u, v = .str ⟨#[c]⟩ u) → News h₀ L h' ((la, W.listOf its n) :: news) → Q (.ref la) { s with heap := h', toks := tk' }) :
    wpAny (model PySem.Challenge.rw_qd0119_01.row.prog w) (ktrTop dp un gd cn cs L a ccd cl outer) (call (.ref 151) []) Q E s :=
  Con.use B F X N T hk hd1 hu (signs_c w loose mean mg mb news) (by
    rintro r h' tk' news' F' N' ⟨la, its, n, rfl, hl, rfl, hz, hq⟩
    exact h _ _ F' _ _ _ hl hz hq N')
end Signs
theorem rowsAt7 : True := by
  k_with_none
  (k_with "pick" => first | exact Pick.head | exact Pick.tail (Pick.head) | exact Pick.tail (Pick.tail (Pick.head)) | exact Pick.tail (Pick.tail (Pick.tail (Pick.head))) | exact Pick.tail (Pick.tail (Pick.tail (Pick.tail (Pick.head)))) | exact Pick.tail (Pick.tail (Pick.tail (Pick.tail (Pick.tail (Pick.head))))) | exact Pick.tail (Pick.tail (Pick.tail (Pick.tail (Pick.tail (Pick.tail (Pick.head)))))) | exact Pick.tail (Pick.tail (Pick.tail (Pick.tail (Pick.tail (Pick.tail (Pick.tail (Pick.head))))))) | exact Pick.tail (Pick.tail (Pick.tail (Pick.tail (Pick.tail (Pick.tail (Pick.tail (Pick.tail (Pick.head)))))))) | exact Pick.tail (Pick.tail (Pick.tail (Pick.tail (Pick.tail (Pick.tail (Pick.tail (Pick.tail (Pick.tail (Pick.head))))))))) | exact Pick.tail (Pick.tail (Pick.tail (Pick.tail (Pick.tail (Pick.tail (Pick.tail (Pick.tail (Pick.tail (Pick.tail (Pick.head)))))))))) | exact Pick.tail (Pick.tail (Pick.tail (Pick.tail (Pick.tail (Pick.tail (Pick.tail (Pick.tail (Pick.tail (Pick.tail (Pick.tail (Pick.head))))))))))) | exact Pick.tail (Pick.tail (Pick.tail (Pick.tail (Pick.tail (Pick.tail (Pick.tail (Pick.tail (Pick.tail (Pick.tail (Pick.tail (Pick.tail (Pick.head)))))))))))) | exact Pick.tail (Pick.tail (Pick.tail (Pick.tail (Pick.tail (Pick.tail (Pick.tail (Pick.tail (Pick.tail (Pick.tail (Pick.tail (Pick.tail (Pick.tail (Pick.head))))))))))))) | exact Pick.tail (Pick.tail (Pick.tail (Pick.tail (Pick.tail (Pick.tail (Pick.tail (Pick.tail (Pick.tail (Pick.tail (Pick.tail (Pick.tail (Pick.tail (Pick.tail (Pick.head)))))))))))))) | exact Pick.tail (Pick.tail (Pick.tail (Pick.tail (Pick.tail (Pick.tail (Pick.tail (Pick.tail (Pick.tail (Pick.tail (Pick.tail (Pick.tail (Pick.tail (Pick.tail (Pick.tail (Pick.head))))))))))))))))
  (k_with "room" => first | exact room_m 1 hd1 rfl rfl | exact room_m 2 hd1 rfl rfl | exact room_m 3 hd1 rfl rfl | exact room_0 0 hd1 rfl rfl | exact room_0 1 hd1 rfl rfl | exact room_0 2 hd1 rfl rfl | exact room_0 3 hd1 rfl rfl | (walk_say "ROOM BY OMEGA"; (try simp only [depth_under_make, depth_under_kw, depth_in1, depth_deeper, depth_caller]); (try dsimp only [ktrTop]); omega))
  (k_with "units" => first | exact unit_m 0 hu1 rfl rfl | exact unit_m 3 hu1 rfl rfl | exact unit_m 6 hu1 rfl rfl | exact unit_m 4 hu1 rfl rfl | exact unit_m 7 hu1 rfl rfl | (walk_say "UNITS BY OMEGA"; (try simp only [units_in1, units_deeper, Around.mark_units, units_caller]); (try dsimp only [ktrTop]); omega))
  (k_with "con1" => (refine' Con.use ?k1Qh ?k2Qh ?k3Qh (Pick.news ?kpQh ?k4Qh) ?k5Qh ?kKQh ?kdQh ?kuQh ?kCQh ?_; (case k1Qh => k_asm); (case k2Qh => k_asm); (case k3Qh => k_asm); (case k5Qh => k_asm); (case kKQh => first | exact rfl | assumption); rotate_left))
  (k_with "call builtin:len" => (k_here; (with_reducible show wpAny _ _ (call (Value.builtin _) [Value.ref _]) _ _ _); k_dflt (refine' len_at ?k1Qh ?k2Qh ?k3Qh ?_; (case k1Qh => k_asm); (case k2Qh => k_mem); (case k3Qh => first | assumption | exact lt100 (by assumption) rfl | (simp; done) | omega); k_whole)))
  (k_with "call builtin:str.join" => (k_here; k_dflt (refine' join_at ?k1Qh ?k2Qh ?k3Qh ?k4Qh ?_; (case k1Qh => k_asm); (case k2Qh => k_mem); (case k3Qh => assumption); (case k4Qh => assumption); k_whole); intro _ _))
  (k_with "call builtin:list.append" => (k_here; (with_reducible show wpAny _ _ (call (Value.builtin _) [Value.ref _, _]) _ _ _); k_dflt (refine' append_K ?k1Qh ?k2Qh ?k3Qh ?_ ?zQh; (case k1Qh => k_asm); (case k2Qh => k_asm); (case k3Qh => k_upd); (case zQh => assumption); k_whole); intro _ _ _; (try k_sweep)))
  (k_with "subscriptTail Name Name str int" => (k_here; (with_reducible show wpAny _ _ (subscriptTail _ _ (Value.str _ _) (Value.int (Nat.cast _) _)) _ _ _); k_dflt (refine' str_at0 ?k2Qh ?k3Qh ?_; (case k2Qh => assumption); (case k3Qh => first | exact lt100 (by assumption) rfl | exact lt10 (by assumption) rfl | omega); k_whole)))
  (k_with "subscriptTail Name Name str int" => (k_here; (with_reducible show wpAny _ _ (subscriptTail _ _ (Value.str _ _) (Value.int (_ + 1) _)) _ _ _); k_dflt (refine' str_at1 ?k2Qh ?k3Qh ?_; (case k2Qh => first | assumption | exact hc2 (by omega)); (case k3Qh => first | exact lt100 (by assumption) rfl | exact lt10 (by assumption) rfl | omega); k_whole)))
  (k_with "compareOp Eq str str" => ((with_reducible show wpAny _ _ (compareOp _ (Value.str (Str.mk #[_]) _) (Value.str (Str.mk #[_]) _)) _ _ _); refine eq_cc ?_))
  (k_with "compareOp Eq str str" => ((with_reducible show wpAny _ _ (compareOp _ (Value.str (Str.mk #[_]) _) (Value.str (Str.ofString "%") _)) _ _ _); refine eq_pct ?_))
  (k_with "compareOp Eq str str" => ((with_reducible show wpAny _ _ (compareOp _ (Value.str (Str.mk #[_]) _) (Value.str (Str.ofString "_") _)) _ _ _); refine eq_und ?_))
  (k_with "compareOp Eq str" => ((with_reducible show wpAny _ _ (compareOp _ (Value.str (Str.mk #[_]) _) (escV _ _)) _ _ _); refine eq_ce ?_))
  (k_with "compareOp IsNot" => ((with_reducible show wpAny _ _ (compareOp _ (escV _ _) Value.none) _ _ _); refine isnot_e ?_))
  (k_with "compareOp In str str" => ((with_reducible show wpAny _ _ (compareOp _ (Value.str (Str.mk #[_]) _) (Value.str (Str.ofString "%_") _)) _ _ _); refine in_pu ?_))
  (k_with "call builtin:len" => ((with_reducible show wpAny _ _ (call (Value.builtin _) [Value.str _ _]) _ _ _); refine' len_txt ?k1Qh ?_; (case k1Qh => first | exact lt100 (by assumption) rfl | exact lt10 (by assumption) rfl | omega)))
  (k_with "newTuple" => (k_here; k_dflt (refine' newTuple_my ?k1Qh ?k2Qh ?_ ?zQh; (case k1Qh => k_asm); (case k2Qh => k_asm); (case zQh => exact Nat.le_of_ble_eq_true rfl); k_whole); intro _ _ _ _ l1; (try k_lt l1); revert l1; intro _; (try k_sweep)))
  (k_with "compareOp Eq int int" => (refine eq_ii ?_))
  (k_with "enterC" => (refine' code_defC ?k1Qh ?k2Qh ?k3Qh ?k4Qh ?k5Qh ?kAQh ?kFQh ?kKQh ?k6Qh ?k7Qh ?k8Qh ?k9Qh ?kBQh ?kDQh ?_ ?c2Qh ?c3Qh ?c4Qh; (case kAQh => exact rfl); (case kFQh => exact rfl); (case kKQh => assumption); (case k1Qh => k_asm); (case k2Qh => k_asm); (case k3Qh => k_asm); (case k4Qh => k_asm); (case k5Qh => k_asm); (case k6Qh => k_is); (case k7Qh => k_is); (case k8Qh => walk_at "room"); (case k9Qh => exact BindsTo.of_eq rfl); (case kBQh => exact rfl); (case kDQh => decide +kernel); (case c2Qh => exact rfl); (case c3Qh => exact rfl); (case c4Qh => exact rfl); k_whole; walk_at "tail0"))
  (k_with "eval ListComp" => (k_here; k_dflt (refine LCg.ListComp_U (F₀ := by k_asm) (by rfl) (by decide) (by rfl) (by decide) (by rfl) ?_)))
  (k_with "eval Name" => (k_here; (with_reducible show wpAny _ _ (eval (Expr.Name _ _) (compEnvC _ _ _ _)) _ _ _); k_dflt (refine' ldC ?k1Qh ?k2Qh ?k3Qh ?k4Qh ?_; (case k1Qh => k_asm); (case k2Qh => rfl); (case k3Qh => k_mem); (case k4Qh => k_asm); k_whole)))
  (k_with "CompSrc" => fail "own")
  (k_with "exec While Compare cons nil" => show Mine.Stop _)
  (k_with "exec While BoolOp cons nil" => show Mine.Stop _)
  (k_with "enterD" => (refine' code_def ?k1Qh ?k2Qh ?k3Qh ?k4Qh ?k5Qh ?kAQh ?kFQh ?kKQh ?k6Qh ?k7Qh ?k8Qh ?k9Qh ?kBQh ?_ ?c2Qh ?c3Qh ?c4Qh ?c5Qh; (case kAQh => exact rfl); (case kFQh => exact rfl); (case kKQh => first | exact rfl | assumption); (case k1Qh => k_asm); (case k2Qh => k_asm); (case k3Qh => k_asm); (case k4Qh => k_asm); (case k5Qh => k_asm); (case k6Qh => k_is); (case k7Qh => k_is); (case k8Qh => walk_at "room"); (case k9Qh => first | exact BindsTo.of_eq rfl | exact binds_K (by k_in) rfl (by k_is) rfl rfl rfl | fail "enterD: no rule for these arguments"); (case c5Qh => decide); (case kBQh => exact locs rfl); (case c2Qh => exact rfl); (case c3Qh => exact rfl); (case c4Qh => exact rfl); k_whole; intro _ _ _ _ _ _ _ _ _; (try dsimp only); (try k_fold)))
  (k_with "makeD" => (refine' call_cls ?k1Qh ?k2Qh ?k3Qh ?k4Qh ?k5Qh ?k6Qh ?_; (case k1Qh => k_asm); (case k2Qh => k_asm); (case k3Qh => k_asm); (case k4Qh => k_is); (case k5Qh => k_is); (case k6Qh => k_is); k_whole; intro _ _ _ _ _ l1 l2; (try k_lt l1); (try k_lt2 l2); revert l1 l2; intro _ _; (try k_sweep); walk_at "enterD"))
  (k_with "subscriptTail Name Name ref int" => (k_here; (with_reducible show wpAny _ _ (subscriptTail _ _ (Value.ref _) (Value.int (Nat.cast _) _)) _ _ _); k_dflt (refine' item_nat ?k1Qh ?k2Qh ?k3Qh ?k4Qh ?_; (case k1Qh => k_asm); (case k2Qh => k_mem); (case k3Qh => assumption); (case k4Qh => first | exact lt100 (by assumption) rfl | exact lt10 (by assumption) rfl | omega); k_whole)))
  (k_with "call builtin:len" => ((with_reducible show wpAny _ _ (call (Value.builtin _) [escV _ _]) _ _ _); refine' len_e ?k1Qh ?_; (case k1Qh => assumption)))
  (k_with "sub" => ((repeat' (first | refine List.forall_mem_cons.mpr ⟨?_, ?_⟩ | exact List.mem_cons_self | (refine List.mem_cons_of_mem _ ?_; k_mem) | (exact fun x hx => by k_mem))); done))
  (k_with "ifs" => ((try dsimp only); (repeat (refine Eq.trans (if_neg (by assumption)) ?_)); (repeat (refine Eq.trans ?_ (Eq.symm (if_neg (by assumption))))); exact rfl))
  (k_with "storeName" => dsimp only)
  (k_with "eval Call" => (k_here; (with_reducible show wpAny _ _ (eval (Expr.Call (Expr.Name (Str.ofString "len") _) [Expr.Name _ _] [] _) _) _ _ _); k_dflt (refine' len1 ?FQh ?XQh ?TQh ?eQh ?hvQh ?_; (case FQh => k_asm); (case XQh => k_asm); (case TQh => k_asm); (case eQh => k_is); (case hvQh => rfl); k_whole)))
  (k_with "lt" => first | assumption | exact And.left (by assumption) | exact pj1 (by assumption) | exact pj2 (by assumption) | exact pj3 (by assumption) | exact pj4 (by assumption) | exact pj5 (by assumption) | exact pj6 (by assumption) | exact pj7 (by assumption) | exact Nat.lt_succ_of_lt (And.left (by assumption)) | exact Nat.lt_succ_of_lt (Nat.lt_succ_of_lt (And.left (by assumption))))
  trivial
section Pool
theorem pool_c (w : World) (loose : List Str) (mean : ExcName → Option Value) (mg mb : Str → Option Value) (news : List (Addr × Obj)) (la : Addr) (vs : List Value) (ns : List Int) (k : Int) (tk : Tok) (hi : IntsAre vs ns) (hL : (PyData.list (ns.map .int)).layable0 = true) (hln : ns.length < 100) (hk0 : 0 ≤ k) (hk2 : k < 2) :
    ConB w loose mean mg mb 111 news [.ref la, .int k tk] 4 (fun base => base.IsList la vs.toArray) (fun news' r => ∃ sa so, news' = (sa, so) :: news ∧ (∀ p ∈ news, p.1 < sa) ∧ r = .ref sa ∧ SrcOk so) := by
  unfold ConB
  k_fill
  intro dp un gd cn cs a ccd cl outer A₀ base h₀ L m s Q E B F X N T hk hd1 hu1 hpre hret
  refine wpAny_call ?_
  k_dflt ktr_enter
  rename Below _ _ _ _ => Bx
  k_lift Bx
  k_steps
  all_goals (refine hret _ _ _ _ (by assumption) (by assumption) ⟨_, _, rfl, by assumption, rfl, _, _, _, _, _, rfl, ?_, Int.fmod_nonneg_of_pos _ (by decide), Int.fmod_lt_of_pos _ (by decide)⟩)
  all_goals ((repeat' split) <;> omega)
end Pool
theorem rowsAt8 : True := by
  k_with_none
  (k_with "pick" => first | exact Pick.head | exact Pick.tail (Pick.head) | exact Pick.tail (Pick.tail (Pick.head)) | exact Pick.tail (Pick.tail (Pick.tail (Pick.head))) | exact Pick.tail (Pick.tail (Pick.tail (Pick.tail (Pick.head)))) | exact Pick.tail (Pick.tail (Pick.tail (Pick.tail (Pick.tail (Pick.head))))) | exact Pick.tail (Pick.tail (Pick.tail (Pick.tail (Pick.tail (Pick.tail (Pick.head)))))) | exact Pick.tail (Pick.tail (Pick.tail (Pick.tail (Pick.tail (Pick.tail (Pick.tail (Pick.head))))))) | exact Pick.tail (Pick.tail (Pick.tail (Pick.tail (Pick.tail (Pick.tail (Pick.tail (Pick.tail (Pick.head)))))))) | exact Pick.tail (Pick.tail (Pick.tail (Pick.tail (Pick.tail (Pick.tail (Pick.tail (Pick.tail (Pick.tail (Pick.head))))))))) | exact Pick.tail (Pick.tail (Pick.tail (Pick.tail (Pick.tail (Pick.tail (Pick.tail (Pick.tail (Pick.tail (Pick.tail (Pick.head)))))))))) | exact Pick.tail (Pick.tail (Pick.tail (Pick.tail (Pick.tail (Pick.tail (Pick.tail (Pick.tail (Pick.tail (Pick.tail (Pick.tail (Pick.head))))))))))) | exact Pick.tail (Pick.tail (Pick.tail (Pick.tail (Pick.tail (Pick.tail (Pick.tail (Pick.tail (Pick.tail (Pick.tail (Pick.tail (Pick.tail (Pick.head)))))))))))) | exact Pick.tail (Pick.tail (Pick.tail (Pick.tail (Pick.tail (Pick.tail (Pick.tail (Pick.tail (Pick.tail (Pick.tail (Pick.tail (Pick.tail (Pick.tail (Pick.head))))))))))))) | exact Pick.tail (Pick.tail (Pick.tail (Pick.tail (Pick.tail (Pick.tail (Pick.tail (Pick.tail (Pick.tail (Pick.tail (Pick.tail (Pick.tail (Pick.tail (Pick.tail (Pick.head)))))))))))))) | exact Pick.tail (Pick.tail (Pick.tail (Pick.tail (Pick.tail (Pick.tail (Pick.tail (Pick.tail (Pick.tail (Pick.tail (Pick.tail (Pick.tail (Pick.tail (Pick.tail (Pick.tail (Pick.head))))))))))))))))
  (k_with "room" => first | exact room_m 1 hd1 rfl rfl | exact room_m 2 hd1 rfl rfl | exact room_m 3 hd1 rfl rfl | exact room_0 0 hd1 rfl rfl | exact room_0 1 hd1 rfl rfl | exact room_0 2 hd1 rfl rfl | exact room_0 3 hd1 rfl rfl | (walk_say "ROOM BY OMEGA"; (try simp only [depth_under_make, depth_under_kw, depth_in1, depth_deeper, depth_caller]); (try dsimp only [ktrTop]); omega))
  (k_with "units" => first | exact unit_m 0 hu1 rfl rfl | exact unit_m 3 hu1 rfl rfl | exact unit_m 6 hu1 rfl rfl | exact unit_m 4 hu1 rfl rfl | exact unit_m 7 hu1 rfl rfl | (walk_say "UNITS BY OMEGA"; (try simp only [units_in1, units_deeper, Around.mark_units, units_caller]); (try dsimp only [ktrTop]); omega))
  (k_with "con1" => (refine' Con.use ?k1Qh ?k2Qh ?k3Qh (Pick.news ?kpQh ?k4Qh) ?k5Qh ?kKQh ?kdQh ?kuQh ?kCQh ?_; (case k1Qh => k_asm); (case k2Qh => k_asm); (case k3Qh => k_asm); (case k5Qh => k_asm); (case kKQh => first | exact rfl | assumption); rotate_left))
  (k_with "call builtin:len" => (k_here; (with_reducible show wpAny _ _ (call (Value.builtin _) [Value.ref _]) _ _ _); k_dflt (refine' len_at ?k1Qh ?k2Qh ?k3Qh ?_; (case k1Qh => k_asm); (case k2Qh => k_mem); (case k3Qh => first | assumption | exact lt100 (by assumption) rfl | (simp; done) | omega); k_whole)))
  (k_with "call builtin:str.join" => (k_here; k_dflt (refine' join_at ?k1Qh ?k2Qh ?k3Qh ?k4Qh ?_; (case k1Qh => k_asm); (case k2Qh => k_mem); (case k3Qh => assumption); (case k4Qh => assumption); k_whole); intro _ _))
  (k_with "call builtin:list.append" => (k_here; (with_reducible show wpAny _ _ (call (Value.builtin _) [Value.ref _, _]) _ _ _); k_dflt (refine' append_K ?k1Qh ?k2Qh ?k3Qh ?_ ?zQh; (case k1Qh => k_asm); (case k2Qh => k_asm); (case k3Qh => k_upd); (case zQh => assumption); k_whole); intro _ _ _; (try k_sweep)))
  (k_with "subscriptTail Name Name str int" => (k_here; (with_reducible show wpAny _ _ (subscriptTail _ _ (Value.str _ _) (Value.int (Nat.cast _) _)) _ _ _); k_dflt (refine' str_at0 ?k2Qh ?k3Qh ?_; (case k2Qh => assumption); (case k3Qh => first | exact lt100 (by assumption) rfl | exact lt10 (by assumption) rfl | omega); k_whole)))
  (k_with "subscriptTail Name Name str int" => (k_here; (with_reducible show wpAny _ _ (subscriptTail _ _ (Value.str _ _) (Value.int (_ + 1) _)) _ _ _); k_dflt (refine' str_at1 ?k2Qh ?k3Qh ?_; (case k2Qh => first | assumption | exact hc2 (by omega)); (case k3Qh => first | exact lt100 (by assumption) rfl | exact lt10 (by assumption) rfl | omega); k_whole)))
  (k_with "compareOp Eq str str" => ((with_reducible show wpAny _ _ (compareOp _ (Value.str (Str.mk #[_]) _) (Value.str (Str.mk #[_]) _)) _ _ _); refine eq_cc ?_))
  (k_with "compareOp Eq str str" => ((with_reducible show wpAny _ _ (compareOp _ (Value.str (Str.mk #[_]) _) (Value.str (Str.ofString "%") _)) _ _ _); refine eq_pct ?_))
  (k_with "compareOp Eq str str" => ((with_reducible show wpAny _ _ (compareOp _ (Value.str (Str.mk #[_]) _) (Value.str (Str.ofString "_") _)) _ _ _); refine eq_und ?_))
  (k_with "compareOp Eq str" => ((with_reducible show wpAny _ _ (compareOp _ (Value.str (Str.mk #[_]) _) (escV _ _)) _ _ _); refine eq_ce ?_))
  (k_with "compareOp IsNot" => ((with_reducible show wpAny _ _ (compareOp _ (escV _ _) Value.none) _ _ _); refine isnot_e ?_))
  (k_with "compareOp In str str" => ((with_reducible show wpAny _ _ (compareOp _ (Value.str (Str.mk #[_]) _) (Value.str (Str.ofString "%_") _)) _ _ _); refine in_pu ?_))
  (k_with "call builtin:len" => ((with_reducible show wpAny _ _ (call (Value.builtin _) [Value.str _ _]) _ _ _); refine' len_txt ?k1Qh ?_; (case k1Qh => first | exact lt100 (by assumption) rfl | exact lt10 (by assumption) rfl | omega)))
  (k_with "newTuple" => (k_here; k_dflt (refine' newTuple_my ?k1Qh ?k2Qh ?_ ?zQh; (case k1Qh => k_asm); (case k2Qh => k_asm); (case zQh => exact Nat.le_of_ble_eq_true rfl); k_whole); intro _ _ _ _ l1; (try k_lt l1); revert l1; intro _; (try k_sweep)))
  (k_with "compareOp Eq int int" => (refine eq_ii ?_))
  (k_with "enterC" => (refine' code_defC ?k1Qh ?k2Qh ?k3Qh ?k4Qh ?k5Qh ?kAQh ?kFQh ?kKQh ?k6Qh ?k7Qh ?k8Qh ?k9Qh ?kBQh ?kDQh ?_ ?c2Qh ?c3Qh ?c4Qh; (case kAQh => exact rfl); (case kFQh => exact rfl); (case kKQh => assumption); (case k1Qh => k_asm); (case k2Qh => k_asm); (case k3Qh => k_asm); (case k4Qh => k_asm); (case k5Qh => k_asm); (case k6Qh => k_is); (case k7Qh => k_is); (case k8Qh => walk_at "room"); (case k9Qh => exact BindsTo.of_eq rfl); (case kBQh => exact rfl); (case kDQh => decide +kernel); (case c2Qh => exact rfl); (case c3Qh => exact rfl); (case c4Qh => exact rfl); k_whole; walk_at "tail0"))
  (k_with "eval ListComp" => (k_here; k_dflt (refine LCg.ListComp_U (F₀ := by k_asm) (by rfl) (by decide) (by rfl) (by decide) (by rfl) ?_)))
  (k_with "eval Name" => (k_here; (with_reducible show wpAny _ _ (eval (Expr.Name _ _) (compEnvC _ _ _ _)) _ _ _); k_dflt (refine' ldC ?k1Qh ?k2Qh ?k3Qh ?k4Qh ?_; (case k1Qh => k_asm); (case k2Qh => rfl); (case k3Qh => k_mem); (case k4Qh => k_asm); k_whole)))
  (k_with "CompSrc" => fail "own")
  (k_with "exec While Compare cons nil" => show Mine.Stop _)
  (k_with "exec While BoolOp cons nil" => show Mine.Stop _)
  (k_with "enterD" => (refine' code_def ?k1Qh ?k2Qh ?k3Qh ?k4Qh ?k5Qh ?kAQh ?kFQh ?kKQh ?k6Qh ?k7Qh ?k8Qh ?k9Qh ?kBQh ?_ ?c2Qh ?c3Qh ?c4Qh ?c5Qh; (case kAQh => exact rfl); (case kFQh => exact rfl); (case kKQh => first | exact rfl | assumption); (case k1Qh => k_asm); (case k2Qh => k_asm); (case k3Qh => k_asm); (case k4Qh => k_asm); (case k5Qh => k_asm); (case k6Qh => k_is); (case k7Qh => k_is); (case k8Qh => walk_at "room"); (case k9Qh => first | exact BindsTo.of_eq rfl | exact binds_K (by k_in) rfl (by k_is) rfl rfl rfl | fail "enterD: no rule for these arguments"); (case c5Qh => decide); (case kBQh => exact locs rfl); (case c2Qh => exact rfl); (case c3Qh => exact rfl); (case c4Qh => exact rfl); k_whole; intro _ _ _ _ _ _ _ _ _; (try dsimp only); (try k_fold)))
  (k_with "makeD" => (refine' call_cls ?k1Qh ?k2Qh ?k3Qh ?k4Qh ?k5Qh ?k6Qh ?_; (case k1Qh => k_asm); (case k2Qh => k_asm); (case k3Qh => k_asm); (case k4Qh => k_is); (case k5Qh => k_is); (case k6Qh => k_is); k_whole; intro _ _ _ _ _ l1 l2; (try k_lt l1); (try k_lt2 l2); revert l1 l2; intro _ _; (try k_sweep); walk_at "enterD"))
  (k_with "subscriptTail Name Name ref int" => (k_here; (with_reducible show wpAny _ _ (subscriptTail _ _ (Value.ref _) (Value.int (Nat.cast _) _)) _ _ _); k_dflt (refine' item_nat ?k1Qh ?k2Qh ?k3Qh ?k4Qh ?_; (case k1Qh => k_asm); (case k2Qh => k_mem); (case k3Qh => assumption); (case k4Qh => first | exact lt100 (by assumption) rfl | exact lt10 (by assumption) rfl | omega); k_whole)))
  (k_with "call builtin:len" => ((with_reducible show wpAny _ _ (call (Value.builtin _) [escV _ _]) _ _ _); refine' len_e ?k1Qh ?_; (case k1Qh => assumption)))
  (k_with "sub" => ((repeat' (first | refine List.forall_mem_cons.mpr ⟨?_, ?_⟩ | exact List.mem_cons_self | (refine List.mem_cons_of_mem _ ?_; k_mem) | (exact fun x hx => by k_mem))); done))
  (k_with "ifs" => ((try dsimp only); (repeat (refine Eq.trans (if_neg (by assumption)) ?_)); (repeat (refine Eq.trans ?_ (Eq.symm (if_neg (by assumption))))); exact rfl))
  (k_with "storeName" => dsimp only)
  (k_with "eval Call" => (k_here; (with_reducible show wpAny _ _ (eval (Expr.Call (Expr.Name (Str.ofString "len") _) [Expr.Name _ _] [] _) _) _ _ _); k_dflt (refine' len1 ?FQh ?XQh ?TQh ?eQh ?hvQh ?_; (case FQh => k_asm); (case XQh => k_asm); (case TQh => k_asm); (case eQh => k_is); (case hvQh => rfl); k_whole)))
  (k_with "lt" => first | assumption | exact And.left (by assumption) | exact pj1 (by assumption) | exact pj2 (by assumption) | exact pj3 (by assumption) | exact pj4 (by assumption) | exact pj5 (by assumption) | exact pj6 (by assumption) | exact pj7 (by assumption) | exact Nat.lt_succ_of_lt (And.left (by assumption)) | exact Nat.lt_succ_of_lt (Nat.lt_succ_of_lt (And.left (by assumption))))
  trivial
def foldc (c : Nat) : Nat := if 65 ≤ c ∧ c ≤ 90 then c + 32 else c
def foldS (t : Str) : Str := ⟨t.cps.map foldc⟩
section Fold
theorem rowsAt9 : True := by
  (k_with "exec For" => (refine wpAny_For ?_))
  trivial
theorem fold_step {t : Str} {i c : Nat} {vs : List Value} {u : Tok} {x : Str} (hc : t.cps[i]? = some c) (hv : StrsAre vs ((t.cps.toList.take i).map fun c => (⟨#[foldc c]⟩ : Str))) (hx : x = ⟨#[foldc c]⟩) :
    StrsAre (vs ++ [.str x u]) ((t.cps.toList.take (i + 1)).map fun c => (⟨#[foldc c]⟩ : Str)) := by
  subst hx
  have e : t.cps.toList[i]? = some c := by simpa using hc
  rw [List.take_add_one, e, List.map_append]
  exact hv.append' (.cons _ _ .nil)
theorem fold_jn {t : Str} : jn ((List.take t.cps.size t.cps.toList).map fun c => (⟨#[foldc c]⟩ : Str)) = foldS t := by
  have e : List.take t.cps.size t.cps.toList = t.cps.toList := List.take_of_length_le (Nat.le_of_eq (by simp))
  rw [e]
  have := jn_one (t.cps.toList.map foldc)
  rw [List.map_map] at this
  refine Eq.trans this ?_
  refine PySem.Str.ext' (Array.toList_inj.mp ?_)
  simp [foldS]
theorem chr_ok {c : Nat} (h : ¬ (Str.ofString "Z").cps.toList < (⟨#[c]⟩ : Str).cps.toList) : (c : Int) + 32 ≤ 1114111 := by
  rw [ltZ] at h; omega
theorem rowsAt10 : True := by
  (k_with "call builtin:chr" => (refine' chr_of_range ?k1Qh ?k2Qh ?_; (case k1Qh => omega); (case k2Qh => exact chr_ok (by assumption))))
  trivial
theorem fold_c (w : World) (loose : List Str) (mean : ExcName → Option Value) (mg mb : Str → Option Value) (news : List (Addr × Obj)) (t : Str) (tk : Tok) (ht : t.cps.size < 100) :
    Con w loose mean mg mb 53 news [.str t tk] 2 (fun news' r => news' = news ∧ ∃ u, r = .str (foldS t) u) := by
  unfold Con
  k_fill
  intro dp un gd cn cs a ccd cl outer A₀ base h₀ L m s Q E B F X N T hk hd1 hu1 hret
  refine wpAny_call ?_
  k_dflt ktr_enter
  k_steps
  rename_i ga _ l1 _ F1 N1
  refine for_text rfl F1 N1 rfl rfl (fun m0 i m nx => (∃ u, m = fun y => if y = Str.ofString "sign" then u else m0 y) ∧ ∃ vs k, nx = (ga, W.listOf vs.toArray k) :: news ∧ StrsAre vs ((t.cps.toList.take i).map fun c => (⟨#[foldc c]⟩ : Str))) ?_ ?_ ?_
  · exact ⟨⟨_, fr0 _ _⟩, [], 0, rfl, .nil⟩
  · clear F1 N1
    rintro i c u m₁ nx h tk I oI hc ⟨⟨u0, rfl⟩, vs, k, rfl, hv⟩ hne F1 N1
    refine abs_turn fun R g5 d5 o5 hR => ?_
    have hgI : ga ≠ I := hne _ (.head _)
    have hnI : ∀ p ∈ news, p.1 ≠ I := fun p hp => hne p (.tail _ hp)
    dsimp only at F1
    have hsz : vs.toArray.size ≤ sizeLine := size_ok (by
      have e := hv.length
      have e2 := t.cps.size_eq_length_toList
      rw [List.length_map, List.length_take] at e; omega)
    k_steps
    all_goals refine hR _ _ _ ?_
    all_goals dsimp only [TurnEnd]
    all_goals refine ⟨_, _, _, _, rfl, by assumption, by assumption, List.forall_mem_cons.mpr ⟨hgI, hnI⟩, ⟨_, fr1 _ _ _ _⟩, _, _, by rw [List.push_toArray], fold_step hc hv ?_⟩
    · with_reducible rename (_ < (Str.ofString "A").cps.toList) => h9
      rw [ltA] at h9
      simp only [foldc]; rw [if_neg (by omega)]
    · with_reducible rename ((Str.ofString "Z").cps.toList < _) => h9
      rw [ltZ] at h9
      simp only [foldc]; rw [if_neg (by omega)]
    · with_reducible rename (¬ (_ < (Str.ofString "A").cps.toList)) => h8
      with_reducible rename (¬ ((Str.ofString "Z").cps.toList < _)) => h9
      rw [ltA] at h8; rw [ltZ] at h9
      simp only [foldc]; rw [if_pos (by omega)]; rfl
  · clear F1 N1
    rintro m₁ nx h tk ⟨⟨u0, rfl⟩, vs, k, rfl, hv⟩ F1 N1
    dsimp only at F1
    have hln := sum_ones (ys := (List.take t.cps.size t.cps.toList).map fun c => (⟨#[foldc c]⟩ : Str)) (by intro y hy; obtain ⟨c, _, rfl⟩ := List.mem_map.mp hy; rfl)
    have hln2 : (((List.take t.cps.size t.cps.toList).map fun c => (⟨#[foldc c]⟩ : Str)).map (·.length)).sum ≤ 100000 := by
      rw [hln, List.length_map, List.length_take]; omega
    k_steps
    refine hret _ _ _ _ (by assumption) (tl1 (by assumption)) ⟨rfl, ?_⟩
    rw [fold_jn]
    exact ⟨_, rfl⟩
end Fold
theorem rowsAt11 : True := by
  k_with_none
  (k_with "pick" => first | exact Pick.head | exact Pick.tail (Pick.head) | exact Pick.tail (Pick.tail (Pick.head)) | exact Pick.tail (Pick.tail (Pick.tail (Pick.head))) | exact Pick.tail (Pick.tail (Pick.tail (Pick.tail (Pick.head)))) | exact Pick.tail (Pick.tail (Pick.tail (Pick.tail (Pick.tail (Pick.head))))) | exact Pick.tail (Pick.tail (Pick.tail (Pick.tail (Pick.tail (Pick.tail (Pick.head)))))) | exact Pick.tail (Pick.tail (Pick.tail (Pick.tail (Pick.tail (Pick.tail (Pick.tail (Pick.head))))))) | exact Pick.tail (Pick.tail (Pick.tail (Pick.tail (Pick.tail (Pick.tail (Pick.tail (Pick.tail (Pick.head)))))))) | exact Pick.tail (Pick.tail (Pick.tail (Pick.tail (Pick.tail (Pick.tail (Pick.tail (Pick.tail (Pick.tail (Pick.head))))))))) | exact Pick.tail (Pick.tail (Pick.tail (Pick.tail (Pick.tail (Pick.tail (Pick.tail (Pick.tail (Pick.tail (Pick.tail (Pick.head)))))))))) | exact Pick.tail (Pick.tail (Pick.tail (Pick.tail (Pick.tail (Pick.tail (Pick.tail (Pick.tail (Pick.tail (Pick.tail (Pick.tail (Pick.head))))))))))) | exact Pick.tail (Pick.tail (Pick.tail (Pick.tail (Pick.tail (Pick.tail (Pick.tail (Pick.tail (Pick.tail (Pick.tail (Pick.tail (Pick.tail (Pick.head)))))))))))) | exact Pick.tail (Pick.tail (Pick.tail (Pick.tail (Pick.tail (Pick.tail (Pick.tail (Pick.tail (Pick.tail (Pick.tail (Pick.tail (Pick.tail (Pick.tail (Pick.head))))))))))))) | exact Pick.tail (Pick.tail (Pick.tail (Pick.tail (Pick.tail (Pick.tail (Pick.tail (Pick.tail (Pick.tail (Pick.tail (Pick.tail (Pick.tail (Pick.tail (Pick.tail (Pick.head)))))))))))))) | exact Pick.tail (Pick.tail (Pick.tail (Pick.tail (Pick.tail (Pick.tail (Pick.tail (Pick.tail (Pick.tail (Pick.tail (Pick.tail (Pick.tail (Pick.tail (Pick.tail (Pick.tail (Pick.head))))))))))))))))
  (k_with "room" => first | exact room_m 1 hd1 rfl rfl | exact room_m 2 hd1 rfl rfl | exact room_m 3 hd1 rfl rfl | exact room_0 0 hd1 rfl rfl | exact room_0 1 hd1 rfl rfl | exact room_0 2 hd1 rfl rfl | exact room_0 3 hd1 rfl rfl | (walk_say "ROOM BY OMEGA"; (try simp only [depth_under_make, depth_under_kw, depth_in1, depth_deeper, depth_caller]); (try dsimp only [ktrTop]); omega))
  (k_with "units" => first | exact unit_m 0 hu1 rfl rfl | exact unit_m 3 hu1 rfl rfl | exact unit_m 6 hu1 rfl rfl | exact unit_m 4 hu1 rfl rfl | exact unit_m 7 hu1 rfl rfl | (walk_say "UNITS BY OMEGA"; (try simp only [units_in1, units_deeper, Around.mark_units, units_caller]); (try dsimp only [ktrTop]); omega))
  (k_with "con1" => (refine' Con.use ?k1Qh ?k2Qh ?k3Qh (Pick.news ?kpQh ?k4Qh) ?k5Qh ?kKQh ?kdQh ?kuQh ?kCQh ?_; (case k1Qh => k_asm); (case k2Qh => k_asm); (case k3Qh => k_asm); (case k5Qh => k_asm); (case kKQh => first | exact rfl | assumption); rotate_left))
  (k_with "call builtin:len" => (k_here; (with_reducible show wpAny _ _ (call (Value.builtin _) [Value.ref _]) _ _ _); k_dflt (refine' len_at ?k1Qh ?k2Qh ?k3Qh ?_; (case k1Qh => k_asm); (case k2Qh => k_mem); (case k3Qh => first | assumption | exact lt100 (by assumption) rfl | (simp; done) | omega); k_whole)))
  (k_with "call builtin:str.join" => (k_here; k_dflt (refine' join_at ?k1Qh ?k2Qh ?k3Qh ?k4Qh ?_; (case k1Qh => k_asm); (case k2Qh => k_mem); (case k3Qh => assumption); (case k4Qh => assumption); k_whole); intro _ _))
  (k_with "call builtin:list.append" => (k_here; (with_reducible show wpAny _ _ (call (Value.builtin _) [Value.ref _, _]) _ _ _); k_dflt (refine' append_K ?k1Qh ?k2Qh ?k3Qh ?_ ?zQh; (case k1Qh => k_asm); (case k2Qh => k_asm); (case k3Qh => k_upd); (case zQh => assumption); k_whole); intro _ _ _; (try k_sweep)))
  (k_with "subscriptTail Name Name str int" => (k_here; (with_reducible show wpAny _ _ (subscriptTail _ _ (Value.str _ _) (Value.int (Nat.cast _) _)) _ _ _); k_dflt (refine' str_at0 ?k2Qh ?k3Qh ?_; (case k2Qh => assumption); (case k3Qh => first | exact lt100 (by assumption) rfl | exact lt10 (by assumption) rfl | omega); k_whole)))
  (k_with "subscriptTail Name Name str int" => (k_here; (with_reducible show wpAny _ _ (subscriptTail _ _ (Value.str _ _) (Value.int (_ + 1) _)) _ _ _); k_dflt (refine' str_at1 ?k2Qh ?k3Qh ?_; (case k2Qh => first | assumption | exact hc2 (by omega)); (case k3Qh => first | exact lt100 (by assumption) rfl | exact lt10 (by assumption) rfl | omega); k_whole)))
  (k_with "compareOp Eq str str" => ((with_reducible show wpAny _ _ (compareOp _ (Value.str (Str.mk #[_]) _) (Value.str (Str.mk #[_]) _)) _ _ _); refine eq_cc ?_))
  (k_with "compareOp Eq str str" => ((with_reducible show wpAny _ _ (compareOp _ (Value.str (Str.mk #[_]) _) (Value.str (Str.ofString "%") _)) _ _ _); refine eq_pct ?_))
  (k_with "compareOp Eq str str" => ((with_reducible show wpAny _ _ (compareOp _ (Value.str (Str.mk #[_]) _) (Value.str (Str.ofString "_") _)) _ _ _); refine eq_und ?_))
  (k_with "compareOp Eq str" => ((with_reducible show wpAny _ _ (compareOp _ (Value.str (Str.mk #[_]) _) (escV _ _)) _ _ _); refine eq_ce ?_))
  (k_with "compareOp IsNot" => ((with_reducible show wpAny _ _ (compareOp _ (escV _ _) Value.none) _ _ _); refine isnot_e ?_))
  (k_with "compareOp In str str" => ((with_reducible show wpAny _ _ (compareOp _ (Value.str (Str.mk #[_]) _) (Value.str (Str.ofString "%_") _)) _ _ _); refine in_pu ?_))
  (k_with "call builtin:len" => ((with_reducible show wpAny _ _ (call (Value.builtin _) [Value.str _ _]) _ _ _); refine' len_txt ?k1Qh ?_; (case k1Qh => first | exact lt100 (by assumption) rfl | exact lt10 (by assumption) rfl | omega)))
  (k_with "newTuple" => (k_here; k_dflt (refine' newTuple_my ?k1Qh ?k2Qh ?_ ?zQh; (case k1Qh => k_asm); (case k2Qh => k_asm); (case zQh => exact Nat.le_of_ble_eq_true rfl); k_whole); intro _ _ _ _ l1; (try k_lt l1); revert l1; intro _; (try k_sweep)))
  (k_with "compareOp Eq int int" => (refine eq_ii ?_))
  (k_with "enterC" => (refine' code_defC ?k1Qh ?k2Qh ?k3Qh ?k4Qh ?k5Qh ?kAQh ?kFQh ?kKQh ?k6Qh ?k7Qh ?k8Qh ?k9Qh ?kBQh ?kDQh ?_ ?c2Qh ?c3Qh ?c4Qh; (case kAQh => exact rfl); (case kFQh => exact rfl); (case kKQh => assumption); (case k1Qh => k_asm); (case k2Qh => k_asm); (case k3Qh => k_asm); (case k4Qh => k_asm); (case k5Qh => k_asm); (case k6Qh => k_is); (case k7Qh => k_is); (case k8Qh => walk_at "room"); (case k9Qh => exact BindsTo.of_eq rfl); (case kBQh => exact rfl); (case kDQh => decide +kernel); (case c2Qh => exact rfl); (case c3Qh => exact rfl); (case c4Qh => exact rfl); k_whole; walk_at "tail0"))
  (k_with "eval ListComp" => (k_here; k_dflt (refine LCg.ListComp_U (F₀ := by k_asm) (by rfl) (by decide) (by rfl) (by decide) (by rfl) ?_)))
  (k_with "eval Name" => (k_here; (with_reducible show wpAny _ _ (eval (Expr.Name _ _) (compEnvC _ _ _ _)) _ _ _); k_dflt (refine' ldC ?k1Qh ?k2Qh ?k3Qh ?k4Qh ?_; (case k1Qh => k_asm); (case k2Qh => rfl); (case k3Qh => k_mem); (case k4Qh => k_asm); k_whole)))
  (k_with "CompSrc" => fail "own")
  (k_with "exec While Compare cons nil" => show Mine.Stop _)
  (k_with "exec While BoolOp cons nil" => show Mine.Stop _)
  (k_with "enterD" => (refine' code_def ?k1Qh ?k2Qh ?k3Qh ?k4Qh ?k5Qh ?kAQh ?kFQh ?kKQh ?k6Qh ?k7Qh ?k8Qh ?k9Qh ?kBQh ?_ ?c2Qh ?c3Qh ?c4Qh ?c5Qh; (case kAQh => exact rfl); (case kFQh => exact rfl); (case kKQh => first | exact rfl | assumption); (case k1Qh => k_asm); (case k2Qh => k_asm); (case k3Qh => k_asm); (case k4Qh => k_asm); (case k5Qh => k_asm); (case k6Qh => k_is); (case k7Qh => k_is); (case k8Qh => walk_at "room"); (case k9Qh => first | exact BindsTo.of_eq rfl | exact binds_K (by k_in) rfl (by k_is) rfl rfl rfl | fail "enterD: no rule for these arguments"); (case c5Qh => decide); (case kBQh => exact locs rfl); (case c2Qh => exact rfl); (case c3Qh => exact rfl); (case c4Qh => exact rfl); k_whole; intro _ _ _ _ _ _ _ _ _; (try dsimp only); (try k_fold)))
  (k_with "makeD" => (refine' call_cls ?k1Qh ?k2Qh ?k3Qh ?k4Qh ?k5Qh ?k6Qh ?_; (case k1Qh => k_asm); (case k2Qh => k_asm); (case k3Qh => k_asm); (case k4Qh => k_is); (case k5Qh => k_is); (case k6Qh => k_is); k_whole; intro _ _ _ _ _ l1 l2; (try k_lt l1); (try k_lt2 l2); revert l1 l2; intro _ _; (try k_sweep); walk_at "enterD"))
  (k_with "subscriptTail Name Name ref int" => (k_here; (with_reducible show wpAny _ _ (subscriptTail _ _ (Value.ref _) (Value.int (Nat.cast _) _)) _ _ _); k_dflt (refine' item_nat ?k1Qh ?k2Qh ?k3Qh ?k4Qh ?_; (case k1Qh => k_asm); (case k2Qh => k_mem); (case k3Qh => assumption); (case k4Qh => first | exact lt100 (by assumption) rfl | exact lt10 (by assumption) rfl | omega); k_whole)))
  (k_with "call builtin:len" => ((with_reducible show wpAny _ _ (call (Value.builtin _) [escV _ _]) _ _ _); refine' len_e ?k1Qh ?_; (case k1Qh => assumption)))
  (k_with "sub" => ((repeat' (first | refine List.forall_mem_cons.mpr ⟨?_, ?_⟩ | exact List.mem_cons_self | (refine List.mem_cons_of_mem _ ?_; k_mem) | (exact fun x hx => by k_mem))); done))
  (k_with "ifs" => ((try dsimp only); (repeat (refine Eq.trans (if_neg (by assumption)) ?_)); (repeat (refine Eq.trans ?_ (Eq.symm (if_neg (by assumption))))); exact rfl))
  (k_with "storeName" => dsimp only)
  (k_with "eval Call" => (k_here; (with_reducible show wpAny _ _ (eval (Expr.Call (Expr.Name (Str.ofString "len") _) [Expr.Name _ _] [] _) _) _ _ _); k_dflt (refine' len1 ?FQh ?XQh ?TQh ?eQh ?hvQh ?_; (case FQh => k_asm); (case XQh => k_asm); (case TQh => k_asm); (case eQh => k_is); (case hvQh => rfl); k_whole)))
  (k_with "lt" => first | assumption | exact And.left (by assumption) | exact pj1 (by assumption) | exact pj2 (by assumption) | exact pj3 (by assumption) | exact pj4 (by assumption) | exact pj5 (by assumption) | exact pj6 (by assumption) | exact pj7 (by assumption) | exact Nat.lt_succ_of_lt (And.left (by assumption)) | exact Nat.lt_succ_of_lt (Nat.lt_succ_of_lt (And.left (by assumption))))
  trivial
def piecesF (e : Option Nat) : List Nat → Option (List Pc)
  | [] => some []
  | c :: r => if some c = e then (match r with
      | [] => none
      | d :: r' => (piecesF e r').map (Pc.sign d :: ·)) else (piecesF e r).map ((if c = 37 then .any else if c = 95 then .one else .sign c) :: ·)
theorem piecesF_plain {e : Option Nat} {c : Nat} {r : List Nat} (h : ¬ some c = e) : piecesF e (c :: r) = (piecesF e r).map ((if c = 37 then .any else if c = 95 then .one else .sign c) :: ·) := by
  cases r <;> simp [piecesF, h]
theorem piecesF_esc {e : Option Nat} {c d : Nat} {r : List Nat} (h : some c = e) : piecesF e (c :: d :: r) = (piecesF e r).map (.sign d :: ·) := by
  simp [piecesF, h]
theorem piecesF_bad {e : Option Nat} {c : Nat} (h : some c = e) : piecesF e [c] = none := by
  simp [piecesF, h]
def PcObj (o : Obj) : Pc → Prop
  | .any => ∃ t n, o = { cls := .type "tuple", data := .seq #[.str (Str.ofString "any") t, .none] n }
  | .one => ∃ t n, o = { cls := .type "tuple", data := .seq #[.str (Str.ofString "one") t, .none] n }
  | .sign c => ∃ t u n, o = { cls := .type "tuple", data := .seq #[.str (Str.ofString "sign") t, .str ⟨#[c]⟩ u] n }
/-- the values are references to the ledger's tuples of these pieces -/
inductive PcsAre (tup : List (Addr × Obj)) : List Value → List Pc → Prop
  | nil : PcsAre tup [] []
  | cons {a : Addr} {o : Obj} {q : Pc} {vs ps} : (a, o) ∈ tup → PcObj o q → PcsAre tup vs ps → PcsAre tup (.ref a :: vs) (q :: ps)
section Pieces
theorem pcs_mono {tup tup' : List (Addr × Obj)} {vs : List Value} {ps : List Pc} (h : PcsAre tup vs ps) (hs : ∀ p ∈ tup, p ∈ tup') : PcsAre tup' vs ps := by
  induction h with
  | nil => exact .nil
  | cons hm ho _ ih => exact .cons (hs _ hm) ho ih
theorem pcs_snoc {tup : List (Addr × Obj)} {vs : List Value} {ps : List Pc} {a : Addr} {o : Obj} {q : Pc} (h : PcsAre tup vs ps) (hq : PcObj o q) : PcsAre ((a, o) :: tup) (vs ++ [.ref a]) (ps ++ [q]) := by
  induction h with
  | nil => exact .cons (.head _) hq .nil
  | cons hm ho _ ih => exact .cons (.tail _ hm) ho ih
def PJ (p : Str) (e : Option Nat) (news : List (Addr × Obj)) (fa : Addr) (m0 m : Str → Option Value) (nx : List (Addr × Obj)) (kk : Nat) : Prop :=
  ∃ j : Nat, ∃ ta vs k tup ps, (m = fun y => if y = Str.ofString "at" then some (.int (j : Int) ta) else m0 y) ∧ nx = (fa, W.listOf vs.toArray k) :: (tup ++ news) ∧ PcsAre tup vs ps ∧ j ≤ p.cps.size ∧ vs.length ≤ j ∧ kk = p.cps.size - j ∧
    (∀ q ∈ tup, q.1 ≠ fa) ∧ (∀ q ∈ tup, ∀ p ∈ news, p.1 < q.1) ∧ piecesF e p.cps.toList = (piecesF e (p.cps.toList.drop j)).map (ps ++ ·)
theorem drop_at {p : Str} {j c : Nat} (hc : p.cps[j]? = some c) : p.cps.toList.drop j = c :: p.cps.toList.drop (j + 1) := by
  have h : p.cps.toList[j]? = some c := by simpa using hc
  obtain ⟨hl, rfl⟩ := List.getElem?_eq_some_iff.mp h
  exact List.drop_eq_getElem_cons hl
theorem pj_step {p : Str} {e : Option Nat} {news tup : List (Addr × Obj)} {fa a : Addr} {m0 m' : Str → Option Value} {kk j j' k : Nat} {i : Int} {tb : Tok} {vs : List Value} {ps : List Pc} {o : Obj} {q : Pc}
    (hP : PcsAre tup vs ps) (hj : j ≤ p.cps.size) (hvl : vs.length ≤ j) (hkk : kk = p.cps.size - j) (htf : ∀ q ∈ tup, q.1 ≠ fa) (htn : ∀ q ∈ tup, ∀ p ∈ news, p.1 < q.1) (hpf : piecesF e p.cps.toList = (piecesF e (p.cps.toList.drop j)).map (ps ++ ·))
    (hlt : fa < a ∧ AllLt a (tup ++ news)) (hq : PcObj o q) (hjj : j < j') (hj' : j' ≤ p.cps.size) (hi : i = (j' : Int)) (hstep : piecesF e (p.cps.toList.drop j) = (piecesF e (p.cps.toList.drop j')).map (q :: ·)) (hm : m' = fun y => if y = Str.ofString "at" then some (.int i tb) else m0 y) :
    p.cps.size - j' < kk ∧ PJ p e news fa m0 m' ((fa, W.listOf (vs.toArray.push (.ref a)) (k + 1)) :: (a, o) :: (tup ++ news)) (p.cps.size - j') := by
  subst hi
  refine ⟨hkk ▸ Nat.sub_lt_sub_left (Nat.lt_of_lt_of_le hjj hj') hjj, j', tb, vs ++ [.ref a], k + 1, (a, o) :: tup, ps ++ [q], hm, by rw [List.push_toArray]; rfl, pcs_snoc hP hq, hj', by rw [List.length_append, List.length_singleton]; exact Nat.le_trans (Nat.succ_le_succ hvl) hjj, rfl, ?_, ?_, ?_⟩
  · intro r hr
    rcases List.mem_cons.mp hr with rfl | hr
    · exact Ne.symm (Nat.ne_of_lt hlt.1)
    · exact htf r hr
  · intro r hr p hp
    rcases List.mem_cons.mp hr with rfl | hr
    · exact ktn_ltOf hlt.2 p (List.mem_append.mpr (.inr hp))
    · exact htn r hr p hp
  · rw [hpf, hstep, Option.map_map]
    congr 1
    funext x
    simp
theorem pieces_c (w : World) (loose : List Str) (mean : ExcName → Option Value) (mg mb : Str → Option Value) (news : List (Addr × Obj)) (p : Str) (tp : Tok) (e : Option Nat) (te : Tok) (hp : p.cps.size < 100) :
    Con w loose mean mg mb 139 news [.str p tp, escV e te] 2 (fun news' r => (piecesF e p.cps.toList = none ∧ r = .none ∧ news' = news) ∨
      ∃ fa vs k tup ps, piecesF e p.cps.toList = some ps ∧ r = .ref fa ∧ news' = (fa, W.listOf vs.toArray k) :: (tup ++ news) ∧ PcsAre tup vs ps ∧ vs.length < 100 ∧ (∀ q ∈ (fa, W.listOf vs.toArray k) :: tup, ∀ p ∈ news, p.1 < q.1)) := by
  unfold Con
  k_fill
  intro dp un gd cn cs a ccd cl outer A₀ base h₀ L m s Q E B F X N T hk hd1 hu1 hret
  refine wpAny_call ?_
  k_dflt ktr_enter
  k_steps
  unfold Stop
  rename_i fa _ l1 _ _ _ _ _ _ F1 N1
  refine while_my F1 (tl1 N1) (PJ p e news fa) (k := p.cps.size) ?_ ?_
  · refine ⟨0, _, [], 0, [], [], fr3 _ _ _ rfl, rfl, .nil, Nat.zero_le _, Nat.le_refl _, rfl, (fun _ h => by cases h), (fun _ h => by cases h), ?_⟩
    simp
  · clear F1 N1
    rintro m₁ nx kk h tk ⟨j, ta, vs, k, tup, ps, rfl, rfl, hP, hj, hvl, hkk, htf, htn, hpf⟩ F1 N1
    dsimp only at F1
    have hsz : vs.toArray.size ≤ sizeLine := size_ok (by omega)
    have hall : ∀ q ∈ tup ++ news, q.1 ≠ fa := by
      intro q hq
      rcases List.mem_append.mp hq with hq | hq
      · exact htf q hq
      · exact Nat.ne_of_lt (l1 q hq)
    refine abs_while fun R Q5 g5 d5 o5 hR hQ => ?_
    rcases Nat.lt_or_ge j p.cps.size with hlt | hge
    · have hc : p.cps[j]? = some p.cps[j] := by simp [hlt]
      generalize p.cps[j] = c at hc
      have hdc := drop_at hc
      have hc2 : j + 1 < p.cps.size → p.cps[j + 1]? = some (p.cps[j + 1]?.getD 0) := fun h => by simp [h]
      generalize p.cps[j + 1]?.getD 0 = c2 at hc2
      k_steps
      · have hdn : p.cps.toList.drop (j + 1) = [] := List.drop_eq_nil_of_le (by rw [Array.length_toList]; omega)
        refine hR _ _ _ ?_
        dsimp only [WhileEnd]
        k_steps
        refine hret _ _ _ _ (by assumption) (tl1 (by assumption)).right (.inl ⟨?_, rfl, rfl⟩)
        rw [hpf, hdc, hdn, piecesF_bad (by assumption)]
        rfl
      · have hlt2 : j + 1 < p.cps.size := by omega
        have hdc2 := drop_at (hc2 hlt2)
        refine hR _ _ _ (WhileEnd.mk (p.cps.size - (j + 2)) (by assumption) (swp (by assumption)) ?_)
        exact pj_step (q := .sign c2) (j' := j + 2) hP hj hvl hkk htf htn hpf (by assumption) ⟨_, _, _, rfl⟩ (Nat.lt_succ_of_lt (Nat.lt_succ_self _)) hlt2 rfl (by rw [hdc, hdc2, piecesF_esc (by assumption)]) (fr1t _ _ _ _ _)
      · refine hR _ _ _ (WhileEnd.mk (p.cps.size - (j + 1)) (by assumption) (swp (by assumption)) ?_)
        exact pj_step (q := .any) (j' := j + 1) hP hj hvl hkk htf htn hpf (by assumption) ⟨_, _, rfl⟩ (Nat.lt_succ_self _) hlt rfl (by rw [hdc, piecesF_plain (by assumption), if_pos (by assumption)]) (fr1 _ _ _ _)
      · refine hR _ _ _ (WhileEnd.mk (p.cps.size - (j + 1)) (by assumption) (swp (by assumption)) ?_)
        exact pj_step (q := .one) (j' := j + 1) hP hj hvl hkk htf htn hpf (by assumption) ⟨_, _, rfl⟩ (Nat.lt_succ_self _) hlt rfl (by rw [hdc, piecesF_plain (by assumption), if_neg (by assumption), if_pos (Or.resolve_left (by assumption) (by assumption))]) (fr1 _ _ _ _)
      · refine hR _ _ _ (WhileEnd.mk (p.cps.size - (j + 1)) (by assumption) (swp (by assumption)) ?_)
        exact pj_step (q := .sign c) (j' := j + 1) hP hj hvl hkk htf htn hpf (by assumption) ⟨_, _, _, rfl⟩ (Nat.lt_succ_self _) hlt rfl (by rw [hdc, piecesF_plain (by assumption), if_neg (fun e => absurd (Or.inl e) (by assumption)), if_neg (fun e => absurd (Or.inr e) (by assumption))]) (fr1 _ _ _ _)
    · have hdn : p.cps.toList.drop j = [] := List.drop_eq_nil_of_le (by rw [Array.length_toList]; omega)
      k_steps
      refine hQ _ _ ?_
      k_steps
      refine hret _ _ _ _ (by assumption) (by assumption) (.inr ⟨fa, vs, k, tup, ps, ?_, rfl, rfl, hP, by omega, ?_⟩)
      · rw [hpf, hdn]; simp [piecesF]
      · intro q hq r hr
        rcases List.mem_cons.mp hq with rfl | hq
        · exact l1 r hr
        · exact htn q hq r hr
end Pieces
theorem rowsAt12 : True := by
  k_with_none
  (k_with "pick" => first | exact Pick.head | exact Pick.tail (Pick.head) | exact Pick.tail (Pick.tail (Pick.head)) | exact Pick.tail (Pick.tail (Pick.tail (Pick.head))) | exact Pick.tail (Pick.tail (Pick.tail (Pick.tail (Pick.head)))) | exact Pick.tail (Pick.tail (Pick.tail (Pick.tail (Pick.tail (Pick.head))))) | exact Pick.tail (Pick.tail (Pick.tail (Pick.tail (Pick.tail (Pick.tail (Pick.head)))))) | exact Pick.tail (Pick.tail (Pick.tail (Pick.tail (Pick.tail (Pick.tail (Pick.tail (Pick.head))))))) | exact Pick.tail (Pick.tail (Pick.tail (Pick.tail (Pick.tail (Pick.tail (Pick.tail (Pick.tail (Pick.head)))))))) | exact Pick.tail (Pick.tail (Pick.tail (Pick.tail (Pick.tail (Pick.tail (Pick.tail (Pick.tail (Pick.tail (Pick.head))))))))) | exact Pick.tail (Pick.tail (Pick.tail (Pick.tail (Pick.tail (Pick.tail (Pick.tail (Pick.tail (Pick.tail (Pick.tail (Pick.head)))))))))) | exact Pick.tail (Pick.tail (Pick.tail (Pick.tail (Pick.tail (Pick.tail (Pick.tail (Pick.tail (Pick.tail (Pick.tail (Pick.tail (Pick.head))))))))))) | exact Pick.tail (Pick.tail (Pick.tail (Pick.tail (Pick.tail (Pick.tail (Pick.tail (Pick.tail (Pick.tail (Pick.tail (Pick.tail (Pick.tail (Pick.head)))))))))))) | exact Pick.tail (Pick.tail (Pick.tail (Pick.tail (Pick.tail (Pick.tail (Pick.tail (Pick.tail (Pick.tail (Pick.tail (Pick.tail (Pick.tail (Pick.tail (Pick.head))))))))))))) | exact Pick.tail (Pick.tail (Pick.tail (Pick.tail (Pick.tail (Pick.tail (Pick.tail (Pick.tail (Pick.tail (Pick.tail (Pick.tail (Pick.tail (Pick.tail (Pick.tail (Pick.head)))))))))))))) | exact Pick.tail (Pick.tail (Pick.tail (Pick.tail (Pick.tail (Pick.tail (Pick.tail (Pick.tail (Pick.tail (Pick.tail (Pick.tail (Pick.tail (Pick.tail (Pick.tail (Pick.tail (Pick.head))))))))))))))))
  (k_with "room" => first | exact room_m 1 hd1 rfl rfl | exact room_m 2 hd1 rfl rfl | exact room_m 3 hd1 rfl rfl | exact room_0 0 hd1 rfl rfl | exact room_0 1 hd1 rfl rfl | exact room_0 2 hd1 rfl rfl | exact room_0 3 hd1 rfl rfl | (walk_say "ROOM BY OMEGA"; (try simp only [depth_under_make, depth_under_kw, depth_in1, depth_deeper, depth_caller]); (try dsimp only [ktrTop]); omega))
  (k_with "units" => first | exact unit_m 0 hu1 rfl rfl | exact unit_m 3 hu1 rfl rfl | exact unit_m 6 hu1 rfl rfl | exact unit_m 4 hu1 rfl rfl | exact unit_m 7 hu1 rfl rfl | (walk_say "UNITS BY OMEGA"; (try simp only [units_in1, units_deeper, Around.mark_units, units_caller]); (try dsimp only [ktrTop]); omega))
  (k_with "con1" => (refine' Con.use ?k1Qh ?k2Qh ?k3Qh (Pick.news ?kpQh ?k4Qh) ?k5Qh ?kKQh ?kdQh ?kuQh ?kCQh ?_; (case k1Qh => k_asm); (case k2Qh => k_asm); (case k3Qh => k_asm); (case k5Qh => k_asm); (case kKQh => first | exact rfl | assumption); rotate_left))
  (k_with "call builtin:len" => (k_here; (with_reducible show wpAny _ _ (call (Value.builtin _) [Value.ref _]) _ _ _); k_dflt (refine' len_at ?k1Qh ?k2Qh ?k3Qh ?_; (case k1Qh => k_asm); (case k2Qh => k_mem); (case k3Qh => first | assumption | exact lt100 (by assumption) rfl | (simp; done) | omega); k_whole)))
  (k_with "call builtin:str.join" => (k_here; k_dflt (refine' join_at ?k1Qh ?k2Qh ?k3Qh ?k4Qh ?_; (case k1Qh => k_asm); (case k2Qh => k_mem); (case k3Qh => assumption); (case k4Qh => assumption); k_whole); intro _ _))
  (k_with "call builtin:list.append" => (k_here; (with_reducible show wpAny _ _ (call (Value.builtin _) [Value.ref _, _]) _ _ _); k_dflt (refine' append_K ?k1Qh ?k2Qh ?k3Qh ?_ ?zQh; (case k1Qh => k_asm); (case k2Qh => k_asm); (case k3Qh => k_upd); (case zQh => assumption); k_whole); intro _ _ _; (try k_sweep)))
  (k_with "subscriptTail Name Name str int" => (k_here; (with_reducible show wpAny _ _ (subscriptTail _ _ (Value.str _ _) (Value.int (Nat.cast _) _)) _ _ _); k_dflt (refine' str_at0 ?k2Qh ?k3Qh ?_; (case k2Qh => assumption); (case k3Qh => first | exact lt100 (by assumption) rfl | exact lt10 (by assumption) rfl | omega); k_whole)))
  (k_with "subscriptTail Name Name str int" => (k_here; (with_reducible show wpAny _ _ (subscriptTail _ _ (Value.str _ _) (Value.int (_ + 1) _)) _ _ _); k_dflt (refine' str_at1 ?k2Qh ?k3Qh ?_; (case k2Qh => first | assumption | exact hc2 (by omega)); (case k3Qh => first | exact lt100 (by assumption) rfl | exact lt10 (by assumption) rfl | omega); k_whole)))
  (k_with "compareOp Eq str str" => ((with_reducible show wpAny _ _ (compareOp _ (Value.str (Str.mk #[_]) _) (Value.str (Str.mk #[_]) _)) _ _ _); refine eq_cc ?_))
  (k_with "compareOp Eq str str" => ((with_reducible show wpAny _ _ (compareOp _ (Value.str (Str.mk #[_]) _) (Value.str (Str.ofString "%") _)) _ _ _); refine eq_pct ?_))
  (k_with "compareOp Eq str str" => ((with_reducible show wpAny _ _ (compareOp _ (Value.str (Str.mk #[_]) _) (Value.str (Str.ofString "_") _)) _ _ _); refine eq_und ?_))
  (k_with "compareOp Eq str" => ((with_reducible show wpAny _ _ (compareOp _ (Value.str (Str.mk #[_]) _) (escV _ _)) _ _ _); refine eq_ce ?_))
  (k_with "compareOp IsNot" => ((with_reducible show wpAny _ _ (compareOp _ (escV _ _) Value.none) _ _ _); refine isnot_e ?_))
  (k_with "compareOp In str str" => ((with_reducible show wpAny _ _ (compareOp _ (Value.str (Str.mk #[_]) _) (Value.str (Str.ofString "%_") _)) _ _ _); refine in_pu ?_))
  (k_with "call builtin:len" => ((with_reducible show wpAny _ _ (call (Value.builtin _) [Value.str _ _]) _ _ _); refine' len_txt ?k1Qh ?_; (case k1Qh => first | exact lt100 (by assumption) rfl | exact lt10 (by assumption) rfl | omega)))
  (k_with "newTuple" => (k_here; k_dflt (refine' newTuple_my ?k1Qh ?k2Qh ?_ ?zQh; (case k1Qh => k_asm); (case k2Qh => k_asm); (case zQh => exact Nat.le_of_ble_eq_true rfl); k_whole); intro _ _ _ _ l1; (try k_lt l1); revert l1; intro _; (try k_sweep)))
  (k_with "compareOp Eq int int" => (refine eq_ii ?_))
  (k_with "enterC" => (refine' code_defC ?k1Qh ?k2Qh ?k3Qh ?k4Qh ?k5Qh ?kAQh ?kFQh ?kKQh ?k6Qh ?k7Qh ?k8Qh ?k9Qh ?kBQh ?kDQh ?_ ?c2Qh ?c3Qh ?c4Qh; (case kAQh => exact rfl); (case kFQh => exact rfl); (case kKQh => assumption); (case k1Qh => k_asm); (case k2Qh => k_asm); (case k3Qh => k_asm); (case k4Qh => k_asm); (case k5Qh => k_asm); (case k6Qh => k_is); (case k7Qh => k_is); (case k8Qh => walk_at "room"); (case k9Qh => exact BindsTo.of_eq rfl); (case kBQh => exact rfl); (case kDQh => decide +kernel); (case c2Qh => exact rfl); (case c3Qh => exact rfl); (case c4Qh => exact rfl); k_whole; walk_at "tail0"))
  (k_with "eval ListComp" => (k_here; k_dflt (refine LCg.ListComp_U (F₀ := by k_asm) (by rfl) (by decide) (by rfl) (by decide) (by rfl) ?_)))
  (k_with "eval Name" => (k_here; (with_reducible show wpAny _ _ (eval (Expr.Name _ _) (compEnvC _ _ _ _)) _ _ _); k_dflt (refine' ldC ?k1Qh ?k2Qh ?k3Qh ?k4Qh ?_; (case k1Qh => k_asm); (case k2Qh => rfl); (case k3Qh => k_mem); (case k4Qh => k_asm); k_whole)))
  (k_with "CompSrc" => fail "own")
  (k_with "exec While Compare cons nil" => show Mine.Stop _)
  (k_with "exec While BoolOp cons nil" => show Mine.Stop _)
  (k_with "enterD" => (refine' code_def ?k1Qh ?k2Qh ?k3Qh ?k4Qh ?k5Qh ?kAQh ?kFQh ?kKQh ?k6Qh ?k7Qh ?k8Qh ?k9Qh ?kBQh ?_ ?c2Qh ?c3Qh ?c4Qh ?c5Qh; (case kAQh => exact rfl); (case kFQh => exact rfl); (case kKQh => first | exact rfl | assumption); (case k1Qh => k_asm); (case k2Qh => k_asm); (case k3Qh => k_asm); (case k4Qh => k_asm); (case k5Qh => k_asm); (case k6Qh => k_is); (case k7Qh => k_is); (case k8Qh => walk_at "room"); (case k9Qh => first | exact BindsTo.of_eq rfl | exact binds_K (by k_in) rfl (by k_is) rfl rfl rfl | fail "enterD: no rule for these arguments"); (case c5Qh => decide); (case kBQh => exact locs rfl); (case c2Qh => exact rfl); (case c3Qh => exact rfl); (case c4Qh => exact rfl); k_whole; intro _ _ _ _ _ _ _ _ _; (try dsimp only); (try k_fold)))
  (k_with "makeD" => (refine' call_cls ?k1Qh ?k2Qh ?k3Qh ?k4Qh ?k5Qh ?k6Qh ?_; (case k1Qh => k_asm); (case k2Qh => k_asm); (case k3Qh => k_asm); (case k4Qh => k_is); (case k5Qh => k_is); (case k6Qh => k_is); k_whole; intro _ _ _ _ _ l1 l2; (try k_lt l1); (try k_lt2 l2); revert l1 l2; intro _ _; (try k_sweep); walk_at "enterD"))
  (k_with "subscriptTail Name Name ref int" => (k_here; (with_reducible show wpAny _ _ (subscriptTail _ _ (Value.ref _) (Value.int (Nat.cast _) _)) _ _ _); k_dflt (refine' item_nat ?k1Qh ?k2Qh ?k3Qh ?k4Qh ?_; (case k1Qh => k_asm); (case k2Qh => k_mem); (case k3Qh => assumption); (case k4Qh => first | exact lt100 (by assumption) rfl | exact lt10 (by assumption) rfl | omega); k_whole)))
  (k_with "call builtin:len" => ((with_reducible show wpAny _ _ (call (Value.builtin _) [escV _ _]) _ _ _); refine' len_e ?k1Qh ?_; (case k1Qh => assumption)))
  (k_with "sub" => ((repeat' (first | refine List.forall_mem_cons.mpr ⟨?_, ?_⟩ | exact List.mem_cons_self | (refine List.mem_cons_of_mem _ ?_; k_mem) | (exact fun x hx => by k_mem))); done))
  (k_with "ifs" => ((try dsimp only); (repeat (refine Eq.trans (if_neg (by assumption)) ?_)); (repeat (refine Eq.trans ?_ (Eq.symm (if_neg (by assumption))))); exact rfl))
  (k_with "storeName" => dsimp only)
  (k_with "eval Call" => (k_here; (with_reducible show wpAny _ _ (eval (Expr.Call (Expr.Name (Str.ofString "len") _) [Expr.Name _ _] [] _) _) _ _ _); k_dflt (refine' len1 ?FQh ?XQh ?TQh ?eQh ?hvQh ?_; (case FQh => k_asm); (case XQh => k_asm); (case TQh => k_asm); (case eQh => k_is); (case hvQh => rfl); k_whole)))
  (k_with "lt" => first | assumption | exact And.left (by assumption) | exact pj1 (by assumption) | exact pj2 (by assumption) | exact pj3 (by assumption) | exact pj4 (by assumption) | exact pj5 (by assumption) | exact pj6 (by assumption) | exact pj7 (by assumption) | exact Nat.lt_succ_of_lt (And.left (by assumption)) | exact Nat.lt_succ_of_lt (Nat.lt_succ_of_lt (And.left (by assumption))))
  (k_with "call ref" => (k_here; (with_reducible show wpAny _ _ (call (Value.ref 118) _ _) _ _ _); k_dflt (refine' take_u ?k1Qh ?k2Qh ?k3Qh (Pick.news ?kpQh ?k4Qh) ?k5Qh ?kKQh ?kdQh ?kuQh ?kneQh ?ksoQh ?ktQh ?kt1Qh ?_; (case k1Qh => k_asm); (case k2Qh => k_asm); (case k3Qh => k_asm); (case k4Qh => k_asm); (case kpQh => walk_at "pick"); (case k5Qh => k_asm); (case kKQh => first | exact rfl | assumption); (case kdQh => walk_at "room"); (case kuQh => walk_at "units"); (case kneQh => k_all); (case ksoQh => assumption); (case ktQh => first | assumption | decide | omega); (case kt1Qh => first | assumption | decide | omega); k_whole; intro _ _ _ _ _ _ _ _ _ _; (try k_sweep))))
  (k_with "call ref" => (k_here; (with_reducible show wpAny _ _ (call (Value.ref 125) _ _) _ _ _); k_dflt (refine' one_u ?k1Qh ?k2Qh ?k3Qh (Pick.news ?kpQh ?k4Qh) ?k5Qh ?kKQh ?kdQh ?kuQh ?kneQh ?ksoQh ?kmQh ?kaQh ?kbQh ?_; (case k1Qh => k_asm); (case k2Qh => k_asm); (case k3Qh => k_asm); (case k4Qh => k_asm); (case kpQh => walk_at "pick"); (case k5Qh => k_asm); (case kKQh => first | exact rfl | assumption); (case kdQh => walk_at "room"); (case kuQh => walk_at "units"); (case kneQh => k_all); (case ksoQh => assumption); (case kmQh => k_mem); (case kaQh => first | assumption | exact sz14a (by assumption) | decide | omega | (simp; done)); (case kbQh => first | assumption | exact sz14b (by assumption) | decide | omega | (simp; done)); k_whole; intro _ _ _ _ _ _ _ _; (try k_sweep))))
  (k_with "call ref" => (k_here; (with_reducible show wpAny _ _ (call (Value.ref 151) _ _) _ _ _); k_dflt (refine' signs_u ?k1Qh ?k2Qh ?k3Qh ?k4Qh ?k5Qh ?kKQh ?kdQh ?kuQh ?_; (case k1Qh => k_asm); (case k2Qh => k_asm); (case k3Qh => k_asm); (case k4Qh => k_asm); (case k5Qh => k_asm); (case kKQh => first | exact rfl | assumption); (case kdQh => walk_at "room"); (case kuQh => walk_at "units"); k_whole; intro _ _ _ _ _ _ l1' _ _ _; (try k_lt l1'); revert l1'; intro _; (try k_sweep))))
  trivial
section Pat
theorem perm4 {α : Type} {a b c d p : α} {l : List α} (h : p ∈ a :: b :: c :: d :: l) : p ∈ d :: a :: b :: c :: l := by
  simp only [List.mem_cons] at h ⊢
  rcases h with h | h | h | h | h <;> simp [h]
theorem rowsAt13 : True := by
  (k_with "binaryOp Add ref ref" => (k_here; (with_reducible show wpAny _ _ (binaryOp _ (Value.ref _) (Value.ref _)) _ _ _); k_dflt (refine' cat_abs ?FQh ?NQh ?aQh ?bQh ?zQh ?_; (case FQh => k_asm); (case NQh => k_asm); (case aQh => k_mem); (case bQh => k_mem); (case zQh => (simp only [List.size_toArray, List.length_cons, List.length_nil]; omega)); k_whole); intro _ _ _ _ _ _ _ l1; (try k_lt l1); revert l1; intro _; (try k_sweep)))
  trivial
theorem pat_c (w : World) (loose : List Str) (mean : ExcName → Option Value) (mg mb : Str → Option Value) (rest : List (Addr × Obj)) (sa : Addr) (so : Obj) (hne : ∀ p ∈ rest, p.1 ≠ sa) (hs : SrcOk so) :
    Con w loose mean mg mb 156 ((sa, so) :: rest) [.ref sa] 6 (fun news' r => ∃ so', SrcOk so' ∧ news' = (sa, so') :: rest ∧ ∃ t u, r = .str t u ∧ t.cps.size < 10) := by
  unfold Con
  k_fill
  intro dp un gd cn cs a ccd cl outer A₀ base h₀ L m s Q E B F X N T hk hd1 hu1 hret
  refine wpAny_call ?_
  k_dflt walk_at "enterC"
  obtain ⟨hcn1, hcn2, hcn3, hcn4⟩ := cellsNe (x := sa) (rest := rest) (by assumption)
  k_steps
  rename_i g1 L1 _ _ FG1 B1 X1 T1 l1c oGa oS dGa dS _ _ la its0 n0 hz0 hq0 lla l4 _ ll4 D _ its3 hz3 hv3 llD _ oG dG _ _ Fz so2 hs2 d td hda hdb Nz h2 tk2 t1 u1 v1 hR F2 N2 hk2
  obtain ⟨k, rfl⟩ := Int.eq_ofNat_of_zero_le hda
  have hk5 : k < 100000 := by omega
  have dS' : oS.data = .cell (some (.ref sa)) := dS
  have hch : ∀ v ∈ its3.toList, ∃ c u, v = .str ⟨#[c]⟩ u := by
    intro v hv
    rcases hv3 v hv with h | h
    · exact hq0 v h
    · simp only [List.mem_cons, List.not_mem_nil, or_false] at h
      rcases h with rfl | rfl | rfl | rfl <;> exact ⟨_, _, rfl⟩
  have hz : its3.size = 18 := by rw [hz3, hz0]; rfl
  obtain ⟨oth, ⟨hm1, hm2, hm3, hne3, hrest⟩, N3⟩ : ∃ oth, ((L1 + 1, oS) ∈ oth ∧ (L1 + 1 + 1, oG) ∈ oth ∧ (D, W.listOf its3 0) ∈ oth ∧ (∀ p ∈ oth, p.1 ≠ sa) ∧ ∀ p ∈ rest, p ∈ oth) ∧ News g1 L1 h2 ((sa, so2) :: oth) :=
    ⟨_, ⟨by k_mem, by k_mem, by k_mem, by k_all, fun p hp => by k_mem⟩, N2⟩
  clear N2 Nz Fz
  refine LCg.CompSrc.range (n := k) rfl F2 N3 hR (small_k hk5) rsz_k (szl_k hk5) ?_
  intro g2
  refine rest_ind (n := k) (Inv := fun i ys nx => (∃ so3, SrcOk so3 ∧ nx = (sa, so3) :: oth) ∧ ys.length = i ∧ ∀ y ∈ ys, ∃ c u, y = .str ⟨#[c]⟩ u) ?_ ?_ k 0 [] _ (by omega) ⟨⟨so2, hs2, rfl⟩, rfl, by simp⟩
  · rintro i ys nx hi ⟨⟨so3, hs3, rfl⟩, hyl, hys⟩ v I oI C oC D2 m₂ h tk hP hNs hmx F4 N4 hoff hne4
    obtain ⟨tv, rfl⟩ := hP
    obtain ⟨⟨hI, hC, hD⟩, hoff2⟩ := hoff
    clear F2 N3
    k_steps
    rename_i r4 h4 tk4 F5 so4 hs4 hr4 N5
    refine LCg.CompEnd.intro F5 N5 ((sa, so4) :: oth) (fun p hp => (perm4 hp)) ⟨⟨hI, hC, hD⟩, hoff2⟩ trivial ⟨⟨so4, hs4, rfl⟩, by rw [List.length_append, List.length_singleton, hyl], ?_⟩
    intro y hy
    rcases List.mem_append.mp hy with hy | hy
    · exact hys y hy
    · rw [List.mem_singleton.mp hy]; exact hch _ hr4
  · clear F2 N3
    rintro ys nx ⟨⟨so3, hs3, rfl⟩, hyl, hys⟩
    obtain ⟨cs9, hcs1, hcs2⟩ := strs_of hys
    have hln : ((cs9.map fun c => (⟨#[c]⟩ : Str)).map (·.length)).sum ≤ 100000 := by
      rw [sum_ones (by intro y hy; obtain ⟨c, _, rfl⟩ := List.mem_map.mp hy; rfl), List.length_map]; omega
    k_steps
    rename News _ _ _ _ => N6
    refine hret _ _ _ _ (by assumption) (fun p hp => N6 p ?_) ⟨so3, hs3, rfl, _, _, rfl, ?_⟩
    · rcases List.mem_cons.mp hp with rfl | hp
      · exact .tail _ (.head _)
      · exact .tail _ (.tail _ (hrest p hp))
    · rw [jn_one, List.size_toArray]; omega
end Pat
theorem rowsAt14 : True := by
  k_with_none
  (k_with "pick" => first | exact Pick.head | exact Pick.tail (Pick.head) | exact Pick.tail (Pick.tail (Pick.head)) | exact Pick.tail (Pick.tail (Pick.tail (Pick.head))) | exact Pick.tail (Pick.tail (Pick.tail (Pick.tail (Pick.head)))) | exact Pick.tail (Pick.tail (Pick.tail (Pick.tail (Pick.tail (Pick.head))))) | exact Pick.tail (Pick.tail (Pick.tail (Pick.tail (Pick.tail (Pick.tail (Pick.head)))))) | exact Pick.tail (Pick.tail (Pick.tail (Pick.tail (Pick.tail (Pick.tail (Pick.tail (Pick.head))))))) | exact Pick.tail (Pick.tail (Pick.tail (Pick.tail (Pick.tail (Pick.tail (Pick.tail (Pick.tail (Pick.head)))))))) | exact Pick.tail (Pick.tail (Pick.tail (Pick.tail (Pick.tail (Pick.tail (Pick.tail (Pick.tail (Pick.tail (Pick.head))))))))) | exact Pick.tail (Pick.tail (Pick.tail (Pick.tail (Pick.tail (Pick.tail (Pick.tail (Pick.tail (Pick.tail (Pick.tail (Pick.head)))))))))) | exact Pick.tail (Pick.tail (Pick.tail (Pick.tail (Pick.tail (Pick.tail (Pick.tail (Pick.tail (Pick.tail (Pick.tail (Pick.tail (Pick.head))))))))))) | exact Pick.tail (Pick.tail (Pick.tail (Pick.tail (Pick.tail (Pick.tail (Pick.tail (Pick.tail (Pick.tail (Pick.tail (Pick.tail (Pick.tail (Pick.head)))))))))))) | exact Pick.tail (Pick.tail (Pick.tail (Pick.tail (Pick.tail (Pick.tail (Pick.tail (Pick.tail (Pick.tail (Pick.tail (Pick.tail (Pick.tail (Pick.tail (Pick.head))))))))))))) | exact Pick.tail (Pick.tail (Pick.tail (Pick.tail (Pick.tail (Pick.tail (Pick.tail (Pick.tail (Pick.tail (Pick.tail (Pick.tail (Pick.tail (Pick.tail (Pick.tail (Pick.head)))))))))))))) | exact Pick.tail (Pick.tail (Pick.tail (Pick.tail (Pick.tail (Pick.tail (Pick.tail (Pick.tail (Pick.tail (Pick.tail (Pick.tail (Pick.tail (Pick.tail (Pick.tail (Pick.tail (Pick.head))))))))))))))))
  (k_with "room" => first | exact room_m 1 hd1 rfl rfl | exact room_m 2 hd1 rfl rfl | exact room_m 3 hd1 rfl rfl | exact room_0 0 hd1 rfl rfl | exact room_0 1 hd1 rfl rfl | exact room_0 2 hd1 rfl rfl | exact room_0 3 hd1 rfl rfl | (walk_say "ROOM BY OMEGA"; (try simp only [depth_under_make, depth_under_kw, depth_in1, depth_deeper, depth_caller]); (try dsimp only [ktrTop]); omega))
  (k_with "units" => first | exact unit_m 0 hu1 rfl rfl | exact unit_m 3 hu1 rfl rfl | exact unit_m 6 hu1 rfl rfl | exact unit_m 4 hu1 rfl rfl | exact unit_m 7 hu1 rfl rfl | (walk_say "UNITS BY OMEGA"; (try simp only [units_in1, units_deeper, Around.mark_units, units_caller]); (try dsimp only [ktrTop]); omega))
  (k_with "con1" => (refine' Con.use ?k1Qh ?k2Qh ?k3Qh (Pick.news ?kpQh ?k4Qh) ?k5Qh ?kKQh ?kdQh ?kuQh ?kCQh ?_; (case k1Qh => k_asm); (case k2Qh => k_asm); (case k3Qh => k_asm); (case k5Qh => k_asm); (case kKQh => first | exact rfl | assumption); rotate_left))
  (k_with "call builtin:len" => (k_here; (with_reducible show wpAny _ _ (call (Value.builtin _) [Value.ref _]) _ _ _); k_dflt (refine' len_at ?k1Qh ?k2Qh ?k3Qh ?_; (case k1Qh => k_asm); (case k2Qh => k_mem); (case k3Qh => first | assumption | exact lt100 (by assumption) rfl | (simp; done) | omega); k_whole)))
  (k_with "call builtin:str.join" => (k_here; k_dflt (refine' join_at ?k1Qh ?k2Qh ?k3Qh ?k4Qh ?_; (case k1Qh => k_asm); (case k2Qh => k_mem); (case k3Qh => assumption); (case k4Qh => assumption); k_whole); intro _ _))
  (k_with "call builtin:list.append" => (k_here; (with_reducible show wpAny _ _ (call (Value.builtin _) [Value.ref _, _]) _ _ _); k_dflt (refine' append_K ?k1Qh ?k2Qh ?k3Qh ?_ ?zQh; (case k1Qh => k_asm); (case k2Qh => k_asm); (case k3Qh => k_upd); (case zQh => assumption); k_whole); intro _ _ _; (try k_sweep)))
  (k_with "subscriptTail Name Name str int" => (k_here; (with_reducible show wpAny _ _ (subscriptTail _ _ (Value.str _ _) (Value.int (Nat.cast _) _)) _ _ _); k_dflt (refine' str_at0 ?k2Qh ?k3Qh ?_; (case k2Qh => assumption); (case k3Qh => first | exact lt100 (by assumption) rfl | exact lt10 (by assumption) rfl | omega); k_whole)))
  (k_with "subscriptTail Name Name str int" => (k_here; (with_reducible show wpAny _ _ (subscriptTail _ _ (Value.str _ _) (Value.int (_ + 1) _)) _ _ _); k_dflt (refine' str_at1 ?k2Qh ?k3Qh ?_; (case k2Qh => first | assumption | exact hc2 (by omega)); (case k3Qh => first | exact lt100 (by assumption) rfl | exact lt10 (by assumption) rfl | omega); k_whole)))
  (k_with "compareOp Eq str str" => ((with_reducible show wpAny _ _ (compareOp _ (Value.str (Str.mk #[_]) _) (Value.str (Str.mk #[_]) _)) _ _ _); refine eq_cc ?_))
  (k_with "compareOp Eq str str" => ((with_reducible show wpAny _ _ (compareOp _ (Value.str (Str.mk #[_]) _) (Value.str (Str.ofString "%") _)) _ _ _); refine eq_pct ?_))
  (k_with "compareOp Eq str str" => ((with_reducible show wpAny _ _ (compareOp _ (Value.str (Str.mk #[_]) _) (Value.str (Str.ofString "_") _)) _ _ _); refine eq_und ?_))
  (k_with "compareOp Eq str" => ((with_reducible show wpAny _ _ (compareOp _ (Value.str (Str.mk #[_]) _) (escV _ _)) _ _ _); refine eq_ce ?_))
  (k_with "compareOp IsNot" => ((with_reducible show wpAny _ _ (compareOp _ (escV _ _) Value.none) _ _ _); refine isnot_e ?_))
  (k_with "compareOp In str str" => ((with_reducible show wpAny _ _ (compareOp _ (Value.str (Str.mk #[_]) _) (Value.str (Str.ofString "%_") _)) _ _ _); refine in_pu ?_))
  (k_with "call builtin:len" => ((with_reducible show wpAny _ _ (call (Value.builtin _) [Value.str _ _]) _ _ _); refine' len_txt ?k1Qh ?_; (case k1Qh => first | exact lt100 (by assumption) rfl | exact lt10 (by assumption) rfl | omega)))
  (k_with "newTuple" => (k_here; k_dflt (refine' newTuple_my ?k1Qh ?k2Qh ?_ ?zQh; (case k1Qh => k_asm); (case k2Qh => k_asm); (case zQh => exact Nat.le_of_ble_eq_true rfl); k_whole); intro _ _ _ _ l1; (try k_lt l1); revert l1; intro _; (try k_sweep)))
  (k_with "compareOp Eq int int" => (refine eq_ii ?_))
  (k_with "enterC" => (refine' code_defC ?k1Qh ?k2Qh ?k3Qh ?k4Qh ?k5Qh ?kAQh ?kFQh ?kKQh ?k6Qh ?k7Qh ?k8Qh ?k9Qh ?kBQh ?kDQh ?_ ?c2Qh ?c3Qh ?c4Qh; (case kAQh => exact rfl); (case kFQh => exact rfl); (case kKQh => assumption); (case k1Qh => k_asm); (case k2Qh => k_asm); (case k3Qh => k_asm); (case k4Qh => k_asm); (case k5Qh => k_asm); (case k6Qh => k_is); (case k7Qh => k_is); (case k8Qh => walk_at "room"); (case k9Qh => exact BindsTo.of_eq rfl); (case kBQh => exact rfl); (case kDQh => decide +kernel); (case c2Qh => exact rfl); (case c3Qh => exact rfl); (case c4Qh => exact rfl); k_whole; walk_at "tail0"))
  (k_with "eval ListComp" => (k_here; k_dflt (refine LCg.ListComp_U (F₀ := by k_asm) (by rfl) (by decide) (by rfl) (by decide) (by rfl) ?_)))
  (k_with "eval Name" => (k_here; (with_reducible show wpAny _ _ (eval (Expr.Name _ _) (compEnvC _ _ _ _)) _ _ _); k_dflt (refine' ldC ?k1Qh ?k2Qh ?k3Qh ?k4Qh ?_; (case k1Qh => k_asm); (case k2Qh => rfl); (case k3Qh => k_mem); (case k4Qh => k_asm); k_whole)))
  (k_with "CompSrc" => fail "own")
  (k_with "exec While Compare cons nil" => show Mine.Stop _)
  (k_with "exec While BoolOp cons nil" => show Mine.Stop _)
  (k_with "enterD" => (refine' code_def ?k1Qh ?k2Qh ?k3Qh ?k4Qh ?k5Qh ?kAQh ?kFQh ?kKQh ?k6Qh ?k7Qh ?k8Qh ?k9Qh ?kBQh ?_ ?c2Qh ?c3Qh ?c4Qh ?c5Qh; (case kAQh => exact rfl); (case kFQh => exact rfl); (case kKQh => first | exact rfl | assumption); (case k1Qh => k_asm); (case k2Qh => k_asm); (case k3Qh => k_asm); (case k4Qh => k_asm); (case k5Qh => k_asm); (case k6Qh => k_is); (case k7Qh => k_is); (case k8Qh => walk_at "room"); (case k9Qh => first | exact BindsTo.of_eq rfl | exact binds_K (by k_in) rfl (by k_is) rfl rfl rfl | fail "enterD: no rule for these arguments"); (case c5Qh => decide); (case kBQh => exact locs rfl); (case c2Qh => exact rfl); (case c3Qh => exact rfl); (case c4Qh => exact rfl); k_whole; intro _ _ _ _ _ _ _ _ _; (try dsimp only); (try k_fold)))
  (k_with "makeD" => (refine' call_cls ?k1Qh ?k2Qh ?k3Qh ?k4Qh ?k5Qh ?k6Qh ?_; (case k1Qh => k_asm); (case k2Qh => k_asm); (case k3Qh => k_asm); (case k4Qh => k_is); (case k5Qh => k_is); (case k6Qh => k_is); k_whole; intro _ _ _ _ _ l1 l2; (try k_lt l1); (try k_lt2 l2); revert l1 l2; intro _ _; (try k_sweep); walk_at "enterD"))
  (k_with "subscriptTail Name Name ref int" => (k_here; (with_reducible show wpAny _ _ (subscriptTail _ _ (Value.ref _) (Value.int (Nat.cast _) _)) _ _ _); k_dflt (refine' item_nat ?k1Qh ?k2Qh ?k3Qh ?k4Qh ?_; (case k1Qh => k_asm); (case k2Qh => k_mem); (case k3Qh => assumption); (case k4Qh => first | exact lt100 (by assumption) rfl | exact lt10 (by assumption) rfl | omega); k_whole)))
  (k_with "call builtin:len" => ((with_reducible show wpAny _ _ (call (Value.builtin _) [escV _ _]) _ _ _); refine' len_e ?k1Qh ?_; (case k1Qh => assumption)))
  (k_with "sub" => ((repeat' (first | refine List.forall_mem_cons.mpr ⟨?_, ?_⟩ | exact List.mem_cons_self | (refine List.mem_cons_of_mem _ ?_; k_mem) | (exact fun x hx => by k_mem))); done))
  (k_with "ifs" => ((try dsimp only); (repeat (refine Eq.trans (if_neg (by assumption)) ?_)); (repeat (refine Eq.trans ?_ (Eq.symm (if_neg (by assumption))))); exact rfl))
  (k_with "storeName" => dsimp only)
  (k_with "eval Call" => (k_here; (with_reducible show wpAny _ _ (eval (Expr.Call (Expr.Name (Str.ofString "len") _) [Expr.Name _ _] [] _) _) _ _ _); k_dflt (refine' len1 ?FQh ?XQh ?TQh ?eQh ?hvQh ?_; (case FQh => k_asm); (case XQh => k_asm); (case TQh => k_asm); (case eQh => k_is); (case hvQh => rfl); k_whole)))
  (k_with "lt" => first | assumption | exact And.left (by assumption) | exact pj1 (by assumption) | exact pj2 (by assumption) | exact pj3 (by assumption) | exact pj4 (by assumption) | exact pj5 (by assumption) | exact pj6 (by assumption) | exact pj7 (by assumption) | exact Nat.lt_succ_of_lt (And.left (by assumption)) | exact Nat.lt_succ_of_lt (Nat.lt_succ_of_lt (And.left (by assumption))))
  (k_with "call ref" => (k_here; (with_reducible show wpAny _ _ (call (Value.ref 53) _ _) _ _ _); k_dflt (refine' Con.use ?k1Qh ?k2Qh ?k3Qh ?k4Qh ?k5Qh ?kKQh ?kdQh ?kuQh (fold_c _ _ _ _ _ _ _ _ ?ktQh) ?_; (case k1Qh => k_asm); (case k2Qh => k_asm); (case k3Qh => k_asm); (case k4Qh => k_asm); (case k5Qh => k_asm); (case kKQh => first | exact rfl | assumption); (case kdQh => walk_at "room"); (case kuQh => walk_at "units"); (case ktQh => first | assumption | (simp; done) | (show (1:Nat) < 100; decide)); k_whole; rintro _ _ _ _ _ _ ⟨e', _, e2'⟩; subst e' e2'; (try k_sweep))))
  trivial
def alikeF (a b : Nat) : Bool := foldc a == foldc b
section Alike
theorem alpha_ascii : ∀ a, a < 128 → Txt.isalpha ⟨#[a]⟩ = (decide (65 ≤ a ∧ a ≤ 90) || decide (97 ≤ a ∧ a ≤ 122)) := by decide +kernel
theorem alike1 {a b : Nat} (h : a = b) : decide (a = b) = alikeF a b := by subst h; simp [alikeF]
theorem alike2 {a b : Nat} (_h0 : ¬ a = b) (h1 : (a : Int) < 128) (h2 : (b : Int) < 128) (h3 : Txt.isalpha ⟨#[a]⟩ = true) : (Txt.lower ⟨#[a]⟩ == Txt.lower ⟨#[b]⟩) = alikeF a b := by
  rw [lower_ascii (by intro c hc; simp at hc; omega), lower_ascii (by intro c hc; simp at hc; omega)]
  have em : ∀ c : Nat, (#[c] : Array Nat).map lo1 = #[lo1 c] := fun c => by simp
  rw [em, em, mk_one_beq]
  unfold alikeF
  have e : ∀ c, lo1 c = foldc c := by
    intro c; rfl
  rw [e, e]
  rfl
theorem alike3 {a b : Nat} (h0 : ¬ a = b) (h1 : (a : Int) < 128) (_h2 : (b : Int) < 128) (h3 : Txt.isalpha ⟨#[a]⟩ = false) : Txt.isalpha ⟨#[a]⟩ = alikeF a b := by
  have h4 := h3
  rw [alpha_ascii a (by omega)] at h4
  simp only [Bool.or_eq_false_iff, decide_eq_false_iff_not] at h4
  rw [h3]
  symm
  simp only [alikeF, beq_eq_false_iff_ne, foldc]
  split <;> split <;> omega
theorem alike4 {a b : Nat} (_h0 : ¬ a = b) (h1 : (a : Int) < 128) (h2 : ¬ (b : Int) < 128) : decide ((b : Int) < 128) = alikeF a b := by
  rw [decide_eq_false h2]
  symm
  simp only [alikeF, beq_eq_false_iff_ne, foldc]
  split <;> split <;> omega
theorem alike5 {a b : Nat} (h0 : ¬ a = b) (h1 : ¬ (a : Int) < 128) : decide ((a : Int) < 128) = alikeF a b := by
  rw [decide_eq_false h1]
  symm
  simp only [alikeF, beq_eq_false_iff_ne, foldc]
  split <;> split <;> omega
theorem rowsAt15 : True := by
  (k_with "call builtin:str.lower" => (refine PyProof.Rows.SCL.lower (Nat.le_of_ble_eq_true rfl) ?_; intro _))
  trivial
theorem alike_c (w : World) (loose : List Str) (mean : ExcName → Option Value) (mg mb : Str → Option Value) (news : List (Addr × Obj)) (a b : Nat) (ta tb : Tok) :
    Con w loose mean mg mb 132 news [.str ⟨#[a]⟩ ta, .str ⟨#[b]⟩ tb] 2 (fun news' r => news' = news ∧ r = .bool (alikeF a b)) := by
  unfold Con
  k_fill
  intro dp un gd cn cs ad ccd cl outer A₀ base h₀ L m s Q E B F X N T hk hd1 hu1 hret
  refine wpAny_call ?_
  k_dflt ktr_enter
  k_steps
  · rw [alike1 (by assumption)]; exact hret _ _ _ _ (by assumption) (by assumption) ⟨rfl, rfl⟩
  · rw [alike2 (by assumption) (by assumption) (by assumption) (by assumption)]; exact hret _ _ _ _ (by assumption) (by assumption) ⟨rfl, rfl⟩
  · rw [alike3 (b := b) (by assumption) (by assumption) (by assumption) (by assumption)]; exact hret _ _ _ _ (by assumption) (by assumption) ⟨rfl, rfl⟩
  · rw [alike4 (a := a) (by assumption) (by assumption) (by assumption)]; exact hret _ _ _ _ (by assumption) (by assumption) ⟨rfl, rfl⟩
  · rw [alike5 (b := b) (by assumption) (by assumption)]; exact hret _ _ _ _ (by assumption) (by assumption) ⟨rfl, rfl⟩
end Alike
theorem rowsAt16 : True := by
  k_with_none
  (k_with "pick" => first | exact Pick.head | exact Pick.tail (Pick.head) | exact Pick.tail (Pick.tail (Pick.head)) | exact Pick.tail (Pick.tail (Pick.tail (Pick.head))) | exact Pick.tail (Pick.tail (Pick.tail (Pick.tail (Pick.head)))) | exact Pick.tail (Pick.tail (Pick.tail (Pick.tail (Pick.tail (Pick.head))))) | exact Pick.tail (Pick.tail (Pick.tail (Pick.tail (Pick.tail (Pick.tail (Pick.head)))))) | exact Pick.tail (Pick.tail (Pick.tail (Pick.tail (Pick.tail (Pick.tail (Pick.tail (Pick.head))))))) | exact Pick.tail (Pick.tail (Pick.tail (Pick.tail (Pick.tail (Pick.tail (Pick.tail (Pick.tail (Pick.head)))))))) | exact Pick.tail (Pick.tail (Pick.tail (Pick.tail (Pick.tail (Pick.tail (Pick.tail (Pick.tail (Pick.tail (Pick.head))))))))) | exact Pick.tail (Pick.tail (Pick.tail (Pick.tail (Pick.tail (Pick.tail (Pick.tail (Pick.tail (Pick.tail (Pick.tail (Pick.head)))))))))) | exact Pick.tail (Pick.tail (Pick.tail (Pick.tail (Pick.tail (Pick.tail (Pick.tail (Pick.tail (Pick.tail (Pick.tail (Pick.tail (Pick.head))))))))))) | exact Pick.tail (Pick.tail (Pick.tail (Pick.tail (Pick.tail (Pick.tail (Pick.tail (Pick.tail (Pick.tail (Pick.tail (Pick.tail (Pick.tail (Pick.head)))))))))))) | exact Pick.tail (Pick.tail (Pick.tail (Pick.tail (Pick.tail (Pick.tail (Pick.tail (Pick.tail (Pick.tail (Pick.tail (Pick.tail (Pick.tail (Pick.tail (Pick.head))))))))))))) | exact Pick.tail (Pick.tail (Pick.tail (Pick.tail (Pick.tail (Pick.tail (Pick.tail (Pick.tail (Pick.tail (Pick.tail (Pick.tail (Pick.tail (Pick.tail (Pick.tail (Pick.head)))))))))))))) | exact Pick.tail (Pick.tail (Pick.tail (Pick.tail (Pick.tail (Pick.tail (Pick.tail (Pick.tail (Pick.tail (Pick.tail (Pick.tail (Pick.tail (Pick.tail (Pick.tail (Pick.tail (Pick.head))))))))))))))))
  (k_with "room" => first | exact room_m 1 hd1 rfl rfl | exact room_m 2 hd1 rfl rfl | exact room_m 3 hd1 rfl rfl | exact room_0 0 hd1 rfl rfl | exact room_0 1 hd1 rfl rfl | exact room_0 2 hd1 rfl rfl | exact room_0 3 hd1 rfl rfl | (walk_say "ROOM BY OMEGA"; (try simp only [depth_under_make, depth_under_kw, depth_in1, depth_deeper, depth_caller]); (try dsimp only [ktrTop]); omega))
  (k_with "units" => first | exact unit_m 0 hu1 rfl rfl | exact unit_m 3 hu1 rfl rfl | exact unit_m 6 hu1 rfl rfl | exact unit_m 4 hu1 rfl rfl | exact unit_m 7 hu1 rfl rfl | (walk_say "UNITS BY OMEGA"; (try simp only [units_in1, units_deeper, Around.mark_units, units_caller]); (try dsimp only [ktrTop]); omega))
  (k_with "con1" => (refine' Con.use ?k1Qh ?k2Qh ?k3Qh (Pick.news ?kpQh ?k4Qh) ?k5Qh ?kKQh ?kdQh ?kuQh ?kCQh ?_; (case k1Qh => k_asm); (case k2Qh => k_asm); (case k3Qh => k_asm); (case k5Qh => k_asm); (case kKQh => first | exact rfl | assumption); rotate_left))
  (k_with "call builtin:len" => (k_here; (with_reducible show wpAny _ _ (call (Value.builtin _) [Value.ref _]) _ _ _); k_dflt (refine' len_at ?k1Qh ?k2Qh ?k3Qh ?_; (case k1Qh => k_asm); (case k2Qh => k_mem); (case k3Qh => first | assumption | exact lt100 (by assumption) rfl | (simp; done) | omega); k_whole)))
  (k_with "call builtin:str.join" => (k_here; k_dflt (refine' join_at ?k1Qh ?k2Qh ?k3Qh ?k4Qh ?_; (case k1Qh => k_asm); (case k2Qh => k_mem); (case k3Qh => assumption); (case k4Qh => assumption); k_whole); intro _ _))
  (k_with "call builtin:list.append" => (k_here; (with_reducible show wpAny _ _ (call (Value.builtin _) [Value.ref _, _]) _ _ _); k_dflt (refine' append_K ?k1Qh ?k2Qh ?k3Qh ?_ ?zQh; (case k1Qh => k_asm); (case k2Qh => k_asm); (case k3Qh => k_upd); (case zQh => assumption); k_whole); intro _ _ _; (try k_sweep)))
  (k_with "subscriptTail Name Name str int" => (k_here; (with_reducible show wpAny _ _ (subscriptTail _ _ (Value.str _ _) (Value.int (Nat.cast _) _)) _ _ _); k_dflt (refine' str_at0 ?k2Qh ?k3Qh ?_; (case k2Qh => assumption); (case k3Qh => first | exact lt100 (by assumption) rfl | exact lt10 (by assumption) rfl | omega); k_whole)))
  (k_with "subscriptTail Name Name str int" => (k_here; (with_reducible show wpAny _ _ (subscriptTail _ _ (Value.str _ _) (Value.int (_ + 1) _)) _ _ _); k_dflt (refine' str_at1 ?k2Qh ?k3Qh ?_; (case k2Qh => first | assumption | exact hc2 (by omega)); (case k3Qh => first | exact lt100 (by assumption) rfl | exact lt10 (by assumption) rfl | omega); k_whole)))
  (k_with "compareOp Eq str str" => ((with_reducible show wpAny _ _ (compareOp _ (Value.str (Str.mk #[_]) _) (Value.str (Str.mk #[_]) _)) _ _ _); refine eq_cc ?_))
  (k_with "compareOp Eq str str" => ((with_reducible show wpAny _ _ (compareOp _ (Value.str (Str.mk #[_]) _) (Value.str (Str.ofString "%") _)) _ _ _); refine eq_pct ?_))
  (k_with "compareOp Eq str str" => ((with_reducible show wpAny _ _ (compareOp _ (Value.str (Str.mk #[_]) _) (Value.str (Str.ofString "_") _)) _ _ _); refine eq_und ?_))
  (k_with "compareOp Eq str" => ((with_reducible show wpAny _ _ (compareOp _ (Value.str (Str.mk #[_]) _) (escV _ _)) _ _ _); refine eq_ce ?_))
  (k_with "compareOp IsNot" => ((with_reducible show wpAny _ _ (compareOp _ (escV _ _) Value.none) _ _ _); refine isnot_e ?_))
  (k_with "compareOp In str str" => ((with_reducible show wpAny _ _ (compareOp _ (Value.str (Str.mk #[_]) _) (Value.str (Str.ofString "%_") _)) _ _ _); refine in_pu ?_))
  (k_with "call builtin:len" => ((with_reducible show wpAny _ _ (call (Value.builtin _) [Value.str _ _]) _ _ _); refine' len_txt ?k1Qh ?_; (case k1Qh => first | exact lt100 (by assumption) rfl | exact lt10 (by assumption) rfl | omega)))
  (k_with "newTuple" => (k_here; k_dflt (refine' newTuple_my ?k1Qh ?k2Qh ?_ ?zQh; (case k1Qh => k_asm); (case k2Qh => k_asm); (case zQh => exact Nat.le_of_ble_eq_true rfl); k_whole); intro _ _ _ _ l1; (try k_lt l1); revert l1; intro _; (try k_sweep)))
  (k_with "compareOp Eq int int" => (refine eq_ii ?_))
  (k_with "enterC" => (refine' code_defC ?k1Qh ?k2Qh ?k3Qh ?k4Qh ?k5Qh ?kAQh ?kFQh ?kKQh ?k6Qh ?k7Qh ?k8Qh ?k9Qh ?kBQh ?kDQh ?_ ?c2Qh ?c3Qh ?c4Qh; (case kAQh => exact rfl); (case kFQh => exact rfl); (case kKQh => assumption); (case k1Qh => k_asm); (case k2Qh => k_asm); (case k3Qh => k_asm); (case k4Qh => k_asm); (case k5Qh => k_asm); (case k6Qh => k_is); (case k7Qh => k_is); (case k8Qh => walk_at "room"); (case k9Qh => exact BindsTo.of_eq rfl); (case kBQh => exact rfl); (case kDQh => decide +kernel); (case c2Qh => exact rfl); (case c3Qh => exact rfl); (case c4Qh => exact rfl); k_whole; walk_at "tail0"))
  (k_with "eval ListComp" => (k_here; k_dflt (refine LCg.ListComp_U (F₀ := by k_asm) (by rfl) (by decide) (by rfl) (by decide) (by rfl) ?_)))
  (k_with "eval Name" => (k_here; (with_reducible show wpAny _ _ (eval (Expr.Name _ _) (compEnvC _ _ _ _)) _ _ _); k_dflt (refine' ldC ?k1Qh ?k2Qh ?k3Qh ?k4Qh ?_; (case k1Qh => k_asm); (case k2Qh => rfl); (case k3Qh => k_mem); (case k4Qh => k_asm); k_whole)))
  (k_with "CompSrc" => fail "own")
  (k_with "exec While Compare cons nil" => show Mine.Stop _)
  (k_with "exec While BoolOp cons nil" => show Mine.Stop _)
  (k_with "enterD" => (refine' code_def ?k1Qh ?k2Qh ?k3Qh ?k4Qh ?k5Qh ?kAQh ?kFQh ?kKQh ?k6Qh ?k7Qh ?k8Qh ?k9Qh ?kBQh ?_ ?c2Qh ?c3Qh ?c4Qh ?c5Qh; (case kAQh => exact rfl); (case kFQh => exact rfl); (case kKQh => first | exact rfl | assumption); (case k1Qh => k_asm); (case k2Qh => k_asm); (case k3Qh => k_asm); (case k4Qh => k_asm); (case k5Qh => k_asm); (case k6Qh => k_is); (case k7Qh => k_is); (case k8Qh => walk_at "room"); (case k9Qh => first | exact BindsTo.of_eq rfl | exact binds_K (by k_in) rfl (by k_is) rfl rfl rfl | fail "enterD: no rule for these arguments"); (case c5Qh => decide); (case kBQh => exact locs rfl); (case c2Qh => exact rfl); (case c3Qh => exact rfl); (case c4Qh => exact rfl); k_whole; intro _ _ _ _ _ _ _ _ _; (try dsimp only); (try k_fold)))
  (k_with "makeD" => (refine' call_cls ?k1Qh ?k2Qh ?k3Qh ?k4Qh ?k5Qh ?k6Qh ?_; (case k1Qh => k_asm); (case k2Qh => k_asm); (case k3Qh => k_asm); (case k4Qh => k_is); (case k5Qh => k_is); (case k6Qh => k_is); k_whole; intro _ _ _ _ _ l1 l2; (try k_lt l1); (try k_lt2 l2); revert l1 l2; intro _ _; (try k_sweep); walk_at "enterD"))
  (k_with "subscriptTail Name Name ref int" => (k_here; (with_reducible show wpAny _ _ (subscriptTail _ _ (Value.ref _) (Value.int (Nat.cast _) _)) _ _ _); k_dflt (refine' item_nat ?k1Qh ?k2Qh ?k3Qh ?k4Qh ?_; (case k1Qh => k_asm); (case k2Qh => k_mem); (case k3Qh => assumption); (case k4Qh => first | exact lt100 (by assumption) rfl | exact lt10 (by assumption) rfl | omega); k_whole)))
  (k_with "call builtin:len" => ((with_reducible show wpAny _ _ (call (Value.builtin _) [escV _ _]) _ _ _); refine' len_e ?k1Qh ?_; (case k1Qh => assumption)))
  (k_with "sub" => ((repeat' (first | refine List.forall_mem_cons.mpr ⟨?_, ?_⟩ | exact List.mem_cons_self | (refine List.mem_cons_of_mem _ ?_; k_mem) | (exact fun x hx => by k_mem))); done))
  (k_with "ifs" => ((try dsimp only); (repeat (refine Eq.trans (if_neg (by assumption)) ?_)); (repeat (refine Eq.trans ?_ (Eq.symm (if_neg (by assumption))))); exact rfl))
  (k_with "storeName" => dsimp only)
  (k_with "eval Call" => (k_here; (with_reducible show wpAny _ _ (eval (Expr.Call (Expr.Name (Str.ofString "len") _) [Expr.Name _ _] [] _) _) _ _ _); k_dflt (refine' len1 ?FQh ?XQh ?TQh ?eQh ?hvQh ?_; (case FQh => k_asm); (case XQh => k_asm); (case TQh => k_asm); (case eQh => k_is); (case hvQh => rfl); k_whole)))
  (k_with "lt" => first | assumption | exact And.left (by assumption) | exact pj1 (by assumption) | exact pj2 (by assumption) | exact pj3 (by assumption) | exact pj4 (by assumption) | exact pj5 (by assumption) | exact pj6 (by assumption) | exact pj7 (by assumption) | exact Nat.lt_succ_of_lt (And.left (by assumption)) | exact Nat.lt_succ_of_lt (Nat.lt_succ_of_lt (And.left (by assumption))))
  trivial
abbrev partDict (w : World) (t1 t2 t3 t4 : Tok) (kv sv : Value) : Obj :=
  dictOf [⟨PyData.keyHash w.params (Str.ofString "kind"), .str (Str.ofString "kind") t1, kv⟩, ⟨PyData.keyHash w.params (Str.ofString "sign"), .str (Str.ofString "sign") t2, sv⟩,
    ⟨PyData.keyHash w.params (Str.ofString "ranges"), .str (Str.ofString "ranges") t3, .none⟩, ⟨PyData.keyHash w.params (Str.ofString "negated"), .str (Str.ofString "negated") t4, .bool false⟩] 4
section PartC
theorem part1_c (w : World) (loose : List Str) (mean : ExcName → Option Value) (mg mb : Str → Option Value) (news : List (Addr × Obj)) (kd : Int) (tk : Tok) :
    Con w loose mean mg mb 78 news [.int kd tk] 4 (fun news' r => ∃ x dx t1 t2 t3 t4, news' = (x, instObj 78 dx) :: (dx, partDict w t1 t2 t3 t4 (.int kd tk) .none) :: news ∧ (∀ p ∈ news, p.1 < dx) ∧ dx < x ∧ r = .ref x) := by
  unfold Con
  k_fill
  intro dp un gd cn cs ad ccd cl outer A₀ base h₀ L m s Q E B F X N T hk hd1 hu1 hret
  k_dflt walk_at "makeD"
  k_steps
  exact hret _ _ _ _ (by assumption) (by assumption) ⟨_, _, _, _, _, _, rfl, by assumption, by assumption, rfl⟩
theorem part2_c (w : World) (loose : List Str) (mean : ExcName → Option Value) (mg mb : Str → Option Value) (news : List (Addr × Obj)) (kd : Int) (tk : Tok) (x : Str) (tx : Tok) :
    Con w loose mean mg mb 78 news [.int kd tk, .str x tx] 4 (fun news' r => ∃ a dx t1 t2 t3 t4, news' = (a, instObj 78 dx) :: (dx, partDict w t1 t2 t3 t4 (.int kd tk) (.str x tx)) :: news ∧ (∀ p ∈ news, p.1 < dx) ∧ dx < a ∧ r = .ref a) := by
  unfold Con
  k_fill
  intro dp un gd cn cs ad ccd cl outer A₀ base h₀ L m s Q E B F X N T hk hd1 hu1 hret
  k_dflt walk_at "makeD"
  k_steps
  exact hret _ _ _ _ (by assumption) (by assumption) ⟨_, _, _, _, _, _, rfl, by assumption, by assumption, rfl⟩
theorem part1_u {w : World} {loose : List Str} {mean : ExcName → Option Value} {mg mb : Str → Option Value} {dp un : Nat} {gd : Option (List Code)} {cn : Str} {cs : Scope} {a : Addr} {ccd : Value} {cl : List (Str × Addr)} {outer : List Env} {A₀ : Around} {base h₀ : Heap} {L : Addr} {m : Str → Option Value} {s : Shared} {Q E : Value → Shared → Prop} {news : List (Addr × Obj)} {kd : Int} {tk : Tok}
    (B : Below A₀ base outer h₀) (F : Fr h₀ L s.heap m) (X : (hd.heap_39 w.params).In h₀) (N : News h₀ L s.heap news) (T : Top hd.view_39 loose mean mg mb h₀) (hk : cs.kind = .function)
    (hd1 : dp + 4 < recursionLimit) (hu : un + 8 * 4 < cLine) 
    (h : ∀ h' tk' x dx t1 t2 t3 t4, Fr h₀ L h' m → (∀ p ∈ news, p.1 < dx) → dx < x → News h₀ L h' ((x, instObj 78 dx) :: (dx, partDict w t1 t2 t3 t4 (.int kd tk) (.none)) :: news) → Q (.ref x) { s with heap := h', toks := tk' }) :
    wpAny (model PySem.Challenge.rw_qd0119_01.row.prog w) (ktrTop dp un gd cn cs L a ccd cl outer) (call (.ref 78) [.int kd tk]) Q E s :=
  Con.use B F X N T hk hd1 hu (part1_c w loose mean mg mb news kd tk) (by
    rintro r h' tk' news' F' N' ⟨x, dx, t1, t2, t3, t4, rfl, l1, l2, rfl⟩
    exact h _ _ _ _ _ _ _ _ F' l1 l2 N')
theorem part2_u {w : World} {loose : List Str} {mean : ExcName → Option Value} {mg mb : Str → Option Value} {dp un : Nat} {gd : Option (List Code)} {cn : Str} {cs : Scope} {a : Addr} {ccd : Value} {cl : List (Str × Addr)} {outer : List Env} {A₀ : Around} {base h₀ : Heap} {L : Addr} {m : Str → Option Value} {s : Shared} {Q E : Value → Shared → Prop} {news : List (Addr × Obj)} {kd : Int} {tk : Tok} {y : Str} {ty : Tok}
    (B : Below A₀ base outer h₀) (F : Fr h₀ L s.heap m) (X : (hd.heap_39 w.params).In h₀) (N : News h₀ L s.heap news) (T : Top hd.view_39 loose mean mg mb h₀) (hk : cs.kind = .function)
    (hd1 : dp + 4 < recursionLimit) (hu : un + 8 * 4 < cLine) 
    (h : ∀ h' tk' x dx t1 t2 t3 t4, Fr h₀ L h' m → (∀ p ∈ news, p.1 < dx) → dx < x → News h₀ L h' ((x, instObj 78 dx) :: (dx, partDict w t1 t2 t3 t4 (.int kd tk) (.str y ty)) :: news) → Q (.ref x) { s with heap := h', toks := tk' }) :
    wpAny (model PySem.Challenge.rw_qd0119_01.row.prog w) (ktrTop dp un gd cn cs L a ccd cl outer) (call (.ref 78) [.int kd tk, .str y ty]) Q E s :=
  Con.use B F X N T hk hd1 hu (part2_c w loose mean mg mb news kd tk y ty) (by
    rintro r h' tk' news' F' N' ⟨x, dx, t1, t2, t3, t4, rfl, l1, l2, rfl⟩
    exact h _ _ _ _ _ _ _ _ F' l1 l2 N')
end PartC
theorem rowsAt17 : True := by
  k_with_none
  (k_with "pick" => first | exact Pick.head | exact Pick.tail (Pick.head) | exact Pick.tail (Pick.tail (Pick.head)) | exact Pick.tail (Pick.tail (Pick.tail (Pick.head))) | exact Pick.tail (Pick.tail (Pick.tail (Pick.tail (Pick.head)))) | exact Pick.tail (Pick.tail (Pick.tail (Pick.tail (Pick.tail (Pick.head))))) | exact Pick.tail (Pick.tail (Pick.tail (Pick.tail (Pick.tail (Pick.tail (Pick.head)))))) | exact Pick.tail (Pick.tail (Pick.tail (Pick.tail (Pick.tail (Pick.tail (Pick.tail (Pick.head))))))) | exact Pick.tail (Pick.tail (Pick.tail (Pick.tail (Pick.tail (Pick.tail (Pick.tail (Pick.tail (Pick.head)))))))) | exact Pick.tail (Pick.tail (Pick.tail (Pick.tail (Pick.tail (Pick.tail (Pick.tail (Pick.tail (Pick.tail (Pick.head))))))))) | exact Pick.tail (Pick.tail (Pick.tail (Pick.tail (Pick.tail (Pick.tail (Pick.tail (Pick.tail (Pick.tail (Pick.tail (Pick.head)))))))))) | exact Pick.tail (Pick.tail (Pick.tail (Pick.tail (Pick.tail (Pick.tail (Pick.tail (Pick.tail (Pick.tail (Pick.tail (Pick.tail (Pick.head))))))))))) | exact Pick.tail (Pick.tail (Pick.tail (Pick.tail (Pick.tail (Pick.tail (Pick.tail (Pick.tail (Pick.tail (Pick.tail (Pick.tail (Pick.tail (Pick.head)))))))))))) | exact Pick.tail (Pick.tail (Pick.tail (Pick.tail (Pick.tail (Pick.tail (Pick.tail (Pick.tail (Pick.tail (Pick.tail (Pick.tail (Pick.tail (Pick.tail (Pick.head))))))))))))) | exact Pick.tail (Pick.tail (Pick.tail (Pick.tail (Pick.tail (Pick.tail (Pick.tail (Pick.tail (Pick.tail (Pick.tail (Pick.tail (Pick.tail (Pick.tail (Pick.tail (Pick.head)))))))))))))) | exact Pick.tail (Pick.tail (Pick.tail (Pick.tail (Pick.tail (Pick.tail (Pick.tail (Pick.tail (Pick.tail (Pick.tail (Pick.tail (Pick.tail (Pick.tail (Pick.tail (Pick.tail (Pick.head))))))))))))))))
  (k_with "room" => first | exact room_m 1 hd1 rfl rfl | exact room_m 2 hd1 rfl rfl | exact room_m 3 hd1 rfl rfl | exact room_0 0 hd1 rfl rfl | exact room_0 1 hd1 rfl rfl | exact room_0 2 hd1 rfl rfl | exact room_0 3 hd1 rfl rfl | (walk_say "ROOM BY OMEGA"; (try simp only [depth_under_make, depth_under_kw, depth_in1, depth_deeper, depth_caller]); (try dsimp only [ktrTop]); omega))
  (k_with "units" => first | exact unit_m 0 hu1 rfl rfl | exact unit_m 3 hu1 rfl rfl | exact unit_m 6 hu1 rfl rfl | exact unit_m 4 hu1 rfl rfl | exact unit_m 7 hu1 rfl rfl | (walk_say "UNITS BY OMEGA"; (try simp only [units_in1, units_deeper, Around.mark_units, units_caller]); (try dsimp only [ktrTop]); omega))
  (k_with "con1" => (refine' Con.use ?k1Qh ?k2Qh ?k3Qh (Pick.news ?kpQh ?k4Qh) ?k5Qh ?kKQh ?kdQh ?kuQh ?kCQh ?_; (case k1Qh => k_asm); (case k2Qh => k_asm); (case k3Qh => k_asm); (case k5Qh => k_asm); (case kKQh => first | exact rfl | assumption); rotate_left))
  (k_with "call builtin:len" => (k_here; (with_reducible show wpAny _ _ (call (Value.builtin _) [Value.ref _]) _ _ _); k_dflt (refine' len_at ?k1Qh ?k2Qh ?k3Qh ?_; (case k1Qh => k_asm); (case k2Qh => k_mem); (case k3Qh => first | assumption | exact lt100 (by assumption) rfl | (simp; done) | omega); k_whole)))
  (k_with "call builtin:str.join" => (k_here; k_dflt (refine' join_at ?k1Qh ?k2Qh ?k3Qh ?k4Qh ?_; (case k1Qh => k_asm); (case k2Qh => k_mem); (case k3Qh => assumption); (case k4Qh => assumption); k_whole); intro _ _))
  (k_with "call builtin:list.append" => (k_here; (with_reducible show wpAny _ _ (call (Value.builtin _) [Value.ref _, _]) _ _ _); k_dflt (refine' append_K ?k1Qh ?k2Qh ?k3Qh ?_ ?zQh; (case k1Qh => k_asm); (case k2Qh => k_asm); (case k3Qh => k_upd); (case zQh => assumption); k_whole); intro _ _ _; (try k_sweep)))
  (k_with "subscriptTail Name Name str int" => (k_here; (with_reducible show wpAny _ _ (subscriptTail _ _ (Value.str _ _) (Value.int (Nat.cast _) _)) _ _ _); k_dflt (refine' str_at0 ?k2Qh ?k3Qh ?_; (case k2Qh => assumption); (case k3Qh => first | exact lt100 (by assumption) rfl | exact lt10 (by assumption) rfl | omega); k_whole)))
  (k_with "subscriptTail Name Name str int" => (k_here; (with_reducible show wpAny _ _ (subscriptTail _ _ (Value.str _ _) (Value.int (_ + 1) _)) _ _ _); k_dflt (refine' str_at1 ?k2Qh ?k3Qh ?_; (case k2Qh => first | assumption | exact hc2 (by omega)); (case k3Qh => first | exact lt100 (by assumption) rfl | exact lt10 (by assumption) rfl | omega); k_whole)))
  (k_with "compareOp Eq str str" => ((with_reducible show wpAny _ _ (compareOp _ (Value.str (Str.mk #[_]) _) (Value.str (Str.mk #[_]) _)) _ _ _); refine eq_cc ?_))
  (k_with "compareOp Eq str str" => ((with_reducible show wpAny _ _ (compareOp _ (Value.str (Str.mk #[_]) _) (Value.str (Str.ofString "%") _)) _ _ _); refine eq_pct ?_))
  (k_with "compareOp Eq str str" => ((with_reducible show wpAny _ _ (compareOp _ (Value.str (Str.mk #[_]) _) (Value.str (Str.ofString "_") _)) _ _ _); refine eq_und ?_))
  (k_with "compareOp Eq str" => ((with_reducible show wpAny _ _ (compareOp _ (Value.str (Str.mk #[_]) _) (escV _ _)) _ _ _); refine eq_ce ?_))
  (k_with "compareOp IsNot" => ((with_reducible show wpAny _ _ (compareOp _ (escV _ _) Value.none) _ _ _); refine isnot_e ?_))
  (k_with "compareOp In str str" => ((with_reducible show wpAny _ _ (compareOp _ (Value.str (Str.mk #[_]) _) (Value.str (Str.ofString "%_") _)) _ _ _); refine in_pu ?_))
  (k_with "call builtin:len" => ((with_reducible show wpAny _ _ (call (Value.builtin _) [Value.str _ _]) _ _ _); refine' len_txt ?k1Qh ?_; (case k1Qh => first | exact lt100 (by assumption) rfl | exact lt10 (by assumption) rfl | omega)))
  (k_with "newTuple" => (k_here; k_dflt (refine' newTuple_my ?k1Qh ?k2Qh ?_ ?zQh; (case k1Qh => k_asm); (case k2Qh => k_asm); (case zQh => exact Nat.le_of_ble_eq_true rfl); k_whole); intro _ _ _ _ l1; (try k_lt l1); revert l1; intro _; (try k_sweep)))
  (k_with "compareOp Eq int int" => (refine eq_ii ?_))
  (k_with "enterC" => (refine' code_defC ?k1Qh ?k2Qh ?k3Qh ?k4Qh ?k5Qh ?kAQh ?kFQh ?kKQh ?k6Qh ?k7Qh ?k8Qh ?k9Qh ?kBQh ?kDQh ?_ ?c2Qh ?c3Qh ?c4Qh; (case kAQh => exact rfl); (case kFQh => exact rfl); (case kKQh => assumption); (case k1Qh => k_asm); (case k2Qh => k_asm); (case k3Qh => k_asm); (case k4Qh => k_asm); (case k5Qh => k_asm); (case k6Qh => k_is); (case k7Qh => k_is); (case k8Qh => walk_at "room"); (case k9Qh => exact BindsTo.of_eq rfl); (case kBQh => exact rfl); (case kDQh => decide +kernel); (case c2Qh => exact rfl); (case c3Qh => exact rfl); (case c4Qh => exact rfl); k_whole; walk_at "tail0"))
  (k_with "eval ListComp" => (k_here; k_dflt (refine LCg.ListComp_U (F₀ := by k_asm) (by rfl) (by decide) (by rfl) (by decide) (by rfl) ?_)))
  (k_with "eval Name" => (k_here; (with_reducible show wpAny _ _ (eval (Expr.Name _ _) (compEnvC _ _ _ _)) _ _ _); k_dflt (refine' ldC ?k1Qh ?k2Qh ?k3Qh ?k4Qh ?_; (case k1Qh => k_asm); (case k2Qh => rfl); (case k3Qh => k_mem); (case k4Qh => k_asm); k_whole)))
  (k_with "CompSrc" => fail "own")
  (k_with "exec While Compare cons nil" => show Mine.Stop _)
  (k_with "exec While BoolOp cons nil" => show Mine.Stop _)
  (k_with "enterD" => (refine' code_def ?k1Qh ?k2Qh ?k3Qh ?k4Qh ?k5Qh ?kAQh ?kFQh ?kKQh ?k6Qh ?k7Qh ?k8Qh ?k9Qh ?kBQh ?_ ?c2Qh ?c3Qh ?c4Qh ?c5Qh; (case kAQh => exact rfl); (case kFQh => exact rfl); (case kKQh => first | exact rfl | assumption); (case k1Qh => k_asm); (case k2Qh => k_asm); (case k3Qh => k_asm); (case k4Qh => k_asm); (case k5Qh => k_asm); (case k6Qh => k_is); (case k7Qh => k_is); (case k8Qh => walk_at "room"); (case k9Qh => first | exact BindsTo.of_eq rfl | exact binds_K (by k_in) rfl (by k_is) rfl rfl rfl | fail "enterD: no rule for these arguments"); (case c5Qh => decide); (case kBQh => exact locs rfl); (case c2Qh => exact rfl); (case c3Qh => exact rfl); (case c4Qh => exact rfl); k_whole; intro _ _ _ _ _ _ _ _ _; (try dsimp only); (try k_fold)))
  (k_with "makeD" => (refine' call_cls ?k1Qh ?k2Qh ?k3Qh ?k4Qh ?k5Qh ?k6Qh ?_; (case k1Qh => k_asm); (case k2Qh => k_asm); (case k3Qh => k_asm); (case k4Qh => k_is); (case k5Qh => k_is); (case k6Qh => k_is); k_whole; intro _ _ _ _ _ l1 l2; (try k_lt l1); (try k_lt2 l2); revert l1 l2; intro _ _; (try k_sweep); walk_at "enterD"))
  (k_with "subscriptTail Name Name ref int" => (k_here; (with_reducible show wpAny _ _ (subscriptTail _ _ (Value.ref _) (Value.int (Nat.cast _) _)) _ _ _); k_dflt (refine' item_nat ?k1Qh ?k2Qh ?k3Qh ?k4Qh ?_; (case k1Qh => k_asm); (case k2Qh => k_mem); (case k3Qh => assumption); (case k4Qh => first | exact lt100 (by assumption) rfl | exact lt10 (by assumption) rfl | omega); k_whole)))
  (k_with "call builtin:len" => ((with_reducible show wpAny _ _ (call (Value.builtin _) [escV _ _]) _ _ _); refine' len_e ?k1Qh ?_; (case k1Qh => assumption)))
  (k_with "sub" => ((repeat' (first | refine List.forall_mem_cons.mpr ⟨?_, ?_⟩ | exact List.mem_cons_self | (refine List.mem_cons_of_mem _ ?_; k_mem) | (exact fun x hx => by k_mem))); done))
  (k_with "ifs" => ((try dsimp only); (repeat (refine Eq.trans (if_neg (by assumption)) ?_)); (repeat (refine Eq.trans ?_ (Eq.symm (if_neg (by assumption))))); exact rfl))
  (k_with "storeName" => dsimp only)
  (k_with "eval Call" => (k_here; (with_reducible show wpAny _ _ (eval (Expr.Call (Expr.Name (Str.ofString "len") _) [Expr.Name _ _] [] _) _) _ _ _); k_dflt (refine' len1 ?FQh ?XQh ?TQh ?eQh ?hvQh ?_; (case FQh => k_asm); (case XQh => k_asm); (case TQh => k_asm); (case eQh => k_is); (case hvQh => rfl); k_whole)))
  (k_with "lt" => first | assumption | exact And.left (by assumption) | exact pj1 (by assumption) | exact pj2 (by assumption) | exact pj3 (by assumption) | exact pj4 (by assumption) | exact pj5 (by assumption) | exact pj6 (by assumption) | exact pj7 (by assumption) | exact Nat.lt_succ_of_lt (And.left (by assumption)) | exact Nat.lt_succ_of_lt (Nat.lt_succ_of_lt (And.left (by assumption))))
  (k_with "call ref" => (k_here; (with_reducible show wpAny _ _ (call (Value.ref 53) _ _) _ _ _); k_dflt (refine' Con.use ?k1Qh ?k2Qh ?k3Qh ?k4Qh ?k5Qh ?kKQh ?kdQh ?kuQh (fold_c _ _ _ _ _ _ _ _ ?ktQh) ?_; (case k1Qh => k_asm); (case k2Qh => k_asm); (case k3Qh => k_asm); (case k4Qh => k_asm); (case k5Qh => k_asm); (case kKQh => first | exact rfl | assumption); (case kdQh => walk_at "room"); (case kuQh => walk_at "units"); (case ktQh => first | assumption | (simp; done) | (show (1:Nat) < 100; decide)); k_whole; rintro _ _ _ _ _ _ ⟨e', _, e2'⟩; subst e' e2'; (try k_sweep))))
  (k_with "call ref" => (k_here; (with_reducible show wpAny _ _ (call (Value.ref 139) _ _) _ _ _); k_dflt (refine' Con.use ?k1Qh ?k2Qh ?k3Qh ?k4Qh ?k5Qh ?kKQh ?kdQh ?kuQh (pieces_c _ _ _ _ _ _ _ _ _ _ ?ktQh) ?_; (case k1Qh => k_asm); (case k2Qh => k_asm); (case k3Qh => k_asm); (case k4Qh => k_asm); (case k5Qh => k_asm); (case kKQh => first | exact rfl | assumption); (case kdQh => walk_at "room"); (case kuQh => walk_at "units"); (case ktQh => first | assumption | omega); k_whole)))
  (k_with "call ref" => (k_here; (with_reducible show wpAny _ _ (call (Value.ref 78) [Value.int _ _] _) _ _ _); k_dflt (refine' part1_u ?k1Qh ?k2Qh ?k3Qh ?k4Qh ?k5Qh ?kKQh ?kdQh ?kuQh ?_; (case k1Qh => k_asm); (case k2Qh => k_asm); (case k3Qh => k_asm); (case k4Qh => k_asm); (case k5Qh => k_asm); (case kKQh => first | exact rfl | assumption); (case kdQh => walk_at "room"); (case kuQh => walk_at "units"); k_whole; intro _ _ _ _ _ _ _ _ _ l1 l2 _; (try k_lt l1); (try k_lt2 l2); revert l1 l2; intro _ _; (try k_sweep))))
  (k_with "call ref" => (k_here; (with_reducible show wpAny _ _ (call (Value.ref 78) [Value.int _ _, Value.str _ _] _) _ _ _); k_dflt (refine' part2_u ?k1Qh ?k2Qh ?k3Qh ?k4Qh ?k5Qh ?kKQh ?kdQh ?kuQh ?_; (case k1Qh => k_asm); (case k2Qh => k_asm); (case k3Qh => k_asm); (case k4Qh => k_asm); (case k5Qh => k_asm); (case kKQh => first | exact rfl | assumption); (case kdQh => walk_at "room"); (case kuQh => walk_at "units"); k_whole; intro _ _ _ _ _ _ _ _ _ l1 l2 _; (try k_lt l1); (try k_lt2 l2); revert l1 l2; intro _ _; (try k_sweep))))
  trivial
def foldP : Pc → Pc
  | .any => .any
  | .one => .one
  | .sign c => .sign (foldc c)
def PtIs (kd : Int) (sv : Value) : Pc → Prop
  | .any => kd = 0
  | .one => kd = 1
  | .sign c => kd = 2 ∧ ∃ u, sv = .str ⟨#[c]⟩ u
/-- the values are references to the ledger's parts that stand for these pieces -/
inductive PtsAre (w : World) (tup : List (Addr × Obj)) : List Value → List Pc → Prop
  | nil : PtsAre w tup [] []
  | cons {a dx : Addr} {t1 t2 t3 t4 tk : Tok} {kd : Int} {sv : Value} {q : Pc} {vs ps} : (a, instObj 78 dx) ∈ tup → (dx, partDict w t1 t2 t3 t4 (.int kd tk) sv) ∈ tup → PtIs kd sv q → PtsAre w tup vs ps → PtsAre w tup (.ref a :: vs) (q :: ps)
section LParts
theorem foldS_one (c : Nat) : foldS ⟨#[c]⟩ = ⟨#[foldc c]⟩ := by simp [foldS]
theorem pts_snoc {w : World} {tup : List (Addr × Obj)} {vs : List Value} {ps : List Pc} {a dx : Addr} {t1 t2 t3 t4 tk : Tok} {kd : Int} {sv : Value} {q : Pc} (h : PtsAre w tup vs ps) (hq : PtIs kd sv q) :
    PtsAre w ((a, instObj 78 dx) :: (dx, partDict w t1 t2 t3 t4 (.int kd tk) sv) :: tup) (vs ++ [.ref a]) (ps ++ [q]) := by
  induction h with
  | nil => exact .cons (.head _) (.tail _ (.head _)) hq .nil
  | cons h1 h2 h3 _ ih => exact .cons (.tail _ (.tail _ h1)) (.tail _ (.tail _ h2)) h3 ih
def LJ (w : World) (p : Str) (e : Option Nat) (news : List (Addr × Obj)) (pa : Addr) (m0 m : Str → Option Value) (nx : List (Addr × Obj)) (kk : Nat) : Prop :=
  ∃ j : Nat, ∃ ta u vs k tup ps, (m = fun y => if y = Str.ofString "at" then some (.int (j : Int) ta) else if y = Str.ofString "sign" then u else m0 y) ∧ nx = (pa, W.listOf vs.toArray k) :: (tup ++ news) ∧ PtsAre w tup vs (ps.map foldP) ∧ j ≤ p.cps.size ∧ vs.length ≤ j ∧ kk = p.cps.size - j ∧
    (∀ q ∈ tup, q.1 ≠ pa) ∧ (∀ q ∈ tup, ∀ p ∈ news, p.1 < q.1) ∧ piecesF e p.cps.toList = (piecesF e (p.cps.toList.drop j)).map (ps ++ ·)
theorem lj_step {w : World} {p : Str} {e : Option Nat} {news tup : List (Addr × Obj)} {pa a dx : Addr} {m0 m' : Str → Option Value} {kk j j' k : Nat} {i : Int} {tb : Tok} {u : Option Value} {vs : List Value} {ps : List Pc} {q : Pc} {t1 t2 t3 t4 tk : Tok} {kd : Int} {sv : Value}
    (hP : PtsAre w tup vs (ps.map foldP)) (hj : j ≤ p.cps.size) (hvl : vs.length ≤ j) (hkk : kk = p.cps.size - j) (htf : ∀ q ∈ tup, q.1 ≠ pa) (htn : ∀ q ∈ tup, ∀ p ∈ news, p.1 < q.1) (hpf : piecesF e p.cps.toList = (piecesF e (p.cps.toList.drop j)).map (ps ++ ·))
    (hlt : pa < dx ∧ AllLt dx (tup ++ news)) (hlt2 : dx < a) (hq : PtIs kd sv (foldP q)) (hjj : j < j') (hj' : j' ≤ p.cps.size) (hi : i = (j' : Int)) (hstep : piecesF e (p.cps.toList.drop j) = (piecesF e (p.cps.toList.drop j')).map (q :: ·))
    (hm : m' = fun y => if y = Str.ofString "at" then some (.int i tb) else if y = Str.ofString "sign" then u else m0 y) :
    p.cps.size - j' < kk ∧ LJ w p e news pa m0 m' ((pa, W.listOf (vs.toArray.push (.ref a)) (k + 1)) :: (a, instObj 78 dx) :: (dx, partDict w t1 t2 t3 t4 (.int kd tk) sv) :: (tup ++ news)) (p.cps.size - j') := by
  subst hi
  refine ⟨hkk ▸ Nat.sub_lt_sub_left (Nat.lt_of_lt_of_le hjj hj') hjj, j', tb, u, vs ++ [.ref a], k + 1, (a, instObj 78 dx) :: (dx, partDict w t1 t2 t3 t4 (.int kd tk) sv) :: tup, ps ++ [q], hm, by rw [List.push_toArray]; rfl, ?_, hj', by rw [List.length_append, List.length_singleton]; exact Nat.le_trans (Nat.succ_le_succ hvl) hjj, rfl, ?_, ?_, ?_⟩
  · rw [List.map_append]; exact pts_snoc hP hq
  · intro r hr
    rcases List.mem_cons.mp hr with rfl | hr
    · exact Ne.symm (Nat.ne_of_lt (Nat.lt_trans hlt.1 hlt2))
    · rcases List.mem_cons.mp hr with rfl | hr
      · exact Ne.symm (Nat.ne_of_lt hlt.1)
      · exact htf r hr
  · intro r hr p hp
    have hb := ktn_ltOf hlt.2 p (List.mem_append.mpr (.inr hp))
    rcases List.mem_cons.mp hr with rfl | hr
    · exact Nat.lt_trans hb hlt2
    · rcases List.mem_cons.mp hr with rfl | hr
      · exact hb
      · exact htn r hr p hp
  · rw [hpf, hstep, Option.map_map]
    congr 1
    funext x
    simp
theorem none_ne {e : Option Nat} {c : Nat} (h : e.isSome = false) : ¬ some c = e := by
  cases e <;> simp_all
theorem lparts_c (w : World) (loose : List Str) (mean : ExcName → Option Value) (mg mb : Str → Option Value) (news : List (Addr × Obj)) (p : Str) (tp : Tok) (e : Option Nat) (te : Tok) (hp : p.cps.size < 100) :
    Con w loose mean mg mb 96 news [.str p tp, escV e te] 6 (fun news' r => (piecesF e p.cps.toList = none ∧ r = .none ∧ news' = news) ∨
      ∃ pa vs k tup ps, piecesF e p.cps.toList = some ps ∧ r = .ref pa ∧ news' = (pa, W.listOf vs.toArray k) :: (tup ++ news) ∧ PtsAre w tup vs (ps.map foldP) ∧ vs.length < 100 ∧ (∀ q ∈ (pa, W.listOf vs.toArray k) :: tup, ∀ p ∈ news, p.1 < q.1)) := by
  unfold Con
  k_fill
  intro dp un gd cn cs ad ccd cl outer A₀ base h₀ L m s Q E B F X N T hk hd1 hu1 hret
  refine wpAny_call ?_
  k_dflt ktr_enter
  k_steps
  unfold Stop
  rename_i pa _ l1 _ _ _ F1 N1
  refine while_my F1 N1 (LJ w p e news pa) (k := p.cps.size) ?_ ?_
  · refine ⟨0, _, _, [], 0, [], [], frab0 _ _ _ _ rfl, rfl, .nil, Nat.zero_le _, Nat.le_refl _, rfl, (fun _ h => by cases h), (fun _ h => by cases h), ?_⟩
    simp
  · clear F1 N1
    rintro m₁ nx kk h tk ⟨j, ta, u, vs, k, tup, ps, rfl, rfl, hP, hj, hvl, hkk, htf, htn, hpf⟩ F1 N1
    dsimp only at F1
    have hsz : vs.toArray.size ≤ sizeLine := size_ok (by omega)
    have hall : ∀ q ∈ tup ++ news, q.1 ≠ pa := by
      intro q hq
      rcases List.mem_append.mp hq with hq | hq
      · exact htf q hq
      · exact Nat.ne_of_lt (l1 q hq)
    refine abs_while fun R Q5 g5 d5 o5 hR hQ => ?_
    rcases Nat.lt_or_ge j p.cps.size with hlt | hge
    · have hc : p.cps[j]? = some p.cps[j] := by simp [hlt]
      generalize p.cps[j] = c at hc
      have hdc := drop_at hc
      have hc2 : j + 1 < p.cps.size → p.cps[j + 1]? = some (p.cps[j + 1]?.getD 0) := fun h => by simp [h]
      generalize p.cps[j + 1]?.getD 0 = c2 at hc2
      k_steps
      · have hdn : p.cps.toList.drop (j + 1) = [] := List.drop_eq_nil_of_le (by rw [Array.length_toList]; omega)
        refine hR _ _ _ ?_
        dsimp only [WhileEnd]
        k_steps
        refine hret _ _ _ _ (by assumption) (tl1 (by assumption)).right (.inl ⟨?_, rfl, rfl⟩)
        rw [hpf, hdc, hdn, piecesF_bad (by assumption)]
        rfl
      · have hlt2 : j + 1 < p.cps.size := by omega
        have hdc2 := drop_at (hc2 hlt2)
        refine hR _ _ _ (WhileEnd.mk (p.cps.size - (j + 2)) (by assumption) (rot3 (by assumption)) ?_)
        exact lj_step (q := .sign c2) (j' := j + 2) hP hj hvl hkk htf htn hpf (by assumption) (by assumption) ⟨rfl, _, by rw [foldS_one]⟩ (Nat.lt_succ_of_lt (Nat.lt_succ_self _)) hlt2 rfl (by rw [hdc, hdc2, piecesF_esc (by assumption)]) (frab2 _ _ _ _ _ _ _ _)
      · refine hR _ _ _ (WhileEnd.mk (p.cps.size - (j + 1)) (by assumption) (rot3 (by assumption)) ?_)
        exact lj_step (q := .any) (j' := j + 1) hP hj hvl hkk htf htn hpf (by assumption) (by assumption) rfl (Nat.lt_succ_self _) hlt rfl (by rw [hdc, piecesF_plain (by assumption), if_pos (by assumption)]) (frab1 _ _ _ _ _ _ _)
      · refine hR _ _ _ (WhileEnd.mk (p.cps.size - (j + 1)) (by assumption) (rot3 (by assumption)) ?_)
        exact lj_step (q := .one) (j' := j + 1) hP hj hvl hkk htf htn hpf (by assumption) (by assumption) rfl (Nat.lt_succ_self _) hlt rfl (by rw [hdc, piecesF_plain (by assumption), if_neg (by assumption), if_pos (by assumption)]) (frab1 _ _ _ _ _ _ _)
      · refine hR _ _ _ (WhileEnd.mk (p.cps.size - (j + 1)) (by assumption) (rot3 (by assumption)) ?_)
        exact lj_step (q := .sign c) (j' := j + 1) hP hj hvl hkk htf htn hpf (by assumption) (by assumption) ⟨rfl, _, by rw [foldS_one]⟩ (Nat.lt_succ_self _) hlt rfl (by rw [hdc, piecesF_plain (by assumption), if_neg (by assumption), if_neg (by assumption)]) (frab1 _ _ _ _ _ _ _)
      · refine hR _ _ _ (WhileEnd.mk (p.cps.size - (j + 1)) (by assumption) (rot3 (by assumption)) ?_)
        exact lj_step (q := .any) (j' := j + 1) hP hj hvl hkk htf htn hpf (by assumption) (by assumption) rfl (Nat.lt_succ_self _) hlt rfl (by rw [hdc, piecesF_plain (none_ne (by assumption)), if_pos (by assumption)]) (frab1 _ _ _ _ _ _ _)
      · refine hR _ _ _ (WhileEnd.mk (p.cps.size - (j + 1)) (by assumption) (rot3 (by assumption)) ?_)
        exact lj_step (q := .one) (j' := j + 1) hP hj hvl hkk htf htn hpf (by assumption) (by assumption) rfl (Nat.lt_succ_self _) hlt rfl (by rw [hdc, piecesF_plain (none_ne (by assumption)), if_neg (by assumption), if_pos (by assumption)]) (frab1 _ _ _ _ _ _ _)
      · refine hR _ _ _ (WhileEnd.mk (p.cps.size - (j + 1)) (by assumption) (rot3 (by assumption)) ?_)
        exact lj_step (q := .sign c) (j' := j + 1) hP hj hvl hkk htf htn hpf (by assumption) (by assumption) ⟨rfl, _, by rw [foldS_one]⟩ (Nat.lt_succ_self _) hlt rfl (by rw [hdc, piecesF_plain (none_ne (by assumption)), if_neg (by assumption), if_neg (by assumption)]) (frab1 _ _ _ _ _ _ _)
    · have hdn : p.cps.toList.drop j = [] := List.drop_eq_nil_of_le (by rw [Array.length_toList]; omega)
      k_steps
      refine hQ _ _ ?_
      k_steps
      refine hret _ _ _ _ (by assumption) (by assumption) (.inr ⟨pa, vs, k, tup, ps, ?_, rfl, rfl, hP, by omega, ?_⟩)
      · rw [hpf, hdn]; simp [piecesF]
      · intro q hq r hr
        rcases List.mem_cons.mp hq with rfl | hq
        · exact l1 r hr
        · exact htn q hq r hr
end LParts
theorem rowsAt18 : True := by
  k_with_none
  (k_with "pick" => first | exact Pick.head | exact Pick.tail (Pick.head) | exact Pick.tail (Pick.tail (Pick.head)) | exact Pick.tail (Pick.tail (Pick.tail (Pick.head))) | exact Pick.tail (Pick.tail (Pick.tail (Pick.tail (Pick.head)))) | exact Pick.tail (Pick.tail (Pick.tail (Pick.tail (Pick.tail (Pick.head))))) | exact Pick.tail (Pick.tail (Pick.tail (Pick.tail (Pick.tail (Pick.tail (Pick.head)))))) | exact Pick.tail (Pick.tail (Pick.tail (Pick.tail (Pick.tail (Pick.tail (Pick.tail (Pick.head))))))) | exact Pick.tail (Pick.tail (Pick.tail (Pick.tail (Pick.tail (Pick.tail (Pick.tail (Pick.tail (Pick.head)))))))) | exact Pick.tail (Pick.tail (Pick.tail (Pick.tail (Pick.tail (Pick.tail (Pick.tail (Pick.tail (Pick.tail (Pick.head))))))))) | exact Pick.tail (Pick.tail (Pick.tail (Pick.tail (Pick.tail (Pick.tail (Pick.tail (Pick.tail (Pick.tail (Pick.tail (Pick.head)))))))))) | exact Pick.tail (Pick.tail (Pick.tail (Pick.tail (Pick.tail (Pick.tail (Pick.tail (Pick.tail (Pick.tail (Pick.tail (Pick.tail (Pick.head))))))))))) | exact Pick.tail (Pick.tail (Pick.tail (Pick.tail (Pick.tail (Pick.tail (Pick.tail (Pick.tail (Pick.tail (Pick.tail (Pick.tail (Pick.tail (Pick.head)))))))))))) | exact Pick.tail (Pick.tail (Pick.tail (Pick.tail (Pick.tail (Pick.tail (Pick.tail (Pick.tail (Pick.tail (Pick.tail (Pick.tail (Pick.tail (Pick.tail (Pick.head))))))))))))) | exact Pick.tail (Pick.tail (Pick.tail (Pick.tail (Pick.tail (Pick.tail (Pick.tail (Pick.tail (Pick.tail (Pick.tail (Pick.tail (Pick.tail (Pick.tail (Pick.tail (Pick.head)))))))))))))) | exact Pick.tail (Pick.tail (Pick.tail (Pick.tail (Pick.tail (Pick.tail (Pick.tail (Pick.tail (Pick.tail (Pick.tail (Pick.tail (Pick.tail (Pick.tail (Pick.tail (Pick.tail (Pick.head))))))))))))))))
  (k_with "room" => first | exact room_m 1 hd1 rfl rfl | exact room_m 2 hd1 rfl rfl | exact room_m 3 hd1 rfl rfl | exact room_0 0 hd1 rfl rfl | exact room_0 1 hd1 rfl rfl | exact room_0 2 hd1 rfl rfl | exact room_0 3 hd1 rfl rfl | (walk_say "ROOM BY OMEGA"; (try simp only [depth_under_make, depth_under_kw, depth_in1, depth_deeper, depth_caller]); (try dsimp only [ktrTop]); omega))
  (k_with "units" => first | exact unit_m 0 hu1 rfl rfl | exact unit_m 3 hu1 rfl rfl | exact unit_m 6 hu1 rfl rfl | exact unit_m 4 hu1 rfl rfl | exact unit_m 7 hu1 rfl rfl | (walk_say "UNITS BY OMEGA"; (try simp only [units_in1, units_deeper, Around.mark_units, units_caller]); (try dsimp only [ktrTop]); omega))
  (k_with "con1" => (refine' Con.use ?k1Qh ?k2Qh ?k3Qh (Pick.news ?kpQh ?k4Qh) ?k5Qh ?kKQh ?kdQh ?kuQh ?kCQh ?_; (case k1Qh => k_asm); (case k2Qh => k_asm); (case k3Qh => k_asm); (case k5Qh => k_asm); (case kKQh => first | exact rfl | assumption); rotate_left))
  (k_with "call builtin:len" => (k_here; (with_reducible show wpAny _ _ (call (Value.builtin _) [Value.ref _]) _ _ _); k_dflt (refine' len_at ?k1Qh ?k2Qh ?k3Qh ?_; (case k1Qh => k_asm); (case k2Qh => k_mem); (case k3Qh => first | assumption | exact lt100 (by assumption) rfl | (simp; done) | omega); k_whole)))
  (k_with "call builtin:str.join" => (k_here; k_dflt (refine' join_at ?k1Qh ?k2Qh ?k3Qh ?k4Qh ?_; (case k1Qh => k_asm); (case k2Qh => k_mem); (case k3Qh => assumption); (case k4Qh => assumption); k_whole); intro _ _))
  (k_with "call builtin:list.append" => (k_here; (with_reducible show wpAny _ _ (call (Value.builtin _) [Value.ref _, _]) _ _ _); k_dflt (refine' append_K ?k1Qh ?k2Qh ?k3Qh ?_ ?zQh; (case k1Qh => k_asm); (case k2Qh => k_asm); (case k3Qh => k_upd); (case zQh => assumption); k_whole); intro _ _ _; (try k_sweep)))
  (k_with "subscriptTail Name Name str int" => (k_here; (with_reducible show wpAny _ _ (subscriptTail _ _ (Value.str _ _) (Value.int (Nat.cast _) _)) _ _ _); k_dflt (refine' str_at0 ?k2Qh ?k3Qh ?_; (case k2Qh => assumption); (case k3Qh => first | exact lt100 (by assumption) rfl | exact lt10 (by assumption) rfl | omega); k_whole)))
  (k_with "subscriptTail Name Name str int" => (k_here; (with_reducible show wpAny _ _ (subscriptTail _ _ (Value.str _ _) (Value.int (_ + 1) _)) _ _ _); k_dflt (refine' str_at1 ?k2Qh ?k3Qh ?_; (case k2Qh => first | assumption | exact hc2 (by omega)); (case k3Qh => first | exact lt100 (by assumption) rfl | exact lt10 (by assumption) rfl | omega); k_whole)))
  (k_with "compareOp Eq str str" => ((with_reducible show wpAny _ _ (compareOp _ (Value.str (Str.mk #[_]) _) (Value.str (Str.mk #[_]) _)) _ _ _); refine eq_cc ?_))
  (k_with "compareOp Eq str str" => ((with_reducible show wpAny _ _ (compareOp _ (Value.str (Str.mk #[_]) _) (Value.str (Str.ofString "%") _)) _ _ _); refine eq_pct ?_))
  (k_with "compareOp Eq str str" => ((with_reducible show wpAny _ _ (compareOp _ (Value.str (Str.mk #[_]) _) (Value.str (Str.ofString "_") _)) _ _ _); refine eq_und ?_))
  (k_with "compareOp Eq str" => ((with_reducible show wpAny _ _ (compareOp _ (Value.str (Str.mk #[_]) _) (escV _ _)) _ _ _); refine eq_ce ?_))
  (k_with "compareOp IsNot" => ((with_reducible show wpAny _ _ (compareOp _ (escV _ _) Value.none) _ _ _); refine isnot_e ?_))
  (k_with "compareOp In str str" => ((with_reducible show wpAny _ _ (compareOp _ (Value.str (Str.mk #[_]) _) (Value.str (Str.ofString "%_") _)) _ _ _); refine in_pu ?_))
  (k_with "call builtin:len" => ((with_reducible show wpAny _ _ (call (Value.builtin _) [Value.str _ _]) _ _ _); refine' len_txt ?k1Qh ?_; (case k1Qh => first | exact lt100 (by assumption) rfl | exact lt10 (by assumption) rfl | omega)))
  (k_with "newTuple" => (k_here; k_dflt (refine' newTuple_my ?k1Qh ?k2Qh ?_ ?zQh; (case k1Qh => k_asm); (case k2Qh => k_asm); (case zQh => exact Nat.le_of_ble_eq_true rfl); k_whole); intro _ _ _ _ l1; (try k_lt l1); revert l1; intro _; (try k_sweep)))
  (k_with "compareOp Eq int int" => (refine eq_ii ?_))
  (k_with "enterC" => (refine' code_defC ?k1Qh ?k2Qh ?k3Qh ?k4Qh ?k5Qh ?kAQh ?kFQh ?kKQh ?k6Qh ?k7Qh ?k8Qh ?k9Qh ?kBQh ?kDQh ?_ ?c2Qh ?c3Qh ?c4Qh; (case kAQh => exact rfl); (case kFQh => exact rfl); (case kKQh => assumption); (case k1Qh => k_asm); (case k2Qh => k_asm); (case k3Qh => k_asm); (case k4Qh => k_asm); (case k5Qh => k_asm); (case k6Qh => k_is); (case k7Qh => k_is); (case k8Qh => walk_at "room"); (case k9Qh => exact BindsTo.of_eq rfl); (case kBQh => exact rfl); (case kDQh => decide +kernel); (case c2Qh => exact rfl); (case c3Qh => exact rfl); (case c4Qh => exact rfl); k_whole; walk_at "tail0"))
  (k_with "eval ListComp" => (k_here; k_dflt (refine LCg.ListComp_U (F₀ := by k_asm) (by rfl) (by decide) (by rfl) (by decide) (by rfl) ?_)))
  (k_with "eval Name" => (k_here; (with_reducible show wpAny _ _ (eval (Expr.Name _ _) (compEnvC _ _ _ _)) _ _ _); k_dflt (refine' ldC ?k1Qh ?k2Qh ?k3Qh ?k4Qh ?_; (case k1Qh => k_asm); (case k2Qh => rfl); (case k3Qh => k_mem); (case k4Qh => k_asm); k_whole)))
  (k_with "CompSrc" => fail "own")
  (k_with "exec While Compare cons nil" => show Mine.Stop _)
  (k_with "exec While BoolOp cons nil" => show Mine.Stop _)
  (k_with "enterD" => (refine' code_def ?k1Qh ?k2Qh ?k3Qh ?k4Qh ?k5Qh ?kAQh ?kFQh ?kKQh ?k6Qh ?k7Qh ?k8Qh ?k9Qh ?kBQh ?_ ?c2Qh ?c3Qh ?c4Qh ?c5Qh; (case kAQh => exact rfl); (case kFQh => exact rfl); (case kKQh => first | exact rfl | assumption); (case k1Qh => k_asm); (case k2Qh => k_asm); (case k3Qh => k_asm); (case k4Qh => k_asm); (case k5Qh => k_asm); (case k6Qh => k_is); (case k7Qh => k_is); (case k8Qh => walk_at "room"); (case k9Qh => first | exact BindsTo.of_eq rfl | exact binds_K (by k_in) rfl (by k_is) rfl rfl rfl | fail "enterD: no rule for these arguments"); (case c5Qh => decide); (case kBQh => exact locs rfl); (case c2Qh => exact rfl); (case c3Qh => exact rfl); (case c4Qh => exact rfl); k_whole; intro _ _ _ _ _ _ _ _ _; (try dsimp only); (try k_fold)))
  (k_with "makeD" => (refine' call_cls ?k1Qh ?k2Qh ?k3Qh ?k4Qh ?k5Qh ?k6Qh ?_; (case k1Qh => k_asm); (case k2Qh => k_asm); (case k3Qh => k_asm); (case k4Qh => k_is); (case k5Qh => k_is); (case k6Qh => k_is); k_whole; intro _ _ _ _ _ l1 l2; (try k_lt l1); (try k_lt2 l2); revert l1 l2; intro _ _; (try k_sweep); walk_at "enterD"))
  (k_with "subscriptTail Name Name ref int" => (k_here; (with_reducible show wpAny _ _ (subscriptTail _ _ (Value.ref _) (Value.int (Nat.cast _) _)) _ _ _); k_dflt (refine' item_nat ?k1Qh ?k2Qh ?k3Qh ?k4Qh ?_; (case k1Qh => k_asm); (case k2Qh => k_mem); (case k3Qh => assumption); (case k4Qh => first | exact lt100 (by assumption) rfl | exact lt10 (by assumption) rfl | omega); k_whole)))
  (k_with "call builtin:len" => ((with_reducible show wpAny _ _ (call (Value.builtin _) [escV _ _]) _ _ _); refine' len_e ?k1Qh ?_; (case k1Qh => assumption)))
  (k_with "sub" => ((repeat' (first | refine List.forall_mem_cons.mpr ⟨?_, ?_⟩ | exact List.mem_cons_self | (refine List.mem_cons_of_mem _ ?_; k_mem) | (exact fun x hx => by k_mem))); done))
  (k_with "ifs" => ((try dsimp only); (repeat (refine Eq.trans (if_neg (by assumption)) ?_)); (repeat (refine Eq.trans ?_ (Eq.symm (if_neg (by assumption))))); exact rfl))
  (k_with "storeName" => dsimp only)
  (k_with "eval Call" => (k_here; (with_reducible show wpAny _ _ (eval (Expr.Call (Expr.Name (Str.ofString "len") _) [Expr.Name _ _] [] _) _) _ _ _); k_dflt (refine' len1 ?FQh ?XQh ?TQh ?eQh ?hvQh ?_; (case FQh => k_asm); (case XQh => k_asm); (case TQh => k_asm); (case eQh => k_is); (case hvQh => rfl); k_whole)))
  (k_with "lt" => first | assumption | exact And.left (by assumption) | exact pj1 (by assumption) | exact pj2 (by assumption) | exact pj3 (by assumption) | exact pj4 (by assumption) | exact pj5 (by assumption) | exact pj6 (by assumption) | exact pj7 (by assumption) | exact Nat.lt_succ_of_lt (And.left (by assumption)) | exact Nat.lt_succ_of_lt (Nat.lt_succ_of_lt (And.left (by assumption))))
  (k_with "call ref" => (k_here; (with_reducible show wpAny _ _ (call (Value.ref 53) _ _) _ _ _); k_dflt (refine' Con.use ?k1Qh ?k2Qh ?k3Qh ?k4Qh ?k5Qh ?kKQh ?kdQh ?kuQh (fold_c _ _ _ _ _ _ _ _ ?ktQh) ?_; (case k1Qh => k_asm); (case k2Qh => k_asm); (case k3Qh => k_asm); (case k4Qh => k_asm); (case k5Qh => k_asm); (case kKQh => first | exact rfl | assumption); (case kdQh => walk_at "room"); (case kuQh => walk_at "units"); (case ktQh => first | assumption | (simp; done) | (show (1:Nat) < 100; decide)); k_whole; rintro _ _ _ _ _ _ ⟨e', _, e2'⟩; subst e' e2'; (try k_sweep))))
  (k_with "call ref" => (k_here; (with_reducible show wpAny _ _ (call (Value.ref 139) _ _) _ _ _); k_dflt (refine' Con.use ?k1Qh ?k2Qh ?k3Qh ?k4Qh ?k5Qh ?kKQh ?kdQh ?kuQh (pieces_c _ _ _ _ _ _ _ _ _ _ ?ktQh) ?_; (case k1Qh => k_asm); (case k2Qh => k_asm); (case k3Qh => k_asm); (case k4Qh => k_asm); (case k5Qh => k_asm); (case kKQh => first | exact rfl | assumption); (case kdQh => walk_at "room"); (case kuQh => walk_at "units"); (case ktQh => first | assumption | omega); k_whole)))
  (k_with "call ref" => (k_here; (with_reducible show wpAny _ _ (call (Value.ref 78) [Value.int _ _] _) _ _ _); k_dflt (refine' part1_u ?k1Qh ?k2Qh ?k3Qh ?k4Qh ?k5Qh ?kKQh ?kdQh ?kuQh ?_; (case k1Qh => k_asm); (case k2Qh => k_asm); (case k3Qh => k_asm); (case k4Qh => k_asm); (case k5Qh => k_asm); (case kKQh => first | exact rfl | assumption); (case kdQh => walk_at "room"); (case kuQh => walk_at "units"); k_whole; intro _ _ _ _ _ _ _ _ _ l1 l2 _; (try k_lt l1); (try k_lt2 l2); revert l1 l2; intro _ _; (try k_sweep))))
  (k_with "call ref" => (k_here; (with_reducible show wpAny _ _ (call (Value.ref 78) [Value.int _ _, Value.str _ _] _) _ _ _); k_dflt (refine' part2_u ?k1Qh ?k2Qh ?k3Qh ?k4Qh ?k5Qh ?kKQh ?kdQh ?kuQh ?_; (case k1Qh => k_asm); (case k2Qh => k_asm); (case k3Qh => k_asm); (case k4Qh => k_asm); (case k5Qh => k_asm); (case kKQh => first | exact rfl | assumption); (case kdQh => walk_at "room"); (case kuQh => walk_at "units"); k_whole; intro _ _ _ _ _ _ _ _ _ l1 l2 _; (try k_lt l1); (try k_lt2 l2); revert l1 l2; intro _ _; (try k_sweep))))
  (k_with "call ref" => (k_here; (with_reducible show wpAny _ _ (call (Value.ref 96) _ _) _ _ _); k_dflt (refine' Con.use ?k1Qh ?k2Qh ?k3Qh ?k4Qh ?k5Qh ?kKQh ?kdQh ?kuQh (lparts_c _ _ _ _ _ _ _ _ _ _ ?ktQh) ?_; (case k1Qh => k_asm); (case k2Qh => k_asm); (case k3Qh => k_asm); (case k4Qh => k_asm); (case k5Qh => k_asm); (case kKQh => first | exact rfl | assumption); (case kdQh => walk_at "room"); (case kuQh => walk_at "units"); (case ktQh => first | assumption | omega); k_whole; rintro _ _ _ _ _ _ (⟨_, e1', e2'⟩ | ⟨_, _, _, _, _, _, e1', e2', _, _, _⟩) <;> (subst e1' e2'; (try k_sweep)))))
  trivial
def eqF (a b : Nat) : Bool := a == b
section Takes
theorem takes_c (w : World) (loose : List Str) (mean : ExcName → Option Value) (mg mb : Str → Option Value) (news : List (Addr × Obj)) (a dx : Addr) (t1 t2 t3 t4 tk : Tok) (kd : Int) (sv : Value) (q : Pc) (d : Nat) (td : Tok)
    (h1 : (a, instObj 78 dx) ∈ news) (h2 : (dx, partDict w t1 t2 t3 t4 (.int kd tk) sv) ∈ news) (h3 : PtIs kd sv q) (h4 : q ≠ .any) :
    Con w loose mean mg mb 75 news [.ref a, .str ⟨#[d]⟩ td] 4 (fun news' r => news' = news ∧ r = .bool (tkF eqF q d)) := by
  unfold Con
  k_fill
  intro dp un gd cn cs ad ccd cl outer A₀ base h₀ L m s Q E B F X N T hk hd1 hu1 hret
  refine wpAny_call ?_
  cases q with
  | any => exact absurd rfl h4
  | one =>
    obtain rfl : kd = 1 := h3
    k_dflt walk_at "enterD"
    k_steps
    exact hret _ _ _ _ (by assumption) (by assumption) ⟨rfl, rfl⟩
  | sign c =>
    obtain ⟨rfl, u, rfl⟩ := h3
    k_dflt walk_at "enterD"
    k_steps
    exact hret _ _ _ _ (by assumption) (by assumption) ⟨rfl, rfl⟩
end Takes
theorem rowsAt19 : True := by
  k_with_none
  (k_with "pick" => first | exact Pick.head | exact Pick.tail (Pick.head) | exact Pick.tail (Pick.tail (Pick.head)) | exact Pick.tail (Pick.tail (Pick.tail (Pick.head))) | exact Pick.tail (Pick.tail (Pick.tail (Pick.tail (Pick.head)))) | exact Pick.tail (Pick.tail (Pick.tail (Pick.tail (Pick.tail (Pick.head))))) | exact Pick.tail (Pick.tail (Pick.tail (Pick.tail (Pick.tail (Pick.tail (Pick.head)))))) | exact Pick.tail (Pick.tail (Pick.tail (Pick.tail (Pick.tail (Pick.tail (Pick.tail (Pick.head))))))) | exact Pick.tail (Pick.tail (Pick.tail (Pick.tail (Pick.tail (Pick.tail (Pick.tail (Pick.tail (Pick.head)))))))) | exact Pick.tail (Pick.tail (Pick.tail (Pick.tail (Pick.tail (Pick.tail (Pick.tail (Pick.tail (Pick.tail (Pick.head))))))))) | exact Pick.tail (Pick.tail (Pick.tail (Pick.tail (Pick.tail (Pick.tail (Pick.tail (Pick.tail (Pick.tail (Pick.tail (Pick.head)))))))))) | exact Pick.tail (Pick.tail (Pick.tail (Pick.tail (Pick.tail (Pick.tail (Pick.tail (Pick.tail (Pick.tail (Pick.tail (Pick.tail (Pick.head))))))))))) | exact Pick.tail (Pick.tail (Pick.tail (Pick.tail (Pick.tail (Pick.tail (Pick.tail (Pick.tail (Pick.tail (Pick.tail (Pick.tail (Pick.tail (Pick.head)))))))))))) | exact Pick.tail (Pick.tail (Pick.tail (Pick.tail (Pick.tail (Pick.tail (Pick.tail (Pick.tail (Pick.tail (Pick.tail (Pick.tail (Pick.tail (Pick.tail (Pick.head))))))))))))) | exact Pick.tail (Pick.tail (Pick.tail (Pick.tail (Pick.tail (Pick.tail (Pick.tail (Pick.tail (Pick.tail (Pick.tail (Pick.tail (Pick.tail (Pick.tail (Pick.tail (Pick.head)))))))))))))) | exact Pick.tail (Pick.tail (Pick.tail (Pick.tail (Pick.tail (Pick.tail (Pick.tail (Pick.tail (Pick.tail (Pick.tail (Pick.tail (Pick.tail (Pick.tail (Pick.tail (Pick.tail (Pick.head))))))))))))))))
  (k_with "room" => first | exact room_m 1 hd1 rfl rfl | exact room_m 2 hd1 rfl rfl | exact room_m 3 hd1 rfl rfl | exact room_0 0 hd1 rfl rfl | exact room_0 1 hd1 rfl rfl | exact room_0 2 hd1 rfl rfl | exact room_0 3 hd1 rfl rfl | (walk_say "ROOM BY OMEGA"; (try simp only [depth_under_make, depth_under_kw, depth_in1, depth_deeper, depth_caller]); (try dsimp only [ktrTop]); omega))
  (k_with "units" => first | exact unit_m 0 hu1 rfl rfl | exact unit_m 3 hu1 rfl rfl | exact unit_m 6 hu1 rfl rfl | exact unit_m 4 hu1 rfl rfl | exact unit_m 7 hu1 rfl rfl | (walk_say "UNITS BY OMEGA"; (try simp only [units_in1, units_deeper, Around.mark_units, units_caller]); (try dsimp only [ktrTop]); omega))
  (k_with "con1" => (refine' Con.use ?k1Qh ?k2Qh ?k3Qh (Pick.news ?kpQh ?k4Qh) ?k5Qh ?kKQh ?kdQh ?kuQh ?kCQh ?_; (case k1Qh => k_asm); (case k2Qh => k_asm); (case k3Qh => k_asm); (case k5Qh => k_asm); (case kKQh => first | exact rfl | assumption); rotate_left))
  (k_with "call builtin:len" => (k_here; (with_reducible show wpAny _ _ (call (Value.builtin _) [Value.ref _]) _ _ _); k_dflt (refine' len_at ?k1Qh ?k2Qh ?k3Qh ?_; (case k1Qh => k_asm); (case k2Qh => k_mem); (case k3Qh => first | assumption | exact lt100 (by assumption) rfl | (simp; done) | omega); k_whole)))
  (k_with "call builtin:str.join" => (k_here; k_dflt (refine' join_at ?k1Qh ?k2Qh ?k3Qh ?k4Qh ?_; (case k1Qh => k_asm); (case k2Qh => k_mem); (case k3Qh => assumption); (case k4Qh => assumption); k_whole); intro _ _))
  (k_with "call builtin:list.append" => (k_here; (with_reducible show wpAny _ _ (call (Value.builtin _) [Value.ref _, _]) _ _ _); k_dflt (refine' append_K ?k1Qh ?k2Qh ?k3Qh ?_ ?zQh; (case k1Qh => k_asm); (case k2Qh => k_asm); (case k3Qh => k_upd); (case zQh => assumption); k_whole); intro _ _ _; (try k_sweep)))
  (k_with "subscriptTail Name Name str int" => (k_here; (with_reducible show wpAny _ _ (subscriptTail _ _ (Value.str _ _) (Value.int (Nat.cast _) _)) _ _ _); k_dflt (refine' str_at0 ?k2Qh ?k3Qh ?_; (case k2Qh => assumption); (case k3Qh => first | exact lt100 (by assumption) rfl | exact lt10 (by assumption) rfl | omega); k_whole)))
  (k_with "subscriptTail Name Name str int" => (k_here; (with_reducible show wpAny _ _ (subscriptTail _ _ (Value.str _ _) (Value.int (_ + 1) _)) _ _ _); k_dflt (refine' str_at1 ?k2Qh ?k3Qh ?_; (case k2Qh => first | assumption | exact hc2 (by omega)); (case k3Qh => first | exact lt100 (by assumption) rfl | exact lt10 (by assumption) rfl | omega); k_whole)))
  (k_with "compareOp Eq str str" => ((with_reducible show wpAny _ _ (compareOp _ (Value.str (Str.mk #[_]) _) (Value.str (Str.mk #[_]) _)) _ _ _); refine eq_cc ?_))
  (k_with "compareOp Eq str str" => ((with_reducible show wpAny _ _ (compareOp _ (Value.str (Str.mk #[_]) _) (Value.str (Str.ofString "%") _)) _ _ _); refine eq_pct ?_))
  (k_with "compareOp Eq str str" => ((with_reducible show wpAny _ _ (compareOp _ (Value.str (Str.mk #[_]) _) (Value.str (Str.ofString "_") _)) _ _ _); refine eq_und ?_))
  (k_with "compareOp Eq str" => ((with_reducible show wpAny _ _ (compareOp _ (Value.str (Str.mk #[_]) _) (escV _ _)) _ _ _); refine eq_ce ?_))
  (k_with "compareOp IsNot" => ((with_reducible show wpAny _ _ (compareOp _ (escV _ _) Value.none) _ _ _); refine isnot_e ?_))
  (k_with "compareOp In str str" => ((with_reducible show wpAny _ _ (compareOp _ (Value.str (Str.mk #[_]) _) (Value.str (Str.ofString "%_") _)) _ _ _); refine in_pu ?_))
  (k_with "call builtin:len" => ((with_reducible show wpAny _ _ (call (Value.builtin _) [Value.str _ _]) _ _ _); refine' len_txt ?k1Qh ?_; (case k1Qh => first | exact lt100 (by assumption) rfl | exact lt10 (by assumption) rfl | omega)))
  (k_with "newTuple" => (k_here; k_dflt (refine' newTuple_my ?k1Qh ?k2Qh ?_ ?zQh; (case k1Qh => k_asm); (case k2Qh => k_asm); (case zQh => exact Nat.le_of_ble_eq_true rfl); k_whole); intro _ _ _ _ l1; (try k_lt l1); revert l1; intro _; (try k_sweep)))
  (k_with "compareOp Eq int int" => (refine eq_ii ?_))
  (k_with "enterC" => (refine' code_defC ?k1Qh ?k2Qh ?k3Qh ?k4Qh ?k5Qh ?kAQh ?kFQh ?kKQh ?k6Qh ?k7Qh ?k8Qh ?k9Qh ?kBQh ?kDQh ?_ ?c2Qh ?c3Qh ?c4Qh; (case kAQh => exact rfl); (case kFQh => exact rfl); (case kKQh => assumption); (case k1Qh => k_asm); (case k2Qh => k_asm); (case k3Qh => k_asm); (case k4Qh => k_asm); (case k5Qh => k_asm); (case k6Qh => k_is); (case k7Qh => k_is); (case k8Qh => walk_at "room"); (case k9Qh => exact BindsTo.of_eq rfl); (case kBQh => exact rfl); (case kDQh => decide +kernel); (case c2Qh => exact rfl); (case c3Qh => exact rfl); (case c4Qh => exact rfl); k_whole; walk_at "tail0"))
  (k_with "eval ListComp" => (k_here; k_dflt (refine LCg.ListComp_U (F₀ := by k_asm) (by rfl) (by decide) (by rfl) (by decide) (by rfl) ?_)))
  (k_with "eval Name" => (k_here; (with_reducible show wpAny _ _ (eval (Expr.Name _ _) (compEnvC _ _ _ _)) _ _ _); k_dflt (refine' ldC ?k1Qh ?k2Qh ?k3Qh ?k4Qh ?_; (case k1Qh => k_asm); (case k2Qh => rfl); (case k3Qh => k_mem); (case k4Qh => k_asm); k_whole)))
  (k_with "CompSrc" => fail "own")
  (k_with "exec While Compare cons nil" => show Mine.Stop _)
  (k_with "exec While BoolOp cons nil" => show Mine.Stop _)
  (k_with "enterD" => (refine' code_def ?k1Qh ?k2Qh ?k3Qh ?k4Qh ?k5Qh ?kAQh ?kFQh ?kKQh ?k6Qh ?k7Qh ?k8Qh ?k9Qh ?kBQh ?_ ?c2Qh ?c3Qh ?c4Qh ?c5Qh; (case kAQh => exact rfl); (case kFQh => exact rfl); (case kKQh => first | exact rfl | assumption); (case k1Qh => k_asm); (case k2Qh => k_asm); (case k3Qh => k_asm); (case k4Qh => k_asm); (case k5Qh => k_asm); (case k6Qh => k_is); (case k7Qh => k_is); (case k8Qh => walk_at "room"); (case k9Qh => first | exact BindsTo.of_eq rfl | exact binds_K (by k_in) rfl (by k_is) rfl rfl rfl | fail "enterD: no rule for these arguments"); (case c5Qh => decide); (case kBQh => exact locs rfl); (case c2Qh => exact rfl); (case c3Qh => exact rfl); (case c4Qh => exact rfl); k_whole; intro _ _ _ _ _ _ _ _ _; (try dsimp only); (try k_fold)))
  (k_with "makeD" => (refine' call_cls ?k1Qh ?k2Qh ?k3Qh ?k4Qh ?k5Qh ?k6Qh ?_; (case k1Qh => k_asm); (case k2Qh => k_asm); (case k3Qh => k_asm); (case k4Qh => k_is); (case k5Qh => k_is); (case k6Qh => k_is); k_whole; intro _ _ _ _ _ l1 l2; (try k_lt l1); (try k_lt2 l2); revert l1 l2; intro _ _; (try k_sweep); walk_at "enterD"))
  (k_with "subscriptTail Name Name ref int" => (k_here; (with_reducible show wpAny _ _ (subscriptTail _ _ (Value.ref _) (Value.int (Nat.cast _) _)) _ _ _); k_dflt (refine' item_nat ?k1Qh ?k2Qh ?k3Qh ?k4Qh ?_; (case k1Qh => k_asm); (case k2Qh => k_mem); (case k3Qh => assumption); (case k4Qh => first | exact lt100 (by assumption) rfl | exact lt10 (by assumption) rfl | omega); k_whole)))
  (k_with "call builtin:len" => ((with_reducible show wpAny _ _ (call (Value.builtin _) [escV _ _]) _ _ _); refine' len_e ?k1Qh ?_; (case k1Qh => assumption)))
  (k_with "sub" => ((repeat' (first | refine List.forall_mem_cons.mpr ⟨?_, ?_⟩ | exact List.mem_cons_self | (refine List.mem_cons_of_mem _ ?_; k_mem) | (exact fun x hx => by k_mem))); done))
  (k_with "ifs" => ((try dsimp only); (repeat (refine Eq.trans (if_neg (by assumption)) ?_)); (repeat (refine Eq.trans ?_ (Eq.symm (if_neg (by assumption))))); exact rfl))
  (k_with "storeName" => dsimp only)
  (k_with "eval Call" => (k_here; (with_reducible show wpAny _ _ (eval (Expr.Call (Expr.Name (Str.ofString "len") _) [Expr.Name _ _] [] _) _) _ _ _); k_dflt (refine' len1 ?FQh ?XQh ?TQh ?eQh ?hvQh ?_; (case FQh => k_asm); (case XQh => k_asm); (case TQh => k_asm); (case eQh => k_is); (case hvQh => rfl); k_whole)))
  (k_with "lt" => first | assumption | exact And.left (by assumption) | exact pj1 (by assumption) | exact pj2 (by assumption) | exact pj3 (by assumption) | exact pj4 (by assumption) | exact pj5 (by assumption) | exact pj6 (by assumption) | exact pj7 (by assumption) | exact Nat.lt_succ_of_lt (And.left (by assumption)) | exact Nat.lt_succ_of_lt (Nat.lt_succ_of_lt (And.left (by assumption))))
  (k_with "call ref" => (k_here; (with_reducible show wpAny _ _ (call (Value.ref 53) _ _) _ _ _); k_dflt (refine' Con.use ?k1Qh ?k2Qh ?k3Qh ?k4Qh ?k5Qh ?kKQh ?kdQh ?kuQh (fold_c _ _ _ _ _ _ _ _ ?ktQh) ?_; (case k1Qh => k_asm); (case k2Qh => k_asm); (case k3Qh => k_asm); (case k4Qh => k_asm); (case k5Qh => k_asm); (case kKQh => first | exact rfl | assumption); (case kdQh => walk_at "room"); (case kuQh => walk_at "units"); (case ktQh => first | assumption | (simp; done) | (show (1:Nat) < 100; decide)); k_whole; rintro _ _ _ _ _ _ ⟨e', _, e2'⟩; subst e' e2'; (try k_sweep))))
  (k_with "call ref" => (k_here; (with_reducible show wpAny _ _ (call (Value.ref 139) _ _) _ _ _); k_dflt (refine' Con.use ?k1Qh ?k2Qh ?k3Qh ?k4Qh ?k5Qh ?kKQh ?kdQh ?kuQh (pieces_c _ _ _ _ _ _ _ _ _ _ ?ktQh) ?_; (case k1Qh => k_asm); (case k2Qh => k_asm); (case k3Qh => k_asm); (case k4Qh => k_asm); (case k5Qh => k_asm); (case kKQh => first | exact rfl | assumption); (case kdQh => walk_at "room"); (case kuQh => walk_at "units"); (case ktQh => first | assumption | omega); k_whole)))
  (k_with "call ref" => (k_here; (with_reducible show wpAny _ _ (call (Value.ref 78) [Value.int _ _] _) _ _ _); k_dflt (refine' part1_u ?k1Qh ?k2Qh ?k3Qh ?k4Qh ?k5Qh ?kKQh ?kdQh ?kuQh ?_; (case k1Qh => k_asm); (case k2Qh => k_asm); (case k3Qh => k_asm); (case k4Qh => k_asm); (case k5Qh => k_asm); (case kKQh => first | exact rfl | assumption); (case kdQh => walk_at "room"); (case kuQh => walk_at "units"); k_whole; intro _ _ _ _ _ _ _ _ _ l1 l2 _; (try k_lt l1); (try k_lt2 l2); revert l1 l2; intro _ _; (try k_sweep))))
  (k_with "call ref" => (k_here; (with_reducible show wpAny _ _ (call (Value.ref 78) [Value.int _ _, Value.str _ _] _) _ _ _); k_dflt (refine' part2_u ?k1Qh ?k2Qh ?k3Qh ?k4Qh ?k5Qh ?kKQh ?kdQh ?kuQh ?_; (case k1Qh => k_asm); (case k2Qh => k_asm); (case k3Qh => k_asm); (case k4Qh => k_asm); (case k5Qh => k_asm); (case kKQh => first | exact rfl | assumption); (case kdQh => walk_at "room"); (case kuQh => walk_at "units"); k_whole; intro _ _ _ _ _ _ _ _ _ l1 l2 _; (try k_lt l1); (try k_lt2 l2); revert l1 l2; intro _ _; (try k_sweep))))
  (k_with "call ref" => (k_here; (with_reducible show wpAny _ _ (call (Value.ref 96) _ _) _ _ _); k_dflt (refine' Con.use ?k1Qh ?k2Qh ?k3Qh ?k4Qh ?k5Qh ?kKQh ?kdQh ?kuQh (lparts_c _ _ _ _ _ _ _ _ _ _ ?ktQh) ?_; (case k1Qh => k_asm); (case k2Qh => k_asm); (case k3Qh => k_asm); (case k4Qh => k_asm); (case k5Qh => k_asm); (case kKQh => first | exact rfl | assumption); (case kdQh => walk_at "room"); (case kuQh => walk_at "units"); (case ktQh => first | assumption | omega); k_whole; rintro _ _ _ _ _ _ (⟨_, e1', e2'⟩ | ⟨_, _, _, _, _, _, e1', e2', _, _, _⟩) <;> (subst e1' e2'; (try k_sweep)))))
  (k_with "call ref" => (k_here; (with_reducible show wpAny _ _ (call (Value.ref 75) _ _) _ _ _); k_dflt (refine' Con.use ?k1Qh ?k2Qh ?k3Qh ?k4Qh ?k5Qh ?kKQh ?kdQh ?kuQh (takes_c _ _ _ _ _ _ _ _ _ _ _ _ _ _ _ _ _ _ ?h1Qh ?h2Qh ?h3Qh ?h4Qh) ?_; (case k1Qh => k_asm); (case k2Qh => k_asm); (case k3Qh => k_asm); (case k4Qh => k_asm); (case k5Qh => k_asm); (case kKQh => first | exact rfl | assumption); (case kdQh => walk_at "room"); (case kuQh => walk_at "units"); (case h1Qh => assumption); (case h2Qh => assumption); (case h3Qh => assumption); (case h4Qh => assumption); k_whole; rintro _ _ _ _ _ _ ⟨e', e2'⟩; subst e' e2'; (try k_sweep))))
  trivial
section Matches
theorem pts_get {w : World} {tup : List (Addr × Obj)} {vs : List Value} {ps : List Pc} (h : PtsAre w tup vs ps) : ∀ {i : Nat} {q : Pc}, ps[i]? = some q → ∃ a dx t1 t2 t3 t4 tk kd sv, vs[i]? = some (.ref a) ∧ (a, instObj 78 dx) ∈ tup ∧ (dx, partDict w t1 t2 t3 t4 (.int kd tk) sv) ∈ tup ∧ PtIs kd sv q := by
  induction h with
  | nil => intro i q hq; simp at hq
  | cons h1 h2 h3 _ ih =>
    intro i q hq
    cases i with
    | zero =>
      obtain rfl : _ = q := by simpa using hq
      exact ⟨_, _, _, _, _, _, _, _, _, rfl, h1, h2, h3⟩
    | succ i => exact ih (by simpa using hq)
theorem pts_mono {w : World} {tup tup' : List (Addr × Obj)} {vs : List Value} {ps : List Pc} (h : PtsAre w tup vs ps) (hs : ∀ p ∈ tup, p ∈ tup') : PtsAre w tup' vs ps := by
  induction h with
  | nil => exact .nil
  | cons h1 h2 h3 _ ih => exact .cons (hs _ h1) (hs _ h2) h3 ih
theorem pts_len {w : World} {tup : List (Addr × Obj)} {vs : List Value} {ps : List Pc} (h : PtsAre w tup vs ps) : vs.length = ps.length := by
  induction h with
  | nil => rfl
  | cons _ _ _ _ ih => rw [List.length_cons, List.length_cons, ih]
/-- the four names of the search -/
def MF (m0 m : Str → Option Value) (place at_ : Nat) (bv : Value) (ba : Int) : Prop :=
  (∃ t, m (Str.ofString "place") = some (.int (place : Int) t)) ∧ (∃ t, m (Str.ofString "at") = some (.int (at_ : Int) t)) ∧ m (Str.ofString "back_place") = some bv ∧ (∃ t, m (Str.ofString "back_at") = some (.int ba t)) ∧
    ∀ y, y ≠ Str.ofString "place" → y ≠ Str.ofString "at" → y ≠ Str.ofString "back_place" → y ≠ Str.ofString "back_at" → m y = m0 y
theorem MF.eq {m0 m : Str → Option Value} {place at_ : Nat} {bv : Value} {ba : Int} (h : MF m0 m place at_ bv ba) : ∃ t1 t2 t4, m = fun y => if y = Str.ofString "place" then some (.int (place : Int) t1) else if y = Str.ofString "at" then some (.int (at_ : Int) t2) else if y = Str.ofString "back_place" then some bv else if y = Str.ofString "back_at" then some (.int ba t4) else m0 y := by
  obtain ⟨⟨t1, e1⟩, ⟨t2, e2⟩, e3, ⟨t4, e4⟩, e5⟩ := h
  refine ⟨t1, t2, t4, ?_⟩
  funext y
  by_cases h1 : y = Str.ofString "place"
  · rw [if_pos h1, h1, e1]
  · rw [if_neg h1]
    by_cases h2 : y = Str.ofString "at"
    · rw [if_pos h2, h2, e2]
    · rw [if_neg h2]
      by_cases h3 : y = Str.ofString "back_place"
      · rw [if_pos h3, h3, e3]
      · rw [if_neg h3]
        by_cases h4 : y = Str.ofString "back_at"
        · rw [if_pos h4, h4, e4]
        · rw [if_neg h4]; exact e5 y h1 h2 h3 h4
def backV : Option (Nat × Nat) → Value → Prop
  | none, v => v = .none
  | some (bp, _), v => ∃ t, v = .int (bp : Int) t
def GJ (news : List (Addr × Obj)) (ps : List Pc) (t : List Nat) (m0 m : Str → Option Value) (nx : List (Addr × Obj)) (kk : Nat) : Prop :=
  nx = news ∧ ∃ place at_ back bv, MF m0 m place at_ bv ((back.map (·.2)).getD 0 : Nat) ∧ backV back bv ∧ place ≤ ps.length ∧ at_ ≤ t.length ∧ GInv eqF ps t place at_ back ∧ kk = gm ps.length t.length place at_ ((back.map (·.1)).getD 0) ((back.map (·.2)).getD 0)
theorem matches_c (w : World) (loose : List Str) (mean : ExcName → Option Value) (mg mb : Str → Option Value) (news : List (Addr × Obj)) (pa : Addr) (vs : List Value) (k : Nat) (ps : List Pc) (t : Str) (tt : Tok)
    (hm : (pa, W.listOf vs.toArray k) ∈ news) (hP : PtsAre w news vs ps) (hl : vs.length < 100) (ht : t.cps.size < 100) :
    Con w loose mean mg mb 89 news [.ref pa, .str t tt] 6 (fun news' r => news' = news ∧ r = .bool (Mt eqF ps t.cps.toList)) := by
  have hpl := pts_len hP
  have hzs : vs.toArray.size < 1000000 := by rw [List.size_toArray]; exact lt100 (by assumption) rfl
  unfold Con
  k_fill
  intro dp un gd cn cs ad ccd cl outer A₀ base h₀ L m s Q E B F X N T hk hd1 hu1 hret
  refine wpAny_call ?_
  k_dflt ktr_enter
  k_steps
  unfold Stop
  rename Fr _ _ _ _ => F1
  rename News _ _ _ _ => N1
  refine while_my F1 N1 (GJ news ps t.cps.toList) (k := gm ps.length t.cps.toList.length 0 0 0 0) ?_ ?_
  · exact ⟨rfl, 0, 0, none, .none, ⟨⟨_, rfl⟩, ⟨_, rfl⟩, rfl, ⟨_, rfl⟩, fun y _ _ _ _ => rfl⟩, rfl, Nat.zero_le _, Nat.zero_le _, ginv_start, rfl⟩
  · clear F1 N1
    rintro m₁ nx kk h tk ⟨rfl, place, at_, back, bv, hMF, hbv, hpl2, hat, hG, hkk⟩ F1 N1
    obtain ⟨u1, u2, u4, rfl⟩ := hMF.eq
    dsimp only at F1
    have hz2 : t.cps.size = t.cps.toList.length := by simp
    refine abs_while fun R Q5 g5 d5 o5 hR hQ => ?_
    rcases Nat.lt_or_ge at_ t.cps.size with hlt | hge
    · have hc : t.cps[at_]? = some t.cps[at_] := by simp [hlt]
      generalize t.cps[at_] = c at hc
      have hta : at_ + 1 ≤ t.cps.toList.length := hz2 ▸ hlt
      have htb : at_ < t.cps.toList.length + 1 := Nat.lt_succ_of_lt hta
      rcases Nat.lt_or_ge place vs.length with hp1 | hp1
      · have hpa : place + 1 ≤ ps.length := hpl ▸ hp1
        obtain ⟨q, hq⟩ : ∃ q, ps[place]? = some q := ⟨_, List.getElem?_eq_getElem (by first | assumption | omega)⟩
        obtain ⟨a, dx, t1, t2, t3, t4, tk, kd, sv, hv, hi, hdx, hpt⟩ := pts_get hP hq
        cases q with
        | any =>
          obtain rfl : kd = 0 := hpt
          k_steps
          refine hR _ _ _ (WhileEnd.mk (gm ps.length t.cps.toList.length (place + 1) at_ (place + 1) at_) (by assumption) (by assumption) ⟨?_, rfl, place + 1, at_, some (place + 1, at_), _, ⟨⟨_, rfl⟩, ⟨_, rfl⟩, rfl, ⟨_, rfl⟩, fun y h1 h2 h3 h4 => by walk_at "ifs"⟩, ⟨_, rfl⟩, by first | assumption | omega, hat, ginv_any hG hq hat, rfl⟩)
          rw [hkk]
          cases back with
          | none => exact gm_any (Nat.succ_pos _) (by first | assumption | omega)
          | some b => exact gm_any (Nat.lt_succ_of_le (back_le hG).1) (by first | assumption | omega)
        | one =>
          obtain rfl : kd = 1 := hpt
          have hne : (Pc.one) ≠ .any := by simp
          have hpt2 : PtIs 1 sv .one := rfl
          k_steps
          · refine hR _ _ _ (WhileEnd.mk (gm ps.length t.cps.toList.length (place + 1) (at_ + 1) ((back.map (·.1)).getD 0) ((back.map (·.2)).getD 0)) (by assumption) (by assumption) ⟨?_, rfl, place + 1, at_ + 1, back, bv, ⟨⟨_, rfl⟩, ⟨_, rfl⟩, rfl, ⟨_, rfl⟩, fun y h1 h2 h3 h4 => by walk_at "ifs"⟩, hbv, by first | assumption | omega, by first | assumption | omega, ginv_take hG hq hne (by simpa using hc) rfl, rfl⟩)
            rw [hkk]; exact gm_take (by first | assumption | omega)
          all_goals (exfalso; with_reducible rename (tkF _ Pc.one _ = _) => h9; simp [tkF] at h9)
        | sign cc =>
          have hpt2 := hpt
          obtain ⟨rfl, us, rfl⟩ := hpt
          have hne : (Pc.sign cc) ≠ .any := by simp
          k_steps
          · refine hR _ _ _ (WhileEnd.mk (gm ps.length t.cps.toList.length (place + 1) (at_ + 1) ((back.map (·.1)).getD 0) ((back.map (·.2)).getD 0)) (by assumption) (by assumption) ⟨?_, rfl, place + 1, at_ + 1, back, bv, ⟨⟨_, rfl⟩, ⟨_, rfl⟩, rfl, ⟨_, rfl⟩, fun y h1 h2 h3 h4 => by walk_at "ifs"⟩, hbv, by first | assumption | omega, by first | assumption | omega, ginv_take hG hq hne (by simpa using hc) (by assumption), rfl⟩)
            rw [hkk]; exact gm_take (by first | assumption | omega)
          · with_reducible rename (tkF _ (Pc.sign _) _ = false) => h9
            cases back with
            | none =>
              obtain rfl : bv = .none := hbv
              k_steps
              refine hR _ _ _ ?_
              dsimp only [WhileEnd]
              k_steps
              rw [← ginv_none hG (.inr ⟨_, _, hq, hne, by simpa using hc, h9⟩) (by first | assumption | omega)]
              exact hret _ _ _ _ (by assumption) (by assumption) ⟨rfl, rfl⟩
            | some b =>
              obtain ⟨bp, ba⟩ := b
              obtain ⟨tb, rfl⟩ := hbv
              have hbl := back_le hG
              have hb1 : bp ≤ ps.length := Nat.le_trans hbl.1 hpl2
              have hb2 : ba + 1 ≤ t.cps.toList.length := Nat.le_trans (Nat.succ_le_succ hbl.2) hta
              have hb3 : ba < t.cps.toList.length + 1 := Nat.lt_succ_of_lt hb2
              k_steps
              refine hR _ _ _ (WhileEnd.mk (gm ps.length t.cps.toList.length bp (ba + 1) bp (ba + 1)) (by assumption) (by assumption) ⟨?_, rfl, bp, ba + 1, some (bp, ba + 1), _, ⟨⟨_, rfl⟩, ⟨_, rfl⟩, rfl, ⟨_, rfl⟩, fun y h1 h2 h3 h4 => by walk_at "ifs"⟩, ⟨_, rfl⟩, by first | assumption | omega, by first | assumption | omega, ginv_back hG (.inr ⟨_, _, hq, hne, by simpa using hc, h9⟩) (by first | assumption | omega), rfl⟩)
              rw [hkk]; exact gm_back (by first | assumption | omega)
      · have hpe : ps.length ≤ place := hpl ▸ hp1
        k_steps
        cases back with
        | none =>
          obtain rfl : bv = .none := hbv
          k_steps
          refine hR _ _ _ ?_
          dsimp only [WhileEnd]
          k_steps
          rw [← ginv_none hG (.inl (by first | assumption | omega)) (by first | assumption | omega)]
          exact hret _ _ _ _ (by assumption) (by assumption) ⟨rfl, rfl⟩
        | some b =>
          obtain ⟨bp, ba⟩ := b
          obtain ⟨tb, rfl⟩ := hbv
          have hbl := back_le hG
          have hb1 : bp ≤ ps.length := Nat.le_trans hbl.1 hpl2
          have hb2 : ba + 1 ≤ t.cps.toList.length := Nat.le_trans (Nat.succ_le_succ hbl.2) hta
          have hb3 : ba < t.cps.toList.length + 1 := Nat.lt_succ_of_lt hb2
          k_steps
          refine hR _ _ _ (WhileEnd.mk (gm ps.length t.cps.toList.length bp (ba + 1) bp (ba + 1)) (by assumption) (by assumption) ⟨?_, rfl, bp, ba + 1, some (bp, ba + 1), _, ⟨⟨_, rfl⟩, ⟨_, rfl⟩, rfl, ⟨_, rfl⟩, fun y h1 h2 h3 h4 => by walk_at "ifs"⟩, ⟨_, rfl⟩, by first | assumption | omega, by first | assumption | omega, ginv_back hG (.inl (by first | assumption | omega)) (by first | assumption | omega), rfl⟩)
          rw [hkk]; exact gm_back (by first | assumption | omega)
    · have hend := ginv_end hG (Nat.le_antisymm hat (hz2 ▸ hge))
      k_steps
      refine hQ _ _ ?_
      k_steps
      unfold Stop
      rename Fr _ _ _ _ => F3
      rename News _ _ _ _ => N3
      refine while_my F3 N3 (fun m0 m nx9 kk => nx9 = nx ∧ ∃ pl tp, (m = fun y => if y = Str.ofString "place" then some (.int ((pl : Nat) : Int) tp) else m0 y) ∧ pl ≤ ps.length ∧ Mt eqF ps t.cps.toList = Mt eqF (ps.drop pl) [] ∧ kk = ps.length - pl) (k := ps.length - place) ?_ ?_
      · exact ⟨rfl, place, _, fr3 _ _ _ rfl, hpl2, hend, rfl⟩
      · skip
        rintro m₂ nx9 kk9 h9 tk9 ⟨rfl, pl, tp, rfl, hpl9, hM, hkk9⟩ F4 N4
        try dsimp only at F4
        refine abs_while fun R Q5 g5 d5 o5 hR hQ => ?_
        rcases Nat.lt_or_ge pl vs.length with hp1 | hp1
        · have hpa : pl + 1 ≤ ps.length := hpl ▸ hp1
          have hne9 : ¬ ((pl : Int) = (vs.length : Int)) := fun e => Nat.ne_of_lt hp1 (Int.ofNat.inj e)
          obtain ⟨q, hq⟩ : ∃ q, ps[pl]? = some q := ⟨_, List.getElem?_eq_getElem (by first | assumption | omega)⟩
          obtain ⟨a, dx, t1, t2, t3, t4, tk, kd, sv, hv, hi, hdx, hpt⟩ := pts_get hP hq
          cases q with
          | any =>
            obtain rfl : kd = 0 := hpt
            k_steps
            refine hR _ _ _ (WhileEnd.mk (ps.length - (pl + 1)) (by assumption) (by assumption) ⟨by rw [hkk9]; exact Nat.sub_succ_lt_self _ _ hpa, rfl, pl + 1, _, fr1 _ _ _ _, by first | assumption | omega, ?_, rfl⟩)
            rw [hM, drop_of hq, Mt_any_nil]
          | one =>
            obtain rfl : kd = 1 := hpt
            k_steps
            refine hQ _ _ ?_
            k_steps
            refine hret _ _ _ _ (by assumption) (by assumption) ⟨rfl, ?_⟩
            rw [hM, drop_of hq, Mt_cons_nil (by simp), List.size_toArray, decide_eq_false (by first | assumption | omega)]
          | sign cc =>
            obtain ⟨rfl, us, rfl⟩ := hpt
            k_steps
            refine hQ _ _ ?_
            k_steps
            refine hret _ _ _ _ (by assumption) (by assumption) ⟨rfl, ?_⟩
            rw [hM, drop_of hq, Mt_cons_nil (by simp), List.size_toArray, decide_eq_false (by first | assumption | omega)]
        · have hpe : ps.length ≤ pl := hpl ▸ hp1
          have hpi : (pl : Int) = (vs.length : Int) := congrArg Int.ofNat (Nat.le_antisymm (hpl ▸ hpl9) hp1)
          k_steps
          refine hQ _ _ ?_
          k_steps
          refine hret _ _ _ _ (by assumption) (by assumption) ⟨rfl, ?_⟩
          rw [hM, List.drop_eq_nil_of_le (by first | assumption | omega), Mt_nil, List.size_toArray, decide_eq_true (by first | assumption | omega)]
          rfl
end Matches
theorem rowsAt20 : True := by
  k_with_none
  (k_with "pick" => first | exact Pick.head | exact Pick.tail (Pick.head) | exact Pick.tail (Pick.tail (Pick.head)) | exact Pick.tail (Pick.tail (Pick.tail (Pick.head))) | exact Pick.tail (Pick.tail (Pick.tail (Pick.tail (Pick.head)))) | exact Pick.tail (Pick.tail (Pick.tail (Pick.tail (Pick.tail (Pick.head))))) | exact Pick.tail (Pick.tail (Pick.tail (Pick.tail (Pick.tail (Pick.tail (Pick.head)))))) | exact Pick.tail (Pick.tail (Pick.tail (Pick.tail (Pick.tail (Pick.tail (Pick.tail (Pick.head))))))) | exact Pick.tail (Pick.tail (Pick.tail (Pick.tail (Pick.tail (Pick.tail (Pick.tail (Pick.tail (Pick.head)))))))) | exact Pick.tail (Pick.tail (Pick.tail (Pick.tail (Pick.tail (Pick.tail (Pick.tail (Pick.tail (Pick.tail (Pick.head))))))))) | exact Pick.tail (Pick.tail (Pick.tail (Pick.tail (Pick.tail (Pick.tail (Pick.tail (Pick.tail (Pick.tail (Pick.tail (Pick.head)))))))))) | exact Pick.tail (Pick.tail (Pick.tail (Pick.tail (Pick.tail (Pick.tail (Pick.tail (Pick.tail (Pick.tail (Pick.tail (Pick.tail (Pick.head))))))))))) | exact Pick.tail (Pick.tail (Pick.tail (Pick.tail (Pick.tail (Pick.tail (Pick.tail (Pick.tail (Pick.tail (Pick.tail (Pick.tail (Pick.tail (Pick.head)))))))))))) | exact Pick.tail (Pick.tail (Pick.tail (Pick.tail (Pick.tail (Pick.tail (Pick.tail (Pick.tail (Pick.tail (Pick.tail (Pick.tail (Pick.tail (Pick.tail (Pick.head))))))))))))) | exact Pick.tail (Pick.tail (Pick.tail (Pick.tail (Pick.tail (Pick.tail (Pick.tail (Pick.tail (Pick.tail (Pick.tail (Pick.tail (Pick.tail (Pick.tail (Pick.tail (Pick.head)))))))))))))) | exact Pick.tail (Pick.tail (Pick.tail (Pick.tail (Pick.tail (Pick.tail (Pick.tail (Pick.tail (Pick.tail (Pick.tail (Pick.tail (Pick.tail (Pick.tail (Pick.tail (Pick.tail (Pick.head))))))))))))))))
  (k_with "room" => first | exact room_m 1 hd1 rfl rfl | exact room_m 2 hd1 rfl rfl | exact room_m 3 hd1 rfl rfl | exact room_0 0 hd1 rfl rfl | exact room_0 1 hd1 rfl rfl | exact room_0 2 hd1 rfl rfl | exact room_0 3 hd1 rfl rfl | (walk_say "ROOM BY OMEGA"; (try simp only [depth_under_make, depth_under_kw, depth_in1, depth_deeper, depth_caller]); (try dsimp only [ktrTop]); omega))
  (k_with "units" => first | exact unit_m 0 hu1 rfl rfl | exact unit_m 3 hu1 rfl rfl | exact unit_m 6 hu1 rfl rfl | exact unit_m 4 hu1 rfl rfl | exact unit_m 7 hu1 rfl rfl | (walk_say "UNITS BY OMEGA"; (try simp only [units_in1, units_deeper, Around.mark_units, units_caller]); (try dsimp only [ktrTop]); omega))
  (k_with "con1" => (refine' Con.use ?k1Qh ?k2Qh ?k3Qh (Pick.news ?kpQh ?k4Qh) ?k5Qh ?kKQh ?kdQh ?kuQh ?kCQh ?_; (case k1Qh => k_asm); (case k2Qh => k_asm); (case k3Qh => k_asm); (case k5Qh => k_asm); (case kKQh => first | exact rfl | assumption); rotate_left))
  (k_with "call builtin:len" => (k_here; (with_reducible show wpAny _ _ (call (Value.builtin _) [Value.ref _]) _ _ _); k_dflt (refine' len_at ?k1Qh ?k2Qh ?k3Qh ?_; (case k1Qh => k_asm); (case k2Qh => k_mem); (case k3Qh => first | assumption | exact lt100 (by assumption) rfl | (simp; done) | omega); k_whole)))
  (k_with "call builtin:str.join" => (k_here; k_dflt (refine' join_at ?k1Qh ?k2Qh ?k3Qh ?k4Qh ?_; (case k1Qh => k_asm); (case k2Qh => k_mem); (case k3Qh => assumption); (case k4Qh => assumption); k_whole); intro _ _))
  (k_with "call builtin:list.append" => (k_here; (with_reducible show wpAny _ _ (call (Value.builtin _) [Value.ref _, _]) _ _ _); k_dflt (refine' append_K ?k1Qh ?k2Qh ?k3Qh ?_ ?zQh; (case k1Qh => k_asm); (case k2Qh => k_asm); (case k3Qh => k_upd); (case zQh => assumption); k_whole); intro _ _ _; (try k_sweep)))
  (k_with "subscriptTail Name Name str int" => (k_here; (with_reducible show wpAny _ _ (subscriptTail _ _ (Value.str _ _) (Value.int (Nat.cast _) _)) _ _ _); k_dflt (refine' str_at0 ?k2Qh ?k3Qh ?_; (case k2Qh => assumption); (case k3Qh => first | exact lt100 (by assumption) rfl | exact lt10 (by assumption) rfl | omega); k_whole)))
  (k_with "subscriptTail Name Name str int" => (k_here; (with_reducible show wpAny _ _ (subscriptTail _ _ (Value.str _ _) (Value.int (_ + 1) _)) _ _ _); k_dflt (refine' str_at1 ?k2Qh ?k3Qh ?_; (case k2Qh => first | assumption | exact hc2 (by omega)); (case k3Qh => first | exact lt100 (by assumption) rfl | exact lt10 (by assumption) rfl | omega); k_whole)))
  (k_with "compareOp Eq str str" => ((with_reducible show wpAny _ _ (compareOp _ (Value.str (Str.mk #[_]) _) (Value.str (Str.mk #[_]) _)) _ _ _); refine eq_cc ?_))
  (k_with "compareOp Eq str str" => ((with_reducible show wpAny _ _ (compareOp _ (Value.str (Str.mk #[_]) _) (Value.str (Str.ofString "%") _)) _ _ _); refine eq_pct ?_))
  (k_with "compareOp Eq str str" => ((with_reducible show wpAny _ _ (compareOp _ (Value.str (Str.mk #[_]) _) (Value.str (Str.ofString "_") _)) _ _ _); refine eq_und ?_))
  (k_with "compareOp Eq str" => ((with_reducible show wpAny _ _ (compareOp _ (Value.str (Str.mk #[_]) _) (escV _ _)) _ _ _); refine eq_ce ?_))
  (k_with "compareOp IsNot" => ((with_reducible show wpAny _ _ (compareOp _ (escV _ _) Value.none) _ _ _); refine isnot_e ?_))
  (k_with "compareOp In str str" => ((with_reducible show wpAny _ _ (compareOp _ (Value.str (Str.mk #[_]) _) (Value.str (Str.ofString "%_") _)) _ _ _); refine in_pu ?_))
  (k_with "call builtin:len" => ((with_reducible show wpAny _ _ (call (Value.builtin _) [Value.str _ _]) _ _ _); refine' len_txt ?k1Qh ?_; (case k1Qh => first | exact lt100 (by assumption) rfl | exact lt10 (by assumption) rfl | omega)))
  (k_with "newTuple" => (k_here; k_dflt (refine' newTuple_my ?k1Qh ?k2Qh ?_ ?zQh; (case k1Qh => k_asm); (case k2Qh => k_asm); (case zQh => exact Nat.le_of_ble_eq_true rfl); k_whole); intro _ _ _ _ l1; (try k_lt l1); revert l1; intro _; (try k_sweep)))
  (k_with "compareOp Eq int int" => (refine eq_ii ?_))
  (k_with "enterC" => (refine' code_defC ?k1Qh ?k2Qh ?k3Qh ?k4Qh ?k5Qh ?kAQh ?kFQh ?kKQh ?k6Qh ?k7Qh ?k8Qh ?k9Qh ?kBQh ?kDQh ?_ ?c2Qh ?c3Qh ?c4Qh; (case kAQh => exact rfl); (case kFQh => exact rfl); (case kKQh => assumption); (case k1Qh => k_asm); (case k2Qh => k_asm); (case k3Qh => k_asm); (case k4Qh => k_asm); (case k5Qh => k_asm); (case k6Qh => k_is); (case k7Qh => k_is); (case k8Qh => walk_at "room"); (case k9Qh => exact BindsTo.of_eq rfl); (case kBQh => exact rfl); (case kDQh => decide +kernel); (case c2Qh => exact rfl); (case c3Qh => exact rfl); (case c4Qh => exact rfl); k_whole; walk_at "tail0"))
  (k_with "eval ListComp" => (k_here; k_dflt (refine LCg.ListComp_U (F₀ := by k_asm) (by rfl) (by decide) (by rfl) (by decide) (by rfl) ?_)))
  (k_with "eval Name" => (k_here; (with_reducible show wpAny _ _ (eval (Expr.Name _ _) (compEnvC _ _ _ _)) _ _ _); k_dflt (refine' ldC ?k1Qh ?k2Qh ?k3Qh ?k4Qh ?_; (case k1Qh => k_asm); (case k2Qh => rfl); (case k3Qh => k_mem); (case k4Qh => k_asm); k_whole)))
  (k_with "CompSrc" => fail "own")
  (k_with "exec While Compare cons nil" => show Mine.Stop _)
  (k_with "exec While BoolOp cons nil" => show Mine.Stop _)
  (k_with "enterD" => (refine' code_def ?k1Qh ?k2Qh ?k3Qh ?k4Qh ?k5Qh ?kAQh ?kFQh ?kKQh ?k6Qh ?k7Qh ?k8Qh ?k9Qh ?kBQh ?_ ?c2Qh ?c3Qh ?c4Qh ?c5Qh; (case kAQh => exact rfl); (case kFQh => exact rfl); (case kKQh => first | exact rfl | assumption); (case k1Qh => k_asm); (case k2Qh => k_asm); (case k3Qh => k_asm); (case k4Qh => k_asm); (case k5Qh => k_asm); (case k6Qh => k_is); (case k7Qh => k_is); (case k8Qh => walk_at "room"); (case k9Qh => first | exact BindsTo.of_eq rfl | exact binds_K (by k_in) rfl (by k_is) rfl rfl rfl | fail "enterD: no rule for these arguments"); (case c5Qh => decide); (case kBQh => exact locs rfl); (case c2Qh => exact rfl); (case c3Qh => exact rfl); (case c4Qh => exact rfl); k_whole; intro _ _ _ _ _ _ _ _ _; (try dsimp only); (try k_fold)))
  (k_with "makeD" => (refine' call_cls ?k1Qh ?k2Qh ?k3Qh ?k4Qh ?k5Qh ?k6Qh ?_; (case k1Qh => k_asm); (case k2Qh => k_asm); (case k3Qh => k_asm); (case k4Qh => k_is); (case k5Qh => k_is); (case k6Qh => k_is); k_whole; intro _ _ _ _ _ l1 l2; (try k_lt l1); (try k_lt2 l2); revert l1 l2; intro _ _; (try k_sweep); walk_at "enterD"))
  (k_with "subscriptTail Name Name ref int" => (k_here; (with_reducible show wpAny _ _ (subscriptTail _ _ (Value.ref _) (Value.int (Nat.cast _) _)) _ _ _); k_dflt (refine' item_nat ?k1Qh ?k2Qh ?k3Qh ?k4Qh ?_; (case k1Qh => k_asm); (case k2Qh => k_mem); (case k3Qh => assumption); (case k4Qh => first | exact lt100 (by assumption) rfl | exact lt10 (by assumption) rfl | omega); k_whole)))
  (k_with "call builtin:len" => ((with_reducible show wpAny _ _ (call (Value.builtin _) [escV _ _]) _ _ _); refine' len_e ?k1Qh ?_; (case k1Qh => assumption)))
  (k_with "sub" => ((repeat' (first | refine List.forall_mem_cons.mpr ⟨?_, ?_⟩ | exact List.mem_cons_self | (refine List.mem_cons_of_mem _ ?_; k_mem) | (exact fun x hx => by k_mem))); done))
  (k_with "ifs" => ((try dsimp only); (repeat (refine Eq.trans (if_neg (by assumption)) ?_)); (repeat (refine Eq.trans ?_ (Eq.symm (if_neg (by assumption))))); exact rfl))
  (k_with "storeName" => dsimp only)
  (k_with "eval Call" => (k_here; (with_reducible show wpAny _ _ (eval (Expr.Call (Expr.Name (Str.ofString "len") _) [Expr.Name _ _] [] _) _) _ _ _); k_dflt (refine' len1 ?FQh ?XQh ?TQh ?eQh ?hvQh ?_; (case FQh => k_asm); (case XQh => k_asm); (case TQh => k_asm); (case eQh => k_is); (case hvQh => rfl); k_whole)))
  (k_with "lt" => first | assumption | exact And.left (by assumption) | exact pj1 (by assumption) | exact pj2 (by assumption) | exact pj3 (by assumption) | exact pj4 (by assumption) | exact pj5 (by assumption) | exact pj6 (by assumption) | exact pj7 (by assumption) | exact Nat.lt_succ_of_lt (And.left (by assumption)) | exact Nat.lt_succ_of_lt (Nat.lt_succ_of_lt (And.left (by assumption))))
  (k_with "call ref" => (k_here; (with_reducible show wpAny _ _ (call (Value.ref 53) _ _) _ _ _); k_dflt (refine' Con.use ?k1Qh ?k2Qh ?k3Qh ?k4Qh ?k5Qh ?kKQh ?kdQh ?kuQh (fold_c _ _ _ _ _ _ _ _ ?ktQh) ?_; (case k1Qh => k_asm); (case k2Qh => k_asm); (case k3Qh => k_asm); (case k4Qh => k_asm); (case k5Qh => k_asm); (case kKQh => first | exact rfl | assumption); (case kdQh => walk_at "room"); (case kuQh => walk_at "units"); (case ktQh => first | assumption | (simp; done) | (show (1:Nat) < 100; decide)); k_whole; rintro _ _ _ _ _ _ ⟨e', _, e2'⟩; subst e' e2'; (try k_sweep))))
  (k_with "call ref" => (k_here; (with_reducible show wpAny _ _ (call (Value.ref 139) _ _) _ _ _); k_dflt (refine' Con.use ?k1Qh ?k2Qh ?k3Qh ?k4Qh ?k5Qh ?kKQh ?kdQh ?kuQh (pieces_c _ _ _ _ _ _ _ _ _ _ ?ktQh) ?_; (case k1Qh => k_asm); (case k2Qh => k_asm); (case k3Qh => k_asm); (case k4Qh => k_asm); (case k5Qh => k_asm); (case kKQh => first | exact rfl | assumption); (case kdQh => walk_at "room"); (case kuQh => walk_at "units"); (case ktQh => first | assumption | omega); k_whole)))
  (k_with "call ref" => (k_here; (with_reducible show wpAny _ _ (call (Value.ref 78) [Value.int _ _] _) _ _ _); k_dflt (refine' part1_u ?k1Qh ?k2Qh ?k3Qh ?k4Qh ?k5Qh ?kKQh ?kdQh ?kuQh ?_; (case k1Qh => k_asm); (case k2Qh => k_asm); (case k3Qh => k_asm); (case k4Qh => k_asm); (case k5Qh => k_asm); (case kKQh => first | exact rfl | assumption); (case kdQh => walk_at "room"); (case kuQh => walk_at "units"); k_whole; intro _ _ _ _ _ _ _ _ _ l1 l2 _; (try k_lt l1); (try k_lt2 l2); revert l1 l2; intro _ _; (try k_sweep))))
  (k_with "call ref" => (k_here; (with_reducible show wpAny _ _ (call (Value.ref 78) [Value.int _ _, Value.str _ _] _) _ _ _); k_dflt (refine' part2_u ?k1Qh ?k2Qh ?k3Qh ?k4Qh ?k5Qh ?kKQh ?kdQh ?kuQh ?_; (case k1Qh => k_asm); (case k2Qh => k_asm); (case k3Qh => k_asm); (case k4Qh => k_asm); (case k5Qh => k_asm); (case kKQh => first | exact rfl | assumption); (case kdQh => walk_at "room"); (case kuQh => walk_at "units"); k_whole; intro _ _ _ _ _ _ _ _ _ l1 l2 _; (try k_lt l1); (try k_lt2 l2); revert l1 l2; intro _ _; (try k_sweep))))
  (k_with "call ref" => (k_here; (with_reducible show wpAny _ _ (call (Value.ref 96) _ _) _ _ _); k_dflt (refine' Con.use ?k1Qh ?k2Qh ?k3Qh ?k4Qh ?k5Qh ?kKQh ?kdQh ?kuQh (lparts_c _ _ _ _ _ _ _ _ _ _ ?ktQh) ?_; (case k1Qh => k_asm); (case k2Qh => k_asm); (case k3Qh => k_asm); (case k4Qh => k_asm); (case k5Qh => k_asm); (case kKQh => first | exact rfl | assumption); (case kdQh => walk_at "room"); (case kuQh => walk_at "units"); (case ktQh => first | assumption | omega); k_whole; rintro _ _ _ _ _ _ (⟨_, e1', e2'⟩ | ⟨_, _, _, _, _, _, e1', e2', _, _, _⟩) <;> (subst e1' e2'; (try k_sweep)))))
  (k_with "call ref" => (k_here; (with_reducible show wpAny _ _ (call (Value.ref 75) _ _) _ _ _); k_dflt (refine' Con.use ?k1Qh ?k2Qh ?k3Qh ?k4Qh ?k5Qh ?kKQh ?kdQh ?kuQh (takes_c _ _ _ _ _ _ _ _ _ _ _ _ _ _ _ _ _ _ ?h1Qh ?h2Qh ?h3Qh ?h4Qh) ?_; (case k1Qh => k_asm); (case k2Qh => k_asm); (case k3Qh => k_asm); (case k4Qh => k_asm); (case k5Qh => k_asm); (case kKQh => first | exact rfl | assumption); (case kdQh => walk_at "room"); (case kuQh => walk_at "units"); (case h1Qh => assumption); (case h2Qh => assumption); (case h3Qh => assumption); (case h4Qh => assumption); k_whole; rintro _ _ _ _ _ _ ⟨e', e2'⟩; subst e' e2'; (try k_sweep))))
  (k_with "call ref" => (k_here; (with_reducible show wpAny _ _ (call (Value.ref 89) _ _) _ _ _); k_dflt (refine' Con.use ?k1Qh ?k2Qh ?k3Qh ?k4Qh ?k5Qh ?kKQh ?kdQh ?kuQh (matches_c _ _ _ _ _ _ _ _ _ _ _ _ ?kmQh ?kPQh ?klQh ?ktQh) ?_; (case k1Qh => k_asm); (case k2Qh => k_asm); (case k3Qh => k_asm); (case k4Qh => k_asm); (case k5Qh => k_asm); (case kKQh => first | exact rfl | assumption); (case kdQh => walk_at "room"); (case kuQh => walk_at "units"); (case kmQh => k_mem); (case kPQh => exact pts_mono (by assumption) (fun _ h => List.mem_cons_of_mem _ (List.mem_append.mpr (.inl h)))); (case klQh => assumption); (case ktQh => assumption); k_whole; rintro _ _ _ _ _ _ ⟨e', e2'⟩; subst e' e2'; (try k_sweep))))
  trivial
def likeR (e : Option Nat) (p t : List Nat) : Bool :=
  match piecesF e p with
  | none => false
  | some ps => Mt eqF (ps.map foldP) (t.map foldc)
section Like
theorem like_c (w : World) (loose : List Str) (mean : ExcName → Option Value) (mg mb : Str → Option Value) (news : List (Addr × Obj)) (p t : Str) (tp tt te : Tok) (e : Option Nat) (hp : p.cps.size < 100) (ht : t.cps.size < 100) :
    Con w loose mean mg mb 104 news [.str p tp, .str t tt, escV e te] 10 (fun news' r => news' = news ∧ r = .bool (likeR e p.cps.toList t.cps.toList)) := by
  have hft : (foldS t).cps.size < 100 := by simpa [foldS] using ht
  have hfl : (foldS t).cps.toList = t.cps.toList.map foldc := by simp [foldS]
  unfold Con
  k_fill
  intro dp un gd cn cs ad ccd cl outer A₀ base h₀ L m s Q E B F X N T hk hd1 hu1 hret
  refine wpAny_call ?_
  k_dflt walk_at "enterD"
  k_steps
  · with_reducible rename (piecesF _ _ = none) => h9
    exact hret _ _ _ _ (by assumption) (by assumption) ⟨rfl, by rw [likeR, h9]⟩
  · with_reducible rename (piecesF _ _ = some _) => h9
    exact hret _ _ _ _ (by assumption) (tl1 (by assumption)).right ⟨rfl, by rw [likeR, h9, hfl]⟩
  · with_reducible rename (piecesF _ _ = none) => h9
    exact hret _ _ _ _ (by assumption) (by assumption) ⟨rfl, by rw [likeR, h9]⟩
  · with_reducible rename (piecesF _ _ = some _) => h9
    exact hret _ _ _ _ (by assumption) (tl1 (by assumption)).right ⟨rfl, by rw [likeR, h9, hfl]⟩
end Like
theorem rowsAt21 : True := by
  k_with_none
  (k_with "pick" => first | exact Pick.head | exact Pick.tail (Pick.head) | exact Pick.tail (Pick.tail (Pick.head)) | exact Pick.tail (Pick.tail (Pick.tail (Pick.head))) | exact Pick.tail (Pick.tail (Pick.tail (Pick.tail (Pick.head)))) | exact Pick.tail (Pick.tail (Pick.tail (Pick.tail (Pick.tail (Pick.head))))) | exact Pick.tail (Pick.tail (Pick.tail (Pick.tail (Pick.tail (Pick.tail (Pick.head)))))) | exact Pick.tail (Pick.tail (Pick.tail (Pick.tail (Pick.tail (Pick.tail (Pick.tail (Pick.head))))))) | exact Pick.tail (Pick.tail (Pick.tail (Pick.tail (Pick.tail (Pick.tail (Pick.tail (Pick.tail (Pick.head)))))))) | exact Pick.tail (Pick.tail (Pick.tail (Pick.tail (Pick.tail (Pick.tail (Pick.tail (Pick.tail (Pick.tail (Pick.head))))))))) | exact Pick.tail (Pick.tail (Pick.tail (Pick.tail (Pick.tail (Pick.tail (Pick.tail (Pick.tail (Pick.tail (Pick.tail (Pick.head)))))))))) | exact Pick.tail (Pick.tail (Pick.tail (Pick.tail (Pick.tail (Pick.tail (Pick.tail (Pick.tail (Pick.tail (Pick.tail (Pick.tail (Pick.head))))))))))) | exact Pick.tail (Pick.tail (Pick.tail (Pick.tail (Pick.tail (Pick.tail (Pick.tail (Pick.tail (Pick.tail (Pick.tail (Pick.tail (Pick.tail (Pick.head)))))))))))) | exact Pick.tail (Pick.tail (Pick.tail (Pick.tail (Pick.tail (Pick.tail (Pick.tail (Pick.tail (Pick.tail (Pick.tail (Pick.tail (Pick.tail (Pick.tail (Pick.head))))))))))))) | exact Pick.tail (Pick.tail (Pick.tail (Pick.tail (Pick.tail (Pick.tail (Pick.tail (Pick.tail (Pick.tail (Pick.tail (Pick.tail (Pick.tail (Pick.tail (Pick.tail (Pick.head)))))))))))))) | exact Pick.tail (Pick.tail (Pick.tail (Pick.tail (Pick.tail (Pick.tail (Pick.tail (Pick.tail (Pick.tail (Pick.tail (Pick.tail (Pick.tail (Pick.tail (Pick.tail (Pick.tail (Pick.head))))))))))))))))
  (k_with "room" => first | exact room_m 1 hd1 rfl rfl | exact room_m 2 hd1 rfl rfl | exact room_m 3 hd1 rfl rfl | exact room_0 0 hd1 rfl rfl | exact room_0 1 hd1 rfl rfl | exact room_0 2 hd1 rfl rfl | exact room_0 3 hd1 rfl rfl | (walk_say "ROOM BY OMEGA"; (try simp only [depth_under_make, depth_under_kw, depth_in1, depth_deeper, depth_caller]); (try dsimp only [ktrTop]); omega))
  (k_with "units" => first | exact unit_m 0 hu1 rfl rfl | exact unit_m 3 hu1 rfl rfl | exact unit_m 6 hu1 rfl rfl | exact unit_m 4 hu1 rfl rfl | exact unit_m 7 hu1 rfl rfl | (walk_say "UNITS BY OMEGA"; (try simp only [units_in1, units_deeper, Around.mark_units, units_caller]); (try dsimp only [ktrTop]); omega))
  (k_with "con1" => (refine' Con.use ?k1Qh ?k2Qh ?k3Qh (Pick.news ?kpQh ?k4Qh) ?k5Qh ?kKQh ?kdQh ?kuQh ?kCQh ?_; (case k1Qh => k_asm); (case k2Qh => k_asm); (case k3Qh => k_asm); (case k5Qh => k_asm); (case kKQh => first | exact rfl | assumption); rotate_left))
  (k_with "call builtin:len" => (k_here; (with_reducible show wpAny _ _ (call (Value.builtin _) [Value.ref _]) _ _ _); k_dflt (refine' len_at ?k1Qh ?k2Qh ?k3Qh ?_; (case k1Qh => k_asm); (case k2Qh => k_mem); (case k3Qh => first | assumption | exact lt100 (by assumption) rfl | (simp; done) | omega); k_whole)))
  (k_with "call builtin:str.join" => (k_here; k_dflt (refine' join_at ?k1Qh ?k2Qh ?k3Qh ?k4Qh ?_; (case k1Qh => k_asm); (case k2Qh => k_mem); (case k3Qh => assumption); (case k4Qh => assumption); k_whole); intro _ _))
  (k_with "call builtin:list.append" => (k_here; (with_reducible show wpAny _ _ (call (Value.builtin _) [Value.ref _, _]) _ _ _); k_dflt (refine' append_K ?k1Qh ?k2Qh ?k3Qh ?_ ?zQh; (case k1Qh => k_asm); (case k2Qh => k_asm); (case k3Qh => k_upd); (case zQh => assumption); k_whole); intro _ _ _; (try k_sweep)))
  (k_with "subscriptTail Name Name str int" => (k_here; (with_reducible show wpAny _ _ (subscriptTail _ _ (Value.str _ _) (Value.int (Nat.cast _) _)) _ _ _); k_dflt (refine' str_at0 ?k2Qh ?k3Qh ?_; (case k2Qh => assumption); (case k3Qh => first | exact lt100 (by assumption) rfl | exact lt10 (by assumption) rfl | omega); k_whole)))
  (k_with "subscriptTail Name Name str int" => (k_here; (with_reducible show wpAny _ _ (subscriptTail _ _ (Value.str _ _) (Value.int (_ + 1) _)) _ _ _); k_dflt (refine' str_at1 ?k2Qh ?k3Qh ?_; (case k2Qh => first | assumption | exact hc2 (by omega)); (case k3Qh => first | exact lt100 (by assumption) rfl | exact lt10 (by assumption) rfl | omega); k_whole)))
  (k_with "compareOp Eq str str" => ((with_reducible show wpAny _ _ (compareOp _ (Value.str (Str.mk #[_]) _) (Value.str (Str.mk #[_]) _)) _ _ _); refine eq_cc ?_))
  (k_with "compareOp Eq str str" => ((with_reducible show wpAny _ _ (compareOp _ (Value.str (Str.mk #[_]) _) (Value.str (Str.ofString "%") _)) _ _ _); refine eq_pct ?_))
  (k_with "compareOp Eq str str" => ((with_reducible show wpAny _ _ (compareOp _ (Value.str (Str.mk #[_]) _) (Value.str (Str.ofString "_") _)) _ _ _); refine eq_und ?_))
  (k_with "compareOp Eq str" => ((with_reducible show wpAny _ _ (compareOp _ (Value.str (Str.mk #[_]) _) (escV _ _)) _ _ _); refine eq_ce ?_))
  (k_with "compareOp IsNot" => ((with_reducible show wpAny _ _ (compareOp _ (escV _ _) Value.none) _ _ _); refine isnot_e ?_))
  (k_with "compareOp In str str" => ((with_reducible show wpAny _ _ (compareOp _ (Value.str (Str.mk #[_]) _) (Value.str (Str.ofString "%_") _)) _ _ _); refine in_pu ?_))
  (k_with "call builtin:len" => ((with_reducible show wpAny _ _ (call (Value.builtin _) [Value.str _ _]) _ _ _); refine' len_txt ?k1Qh ?_; (case k1Qh => first | exact lt100 (by assumption) rfl | exact lt10 (by assumption) rfl | omega)))
  (k_with "newTuple" => (k_here; k_dflt (refine' newTuple_my ?k1Qh ?k2Qh ?_ ?zQh; (case k1Qh => k_asm); (case k2Qh => k_asm); (case zQh => exact Nat.le_of_ble_eq_true rfl); k_whole); intro _ _ _ _ l1; (try k_lt l1); revert l1; intro _; (try k_sweep)))
  (k_with "compareOp Eq int int" => (refine eq_ii ?_))
  (k_with "enterC" => (refine' code_defC ?k1Qh ?k2Qh ?k3Qh ?k4Qh ?k5Qh ?kAQh ?kFQh ?kKQh ?k6Qh ?k7Qh ?k8Qh ?k9Qh ?kBQh ?kDQh ?_ ?c2Qh ?c3Qh ?c4Qh; (case kAQh => exact rfl); (case kFQh => exact rfl); (case kKQh => assumption); (case k1Qh => k_asm); (case k2Qh => k_asm); (case k3Qh => k_asm); (case k4Qh => k_asm); (case k5Qh => k_asm); (case k6Qh => k_is); (case k7Qh => k_is); (case k8Qh => walk_at "room"); (case k9Qh => exact BindsTo.of_eq rfl); (case kBQh => exact rfl); (case kDQh => decide +kernel); (case c2Qh => exact rfl); (case c3Qh => exact rfl); (case c4Qh => exact rfl); k_whole; walk_at "tail0"))
  (k_with "eval ListComp" => (k_here; k_dflt (refine LCg.ListComp_U (F₀ := by k_asm) (by rfl) (by decide) (by rfl) (by decide) (by rfl) ?_)))
  (k_with "eval Name" => (k_here; (with_reducible show wpAny _ _ (eval (Expr.Name _ _) (compEnvC _ _ _ _)) _ _ _); k_dflt (refine' ldC ?k1Qh ?k2Qh ?k3Qh ?k4Qh ?_; (case k1Qh => k_asm); (case k2Qh => rfl); (case k3Qh => k_mem); (case k4Qh => k_asm); k_whole)))
  (k_with "CompSrc" => fail "own")
  (k_with "exec While Compare cons nil" => show Mine.Stop _)
  (k_with "exec While BoolOp cons nil" => show Mine.Stop _)
  (k_with "enterD" => (refine' code_def ?k1Qh ?k2Qh ?k3Qh ?k4Qh ?k5Qh ?kAQh ?kFQh ?kKQh ?k6Qh ?k7Qh ?k8Qh ?k9Qh ?kBQh ?_ ?c2Qh ?c3Qh ?c4Qh ?c5Qh; (case kAQh => exact rfl); (case kFQh => exact rfl); (case kKQh => first | exact rfl | assumption); (case k1Qh => k_asm); (case k2Qh => k_asm); (case k3Qh => k_asm); (case k4Qh => k_asm); (case k5Qh => k_asm); (case k6Qh => k_is); (case k7Qh => k_is); (case k8Qh => walk_at "room"); (case k9Qh => first | exact BindsTo.of_eq rfl | exact binds_K (by k_in) rfl (by k_is) rfl rfl rfl | fail "enterD: no rule for these arguments"); (case c5Qh => decide); (case kBQh => exact locs rfl); (case c2Qh => exact rfl); (case c3Qh => exact rfl); (case c4Qh => exact rfl); k_whole; intro _ _ _ _ _ _ _ _ _; (try dsimp only); (try k_fold)))
  (k_with "makeD" => (refine' call_cls ?k1Qh ?k2Qh ?k3Qh ?k4Qh ?k5Qh ?k6Qh ?_; (case k1Qh => k_asm); (case k2Qh => k_asm); (case k3Qh => k_asm); (case k4Qh => k_is); (case k5Qh => k_is); (case k6Qh => k_is); k_whole; intro _ _ _ _ _ l1 l2; (try k_lt l1); (try k_lt2 l2); revert l1 l2; intro _ _; (try k_sweep); walk_at "enterD"))
  (k_with "subscriptTail Name Name ref int" => (k_here; (with_reducible show wpAny _ _ (subscriptTail _ _ (Value.ref _) (Value.int (Nat.cast _) _)) _ _ _); k_dflt (refine' item_nat ?k1Qh ?k2Qh ?k3Qh ?k4Qh ?_; (case k1Qh => k_asm); (case k2Qh => k_mem); (case k3Qh => assumption); (case k4Qh => first | exact lt100 (by assumption) rfl | exact lt10 (by assumption) rfl | omega); k_whole)))
  (k_with "call builtin:len" => ((with_reducible show wpAny _ _ (call (Value.builtin _) [escV _ _]) _ _ _); refine' len_e ?k1Qh ?_; (case k1Qh => assumption)))
  (k_with "sub" => ((repeat' (first | refine List.forall_mem_cons.mpr ⟨?_, ?_⟩ | exact List.mem_cons_self | (refine List.mem_cons_of_mem _ ?_; k_mem) | (exact fun x hx => by k_mem))); done))
  (k_with "ifs" => ((try dsimp only); (repeat (refine Eq.trans (if_neg (by assumption)) ?_)); (repeat (refine Eq.trans ?_ (Eq.symm (if_neg (by assumption))))); exact rfl))
  (k_with "storeName" => dsimp only)
  (k_with "eval Call" => (k_here; (with_reducible show wpAny _ _ (eval (Expr.Call (Expr.Name (Str.ofString "len") _) [Expr.Name _ _] [] _) _) _ _ _); k_dflt (refine' len1 ?FQh ?XQh ?TQh ?eQh ?hvQh ?_; (case FQh => k_asm); (case XQh => k_asm); (case TQh => k_asm); (case eQh => k_is); (case hvQh => rfl); k_whole)))
  (k_with "lt" => first | assumption | exact And.left (by assumption) | exact pj1 (by assumption) | exact pj2 (by assumption) | exact pj3 (by assumption) | exact pj4 (by assumption) | exact pj5 (by assumption) | exact pj6 (by assumption) | exact pj7 (by assumption) | exact Nat.lt_succ_of_lt (And.left (by assumption)) | exact Nat.lt_succ_of_lt (Nat.lt_succ_of_lt (And.left (by assumption))))
  (k_with "call ref" => (k_here; (with_reducible show wpAny _ _ (call (Value.ref 53) _ _) _ _ _); k_dflt (refine' Con.use ?k1Qh ?k2Qh ?k3Qh ?k4Qh ?k5Qh ?kKQh ?kdQh ?kuQh (fold_c _ _ _ _ _ _ _ _ ?ktQh) ?_; (case k1Qh => k_asm); (case k2Qh => k_asm); (case k3Qh => k_asm); (case k4Qh => k_asm); (case k5Qh => k_asm); (case kKQh => first | exact rfl | assumption); (case kdQh => walk_at "room"); (case kuQh => walk_at "units"); (case ktQh => first | assumption | (simp; done) | (show (1:Nat) < 100; decide)); k_whole; rintro _ _ _ _ _ _ ⟨e', _, e2'⟩; subst e' e2'; (try k_sweep))))
  (k_with "call ref" => (k_here; (with_reducible show wpAny _ _ (call (Value.ref 139) _ _) _ _ _); k_dflt (refine' Con.use ?k1Qh ?k2Qh ?k3Qh ?k4Qh ?k5Qh ?kKQh ?kdQh ?kuQh (pieces_c _ _ _ _ _ _ _ _ _ _ ?ktQh) ?_; (case k1Qh => k_asm); (case k2Qh => k_asm); (case k3Qh => k_asm); (case k4Qh => k_asm); (case k5Qh => k_asm); (case kKQh => first | exact rfl | assumption); (case kdQh => walk_at "room"); (case kuQh => walk_at "units"); (case ktQh => first | assumption | omega); k_whole)))
  (k_with "call ref" => (k_here; (with_reducible show wpAny _ _ (call (Value.ref 132) _ _) _ _ _); k_dflt (refine' Con.use ?k1Qh ?k2Qh ?k3Qh ?k4Qh ?k5Qh ?kKQh ?kdQh ?kuQh (alike_c _ _ _ _ _ _ _ _ _ _) ?_; (case k1Qh => k_asm); (case k2Qh => k_asm); (case k3Qh => k_asm); (case k4Qh => k_asm); (case k5Qh => k_asm); (case kKQh => first | exact rfl | assumption); (case kdQh => walk_at "room"); (case kuQh => walk_at "units"); k_whole; rintro _ _ _ _ _ _ ⟨e', e2'⟩; subst e' e2'; (try k_sweep))))
  trivial
def BoolsAre (vs : List Value) (bs : List Bool) : Prop := vs = bs.map Value.bool
section Due
section
variable {prog : Program} {w : World} {A : Around} {E : Value → Shared → Prop} {s : Shared} {h₀ : Heap} {L D : Addr} {m : Str → Option Value} {news : List (Addr × Obj)} {bs : List Bool} {n : Nat}
theorem rep_false (b : Bool) (k : Nat) : (List.replicate k [Value.bool b]).flatten = (List.replicate k b).map Value.bool := by
  induction k with
  | zero => rfl
  | succ k ih => rw [List.replicate_succ, List.flatten_cons, ih, List.replicate_succ, List.map_cons]; rfl
theorem mul_b {k : Nat} {u : Tok} {b : Bool} {Q : Value → Shared → Prop} (F : Fr h₀ L s.heap m) (N : News h₀ L s.heap news) (hm : (D, W.listOf #[.bool b] n) ∈ news) (hk : k < 100000)
    (h : ∀ D' h', Fr h₀ L h' m → News h₀ L h' ((D', W.listOf ((List.replicate k b).map Value.bool).toArray 0) :: news) → (∀ p ∈ news, p.1 < D') → Q (.ref D') { s with heap := h' }) :
    wpAny (model prog w) A (binaryOp .Mult (.ref D) (.int (k : Int) u)) Q E s := by
  refine PyProof.Rows.mul_list F N (N _ hm).1 (by omega) (by omega) (by simp; omega) fun h' F' N' => ?_
  rw [listMul_foldl_if] at N'
  rw [show (k : Int).toNat = k from rfl, show (#[Value.bool b] : Array Value).toList = [Value.bool b] from rfl, rep_false] at N'
  exact h _ h' F' N' fun p hp => Heap.lt_size (N p hp).1
theorem cells5 (h : ∀ p ∈ news, p.1 < L) : (∀ p ∈ news, p.1 ≠ L + 1) ∧ (∀ p ∈ news, p.1 ≠ L + 1 + 1) ∧ (∀ p ∈ news, p.1 ≠ L + 1 + 1 + 1) ∧ (∀ p ∈ news, p.1 ≠ L + 1 + 1 + 1 + 1) ∧ (∀ p ∈ news, p.1 ≠ L + 1 + 1 + 1 + 1 + 1) :=
  have f : ∀ k, ∀ p ∈ news, p.1 ≠ Nat.add L k := fun k p hp => Nat.ne_of_lt (Nat.lt_of_lt_of_le (h p hp) (Nat.le_add_right L k))
  ⟨f 1, f 2, f 3, f 4, f 5⟩
theorem newsSub {news' : List (Addr × Obj)} {h : Heap} (N : News h₀ L h news) (hs : ∀ p ∈ news', p ∈ news) : News h₀ L h news' := fun p hp => N p (hs p hp)
theorem st_cell2 {M : Model} {name : Str} {scope : Scope} {a : Addr} {cd : Value} {x : Str} {c : Addr} {o ob : Obj} {v₀ : Option Value} {v : Value} {nx : List (Addr × Obj)} {Q : Unit → Shared → Prop} (keep : List (Addr × Obj)) (F : Fr h₀ L s.heap m) (N : News h₀ L s.heap ((D, ob) :: nx)) (h1 : ∀ p ∈ nx, p.1 ≠ D)
    (hc : (cellsFrom (L + 1) scope.names []).lookup x = some c) (hm : (c, o) ∈ nx) (hkp : ∀ q ∈ keep, q ∈ nx ∧ q.1 ≠ c) (hd : o.data = .cell v₀)
    (h : ∀ h' o', Fr h₀ L h' m → News h₀ L h' ((c, o') :: (D, ob) :: keep) → o'.data = .cell (some v) → Q () { s with heap := h' })
    (hk : scope.kind = .function := by rfl) (hl : (envOfC name scope L a cd).kindOf x = some .cell := by rfl) :
    wpAny M A (storeName (envOfC name scope L a cd) x v) Q E s :=
  stCN (own := []) F (newsSub N (news' := (c, o) :: (D, ob) :: keep) (by
    intro q hq
    rcases List.mem_cons.mp hq with rfl | hq
    · exact .tail _ hm
    · rcases List.mem_cons.mp hq with rfl | hq
      · exact .head _
      · exact .tail _ (hkp q hq).1)) hc hd (fun _ h => nomatch h) (List.forall_mem_cons.mpr ⟨Ne.symm (h1 _ hm), fun q hq => (hkp q hq).2⟩) h hk hl
theorem off1_all : ∀ {l : List (Addr × Obj)}, LCg.Off1 D l → ∀ p ∈ l, p.1 ≠ D
  | [], _, _, h => nomatch h
  | q :: r, h, p, hp => by
    rcases List.mem_cons.mp hp with rfl | hp
    · exact h.1
    · exact off1_all h.2 p hp
def isTrue? : Value → Bool
  | .bool b => b
  | _ => false
theorem bool_any (bs : List Bool) : (bs.map Value.bool).toArray.any isTrue? = decide (true ∈ bs) := by
  induction bs with
  | nil => simp
  | cons b r ih =>
    rw [List.any_toArray, List.map_cons, List.any_cons, ← List.any_toArray, ih]
    cases b <;> simp [isTrue?]
theorem eqb {A : Around} {y : Value} (h : y ∈ (bs.map Value.bool).toArray) : PySem.SeqAt.EqAt A s y (.bool true) (isTrue? y) := by
  obtain ⟨b, _, rfl⟩ := List.mem_map.mp (List.mem_toArray.mp h)
  have e := PySem.SeqAt.EqAt.bool_bool (A := A) (s := s) b true
  rwa [show (b == true) = isTrue? (.bool b) from by cases b <;> rfl] at e
theorem in_b {Q : Value → Shared → Prop} (N : News h₀ L s.heap news) (hm : (D, W.listOf (bs.map Value.bool).toArray n) ∈ news) (h : Q (.bool (decide (true ∈ bs))) s) : wpAny (model prog w) A (compareOp .In (.bool true) (.ref D)) Q E s := by
  refine PySem.SeqAt.in_listAt isTrue? (PySem.IsL.isList (n := n) (N _ hm).1) (fun y hy => eqb hy) ?_
  rw [bool_any]; exact h
theorem index_b {Q : Value → Shared → Prop} (N : News h₀ L s.heap news) (hm : (D, W.listOf (bs.map Value.bool).toArray n) ∈ news) (ht : true ∈ bs) (hl : bs.length < 100000) (h : Q (.int (bs.idxOf true : Nat) s.toks) { s with toks := s.toks + 1 }) :
    wpAny (model prog w) A (call (.builtin "list.index") [.ref D, .bool true]) Q E s := by
  have hg := (N _ hm).1
  have hj : bs.idxOf true < bs.length := List.idxOf_lt_length_iff.mpr ht
  refine call_meets PySem.F.slot_list_index ⟨_, hg, rfl⟩ PySem.F.entry_list_index (PySem.F.args_list_index_2 _ _)
    (PySem.SeqAt.list_indexAt D _ n none #[] (.bool true) isTrue? (bs.idxOf true) (by simpa using hj) (by omega) ?_ ?_) ⟨hg, fun y hy => eqb hy, h⟩
  · have : bs[bs.idxOf true] = true := List.getElem_idxOf hj
    simpa [isTrue?] using this
  · intro j hjs hlt
    have hjs' : j < bs.length := by simpa using hjs
    have h5 := List.not_of_lt_findIdx (p := (· == true)) (xs := bs) (i := j) hlt
    simp [isTrue?]
    simpa using h5
theorem last_b {j : Nat} {t : Tok} {v : Value} {its : List Value} {value slice : PySem.Expr} {Q : Value → Shared → Prop} (N : News h₀ L s.heap news) (hm : (D, W.listOf its.toArray n) ∈ news) (hj : its.length = j + 1) (hx : its[j]? = some v) (h : Q v s)
    (hs : subscripted slice false (.ref D) (.int (-1) t) = operate [.ref D, .int (-1) t] (getItem (.ref D) (.int (-1) t)) := by with_unfolding_all rfl) :
    wpAny (model prog w) A (subscriptTail value slice (.ref D) (.int (-1) t)) Q E s :=
  have hl : s.heap.IsList D its.toArray := PySem.IsL.isList (n := n) (N _ hm).1
  tail_any hl.typeIs slot_list_getitem.lookup (wpAny_getItem_list_neg hl (by decide) (by simp; omega) (by decide) (by rw [show ((-1 : Int) + (its.toArray.size : Int)).toNat = j by simp; omega]; simpa using hx) h) hs
theorem st_cell {M : Model} {name : Str} {scope : Scope} {a : Addr} {cd : Value} {x : Str} {c : Addr} {o : Obj} {v₀ : Option Value} {v : Value} {rest : List (Addr × Obj)} {Q : Unit → Shared → Prop} (F : Fr h₀ L s.heap m) (N : News h₀ L s.heap news)
    (hc : (cellsFrom (L + 1) scope.names []).lookup x = some c) (hp : Pick c o news rest) (hne : ∀ p ∈ rest, p.1 ≠ c) (hd : o.data = .cell v₀)
    (h : ∀ h' o', Fr h₀ L h' m → News h₀ L h' ((c, o') :: rest) → o'.data = .cell (some v) → Q () { s with heap := h' })
    (hk : scope.kind = .function := by rfl) (hl : (envOfC name scope L a cd).kindOf x = some .cell := by rfl) :
    wpAny M A (storeName (envOfC name scope L a cd) x v) Q E s :=
  stCN (own := []) F (hp.news N) hc hd (fun _ h => nomatch h) hne h hk hl
end
theorem ne5 (L : Addr) : L + 1 + 1 + 1 + 1 + 1 ≠ L + 1 + 1 ∧ L + 1 + 1 + 1 + 1 ≠ L + 1 + 1 ∧ L + 1 + 1 + 1 ≠ L + 1 + 1 ∧ L + 1 ≠ L + 1 + 1 :=
  ⟨ne_off (L := L) 5 2 rfl, ne_off (L := L) 4 2 rfl, ne_off (L := L) 3 2 rfl, ne_off (L := L) 1 2 rfl⟩
theorem gt5 {D L : Addr} {P : Prop} (h : L + 1 + 1 + 1 + 1 + 1 < D ∧ P) : D ≠ L + 1 ∧ D ≠ L + 1 + 1 ∧ D ≠ L + 1 + 1 + 1 ∧ D ≠ L + 1 + 1 + 1 + 1 ∧ D ≠ L + 1 + 1 + 1 + 1 + 1 :=
  have f : ∀ k, Nat.ble k 5 = true → D ≠ Nat.add L k := fun k e => Nat.ne_of_gt (Nat.lt_of_le_of_lt (Nat.add_le_add_left (Nat.le_of_ble_eq_true e) L) h.1)
  ⟨f 1 rfl, f 2 rfl, f 3 rfl, f 4 rfl, f 5 rfl⟩
local macro_rules | `(tactic| k_ne) => `(tactic| first | assumption | exact Ne.symm (by assumption) | (show @Ne Nat _ _; first | exact ne_off 1 2 rfl | exact ne_off 1 3 rfl | exact ne_off 1 4 rfl | exact ne_off 1 5 rfl | exact ne_off 2 1 rfl | exact ne_off 2 3 rfl | exact ne_off 2 4 rfl | exact ne_off 2 5 rfl | exact ne_off 3 1 rfl | exact ne_off 3 2 rfl | exact ne_off 3 4 rfl | exact ne_off 3 5 rfl | exact ne_off 4 1 rfl | exact ne_off 4 2 rfl | exact ne_off 4 3 rfl | exact ne_off 4 5 rfl | exact ne_off 5 1 rfl | exact ne_off 5 2 rfl | exact ne_off 5 3 rfl | exact ne_off 5 4 rfl | exact Nat.ne_of_gt (by walk_at "lt") | exact Nat.ne_of_lt (by walk_at "lt") | omega) | fail "no")
local macro_rules | `(tactic| k_all) => `(tactic| repeat' (first | assumption | refine List.forall_mem_cons.mpr ⟨?_, ?_⟩ | (dsimp only; k_ne)))
theorem rowsAt22 : True := by
  (k_with "storeName" => (k_here; k_dflt (refine' st_cell ?FQh ?NQh ?cQh ?pQh ?nQh ?dQh ?_ ?aQh ?bQh; (case aQh => rfl); (case bQh => rfl); (case FQh => k_asm); (case NQh => k_asm); (case cQh => rfl); (case pQh => walk_at "pick"); (case nQh => k_all); (case dQh => k_asm); k_whole); intro _ _ _ _ _; (try k_sweep)))
  (k_with "compareOp In bool ref" => (k_here; k_dflt (refine' in_b ?k1Qh ?k2Qh ?_; (case k1Qh => k_asm); (case k2Qh => k_mem); k_whole)))
  (k_with "call builtin:list.index" => (k_here; k_dflt (refine' index_b ?k1Qh ?k2Qh ?k3Qh ?k4Qh ?_; (case k1Qh => k_asm); (case k2Qh => k_mem); (case k3Qh => assumption); (case k4Qh => assumption); k_whole)))
  (k_with "binaryOp Mult ref int" => (k_here; k_dflt (refine' mul_b ?k1Qh ?k2Qh ?k3Qh ?k4Qh ?_; (case k1Qh => k_asm); (case k2Qh => k_asm); (case k3Qh => k_mem); (case k4Qh => omega); k_whole); intro _ _ _ _ l1; (try k_lt l1); revert l1; intro _; (try k_sweep)))
  (k_with "binaryOp Add ref ref" => (k_here; (with_reducible show wpAny _ _ (binaryOp _ (Value.ref _) (Value.ref _)) _ _ _); k_dflt (refine' cat_at ?FQh ?NQh ?aQh ?bQh ?zQh ?_; (case FQh => k_asm); (case NQh => k_asm); (case aQh => k_mem); (case bQh => k_mem); (case zQh => (simp only [List.size_toArray, List.length_cons, List.length_nil, List.length_map, List.length_replicate, List.length_range]; omega)); k_whole); intro _ _ _ _ l1; (try k_lt l1); revert l1; intro _; (try k_sweep)))
  trivial
def gj (f : Nat → Nat → Bool) (ps : List Pc) (t : List Nat) (q : Pc) (j : Nat) : Bool := Mt f ps (t.take j) && (match t[j]? with | some d => tkF f q d | none => false)
theorem gj_of {f : Nat → Nat → Bool} {ps : List Pc} {t : List Nat} {q : Pc} {j d : Nat} (h : t[j]? = some d) : gj f ps t q j = (Mt f ps (t.take j) && tkF f q d) := by rw [gj, h]
theorem pcs_get {tup : List (Addr × Obj)} {vs : List Value} {ps : List Pc} (h : PcsAre tup vs ps) : ∀ {i : Nat} {v : Value}, vs[i]? = some v → ∃ a o q, v = .ref a ∧ (a, o) ∈ tup ∧ PcObj o q ∧ ps[i]? = some q := by
  induction h with
  | nil => intro i v h; simp at h
  | cons h1 h2 _ ih =>
    intro i v h
    cases i with
    | zero => simp at h; subst h; exact ⟨_, _, _, rfl, h1, h2, rfl⟩
    | succ i => exact ih (by simpa using h)
theorem pcs_len {tup : List (Addr × Obj)} {vs : List Value} {ps : List Pc} (h : PcsAre tup vs ps) : vs.length = ps.length := by
  induction h with
  | nil => rfl
  | cons _ _ _ ih => simp [ih]
def DJ (L : Addr) (news : List (Addr × Obj)) (t : Str) (tt : Tok) (ps : List Pc) (m0 : Str → Option Value) (i : Nat) (m : Str → Option Value) (nx : List (Addr × Obj)) : Prop :=
  m = m0 ∧ ∃ ra k oF oS oW oR oT, nx = (ra, W.listOf ((rowF alikeF (ps.take i) t.cps.toList).map Value.bool).toArray k) :: (L + 1 + 1 + 1 + 1 + 1, oF) :: (L + 1 + 1 + 1 + 1, oS) :: (L + 1 + 1 + 1, oW) :: (L + 1 + 1, oR) :: (L + 1, oT) :: news ∧
    (ra ≠ L + 1 ∧ ra ≠ L + 1 + 1 ∧ ra ≠ L + 1 + 1 + 1 ∧ ra ≠ L + 1 + 1 + 1 + 1 ∧ ra ≠ L + 1 + 1 + 1 + 1 + 1) ∧ (∃ v, oF.data = .cell v) ∧ (∃ v, oS.data = .cell v) ∧ (∃ v, oW.data = .cell v) ∧ oR.data = .cell (some (.ref ra)) ∧ oT.data = .cell (some (.str t tt))
theorem due0_c (w : World) (loose : List Str) (mean : ExcName → Option Value) (mg mb : Str → Option Value) (news : List (Addr × Obj)) (t : Str) (tt : Tok) :
    Con w loose mean mg mb 144 news [.none, .str t tt] 6 (fun news' r => news' = news ∧ r = .bool false) := by
  unfold Con
  k_fill
  intro dp un gd cn cs ad ccd cl outer A₀ base h₀ L m s Q E B F X N T hk hd1 hu1 hret
  refine wpAny_call ?_
  k_dflt walk_at "enterC"
  k_steps
  refine hret _ _ _ _ (by assumption) (fun p hp => ?_) ⟨rfl, rfl⟩
  with_reducible rename News _ _ _ _ => N9
  exact N9 p (by k_mem)
theorem due1_c (w : World) (loose : List Str) (mean : ExcName → Option Value) (mg mb : Str → Option Value) (news : List (Addr × Obj)) (t : Str) (tt : Tok) (fa : Addr) (vs : List Value) (k : Nat) (ps : List Pc)
    (hm : (fa, W.listOf vs.toArray k) ∈ news) (hP : PcsAre news vs ps) (hl : vs.length < 100) (ht : t.cps.size < 100) :
    Con w loose mean mg mb 144 news [.ref fa, .str t tt] 6 (fun news' r => news' = news ∧ r = .bool (Mt alikeF ps t.cps.toList)) := by
  unfold Con
  k_fill
  intro dp un gd cn cs ad ccd cl outer A₀ base h₀ L m s Q E B F X N T hk hd1 hu1 hret
  refine wpAny_call ?_
  k_dflt walk_at "enterC"
  obtain ⟨hcn1, hcn2, hcn3, hcn4, hcn5⟩ := cells5 (news := news) (by assumption)
  k_steps
  rename_i g1 L1 _ _ FG1 B1 X1 T1 l1c oF oS oW oR0 oT dF dS dW dR0 dT _ _ _ _ _ _ _ _ _ D _ lD _ oR F1 N1 dR
  obtain ⟨hD1, hD2, hD3, hD4, hD5⟩ := gt5 lD.2.2.2
  have eR : (#[Value.bool true].toList ++ (List.map Value.bool (List.replicate t.cps.size false)).toArray.toList).toArray = ((rowF alikeF (ps.take 0) t.cps.toList).map Value.bool).toArray := by rw [List.take_zero, rowF_nil]; simp
  rw [eR] at N1
  refine wpAny_For ?_
  k_steps
  have N9 := newsSub N1 (news' := (D, W.listOf ((rowF alikeF (ps.take 0) t.cps.toList).map Value.bool).toArray 0) :: (L1 + 1 + 1 + 1 + 1 + 1, oF) :: (L1 + 1 + 1 + 1 + 1, oS) :: (L1 + 1 + 1 + 1, oW) :: (L1 + 1 + 1, oR) :: (L1 + 1, oT) :: news) (by walk_at "sub")
  clear N1
  refine for_list (its := vs.toArray) (k := k) rfl F1 N9 ?_ (DJ L1 news t tt ps) ?_ ?_ ?_ ?_
  · intro I i s' v Q' h1 h2
    cases v with
    | ref T => exact wpAny_letOwnedTupleGo_listiter h1 h2
    | _ => exact wpAny_pure h2
  · rintro i m₁ nx ⟨_, ra, k9, oF, oS, oW, oR, oT, rfl, _⟩
    k_mem
  · exact ⟨rfl, D, 0, oF, oS, oW, oR, oT, rfl, ⟨hD1, hD2, hD3, hD4, hD5⟩, ⟨_, dF⟩, ⟨_, dS⟩, ⟨_, dW⟩, dR, dT⟩
  · clear F1 N9 dF dS dW dR dT
    rintro i v m₁ nx h tk I oI hv ⟨rfl, ra, k9, oF, oS, oW, oR, oT, rfl, ⟨hr1, hr2, hr3, hr4, hr5⟩, ⟨vF, dF⟩, ⟨vS, dS⟩, ⟨vW, dW⟩, dR, dT⟩ hne F1 N1
    refine abs_turn2 fun Rt g5 d5 o5 hRt => ?_
    obtain ⟨hI0, hne⟩ := List.forall_mem_cons.mp hne
    obtain ⟨hI5, hne⟩ := List.forall_mem_cons.mp hne
    obtain ⟨hI4, hne⟩ := List.forall_mem_cons.mp hne
    obtain ⟨hI3, hne⟩ := List.forall_mem_cons.mp hne
    obtain ⟨hI2, hne⟩ := List.forall_mem_cons.mp hne
    obtain ⟨hI1, hIn⟩ := List.forall_mem_cons.mp hne
    obtain ⟨a, o, q, rfl, hao, hq, hpq⟩ := pcs_get hP (by simpa using hv)
    have htl : t.cps.toList.length = t.cps.size := by simp
    have hrl : (rowF alikeF (ps.take i) t.cps.toList).length < 100000 := by rw [rowF_len]; omega
    have hrs : ((rowF alikeF (ps.take i) t.cps.toList).map Value.bool).toArray.size < 1000000 := by simp [rowF_len]; omega
    cases q with
    | any =>
      obtain ⟨t1, n1, rfl⟩ := hq
      refine unpackN_ F1 N1 (News.isTup N1 (by k_mem)) rfl rfl rfl ?_
      clear F1 N1
      intro h2 F2 N2
      k_steps
      all_goals
        rename_i oW2 dW2 _ oS2 dS2 _ _ hin _ oF2 Fz Nz dF2 h3 tk3 t3 u3 v3 hR F3 N3 hk3
        have hrs2 : ((rowF alikeF (ps.take i) t.cps.toList).map Value.bool).toArray.size = t.cps.size + 1 := by simp [rowF_len]
        rw [hrs2] at hR
        obtain ⟨f, uf, dF3, hrow⟩ : ∃ (f : Nat) (u : Tok), oF2.data = .cell (some (.int (f : Int) u)) ∧ rowF alikeF (ps.take i ++ [.any]) t.cps.toList = (List.range (t.cps.toList.length + 1)).map fun j => decide (f ≤ j) := by
          first
          | exact ⟨_, _, dF2, rowF_any_some hin⟩
          | exact ⟨_, _, dF2, by rw [hrs2, ← htl]; exact rowF_any_none hin⟩
        rw [htl] at hrow
        obtain ⟨oth, ⟨m5, m4, m3, m2, m1, mI, mN⟩, N4⟩ : ∃ oth, ((L1 + 1 + 1 + 1 + 1 + 1, oF2) ∈ oth ∧ (L1 + 1 + 1 + 1 + 1, oS2) ∈ oth ∧ (L1 + 1 + 1 + 1, oW2) ∈ oth ∧ (L1 + 1 + 1, oR) ∈ oth ∧ (L1 + 1, oT) ∈ oth ∧ (I, oI) ∈ oth ∧ ∀ p ∈ news, p ∈ oth) ∧ News g1 L1 h3 oth :=
          ⟨_, ⟨by k_mem, by k_mem, by k_mem, by k_mem, by k_mem, by k_mem, fun p hp => by k_mem⟩, N3⟩
        clear Nz Fz N3 F2 N2
        refine LCg.CompSrc.range (n := t.cps.size + 1) rfl F3 N4 hR (by first | exact small_k (Nat.lt_trans ht (Nat.le_of_ble_eq_true rfl)) | exact small_k (k := t.cps.size + 1) (Nat.lt_of_le_of_lt ht (Nat.le_of_ble_eq_true rfl)) | exact small_one (by omega) (by omega) (by omega) (by omega)) (by first | exact rsz_k | exact rsz_k (k := t.cps.size + 1) | (rw [rangeSize_nat]; omega)) (by first | exact szl_k (Nat.lt_trans ht (Nat.le_of_ble_eq_true rfl)) | exact szl_k (k := t.cps.size + 1) (Nat.lt_of_le_of_lt ht (Nat.le_of_ble_eq_true rfl)) | (rw [PySem.sizeLine_eq]; omega)) ?_
        intro g2
        refine rest_ind (n := t.cps.size + 1) (Inv := fun i ys nx => nx = oth ∧ ys = (List.range i).map fun j => Value.bool (decide (f ≤ j))) ?_ ?_ (t.cps.size + 1) 0 [] _ (by omega) ⟨rfl, rfl⟩
        · rintro j ys nx hj ⟨rfl, rfl⟩ v I2 oI2 C oC D2 m₂ h tk hPv hNs hmx F5 N5 hoff hne5
          obtain ⟨tv, rfl⟩ := hPv
          clear N4 F3
          simp only [Int.zero_add] at hmx
          k_steps
          refine LCg.CompEnd.intro (by assumption) (by assumption) nx (fun p hp => hp) hoff trivial ⟨rfl, ?_⟩
          rw [List.range_succ, List.map_append]
          simp
        · clear N4 F3
          rintro ys nx ⟨rfl, rfl⟩
          k_steps
          rename_i D9 _ _ F9 N9 o9
          have o9 := off1_all o9
          refine st_cell2 ((I, oI) :: (L1 + 1 + 1 + 1 + 1 + 1, oF2) :: (L1 + 1 + 1 + 1 + 1, oS2) :: (L1 + 1 + 1 + 1, oW2) :: (L1 + 1, oT) :: news) F9 N9 o9 rfl m2 ?_ dR ?_
          · exact List.forall_mem_cons.mpr ⟨⟨mI, Ne.symm hI2⟩, List.forall_mem_cons.mpr ⟨⟨m5, (ne5 L1).1⟩, List.forall_mem_cons.mpr ⟨⟨m4, (ne5 L1).2.1⟩, List.forall_mem_cons.mpr ⟨⟨m3, (ne5 L1).2.2.1⟩, List.forall_mem_cons.mpr ⟨⟨m1, (ne5 L1).2.2.2⟩, fun q hq => ⟨mN _ hq, hcn2 _ hq⟩⟩⟩⟩⟩⟩
          · intro h7 oR7 F7 N7 dR7
            k_steps
            refine hRt _ _ _ ?_
            dsimp only [TurnEnd]
            refine ⟨_, _, _, _, rfl, F7, newsSub N7 (news' := (I, oI) :: (D9, LCg.lst ((List.range (t.cps.size + 1)).map fun j => Value.bool (decide (f ≤ j)))) :: (L1 + 1 + 1 + 1 + 1 + 1, oF2) :: (L1 + 1 + 1 + 1 + 1, oS2) :: (L1 + 1 + 1 + 1, oW2) :: (L1 + 1 + 1, oR7) :: (L1 + 1, oT) :: news) ?_, ?_, rfl, D9, ((List.range (t.cps.size + 1)).map fun j => Value.bool (decide (f ≤ j))).length, oF2, oS2, oW2, oR7, oT, ?_, ⟨Ne.symm (o9 _ m1), Ne.symm (o9 _ m2), Ne.symm (o9 _ m3), Ne.symm (o9 _ m4), Ne.symm (o9 _ m5)⟩, ⟨_, dF3⟩, ⟨_, dS2⟩, ⟨_, dW2⟩, dR7, dT⟩
            · walk_at "sub"
            · exact List.forall_mem_cons.mpr ⟨Ne.symm (o9 _ mI), List.forall_mem_cons.mpr ⟨hI5, List.forall_mem_cons.mpr ⟨hI4, List.forall_mem_cons.mpr ⟨hI3, List.forall_mem_cons.mpr ⟨hI2, List.forall_mem_cons.mpr ⟨hI1, hIn⟩⟩⟩⟩⟩⟩
            · rw [List.take_add_one, hpq, Option.toList_some, hrow, List.map_map]
              rfl
    | one =>
      obtain ⟨t1, n1, rfl⟩ := hq
      refine unpackN_ F1 N1 (News.isTup N1 (by k_mem)) rfl rfl rfl ?_
      clear F1 N1
      intro h2 F2 N2
      k_steps
      rename_i oW2 dW2 _ oS2 dS2 _ la1 _ Fz Nz lz h3 tk3 t3 u3 v3 hR F3 N3 hk3
      obtain ⟨oth, ⟨mL, mR, m5, m4, m3, m2, m1, mI, mN⟩, N4⟩ : ∃ oth, ((la1, W.listOf #[Value.bool false] 0) ∈ oth ∧ (ra, W.listOf ((rowF alikeF (ps.take i) t.cps.toList).map Value.bool).toArray k9) ∈ oth ∧ (L1 + 1 + 1 + 1 + 1 + 1, oF) ∈ oth ∧ (L1 + 1 + 1 + 1 + 1, oS2) ∈ oth ∧ (L1 + 1 + 1 + 1, oW2) ∈ oth ∧ (L1 + 1 + 1, oR) ∈ oth ∧ (L1 + 1, oT) ∈ oth ∧ (I, oI) ∈ oth ∧ ∀ p ∈ news, p ∈ oth) ∧ News g1 L1 h3 oth :=
        ⟨_, ⟨by k_mem, by k_mem, by k_mem, by k_mem, by k_mem, by k_mem, by k_mem, by k_mem, fun p hp => by k_mem⟩, N3⟩
      clear Nz Fz N3 F2 N2
      refine LCg.CompSrc.range (n := t.cps.size) rfl F3 N4 hR (by first | exact small_k (Nat.lt_trans ht (Nat.le_of_ble_eq_true rfl)) | exact small_k (k := t.cps.size + 1) (Nat.lt_of_le_of_lt ht (Nat.le_of_ble_eq_true rfl)) | exact small_one (by omega) (by omega) (by omega) (by omega)) (by first | exact rsz_k | exact rsz_k (k := t.cps.size + 1) | (rw [rangeSize_nat]; omega)) (by first | exact szl_k (Nat.lt_trans ht (Nat.le_of_ble_eq_true rfl)) | exact szl_k (k := t.cps.size + 1) (Nat.lt_of_le_of_lt ht (Nat.le_of_ble_eq_true rfl)) | (rw [PySem.sizeLine_eq]; omega)) ?_
      intro g2
      have hG := fun (j : Nat) (d : Nat) (h : t.cps.toList[j]? = some d) => gj_of (f := alikeF) (ps := ps.take i) (q := .one) h
      generalize gj alikeF (ps.take i) t.cps.toList .one = G at hG
      refine rest_ind (n := t.cps.size) (Inv := fun i' ys nx => nx = oth ∧ ys = (List.range i').map fun j => Value.bool (G j)) ?_ ?_ t.cps.size 0 [] _ (by omega) ⟨rfl, rfl⟩
      · rintro j ys nx hj ⟨rfl, rfl⟩ v I2 oI2 C oC D2 m₂ h tk hPv hNs hmx F5 N5 hoff hne5
        obtain ⟨tv, rfl⟩ := hPv
        simp only [Int.zero_add] at hmx
        have hc : t.cps[j]? = some t.cps[j] := by simp [hj]
        generalize t.cps[j] = d at hc
        have hG := hG j d (by simpa using hc)
        have hrj : ((rowF alikeF (ps.take i) t.cps.toList).map Value.bool)[j]? = some (.bool (Mt alikeF (ps.take i) (t.cps.toList.take j))) := by rw [List.getElem?_map, rowF_get (by omega)]; rfl
        generalize Mt alikeF (ps.take i) (t.cps.toList.take j) = mb at hG hrj
        have hrl3 : ((rowF alikeF (ps.take i) t.cps.toList).map Value.bool).length < 1000000 := by simpa using hrs
        clear N4 F3
        cases mb
        all_goals k_steps
        all_goals
          refine LCg.CompEnd.intro (by assumption) (by assumption) nx (fun p hp => hp) hoff trivial ⟨rfl, ?_⟩
          rw [List.range_succ, List.map_append, List.map_singleton, hG]
          rfl
      · clear N4 F3
        rintro ys nx ⟨rfl, rfl⟩
        k_steps
        rename_i D9 _ F9 N9 l9
        have o9 : ∀ p ∈ nx, p.1 ≠ D9 := fun p hp => Nat.ne_of_lt (ktn_ltOf l9.2 p hp)
        refine st_cell2 ((I, oI) :: (L1 + 1 + 1 + 1 + 1 + 1, oF) :: (L1 + 1 + 1 + 1 + 1, oS2) :: (L1 + 1 + 1 + 1, oW2) :: (L1 + 1, oT) :: news) F9 (newsSub N9 (by
          intro q hq
          rcases List.mem_cons.mp hq with rfl | hq
          · exact .head _
          · exact .tail _ (.tail _ hq))) o9 rfl m2 ?_ dR ?_
        · exact List.forall_mem_cons.mpr ⟨⟨mI, Ne.symm hI2⟩, List.forall_mem_cons.mpr ⟨⟨m5, (ne5 L1).1⟩, List.forall_mem_cons.mpr ⟨⟨m4, (ne5 L1).2.1⟩, List.forall_mem_cons.mpr ⟨⟨m3, (ne5 L1).2.2.1⟩, List.forall_mem_cons.mpr ⟨⟨m1, (ne5 L1).2.2.2⟩, fun q hq => ⟨mN _ hq, hcn2 _ hq⟩⟩⟩⟩⟩⟩
        · intro h7 oR7 F7 N7 dR7
          k_steps
          refine hRt _ _ _ ?_
          dsimp only [TurnEnd]
          have eq1 : (#[Value.bool false].toList ++ (List.map (fun j => Value.bool (G j)) (List.range t.cps.size)).toArray.toList).toArray = ((rowF alikeF (ps.take (i + 1)) t.cps.toList).map Value.bool).toArray := by
            rw [List.take_add_one, hpq, Option.toList_some, rowF_step (by simp) G hG, htl]
            simp
          rw [eq1] at N7
          refine ⟨_, _, _, _, rfl, F7, newsSub N7 (news' := (I, oI) :: (D9, W.listOf ((rowF alikeF (ps.take (i + 1)) t.cps.toList).map Value.bool).toArray 0) :: (L1 + 1 + 1 + 1 + 1 + 1, oF) :: (L1 + 1 + 1 + 1 + 1, oS2) :: (L1 + 1 + 1 + 1, oW2) :: (L1 + 1 + 1, oR7) :: (L1 + 1, oT) :: news) ?_, ?_, rfl, _, _, oF, oS2, oW2, oR7, oT, rfl, ⟨Ne.symm (o9 _ m1), Ne.symm (o9 _ m2), Ne.symm (o9 _ m3), Ne.symm (o9 _ m4), Ne.symm (o9 _ m5)⟩, ⟨_, dF⟩, ⟨_, dS2⟩, ⟨_, dW2⟩, dR7, dT⟩
          · walk_at "sub"
          · exact List.forall_mem_cons.mpr ⟨Ne.symm (o9 _ mI), List.forall_mem_cons.mpr ⟨hI5, List.forall_mem_cons.mpr ⟨hI4, List.forall_mem_cons.mpr ⟨hI3, List.forall_mem_cons.mpr ⟨hI2, List.forall_mem_cons.mpr ⟨hI1, hIn⟩⟩⟩⟩⟩⟩
    | sign c =>
      obtain ⟨t1, u1, n1, rfl⟩ := hq
      refine unpackN_ F1 N1 (News.isTup N1 (by k_mem)) rfl rfl rfl ?_
      clear F1 N1
      intro h2 F2 N2
      k_steps
      rename_i oW2 dW2 _ oS2 dS2 _ la1 _ Fz Nz lz h3 tk3 t3 u3 v3 hR F3 N3 hk3
      obtain ⟨oth, ⟨mL, mR, m5, m4, m3, m2, m1, mI, mN⟩, N4⟩ : ∃ oth, ((la1, W.listOf #[Value.bool false] 0) ∈ oth ∧ (ra, W.listOf ((rowF alikeF (ps.take i) t.cps.toList).map Value.bool).toArray k9) ∈ oth ∧ (L1 + 1 + 1 + 1 + 1 + 1, oF) ∈ oth ∧ (L1 + 1 + 1 + 1 + 1, oS2) ∈ oth ∧ (L1 + 1 + 1 + 1, oW2) ∈ oth ∧ (L1 + 1 + 1, oR) ∈ oth ∧ (L1 + 1, oT) ∈ oth ∧ (I, oI) ∈ oth ∧ ∀ p ∈ news, p ∈ oth) ∧ News g1 L1 h3 oth :=
        ⟨_, ⟨by k_mem, by k_mem, by k_mem, by k_mem, by k_mem, by k_mem, by k_mem, by k_mem, fun p hp => by k_mem⟩, N3⟩
      clear Nz Fz N3 F2 N2
      refine LCg.CompSrc.range (n := t.cps.size) rfl F3 N4 hR (by first | exact small_k (Nat.lt_trans ht (Nat.le_of_ble_eq_true rfl)) | exact small_k (k := t.cps.size + 1) (Nat.lt_of_le_of_lt ht (Nat.le_of_ble_eq_true rfl)) | exact small_one (by omega) (by omega) (by omega) (by omega)) (by first | exact rsz_k | exact rsz_k (k := t.cps.size + 1) | (rw [rangeSize_nat]; omega)) (by first | exact szl_k (Nat.lt_trans ht (Nat.le_of_ble_eq_true rfl)) | exact szl_k (k := t.cps.size + 1) (Nat.lt_of_le_of_lt ht (Nat.le_of_ble_eq_true rfl)) | (rw [PySem.sizeLine_eq]; omega)) ?_
      intro g2
      have hG := fun (j : Nat) (d : Nat) (h : t.cps.toList[j]? = some d) => gj_of (f := alikeF) (ps := ps.take i) (q := (.sign c)) h
      generalize gj alikeF (ps.take i) t.cps.toList (.sign c) = G at hG
      refine rest_ind (n := t.cps.size) (Inv := fun i' ys nx => nx = oth ∧ ys = (List.range i').map fun j => Value.bool (G j)) ?_ ?_ t.cps.size 0 [] _ (by omega) ⟨rfl, rfl⟩
      · rintro j ys nx hj ⟨rfl, rfl⟩ v I2 oI2 C oC D2 m₂ h tk hPv hNs hmx F5 N5 hoff hne5
        obtain ⟨tv, rfl⟩ := hPv
        simp only [Int.zero_add] at hmx
        have hc : t.cps[j]? = some t.cps[j] := by simp [hj]
        generalize t.cps[j] = d at hc
        have hG := hG j d (by simpa using hc)
        have hrj : ((rowF alikeF (ps.take i) t.cps.toList).map Value.bool)[j]? = some (.bool (Mt alikeF (ps.take i) (t.cps.toList.take j))) := by rw [List.getElem?_map, rowF_get (by omega)]; rfl
        generalize Mt alikeF (ps.take i) (t.cps.toList.take j) = mb at hG hrj
        have hrl3 : ((rowF alikeF (ps.take i) t.cps.toList).map Value.bool).length < 1000000 := by simpa using hrs
        clear N4 F3
        cases mb
        all_goals k_steps
        all_goals
          refine LCg.CompEnd.intro (by assumption) (by assumption) nx (fun p hp => hp) hoff trivial ⟨rfl, ?_⟩
          rw [List.range_succ, List.map_append, List.map_singleton, hG]
          rfl
      · clear N4 F3
        rintro ys nx ⟨rfl, rfl⟩
        k_steps
        rename_i D9 _ F9 N9 l9
        have o9 : ∀ p ∈ nx, p.1 ≠ D9 := fun p hp => Nat.ne_of_lt (ktn_ltOf l9.2 p hp)
        refine st_cell2 ((I, oI) :: (L1 + 1 + 1 + 1 + 1 + 1, oF) :: (L1 + 1 + 1 + 1 + 1, oS2) :: (L1 + 1 + 1 + 1, oW2) :: (L1 + 1, oT) :: news) F9 (newsSub N9 (by
          intro q hq
          rcases List.mem_cons.mp hq with rfl | hq
          · exact .head _
          · exact .tail _ (.tail _ hq))) o9 rfl m2 ?_ dR ?_
        · exact List.forall_mem_cons.mpr ⟨⟨mI, Ne.symm hI2⟩, List.forall_mem_cons.mpr ⟨⟨m5, (ne5 L1).1⟩, List.forall_mem_cons.mpr ⟨⟨m4, (ne5 L1).2.1⟩, List.forall_mem_cons.mpr ⟨⟨m3, (ne5 L1).2.2.1⟩, List.forall_mem_cons.mpr ⟨⟨m1, (ne5 L1).2.2.2⟩, fun q hq => ⟨mN _ hq, hcn2 _ hq⟩⟩⟩⟩⟩⟩
        · intro h7 oR7 F7 N7 dR7
          k_steps
          refine hRt _ _ _ ?_
          dsimp only [TurnEnd]
          have eq1 : (#[Value.bool false].toList ++ (List.map (fun j => Value.bool (G j)) (List.range t.cps.size)).toArray.toList).toArray = ((rowF alikeF (ps.take (i + 1)) t.cps.toList).map Value.bool).toArray := by
            rw [List.take_add_one, hpq, Option.toList_some, rowF_step (by simp) G hG, htl]
            simp
          rw [eq1] at N7
          refine ⟨_, _, _, _, rfl, F7, newsSub N7 (news' := (I, oI) :: (D9, W.listOf ((rowF alikeF (ps.take (i + 1)) t.cps.toList).map Value.bool).toArray 0) :: (L1 + 1 + 1 + 1 + 1 + 1, oF) :: (L1 + 1 + 1 + 1 + 1, oS2) :: (L1 + 1 + 1 + 1, oW2) :: (L1 + 1 + 1, oR7) :: (L1 + 1, oT) :: news) ?_, ?_, rfl, _, _, oF, oS2, oW2, oR7, oT, rfl, ⟨Ne.symm (o9 _ m1), Ne.symm (o9 _ m2), Ne.symm (o9 _ m3), Ne.symm (o9 _ m4), Ne.symm (o9 _ m5)⟩, ⟨_, dF⟩, ⟨_, dS2⟩, ⟨_, dW2⟩, dR7, dT⟩
          · walk_at "sub"
          · exact List.forall_mem_cons.mpr ⟨Ne.symm (o9 _ mI), List.forall_mem_cons.mpr ⟨hI5, List.forall_mem_cons.mpr ⟨hI4, List.forall_mem_cons.mpr ⟨hI3, List.forall_mem_cons.mpr ⟨hI2, List.forall_mem_cons.mpr ⟨hI1, hIn⟩⟩⟩⟩⟩⟩
  · clear F1 N9 dF dS dW dR dT
    rintro m₁ nx h tk ⟨rfl, ra, k9, oF, oS, oW, oR, oT, rfl, ⟨hr1, hr2, hr3, hr4, hr5⟩, ⟨vF, dF⟩, ⟨vS, dS⟩, ⟨vW, dW⟩, dR, dT⟩ F1 N1
    k_steps
    refine last_b (j := t.cps.size) N1 (.head _) (by simp [rowF_len]) (v := .bool (Mt alikeF ps t.cps.toList)) ?_ ?_
    · have e := rowF_last (f := alikeF) (ps := ps.take vs.toArray.size) (t := t.cps.toList)
      rw [show t.cps.toList.length = t.cps.size by simp] at e
      rw [List.getElem?_map, e, List.take_of_length_le (by rw [← pcs_len hP]; simp)]; rfl
    · k_steps
      refine hret _ _ _ _ (by assumption) (fun p hp => ?_) ⟨rfl, rfl⟩
      with_reducible rename News _ _ _ _ => N9
      exact N9 p (by k_mem)
end Due
theorem rowsAt23 : True := by
  k_with_none
  (k_with "pick" => first | exact Pick.head | exact Pick.tail (Pick.head) | exact Pick.tail (Pick.tail (Pick.head)) | exact Pick.tail (Pick.tail (Pick.tail (Pick.head))) | exact Pick.tail (Pick.tail (Pick.tail (Pick.tail (Pick.head)))) | exact Pick.tail (Pick.tail (Pick.tail (Pick.tail (Pick.tail (Pick.head))))) | exact Pick.tail (Pick.tail (Pick.tail (Pick.tail (Pick.tail (Pick.tail (Pick.head)))))) | exact Pick.tail (Pick.tail (Pick.tail (Pick.tail (Pick.tail (Pick.tail (Pick.tail (Pick.head))))))) | exact Pick.tail (Pick.tail (Pick.tail (Pick.tail (Pick.tail (Pick.tail (Pick.tail (Pick.tail (Pick.head)))))))) | exact Pick.tail (Pick.tail (Pick.tail (Pick.tail (Pick.tail (Pick.tail (Pick.tail (Pick.tail (Pick.tail (Pick.head))))))))) | exact Pick.tail (Pick.tail (Pick.tail (Pick.tail (Pick.tail (Pick.tail (Pick.tail (Pick.tail (Pick.tail (Pick.tail (Pick.head)))))))))) | exact Pick.tail (Pick.tail (Pick.tail (Pick.tail (Pick.tail (Pick.tail (Pick.tail (Pick.tail (Pick.tail (Pick.tail (Pick.tail (Pick.head))))))))))) | exact Pick.tail (Pick.tail (Pick.tail (Pick.tail (Pick.tail (Pick.tail (Pick.tail (Pick.tail (Pick.tail (Pick.tail (Pick.tail (Pick.tail (Pick.head)))))))))))) | exact Pick.tail (Pick.tail (Pick.tail (Pick.tail (Pick.tail (Pick.tail (Pick.tail (Pick.tail (Pick.tail (Pick.tail (Pick.tail (Pick.tail (Pick.tail (Pick.head))))))))))))) | exact Pick.tail (Pick.tail (Pick.tail (Pick.tail (Pick.tail (Pick.tail (Pick.tail (Pick.tail (Pick.tail (Pick.tail (Pick.tail (Pick.tail (Pick.tail (Pick.tail (Pick.head)))))))))))))) | exact Pick.tail (Pick.tail (Pick.tail (Pick.tail (Pick.tail (Pick.tail (Pick.tail (Pick.tail (Pick.tail (Pick.tail (Pick.tail (Pick.tail (Pick.tail (Pick.tail (Pick.tail (Pick.head))))))))))))))))
  (k_with "room" => first | exact room_m 1 hd1 rfl rfl | exact room_m 2 hd1 rfl rfl | exact room_m 3 hd1 rfl rfl | exact room_0 0 hd1 rfl rfl | exact room_0 1 hd1 rfl rfl | exact room_0 2 hd1 rfl rfl | exact room_0 3 hd1 rfl rfl | (walk_say "ROOM BY OMEGA"; (try simp only [depth_under_make, depth_under_kw, depth_in1, depth_deeper, depth_caller]); (try dsimp only [ktrTop]); omega))
  (k_with "units" => first | exact unit_m 0 hu1 rfl rfl | exact unit_m 3 hu1 rfl rfl | exact unit_m 6 hu1 rfl rfl | exact unit_m 4 hu1 rfl rfl | exact unit_m 7 hu1 rfl rfl | (walk_say "UNITS BY OMEGA"; (try simp only [units_in1, units_deeper, Around.mark_units, units_caller]); (try dsimp only [ktrTop]); omega))
  (k_with "con1" => (refine' Con.use ?k1Qh ?k2Qh ?k3Qh (Pick.news ?kpQh ?k4Qh) ?k5Qh ?kKQh ?kdQh ?kuQh ?kCQh ?_; (case k1Qh => k_asm); (case k2Qh => k_asm); (case k3Qh => k_asm); (case k5Qh => k_asm); (case kKQh => first | exact rfl | assumption); rotate_left))
  (k_with "call builtin:len" => (k_here; (with_reducible show wpAny _ _ (call (Value.builtin _) [Value.ref _]) _ _ _); k_dflt (refine' len_at ?k1Qh ?k2Qh ?k3Qh ?_; (case k1Qh => k_asm); (case k2Qh => k_mem); (case k3Qh => first | assumption | exact lt100 (by assumption) rfl | (simp; done) | omega); k_whole)))
  (k_with "call builtin:str.join" => (k_here; k_dflt (refine' join_at ?k1Qh ?k2Qh ?k3Qh ?k4Qh ?_; (case k1Qh => k_asm); (case k2Qh => k_mem); (case k3Qh => assumption); (case k4Qh => assumption); k_whole); intro _ _))
  (k_with "call builtin:list.append" => (k_here; (with_reducible show wpAny _ _ (call (Value.builtin _) [Value.ref _, _]) _ _ _); k_dflt (refine' append_K ?k1Qh ?k2Qh ?k3Qh ?_ ?zQh; (case k1Qh => k_asm); (case k2Qh => k_asm); (case k3Qh => k_upd); (case zQh => assumption); k_whole); intro _ _ _; (try k_sweep)))
  (k_with "subscriptTail Name Name str int" => (k_here; (with_reducible show wpAny _ _ (subscriptTail _ _ (Value.str _ _) (Value.int (Nat.cast _) _)) _ _ _); k_dflt (refine' str_at0 ?k2Qh ?k3Qh ?_; (case k2Qh => assumption); (case k3Qh => first | exact lt100 (by assumption) rfl | exact lt10 (by assumption) rfl | omega); k_whole)))
  (k_with "subscriptTail Name Name str int" => (k_here; (with_reducible show wpAny _ _ (subscriptTail _ _ (Value.str _ _) (Value.int (_ + 1) _)) _ _ _); k_dflt (refine' str_at1 ?k2Qh ?k3Qh ?_; (case k2Qh => first | assumption | exact hc2 (by omega)); (case k3Qh => first | exact lt100 (by assumption) rfl | exact lt10 (by assumption) rfl | omega); k_whole)))
  (k_with "compareOp Eq str str" => ((with_reducible show wpAny _ _ (compareOp _ (Value.str (Str.mk #[_]) _) (Value.str (Str.mk #[_]) _)) _ _ _); refine eq_cc ?_))
  (k_with "compareOp Eq str str" => ((with_reducible show wpAny _ _ (compareOp _ (Value.str (Str.mk #[_]) _) (Value.str (Str.ofString "%") _)) _ _ _); refine eq_pct ?_))
  (k_with "compareOp Eq str str" => ((with_reducible show wpAny _ _ (compareOp _ (Value.str (Str.mk #[_]) _) (Value.str (Str.ofString "_") _)) _ _ _); refine eq_und ?_))
  (k_with "compareOp Eq str" => ((with_reducible show wpAny _ _ (compareOp _ (Value.str (Str.mk #[_]) _) (escV _ _)) _ _ _); refine eq_ce ?_))
  (k_with "compareOp IsNot" => ((with_reducible show wpAny _ _ (compareOp _ (escV _ _) Value.none) _ _ _); refine isnot_e ?_))
  (k_with "compareOp In str str" => ((with_reducible show wpAny _ _ (compareOp _ (Value.str (Str.mk #[_]) _) (Value.str (Str.ofString "%_") _)) _ _ _); refine in_pu ?_))
  (k_with "call builtin:len" => ((with_reducible show wpAny _ _ (call (Value.builtin _) [Value.str _ _]) _ _ _); refine' len_txt ?k1Qh ?_; (case k1Qh => first | exact lt100 (by assumption) rfl | exact lt10 (by assumption) rfl | omega)))
  (k_with "newTuple" => (k_here; k_dflt (refine' newTuple_my ?k1Qh ?k2Qh ?_ ?zQh; (case k1Qh => k_asm); (case k2Qh => k_asm); (case zQh => exact Nat.le_of_ble_eq_true rfl); k_whole); intro _ _ _ _ l1; (try k_lt l1); revert l1; intro _; (try k_sweep)))
  (k_with "compareOp Eq int int" => (refine eq_ii ?_))
  (k_with "enterC" => (refine' code_defC ?k1Qh ?k2Qh ?k3Qh ?k4Qh ?k5Qh ?kAQh ?kFQh ?kKQh ?k6Qh ?k7Qh ?k8Qh ?k9Qh ?kBQh ?kDQh ?_ ?c2Qh ?c3Qh ?c4Qh; (case kAQh => exact rfl); (case kFQh => exact rfl); (case kKQh => assumption); (case k1Qh => k_asm); (case k2Qh => k_asm); (case k3Qh => k_asm); (case k4Qh => k_asm); (case k5Qh => k_asm); (case k6Qh => k_is); (case k7Qh => k_is); (case k8Qh => walk_at "room"); (case k9Qh => exact BindsTo.of_eq rfl); (case kBQh => exact rfl); (case kDQh => decide +kernel); (case c2Qh => exact rfl); (case c3Qh => exact rfl); (case c4Qh => exact rfl); k_whole; walk_at "tail0"))
  (k_with "eval ListComp" => (k_here; k_dflt (refine LCg.ListComp_U (F₀ := by k_asm) (by rfl) (by decide) (by rfl) (by decide) (by rfl) ?_)))
  (k_with "eval Name" => (k_here; (with_reducible show wpAny _ _ (eval (Expr.Name _ _) (compEnvC _ _ _ _)) _ _ _); k_dflt (refine' ldC ?k1Qh ?k2Qh ?k3Qh ?k4Qh ?_; (case k1Qh => k_asm); (case k2Qh => rfl); (case k3Qh => k_mem); (case k4Qh => k_asm); k_whole)))
  (k_with "CompSrc" => fail "own")
  (k_with "exec While Compare cons nil" => show Mine.Stop _)
  (k_with "exec While BoolOp cons nil" => show Mine.Stop _)
  (k_with "enterD" => (refine' code_def ?k1Qh ?k2Qh ?k3Qh ?k4Qh ?k5Qh ?kAQh ?kFQh ?kKQh ?k6Qh ?k7Qh ?k8Qh ?k9Qh ?kBQh ?_ ?c2Qh ?c3Qh ?c4Qh ?c5Qh; (case kAQh => exact rfl); (case kFQh => exact rfl); (case kKQh => first | exact rfl | assumption); (case k1Qh => k_asm); (case k2Qh => k_asm); (case k3Qh => k_asm); (case k4Qh => k_asm); (case k5Qh => k_asm); (case k6Qh => k_is); (case k7Qh => k_is); (case k8Qh => walk_at "room"); (case k9Qh => first | exact BindsTo.of_eq rfl | exact binds_K (by k_in) rfl (by k_is) rfl rfl rfl | fail "enterD: no rule for these arguments"); (case c5Qh => decide); (case kBQh => exact locs rfl); (case c2Qh => exact rfl); (case c3Qh => exact rfl); (case c4Qh => exact rfl); k_whole; intro _ _ _ _ _ _ _ _ _; (try dsimp only); (try k_fold)))
  (k_with "makeD" => (refine' call_cls ?k1Qh ?k2Qh ?k3Qh ?k4Qh ?k5Qh ?k6Qh ?_; (case k1Qh => k_asm); (case k2Qh => k_asm); (case k3Qh => k_asm); (case k4Qh => k_is); (case k5Qh => k_is); (case k6Qh => k_is); k_whole; intro _ _ _ _ _ l1 l2; (try k_lt l1); (try k_lt2 l2); revert l1 l2; intro _ _; (try k_sweep); walk_at "enterD"))
  (k_with "subscriptTail Name Name ref int" => (k_here; (with_reducible show wpAny _ _ (subscriptTail _ _ (Value.ref _) (Value.int (Nat.cast _) _)) _ _ _); k_dflt (refine' item_nat ?k1Qh ?k2Qh ?k3Qh ?k4Qh ?_; (case k1Qh => k_asm); (case k2Qh => k_mem); (case k3Qh => assumption); (case k4Qh => first | exact lt100 (by assumption) rfl | exact lt10 (by assumption) rfl | omega); k_whole)))
  (k_with "call builtin:len" => ((with_reducible show wpAny _ _ (call (Value.builtin _) [escV _ _]) _ _ _); refine' len_e ?k1Qh ?_; (case k1Qh => assumption)))
  (k_with "sub" => ((repeat' (first | refine List.forall_mem_cons.mpr ⟨?_, ?_⟩ | exact List.mem_cons_self | (refine List.mem_cons_of_mem _ ?_; k_mem) | (exact fun x hx => by k_mem))); done))
  (k_with "ifs" => ((try dsimp only); (repeat (refine Eq.trans (if_neg (by assumption)) ?_)); (repeat (refine Eq.trans ?_ (Eq.symm (if_neg (by assumption))))); exact rfl))
  (k_with "storeName" => dsimp only)
  (k_with "eval Call" => (k_here; (with_reducible show wpAny _ _ (eval (Expr.Call (Expr.Name (Str.ofString "len") _) [Expr.Name _ _] [] _) _) _ _ _); k_dflt (refine' len1 ?FQh ?XQh ?TQh ?eQh ?hvQh ?_; (case FQh => k_asm); (case XQh => k_asm); (case TQh => k_asm); (case eQh => k_is); (case hvQh => rfl); k_whole)))
  (k_with "lt" => first | assumption | exact And.left (by assumption) | exact pj1 (by assumption) | exact pj2 (by assumption) | exact pj3 (by assumption) | exact pj4 (by assumption) | exact pj5 (by assumption) | exact pj6 (by assumption) | exact pj7 (by assumption) | exact Nat.lt_succ_of_lt (And.left (by assumption)) | exact Nat.lt_succ_of_lt (Nat.lt_succ_of_lt (And.left (by assumption))))
  (k_with "call ref" => (k_here; (with_reducible show wpAny _ _ (call (Value.ref 118) _ _) _ _ _); k_dflt (refine' take_u ?k1Qh ?k2Qh ?k3Qh (Pick.news ?kpQh ?k4Qh) ?k5Qh ?kKQh ?kdQh ?kuQh ?kneQh ?ksoQh ?ktQh ?kt1Qh ?_; (case k1Qh => k_asm); (case k2Qh => k_asm); (case k3Qh => k_asm); (case k4Qh => k_asm); (case kpQh => walk_at "pick"); (case k5Qh => k_asm); (case kKQh => first | exact rfl | assumption); (case kdQh => walk_at "room"); (case kuQh => walk_at "units"); (case kneQh => k_all); (case ksoQh => assumption); (case ktQh => first | assumption | decide | omega); (case kt1Qh => first | assumption | decide | omega); k_whole; intro _ _ _ _ _ _ _ _ _ _; (try k_sweep))))
  (k_with "call ref" => (k_here; (with_reducible show wpAny _ _ (call (Value.ref 125) _ _) _ _ _); k_dflt (refine' one_u ?k1Qh ?k2Qh ?k3Qh (Pick.news ?kpQh ?k4Qh) ?k5Qh ?kKQh ?kdQh ?kuQh ?kneQh ?ksoQh ?kmQh ?kaQh ?kbQh ?_; (case k1Qh => k_asm); (case k2Qh => k_asm); (case k3Qh => k_asm); (case k4Qh => k_asm); (case kpQh => walk_at "pick"); (case k5Qh => k_asm); (case kKQh => first | exact rfl | assumption); (case kdQh => walk_at "room"); (case kuQh => walk_at "units"); (case kneQh => k_all); (case ksoQh => assumption); (case kmQh => k_mem); (case kaQh => first | assumption | exact sz14a (by assumption) | decide | omega | (simp; done)); (case kbQh => first | assumption | exact sz14b (by assumption) | decide | omega | (simp; done)); k_whole; intro _ _ _ _ _ _ _ _; (try k_sweep))))
  (k_with "call ref" => (k_here; (with_reducible show wpAny _ _ (call (Value.ref 151) _ _) _ _ _); k_dflt (refine' signs_u ?k1Qh ?k2Qh ?k3Qh ?k4Qh ?k5Qh ?kKQh ?kdQh ?kuQh ?_; (case k1Qh => k_asm); (case k2Qh => k_asm); (case k3Qh => k_asm); (case k4Qh => k_asm); (case k5Qh => k_asm); (case kKQh => first | exact rfl | assumption); (case kdQh => walk_at "room"); (case kuQh => walk_at "units"); k_whole; intro _ _ _ _ _ _ l1' _ _ _; (try k_lt l1'); revert l1'; intro _; (try k_sweep))))
  (k_with "call ref" => (k_here; (with_reducible show wpAny _ _ (call (Value.ref 139) _ _) _ _ _); k_dflt (refine' Con.use ?k1Qh ?k2Qh ?k3Qh ?k4Qh ?k5Qh ?kKQh ?kdQh ?kuQh (pieces_c _ _ _ _ _ _ _ _ _ _ ?ktQh) ?_; (case k1Qh => k_asm); (case k2Qh => k_asm); (case k3Qh => k_asm); (case k4Qh => k_asm); (case k5Qh => k_asm); (case kKQh => first | exact rfl | assumption); (case kdQh => walk_at "room"); (case kuQh => walk_at "units"); (case ktQh => first | assumption | omega); k_whole)))
  trivial
section Text
section
variable {prog : Program} {w : World} {A : Around} {E : Value → Shared → Prop} {s : Shared} {h₀ : Heap} {L D : Addr} {news : List (Addr × Obj)} {n : Nat}
theorem truthy_nil {Q : Bool → Shared → Prop} (N : News h₀ L s.heap news) (hm : (D, W.listOf ([] : List Value).toArray n) ∈ news) (h : Q false { s with toks := s.toks + 1 + 1 }) : wpAny (model prog w) A (truthy (.ref D)) Q E s :=
  wpAny_truthy_list (PySem.IsL.isList (n := n) (N _ hm).1) (by decide) h
theorem truthy_cons {v : Value} {vs : List Value} {Q : Bool → Shared → Prop} (N : News h₀ L s.heap news) (hm : (D, W.listOf (v :: vs).toArray n) ∈ news) (hl : (v :: vs).length < 100000) (h : Q true { s with toks := s.toks + 1 + 1 }) : wpAny (model prog w) A (truthy (.ref D)) Q E s :=
  wpAny_truthy_list (PySem.IsL.isList (n := n) (N _ hm).1) (by rw [List.size_toArray]; omega) (by simpa using h)
theorem memsub {α : Type} {a b c d e : α} {l : List α} {p : α} (h : p ∈ a :: b :: c :: d :: l) : p ∈ d :: e :: a :: b :: c :: l := by
  simp only [List.mem_cons] at h ⊢
  rcases h with h | h | h | h | h <;> simp [h]
theorem nsub {news' : List (Addr × Obj)} {h : Heap} (N : News h₀ L h news) (hs : ∀ p ∈ news', p ∈ news) : News h₀ L h news' := fun p hp => N p (hs p hp)
theorem item3 {k : Int} {t : Tok} {a b c : Value} {value slice : PySem.Expr} {Q : Value → Shared → Prop} (N : News h₀ L s.heap news) (hm : (D, W.listOf #[a, b, c] n) ∈ news) (h0 : 0 ≤ k) (h3 : k < 3)
    (ha : ∃ y u, a = .str y u ∧ y.cps.size ≤ 3) (hb : ∃ y u, b = .str y u ∧ y.cps.size ≤ 3) (hc : ∃ y u, c = .str y u ∧ y.cps.size ≤ 3) (h : ∀ y u, y.cps.size ≤ 3 → Q (.str y u) s)
    (hs : subscripted slice false (.ref D) (.int k t) = operate [.ref D, .int k t] (getItem (.ref D) (.int k t)) := by with_unfolding_all rfl) :
    wpAny (model prog w) A (subscriptTail value slice (.ref D) (.int k t)) Q E s := by
  obtain ⟨y1, u1, rfl, e1⟩ := ha
  obtain ⟨y2, u2, rfl, e2⟩ := hb
  obtain ⟨y3, u3, rfl, e3⟩ := hc
  refine item_in (its := #[.str y1 u1, .str y2 u2, .str y3 u3]) N hm h0 h3 (Nat.le_of_ble_eq_true rfl) (fun v hv => ?_) hs
  change v ∈ [_, _, _] at hv
  simp only [List.mem_cons, List.not_mem_nil, or_false] at hv
  rcases hv with rfl | rfl | rfl
  · exact h _ _ e1
  · exact h _ _ e2
  · exact h _ _ e3
theorem add_tt {x y : Str} {t u : Tok} {Q : Value → Shared → Prop} (hx : x.cps.size ≤ 1000) (hy : y.cps.size ≤ 1000) (h : ∀ t' k z, z.cps.size = x.cps.size + y.cps.size → Q (.str z t') { s with toks := k }) : wpAny (model prog w) A (binaryOp .Add (.str x t) (.str y u)) Q E s :=
  PyProof.Rows.add_str (fun t' k => h t' k _ (by rw [PySem.Str.cps_append, Array.size_append])) (by rw [PySem.sizeLine_eq]; show x.cps.size + y.cps.size ≤ _; omega)
theorem sl_le (x : Str) (l u : Option Int) (n : Nat) (h : x.cps.size ≤ n) : (Txt.slice x l u).cps.size ≤ n := Nat.le_trans (Txt.slice_le x l u) h
theorem add_tm {x : Str} {t : Tok} {r : Value} {its : Array Value} {Q : Value → Shared → Prop} (hr : r ∈ its.toList) (hq : ∀ v ∈ its.toList, ∃ c u, v = .str ⟨#[c]⟩ u) (hx : x.cps.size ≤ 30)
    (h : ∀ t' k z, z.cps.size ≤ 31 → Q (.str z t') { s with toks := k }) : wpAny (model prog w) A (binaryOp .Add (.str x t) r) Q E s := by
  obtain ⟨c, u, rfl⟩ := hq _ hr
  exact add_tt (by omega) (Nat.le_of_ble_eq_true rfl) fun t' k z hz => h t' k z (by rw [hz]; exact Nat.succ_le_succ hx)
theorem add_ss {x y : Str} {t u : Tok} {Q : Value → Shared → Prop} (hx : x.cps.size ≤ 31) (hy : y.cps.size ≤ 30) (h : ∀ t' k z, z.cps.size < 100 → Q (.str z t') { s with toks := k }) : wpAny (model prog w) A (binaryOp .Add (.str x t) (.str y u)) Q E s :=
  add_tt (by omega) (by omega) fun t' k z hz => h t' k z (by omega)
theorem z3 {x y z i : Nat} (hz : z = x + y) (hx : x ≤ 3 * i) (hy : y ≤ 3) : z ≤ 3 * (i + 1) := by omega
theorem fd_a {n : Nat} (h : n ≤ 30) : (1 : Int) ≤ (n : Int) + 1 := Int.ofNat_le.mpr (Nat.succ_le_succ (Nat.zero_le n))
theorem fd_b {n : Nat} (h : n ≤ 30) : (n : Int) + 1 < 1000 := Int.ofNat_lt.mpr (Nat.lt_of_le_of_lt (Nat.succ_le_succ h) (Nat.le_of_ble_eq_true rfl))
theorem lt_lit {n m k : Nat} (h : n ≤ m) (e : Nat.blt m k = true) : n < k := Nat.lt_of_le_of_lt h (Nat.le_of_ble_eq_true e)
theorem jn_sz (l : List Nat) : (jn (l.map fun c => (⟨#[c]⟩ : Str))).cps.size = l.length := by rw [jn_one]; simp
theorem size_app (a b : Str) : (a ++ b).cps.size = a.cps.size + b.cps.size := by rw [PySem.Str.cps_append, Array.size_append]
end
theorem rowsAt24 : True := by
  (k_with "CompSrc" => show Mine.Stop _)
  (k_with "binaryOp Add str str" => (refine' add_tt ?aQh ?bQh ?_; (case aQh => first | exact le_lit (by assumption) rfl | omega); (case bQh => first | exact le_lit (by assumption) rfl | omega); intro _ _ _ _))
  (k_with "binaryOp Add str" => (refine' add_tm ?mQh ?qQh ?aQh ?_; (case mQh => assumption); (case qQh => assumption); (case aQh => first | assumption | (refine sl_le _ _ _ _ ?_; assumption)); intro _ _ _ _))
  (k_with "binaryOp Add str str" => ((with_reducible show wpAny _ _ (binaryOp _ _ (Value.str (Txt.slice _ _ _) _)) _ _ _); refine' add_ss ?aQh ?bQh ?_; (case aQh => first | assumption | (refine sl_le _ _ _ _ ?_; first | exact le_lit (by assumption) rfl | omega)); (case bQh => (refine sl_le _ _ _ _ ?_; assumption)); intro _ _ _ _))
  (k_with "truthy ref" => (k_here; k_dflt (refine' truthy_nil ?k1Qh ?k2Qh ?_; (case k1Qh => k_asm); (case k2Qh => k_mem); k_whole)))
  (k_with "truthy ref" => (k_here; k_dflt (refine' truthy_cons ?k1Qh ?k2Qh ?k3Qh ?_; (case k1Qh => k_asm); (case k2Qh => k_mem); (case k3Qh => first | assumption | omega); k_whole)))
  (k_with "call builtin:str.swapcase" => (refine PyProof.Rows.SCL.swapcase (Nat.le_of_ble_eq_true rfl) ?_; intro _))
  (k_with "subscriptTail List" => (k_here; (with_reducible show wpAny _ _ (subscriptTail _ _ (Value.ref _) (Value.int _ _)) _ _ _); k_dflt (refine' item3 ?k1Qh ?k2Qh ?k3Qh ?k4Qh ?aQh ?bQh ?cQh ?_; (case k1Qh => k_asm); (case k2Qh => k_mem); (case k3Qh => assumption); (case k4Qh => assumption); (case aQh => exact ⟨_, _, rfl, Nat.le_of_ble_eq_true rfl⟩); (case bQh => exact ⟨_, _, rfl, Nat.le_of_ble_eq_true rfl⟩); (case cQh => first | exact ⟨_, _, rfl, Nat.le_of_ble_eq_true rfl⟩ | exact ⟨_, _, rfl, hsw⟩ | (refine ⟨_, _, rfl, ?_⟩; assumption)); k_whole); intro _ _ _))
  trivial
theorem fr_ex {h₀ h : Heap} {L : Addr} {m : Str → Option Value} (F : Fr h₀ L h m) : ∃ mm, mm = m ∧ Fr h₀ L h mm := ⟨m, rfl, F⟩
def TF (m0 m : Str → Option Value) (fd : Str) : Prop :=
  (∃ t, m (Str.ofString "found") = some (.str fd t)) ∧ ∀ y, y ≠ Str.ofString "found" → y ≠ Str.ofString "word" → y ≠ Str.ofString "sign" → y ≠ Str.ofString "many" → m y = m0 y
theorem TF.eq {m0 m : Str → Option Value} {fd : Str} (h : TF m0 m fd) : ∃ t a b c, m = fun y => if y = Str.ofString "found" then some (.str fd t) else if y = Str.ofString "word" then a else if y = Str.ofString "sign" then b else if y = Str.ofString "many" then c else m0 y := by
  obtain ⟨⟨t1, e1⟩, e5⟩ := h
  refine ⟨t1, m (Str.ofString "word"), m (Str.ofString "sign"), m (Str.ofString "many"), ?_⟩
  funext y
  by_cases h1 : y = Str.ofString "found"
  · rw [if_pos h1, h1, e1]
  · rw [if_neg h1]
    by_cases h2 : y = Str.ofString "word"
    · rw [if_pos h2, h2]
    · rw [if_neg h2]
      by_cases h3 : y = Str.ofString "sign"
      · rw [if_pos h3, h3]
      · rw [if_neg h3]
        by_cases h4 : y = Str.ofString "many"
        · rw [if_pos h4, h4]
        · rw [if_neg h4]; exact e5 y h1 h2 h3 h4
def TJ (L : Addr) (sa : Addr) (oS : Obj) (rest2 : List (Addr × Obj)) (m0 : Str → Option Value) (i : Nat) (m : Str → Option Value) (nx : List (Addr × Obj)) : Prop :=
  ∃ so fd, SrcOk so ∧ nx = (sa, so) :: (L + 1, oS) :: rest2 ∧ TF m0 m fd ∧ fd.cps.size ≤ 3 * i
theorem pcs_get' {tup : List (Addr × Obj)} {vs : List Value} {ps : List Pc} (h : PcsAre tup vs ps) : ∀ {i : Nat} {v : Value}, vs[i]? = some v → ∃ a o q, v = .ref a ∧ (a, o) ∈ tup ∧ PcObj o q := by
  induction h with
  | nil => intro i v h; simp at h
  | cons h1 h2 _ ih =>
    intro i v h
    cases i with
    | zero => simp at h; subst h; exact ⟨_, _, _, rfl, h1, h2⟩
    | succ i => exact ih (by simpa using h)
def TQ (s : Shared) (g1 : Heap) (L1 : Addr) (mm : Str → Option Value) (sa : Addr) (so oS : Obj) (rest : List (Addr × Obj)) (v : Value) (s2 : Shared) : Prop :=
  ∃ la vs2 k2 ps2 rest2 h2 tk2, v = .ref la ∧ s2 = { s with heap := h2, toks := tk2 } ∧ Fr g1 L1 h2 mm ∧ News g1 L1 h2 ((sa, so) :: (L1 + 1, oS) :: rest2) ∧ (la, W.listOf vs2.toArray k2) ∈ rest2 ∧ PcsAre rest2 vs2 ps2 ∧ (∀ p ∈ rest, p ∈ rest2) ∧ (∀ p ∈ rest2, p.1 ≠ sa) ∧ (∀ p ∈ rest2, p.1 ≠ L1 + 1) ∧ vs2.length < 10
theorem tq_new {s : Shared} {g1 h9 : Heap} {L1 la ta sa : Addr} {mm : Str → Option Value} {so oS : Obj} {rest : List (Addr × Obj)} {tok : Tok} {tk : Nat} {P P' : Prop} (F9 : Fr g1 L1 h9 mm)
    (N9 : News g1 L1 h9 ((la, W.listOf #[.ref ta] 0) :: (ta, tupOf #[.str (Str.ofString "any") tok, .none]) :: (L1 + 1, oS) :: (sa, so) :: rest)) (l1 : L1 + 1 < ta ∧ sa < ta ∧ P) (l2 : ta < la ∧ L1 + 1 < la ∧ sa < la ∧ P')
    (hne : ∀ p ∈ rest, p.1 ≠ sa) (hc1 : ∀ p ∈ rest, p.1 ≠ L1 + 1) : TQ s g1 L1 mm sa so oS rest (.ref la) { s with heap := h9, toks := tk } := by
  refine ⟨la, [.ref ta], 0, [.any], (la, W.listOf #[.ref ta] 0) :: (ta, tupOf #[.str (Str.ofString "any") tok, .none]) :: rest, h9, tk, rfl, rfl, F9, nsub N9 ?_, .head _, .cons (.tail _ (.head _)) ⟨_, _, rfl⟩ .nil, fun p hp => .tail _ (.tail _ hp), ?_, ?_, by simp⟩
  · walk_at "sub"
  · exact List.forall_mem_cons.mpr ⟨Ne.symm (Nat.ne_of_lt l2.2.2.1), List.forall_mem_cons.mpr ⟨Ne.symm (Nat.ne_of_lt l1.2.1), hne⟩⟩
  · exact List.forall_mem_cons.mpr ⟨Ne.symm (Nat.ne_of_lt l2.2.1), List.forall_mem_cons.mpr ⟨Ne.symm (Nat.ne_of_lt l1.1), hc1⟩⟩
theorem text_c (w : World) (loose : List Str) (mean : ExcName → Option Value) (mg mb : Str → Option Value) (rest : List (Addr × Obj)) (sa : Addr) (so : Obj) (pv : Value) (hne : ∀ p ∈ rest, p.1 ≠ sa) (hs : SrcOk so)
    (hp : pv = .none ∨ ∃ fa vs k ps, pv = .ref fa ∧ (fa, W.listOf vs.toArray k) ∈ rest ∧ PcsAre rest vs ps ∧ vs.length < 10) :
    Con w loose mean mg mb 161 ((sa, so) :: rest) [.ref sa, pv] 6 (fun news' r => ∃ so', SrcOk so' ∧ news' = (sa, so') :: rest ∧ ∃ t u, r = .str t u ∧ t.cps.size < 100) := by
  unfold Con
  k_fill
  intro dp un gd cn cs ad ccd cl outer A₀ base h₀ L m s Q E B F X N T hk hd1 hu1 hret
  refine wpAny_call ?_
  k_dflt walk_at "enterC"
  k_steps
  rename_i g1 L1 h1 tk1 FG1 B1 X1 T1 l1c oS dS h2 F1 N1
  have hc1 : ∀ p ∈ rest, p.1 ≠ L1 + 1 := fun p hp => Nat.ne_of_lt (Nat.lt_succ_of_lt (ktn_ltOf l1c.2 p hp))
  have hsL : sa ≠ L1 + 1 := Nat.ne_of_lt (Nat.lt_succ_of_lt l1c.1)
  obtain ⟨mm, hmm, F2⟩ := fr_ex F1
  refine wpAny_For ?_
  refine wpAny_mono (Q := TQ s g1 L1 mm sa so oS rest) ?_ ?_ (fun _ _ e => e)
  · clear F2
    rcases hp with rfl | ⟨fa, vs, k, ps, rfl, hm, hP, hl⟩
    · k_steps
      rename_i ta _ l1 la h9 F9 N9 l2
      rw [← hmm] at F9
      exact tq_new F9 N9 l1 l2 hne hc1
    · cases vs with
      | nil =>
        k_steps
        rename_i ta _ l1 la h9 F9 N9 l2
        rw [← hmm] at F9
        exact tq_new F9 N9 l1 l2 hne hc1
      | cons v0 vs =>
        k_steps
        rw [← hmm] at F1
        exact ⟨fa, _, _, ps, rest, _, _, rfl, rfl, F1, swp N1, hm, hP, fun p hp => hp, hne, hc1, hl⟩
  · clear F1 N1
    rintro v s2 ⟨la, vs2, k2, ps2, rest2, h2, tk2, rfl, rfl, F1, N1, hm, hP, hsub, hne1, hne2, hl⟩
    clear F2
    refine for_list (its := vs2.toArray) (k := k2) rfl F1 N1 ?_ (TJ L1 sa oS rest2) ?_ ?_ ?_ ?_
    · intro I i s' v Q' h1 h2
      cases v with
      | ref T => exact wpAny_letOwnedTupleGo_listiter h1 h2
      | _ => exact wpAny_pure h2
    · rintro i m₁ nx ⟨so, fd, _, rfl, _⟩
      k_mem
    · subst hmm
      exact ⟨so, _, hs, rfl, ⟨⟨_, rfl⟩, fun y _ _ _ _ => rfl⟩, Nat.zero_le _⟩
    · clear F1 N1
      rintro i v m₁ nx h tk I oI hv ⟨so, fd, hs, rfl, hTF, hfd⟩ hne F1 N1
      refine abs_turn2 fun Rt g5 d5 o5 hRt => ?_
      subst hmm
      obtain ⟨tu, ua, ub, uc, rfl⟩ := hTF.eq
      dsimp only at F1
      have hi10 : i < 10 := by
        exact Nat.lt_trans (Array.getElem?_eq_some_iff.mp hv).1 hl
      have hfd9 : fd.cps.size ≤ 30 := Nat.le_trans hfd (Nat.mul_le_mul_left 3 (Nat.le_of_lt hi10))
      obtain ⟨hI0, hne⟩ := List.forall_mem_cons.mp hne
      obtain ⟨hI1, hIn⟩ := List.forall_mem_cons.mp hne
      have hI0 : sa ≠ I := hI0
      have hI1 : L1 + 1 ≠ I := hI1
      obtain ⟨a, o, q, rfl, hao, hq⟩ := pcs_get' hP (by simpa using hv)
      cases q with
      | any =>
        obtain ⟨t1, n1, rfl⟩ := hq
        refine unpackN_ F1 N1 (News.isTup N1 (by k_mem)) rfl rfl rfl ?_
        clear F1 N1
        intro h2 F2 N2
        k_steps
        unfold Stop
        rename_i so2 hs2 d td hda hdb _ Fz Nz h3 tk3 t3 u3 v3 hR F3 N3 hk3
        obtain ⟨k, rfl⟩ := Int.eq_ofNat_of_zero_le hda
        have hk3 : k ≤ 3 := Int.ofNat_le.mp (Int.le_of_lt hdb)
        have hk5 : k < 100000 := lt_lit hk3 rfl
        obtain ⟨oth, ⟨mS, mI, mN, hoa⟩, N4⟩ : ∃ oth, ((L1 + 1, oS) ∈ oth ∧ (I, oI) ∈ oth ∧ (∀ p ∈ rest2, p ∈ oth) ∧ ∀ p ∈ oth, p.1 ≠ sa) ∧ News g1 L1 h3 ((sa, so2) :: oth) :=
          ⟨_, ⟨by k_mem, by k_mem, fun p hp => by k_mem, by exact List.forall_mem_cons.mpr ⟨Ne.symm hI0, List.forall_mem_cons.mpr ⟨Ne.symm hsL, hne1⟩⟩⟩, N3⟩
        clear Nz Fz N3 F2 N2
        refine LCg.CompSrc.range (n := k) rfl F3 N4 hR (small_k hk5) rsz_k (szl_k hk5) ?_
        intro g2
        refine rest_ind (n := k) (Inv := fun i ys nx => (∃ so3, SrcOk so3 ∧ nx = (sa, so3) :: oth) ∧ ys.length = i ∧ ∀ y ∈ ys, ∃ c u, y = .str ⟨#[c]⟩ u) ?_ ?_ k 0 [] _ (Nat.zero_add k) ⟨⟨_, hs2, rfl⟩, rfl, by simp⟩
        · rintro j ys nx hj ⟨⟨so3, hs3, rfl⟩, hyl, hys⟩ v I2 oI2 C oC D2 m₂ h tk hPv hNs hmx F5 N5 hoff hne5
          obtain ⟨tv, rfl⟩ := hPv
          obtain ⟨⟨hI', hC', hD'⟩, hoff2⟩ := hoff
          clear N4 F3
          k_steps
          rename_i r4 h4 tk4 F6 so4 hs4 hr4 N6
          with_reducible rename (∀ v ∈ Array.toList _, _) => hq9
          refine LCg.CompEnd.intro F6 N6 ((sa, so4) :: oth) (fun p hp => memsub hp) ⟨⟨hI', hC', hD'⟩, hoff2⟩ trivial ⟨⟨so4, hs4, rfl⟩, by rw [List.length_append, List.length_singleton, hyl], ?_⟩
          intro y hy
          rcases List.mem_append.mp hy with hy | hy
          · exact hys y hy
          · rw [List.mem_singleton.mp hy]; exact hq9 _ hr4
        · clear N4 F3
          rintro ys nx ⟨⟨so3, hs3, rfl⟩, hyl, hys⟩
          obtain ⟨cs9, hcs1, hcs2⟩ := strs_of hys
          have hcs9 : cs9.length ≤ 3 := by rw [hcs2, hyl]; exact hk3
          have hln : ((cs9.map fun c => (⟨#[c]⟩ : Str)).map (·.length)).sum ≤ 100000 := by
            rw [sum_ones (by intro y hy; obtain ⟨c, _, rfl⟩ := List.mem_map.mp hy; rfl), List.length_map]; exact Nat.le_trans hcs9 (Nat.le_of_ble_eq_true rfl)
          have hjz : (jn (cs9.map fun c => (⟨#[c]⟩ : Str))).cps.size ≤ 3 := jn_sz cs9 ▸ hcs9
          k_steps
          rename Fr _ _ _ _ => F9
          rename News _ _ _ _ => N9
          with_reducible rename (Array.size _ = _ + _) => hz9
          refine hRt _ _ _ ?_
          dsimp only [TurnEnd]
          refine ⟨_, _, _, (sa, so3) :: (L1 + 1, oS) :: rest2, rfl, F9, nsub N9 ?_, List.forall_mem_cons.mpr ⟨hI0, List.forall_mem_cons.mpr ⟨hI1, hIn⟩⟩, so3, _, hs3, rfl, ⟨⟨_, rfl⟩, fun y h1 h2 h3 h4 => by walk_at "ifs"⟩, z3 hz9 hfd (by assumption)⟩
          exact List.forall_mem_cons.mpr ⟨.tail _ (.tail _ mI), List.forall_mem_cons.mpr ⟨.tail _ (.head _), List.forall_mem_cons.mpr ⟨.tail _ (.tail _ mS), fun p hp => .tail _ (.tail _ (mN _ hp))⟩⟩⟩
      | one =>
        obtain ⟨t1, n1, rfl⟩ := hq
        refine unpackN_ F1 N1 (News.isTup N1 (by k_mem)) rfl rfl rfl ?_
        clear F1 N1
        intro h2 F2 N2
        k_steps
        rename_i r4 h4 tk4 F6 so4 hs4 hr4 N6
        with_reducible rename (∀ v ∈ Array.toList _, _) => hq9
        obtain ⟨c9, u9, rfl⟩ := hq9 _ hr4
        have hcs1 : StrsAre [Value.str ⟨#[c9]⟩ u9] ([c9].map fun c => (⟨#[c]⟩ : Str)) := .cons _ _ .nil
        have hln : (([c9].map fun c => (⟨#[c]⟩ : Str)).map (·.length)).sum ≤ 100000 := Nat.le_of_ble_eq_true rfl
        have hjz : (jn ([c9].map fun c => (⟨#[c]⟩ : Str))).cps.size ≤ 3 := le_lit (Nat.le_of_eq (jn_sz [c9])) rfl
        refine LCg.CompEnd.intro F6 N6 ((I, oI) :: (sa, so4) :: (L1 + 1, oS) :: rest2) ?_ (by assumption) trivial ?_
        · walk_at "sub"
        · k_steps
          rename Fr _ _ _ _ => F9
          rename News _ _ _ _ => N9
          with_reducible rename (Array.size _ = _ + _) => hz9
          refine hRt _ _ _ ?_
          dsimp only [TurnEnd]
          refine ⟨_, _, _, (sa, so4) :: (L1 + 1, oS) :: rest2, rfl, F9, nsub N9 ?_, List.forall_mem_cons.mpr ⟨hI0, List.forall_mem_cons.mpr ⟨hI1, hIn⟩⟩, so4, _, hs4, rfl, ⟨⟨_, rfl⟩, fun y h1 h2 h3 h4 => by walk_at "ifs"⟩, z3 hz9 hfd (by assumption)⟩
          walk_at "sub"
      | sign c =>
        obtain ⟨t1, u1, n1, rfl⟩ := hq
        refine unpackN_ F1 N1 (News.isTup N1 (by k_mem)) rfl rfl rfl ?_
        clear F1 N1
        intro h2 F2 N2
        k_steps
        all_goals
          rename Fr _ _ _ _ => F9
          rename News _ _ _ _ => N9
          with_reducible rename SrcOk _ => hs9
          with_reducible rename (Array.size _ = _ + _) => hz9
          refine hRt _ _ _ ?_
          dsimp only [TurnEnd]
          refine ⟨_, _, _, (sa, _) :: (L1 + 1, oS) :: rest2, rfl, F9, nsub N9 ?_, List.forall_mem_cons.mpr ⟨hI0, List.forall_mem_cons.mpr ⟨hI1, hIn⟩⟩, _, _, hs9, rfl, ⟨⟨_, rfl⟩, fun y h1 h2 h3 h4 => by walk_at "ifs"⟩, z3 hz9 hfd (by assumption)⟩
          walk_at "sub"
    · clear F1 N1
      rintro m₁ nx h tk ⟨so, fd, hs, rfl, hTF, hfd⟩ F1 N1
      subst hmm
      obtain ⟨tu, ua, ub, uc, rfl⟩ := hTF.eq
      dsimp only at F1
      have hfd9 : fd.cps.size ≤ 30 := Nat.le_trans hfd (Nat.mul_le_mul_left 3 (Nat.le_of_lt hl))
      have hfd8 := fd_a hfd9
      have hfd7 := fd_b hfd9
      have hfd6 : fd.cps.size < 100000 := lt_lit hfd9 rfl
      k_steps
      all_goals
        with_reducible rename News _ _ _ _ => N9
        with_reducible rename SrcOk _ => hs9
        refine hret _ _ _ _ (by assumption) (nsub N9 ?_) ⟨_, hs9, rfl, _, _, rfl, by first | assumption | exact lt_lit hfd9 rfl | omega⟩
        intro p hp
        rcases List.mem_cons.mp hp with hp | hp
        · simp [hp]
        · have hp2 := hsub _ hp
          simp [hp2]
end Text
theorem rowsAt25 : True := by
  k_with_none
  (k_with "pick" => first | exact Pick.head | exact Pick.tail (Pick.head) | exact Pick.tail (Pick.tail (Pick.head)) | exact Pick.tail (Pick.tail (Pick.tail (Pick.head))) | exact Pick.tail (Pick.tail (Pick.tail (Pick.tail (Pick.head)))) | exact Pick.tail (Pick.tail (Pick.tail (Pick.tail (Pick.tail (Pick.head))))) | exact Pick.tail (Pick.tail (Pick.tail (Pick.tail (Pick.tail (Pick.tail (Pick.head)))))) | exact Pick.tail (Pick.tail (Pick.tail (Pick.tail (Pick.tail (Pick.tail (Pick.tail (Pick.head))))))) | exact Pick.tail (Pick.tail (Pick.tail (Pick.tail (Pick.tail (Pick.tail (Pick.tail (Pick.tail (Pick.head)))))))) | exact Pick.tail (Pick.tail (Pick.tail (Pick.tail (Pick.tail (Pick.tail (Pick.tail (Pick.tail (Pick.tail (Pick.head))))))))) | exact Pick.tail (Pick.tail (Pick.tail (Pick.tail (Pick.tail (Pick.tail (Pick.tail (Pick.tail (Pick.tail (Pick.tail (Pick.head)))))))))) | exact Pick.tail (Pick.tail (Pick.tail (Pick.tail (Pick.tail (Pick.tail (Pick.tail (Pick.tail (Pick.tail (Pick.tail (Pick.tail (Pick.head))))))))))) | exact Pick.tail (Pick.tail (Pick.tail (Pick.tail (Pick.tail (Pick.tail (Pick.tail (Pick.tail (Pick.tail (Pick.tail (Pick.tail (Pick.tail (Pick.head)))))))))))) | exact Pick.tail (Pick.tail (Pick.tail (Pick.tail (Pick.tail (Pick.tail (Pick.tail (Pick.tail (Pick.tail (Pick.tail (Pick.tail (Pick.tail (Pick.tail (Pick.head))))))))))))) | exact Pick.tail (Pick.tail (Pick.tail (Pick.tail (Pick.tail (Pick.tail (Pick.tail (Pick.tail (Pick.tail (Pick.tail (Pick.tail (Pick.tail (Pick.tail (Pick.tail (Pick.head)))))))))))))) | exact Pick.tail (Pick.tail (Pick.tail (Pick.tail (Pick.tail (Pick.tail (Pick.tail (Pick.tail (Pick.tail (Pick.tail (Pick.tail (Pick.tail (Pick.tail (Pick.tail (Pick.tail (Pick.head))))))))))))))))
  (k_with "room" => first | exact room_m 1 hd1 rfl rfl | exact room_m 2 hd1 rfl rfl | exact room_m 3 hd1 rfl rfl | exact room_0 0 hd1 rfl rfl | exact room_0 1 hd1 rfl rfl | exact room_0 2 hd1 rfl rfl | exact room_0 3 hd1 rfl rfl | (walk_say "ROOM BY OMEGA"; (try simp only [depth_under_make, depth_under_kw, depth_in1, depth_deeper, depth_caller]); (try dsimp only [ktrTop]); omega))
  (k_with "units" => first | exact unit_m 0 hu1 rfl rfl | exact unit_m 3 hu1 rfl rfl | exact unit_m 6 hu1 rfl rfl | exact unit_m 4 hu1 rfl rfl | exact unit_m 7 hu1 rfl rfl | (walk_say "UNITS BY OMEGA"; (try simp only [units_in1, units_deeper, Around.mark_units, units_caller]); (try dsimp only [ktrTop]); omega))
  (k_with "con1" => (refine' Con.use ?k1Qh ?k2Qh ?k3Qh (Pick.news ?kpQh ?k4Qh) ?k5Qh ?kKQh ?kdQh ?kuQh ?kCQh ?_; (case k1Qh => k_asm); (case k2Qh => k_asm); (case k3Qh => k_asm); (case k5Qh => k_asm); (case kKQh => first | exact rfl | assumption); rotate_left))
  (k_with "call builtin:len" => (k_here; (with_reducible show wpAny _ _ (call (Value.builtin _) [Value.ref _]) _ _ _); k_dflt (refine' len_at ?k1Qh ?k2Qh ?k3Qh ?_; (case k1Qh => k_asm); (case k2Qh => k_mem); (case k3Qh => first | assumption | exact lt100 (by assumption) rfl | (simp; done) | omega); k_whole)))
  (k_with "call builtin:str.join" => (k_here; k_dflt (refine' join_at ?k1Qh ?k2Qh ?k3Qh ?k4Qh ?_; (case k1Qh => k_asm); (case k2Qh => k_mem); (case k3Qh => assumption); (case k4Qh => assumption); k_whole); intro _ _))
  (k_with "call builtin:list.append" => (k_here; (with_reducible show wpAny _ _ (call (Value.builtin _) [Value.ref _, _]) _ _ _); k_dflt (refine' append_K ?k1Qh ?k2Qh ?k3Qh ?_ ?zQh; (case k1Qh => k_asm); (case k2Qh => k_asm); (case k3Qh => k_upd); (case zQh => assumption); k_whole); intro _ _ _; (try k_sweep)))
  (k_with "subscriptTail Name Name str int" => (k_here; (with_reducible show wpAny _ _ (subscriptTail _ _ (Value.str _ _) (Value.int (Nat.cast _) _)) _ _ _); k_dflt (refine' str_at0 ?k2Qh ?k3Qh ?_; (case k2Qh => assumption); (case k3Qh => first | exact lt100 (by assumption) rfl | exact lt10 (by assumption) rfl | omega); k_whole)))
  (k_with "subscriptTail Name Name str int" => (k_here; (with_reducible show wpAny _ _ (subscriptTail _ _ (Value.str _ _) (Value.int (_ + 1) _)) _ _ _); k_dflt (refine' str_at1 ?k2Qh ?k3Qh ?_; (case k2Qh => first | assumption | exact hc2 (by omega)); (case k3Qh => first | exact lt100 (by assumption) rfl | exact lt10 (by assumption) rfl | omega); k_whole)))
  (k_with "compareOp Eq str str" => ((with_reducible show wpAny _ _ (compareOp _ (Value.str (Str.mk #[_]) _) (Value.str (Str.mk #[_]) _)) _ _ _); refine eq_cc ?_))
  (k_with "compareOp Eq str str" => ((with_reducible show wpAny _ _ (compareOp _ (Value.str (Str.mk #[_]) _) (Value.str (Str.ofString "%") _)) _ _ _); refine eq_pct ?_))
  (k_with "compareOp Eq str str" => ((with_reducible show wpAny _ _ (compareOp _ (Value.str (Str.mk #[_]) _) (Value.str (Str.ofString "_") _)) _ _ _); refine eq_und ?_))
  (k_with "compareOp Eq str" => ((with_reducible show wpAny _ _ (compareOp _ (Value.str (Str.mk #[_]) _) (escV _ _)) _ _ _); refine eq_ce ?_))
  (k_with "compareOp IsNot" => ((with_reducible show wpAny _ _ (compareOp _ (escV _ _) Value.none) _ _ _); refine isnot_e ?_))
  (k_with "compareOp In str str" => ((with_reducible show wpAny _ _ (compareOp _ (Value.str (Str.mk #[_]) _) (Value.str (Str.ofString "%_") _)) _ _ _); refine in_pu ?_))
  (k_with "call builtin:len" => ((with_reducible show wpAny _ _ (call (Value.builtin _) [Value.str _ _]) _ _ _); refine' len_txt ?k1Qh ?_; (case k1Qh => first | exact lt100 (by assumption) rfl | exact lt10 (by assumption) rfl | omega)))
  (k_with "newTuple" => (k_here; k_dflt (refine' newTuple_my ?k1Qh ?k2Qh ?_ ?zQh; (case k1Qh => k_asm); (case k2Qh => k_asm); (case zQh => exact Nat.le_of_ble_eq_true rfl); k_whole); intro _ _ _ _ l1; (try k_lt l1); revert l1; intro _; (try k_sweep)))
  (k_with "compareOp Eq int int" => (refine eq_ii ?_))
  (k_with "enterC" => (refine' code_defC ?k1Qh ?k2Qh ?k3Qh ?k4Qh ?k5Qh ?kAQh ?kFQh ?kKQh ?k6Qh ?k7Qh ?k8Qh ?k9Qh ?kBQh ?kDQh ?_ ?c2Qh ?c3Qh ?c4Qh; (case kAQh => exact rfl); (case kFQh => exact rfl); (case kKQh => assumption); (case k1Qh => k_asm); (case k2Qh => k_asm); (case k3Qh => k_asm); (case k4Qh => k_asm); (case k5Qh => k_asm); (case k6Qh => k_is); (case k7Qh => k_is); (case k8Qh => walk_at "room"); (case k9Qh => exact BindsTo.of_eq rfl); (case kBQh => exact rfl); (case kDQh => decide +kernel); (case c2Qh => exact rfl); (case c3Qh => exact rfl); (case c4Qh => exact rfl); k_whole; walk_at "tail0"))
  (k_with "eval ListComp" => (k_here; k_dflt (refine LCg.ListComp_U (F₀ := by k_asm) (by rfl) (by decide) (by rfl) (by decide) (by rfl) ?_)))
  (k_with "eval Name" => (k_here; (with_reducible show wpAny _ _ (eval (Expr.Name _ _) (compEnvC _ _ _ _)) _ _ _); k_dflt (refine' ldC ?k1Qh ?k2Qh ?k3Qh ?k4Qh ?_; (case k1Qh => k_asm); (case k2Qh => rfl); (case k3Qh => k_mem); (case k4Qh => k_asm); k_whole)))
  (k_with "CompSrc" => fail "own")
  (k_with "exec While Compare cons nil" => show Mine.Stop _)
  (k_with "exec While BoolOp cons nil" => show Mine.Stop _)
  (k_with "enterD" => (refine' code_def ?k1Qh ?k2Qh ?k3Qh ?k4Qh ?k5Qh ?kAQh ?kFQh ?kKQh ?k6Qh ?k7Qh ?k8Qh ?k9Qh ?kBQh ?_ ?c2Qh ?c3Qh ?c4Qh ?c5Qh; (case kAQh => exact rfl); (case kFQh => exact rfl); (case kKQh => first | exact rfl | assumption); (case k1Qh => k_asm); (case k2Qh => k_asm); (case k3Qh => k_asm); (case k4Qh => k_asm); (case k5Qh => k_asm); (case k6Qh => k_is); (case k7Qh => k_is); (case k8Qh => walk_at "room"); (case k9Qh => first | exact BindsTo.of_eq rfl | exact binds_K (by k_in) rfl (by k_is) rfl rfl rfl | fail "enterD: no rule for these arguments"); (case c5Qh => decide); (case kBQh => exact locs rfl); (case c2Qh => exact rfl); (case c3Qh => exact rfl); (case c4Qh => exact rfl); k_whole; intro _ _ _ _ _ _ _ _ _; (try dsimp only); (try k_fold)))
  (k_with "makeD" => (refine' call_cls ?k1Qh ?k2Qh ?k3Qh ?k4Qh ?k5Qh ?k6Qh ?_; (case k1Qh => k_asm); (case k2Qh => k_asm); (case k3Qh => k_asm); (case k4Qh => k_is); (case k5Qh => k_is); (case k6Qh => k_is); k_whole; intro _ _ _ _ _ l1 l2; (try k_lt l1); (try k_lt2 l2); revert l1 l2; intro _ _; (try k_sweep); walk_at "enterD"))
  (k_with "subscriptTail Name Name ref int" => (k_here; (with_reducible show wpAny _ _ (subscriptTail _ _ (Value.ref _) (Value.int (Nat.cast _) _)) _ _ _); k_dflt (refine' item_nat ?k1Qh ?k2Qh ?k3Qh ?k4Qh ?_; (case k1Qh => k_asm); (case k2Qh => k_mem); (case k3Qh => assumption); (case k4Qh => first | exact lt100 (by assumption) rfl | exact lt10 (by assumption) rfl | omega); k_whole)))
  (k_with "call builtin:len" => ((with_reducible show wpAny _ _ (call (Value.builtin _) [escV _ _]) _ _ _); refine' len_e ?k1Qh ?_; (case k1Qh => assumption)))
  (k_with "sub" => ((repeat' (first | refine List.forall_mem_cons.mpr ⟨?_, ?_⟩ | exact List.mem_cons_self | (refine List.mem_cons_of_mem _ ?_; k_mem) | (exact fun x hx => by k_mem))); done))
  (k_with "ifs" => ((try dsimp only); (repeat (refine Eq.trans (if_neg (by assumption)) ?_)); (repeat (refine Eq.trans ?_ (Eq.symm (if_neg (by assumption))))); exact rfl))
  (k_with "storeName" => dsimp only)
  (k_with "eval Call" => (k_here; (with_reducible show wpAny _ _ (eval (Expr.Call (Expr.Name (Str.ofString "len") _) [Expr.Name _ _] [] _) _) _ _ _); k_dflt (refine' len1 ?FQh ?XQh ?TQh ?eQh ?hvQh ?_; (case FQh => k_asm); (case XQh => k_asm); (case TQh => k_asm); (case eQh => k_is); (case hvQh => rfl); k_whole)))
  (k_with "lt" => first | assumption | exact And.left (by assumption) | exact pj1 (by assumption) | exact pj2 (by assumption) | exact pj3 (by assumption) | exact pj4 (by assumption) | exact pj5 (by assumption) | exact pj6 (by assumption) | exact pj7 (by assumption) | exact Nat.lt_succ_of_lt (And.left (by assumption)) | exact Nat.lt_succ_of_lt (Nat.lt_succ_of_lt (And.left (by assumption))))
  (k_with "call ref" => (k_here; (with_reducible show wpAny _ _ (call (Value.ref 53) _ _) _ _ _); k_dflt (refine' Con.use ?k1Qh ?k2Qh ?k3Qh ?k4Qh ?k5Qh ?kKQh ?kdQh ?kuQh (fold_c _ _ _ _ _ _ _ _ ?ktQh) ?_; (case k1Qh => k_asm); (case k2Qh => k_asm); (case k3Qh => k_asm); (case k4Qh => k_asm); (case k5Qh => k_asm); (case kKQh => first | exact rfl | assumption); (case kdQh => walk_at "room"); (case kuQh => walk_at "units"); (case ktQh => first | assumption | (simp; done) | (show (1:Nat) < 100; decide)); k_whole; rintro _ _ _ _ _ _ ⟨e', _, e2'⟩; subst e' e2'; (try k_sweep))))
  (k_with "call ref" => (k_here; (with_reducible show wpAny _ _ (call (Value.ref 139) _ _) _ _ _); k_dflt (refine' Con.use ?k1Qh ?k2Qh ?k3Qh ?k4Qh ?k5Qh ?kKQh ?kdQh ?kuQh (pieces_c _ _ _ _ _ _ _ _ _ _ ?ktQh) ?_; (case k1Qh => k_asm); (case k2Qh => k_asm); (case k3Qh => k_asm); (case k4Qh => k_asm); (case k5Qh => k_asm); (case kKQh => first | exact rfl | assumption); (case kdQh => walk_at "room"); (case kuQh => walk_at "units"); (case ktQh => first | assumption | omega); k_whole)))
  (k_with "call ref" => (k_here; (with_reducible show wpAny _ _ (call (Value.ref 132) _ _) _ _ _); k_dflt (refine' Con.use ?k1Qh ?k2Qh ?k3Qh ?k4Qh ?k5Qh ?kKQh ?kdQh ?kuQh (alike_c _ _ _ _ _ _ _ _ _ _) ?_; (case k1Qh => k_asm); (case k2Qh => k_asm); (case k3Qh => k_asm); (case k4Qh => k_asm); (case k5Qh => k_asm); (case kKQh => first | exact rfl | assumption); (case kdQh => walk_at "room"); (case kuQh => walk_at "units"); k_whole; rintro _ _ _ _ _ _ ⟨e', e2'⟩; subst e' e2'; (try k_sweep))))
  (k_with "call ref" => (k_here; (with_reducible show wpAny _ _ (call (Value.ref 78) [Value.int _ _] _) _ _ _); k_dflt (refine' part1_u ?k1Qh ?k2Qh ?k3Qh ?k4Qh ?k5Qh ?kKQh ?kdQh ?kuQh ?_; (case k1Qh => k_asm); (case k2Qh => k_asm); (case k3Qh => k_asm); (case k4Qh => k_asm); (case k5Qh => k_asm); (case kKQh => first | exact rfl | assumption); (case kdQh => walk_at "room"); (case kuQh => walk_at "units"); k_whole; intro _ _ _ _ _ _ _ _ _ l1 l2 _; (try k_lt l1); (try k_lt2 l2); revert l1 l2; intro _ _; (try k_sweep))))
  (k_with "call ref" => (k_here; (with_reducible show wpAny _ _ (call (Value.ref 78) [Value.int _ _, Value.str _ _] _) _ _ _); k_dflt (refine' part2_u ?k1Qh ?k2Qh ?k3Qh ?k4Qh ?k5Qh ?kKQh ?kdQh ?kuQh ?_; (case k1Qh => k_asm); (case k2Qh => k_asm); (case k3Qh => k_asm); (case k4Qh => k_asm); (case k5Qh => k_asm); (case kKQh => first | exact rfl | assumption); (case kdQh => walk_at "room"); (case kuQh => walk_at "units"); k_whole; intro _ _ _ _ _ _ _ _ _ l1 l2 _; (try k_lt l1); (try k_lt2 l2); revert l1 l2; intro _ _; (try k_sweep))))
  (k_with "call ref" => (k_here; (with_reducible show wpAny _ _ (call (Value.ref 96) _ _) _ _ _); k_dflt (refine' Con.use ?k1Qh ?k2Qh ?k3Qh ?k4Qh ?k5Qh ?kKQh ?kdQh ?kuQh (lparts_c _ _ _ _ _ _ _ _ _ _ ?ktQh) ?_; (case k1Qh => k_asm); (case k2Qh => k_asm); (case k3Qh => k_asm); (case k4Qh => k_asm); (case k5Qh => k_asm); (case kKQh => first | exact rfl | assumption); (case kdQh => walk_at "room"); (case kuQh => walk_at "units"); (case ktQh => first | assumption | omega); k_whole; rintro _ _ _ _ _ _ (⟨_, e1', e2'⟩ | ⟨_, _, _, _, _, _, e1', e2', _, _, _⟩) <;> (subst e1' e2'; (try k_sweep)))))
  (k_with "call ref" => (k_here; (with_reducible show wpAny _ _ (call (Value.ref 75) _ _) _ _ _); k_dflt (refine' Con.use ?k1Qh ?k2Qh ?k3Qh ?k4Qh ?k5Qh ?kKQh ?kdQh ?kuQh (takes_c _ _ _ _ _ _ _ _ _ _ _ _ _ _ _ _ _ _ ?h1Qh ?h2Qh ?h3Qh ?h4Qh) ?_; (case k1Qh => k_asm); (case k2Qh => k_asm); (case k3Qh => k_asm); (case k4Qh => k_asm); (case k5Qh => k_asm); (case kKQh => first | exact rfl | assumption); (case kdQh => walk_at "room"); (case kuQh => walk_at "units"); (case h1Qh => assumption); (case h2Qh => assumption); (case h3Qh => assumption); (case h4Qh => assumption); k_whole; rintro _ _ _ _ _ _ ⟨e', e2'⟩; subst e' e2'; (try k_sweep))))
  (k_with "call ref" => (k_here; (with_reducible show wpAny _ _ (call (Value.ref 89) _ _) _ _ _); k_dflt (refine' Con.use ?k1Qh ?k2Qh ?k3Qh ?k4Qh ?k5Qh ?kKQh ?kdQh ?kuQh (matches_c _ _ _ _ _ _ _ _ _ _ _ _ ?kmQh ?kPQh ?klQh ?ktQh) ?_; (case k1Qh => k_asm); (case k2Qh => k_asm); (case k3Qh => k_asm); (case k4Qh => k_asm); (case k5Qh => k_asm); (case kKQh => first | exact rfl | assumption); (case kdQh => walk_at "room"); (case kuQh => walk_at "units"); (case kmQh => k_mem); (case kPQh => exact pts_mono (by assumption) (fun _ h => List.mem_cons_of_mem _ (List.mem_append.mpr (.inl h)))); (case klQh => assumption); (case ktQh => assumption); k_whole; rintro _ _ _ _ _ _ ⟨e', e2'⟩; subst e' e2'; (try k_sweep))))
  (k_with "call ref" => (k_here; (with_reducible show wpAny _ _ (call (Value.ref 104) [Value.str _ _, Value.str _ _, escV _ _] _) _ _ _); k_dflt (refine' Con.use ?k1Qh ?k2Qh ?k3Qh ?k4Qh ?k5Qh ?kKQh ?kdQh ?kuQh (like_c _ _ _ _ _ _ _ _ _ _ _ _ ?kpQh ?ktQh) ?_; (case k1Qh => k_asm); (case k2Qh => k_asm); (case k3Qh => k_asm); (case k4Qh => k_asm); (case k5Qh => k_asm); (case kKQh => first | exact rfl | assumption); (case kdQh => walk_at "room"); (case kuQh => walk_at "units"); (case kpQh => assumption); (case ktQh => assumption); k_whole; rintro _ _ _ _ _ _ ⟨e', e2'⟩; subst e' e2'; (try k_sweep))))
  trivial
section FinP
theorem pieces_len {e : Option Nat} : ∀ {p : List Nat} {ps : List Pc}, piecesF e p = some ps → ps.length ≤ p.length := by
  intro p
  generalize hn : p.length = n
  induction n using Nat.strongRecOn generalizing p with
  | ind n ih =>
    intro ps h
    cases p with
    | nil => simp [piecesF] at h; subst h; simp
    | cons c r =>
      simp only [List.length_cons] at hn
      by_cases hc : some c = e
      · cases r with
        | nil => rw [piecesF_bad hc] at h; cases h
        | cons d r =>
          rw [piecesF_esc hc] at h
          obtain ⟨qs, h1, rfl⟩ := Option.map_eq_some_iff.mp h
          simp only [List.length_cons] at hn ⊢
          have := ih r.length (by omega) rfl h1
          omega
      · rw [piecesF_plain hc] at h
        obtain ⟨qs, h1, rfl⟩ := Option.map_eq_some_iff.mp h
        have := ih r.length (by omega) rfl h1
        simp only [List.length_cons]
        omega
/-- what the law's own row says -/
def dueR (e : Option Nat) (p t : List Nat) : Bool :=
  match piecesF e p with
  | none => false
  | some ps => Mt alikeF ps t
theorem like_due (e : Option Nat) (p t : List Nat) : likeR e p t = dueR e p t := by
  unfold likeR dueR
  cases piecesF e p with
  | none => rfl
  | some ps => exact Mt_map (f := eqF) (g := alikeF) (h := foldc) (fo := foldP) (fun a b => rfl) rfl rfl (fun c => rfl)
theorem like1 : likeR (some 95) [95, 95] [95] = true := by decide +kernel
theorem like2 : likeR (some 37) [109, 37] [109] = false := by decide +kernel
end FinP
theorem rowsAt26 : True := by
  k_with_none
  (k_with "pick" => first | exact Pick.head | exact Pick.tail (Pick.head) | exact Pick.tail (Pick.tail (Pick.head)) | exact Pick.tail (Pick.tail (Pick.tail (Pick.head))) | exact Pick.tail (Pick.tail (Pick.tail (Pick.tail (Pick.head)))) | exact Pick.tail (Pick.tail (Pick.tail (Pick.tail (Pick.tail (Pick.head))))) | exact Pick.tail (Pick.tail (Pick.tail (Pick.tail (Pick.tail (Pick.tail (Pick.head)))))) | exact Pick.tail (Pick.tail (Pick.tail (Pick.tail (Pick.tail (Pick.tail (Pick.tail (Pick.head))))))) | exact Pick.tail (Pick.tail (Pick.tail (Pick.tail (Pick.tail (Pick.tail (Pick.tail (Pick.tail (Pick.head)))))))) | exact Pick.tail (Pick.tail (Pick.tail (Pick.tail (Pick.tail (Pick.tail (Pick.tail (Pick.tail (Pick.tail (Pick.head))))))))) | exact Pick.tail (Pick.tail (Pick.tail (Pick.tail (Pick.tail (Pick.tail (Pick.tail (Pick.tail (Pick.tail (Pick.tail (Pick.head)))))))))) | exact Pick.tail (Pick.tail (Pick.tail (Pick.tail (Pick.tail (Pick.tail (Pick.tail (Pick.tail (Pick.tail (Pick.tail (Pick.tail (Pick.head))))))))))) | exact Pick.tail (Pick.tail (Pick.tail (Pick.tail (Pick.tail (Pick.tail (Pick.tail (Pick.tail (Pick.tail (Pick.tail (Pick.tail (Pick.tail (Pick.head)))))))))))) | exact Pick.tail (Pick.tail (Pick.tail (Pick.tail (Pick.tail (Pick.tail (Pick.tail (Pick.tail (Pick.tail (Pick.tail (Pick.tail (Pick.tail (Pick.tail (Pick.head))))))))))))) | exact Pick.tail (Pick.tail (Pick.tail (Pick.tail (Pick.tail (Pick.tail (Pick.tail (Pick.tail (Pick.tail (Pick.tail (Pick.tail (Pick.tail (Pick.tail (Pick.tail (Pick.head)))))))))))))) | exact Pick.tail (Pick.tail (Pick.tail (Pick.tail (Pick.tail (Pick.tail (Pick.tail (Pick.tail (Pick.tail (Pick.tail (Pick.tail (Pick.tail (Pick.tail (Pick.tail (Pick.tail (Pick.head))))))))))))))))
  (k_with "room" => first | exact room_m 1 hd1 rfl rfl | exact room_m 2 hd1 rfl rfl | exact room_m 3 hd1 rfl rfl | exact room_0 0 hd1 rfl rfl | exact room_0 1 hd1 rfl rfl | exact room_0 2 hd1 rfl rfl | exact room_0 3 hd1 rfl rfl | (walk_say "ROOM BY OMEGA"; (try simp only [depth_under_make, depth_under_kw, depth_in1, depth_deeper, depth_caller]); (try dsimp only [ktrTop]); omega))
  (k_with "units" => first | exact unit_m 0 hu1 rfl rfl | exact unit_m 3 hu1 rfl rfl | exact unit_m 6 hu1 rfl rfl | exact unit_m 4 hu1 rfl rfl | exact unit_m 7 hu1 rfl rfl | (walk_say "UNITS BY OMEGA"; (try simp only [units_in1, units_deeper, Around.mark_units, units_caller]); (try dsimp only [ktrTop]); omega))
  (k_with "con1" => (refine' Con.use ?k1Qh ?k2Qh ?k3Qh (Pick.news ?kpQh ?k4Qh) ?k5Qh ?kKQh ?kdQh ?kuQh ?kCQh ?_; (case k1Qh => k_asm); (case k2Qh => k_asm); (case k3Qh => k_asm); (case k5Qh => k_asm); (case kKQh => first | exact rfl | assumption); rotate_left))
  (k_with "call builtin:len" => (k_here; (with_reducible show wpAny _ _ (call (Value.builtin _) [Value.ref _]) _ _ _); k_dflt (refine' len_at ?k1Qh ?k2Qh ?k3Qh ?_; (case k1Qh => k_asm); (case k2Qh => k_mem); (case k3Qh => first | assumption | exact lt100 (by assumption) rfl | (simp; done) | omega); k_whole)))
  (k_with "call builtin:str.join" => (k_here; k_dflt (refine' join_at ?k1Qh ?k2Qh ?k3Qh ?k4Qh ?_; (case k1Qh => k_asm); (case k2Qh => k_mem); (case k3Qh => assumption); (case k4Qh => assumption); k_whole); intro _ _))
  (k_with "call builtin:list.append" => (k_here; (with_reducible show wpAny _ _ (call (Value.builtin _) [Value.ref _, _]) _ _ _); k_dflt (refine' append_K ?k1Qh ?k2Qh ?k3Qh ?_ ?zQh; (case k1Qh => k_asm); (case k2Qh => k_asm); (case k3Qh => k_upd); (case zQh => assumption); k_whole); intro _ _ _; (try k_sweep)))
  (k_with "subscriptTail Name Name str int" => (k_here; (with_reducible show wpAny _ _ (subscriptTail _ _ (Value.str _ _) (Value.int (Nat.cast _) _)) _ _ _); k_dflt (refine' str_at0 ?k2Qh ?k3Qh ?_; (case k2Qh => assumption); (case k3Qh => first | exact lt100 (by assumption) rfl | exact lt10 (by assumption) rfl | omega); k_whole)))
  (k_with "subscriptTail Name Name str int" => (k_here; (with_reducible show wpAny _ _ (subscriptTail _ _ (Value.str _ _) (Value.int (_ + 1) _)) _ _ _); k_dflt (refine' str_at1 ?k2Qh ?k3Qh ?_; (case k2Qh => first | assumption | exact hc2 (by omega)); (case k3Qh => first | exact lt100 (by assumption) rfl | exact lt10 (by assumption) rfl | omega); k_whole)))
  (k_with "compareOp Eq str str" => ((with_reducible show wpAny _ _ (compareOp _ (Value.str (Str.mk #[_]) _) (Value.str (Str.mk #[_]) _)) _ _ _); refine eq_cc ?_))
  (k_with "compareOp Eq str str" => ((with_reducible show wpAny _ _ (compareOp _ (Value.str (Str.mk #[_]) _) (Value.str (Str.ofString "%") _)) _ _ _); refine eq_pct ?_))
  (k_with "compareOp Eq str str" => ((with_reducible show wpAny _ _ (compareOp _ (Value.str (Str.mk #[_]) _) (Value.str (Str.ofString "_") _)) _ _ _); refine eq_und ?_))
  (k_with "compareOp Eq str" => ((with_reducible show wpAny _ _ (compareOp _ (Value.str (Str.mk #[_]) _) (escV _ _)) _ _ _); refine eq_ce ?_))
  (k_with "compareOp IsNot" => ((with_reducible show wpAny _ _ (compareOp _ (escV _ _) Value.none) _ _ _); refine isnot_e ?_))
  (k_with "compareOp In str str" => ((with_reducible show wpAny _ _ (compareOp _ (Value.str (Str.mk #[_]) _) (Value.str (Str.ofString "%_") _)) _ _ _); refine in_pu ?_))
  (k_with "call builtin:len" => ((with_reducible show wpAny _ _ (call (Value.builtin _) [Value.str _ _]) _ _ _); refine' len_txt ?k1Qh ?_; (case k1Qh => first | exact lt100 (by assumption) rfl | exact lt10 (by assumption) rfl | omega)))
  (k_with "newTuple" => (k_here; k_dflt (refine' newTuple_my ?k1Qh ?k2Qh ?_ ?zQh; (case k1Qh => k_asm); (case k2Qh => k_asm); (case zQh => exact Nat.le_of_ble_eq_true rfl); k_whole); intro _ _ _ _ l1; (try k_lt l1); revert l1; intro _; (try k_sweep)))
  (k_with "compareOp Eq int int" => (refine eq_ii ?_))
  (k_with "enterC" => (refine' code_defC ?k1Qh ?k2Qh ?k3Qh ?k4Qh ?k5Qh ?kAQh ?kFQh ?kKQh ?k6Qh ?k7Qh ?k8Qh ?k9Qh ?kBQh ?kDQh ?_ ?c2Qh ?c3Qh ?c4Qh; (case kAQh => exact rfl); (case kFQh => exact rfl); (case kKQh => assumption); (case k1Qh => k_asm); (case k2Qh => k_asm); (case k3Qh => k_asm); (case k4Qh => k_asm); (case k5Qh => k_asm); (case k6Qh => k_is); (case k7Qh => k_is); (case k8Qh => walk_at "room"); (case k9Qh => exact BindsTo.of_eq rfl); (case kBQh => exact rfl); (case kDQh => decide +kernel); (case c2Qh => exact rfl); (case c3Qh => exact rfl); (case c4Qh => exact rfl); k_whole; walk_at "tail0"))
  (k_with "eval ListComp" => (k_here; k_dflt (refine LCg.ListComp_U (F₀ := by k_asm) (by rfl) (by decide) (by rfl) (by decide) (by rfl) ?_)))
  (k_with "eval Name" => (k_here; (with_reducible show wpAny _ _ (eval (Expr.Name _ _) (compEnvC _ _ _ _)) _ _ _); k_dflt (refine' ldC ?k1Qh ?k2Qh ?k3Qh ?k4Qh ?_; (case k1Qh => k_asm); (case k2Qh => rfl); (case k3Qh => k_mem); (case k4Qh => k_asm); k_whole)))
  (k_with "CompSrc" => fail "own")
  (k_with "exec While Compare cons nil" => show Mine.Stop _)
  (k_with "exec While BoolOp cons nil" => show Mine.Stop _)
  (k_with "enterD" => (refine' code_def ?k1Qh ?k2Qh ?k3Qh ?k4Qh ?k5Qh ?kAQh ?kFQh ?kKQh ?k6Qh ?k7Qh ?k8Qh ?k9Qh ?kBQh ?_ ?c2Qh ?c3Qh ?c4Qh ?c5Qh; (case kAQh => exact rfl); (case kFQh => exact rfl); (case kKQh => first | exact rfl | assumption); (case k1Qh => k_asm); (case k2Qh => k_asm); (case k3Qh => k_asm); (case k4Qh => k_asm); (case k5Qh => k_asm); (case k6Qh => k_is); (case k7Qh => k_is); (case k8Qh => walk_at "room"); (case k9Qh => first | exact BindsTo.of_eq rfl | exact binds_K (by k_in) rfl (by k_is) rfl rfl rfl | fail "enterD: no rule for these arguments"); (case c5Qh => decide); (case kBQh => exact locs rfl); (case c2Qh => exact rfl); (case c3Qh => exact rfl); (case c4Qh => exact rfl); k_whole; intro _ _ _ _ _ _ _ _ _; (try dsimp only); (try k_fold)))
  (k_with "makeD" => (refine' call_cls ?k1Qh ?k2Qh ?k3Qh ?k4Qh ?k5Qh ?k6Qh ?_; (case k1Qh => k_asm); (case k2Qh => k_asm); (case k3Qh => k_asm); (case k4Qh => k_is); (case k5Qh => k_is); (case k6Qh => k_is); k_whole; intro _ _ _ _ _ l1 l2; (try k_lt l1); (try k_lt2 l2); revert l1 l2; intro _ _; (try k_sweep); walk_at "enterD"))
  (k_with "subscriptTail Name Name ref int" => (k_here; (with_reducible show wpAny _ _ (subscriptTail _ _ (Value.ref _) (Value.int (Nat.cast _) _)) _ _ _); k_dflt (refine' item_nat ?k1Qh ?k2Qh ?k3Qh ?k4Qh ?_; (case k1Qh => k_asm); (case k2Qh => k_mem); (case k3Qh => assumption); (case k4Qh => first | exact lt100 (by assumption) rfl | exact lt10 (by assumption) rfl | omega); k_whole)))
  (k_with "call builtin:len" => ((with_reducible show wpAny _ _ (call (Value.builtin _) [escV _ _]) _ _ _); refine' len_e ?k1Qh ?_; (case k1Qh => assumption)))
  (k_with "sub" => ((repeat' (first | refine List.forall_mem_cons.mpr ⟨?_, ?_⟩ | exact List.mem_cons_self | (refine List.mem_cons_of_mem _ ?_; k_mem) | (exact fun x hx => by k_mem))); done))
  (k_with "ifs" => ((try dsimp only); (repeat (refine Eq.trans (if_neg (by assumption)) ?_)); (repeat (refine Eq.trans ?_ (Eq.symm (if_neg (by assumption))))); exact rfl))
  (k_with "storeName" => dsimp only)
  (k_with "eval Call" => (k_here; (with_reducible show wpAny _ _ (eval (Expr.Call (Expr.Name (Str.ofString "len") _) [Expr.Name _ _] [] _) _) _ _ _); k_dflt (refine' len1 ?FQh ?XQh ?TQh ?eQh ?hvQh ?_; (case FQh => k_asm); (case XQh => k_asm); (case TQh => k_asm); (case eQh => k_is); (case hvQh => rfl); k_whole)))
  (k_with "lt" => first | assumption | exact And.left (by assumption) | exact pj1 (by assumption) | exact pj2 (by assumption) | exact pj3 (by assumption) | exact pj4 (by assumption) | exact pj5 (by assumption) | exact pj6 (by assumption) | exact pj7 (by assumption) | exact Nat.lt_succ_of_lt (And.left (by assumption)) | exact Nat.lt_succ_of_lt (Nat.lt_succ_of_lt (And.left (by assumption))))
  trivial
section ExcI
/-- a tail of bases that answers as the builtin one when asked for a builtin class -/
def AsBase (bmB bm : List Value) : Prop := ∀ X b, bmB.contains (.type X) = b → bm.contains (.type X) = b
theorem asBase_own {bmB : List Value} (P : Addr) : AsBase bmB (.ref P :: bmB) := fun X b h => by
  rw [List.contains_cons, h, show ((Value.type X == Value.ref P) = false) from rfl, Bool.false_or]
section
variable {M : Model} {A : Around} {E : Value → Shared → Prop} {h : Heap} {g : Array GenState} {d : Drawn} {t : Nat} {os : OsState}
variable {nm q : Str} {C N : Addr} {bs bm bmB : List Value} {hdct : Bool} {sn : List Str} {sub : List Value} {ab : Bool} {col : Option Bool} {dd : Option Addr} {k0 k1 k2 k3 k5 : Option Value} {B newId initId : String}
theorem check_new_I (F : ExcBaseFacts B newId initId bmB) (T : AsBase bmB bm) {rest : List Value} {Q : Unit → Shared → Prop} (hC : h.get? C = some (excClassObj nm q C N bs bm hdct sn sub ab col dd k0 k1 k2 k3 k5 newId))
    (hq : Q () ⟨h, g, d, t, os⟩) : wpAny M A (checkBuiltinCall newId ⟨.ref C :: rest, []⟩) Q E ⟨h, g, d, t, os⟩ := by
  have hcont : (Value.ref C :: bm).contains (.type B) = true := by rw [List.contains_cons, T _ _ F.hasB, Bool.or_true]
  have hstar := F.noStar
  simp only [checkBuiltinCall, F.newKind, F.newSplit, F.newRow]
  repeat (first | refine wpAny_loadPart_at hC ?_ | (refine wpAny_isSubtype_exc hC ?_; rw [hcont]) | refine wpAny_staticBase_exc hC ?_ | refine wpAny_madeBy_exc hC ?_ | simp only [bne_self_eq_false, Bool.false_eq_true, if_false] | wp_step)
  exact hq
end
section
variable {prog : Program} {w : World} {A : Around} {E : Value → Shared → Prop} {h : Heap} {g : Array GenState} {d : Drawn} {t : Nat} {os : OsState}
variable {nm q : Str} {C N : Addr} {bs bm bmB : List Value} {hdct : Bool} {sn : List Str} {sub : List Value} {ab : Bool} {col : Option Bool} {dd : Option Addr} {k0 k1 k2 k3 k5 : Option Value} {B newId initId : String}
theorem new_I {R : Result → Shared → Prop} (F : ExcBaseFacts B newId initId bmB) (T : AsBase bmB bm) {rest : List Value} (hC : h.get? C = some (excClassObj nm q C N bs bm hdct sn sub ab col dd k0 k1 k2 k3 k5 newId))
    (hq : R (.ok (.ret (.ref (h.objs.size + 1)))) ⟨(h.push { cls := .type "tuple", data := .seq rest.toArray }).push
      { cls := .ref C, data := .fields #[.ref h.objs.size, .none, .none, .none, .bool false, .none] }, g, d, t, os⟩) (hrest : rest.length ≤ sizeLine) :
    codeAny (model prog w) A (.builtin newId ⟨.ref C :: rest, []⟩) R ⟨h, g, d, t, os⟩ := by
  have hends := F.ends
  have hcB : (Value.ref C :: bm).contains (.type B) = true := by rw [List.contains_cons, T _ _ F.hasB, Bool.or_true]
  have hcA : (Value.ref C :: bm).contains (.type "AttributeError") = false := by rw [List.contains_cons, T _ _ F.noAttr]; rfl
  have hcN : (Value.ref C :: bm).contains (.type "NameError") = false := by rw [List.contains_cons, T _ _ F.noName]; rfl
  refine codeAny_builtinAt F.entry ?_
  unfold Builtin.«BaseException.__new__»
  refine PySem.wpAt_bind ?_
  show PySem.wpAt _ _ _ (stack >>= _) _ _ _
  refine PySem.wpAt_bind (PySem.wpAt_stack fun p below => PySem.wpAt_of_wpAny ?_)
  wp_walk
  refine PySem.wpAt_of_wpAny ?_
  rw [F.owner]
  repeat (first | with_reducible refine wpAny_madeHere_exc F.canon hC ?_ | with_reducible refine wpAny_loadPart_at hC ?_ | (with_reducible refine wpAny_isSubtype_exc hC ?_; first | rw [hcB] | rw [hcA] | rw [hcN]) | wp_step)
  show R _ _
  rw [Heap.size_push]
  exact hq
theorem type_call_I (F : ExcBaseFacts B newId initId bmB) (T : AsBase bmB bm) {rest : List Value} {fI : Addr} {oI : Obj} {Q : Fin → Shared → Prop}
    (hC : h.get? C = some (excClassObj nm q C N bs bm hdct sn sub ab col dd k0 k1 k2 k3 k5 newId))
    (hlook : ∀ (h' : Heap) (R : Option Value → Shared → Prop), (∀ b o, h.get? b = some o → h'.get? b = some o) → R (some (.ref fI)) ⟨h', g, d, t, os⟩ → wpAny (model prog w) A (typeLookup (.ref C) "__init__") R E ⟨h', g, d, t, os⟩)
    (hfI : h.get? fI = some oI) (hfc : oI.cls = .type "function")
    (hq : ∀ h' e, Heap.MadeExcOf h h' e (.ref C) rest →
      wpAny (model prog w) A (call (.ref fI) (.ref e :: rest)) (fun r s' => r = .none ∧ Q (.done (.ret (.ref e))) s') E ⟨h', g, d, t, os⟩) (hrest : rest.length ≤ sizeLine) :
    wpAny (model prog w) A (Builtin.«type.__call__» ⟨.ref C :: rest, []⟩) Q E ⟨h, g, d, t, os⟩ := by
  repeat (first | with_reducible refine wpAny_loadPart_at hC ?_ | with_reducible refine wpAny_madeBy_exc hC ?_ | wp_step)
  refine codeAny_call_builtin_code (Code.quiet_builtin _ F.quiet) (check_new_I F T hC ?_)
  refine new_I F T hC ?_ hrest
  show wpAny _ _ _ _ _ _
  have hk : ∀ b o, h.get? b = some o → ((h.push { cls := .type "tuple", data := .seq rest.toArray }).push { cls := .ref C, data := .fields #[.ref h.objs.size, .none, .none, .none, .bool false, .none] }).get? b = some o := fun b o e => Heap.get?_push_of_some _ (Heap.get?_push_of_some _ e)
  have hget : ((h.push { cls := .type "tuple", data := .seq rest.toArray }).push
      { cls := .ref C, data := .fields #[.ref h.objs.size, .none, .none, .none, .bool false, .none] }).get? (h.objs.size + 1) = some
      { cls := .ref C, data := .fields #[.ref h.objs.size, .none, .none, .none, .bool false, .none] } := by heap_get
  have hcC : (Value.ref C :: bm).contains (.ref C) = true := by simp
  unfold isInstance
  repeat (first | with_reducible refine wpAny_loadPart_at hget ?_ | (with_reducible refine wpAny_isSubtype_exc (hk _ _ hC) ?_; rw [hcC]) | wp_step)
  show wpAny _ _ (typeLookup (.ref C) _) _ _ _
  refine hlook _ _ hk ?_
  refine wpAny_holding (wpAny_bind ?_)
  unfold bindSpecial
  refine wpAny_bind (wpAny_typeOf (T := "function") ⟨_, hk _ _ hfI, hfc⟩ ?_)
  rw [if_pos (by decide)]
  refine wpAny_pure (wpAny_bind (wpAny_mono (hq _ (h.objs.size + 1) ⟨hk, Heap.get?_none_of_le (Nat.le_succ _), h.objs.size, hget, Heap.get?_none_of_le (Nat.le_refl _), ?_⟩) (fun r s' hr => ?_) fun _ _ x => x))
  · exact Heap.get?_push_of_some _ (Heap.get?_push_at rfl rfl)
  · obtain ⟨rfl, hQ⟩ := hr
    wp_walk
    exact hQ
theorem call_I (F : ExcBaseFacts B newId initId bmB) (T : AsBase bmB bm) {rest : List Value} {fI : Addr} {oI : Obj} {Q : Value → Shared → Prop}
    (hC : h.get? C = some (excClassObj nm q C N bs bm hdct sn sub ab col dd k0 k1 k2 k3 k5 newId))
    (hlook : ∀ (A' : Around) (h' : Heap) (R : Option Value → Shared → Prop), (∀ b o, h.get? b = some o → h'.get? b = some o) → R (some (.ref fI)) ⟨h', g, d, t, os⟩ → wpAny (model prog w) A' (typeLookup (.ref C) "__init__") R E ⟨h', g, d, t, os⟩)
    (hfI : h.get? fI = some oI) (hfc : oI.cls = .type "function")
    (hq : ∀ h' e, Heap.MadeExcOf h h' e (.ref C) rest →
      wpAny (model prog w) (A.under (.builtin "type.__call__" ⟨.ref C :: rest, []⟩)) (call (.ref fI) (.ref e :: rest)) (fun r s' => r = .none ∧ Q (.ref e) s') E ⟨h', g, d, t, os⟩) (hrest : rest.length ≤ sizeLine) :
    wpAny (model prog w) A (call (.ref C) rest) Q E ⟨h, g, d, t, os⟩ := by
  have f1 := tc_lookup
  have f2 := tc_bind (.ref C)
  have hT : (⟨h, g, d, t, os⟩ : Shared).TypeIs (.ref C) "type" := ⟨_, hC, rfl⟩
  refine wpAny_call (codeAny_of_tree ?_)
  show wpAny _ _ (callAny (.ref C) _) _ _ _
  repeat (any_goals (first | assumption | with_reducible refine wpAny_loadPart_at hC ?_ | wp_step))
  refine ⟨rfl, ?_⟩
  refine codeAny_call_builtin_at (Code.quiet_builtin _ (by decide +kernel)) entry_typeCall (wpAny_check_type_call_sub hC (type_call_I (hrest := hrest) F T hC (hlook _) hfI hfc fun h' e hm => ?_))
  exact hq h' e hm
theorem hlook_I {M : Model} {P fI : Addr} {c0 : Value} {dP : Option Addr} {cd : ClassData} {sl : Array (Option Value)} {mA mN : Str → Option Value} {tl : List Value} {R : Option Value → Shared → Prop}
    (hC : h.get? C = some (excClassObj nm q C N bs (.ref P :: tl) hdct sn sub ab col dd k0 k1 k2 k3 k5 newId)) (hn : h.Ns N mN) (hni : mN "__init__" = none)
    (hP : h.get? P = some { cls := c0, dict := dP, data := .cls cd, slots := sl }) (hp : h.Ns cd.ns mA) (hi : mA "__init__" = some (.ref fI)) (hR : R (some (.ref fI)) ⟨h, g, d, t, os⟩) :
    wpAny M A (typeLookup (.ref C) "__init__") R E ⟨h, g, d, t, os⟩ := by
  rw [typeLookup_eq]
  refine wpAny_bind (wpAny_mroOf_exc hC ?_)
  rw [lookupAlong_cons]
  refine wpAny_bind (wpAny_classOwn_exc hC hn ?_)
  rw [hni]
  show wpAny _ _ (lookupAlong _ _) _ _ _
  rw [lookupAlong_cons]
  refine wpAny_bind (wpAny_classOwn_cls hP hp ?_)
  rw [hi]
  exact wpAny_pure hR
end
theorem ns_some_I {K : Frag} {h : Heap} {N : Addr} {mg : Str → Option Value} {n : Str} {v : Value} (X : K.In h) (G : h.Ns N mg) (e : nsIn K N n = some (some v)) : mg n = some v := by
  obtain ⟨o, es, ep, ho, hd, _, hf⟩ := G
  unfold nsIn at e
  split at e
  · rename_i c d es' n' sl q
    have := X _ _ q
    rw [ho] at this
    cases this
    cases hd
    split at e
    · rename_i en he
      cases e
      rw [← hf]
      unfold nsFind findBy
      rw [← Array.find?_toList, he]
      rfl
    · split at e <;> cases e
  · cases e
end ExcI
theorem rowsAt27 : True := by
  k_with_none
  (k_with "pick" => first | exact Pick.head | exact Pick.tail (Pick.head) | exact Pick.tail (Pick.tail (Pick.head)) | exact Pick.tail (Pick.tail (Pick.tail (Pick.head))) | exact Pick.tail (Pick.tail (Pick.tail (Pick.tail (Pick.head)))) | exact Pick.tail (Pick.tail (Pick.tail (Pick.tail (Pick.tail (Pick.head))))) | exact Pick.tail (Pick.tail (Pick.tail (Pick.tail (Pick.tail (Pick.tail (Pick.head)))))) | exact Pick.tail (Pick.tail (Pick.tail (Pick.tail (Pick.tail (Pick.tail (Pick.tail (Pick.head))))))) | exact Pick.tail (Pick.tail (Pick.tail (Pick.tail (Pick.tail (Pick.tail (Pick.tail (Pick.tail (Pick.head)))))))) | exact Pick.tail (Pick.tail (Pick.tail (Pick.tail (Pick.tail (Pick.tail (Pick.tail (Pick.tail (Pick.tail (Pick.head))))))))) | exact Pick.tail (Pick.tail (Pick.tail (Pick.tail (Pick.tail (Pick.tail (Pick.tail (Pick.tail (Pick.tail (Pick.tail (Pick.head)))))))))) | exact Pick.tail (Pick.tail (Pick.tail (Pick.tail (Pick.tail (Pick.tail (Pick.tail (Pick.tail (Pick.tail (Pick.tail (Pick.tail (Pick.head))))))))))) | exact Pick.tail (Pick.tail (Pick.tail (Pick.tail (Pick.tail (Pick.tail (Pick.tail (Pick.tail (Pick.tail (Pick.tail (Pick.tail (Pick.tail (Pick.head)))))))))))) | exact Pick.tail (Pick.tail (Pick.tail (Pick.tail (Pick.tail (Pick.tail (Pick.tail (Pick.tail (Pick.tail (Pick.tail (Pick.tail (Pick.tail (Pick.tail (Pick.head))))))))))))) | exact Pick.tail (Pick.tail (Pick.tail (Pick.tail (Pick.tail (Pick.tail (Pick.tail (Pick.tail (Pick.tail (Pick.tail (Pick.tail (Pick.tail (Pick.tail (Pick.tail (Pick.head)))))))))))))) | exact Pick.tail (Pick.tail (Pick.tail (Pick.tail (Pick.tail (Pick.tail (Pick.tail (Pick.tail (Pick.tail (Pick.tail (Pick.tail (Pick.tail (Pick.tail (Pick.tail (Pick.tail (Pick.head))))))))))))))))
  (k_with "room" => first | exact room_m 1 hd1 rfl rfl | exact room_m 2 hd1 rfl rfl | exact room_m 3 hd1 rfl rfl | exact room_0 0 hd1 rfl rfl | exact room_0 1 hd1 rfl rfl | exact room_0 2 hd1 rfl rfl | exact room_0 3 hd1 rfl rfl | (walk_say "ROOM BY OMEGA"; (try simp only [depth_under_make, depth_under_kw, depth_in1, depth_deeper, depth_caller]); (try dsimp only [ktrTop]); omega))
  (k_with "units" => first | exact unit_m 0 hu1 rfl rfl | exact unit_m 3 hu1 rfl rfl | exact unit_m 6 hu1 rfl rfl | exact unit_m 4 hu1 rfl rfl | exact unit_m 7 hu1 rfl rfl | (walk_say "UNITS BY OMEGA"; (try simp only [units_in1, units_deeper, Around.mark_units, units_caller]); (try dsimp only [ktrTop]); omega))
  (k_with "con1" => (refine' Con.use ?k1Qh ?k2Qh ?k3Qh (Pick.news ?kpQh ?k4Qh) ?k5Qh ?kKQh ?kdQh ?kuQh ?kCQh ?_; (case k1Qh => k_asm); (case k2Qh => k_asm); (case k3Qh => k_asm); (case k5Qh => k_asm); (case kKQh => first | exact rfl | assumption); rotate_left))
  (k_with "call builtin:len" => (k_here; (with_reducible show wpAny _ _ (call (Value.builtin _) [Value.ref _]) _ _ _); k_dflt (refine' len_at ?k1Qh ?k2Qh ?k3Qh ?_; (case k1Qh => k_asm); (case k2Qh => k_mem); (case k3Qh => first | assumption | exact lt100 (by assumption) rfl | (simp; done) | omega); k_whole)))
  (k_with "call builtin:str.join" => (k_here; k_dflt (refine' join_at ?k1Qh ?k2Qh ?k3Qh ?k4Qh ?_; (case k1Qh => k_asm); (case k2Qh => k_mem); (case k3Qh => assumption); (case k4Qh => assumption); k_whole); intro _ _))
  (k_with "call builtin:list.append" => (k_here; (with_reducible show wpAny _ _ (call (Value.builtin _) [Value.ref _, _]) _ _ _); k_dflt (refine' append_K ?k1Qh ?k2Qh ?k3Qh ?_ ?zQh; (case k1Qh => k_asm); (case k2Qh => k_asm); (case k3Qh => k_upd); (case zQh => assumption); k_whole); intro _ _ _; (try k_sweep)))
  (k_with "subscriptTail Name Name str int" => (k_here; (with_reducible show wpAny _ _ (subscriptTail _ _ (Value.str _ _) (Value.int (Nat.cast _) _)) _ _ _); k_dflt (refine' str_at0 ?k2Qh ?k3Qh ?_; (case k2Qh => assumption); (case k3Qh => first | exact lt100 (by assumption) rfl | exact lt10 (by assumption) rfl | omega); k_whole)))
  (k_with "subscriptTail Name Name str int" => (k_here; (with_reducible show wpAny _ _ (subscriptTail _ _ (Value.str _ _) (Value.int (_ + 1) _)) _ _ _); k_dflt (refine' str_at1 ?k2Qh ?k3Qh ?_; (case k2Qh => first | assumption | exact hc2 (by omega)); (case k3Qh => first | exact lt100 (by assumption) rfl | exact lt10 (by assumption) rfl | omega); k_whole)))
  (k_with "compareOp Eq str str" => ((with_reducible show wpAny _ _ (compareOp _ (Value.str (Str.mk #[_]) _) (Value.str (Str.mk #[_]) _)) _ _ _); refine eq_cc ?_))
  (k_with "compareOp Eq str str" => ((with_reducible show wpAny _ _ (compareOp _ (Value.str (Str.mk #[_]) _) (Value.str (Str.ofString "%") _)) _ _ _); refine eq_pct ?_))
  (k_with "compareOp Eq str str" => ((with_reducible show wpAny _ _ (compareOp _ (Value.str (Str.mk #[_]) _) (Value.str (Str.ofString "_") _)) _ _ _); refine eq_und ?_))
  (k_with "compareOp Eq str" => ((with_reducible show wpAny _ _ (compareOp _ (Value.str (Str.mk #[_]) _) (escV _ _)) _ _ _); refine eq_ce ?_))
  (k_with "compareOp IsNot" => ((with_reducible show wpAny _ _ (compareOp _ (escV _ _) Value.none) _ _ _); refine isnot_e ?_))
  (k_with "compareOp In str str" => ((with_reducible show wpAny _ _ (compareOp _ (Value.str (Str.mk #[_]) _) (Value.str (Str.ofString "%_") _)) _ _ _); refine in_pu ?_))
  (k_with "call builtin:len" => ((with_reducible show wpAny _ _ (call (Value.builtin _) [Value.str _ _]) _ _ _); refine' len_txt ?k1Qh ?_; (case k1Qh => first | exact lt100 (by assumption) rfl | exact lt10 (by assumption) rfl | omega)))
  (k_with "newTuple" => (k_here; k_dflt (refine' newTuple_my ?k1Qh ?k2Qh ?_ ?zQh; (case k1Qh => k_asm); (case k2Qh => k_asm); (case zQh => exact Nat.le_of_ble_eq_true rfl); k_whole); intro _ _ _ _ l1; (try k_lt l1); revert l1; intro _; (try k_sweep)))
  (k_with "compareOp Eq int int" => (refine eq_ii ?_))
  (k_with "enterC" => (refine' code_defC ?k1Qh ?k2Qh ?k3Qh ?k4Qh ?k5Qh ?kAQh ?kFQh ?kKQh ?k6Qh ?k7Qh ?k8Qh ?k9Qh ?kBQh ?kDQh ?_ ?c2Qh ?c3Qh ?c4Qh; (case kAQh => exact rfl); (case kFQh => exact rfl); (case kKQh => assumption); (case k1Qh => k_asm); (case k2Qh => k_asm); (case k3Qh => k_asm); (case k4Qh => k_asm); (case k5Qh => k_asm); (case k6Qh => k_is); (case k7Qh => k_is); (case k8Qh => walk_at "room"); (case k9Qh => exact BindsTo.of_eq rfl); (case kBQh => exact rfl); (case kDQh => decide +kernel); (case c2Qh => exact rfl); (case c3Qh => exact rfl); (case c4Qh => exact rfl); k_whole; walk_at "tail0"))
  (k_with "eval ListComp" => (k_here; k_dflt (refine LCg.ListComp_U (F₀ := by k_asm) (by rfl) (by decide) (by rfl) (by decide) (by rfl) ?_)))
  (k_with "eval Name" => (k_here; (with_reducible show wpAny _ _ (eval (Expr.Name _ _) (compEnvC _ _ _ _)) _ _ _); k_dflt (refine' ldC ?k1Qh ?k2Qh ?k3Qh ?k4Qh ?_; (case k1Qh => k_asm); (case k2Qh => rfl); (case k3Qh => k_mem); (case k4Qh => k_asm); k_whole)))
  (k_with "CompSrc" => fail "own")
  (k_with "exec While Compare cons nil" => show Mine.Stop _)
  (k_with "exec While BoolOp cons nil" => show Mine.Stop _)
  (k_with "enterD" => (refine' code_def ?k1Qh ?k2Qh ?k3Qh ?k4Qh ?k5Qh ?kAQh ?kFQh ?kKQh ?k6Qh ?k7Qh ?k8Qh ?k9Qh ?kBQh ?_ ?c2Qh ?c3Qh ?c4Qh ?c5Qh; (case kAQh => exact rfl); (case kFQh => exact rfl); (case kKQh => first | exact rfl | assumption); (case k1Qh => k_asm); (case k2Qh => k_asm); (case k3Qh => k_asm); (case k4Qh => k_asm); (case k5Qh => k_asm); (case k6Qh => k_is); (case k7Qh => k_is); (case k8Qh => walk_at "room"); (case k9Qh => first | exact BindsTo.of_eq rfl | exact binds_K (by k_in) rfl (by k_is) rfl rfl rfl | fail "enterD: no rule for these arguments"); (case c5Qh => decide); (case kBQh => exact locs rfl); (case c2Qh => exact rfl); (case c3Qh => exact rfl); (case c4Qh => exact rfl); k_whole; intro _ _ _ _ _ _ _ _ _; (try dsimp only); (try k_fold)))
  (k_with "makeD" => (refine' call_cls ?k1Qh ?k2Qh ?k3Qh ?k4Qh ?k5Qh ?k6Qh ?_; (case k1Qh => k_asm); (case k2Qh => k_asm); (case k3Qh => k_asm); (case k4Qh => k_is); (case k5Qh => k_is); (case k6Qh => k_is); k_whole; intro _ _ _ _ _ l1 l2; (try k_lt l1); (try k_lt2 l2); revert l1 l2; intro _ _; (try k_sweep); walk_at "enterD"))
  (k_with "subscriptTail Name Name ref int" => (k_here; (with_reducible show wpAny _ _ (subscriptTail _ _ (Value.ref _) (Value.int (Nat.cast _) _)) _ _ _); k_dflt (refine' item_nat ?k1Qh ?k2Qh ?k3Qh ?k4Qh ?_; (case k1Qh => k_asm); (case k2Qh => k_mem); (case k3Qh => assumption); (case k4Qh => first | exact lt100 (by assumption) rfl | exact lt10 (by assumption) rfl | omega); k_whole)))
  (k_with "call builtin:len" => ((with_reducible show wpAny _ _ (call (Value.builtin _) [escV _ _]) _ _ _); refine' len_e ?k1Qh ?_; (case k1Qh => assumption)))
  (k_with "sub" => ((repeat' (first | refine List.forall_mem_cons.mpr ⟨?_, ?_⟩ | exact List.mem_cons_self | (refine List.mem_cons_of_mem _ ?_; k_mem) | (exact fun x hx => by k_mem))); done))
  (k_with "ifs" => ((try dsimp only); (repeat (refine Eq.trans (if_neg (by assumption)) ?_)); (repeat (refine Eq.trans ?_ (Eq.symm (if_neg (by assumption))))); exact rfl))
  (k_with "storeName" => dsimp only)
  (k_with "eval Call" => (k_here; (with_reducible show wpAny _ _ (eval (Expr.Call (Expr.Name (Str.ofString "len") _) [Expr.Name _ _] [] _) _) _ _ _); k_dflt (refine' len1 ?FQh ?XQh ?TQh ?eQh ?hvQh ?_; (case FQh => k_asm); (case XQh => k_asm); (case TQh => k_asm); (case eQh => k_is); (case hvQh => rfl); k_whole)))
  (k_with "lt" => first | assumption | exact And.left (by assumption) | exact pj1 (by assumption) | exact pj2 (by assumption) | exact pj3 (by assumption) | exact pj4 (by assumption) | exact pj5 (by assumption) | exact pj6 (by assumption) | exact pj7 (by assumption) | exact Nat.lt_succ_of_lt (And.left (by assumption)) | exact Nat.lt_succ_of_lt (Nat.lt_succ_of_lt (And.left (by assumption))))
  trivial
section ExcJ
open Builtin Builtin.ObjectAttr
/-- C an own exception class right under the own class P, whose __init__ is fI; neither has a __setattr__ nor a name message -/
def Own2 (C P fI : Addr) (bmB : List Value) (newId : String) (h : Heap) : Prop :=
  ∃ nm q N bs sn sub ab col dd k0 k1 k2 k3 k5 mN c0 dP cp slP mA, h.get? C = some (excClassObj nm q C N bs (.ref P :: bmB) true sn sub ab col dd k0 k1 k2 k3 k5 newId) ∧ h.Ns N mN ∧
    h.get? P = some { cls := c0, dict := dP, data := .cls cp, slots := slP } ∧ h.Ns cp.ns mA ∧
    mN "__init__" = none ∧ mA "__init__" = some (.ref fI) ∧ mN "__setattr__" = none ∧ mA "__setattr__" = none ∧ mN "message" = none ∧ mA "message" = none
theorem Own2.keeps {C P fI : Addr} {bmB : List Value} {newId : String} {h h' : Heap} (O : Own2 C P fI bmB newId h) (hk : ∀ b o, h.get? b = some o → h'.get? b = some o) : Own2 C P fI bmB newId h' := by
  obtain ⟨nm, q, N, bs, sn, sub, ab, col, dd, k0, k1, k2, k3, k5, mN, c0, dP, cp, slP, mA, hC, hN, hP, hA, r⟩ := O
  exact ⟨nm, q, N, bs, sn, sub, ab, col, dd, k0, k1, k2, k3, k5, mN, c0, dP, cp, slP, mA, hk _ _ hC, hN.keeps hk, hk _ _ hP, hA.keeps hk, r⟩
section
variable {M : Model} {A : Around} {E : Value → Shared → Prop} {h : Heap} {g : Array GenState} {d : Drawn} {t : Nat} {os : OsState}
variable {nm q : Str} {C P N : Addr} {bs bmB : List Value} {hdct : Bool} {sn : List Str} {sub : List Value} {ab : Bool} {col : Option Bool} {dd : Option Addr} {k0 k1 k2 k3 k5 : Option Value} {newId B sa owner : String}
variable {mN mA : Str → Option Value} {c0 : Value} {dP : Option Addr} {cp : ClassData} {slP : Array (Option Value)}
/-- a name that neither own class has is looked up where the builtin base stands -/
theorem look2 {name : Str} {y : Option Value} {R : Option Value → Shared → Prop}
    (hC : h.get? C = some (excClassObj nm q C N bs (.ref P :: bmB) hdct sn sub ab col dd k0 k1 k2 k3 k5 newId)) (hn : h.Ns N mN) (hni : mN name = none)
    (hP : h.get? P = some { cls := c0, dict := dP, data := .cls cp, slots := slP }) (hp : h.Ns cp.ns mA) (hpi : mA name = none) (hbm : mroOf (.type B) = pure bmB) (hB : typeLookup (.type B) name = pure y)
    (hR : R y ⟨h, g, d, t, os⟩) : wpAny M A (typeLookup (.ref C) name) R E ⟨h, g, d, t, os⟩ := by
  have hrest : lookupAlong bmB name = pure y := by rw [typeLookup_eq, hbm] at hB; exact hB
  rw [typeLookup_eq]
  refine wpAny_bind (wpAny_mroOf_exc hC ?_)
  rw [lookupAlong_cons]
  refine wpAny_bind (wpAny_classOwn_exc hC hn ?_)
  rw [hni]
  show wpAny _ _ (lookupAlong _ _) _ _ _
  rw [lookupAlong_cons]
  refine wpAny_bind (wpAny_classOwn_cls hP hp ?_)
  rw [hpi]
  show wpAny _ _ (lookupAlong _ _) _ _ _
  rw [hrest]
  exact wpAny_pure hR
theorem check_sa_I {x : Addr} {o : Obj} {nameV v : Value} {Q : Unit → Shared → Prop} (SF : StoreFacts B bmB sa owner) (hC : h.get? C = some (excClassObj nm q C N bs (.ref P :: bmB) hdct sn sub ab col dd k0 k1 k2 k3 k5 newId))
    (hx : h.get? x = some o) (hc : o.cls = .ref C) (hq : Q () ⟨h, g, d, t, os⟩) : wpAny M A (checkBuiltinCall sa ⟨[.ref x, nameV, v], []⟩) Q E ⟨h, g, d, t, os⟩ := by
  have hcB : (Value.ref C :: Value.ref P :: bmB).contains (.type owner) = true := by rw [List.contains_cons, List.contains_cons, SF.hasOwner, Bool.or_true, Bool.or_true]
  have ha := SF.args (.ref x) nameV v
  simp only [checkBuiltinCall, SF.kind, SF.split]
  refine wpAny_bind ?_
  unfold isInstance
  repeat (first | (with_reducible refine wpAny_loadPart_at hx ?_; rw [hc]) | (with_reducible refine wpAny_isSubtype_exc hC ?_; rw [hcB]) | wp_step)
  cases hsig : Manifest.signature? sa with
  | none => exact wpAny_pure hq
  | some sig =>
    simp only [argsOk, hsig] at ha
    have h2 : Bind.checkArgs sa sig ⟨[.ref x, nameV, v], []⟩ = pure () := ha
    show wpAny M A (Bind.checkArgs sa sig ⟨[.ref x, nameV, v], []⟩) Q E _
    rw [h2]; exact wpAny_pure hq
end
section
variable {prog : Program} {w : World} {A : Around} {E : Value → Shared → Prop} {h : Heap} {g : Array GenState} {d : Drawn} {t : Nat} {os : OsState}
variable {C P fI : Addr} {bmB : List Value} {newId B sa owner : String}
/-- self.message = v, on an exception that has no dict yet -/
theorem store_entry_I {x : Addr} {o : Obj} {v : Value} {tk : Tok} {Q : Fin → Shared → Prop} (SF : StoreFacts B bmB sa owner) (O : Own2 C P fI bmB newId h) (hB : typeLookup (.type B) ("message" : Str) = pure none)
    (hx : h.get? x = some o) (hc : o.cls = .ref C) (hnc : ∀ c, o.data ≠ .cls c) (hdn : o.dict = none)
    (hq : ∀ h' tk' D, h'.get? x = some { o with dict := some D } → (∀ b ob, b ≠ x → h.get? b = some ob → h'.get? b = some ob) → Q (.done (.ret .none)) ⟨h', g, d, tk', os⟩) :
    wpAny (model prog w) A (Builtin.«object.__setattr__» ⟨[.ref x, .str "message" tk, v], []⟩) Q E ⟨h, g, d, t, os⟩ := by
  obtain ⟨nm, q, N, bs, sn, sub, ab, col, dd, k0, k1, k2, k3, k5, mN, c0, dP, cp, slP, mA, hC, hN, hP, hA, hi1, hi2, hs1, hs2, hm1, hm2⟩ := O
  have hpass := SF.passes (.ref x)
  unfold Builtin.«object.__setattr__»
  repeat (first | rw [refuse_eq] | (rw [refuseLoop_ref, refuseLoop_ref, hpass]) | (with_reducible refine wpAny_loadPart_at hx ?_; rw [hc]) | with_reducible refine wpAny_mroOf_exc hC ?_ | (with_reducible refine look2 hC hN hm1 hP hA hm2 SF.mro hB ?_) | wp_step)
  rw [hdn, if_neg (by simp [typeHasDict])]
  split
  · rename_i hcd
    cases hcd
  split
  · rename_i c hcd
    exact absurd hcd (hnc c)
  · have hx₁ : (h.push { cls := .type "dict", data := .dict #[] }).get? x = some o := Heap.get?_push_of_some _ hx
    have hxs : x ≠ h.objs.size := Nat.ne_of_lt (Heap.lt_size hx)
    refine wpAny_bind (wpAny_alloc' ?_)
    refine wpAny_bind (wpAny_update' hx₁ ?_)
    refine wpAny_pure ?_
    have hgd : ((h.push { cls := .type "dict", data := .dict #[] }).update x fun o => { cls := o.cls, dict := some h.objs.size, data := o.data, slots := o.slots }).get? h.objs.size
        = some { cls := .type "dict", data := .dict #[] } :=
      (Heap.get?_update_ne _ _ _ _ hxs.symm).trans (Heap.get?_push_at rfl rfl)
    have hnd : ((h.push { cls := .type "dict", data := .dict #[] }).update x fun o => { cls := o.cls, dict := some h.objs.size, data := o.data, slots := o.slots }).Ns h.objs.size (fun _ => none) :=
      ⟨_, #[], _, hgd, rfl, fun e he => absurd he (by simp), fun _ => rfl⟩
    show wpAny _ _ (storeInDict h.objs.size (.str "message" tk) "message" v) _ _ _
    unfold storeInDict newKeyGuard
    refine wpAny_bind (wpAny_pure (wpAny_bind (wpAny_nsSet1 (Heap.Ns1.of_empty hnd) fun h' hn' hs => ?_)))
    obtain ⟨oD, esD, epD, hoD, hdD, hcD⟩ := hn'.count (Within.cons "message" v Within.nil)
    refine wpAny_bind (wpAny_lookBehind hoD (by rw [hdD]; exact pastItsLine_dict (Nat.le_trans hcD (by rw [List.length_cons, List.length_nil, sizeLine_eq]; omega))) ?_)
    wp_walk
    refine hq h' _ h.objs.size ?_ fun b ob hbx hb => ?_
    · refine (hs.2 x hxs).trans (Heap.get?_update_self _ hx₁ ?_)
      have hfr := (Heap.get?_some_iff.mp hx).2
      obtain ⟨oc, od, odt, osl⟩ := o
      cases odt <;> first | rfl | exact hfr
    · exact (hs.2 b (Nat.ne_of_lt (Heap.lt_size hb))).trans ((Heap.get?_update_ne _ _ _ _ hbx).trans (Heap.get?_push_of_some _ hb))
theorem store_I {x : Addr} {o : Obj} {v : Value} {Q : Unit → Shared → Prop} (SF : StoreFacts B bmB sa owner) (O : Own2 C P fI bmB newId h) (hB : typeLookup (.type B) ("message" : Str) = pure none)
    (hx : h.get? x = some o) (hc : o.cls = .ref C) (hnc : ∀ c, o.data ≠ .cls c) (hdn : o.dict = none)
    (hq : ∀ h' tk' D, h'.get? x = some { o with dict := some D } → (∀ b ob, b ≠ x → h.get? b = some ob → h'.get? b = some ob) → Q () ⟨h', g, d, tk', os⟩) :
    wpAny (model prog w) A (setAttr (.ref x) "message" v) Q E ⟨h, g, d, t, os⟩ := by
  have f3 := SF.slot.bind (.ref x)
  obtain ⟨nm, q, N, bs, sn, sub, ab, col, dd, k0, k1, k2, k3, k5, mN, c0, dP, cp, slP, mA, hC, hN, hP, hA, hi1, hi2, hs1, hs2, hm1, hm2⟩ := id O
  unfold setAttr callSpecial? specialOf
  repeat (any_goals (first | assumption | (with_reducible refine wpAny_loadPart_at hx ?_; rw [hc]) | (with_reducible refine look2 hC hN hs1 hP hA hs2 SF.mro SF.slot.lookup ?_) | wp_step))
  refine codeAny_call_builtin SF.slot.plain SF.entry (check_sa_I SF hC hx hc (store_entry_I SF O hB hx hc hnc hdn fun h' tk' D I' hk => ?_))
  repeat (any_goals (first | assumption | wp_step))
  exact hq h' tk' D I' hk
theorem call_I3 {rest : List Value} {oI : Obj} {initId : String} {Q : Value → Shared → Prop} (F : ExcBaseFacts B newId initId bmB) (O : Own2 C P fI bmB newId h) (hfI : h.get? fI = some oI) (hfc : oI.cls = .type "function")
    (hq : ∀ h' e, Heap.MadeExcOf h h' e (.ref C) rest →
      wpAny (model prog w) (A.under (.builtin "type.__call__" ⟨.ref C :: rest, []⟩)) (call (.ref fI) (.ref e :: rest)) (fun r s' => r = .none ∧ Q (.ref e) s') E ⟨h', g, d, t, os⟩) (hrest : rest.length ≤ sizeLine) :
    wpAny (model prog w) A (call (.ref C) rest) Q E ⟨h, g, d, t, os⟩ := by
  obtain ⟨nm, q, N, bs, sn, sub, ab, col, dd, k0, k1, k2, k3, k5, mN, c0, dP, cp, slP, mA, hC, hN, hP, hA, hi1, hi2, hs1, hs2, hm1, hm2⟩ := O
  exact call_I F (asBase_own P) hC (fun A' h' R hk' hR => hlook_I (hk' _ _ hC) (hN.keeps hk') hi1 (hk' _ _ hP) (hA.keeps hk') hi2 hR) hfI hfc hq hrest
end
section
variable {M : Model} {A : Around} {E : Value → Shared → Prop} {s : Shared} {env : Env} {C P fI : Addr} {bmB : List Value} {newId : String}
theorem raise_I {x : Sem Value} {Q : Flow → Shared → Prop} (hbase : bmB.contains (.type "BaseException") = true) (hh : A.handled = none)
    (h : wpAny M A x (fun v s₁ => ∃ e D t, v = .ref e ∧ Own2 C P fI bmB newId s₁.heap ∧ s₁.heap.get? e = some { cls := .ref C, dict := some D, data := .fields #[.ref t, .none, .none, .none, .bool false, .none] } ∧ E (.ref e) s₁) E s) :
    wpAny M A (raiseStmt env (some x) none) Q E s := by
  unfold raiseStmt
  refine wpAny_bind (wpAny_mono h (fun v s₁ h₁ => ?_) fun _ _ x => x)
  obtain ⟨e, D, t, rfl, O, he, hE⟩ := h₁
  obtain ⟨nm, q, N, bs, sn, sub, ab, col, dd, k0, k1, k2, k3, k5, mN, c0, dP, cp, slP, mA, hC, -⟩ := O
  have hcB : (Value.ref C :: Value.ref P :: bmB).contains (.type "BaseException") = true := by rw [List.contains_cons, List.contains_cons, hbase, Bool.or_true, Bool.or_true]
  obtain ⟨hp, g, d, tk, os⟩ := s₁
  repeat (first | with_reducible refine wpAny_loadPart_at he ?_ | with_reducible refine wpAny_loadPart_at hC ?_ | (with_reducible refine wpAny_isSubtype_exc hC ?_; rw [hcB]) | wp_step)
  exact wpAny_raiseNew_none hh hE
end
section
variable {M : Model} {A : Around} {E : Value → Shared → Prop} {s' : Shared} {base g : Heap} {outer : List Env} {L a e t : Addr} {m : Str → Option Value} {name : Str} {scope : Scope} {cd : Value} {Q : Unit → Shared → Prop} {news : List (Addr × Obj)}
/-- a frame is left by an exception that stands in the ledger -/
theorem leave_IS {cls : Value} {args : List Value} {oe : Obj} {vs : Array Value} (K : Below A base outer g) (F : Fr g L s'.heap m) (N : News g L s'.heap ((e, oe) :: (t, tupOf args.toArray) :: news)) (hc : oe.cls = cls)
    (hd : oe.data = .fields vs) (h1 : vs[1]? = some .none) (h0 : vs[0]? = some (.ref t)) (hne : ∀ q ∈ news, q.1 ≠ e ∧ q.1 ≠ t)
    (hQ : ∀ h', RaisedS base g outer e cls t args news h' → g.UpToSlots h' → Q () { s' with heap := h' }) (hk : scope.kind = .function := by rfl) :
    wpAny M (A.deeper (envOf name scope L a cd)) (leaving (envOf name scope L a cd) (.ref e)) Q E s' := by
  subst hc
  have K' := K.push (name := name) (a := a) (cd := cd) F hk
  have Ne := N (e, oe) (.head _)
  have Nt := N (t, tupOf args.toArray) (.tail _ (.head _))
  have be : base.get? e = none := fresh_of_stays K.stays Ne.2.2
  have bt : base.get? t = none := fresh_of_stays K.stays Nt.2.2
  have hin : ∀ env ∈ (envOf name scope L a cd :: outer), ∀ b, env.frame = some b → b ∈ e :: t :: (envOf name scope L a cd :: outer).filterMap (·.frame) :=
    fun env he b hb => .tail _ (.tail _ (List.mem_filterMap.mpr ⟨env, he, hb⟩))
  have st : base.StaysIn (hideAll s'.heap (e :: t :: (envOf name scope L a cd :: outer).filterMap (·.frame))) := fun b o q => hideAll_get _ (K'.stays b o q) fun hm => by
    rcases List.mem_cons.mp hm with rfl | hm
    · rw [be] at q; cases q
    rcases List.mem_cons.mp hm with rfl | hm
    · rw [bt] at q; cases q
    · rw [(K'.frames.mem hm).1] at q; cases q
  have sg : ∀ b o, g.get? b = some o → b ∉ outer.filterMap (·.frame) → (hideAll s'.heap (e :: t :: (envOf name scope L a cd :: outer).filterMap (·.frame))).get? b = some o := fun b o q nm => hideAll_get _ (F.keep b o q) fun hm => by
    rcases List.mem_cons.mp hm with rfl | hm
    · rw [Ne.2.2] at q; cases q
    rcases List.mem_cons.mp hm with rfl | hm
    · rw [Nt.2.2] at q; cases q
    rcases kts_mem hm with z | z
    · rw [z, kts_self F] at q
      cases q
    · exact nm z
  have hl : ∀ q ∈ news, (hideAll s'.heap (e :: t :: (envOf name scope L a cd :: outer).filterMap (·.frame))).get? q.1 = some q.2 ∧ g.get? q.1 = none ∧ base.get? q.1 = none := fun q hq => by
    have Nq := N q (.tail _ (.tail _ hq))
    refine ⟨hideAll_get _ Nq.1 fun hm => ?_, Nq.2.2, fresh_of_stays K.stays Nq.2.2⟩
    rcases List.mem_cons.mp hm with z | hm
    · exact (hne q hq).1 z
    rcases List.mem_cons.mp hm with z | hm
    · exact (hne q hq).2 z
    obtain ⟨env, he, hf⟩ := List.mem_filterMap.mp hm
    rcases List.mem_cons.mp he with rfl | he
    · exact Nq.2.1 (Option.some.inj hf).symm
    · obtain ⟨o, ho, _⟩ := (K.frames.mem (List.mem_filterMap.mpr ⟨env, he, hf⟩)).2
      rw [Nq.2.2] at ho; cases ho
  have hBe : (hideAll s'.heap (e :: t :: (envOf name scope L a cd :: outer).filterMap (·.frame))).get? e = none := hideAll_none _ (.head _)
  have hBt : (hideAll s'.heap (e :: t :: (envOf name scope L a cd :: outer).filterMap (·.frame))).get? t = none := hideAll_none _ (.tail _ (.head _))
  refine wpAny_leaving_firstW (a0 := .ref t) K'.stack (funFrames_hide K'.frames hin) rfl Ne.1 (fun b o q => of_hideAll _ q) hBe hd h1 h0 fun h' hL => ?_
  obtain ⟨k1, ⟨_, _, k2⟩, k3, k4⟩ := hL
  have ups : s'.heap.UpToSlots h' := fun b o hb hn => k4 b o hb hn
  exact hQ h' ⟨⟨_, st, sg, hl, ⟨k1, hBe, k2, k3⟩, hBt⟩, Heap.TupAt.of_slots ⟨_, _, Nt.1, rfl, rfl⟩ ups⟩ ((Heap.UpToSlots.of_keeps F.keep).trans ups)
end
end ExcJ
theorem rowsAt28 : True := by
  k_with_none
  (k_with "pick" => first | exact Pick.head | exact Pick.tail (Pick.head) | exact Pick.tail (Pick.tail (Pick.head)) | exact Pick.tail (Pick.tail (Pick.tail (Pick.head))) | exact Pick.tail (Pick.tail (Pick.tail (Pick.tail (Pick.head)))) | exact Pick.tail (Pick.tail (Pick.tail (Pick.tail (Pick.tail (Pick.head))))) | exact Pick.tail (Pick.tail (Pick.tail (Pick.tail (Pick.tail (Pick.tail (Pick.head)))))) | exact Pick.tail (Pick.tail (Pick.tail (Pick.tail (Pick.tail (Pick.tail (Pick.tail (Pick.head))))))) | exact Pick.tail (Pick.tail (Pick.tail (Pick.tail (Pick.tail (Pick.tail (Pick.tail (Pick.tail (Pick.head)))))))) | exact Pick.tail (Pick.tail (Pick.tail (Pick.tail (Pick.tail (Pick.tail (Pick.tail (Pick.tail (Pick.tail (Pick.head))))))))) | exact Pick.tail (Pick.tail (Pick.tail (Pick.tail (Pick.tail (Pick.tail (Pick.tail (Pick.tail (Pick.tail (Pick.tail (Pick.head)))))))))) | exact Pick.tail (Pick.tail (Pick.tail (Pick.tail (Pick.tail (Pick.tail (Pick.tail (Pick.tail (Pick.tail (Pick.tail (Pick.tail (Pick.head))))))))))) | exact Pick.tail (Pick.tail (Pick.tail (Pick.tail (Pick.tail (Pick.tail (Pick.tail (Pick.tail (Pick.tail (Pick.tail (Pick.tail (Pick.tail (Pick.head)))))))))))) | exact Pick.tail (Pick.tail (Pick.tail (Pick.tail (Pick.tail (Pick.tail (Pick.tail (Pick.tail (Pick.tail (Pick.tail (Pick.tail (Pick.tail (Pick.tail (Pick.head))))))))))))) | exact Pick.tail (Pick.tail (Pick.tail (Pick.tail (Pick.tail (Pick.tail (Pick.tail (Pick.tail (Pick.tail (Pick.tail (Pick.tail (Pick.tail (Pick.tail (Pick.tail (Pick.head)))))))))))))) | exact Pick.tail (Pick.tail (Pick.tail (Pick.tail (Pick.tail (Pick.tail (Pick.tail (Pick.tail (Pick.tail (Pick.tail (Pick.tail (Pick.tail (Pick.tail (Pick.tail (Pick.tail (Pick.head))))))))))))))))
  (k_with "room" => first | exact room_m 1 hd1 rfl rfl | exact room_m 2 hd1 rfl rfl | exact room_m 3 hd1 rfl rfl | exact room_0 0 hd1 rfl rfl | exact room_0 1 hd1 rfl rfl | exact room_0 2 hd1 rfl rfl | exact room_0 3 hd1 rfl rfl | (walk_say "ROOM BY OMEGA"; (try simp only [depth_under_make, depth_under_kw, depth_in1, depth_deeper, depth_caller]); (try dsimp only [ktrTop]); omega))
  (k_with "units" => first | exact unit_m 0 hu1 rfl rfl | exact unit_m 3 hu1 rfl rfl | exact unit_m 6 hu1 rfl rfl | exact unit_m 4 hu1 rfl rfl | exact unit_m 7 hu1 rfl rfl | (walk_say "UNITS BY OMEGA"; (try simp only [units_in1, units_deeper, Around.mark_units, units_caller]); (try dsimp only [ktrTop]); omega))
  (k_with "con1" => (refine' Con.use ?k1Qh ?k2Qh ?k3Qh (Pick.news ?kpQh ?k4Qh) ?k5Qh ?kKQh ?kdQh ?kuQh ?kCQh ?_; (case k1Qh => k_asm); (case k2Qh => k_asm); (case k3Qh => k_asm); (case k5Qh => k_asm); (case kKQh => first | exact rfl | assumption); rotate_left))
  (k_with "call builtin:len" => (k_here; (with_reducible show wpAny _ _ (call (Value.builtin _) [Value.ref _]) _ _ _); k_dflt (refine' len_at ?k1Qh ?k2Qh ?k3Qh ?_; (case k1Qh => k_asm); (case k2Qh => k_mem); (case k3Qh => first | assumption | exact lt100 (by assumption) rfl | (simp; done) | omega); k_whole)))
  (k_with "call builtin:str.join" => (k_here; k_dflt (refine' join_at ?k1Qh ?k2Qh ?k3Qh ?k4Qh ?_; (case k1Qh => k_asm); (case k2Qh => k_mem); (case k3Qh => assumption); (case k4Qh => assumption); k_whole); intro _ _))
  (k_with "call builtin:list.append" => (k_here; (with_reducible show wpAny _ _ (call (Value.builtin _) [Value.ref _, _]) _ _ _); k_dflt (refine' append_K ?k1Qh ?k2Qh ?k3Qh ?_ ?zQh; (case k1Qh => k_asm); (case k2Qh => k_asm); (case k3Qh => k_upd); (case zQh => assumption); k_whole); intro _ _ _; (try k_sweep)))
  (k_with "subscriptTail Name Name str int" => (k_here; (with_reducible show wpAny _ _ (subscriptTail _ _ (Value.str _ _) (Value.int (Nat.cast _) _)) _ _ _); k_dflt (refine' str_at0 ?k2Qh ?k3Qh ?_; (case k2Qh => assumption); (case k3Qh => first | exact lt100 (by assumption) rfl | exact lt10 (by assumption) rfl | omega); k_whole)))
  (k_with "subscriptTail Name Name str int" => (k_here; (with_reducible show wpAny _ _ (subscriptTail _ _ (Value.str _ _) (Value.int (_ + 1) _)) _ _ _); k_dflt (refine' str_at1 ?k2Qh ?k3Qh ?_; (case k2Qh => first | assumption | exact hc2 (by omega)); (case k3Qh => first | exact lt100 (by assumption) rfl | exact lt10 (by assumption) rfl | omega); k_whole)))
  (k_with "compareOp Eq str str" => ((with_reducible show wpAny _ _ (compareOp _ (Value.str (Str.mk #[_]) _) (Value.str (Str.mk #[_]) _)) _ _ _); refine eq_cc ?_))
  (k_with "compareOp Eq str str" => ((with_reducible show wpAny _ _ (compareOp _ (Value.str (Str.mk #[_]) _) (Value.str (Str.ofString "%") _)) _ _ _); refine eq_pct ?_))
  (k_with "compareOp Eq str str" => ((with_reducible show wpAny _ _ (compareOp _ (Value.str (Str.mk #[_]) _) (Value.str (Str.ofString "_") _)) _ _ _); refine eq_und ?_))
  (k_with "compareOp Eq str" => ((with_reducible show wpAny _ _ (compareOp _ (Value.str (Str.mk #[_]) _) (escV _ _)) _ _ _); refine eq_ce ?_))
  (k_with "compareOp IsNot" => ((with_reducible show wpAny _ _ (compareOp _ (escV _ _) Value.none) _ _ _); refine isnot_e ?_))
  (k_with "compareOp In str str" => ((with_reducible show wpAny _ _ (compareOp _ (Value.str (Str.mk #[_]) _) (Value.str (Str.ofString "%_") _)) _ _ _); refine in_pu ?_))
  (k_with "call builtin:len" => ((with_reducible show wpAny _ _ (call (Value.builtin _) [Value.str _ _]) _ _ _); refine' len_txt ?k1Qh ?_; (case k1Qh => first | exact lt100 (by assumption) rfl | exact lt10 (by assumption) rfl | omega)))
  (k_with "newTuple" => (k_here; k_dflt (refine' newTuple_my ?k1Qh ?k2Qh ?_ ?zQh; (case k1Qh => k_asm); (case k2Qh => k_asm); (case zQh => exact Nat.le_of_ble_eq_true rfl); k_whole); intro _ _ _ _ l1; (try k_lt l1); revert l1; intro _; (try k_sweep)))
  (k_with "compareOp Eq int int" => (refine eq_ii ?_))
  (k_with "enterC" => (refine' code_defC ?k1Qh ?k2Qh ?k3Qh ?k4Qh ?k5Qh ?kAQh ?kFQh ?kKQh ?k6Qh ?k7Qh ?k8Qh ?k9Qh ?kBQh ?kDQh ?_ ?c2Qh ?c3Qh ?c4Qh; (case kAQh => exact rfl); (case kFQh => exact rfl); (case kKQh => assumption); (case k1Qh => k_asm); (case k2Qh => k_asm); (case k3Qh => k_asm); (case k4Qh => k_asm); (case k5Qh => k_asm); (case k6Qh => k_is); (case k7Qh => k_is); (case k8Qh => walk_at "room"); (case k9Qh => exact BindsTo.of_eq rfl); (case kBQh => exact rfl); (case kDQh => decide +kernel); (case c2Qh => exact rfl); (case c3Qh => exact rfl); (case c4Qh => exact rfl); k_whole; walk_at "tail0"))
  (k_with "eval ListComp" => (k_here; k_dflt (refine LCg.ListComp_U (F₀ := by k_asm) (by rfl) (by decide) (by rfl) (by decide) (by rfl) ?_)))
  (k_with "eval Name" => (k_here; (with_reducible show wpAny _ _ (eval (Expr.Name _ _) (compEnvC _ _ _ _)) _ _ _); k_dflt (refine' ldC ?k1Qh ?k2Qh ?k3Qh ?k4Qh ?_; (case k1Qh => k_asm); (case k2Qh => rfl); (case k3Qh => k_mem); (case k4Qh => k_asm); k_whole)))
  (k_with "CompSrc" => fail "own")
  (k_with "exec While Compare cons nil" => show Mine.Stop _)
  (k_with "exec While BoolOp cons nil" => show Mine.Stop _)
  (k_with "enterD" => (refine' code_def ?k1Qh ?k2Qh ?k3Qh ?k4Qh ?k5Qh ?kAQh ?kFQh ?kKQh ?k6Qh ?k7Qh ?k8Qh ?k9Qh ?kBQh ?_ ?c2Qh ?c3Qh ?c4Qh ?c5Qh; (case kAQh => exact rfl); (case kFQh => exact rfl); (case kKQh => first | exact rfl | assumption); (case k1Qh => k_asm); (case k2Qh => k_asm); (case k3Qh => k_asm); (case k4Qh => k_asm); (case k5Qh => k_asm); (case k6Qh => k_is); (case k7Qh => k_is); (case k8Qh => walk_at "room"); (case k9Qh => first | exact BindsTo.of_eq rfl | exact binds_K (by k_in) rfl (by k_is) rfl rfl rfl | fail "enterD: no rule for these arguments"); (case c5Qh => decide); (case kBQh => exact locs rfl); (case c2Qh => exact rfl); (case c3Qh => exact rfl); (case c4Qh => exact rfl); k_whole; intro _ _ _ _ _ _ _ _ _; (try dsimp only); (try k_fold)))
  (k_with "makeD" => (refine' call_cls ?k1Qh ?k2Qh ?k3Qh ?k4Qh ?k5Qh ?k6Qh ?_; (case k1Qh => k_asm); (case k2Qh => k_asm); (case k3Qh => k_asm); (case k4Qh => k_is); (case k5Qh => k_is); (case k6Qh => k_is); k_whole; intro _ _ _ _ _ l1 l2; (try k_lt l1); (try k_lt2 l2); revert l1 l2; intro _ _; (try k_sweep); walk_at "enterD"))
  (k_with "subscriptTail Name Name ref int" => (k_here; (with_reducible show wpAny _ _ (subscriptTail _ _ (Value.ref _) (Value.int (Nat.cast _) _)) _ _ _); k_dflt (refine' item_nat ?k1Qh ?k2Qh ?k3Qh ?k4Qh ?_; (case k1Qh => k_asm); (case k2Qh => k_mem); (case k3Qh => assumption); (case k4Qh => first | exact lt100 (by assumption) rfl | exact lt10 (by assumption) rfl | omega); k_whole)))
  (k_with "call builtin:len" => ((with_reducible show wpAny _ _ (call (Value.builtin _) [escV _ _]) _ _ _); refine' len_e ?k1Qh ?_; (case k1Qh => assumption)))
  (k_with "sub" => ((repeat' (first | refine List.forall_mem_cons.mpr ⟨?_, ?_⟩ | exact List.mem_cons_self | (refine List.mem_cons_of_mem _ ?_; k_mem) | (exact fun x hx => by k_mem))); done))
  (k_with "ifs" => ((try dsimp only); (repeat (refine Eq.trans (if_neg (by assumption)) ?_)); (repeat (refine Eq.trans ?_ (Eq.symm (if_neg (by assumption))))); exact rfl))
  (k_with "storeName" => dsimp only)
  (k_with "eval Call" => (k_here; (with_reducible show wpAny _ _ (eval (Expr.Call (Expr.Name (Str.ofString "len") _) [Expr.Name _ _] [] _) _) _ _ _); k_dflt (refine' len1 ?FQh ?XQh ?TQh ?eQh ?hvQh ?_; (case FQh => k_asm); (case XQh => k_asm); (case TQh => k_asm); (case eQh => k_is); (case hvQh => rfl); k_whole)))
  (k_with "lt" => first | assumption | exact And.left (by assumption) | exact pj1 (by assumption) | exact pj2 (by assumption) | exact pj3 (by assumption) | exact pj4 (by assumption) | exact pj5 (by assumption) | exact pj6 (by assumption) | exact pj7 (by assumption) | exact Nat.lt_succ_of_lt (And.left (by assumption)) | exact Nat.lt_succ_of_lt (Nat.lt_succ_of_lt (And.left (by assumption))))
  (k_with "call ref" => (k_here; (with_reducible show wpAny _ _ (call (Value.ref 53) _ _) _ _ _); k_dflt (refine' Con.use ?k1Qh ?k2Qh ?k3Qh ?k4Qh ?k5Qh ?kKQh ?kdQh ?kuQh (fold_c _ _ _ _ _ _ _ _ ?ktQh) ?_; (case k1Qh => k_asm); (case k2Qh => k_asm); (case k3Qh => k_asm); (case k4Qh => k_asm); (case k5Qh => k_asm); (case kKQh => first | exact rfl | assumption); (case kdQh => walk_at "room"); (case kuQh => walk_at "units"); (case ktQh => first | assumption | (simp; done) | (show (1:Nat) < 100; decide)); k_whole; rintro _ _ _ _ _ _ ⟨e', _, e2'⟩; subst e' e2'; (try k_sweep))))
  (k_with "call ref" => (k_here; (with_reducible show wpAny _ _ (call (Value.ref 139) _ _) _ _ _); k_dflt (refine' Con.use ?k1Qh ?k2Qh ?k3Qh ?k4Qh ?k5Qh ?kKQh ?kdQh ?kuQh (pieces_c _ _ _ _ _ _ _ _ _ _ ?ktQh) ?_; (case k1Qh => k_asm); (case k2Qh => k_asm); (case k3Qh => k_asm); (case k4Qh => k_asm); (case k5Qh => k_asm); (case kKQh => first | exact rfl | assumption); (case kdQh => walk_at "room"); (case kuQh => walk_at "units"); (case ktQh => first | assumption | omega); k_whole)))
  (k_with "call ref" => (k_here; (with_reducible show wpAny _ _ (call (Value.ref 78) [Value.int _ _] _) _ _ _); k_dflt (refine' part1_u ?k1Qh ?k2Qh ?k3Qh ?k4Qh ?k5Qh ?kKQh ?kdQh ?kuQh ?_; (case k1Qh => k_asm); (case k2Qh => k_asm); (case k3Qh => k_asm); (case k4Qh => k_asm); (case k5Qh => k_asm); (case kKQh => first | exact rfl | assumption); (case kdQh => walk_at "room"); (case kuQh => walk_at "units"); k_whole; intro _ _ _ _ _ _ _ _ _ l1 l2 _; (try k_lt l1); (try k_lt2 l2); revert l1 l2; intro _ _; (try k_sweep))))
  (k_with "call ref" => (k_here; (with_reducible show wpAny _ _ (call (Value.ref 78) [Value.int _ _, Value.str _ _] _) _ _ _); k_dflt (refine' part2_u ?k1Qh ?k2Qh ?k3Qh ?k4Qh ?k5Qh ?kKQh ?kdQh ?kuQh ?_; (case k1Qh => k_asm); (case k2Qh => k_asm); (case k3Qh => k_asm); (case k4Qh => k_asm); (case k5Qh => k_asm); (case kKQh => first | exact rfl | assumption); (case kdQh => walk_at "room"); (case kuQh => walk_at "units"); k_whole; intro _ _ _ _ _ _ _ _ _ l1 l2 _; (try k_lt l1); (try k_lt2 l2); revert l1 l2; intro _ _; (try k_sweep))))
  (k_with "call ref" => (k_here; (with_reducible show wpAny _ _ (call (Value.ref 96) _ _) _ _ _); k_dflt (refine' Con.use ?k1Qh ?k2Qh ?k3Qh ?k4Qh ?k5Qh ?kKQh ?kdQh ?kuQh (lparts_c _ _ _ _ _ _ _ _ _ _ ?ktQh) ?_; (case k1Qh => k_asm); (case k2Qh => k_asm); (case k3Qh => k_asm); (case k4Qh => k_asm); (case k5Qh => k_asm); (case kKQh => first | exact rfl | assumption); (case kdQh => walk_at "room"); (case kuQh => walk_at "units"); (case ktQh => first | assumption | omega); k_whole; rintro _ _ _ _ _ _ (⟨_, e1', e2'⟩ | ⟨_, _, _, _, _, _, e1', e2', _, _, _⟩) <;> (subst e1' e2'; (try k_sweep)))))
  (k_with "call ref" => (k_here; (with_reducible show wpAny _ _ (call (Value.ref 75) _ _) _ _ _); k_dflt (refine' Con.use ?k1Qh ?k2Qh ?k3Qh ?k4Qh ?k5Qh ?kKQh ?kdQh ?kuQh (takes_c _ _ _ _ _ _ _ _ _ _ _ _ _ _ _ _ _ _ ?h1Qh ?h2Qh ?h3Qh ?h4Qh) ?_; (case k1Qh => k_asm); (case k2Qh => k_asm); (case k3Qh => k_asm); (case k4Qh => k_asm); (case k5Qh => k_asm); (case kKQh => first | exact rfl | assumption); (case kdQh => walk_at "room"); (case kuQh => walk_at "units"); (case h1Qh => assumption); (case h2Qh => assumption); (case h3Qh => assumption); (case h4Qh => assumption); k_whole; rintro _ _ _ _ _ _ ⟨e', e2'⟩; subst e' e2'; (try k_sweep))))
  (k_with "call ref" => (k_here; (with_reducible show wpAny _ _ (call (Value.ref 89) _ _) _ _ _); k_dflt (refine' Con.use ?k1Qh ?k2Qh ?k3Qh ?k4Qh ?k5Qh ?kKQh ?kdQh ?kuQh (matches_c _ _ _ _ _ _ _ _ _ _ _ _ ?kmQh ?kPQh ?klQh ?ktQh) ?_; (case k1Qh => k_asm); (case k2Qh => k_asm); (case k3Qh => k_asm); (case k4Qh => k_asm); (case k5Qh => k_asm); (case kKQh => first | exact rfl | assumption); (case kdQh => walk_at "room"); (case kuQh => walk_at "units"); (case kmQh => k_mem); (case kPQh => exact pts_mono (by assumption) (fun _ h => List.mem_cons_of_mem _ (List.mem_append.mpr (.inl h)))); (case klQh => assumption); (case ktQh => assumption); k_whole; rintro _ _ _ _ _ _ ⟨e', e2'⟩; subst e' e2'; (try k_sweep))))
  trivial
abbrev excB : List Value := [.type "Exception", .type "BaseException", .type "object"]
theorem own44 (w : World) {h : Heap} (X : (hd.heap_39 w.params).In h) : Own2 44 31 28 excB "Exception.__new__" h := by
  have h44 := X 44 _ (rfl : List.lookup 44 (hd.heap_39 w.params) = some _)
  have h31 := X 31 _ (rfl : List.lookup 31 (hd.heap_39 w.params) = some _)
  have q1 : nsOkIn (hd.heap_39 w.params) 43 = true := by kernel_rfl
  have q2 : nsOkIn (hd.heap_39 w.params) 30 = true := by kernel_rfl
  have hN : h.Ns 43 _ := .of_isNs (isNs_of_in X q1)
  have hP : h.Ns 30 _ := .of_isNs (isNs_of_in X q2)
  have a1 : nsIn (hd.heap_39 w.params) 43 "__init__" = some none := by kernel_rfl
  have a2 : nsIn (hd.heap_39 w.params) 30 "__init__" = some (some (.ref 28)) := by kernel_rfl
  have a3 : nsIn (hd.heap_39 w.params) 43 "__setattr__" = some none := by kernel_rfl
  have a4 : nsIn (hd.heap_39 w.params) 30 "__setattr__" = some none := by kernel_rfl
  have a5 : nsIn (hd.heap_39 w.params) 43 "message" = some none := by kernel_rfl
  have a6 : nsIn (hd.heap_39 w.params) 30 "message" = some none := by kernel_rfl
  exact ⟨_, _, 43, _, _, _, _, _, _, _, _, _, _, _, _, _, _, _, _, _, h44, hN, h31, hP, ns_none_of X hN a1, ns_some_I X hP a2, ns_none_of X hN a3, ns_none_of X hP a4, ns_none_of X hN a5, ns_none_of X hP a6⟩
abbrev excO (D : Option Addr) (t : Addr) : Obj := { cls := .ref 44, dict := D, data := .fields #[.ref t, .none, .none, .none, .bool false, .none] }
theorem noMessage : typeLookup (.type "Exception") ("message" : Str) = pure none := by rw [typeLookup_type, builtinLookup_eq_fast]; kernel_rfl
/-- the made exception in the ledger, its message stored -/
theorem setmsg_N {prog : Program} {w : World} {A : Around} {E : Value → Shared → Prop} {s : Shared} {g : Heap} {L e t : Addr} {m : Str → Option Value} {news : List (Addr × Obj)} {v : Value} {Q : Unit → Shared → Prop}
    (F : Fr g L s.heap m) (X : (hd.heap_39 w.params).In g) (N : News g L s.heap ((e, excO none t) :: news)) (hne : ∀ q ∈ news, q.1 ≠ e)
    (hq : ∀ h' tk' D, Fr g L h' m → News g L h' ((e, excO (some D) t) :: news) → Q () { s with heap := h', toks := tk' }) : wpAny (model prog w) A (setAttr (.ref e) "message" v) Q E s := by
  have Ne := N _ (.head _)
  refine store_I (C := 44) (P := 31) (fI := 28) (bmB := excB) (newId := "Exception.__new__") PySem.F.store_Exception ((own44 w X).keeps F.keep) noMessage Ne.1 rfl (fun c q => by cases q) rfl fun h' tk' D h1 h2 => hq h' tk' D ?_ ?_
  · obtain ⟨oL, a1, a2, hoL, a3⟩ := F.ns
    exact ⟨⟨oL, a1, a2, h2 _ _ (fun z => Ne.2.1 z.symm) hoL, a3⟩, fun b o q => h2 _ _ (fun z => by rw [z, Ne.2.2] at q; cases q) (F.keep b o q), F.above⟩
  · intro q hq
    rcases List.mem_cons.mp hq with rfl | hq
    · exact ⟨h1, Ne.2⟩
    · exact ⟨h2 _ _ (hne q hq) (N q (.tail _ hq)).1, (N q (.tail _ hq)).2⟩
theorem none_of_keep {h₀ h : Heap} {L b : Addr} {m : Str → Option Value} (F : Fr h₀ L h m) (e : h.get? b = none) : h₀.get? b = none := by
  cases q : h₀.get? b with
  | none => rfl
  | some o => have := F.keep b o q; rw [e] at this; cases this
theorem neL {h₀ h : Heap} {L b : Addr} {m : Str → Option Value} (F : Fr h₀ L h m) (e : h.get? b = none) : b ≠ L := fun z => by
  obtain ⟨_, _, _, hoL, _⟩ := F.ns
  rw [z, hoL] at e
  cases e
theorem neN {h₀ h : Heap} {L b : Addr} {news : List (Addr × Obj)} (N : News h₀ L h news) (e : h.get? b = none) : ∀ q ∈ news, q.1 ≠ b := fun q hq z => by
  have := (N q hq).1
  rw [z, e] at this
  cases this
section Ref
theorem exc_c (w : World) (loose : List Str) (mean : ExcName → Option Value) (mg mb : Str → Option Value) (news : List (Addr × Obj)) (x : String) (tx : Tok) :
    Con w loose mean mg mb 44 news [.str (Str.ofString x) tx] 6 (fun news' r => ∃ e t D, r = .ref e ∧ news' = (e, excO (some D) t) :: (t, tupOf #[.str (Str.ofString x) tx]) :: news ∧ ∀ q ∈ news, q.1 ≠ e ∧ q.1 ≠ t) := by
  unfold Con
  k_fill
  intro dp un gd cn cs ad ccd cl outer A₀ base h₀ L m s Q E B F X N T hk hd1 hu1 hret
  obtain ⟨hp, gg, dd, tk, os⟩ := s
  obtain ⟨o28, q28, f28⟩ : ∃ o, (hd.heap_39 w.params).lookup 28 = some o ∧ o.cls = .type "function" := ⟨_, rfl, rfl⟩
  refine call_I3 PySem.F.excBase_Exception ((own44 w X).keeps F.keep) (F.keep _ _ (X _ _ q28)) f28 (fun h' e hm => ?_) (by rw [PySem.sizeLine_eq]; exact Nat.le_of_ble_eq_true rfl)
  obtain ⟨t, he, htn, ht⟩ := hm.there
  have F1 := F.keeps hm.keeps
  have N1 : News h₀ L h' ((e, excO none t) :: (t, tupOf #[.str (Str.ofString x) tx]) :: news) := by
    intro q hq
    rcases List.mem_cons.mp hq with rfl | hq
    · exact ⟨he, neL F hm.new, none_of_keep F hm.new⟩
    rcases List.mem_cons.mp hq with rfl | hq
    · exact ⟨ht, neL F htn, none_of_keep F htn⟩
    · exact ⟨hm.keeps _ _ (N q hq).1, (N q hq).2⟩
  have hne1 : ∀ q ∈ news, q.1 ≠ e ∧ q.1 ≠ t := fun q hq => ⟨neN N hm.new q hq, neN N htn q hq⟩
  have het : t ≠ e := fun z => by rw [← z, ht] at he; cases he
  clear he htn ht hm
  refine wpAny_call ?_
  k_dflt walk_at "enterD"
  k_steps
  k_dflt (refine setmsg_N (by assumption) (by assumption) (by assumption) (fun q hq => ?_) fun h2 tk2 D F2 N2 => ?_)
  · rcases List.mem_cons.mp hq with rfl | hq
    · exact het
    · exact (hne1 q hq).1
  k_steps
  exact hret _ _ _ _ (by assumption) (by assumption) ⟨e, t, D, rfl, rfl, hne1⟩
def RaisableI (E : Value → Shared → Prop) (v : Value) (s₁ : Shared) : Prop :=
  ∃ e D t, v = .ref e ∧ Own2 44 31 28 excB "Exception.__new__" s₁.heap ∧ s₁.heap.get? e = some (excO (some D) t) ∧ E (.ref e) s₁
theorem Raise_I {M : Model} {A : Around} {E : Value → Shared → Prop} {s : Shared} {env : Env} {e : PySem.Expr} {pos : Pos} {Q : Flow → Shared → Prop} (hh : A.handled = none) (h : wpAny M A (eval e env) (RaisableI E) E s) :
    wpAny M A (exec (.Raise (some e) none pos) env) Q E s := by
  show wpAny M A (do standAt pos; raiseStmt env (some (do let v ← eval e env; standAt pos; pure v)) none) Q E s
  exact wpAny_bind (wpAny_standAt (raise_I (C := 44) (P := 31) (fI := 28) (bmB := excB) (newId := "Exception.__new__") rfl hh (wpAny_bind (wpAny_mono h (fun v s₁ h₁ => wpAny_bind (wpAny_standAt (wpAny_pure h₁))) fun _ _ x => x))))
theorem rowsAt29 : True := by
  (k_with "exec Raise some none" => (k_here; (with_reducible show wpAny _ _ (exec (Stmt.Raise (some _) none _) _) _ _ _); k_dflt (refine' Raise_I ?khQh ?_; (case khQh => exact rfl))))
  trivial
/-- a contract for a call out of the law's own frame -/
def ConT (w : World) (loose : List Str) (mean : ExcName → Option Value) (mg mb : Str → Option Value) (f : Addr) (news : List (Addr × Obj)) (vs : List Value) (need : Nat) (post : List (Addr × Obj) → Value → Prop) : Prop :=
  ∀ (dp un : Nat) (gd : Option (List Code)) (cn : Str) (cs : Scope) (a : Addr) (ccd : Value) (A₀ : Around) (h₀ : Heap) (L : Addr) (m : Str → Option Value) (s : Shared) (Q E : Value → Shared → Prop),
    Below A₀ h₀ [] h₀ → Fr h₀ L s.heap m → (hd.heap_39 w.params).In h₀ → News h₀ L s.heap news → Top hd.view_39 loose mean mg mb h₀ → cs.kind = .function →
    dp + need < recursionLimit → un + 8 * need < cLine →
    (∀ r h' tk' news', Fr h₀ L h' m → News h₀ L h' news' → post news' r → Q r { s with heap := h', toks := tk' }) →
    wpAny (model PySem.Challenge.rw_qd0119_01.row.prog w) (ktrTop dp un gd cn cs L a ccd [] []) (call (.ref f) vs) Q E s
theorem ConT.use {w : World} {loose : List Str} {mean : ExcName → Option Value} {mg mb : Str → Option Value} {f : Addr} {news : List (Addr × Obj)} {vs : List Value} {need : Nat} {post : List (Addr × Obj) → Value → Prop}
    {dp un : Nat} {gd : Option (List Code)} {cn : Str} {cs : Scope} {a : Addr} {ccd : Value} {A₀ : Around} {h₀ : Heap} {L : Addr} {m : Str → Option Value} {s : Shared} {Q E : Value → Shared → Prop}
    (B : Below A₀ h₀ [] h₀) (F : Fr h₀ L s.heap m) (X : (hd.heap_39 w.params).In h₀) (N : News h₀ L s.heap news) (T : Top hd.view_39 loose mean mg mb h₀) (hk : cs.kind = .function)
    (hd1 : dp + need < recursionLimit) (hu : un + 8 * need < cLine) (C : ConT w loose mean mg mb f news vs need post)
    (ret : ∀ r h' tk' news', Fr h₀ L h' m → News h₀ L h' news' → post news' r → Q r { s with heap := h', toks := tk' }) :
    wpAny (model PySem.Challenge.rw_qd0119_01.row.prog w) (ktrTop dp un gd cn cs L a ccd [] []) (call (.ref f) vs) Q E s := C _ _ _ _ _ _ _ _ _ _ _ _ _ _ B F X N T hk hd1 hu ret
theorem kts44 (w : World) : ktsIn (hd.heap_39 w.params) 44 "BaseException" = true := by kernel_rfl
theorem ref_c (w : World) (loose : List Str) (mean : ExcName → Option Value) (mg mb : Str → Option Value) (news : List (Addr × Obj)) (x : String) (tx : Tok) (hx : x = "" ∨ x = "%%") :
    ConT w loose mean mg mb 168 news [.str (Str.ofString x) tx] 20 (fun news' r => r = .bool true ∧ news' = news) := by
  unfold ConT
  k_fill
  intro dp un gd cn cs ad ccd A₀ h₀ L m s Q E B F X N T hk hd1 hu1 hret
  refine wpAny_call ?_
  k_dflt (refine' code_defS0 ?k1 ?k2 ?k3 ?k4 ?k5 ?kA ?k6 ?k7 ?k8 ?k9 ?kB ?_ ?cK ?c2 ?c3 ?c4 ?c5; (case kA => exact rfl); (case k2 => k_asm); (case k1 => k_asm); (case k3 => k_asm); (case k4 => k_asm); (case k5 => k_asm); (case k6 => k_is); (case k7 => k_is); (case k8 => walk_at "room"); (case k9 => first | exact binds_K (by k_in) rfl (by k_is) rfl rfl rfl | exact BindsTo.of_eq rfl); (case kB => exact locs rfl); (case cK => first | exact rfl | assumption); (case c2 => exact rfl); (case c3 => exact rfl); (case c4 => exact rfl); (case c5 => decide); k_whole; intro g' L' h' FG' F' N' B' X' T' D'; (try dsimp only); (try k_fold))
  rcases hx with rfl | rfl
  · k_steps
    refine wpAny_call ?_
    k_dflt walk_at "enterD"
    k_steps
    k_dflt (refine' Con.use ?k1 ?k2 ?k3 ?k4 ?k5 ?kK ?kd ?ku (exc_c _ _ _ _ _ _ _ _) ?_; (case k1 => k_asm); (case k2 => k_asm); (case k3 => k_asm); (case k4 => k_asm); (case k5 => k_asm); (case kK => first | exact rfl | assumption); (case kd => walk_at "room"); (case ku => walk_at "units"); k_whole)
    rintro r h3 tk3 news3 F3 N3 ⟨e, t, D, rfl, rfl, hne⟩
    refine ⟨e, D, t, rfl, (own44 w (by assumption)).keeps F3.keep, (N3 _ (.head _)).1, ?_⟩
    k_dflt (refine' leave_IS (by assumption) F3 N3 rfl rfl rfl rfl hne ?_; intro h4 R4 U4)
    k_dflt (refine' caught_SO0 (C := 44) R4 ?F ?K U4 X T D' KtsTurn.refl ?ex (kts44 w) ?_; (case F => assumption); (case K => assumption); (case ex => k_is); k_whole)
    intro h5 g5 news5 T5 F5 N5 G5 N6 K5 X5 P5 D5
    k_steps
    exact leaveS0_ F5 N6 T5 fun kF kN => hret _ _ _ _ kF kN ⟨rfl, rfl⟩
  · k_steps
    refine wpAny_call ?_
    k_dflt walk_at "enterD"
    k_steps
    k_dflt (refine' Con.use ?k1 ?k2 ?k3 ?k4 ?k5 ?kK ?kd ?ku (exc_c _ _ _ _ _ _ _ _) ?_; (case k1 => k_asm); (case k2 => k_asm); (case k3 => k_asm); (case k4 => k_asm); (case k5 => k_asm); (case kK => first | exact rfl | assumption); (case kd => walk_at "room"); (case ku => walk_at "units"); k_whole)
    rintro r h3 tk3 news3 F3 N3 ⟨e, t, D, rfl, rfl, hne⟩
    refine ⟨e, D, t, rfl, (own44 w (by assumption)).keeps F3.keep, (N3 _ (.head _)).1, ?_⟩
    k_dflt (refine' leave_IS (by assumption) F3 N3 rfl rfl rfl rfl hne ?_; intro h4 R4 U4)
    k_dflt (refine' caught_SO0 (C := 44) R4 ?F ?K U4 X T D' KtsTurn.refl ?ex (kts44 w) ?_; (case F => assumption); (case K => assumption); (case ex => k_is); k_whole)
    intro h5 g5 news5 T5 F5 N5 G5 N6 K5 X5 P5 D5
    k_steps
    exact leaveS0_ F5 N6 T5 fun kF kN => hret _ _ _ _ kF kN ⟨rfl, rfl⟩
end Ref
theorem rowsAt30 : True := by
  k_with_none
  (k_with "pick" => first | exact Pick.head | exact Pick.tail (Pick.head) | exact Pick.tail (Pick.tail (Pick.head)) | exact Pick.tail (Pick.tail (Pick.tail (Pick.head))) | exact Pick.tail (Pick.tail (Pick.tail (Pick.tail (Pick.head)))) | exact Pick.tail (Pick.tail (Pick.tail (Pick.tail (Pick.tail (Pick.head))))) | exact Pick.tail (Pick.tail (Pick.tail (Pick.tail (Pick.tail (Pick.tail (Pick.head)))))) | exact Pick.tail (Pick.tail (Pick.tail (Pick.tail (Pick.tail (Pick.tail (Pick.tail (Pick.head))))))) | exact Pick.tail (Pick.tail (Pick.tail (Pick.tail (Pick.tail (Pick.tail (Pick.tail (Pick.tail (Pick.head)))))))) | exact Pick.tail (Pick.tail (Pick.tail (Pick.tail (Pick.tail (Pick.tail (Pick.tail (Pick.tail (Pick.tail (Pick.head))))))))) | exact Pick.tail (Pick.tail (Pick.tail (Pick.tail (Pick.tail (Pick.tail (Pick.tail (Pick.tail (Pick.tail (Pick.tail (Pick.head)))))))))) | exact Pick.tail (Pick.tail (Pick.tail (Pick.tail (Pick.tail (Pick.tail (Pick.tail (Pick.tail (Pick.tail (Pick.tail (Pick.tail (Pick.head))))))))))) | exact Pick.tail (Pick.tail (Pick.tail (Pick.tail (Pick.tail (Pick.tail (Pick.tail (Pick.tail (Pick.tail (Pick.tail (Pick.tail (Pick.tail (Pick.head)))))))))))) | exact Pick.tail (Pick.tail (Pick.tail (Pick.tail (Pick.tail (Pick.tail (Pick.tail (Pick.tail (Pick.tail (Pick.tail (Pick.tail (Pick.tail (Pick.tail (Pick.head))))))))))))) | exact Pick.tail (Pick.tail (Pick.tail (Pick.tail (Pick.tail (Pick.tail (Pick.tail (Pick.tail (Pick.tail (Pick.tail (Pick.tail (Pick.tail (Pick.tail (Pick.tail (Pick.head)))))))))))))) | exact Pick.tail (Pick.tail (Pick.tail (Pick.tail (Pick.tail (Pick.tail (Pick.tail (Pick.tail (Pick.tail (Pick.tail (Pick.tail (Pick.tail (Pick.tail (Pick.tail (Pick.tail (Pick.head))))))))))))))))
  (k_with "room" => first | exact room_m 1 hd1 rfl rfl | exact room_m 2 hd1 rfl rfl | exact room_m 3 hd1 rfl rfl | exact room_0 0 hd1 rfl rfl | exact room_0 1 hd1 rfl rfl | exact room_0 2 hd1 rfl rfl | exact room_0 3 hd1 rfl rfl | (walk_say "ROOM BY OMEGA"; (try simp only [depth_under_make, depth_under_kw, depth_in1, depth_deeper, depth_caller]); (try dsimp only [ktrTop]); omega))
  (k_with "units" => first | exact unit_m 0 hu1 rfl rfl | exact unit_m 3 hu1 rfl rfl | exact unit_m 6 hu1 rfl rfl | exact unit_m 4 hu1 rfl rfl | exact unit_m 7 hu1 rfl rfl | (walk_say "UNITS BY OMEGA"; (try simp only [units_in1, units_deeper, Around.mark_units, units_caller]); (try dsimp only [ktrTop]); omega))
  (k_with "con1" => (refine' Con.use ?k1Qh ?k2Qh ?k3Qh (Pick.news ?kpQh ?k4Qh) ?k5Qh ?kKQh ?kdQh ?kuQh ?kCQh ?_; (case k1Qh => k_asm); (case k2Qh => k_asm); (case k3Qh => k_asm); (case k5Qh => k_asm); (case kKQh => first | exact rfl | assumption); rotate_left))
  (k_with "call builtin:len" => (k_here; (with_reducible show wpAny _ _ (call (Value.builtin _) [Value.ref _]) _ _ _); k_dflt (refine' len_at ?k1Qh ?k2Qh ?k3Qh ?_; (case k1Qh => k_asm); (case k2Qh => k_mem); (case k3Qh => first | assumption | exact lt100 (by assumption) rfl | (simp; done) | omega); k_whole)))
  (k_with "call builtin:str.join" => (k_here; k_dflt (refine' join_at ?k1Qh ?k2Qh ?k3Qh ?k4Qh ?_; (case k1Qh => k_asm); (case k2Qh => k_mem); (case k3Qh => assumption); (case k4Qh => assumption); k_whole); intro _ _))
  (k_with "call builtin:list.append" => (k_here; (with_reducible show wpAny _ _ (call (Value.builtin _) [Value.ref _, _]) _ _ _); k_dflt (refine' append_K ?k1Qh ?k2Qh ?k3Qh ?_ ?zQh; (case k1Qh => k_asm); (case k2Qh => k_asm); (case k3Qh => k_upd); (case zQh => assumption); k_whole); intro _ _ _; (try k_sweep)))
  (k_with "subscriptTail Name Name str int" => (k_here; (with_reducible show wpAny _ _ (subscriptTail _ _ (Value.str _ _) (Value.int (Nat.cast _) _)) _ _ _); k_dflt (refine' str_at0 ?k2Qh ?k3Qh ?_; (case k2Qh => assumption); (case k3Qh => first | exact lt100 (by assumption) rfl | exact lt10 (by assumption) rfl | omega); k_whole)))
  (k_with "subscriptTail Name Name str int" => (k_here; (with_reducible show wpAny _ _ (subscriptTail _ _ (Value.str _ _) (Value.int (_ + 1) _)) _ _ _); k_dflt (refine' str_at1 ?k2Qh ?k3Qh ?_; (case k2Qh => first | assumption | exact hc2 (by omega)); (case k3Qh => first | exact lt100 (by assumption) rfl | exact lt10 (by assumption) rfl | omega); k_whole)))
  (k_with "compareOp Eq str str" => ((with_reducible show wpAny _ _ (compareOp _ (Value.str (Str.mk #[_]) _) (Value.str (Str.mk #[_]) _)) _ _ _); refine eq_cc ?_))
  (k_with "compareOp Eq str str" => ((with_reducible show wpAny _ _ (compareOp _ (Value.str (Str.mk #[_]) _) (Value.str (Str.ofString "%") _)) _ _ _); refine eq_pct ?_))
  (k_with "compareOp Eq str str" => ((with_reducible show wpAny _ _ (compareOp _ (Value.str (Str.mk #[_]) _) (Value.str (Str.ofString "_") _)) _ _ _); refine eq_und ?_))
  (k_with "compareOp Eq str" => ((with_reducible show wpAny _ _ (compareOp _ (Value.str (Str.mk #[_]) _) (escV _ _)) _ _ _); refine eq_ce ?_))
  (k_with "compareOp IsNot" => ((with_reducible show wpAny _ _ (compareOp _ (escV _ _) Value.none) _ _ _); refine isnot_e ?_))
  (k_with "compareOp In str str" => ((with_reducible show wpAny _ _ (compareOp _ (Value.str (Str.mk #[_]) _) (Value.str (Str.ofString "%_") _)) _ _ _); refine in_pu ?_))
  (k_with "call builtin:len" => ((with_reducible show wpAny _ _ (call (Value.builtin _) [Value.str _ _]) _ _ _); refine' len_txt ?k1Qh ?_; (case k1Qh => first | exact lt100 (by assumption) rfl | exact lt10 (by assumption) rfl | omega)))
  (k_with "newTuple" => (k_here; k_dflt (refine' newTuple_my ?k1Qh ?k2Qh ?_ ?zQh; (case k1Qh => k_asm); (case k2Qh => k_asm); (case zQh => exact Nat.le_of_ble_eq_true rfl); k_whole); intro _ _ _ _ l1; (try k_lt l1); revert l1; intro _; (try k_sweep)))
  (k_with "compareOp Eq int int" => (refine eq_ii ?_))
  (k_with "enterC" => (refine' code_defC ?k1Qh ?k2Qh ?k3Qh ?k4Qh ?k5Qh ?kAQh ?kFQh ?kKQh ?k6Qh ?k7Qh ?k8Qh ?k9Qh ?kBQh ?kDQh ?_ ?c2Qh ?c3Qh ?c4Qh; (case kAQh => exact rfl); (case kFQh => exact rfl); (case kKQh => assumption); (case k1Qh => k_asm); (case k2Qh => k_asm); (case k3Qh => k_asm); (case k4Qh => k_asm); (case k5Qh => k_asm); (case k6Qh => k_is); (case k7Qh => k_is); (case k8Qh => walk_at "room"); (case k9Qh => exact BindsTo.of_eq rfl); (case kBQh => exact rfl); (case kDQh => decide +kernel); (case c2Qh => exact rfl); (case c3Qh => exact rfl); (case c4Qh => exact rfl); k_whole; walk_at "tail0"))
  (k_with "eval ListComp" => (k_here; k_dflt (refine LCg.ListComp_U (F₀ := by k_asm) (by rfl) (by decide) (by rfl) (by decide) (by rfl) ?_)))
  (k_with "eval Name" => (k_here; (with_reducible show wpAny _ _ (eval (Expr.Name _ _) (compEnvC _ _ _ _)) _ _ _); k_dflt (refine' ldC ?k1Qh ?k2Qh ?k3Qh ?k4Qh ?_; (case k1Qh => k_asm); (case k2Qh => rfl); (case k3Qh => k_mem); (case k4Qh => k_asm); k_whole)))
  (k_with "CompSrc" => fail "own")
  (k_with "exec While Compare cons nil" => show Mine.Stop _)
  (k_with "exec While BoolOp cons nil" => show Mine.Stop _)
  (k_with "enterD" => (refine' code_def ?k1Qh ?k2Qh ?k3Qh ?k4Qh ?k5Qh ?kAQh ?kFQh ?kKQh ?k6Qh ?k7Qh ?k8Qh ?k9Qh ?kBQh ?_ ?c2Qh ?c3Qh ?c4Qh ?c5Qh; (case kAQh => exact rfl); (case kFQh => exact rfl); (case kKQh => first | exact rfl | assumption); (case k1Qh => k_asm); (case k2Qh => k_asm); (case k3Qh => k_asm); (case k4Qh => k_asm); (case k5Qh => k_asm); (case k6Qh => k_is); (case k7Qh => k_is); (case k8Qh => walk_at "room"); (case k9Qh => first | exact BindsTo.of_eq rfl | exact binds_K (by k_in) rfl (by k_is) rfl rfl rfl | fail "enterD: no rule for these arguments"); (case c5Qh => decide); (case kBQh => exact locs rfl); (case c2Qh => exact rfl); (case c3Qh => exact rfl); (case c4Qh => exact rfl); k_whole; intro _ _ _ _ _ _ _ _ _; (try dsimp only); (try k_fold)))
  (k_with "makeD" => (refine' call_cls ?k1Qh ?k2Qh ?k3Qh ?k4Qh ?k5Qh ?k6Qh ?_; (case k1Qh => k_asm); (case k2Qh => k_asm); (case k3Qh => k_asm); (case k4Qh => k_is); (case k5Qh => k_is); (case k6Qh => k_is); k_whole; intro _ _ _ _ _ l1 l2; (try k_lt l1); (try k_lt2 l2); revert l1 l2; intro _ _; (try k_sweep); walk_at "enterD"))
  (k_with "subscriptTail Name Name ref int" => (k_here; (with_reducible show wpAny _ _ (subscriptTail _ _ (Value.ref _) (Value.int (Nat.cast _) _)) _ _ _); k_dflt (refine' item_nat ?k1Qh ?k2Qh ?k3Qh ?k4Qh ?_; (case k1Qh => k_asm); (case k2Qh => k_mem); (case k3Qh => assumption); (case k4Qh => first | exact lt100 (by assumption) rfl | exact lt10 (by assumption) rfl | omega); k_whole)))
  (k_with "call builtin:len" => ((with_reducible show wpAny _ _ (call (Value.builtin _) [escV _ _]) _ _ _); refine' len_e ?k1Qh ?_; (case k1Qh => assumption)))
  (k_with "sub" => ((repeat' (first | refine List.forall_mem_cons.mpr ⟨?_, ?_⟩ | exact List.mem_cons_self | (refine List.mem_cons_of_mem _ ?_; k_mem) | (exact fun x hx => by k_mem))); done))
  (k_with "ifs" => ((try dsimp only); (repeat (refine Eq.trans (if_neg (by assumption)) ?_)); (repeat (refine Eq.trans ?_ (Eq.symm (if_neg (by assumption))))); exact rfl))
  (k_with "storeName" => dsimp only)
  (k_with "eval Call" => (k_here; (with_reducible show wpAny _ _ (eval (Expr.Call (Expr.Name (Str.ofString "len") _) [Expr.Name _ _] [] _) _) _ _ _); k_dflt (refine' len1 ?FQh ?XQh ?TQh ?eQh ?hvQh ?_; (case FQh => k_asm); (case XQh => k_asm); (case TQh => k_asm); (case eQh => k_is); (case hvQh => rfl); k_whole)))
  (k_with "lt" => first | assumption | exact And.left (by assumption) | exact pj1 (by assumption) | exact pj2 (by assumption) | exact pj3 (by assumption) | exact pj4 (by assumption) | exact pj5 (by assumption) | exact pj6 (by assumption) | exact pj7 (by assumption) | exact Nat.lt_succ_of_lt (And.left (by assumption)) | exact Nat.lt_succ_of_lt (Nat.lt_succ_of_lt (And.left (by assumption))))
  (k_with "call ref" => (k_here; (with_reducible show wpAny _ _ (call (Value.ref 53) _ _) _ _ _); k_dflt (refine' Con.use ?k1Qh ?k2Qh ?k3Qh ?k4Qh ?k5Qh ?kKQh ?kdQh ?kuQh (fold_c _ _ _ _ _ _ _ _ ?ktQh) ?_; (case k1Qh => k_asm); (case k2Qh => k_asm); (case k3Qh => k_asm); (case k4Qh => k_asm); (case k5Qh => k_asm); (case kKQh => first | exact rfl | assumption); (case kdQh => walk_at "room"); (case kuQh => walk_at "units"); (case ktQh => first | assumption | (simp; done) | (show (1:Nat) < 100; decide)); k_whole; rintro _ _ _ _ _ _ ⟨e', _, e2'⟩; subst e' e2'; (try k_sweep))))
  (k_with "call ref" => (k_here; (with_reducible show wpAny _ _ (call (Value.ref 139) _ _) _ _ _); k_dflt (refine' Con.use ?k1Qh ?k2Qh ?k3Qh ?k4Qh ?k5Qh ?kKQh ?kdQh ?kuQh (pieces_c _ _ _ _ _ _ _ _ _ _ ?ktQh) ?_; (case k1Qh => k_asm); (case k2Qh => k_asm); (case k3Qh => k_asm); (case k4Qh => k_asm); (case k5Qh => k_asm); (case kKQh => first | exact rfl | assumption); (case kdQh => walk_at "room"); (case kuQh => walk_at "units"); (case ktQh => first | assumption | omega); k_whole)))
  (k_with "call ref" => (k_here; (with_reducible show wpAny _ _ (call (Value.ref 132) _ _) _ _ _); k_dflt (refine' Con.use ?k1Qh ?k2Qh ?k3Qh ?k4Qh ?k5Qh ?kKQh ?kdQh ?kuQh (alike_c _ _ _ _ _ _ _ _ _ _) ?_; (case k1Qh => k_asm); (case k2Qh => k_asm); (case k3Qh => k_asm); (case k4Qh => k_asm); (case k5Qh => k_asm); (case kKQh => first | exact rfl | assumption); (case kdQh => walk_at "room"); (case kuQh => walk_at "units"); k_whole; rintro _ _ _ _ _ _ ⟨e', e2'⟩; subst e' e2'; (try k_sweep))))
  (k_with "call ref" => (k_here; (with_reducible show wpAny _ _ (call (Value.ref 78) [Value.int _ _] _) _ _ _); k_dflt (refine' part1_u ?k1Qh ?k2Qh ?k3Qh ?k4Qh ?k5Qh ?kKQh ?kdQh ?kuQh ?_; (case k1Qh => k_asm); (case k2Qh => k_asm); (case k3Qh => k_asm); (case k4Qh => k_asm); (case k5Qh => k_asm); (case kKQh => first | exact rfl | assumption); (case kdQh => walk_at "room"); (case kuQh => walk_at "units"); k_whole; intro _ _ _ _ _ _ _ _ _ l1 l2 _; (try k_lt l1); (try k_lt2 l2); revert l1 l2; intro _ _; (try k_sweep))))
  (k_with "call ref" => (k_here; (with_reducible show wpAny _ _ (call (Value.ref 78) [Value.int _ _, Value.str _ _] _) _ _ _); k_dflt (refine' part2_u ?k1Qh ?k2Qh ?k3Qh ?k4Qh ?k5Qh ?kKQh ?kdQh ?kuQh ?_; (case k1Qh => k_asm); (case k2Qh => k_asm); (case k3Qh => k_asm); (case k4Qh => k_asm); (case k5Qh => k_asm); (case kKQh => first | exact rfl | assumption); (case kdQh => walk_at "room"); (case kuQh => walk_at "units"); k_whole; intro _ _ _ _ _ _ _ _ _ l1 l2 _; (try k_lt l1); (try k_lt2 l2); revert l1 l2; intro _ _; (try k_sweep))))
  (k_with "call ref" => (k_here; (with_reducible show wpAny _ _ (call (Value.ref 96) _ _) _ _ _); k_dflt (refine' Con.use ?k1Qh ?k2Qh ?k3Qh ?k4Qh ?k5Qh ?kKQh ?kdQh ?kuQh (lparts_c _ _ _ _ _ _ _ _ _ _ ?ktQh) ?_; (case k1Qh => k_asm); (case k2Qh => k_asm); (case k3Qh => k_asm); (case k4Qh => k_asm); (case k5Qh => k_asm); (case kKQh => first | exact rfl | assumption); (case kdQh => walk_at "room"); (case kuQh => walk_at "units"); (case ktQh => first | assumption | omega); k_whole; rintro _ _ _ _ _ _ (⟨_, e1', e2'⟩ | ⟨_, _, _, _, _, _, e1', e2', _, _, _⟩) <;> (subst e1' e2'; (try k_sweep)))))
  (k_with "call ref" => (k_here; (with_reducible show wpAny _ _ (call (Value.ref 75) _ _) _ _ _); k_dflt (refine' Con.use ?k1Qh ?k2Qh ?k3Qh ?k4Qh ?k5Qh ?kKQh ?kdQh ?kuQh (takes_c _ _ _ _ _ _ _ _ _ _ _ _ _ _ _ _ _ _ ?h1Qh ?h2Qh ?h3Qh ?h4Qh) ?_; (case k1Qh => k_asm); (case k2Qh => k_asm); (case k3Qh => k_asm); (case k4Qh => k_asm); (case k5Qh => k_asm); (case kKQh => first | exact rfl | assumption); (case kdQh => walk_at "room"); (case kuQh => walk_at "units"); (case h1Qh => assumption); (case h2Qh => assumption); (case h3Qh => assumption); (case h4Qh => assumption); k_whole; rintro _ _ _ _ _ _ ⟨e', e2'⟩; subst e' e2'; (try k_sweep))))
  (k_with "call ref" => (k_here; (with_reducible show wpAny _ _ (call (Value.ref 89) _ _) _ _ _); k_dflt (refine' Con.use ?k1Qh ?k2Qh ?k3Qh ?k4Qh ?k5Qh ?kKQh ?kdQh ?kuQh (matches_c _ _ _ _ _ _ _ _ _ _ _ _ ?kmQh ?kPQh ?klQh ?ktQh) ?_; (case k1Qh => k_asm); (case k2Qh => k_asm); (case k3Qh => k_asm); (case k4Qh => k_asm); (case k5Qh => k_asm); (case kKQh => first | exact rfl | assumption); (case kdQh => walk_at "room"); (case kuQh => walk_at "units"); (case kmQh => k_mem); (case kPQh => exact pts_mono (by assumption) (fun _ h => List.mem_cons_of_mem _ (List.mem_append.mpr (.inl h)))); (case klQh => assumption); (case ktQh => assumption); k_whole; rintro _ _ _ _ _ _ ⟨e', e2'⟩; subst e' e2'; (try k_sweep))))
  (k_with "call ref" => (k_here; (with_reducible show wpAny _ _ (call (Value.ref 104) [Value.str _ _, Value.str _ _, escV _ _] _) _ _ _); k_dflt (refine' Con.use ?k1Qh ?k2Qh ?k3Qh ?k4Qh ?k5Qh ?kKQh ?kdQh ?kuQh (like_c _ _ _ _ _ _ _ _ _ _ _ _ ?kpQh ?ktQh) ?_; (case k1Qh => k_asm); (case k2Qh => k_asm); (case k3Qh => k_asm); (case k4Qh => k_asm); (case k5Qh => k_asm); (case kKQh => first | exact rfl | assumption); (case kdQh => walk_at "room"); (case kuQh => walk_at "units"); (case kpQh => assumption); (case ktQh => assumption); k_whole; rintro _ _ _ _ _ _ ⟨e', e2'⟩; subst e' e2'; (try k_sweep))))
  trivial
section FinC
theorem likeA_c (w : World) (loose : List Str) (mean : ExcName → Option Value) (mg mb : Str → Option Value) (news : List (Addr × Obj)) (t1 t2 t3 : Tok) :
    Con w loose mean mg mb 104 news [.str (Str.ofString "__") t1, .str (Str.ofString "_") t2, .str (Str.ofString "_") t3] 10 (fun news' r => news' = news ∧ r = .bool true) := by
  have h := like_c w loose mean mg mb news (Str.ofString "__") (Str.ofString "_") t1 t2 t3 (some 95) (by decide +kernel) (by decide +kernel)
  have e1 : escV (some 95) t3 = .str (Str.ofString "_") t3 := by rw [escV]; congr 1
  have e2 : likeR (some 95) (Str.ofString "__").cps.toList (Str.ofString "_").cps.toList = true := like1
  rw [e1, e2] at h
  exact h
theorem likeB_c (w : World) (loose : List Str) (mean : ExcName → Option Value) (mg mb : Str → Option Value) (news : List (Addr × Obj)) (t1 t2 t3 : Tok) :
    Con w loose mean mg mb 104 news [.str (Str.ofString "m%") t1, .str (Str.ofString "m") t2, .str (Str.ofString "%") t3] 10 (fun news' r => news' = news ∧ r = .bool false) := by
  have h := like_c w loose mean mg mb news (Str.ofString "m%") (Str.ofString "m") t1 t2 t3 (some 37) (by decide +kernel) (by decide +kernel)
  have e1 : escV (some 37) t3 = .str (Str.ofString "%") t3 := by rw [escV]; congr 1
  have e2 : likeR (some 37) (Str.ofString "m%").cps.toList (Str.ofString "m").cps.toList = false := like2
  rw [e1, e2] at h
  exact h
end FinC
theorem rowsAt31 : True := by
  k_with_none
  (k_with "pick" => first | exact Pick.head | exact Pick.tail (Pick.head) | exact Pick.tail (Pick.tail (Pick.head)) | exact Pick.tail (Pick.tail (Pick.tail (Pick.head))) | exact Pick.tail (Pick.tail (Pick.tail (Pick.tail (Pick.head)))) | exact Pick.tail (Pick.tail (Pick.tail (Pick.tail (Pick.tail (Pick.head))))) | exact Pick.tail (Pick.tail (Pick.tail (Pick.tail (Pick.tail (Pick.tail (Pick.head)))))) | exact Pick.tail (Pick.tail (Pick.tail (Pick.tail (Pick.tail (Pick.tail (Pick.tail (Pick.head))))))) | exact Pick.tail (Pick.tail (Pick.tail (Pick.tail (Pick.tail (Pick.tail (Pick.tail (Pick.tail (Pick.head)))))))) | exact Pick.tail (Pick.tail (Pick.tail (Pick.tail (Pick.tail (Pick.tail (Pick.tail (Pick.tail (Pick.tail (Pick.head))))))))) | exact Pick.tail (Pick.tail (Pick.tail (Pick.tail (Pick.tail (Pick.tail (Pick.tail (Pick.tail (Pick.tail (Pick.tail (Pick.head)))))))))) | exact Pick.tail (Pick.tail (Pick.tail (Pick.tail (Pick.tail (Pick.tail (Pick.tail (Pick.tail (Pick.tail (Pick.tail (Pick.tail (Pick.head))))))))))) | exact Pick.tail (Pick.tail (Pick.tail (Pick.tail (Pick.tail (Pick.tail (Pick.tail (Pick.tail (Pick.tail (Pick.tail (Pick.tail (Pick.tail (Pick.head)))))))))))) | exact Pick.tail (Pick.tail (Pick.tail (Pick.tail (Pick.tail (Pick.tail (Pick.tail (Pick.tail (Pick.tail (Pick.tail (Pick.tail (Pick.tail (Pick.tail (Pick.head))))))))))))) | exact Pick.tail (Pick.tail (Pick.tail (Pick.tail (Pick.tail (Pick.tail (Pick.tail (Pick.tail (Pick.tail (Pick.tail (Pick.tail (Pick.tail (Pick.tail (Pick.tail (Pick.head)))))))))))))) | exact Pick.tail (Pick.tail (Pick.tail (Pick.tail (Pick.tail (Pick.tail (Pick.tail (Pick.tail (Pick.tail (Pick.tail (Pick.tail (Pick.tail (Pick.tail (Pick.tail (Pick.tail (Pick.head))))))))))))))))
  (k_with "room" => first | exact room_m 1 hd1 rfl rfl | exact room_m 2 hd1 rfl rfl | exact room_m 3 hd1 rfl rfl | exact room_0 0 hd1 rfl rfl | exact room_0 1 hd1 rfl rfl | exact room_0 2 hd1 rfl rfl | exact room_0 3 hd1 rfl rfl | (walk_say "ROOM BY OMEGA"; (try simp only [depth_under_make, depth_under_kw, depth_in1, depth_deeper, depth_caller]); (try dsimp only [ktrTop]); omega))
  (k_with "units" => first | exact unit_m 0 hu1 rfl rfl | exact unit_m 3 hu1 rfl rfl | exact unit_m 6 hu1 rfl rfl | exact unit_m 4 hu1 rfl rfl | exact unit_m 7 hu1 rfl rfl | (walk_say "UNITS BY OMEGA"; (try simp only [units_in1, units_deeper, Around.mark_units, units_caller]); (try dsimp only [ktrTop]); omega))
  (k_with "con1" => (refine' Con.use ?k1Qh ?k2Qh ?k3Qh (Pick.news ?kpQh ?k4Qh) ?k5Qh ?kKQh ?kdQh ?kuQh ?kCQh ?_; (case k1Qh => k_asm); (case k2Qh => k_asm); (case k3Qh => k_asm); (case k5Qh => k_asm); (case kKQh => first | exact rfl | assumption); rotate_left))
  (k_with "call builtin:len" => (k_here; (with_reducible show wpAny _ _ (call (Value.builtin _) [Value.ref _]) _ _ _); k_dflt (refine' len_at ?k1Qh ?k2Qh ?k3Qh ?_; (case k1Qh => k_asm); (case k2Qh => k_mem); (case k3Qh => first | assumption | exact lt100 (by assumption) rfl | (simp; done) | omega); k_whole)))
  (k_with "call builtin:str.join" => (k_here; k_dflt (refine' join_at ?k1Qh ?k2Qh ?k3Qh ?k4Qh ?_; (case k1Qh => k_asm); (case k2Qh => k_mem); (case k3Qh => assumption); (case k4Qh => assumption); k_whole); intro _ _))
  (k_with "call builtin:list.append" => (k_here; (with_reducible show wpAny _ _ (call (Value.builtin _) [Value.ref _, _]) _ _ _); k_dflt (refine' append_K ?k1Qh ?k2Qh ?k3Qh ?_ ?zQh; (case k1Qh => k_asm); (case k2Qh => k_asm); (case k3Qh => k_upd); (case zQh => assumption); k_whole); intro _ _ _; (try k_sweep)))
  (k_with "subscriptTail Name Name str int" => (k_here; (with_reducible show wpAny _ _ (subscriptTail _ _ (Value.str _ _) (Value.int (Nat.cast _) _)) _ _ _); k_dflt (refine' str_at0 ?k2Qh ?k3Qh ?_; (case k2Qh => assumption); (case k3Qh => first | exact lt100 (by assumption) rfl | exact lt10 (by assumption) rfl | omega); k_whole)))
  (k_with "subscriptTail Name Name str int" => (k_here; (with_reducible show wpAny _ _ (subscriptTail _ _ (Value.str _ _) (Value.int (_ + 1) _)) _ _ _); k_dflt (refine' str_at1 ?k2Qh ?k3Qh ?_; (case k2Qh => first | assumption | exact hc2 (by omega)); (case k3Qh => first | exact lt100 (by assumption) rfl | exact lt10 (by assumption) rfl | omega); k_whole)))
  (k_with "compareOp Eq str str" => ((with_reducible show wpAny _ _ (compareOp _ (Value.str (Str.mk #[_]) _) (Value.str (Str.mk #[_]) _)) _ _ _); refine eq_cc ?_))
  (k_with "compareOp Eq str str" => ((with_reducible show wpAny _ _ (compareOp _ (Value.str (Str.mk #[_]) _) (Value.str (Str.ofString "%") _)) _ _ _); refine eq_pct ?_))
  (k_with "compareOp Eq str str" => ((with_reducible show wpAny _ _ (compareOp _ (Value.str (Str.mk #[_]) _) (Value.str (Str.ofString "_") _)) _ _ _); refine eq_und ?_))
  (k_with "compareOp Eq str" => ((with_reducible show wpAny _ _ (compareOp _ (Value.str (Str.mk #[_]) _) (escV _ _)) _ _ _); refine eq_ce ?_))
  (k_with "compareOp IsNot" => ((with_reducible show wpAny _ _ (compareOp _ (escV _ _) Value.none) _ _ _); refine isnot_e ?_))
  (k_with "compareOp In str str" => ((with_reducible show wpAny _ _ (compareOp _ (Value.str (Str.mk #[_]) _) (Value.str (Str.ofString "%_") _)) _ _ _); refine in_pu ?_))
  (k_with "call builtin:len" => ((with_reducible show wpAny _ _ (call (Value.builtin _) [Value.str _ _]) _ _ _); refine' len_txt ?k1Qh ?_; (case k1Qh => first | exact lt100 (by assumption) rfl | exact lt10 (by assumption) rfl | omega)))
  (k_with "newTuple" => (k_here; k_dflt (refine' newTuple_my ?k1Qh ?k2Qh ?_ ?zQh; (case k1Qh => k_asm); (case k2Qh => k_asm); (case zQh => exact Nat.le_of_ble_eq_true rfl); k_whole); intro _ _ _ _ l1; (try k_lt l1); revert l1; intro _; (try k_sweep)))
  (k_with "compareOp Eq int int" => (refine eq_ii ?_))
  (k_with "enterC" => (refine' code_defC ?k1Qh ?k2Qh ?k3Qh ?k4Qh ?k5Qh ?kAQh ?kFQh ?kKQh ?k6Qh ?k7Qh ?k8Qh ?k9Qh ?kBQh ?kDQh ?_ ?c2Qh ?c3Qh ?c4Qh; (case kAQh => exact rfl); (case kFQh => exact rfl); (case kKQh => assumption); (case k1Qh => k_asm); (case k2Qh => k_asm); (case k3Qh => k_asm); (case k4Qh => k_asm); (case k5Qh => k_asm); (case k6Qh => k_is); (case k7Qh => k_is); (case k8Qh => walk_at "room"); (case k9Qh => exact BindsTo.of_eq rfl); (case kBQh => exact rfl); (case kDQh => decide +kernel); (case c2Qh => exact rfl); (case c3Qh => exact rfl); (case c4Qh => exact rfl); k_whole; walk_at "tail0"))
  (k_with "eval ListComp" => (k_here; k_dflt (refine LCg.ListComp_U (F₀ := by k_asm) (by rfl) (by decide) (by rfl) (by decide) (by rfl) ?_)))
  (k_with "eval Name" => (k_here; (with_reducible show wpAny _ _ (eval (Expr.Name _ _) (compEnvC _ _ _ _)) _ _ _); k_dflt (refine' ldC ?k1Qh ?k2Qh ?k3Qh ?k4Qh ?_; (case k1Qh => k_asm); (case k2Qh => rfl); (case k3Qh => k_mem); (case k4Qh => k_asm); k_whole)))
  (k_with "CompSrc" => fail "own")
  (k_with "exec While Compare cons nil" => show Mine.Stop _)
  (k_with "exec While BoolOp cons nil" => show Mine.Stop _)
  (k_with "enterD" => (refine' code_def ?k1Qh ?k2Qh ?k3Qh ?k4Qh ?k5Qh ?kAQh ?kFQh ?kKQh ?k6Qh ?k7Qh ?k8Qh ?k9Qh ?kBQh ?_ ?c2Qh ?c3Qh ?c4Qh ?c5Qh; (case kAQh => exact rfl); (case kFQh => exact rfl); (case kKQh => first | exact rfl | assumption); (case k1Qh => k_asm); (case k2Qh => k_asm); (case k3Qh => k_asm); (case k4Qh => k_asm); (case k5Qh => k_asm); (case k6Qh => k_is); (case k7Qh => k_is); (case k8Qh => walk_at "room"); (case k9Qh => first | exact BindsTo.of_eq rfl | exact binds_K (by k_in) rfl (by k_is) rfl rfl rfl | fail "enterD: no rule for these arguments"); (case c5Qh => decide); (case kBQh => exact locs rfl); (case c2Qh => exact rfl); (case c3Qh => exact rfl); (case c4Qh => exact rfl); k_whole; intro _ _ _ _ _ _ _ _ _; (try dsimp only); (try k_fold)))
  (k_with "makeD" => (refine' call_cls ?k1Qh ?k2Qh ?k3Qh ?k4Qh ?k5Qh ?k6Qh ?_; (case k1Qh => k_asm); (case k2Qh => k_asm); (case k3Qh => k_asm); (case k4Qh => k_is); (case k5Qh => k_is); (case k6Qh => k_is); k_whole; intro _ _ _ _ _ l1 l2; (try k_lt l1); (try k_lt2 l2); revert l1 l2; intro _ _; (try k_sweep); walk_at "enterD"))
  (k_with "subscriptTail Name Name ref int" => (k_here; (with_reducible show wpAny _ _ (subscriptTail _ _ (Value.ref _) (Value.int (Nat.cast _) _)) _ _ _); k_dflt (refine' item_nat ?k1Qh ?k2Qh ?k3Qh ?k4Qh ?_; (case k1Qh => k_asm); (case k2Qh => k_mem); (case k3Qh => assumption); (case k4Qh => first | exact lt100 (by assumption) rfl | exact lt10 (by assumption) rfl | omega); k_whole)))
  (k_with "call builtin:len" => ((with_reducible show wpAny _ _ (call (Value.builtin _) [escV _ _]) _ _ _); refine' len_e ?k1Qh ?_; (case k1Qh => assumption)))
  (k_with "sub" => ((repeat' (first | refine List.forall_mem_cons.mpr ⟨?_, ?_⟩ | exact List.mem_cons_self | (refine List.mem_cons_of_mem _ ?_; k_mem) | (exact fun x hx => by k_mem))); done))
  (k_with "ifs" => ((try dsimp only); (repeat (refine Eq.trans (if_neg (by assumption)) ?_)); (repeat (refine Eq.trans ?_ (Eq.symm (if_neg (by assumption))))); exact rfl))
  (k_with "storeName" => dsimp only)
  (k_with "eval Call" => (k_here; (with_reducible show wpAny _ _ (eval (Expr.Call (Expr.Name (Str.ofString "len") _) [Expr.Name _ _] [] _) _) _ _ _); k_dflt (refine' len1 ?FQh ?XQh ?TQh ?eQh ?hvQh ?_; (case FQh => k_asm); (case XQh => k_asm); (case TQh => k_asm); (case eQh => k_is); (case hvQh => rfl); k_whole)))
  (k_with "lt" => first | assumption | exact And.left (by assumption) | exact pj1 (by assumption) | exact pj2 (by assumption) | exact pj3 (by assumption) | exact pj4 (by assumption) | exact pj5 (by assumption) | exact pj6 (by assumption) | exact pj7 (by assumption) | exact Nat.lt_succ_of_lt (And.left (by assumption)) | exact Nat.lt_succ_of_lt (Nat.lt_succ_of_lt (And.left (by assumption))))
  (k_with "call ref" => (k_here; (with_reducible show wpAny _ _ (call (Value.ref 118) _ _) _ _ _); k_dflt (refine' take_u ?k1Qh ?k2Qh ?k3Qh (Pick.news ?kpQh ?k4Qh) ?k5Qh ?kKQh ?kdQh ?kuQh ?kneQh ?ksoQh ?ktQh ?kt1Qh ?_; (case k1Qh => k_asm); (case k2Qh => k_asm); (case k3Qh => k_asm); (case k4Qh => k_asm); (case kpQh => walk_at "pick"); (case k5Qh => k_asm); (case kKQh => first | exact rfl | assumption); (case kdQh => walk_at "room"); (case kuQh => walk_at "units"); (case kneQh => k_all); (case ksoQh => assumption); (case ktQh => first | assumption | decide | omega); (case kt1Qh => first | assumption | decide | omega); k_whole; intro _ _ _ _ _ _ _ _ _ _; (try k_sweep))))
  (k_with "call ref" => (k_here; (with_reducible show wpAny _ _ (call (Value.ref 125) _ _) _ _ _); k_dflt (refine' one_u ?k1Qh ?k2Qh ?k3Qh (Pick.news ?kpQh ?k4Qh) ?k5Qh ?kKQh ?kdQh ?kuQh ?kneQh ?ksoQh ?kmQh ?kaQh ?kbQh ?_; (case k1Qh => k_asm); (case k2Qh => k_asm); (case k3Qh => k_asm); (case k4Qh => k_asm); (case kpQh => walk_at "pick"); (case k5Qh => k_asm); (case kKQh => first | exact rfl | assumption); (case kdQh => walk_at "room"); (case kuQh => walk_at "units"); (case kneQh => k_all); (case ksoQh => assumption); (case kmQh => k_mem); (case kaQh => first | assumption | exact sz14a (by assumption) | decide | omega | (simp; done)); (case kbQh => first | assumption | exact sz14b (by assumption) | decide | omega | (simp; done)); k_whole; intro _ _ _ _ _ _ _ _; (try k_sweep))))
  (k_with "call ref" => (k_here; (with_reducible show wpAny _ _ (call (Value.ref 151) _ _) _ _ _); k_dflt (refine' signs_u ?k1Qh ?k2Qh ?k3Qh ?k4Qh ?k5Qh ?kKQh ?kdQh ?kuQh ?_; (case k1Qh => k_asm); (case k2Qh => k_asm); (case k3Qh => k_asm); (case k4Qh => k_asm); (case k5Qh => k_asm); (case kKQh => first | exact rfl | assumption); (case kdQh => walk_at "room"); (case kuQh => walk_at "units"); k_whole; intro _ _ _ _ _ _ l1' _ _ _; (try k_lt l1'); revert l1'; intro _; (try k_sweep))))
  (k_with "call ref" => (k_here; (with_reducible show wpAny _ _ (call (Value.ref 53) _ _) _ _ _); k_dflt (refine' Con.use ?k1Qh ?k2Qh ?k3Qh ?k4Qh ?k5Qh ?kKQh ?kdQh ?kuQh (fold_c _ _ _ _ _ _ _ _ ?ktQh) ?_; (case k1Qh => k_asm); (case k2Qh => k_asm); (case k3Qh => k_asm); (case k4Qh => k_asm); (case k5Qh => k_asm); (case kKQh => first | exact rfl | assumption); (case kdQh => walk_at "room"); (case kuQh => walk_at "units"); (case ktQh => first | assumption | (simp; done) | (show (1:Nat) < 100; decide)); k_whole; rintro _ _ _ _ _ _ ⟨e', _, e2'⟩; subst e' e2'; (try k_sweep))))
  (k_with "call ref" => (k_here; (with_reducible show wpAny _ _ (call (Value.ref 139) _ _) _ _ _); k_dflt (refine' Con.use ?k1Qh ?k2Qh ?k3Qh ?k4Qh ?k5Qh ?kKQh ?kdQh ?kuQh (pieces_c _ _ _ _ _ _ _ _ _ _ ?ktQh) ?_; (case k1Qh => k_asm); (case k2Qh => k_asm); (case k3Qh => k_asm); (case k4Qh => k_asm); (case k5Qh => k_asm); (case kKQh => first | exact rfl | assumption); (case kdQh => walk_at "room"); (case kuQh => walk_at "units"); (case ktQh => first | assumption | omega); k_whole)))
  (k_with "call ref" => (k_here; (with_reducible show wpAny _ _ (call (Value.ref 132) _ _) _ _ _); k_dflt (refine' Con.use ?k1Qh ?k2Qh ?k3Qh ?k4Qh ?k5Qh ?kKQh ?kdQh ?kuQh (alike_c _ _ _ _ _ _ _ _ _ _) ?_; (case k1Qh => k_asm); (case k2Qh => k_asm); (case k3Qh => k_asm); (case k4Qh => k_asm); (case k5Qh => k_asm); (case kKQh => first | exact rfl | assumption); (case kdQh => walk_at "room"); (case kuQh => walk_at "units"); k_whole; rintro _ _ _ _ _ _ ⟨e', e2'⟩; subst e' e2'; (try k_sweep))))
  (k_with "call ref" => (k_here; (with_reducible show wpAny _ _ (call (Value.ref 78) [Value.int _ _] _) _ _ _); k_dflt (refine' part1_u ?k1Qh ?k2Qh ?k3Qh ?k4Qh ?k5Qh ?kKQh ?kdQh ?kuQh ?_; (case k1Qh => k_asm); (case k2Qh => k_asm); (case k3Qh => k_asm); (case k4Qh => k_asm); (case k5Qh => k_asm); (case kKQh => first | exact rfl | assumption); (case kdQh => walk_at "room"); (case kuQh => walk_at "units"); k_whole; intro _ _ _ _ _ _ _ _ _ l1 l2 _; (try k_lt l1); (try k_lt2 l2); revert l1 l2; intro _ _; (try k_sweep))))
  (k_with "call ref" => (k_here; (with_reducible show wpAny _ _ (call (Value.ref 78) [Value.int _ _, Value.str _ _] _) _ _ _); k_dflt (refine' part2_u ?k1Qh ?k2Qh ?k3Qh ?k4Qh ?k5Qh ?kKQh ?kdQh ?kuQh ?_; (case k1Qh => k_asm); (case k2Qh => k_asm); (case k3Qh => k_asm); (case k4Qh => k_asm); (case k5Qh => k_asm); (case kKQh => first | exact rfl | assumption); (case kdQh => walk_at "room"); (case kuQh => walk_at "units"); k_whole; intro _ _ _ _ _ _ _ _ _ l1 l2 _; (try k_lt l1); (try k_lt2 l2); revert l1 l2; intro _ _; (try k_sweep))))
  (k_with "call ref" => (k_here; (with_reducible show wpAny _ _ (call (Value.ref 96) _ _) _ _ _); k_dflt (refine' Con.use ?k1Qh ?k2Qh ?k3Qh ?k4Qh ?k5Qh ?kKQh ?kdQh ?kuQh (lparts_c _ _ _ _ _ _ _ _ _ _ ?ktQh) ?_; (case k1Qh => k_asm); (case k2Qh => k_asm); (case k3Qh => k_asm); (case k4Qh => k_asm); (case k5Qh => k_asm); (case kKQh => first | exact rfl | assumption); (case kdQh => walk_at "room"); (case kuQh => walk_at "units"); (case ktQh => first | assumption | omega); k_whole; rintro _ _ _ _ _ _ (⟨_, e1', e2'⟩ | ⟨_, _, _, _, _, _, e1', e2', _, _, _⟩) <;> (subst e1' e2'; (try k_sweep)))))
  (k_with "call ref" => (k_here; (with_reducible show wpAny _ _ (call (Value.ref 75) _ _) _ _ _); k_dflt (refine' Con.use ?k1Qh ?k2Qh ?k3Qh ?k4Qh ?k5Qh ?kKQh ?kdQh ?kuQh (takes_c _ _ _ _ _ _ _ _ _ _ _ _ _ _ _ _ _ _ ?h1Qh ?h2Qh ?h3Qh ?h4Qh) ?_; (case k1Qh => k_asm); (case k2Qh => k_asm); (case k3Qh => k_asm); (case k4Qh => k_asm); (case k5Qh => k_asm); (case kKQh => first | exact rfl | assumption); (case kdQh => walk_at "room"); (case kuQh => walk_at "units"); (case h1Qh => assumption); (case h2Qh => assumption); (case h3Qh => assumption); (case h4Qh => assumption); k_whole; rintro _ _ _ _ _ _ ⟨e', e2'⟩; subst e' e2'; (try k_sweep))))
  (k_with "call ref" => (k_here; (with_reducible show wpAny _ _ (call (Value.ref 89) _ _) _ _ _); k_dflt (refine' Con.use ?k1Qh ?k2Qh ?k3Qh ?k4Qh ?k5Qh ?kKQh ?kdQh ?kuQh (matches_c _ _ _ _ _ _ _ _ _ _ _ _ ?kmQh ?kPQh ?klQh ?ktQh) ?_; (case k1Qh => k_asm); (case k2Qh => k_asm); (case k3Qh => k_asm); (case k4Qh => k_asm); (case k5Qh => k_asm); (case kKQh => first | exact rfl | assumption); (case kdQh => walk_at "room"); (case kuQh => walk_at "units"); (case kmQh => k_mem); (case kPQh => exact pts_mono (by assumption) (fun _ h => List.mem_cons_of_mem _ (List.mem_append.mpr (.inl h)))); (case klQh => assumption); (case ktQh => assumption); k_whole; rintro _ _ _ _ _ _ ⟨e', e2'⟩; subst e' e2'; (try k_sweep))))
  (k_with "call ref" => (k_here; (with_reducible show wpAny _ _ (call (Value.ref 104) [Value.str _ _, Value.str _ _, escV _ _] _) _ _ _); k_dflt (refine' Con.use ?k1Qh ?k2Qh ?k3Qh ?k4Qh ?k5Qh ?kKQh ?kdQh ?kuQh (like_c _ _ _ _ _ _ _ _ _ _ _ _ ?kpQh ?ktQh) ?_; (case k1Qh => k_asm); (case k2Qh => k_asm); (case k3Qh => k_asm); (case k4Qh => k_asm); (case k5Qh => k_asm); (case kKQh => first | exact rfl | assumption); (case kdQh => walk_at "room"); (case kuQh => walk_at "units"); (case kpQh => assumption); (case ktQh => assumption); k_whole; rintro _ _ _ _ _ _ ⟨e', e2'⟩; subst e' e2'; (try k_sweep))))
  (k_with "call ref" => (k_here; (with_reducible show wpAny _ _ (call (Value.ref 168) [Value.str (Str.ofString _) _] _) _ _ _); k_dflt (refine' ConT.use ?k1Qh ?k2Qh ?k3Qh ?k4Qh ?k5Qh ?kKQh ?kdQh ?kuQh (ref_c _ _ _ _ _ _ _ _ ?hxQh) ?_; (case k1Qh => k_asm); (case k2Qh => k_asm); (case k3Qh => k_asm); (case k4Qh => k_asm); (case k5Qh => k_asm); (case kKQh => first | exact rfl | assumption); (case kdQh => walk_at "room"); (case kuQh => walk_at "units"); (case hxQh => first | exact Or.inl rfl | exact Or.inr rfl); k_whole; rintro _ _ _ _ _ _ ⟨e', e2'⟩; subst e' e2'; (try k_sweep))))
  trivial
section Law
theorem rowsAt32 : True := by
  (k_with "call ref" => (k_here; (with_reducible show wpAny _ _ (call (Value.ref 104) [Value.str (Str.ofString "__") _, _, _] _) _ _ _); k_dflt (refine' Con.use ?k1Qh ?k2Qh ?k3Qh ?k4Qh ?k5Qh ?kKQh ?kdQh ?kuQh (likeA_c _ _ _ _ _ _ _ _ _) ?_; (case k1Qh => k_asm); (case k2Qh => k_asm); (case k3Qh => k_asm); (case k4Qh => k_asm); (case k5Qh => k_asm); (case kKQh => first | exact rfl | assumption); (case kdQh => walk_at "room"); (case kuQh => walk_at "units"); k_whole; rintro _ _ _ _ _ _ ⟨e', e2'⟩; subst e' e2'; (try k_sweep))))
  (k_with "call ref" => (k_here; (with_reducible show wpAny _ _ (call (Value.ref 104) [Value.str (Str.ofString "m%") _, _, _] _) _ _ _); k_dflt (refine' Con.use ?k1Qh ?k2Qh ?k3Qh ?k4Qh ?k5Qh ?kKQh ?kdQh ?kuQh (likeB_c _ _ _ _ _ _ _ _ _) ?_; (case k1Qh => k_asm); (case k2Qh => k_asm); (case k3Qh => k_asm); (case k4Qh => k_asm); (case k5Qh => k_asm); (case kKQh => first | exact rfl | assumption); (case kdQh => walk_at "room"); (case kuQh => walk_at "units"); k_whole; rintro _ _ _ _ _ _ ⟨e', e2'⟩; subst e' e2'; (try k_sweep))))
  (k_with "room" => exact Nat.le_of_ble_eq_true rfl)
  (k_with "units" => exact Nat.le_of_ble_eq_true rfl)
  trivial
theorem stop_of {P : Prop} (h : Stop P) : P := h
theorem rowsAt33 : True := by
  (k_with "exec For Name Call cons nil" => (k_dflt (refine wpAny_For ?_)))
  (k_with "pyIter ref" => (refine stop_of ?_))
  trivial
theorem turns_of (l : Nat) : ∃ n : Nat, (if (if (l : Int) < 2 then (l : Int) else 2) > 1 then (if (l : Int) < 2 then (l : Int) else 2) else 1) = (n : Int) ∧ n ≤ 2 :=
  ⟨if l < 2 then 1 else 2, by (repeat' split) <;> omega, by split <;> omega⟩
theorem rowsAt34 : True := by
  (k_with "call ref" => ((with_reducible show wpAny _ _ (call (Value.ref 111) _ _) _ _ _); refine stop_of ?_))
  (k_with "call ref" => ((with_reducible show wpAny _ _ (call (Value.ref 125) _ _) _ _ _); refine stop_of ?_))
  (k_with "call ref" => ((with_reducible show wpAny _ _ (call (Value.ref 139) _ _) _ _ _); refine stop_of ?_))
  (k_with "call ref" => ((with_reducible show wpAny _ _ (call (Value.ref 144) _ _) _ _ _); refine stop_of ?_))
  (k_with "call ref" => ((with_reducible show wpAny _ _ (call (Value.ref 156) _ _) _ _ _); refine stop_of ?_))
  (k_with "call ref" => ((with_reducible show wpAny _ _ (call (Value.ref 161) _ _) _ _ _); refine stop_of ?_))
  trivial
theorem ConB.use {w : World} {loose : List Str} {mean : ExcName → Option Value} {mg mb : Str → Option Value} {f : Addr} {news : List (Addr × Obj)} {vs : List Value} {need : Nat} {pre : Heap → Prop} {post : List (Addr × Obj) → Value → Prop}
    {dp un : Nat} {gd : Option (List Code)} {cn : Str} {cs : Scope} {a : Addr} {ccd : Value} {cl : List (Str × Addr)} {outer : List Env} {A₀ : Around} {base h₀ : Heap} {L : Addr} {m : Str → Option Value} {s : Shared} {Q E : Value → Shared → Prop}
    (B : Below A₀ base outer h₀) (F : Fr h₀ L s.heap m) (X : (hd.heap_39 w.params).In h₀) (N : News h₀ L s.heap news) (T : Top hd.view_39 loose mean mg mb h₀) (hk : cs.kind = .function)
    (hd1 : dp + need < recursionLimit) (hu : un + 8 * need < cLine) (hp : pre base) (C : ConB w loose mean mg mb f news vs need pre post)
    (ret : ∀ r h' tk' news', Fr h₀ L h' m → News h₀ L h' news' → post news' r → Q r { s with heap := h', toks := tk' }) :
    wpAny (model PySem.Challenge.rw_qd0119_01.row.prog w) (ktrTop dp un gd cn cs L a ccd cl outer) (call (.ref f) vs) Q E s := C _ _ _ _ _ _ _ _ _ _ _ _ _ _ _ _ _ B F X N T hk hd1 hu hp ret
theorem esc_of {t1 t2 t3 t4 t5 t6 : Tok} {r : Value} (h : r ∈ (#[.none, .none, .str (Str.ofString "\\") t1, .str (Str.ofString "%") t2, .str (Str.ofString "_") t3, .str (Str.ofString "a") t4, .str (Str.ofString "Z") t5, .str ⟨#[Int.toNat 233]⟩ t6] : Array Value).toList) :
    ∃ e te, r = escV e te := by
  simp only [List.mem_cons, List.not_mem_nil, or_false] at h
  rcases h with rfl | rfl | rfl | rfl | rfl | rfl | rfl | rfl
  · exact ⟨none, 0, rfl⟩
  · exact ⟨none, 0, rfl⟩
  · exact ⟨some 92, _, congrArg (Value.str · _) (by decide +kernel)⟩
  · exact ⟨some 37, _, congrArg (Value.str · _) (by decide +kernel)⟩
  · exact ⟨some 95, _, congrArg (Value.str · _) (by decide +kernel)⟩
  · exact ⟨some 97, _, congrArg (Value.str · _) (by decide +kernel)⟩
  · exact ⟨some 90, _, congrArg (Value.str · _) (by decide +kernel)⟩
  · exact ⟨some 233, _, congrArg (Value.str · _) (by decide +kernel)⟩
theorem ne_same {prog : Program} {w : World} {A : Around} {E : Value → Shared → Prop} {s : Shared} {c : Bool} {Q : Value → Shared → Prop} (h : Q (.bool false) s) : wpAny (model prog w) A (compareOp .NotEq (.bool c) (.bool c)) Q E s :=
  PyProof.Rows.ne_bool (by rw [bne_self_eq_false]; exact h)
theorem rowsAt35 : True := by
  (k_with "compareOp NotEq bool bool" => (refine ne_same ?_))
  trivial
theorem like_none {e : Option Nat} {p t : List Nat} (h : piecesF e p = none) : likeR e p t = false := by rw [like_due, dueR, h]
theorem like_some {e : Option Nat} {p t : List Nat} {ps : List Pc} (h : piecesF e p = some ps) : likeR e p t = Mt alikeF ps t := by rw [like_due, dueR, h]
theorem lawx : PySem.Challenge.rw_qd0119_01.Holds := hd (by
  k_go0
  all_goals (try k_fold)
  k_steps
  rename IsRange _ _ _ _ _ _ _ _ => R1
  obtain ⟨n, hn, hn2⟩ := turns_of _
  rw [hn] at R1
  rename IntsAre _ _ => hI
  rename ¬ ((63 : Nat) : Int) < _ => hlen
  rename Below callerA _ [] _ => K0
  rename Heap.IsList _ _ _ => hLs
  unfold Stop
  refine for_range (n := n) (b := (n : Int)) rfl (by assumption) (by assumption) R1 (small_k (Nat.lt_of_le_of_lt hn2 (Nat.le_of_ble_eq_true rfl))) rsz_k rfl rfl
    (fun m0 i m nx => m (Str.ofString "script") = m0 (Str.ofString "script") ∧ nx = []) ⟨rfl, rfl⟩ ?_ ?_
  · clear R1
    rintro i u m₁ nx h tk I oI hi ⟨hms, rfl⟩ hne F1 N1
    refine abs_turn fun R g5 d5 o5 hR => ?_
    rw [fr3 m₁ _ _ hms] at F1
    dsimp only at F1
    have hk9 : (0 : Int) ≤ 0 + (i : Int) ∧ (0 : Int) + (i : Int) < 2 := by omega
    rename (PyData.list _).layable0 = true => hlay
    k_steps
    unfold Stop
    k_dflt (refine' ConB.use ?k1 ?k2 ?k3 ?k4 ?k5 ?kK ?kd ?ku ?kp (pool_c _ _ _ _ _ _ _ _ _ _ _ hI hlay (by omega) hk9.1 hk9.2) ?_; (case k1 => k_asm); (case k2 => k_asm); (case k3 => k_asm); (case k4 => k_asm); (case k5 => k_asm); (case kK => first | exact rfl | assumption); (case kd => walk_at "room"); (case ku => walk_at "units"); (case kp => exact hLs); k_whole)
    rintro r h' tk' news' F2 N2 ⟨sa, so, rfl, hlt, rfl, hso⟩
    k_steps
    rename IsRange _ _ _ _ _ _ _ _ => R2
    have hIsa : I ≠ sa := Nat.ne_of_lt (hlt _ (.head _))
    clear F1 N1
    unfold Stop
    refine for_range (n := 2) (b := 2) rfl (by assumption) (by assumption) R2 small_02 (by rfl) rfl rfl
      (fun m0 i m nx => m (Str.ofString "script") = m0 (Str.ofString "script") ∧ m (Str.ofString "source") = some (.ref sa) ∧ ∃ so, SrcOk so ∧ nx = [(sa, so), (I, oI)]) ⟨rfl, rfl, so, hso, rfl⟩ ?_ ?_
    · clear R2
      rintro j u2 m₂ nx2 h2 tk2 I2 oI2 hj ⟨hms2, hsr2, so2, hso2, rfl⟩ hne2 F3 N3
      refine abs_turn fun R2 g6 d6 o6 hR2 => ?_
      rw [fr3 m₂ _ _ hsr2] at F3
      dsimp only at F3
      have hI2sa : I2 ≠ sa := Ne.symm (hne2 _ (.head _))
      have hsaN : ∀ p ∈ [(I2, oI2), (I, oI)], p.1 ≠ sa := List.forall_mem_cons.mpr ⟨hI2sa, List.forall_mem_cons.mpr ⟨hIsa, fun _ h => nomatch h⟩⟩
      have N4 := swp N3
      clear N3
      k_steps
      unfold Stop
      k_dflt (refine' Con.use ?k1 ?k2 ?k3 ?k4 ?k5 ?kK ?kd ?ku (pat_c _ _ _ _ _ _ _ _ hsaN hso2) ?_; (case k1 => k_asm); (case k2 => k_asm); (case k3 => k_asm); (case k4 => k_asm); (case k5 => k_asm); (case kK => first | exact rfl | assumption); (case kd => walk_at "room"); (case ku => walk_at "units"); k_whole)
      rintro r5 h5 tk5 news5 F5 N5 ⟨so5, hso5, rfl, pt, pu, rfl, hpt⟩
      clear F3 N4
      k_steps
      rename_i l6 h6 F6 N6 l6sa
      have hl6 : l6 ≠ sa := Ne.symm (Nat.ne_of_lt l6sa.1)
      have N7 := swp N6
      clear N6
      unfold Stop
      k_dflt (refine' Con.use ?k1 ?k2 ?k3 ?k4 ?k5 ?kK ?kd ?ku (one_c _ _ _ _ _ _ _ _ _ _ _ (List.forall_mem_cons.mpr ⟨hl6, hsaN⟩) hso5 (.head _) ?h1 ?h2) ?_; (case k1 => k_asm); (case k2 => k_asm); (case k3 => k_asm); (case k4 => k_asm); (case k5 => k_asm); (case kK => first | exact rfl | assumption); (case kd => walk_at "room"); (case ku => walk_at "units"); (case h1 => exact Nat.le_of_ble_eq_true rfl); (case h2 => exact Nat.le_of_ble_eq_true rfl); k_whole)
      rintro r8 h8 tk8 news8 F8 N8 ⟨so8, hso8, rfl, hr8⟩
      obtain ⟨e8, te8, rfl⟩ := esc_of hr8
      clear F6 N7 hr8
      have N9 := tl1 (swp N8)
      clear N8
      k_steps
      have N10 : News _ _ _ [(sa, so8), (I2, oI2), (I, oI)] := tl1 (by assumption)
      have hpt2 : pt.cps.size < 100 := lt10 (by assumption) rfl
      unfold Stop
      k_dflt (refine' Con.use ?k1 ?k2 ?k3 ?k4 ?k5 ?kK ?kd ?ku (pieces_c _ _ _ _ _ _ _ _ _ _ hpt2) ?_; (case k1 => k_asm); (case k2 => k_asm); (case k3 => k_asm); (case k4 => k_asm); (case k5 => k_asm); (case kK => first | exact rfl | assumption); (case kd => walk_at "room"); (case ku => walk_at "units"); k_whole)
      rintro r11 h11 tk11 news11 F11 N11 (⟨hpn, rfl, rfl⟩ | ⟨fa, vs, k, tup, ps, hps, rfl, rfl, hP, hl, hltf⟩)
      · clear N10
        k_steps
        unfold Stop
        k_dflt (refine' Con.use ?k1 ?k2 ?k3 ?k4 ?k5 ?kK ?kd ?ku (text_c _ _ _ _ _ _ _ _ _ hsaN hso8 (.inl rfl)) ?_; (case k1 => k_asm); (case k2 => k_asm); (case k3 => k_asm); (case k4 => k_asm); (case k5 => k_asm); (case kK => first | exact rfl | assumption); (case kd => walk_at "room"); (case ku => walk_at "units"); k_whole)
        rintro r12 h12 tk12 news12 F12 N12 ⟨so12, hso12, rfl, t12, u12, rfl, ht12⟩
        k_steps
        rw [like_none hpn]
        unfold Stop
        k_dflt (refine' Con.use ?k1 ?k2 ?k3 ?k4 ?k5 ?kK ?kd ?ku (due0_c _ _ _ _ _ _ _ _) ?_; (case k1 => k_asm); (case k2 => k_asm); (case k3 => k_asm); (case k4 => k_asm); (case k5 => k_asm); (case kK => first | exact rfl | assumption); (case kd => walk_at "room"); (case ku => walk_at "units"); k_whole)
        rintro r13 h13 tk13 news13 F13 N13 ⟨rfl, rfl⟩
        k_steps
        refine hR2 _ _ _ ?_
        dsimp only [TurnEnd]
        exact ⟨h13, _, _, [(sa, so12), (I, oI)], rfl, F13, swp N13, List.forall_mem_cons.mpr ⟨Ne.symm hI2sa, List.forall_mem_cons.mpr ⟨hne2 _ (.tail _ (.head _)), fun _ h => nomatch h⟩⟩, hms2, rfl, so12, hso12, rfl⟩
      · have hsa11 : ∀ p ∈ (fa, W.listOf vs.toArray k) :: (tup ++ [(I2, oI2), (I, oI)]), p.1 ≠ sa := by
          intro p hp
          rcases List.mem_cons.mp hp with rfl | hp
          · exact Ne.symm (Nat.ne_of_lt (hltf _ (.head _) _ (.head _)))
          · rcases List.mem_append.mp hp with hp | hp
            · exact Ne.symm (Nat.ne_of_lt (hltf _ (.tail _ hp) _ (.head _)))
            · exact hsaN _ hp
        have N11' : News _ _ _ ((sa, so8) :: (fa, W.listOf vs.toArray k) :: (tup ++ [(I2, oI2), (I, oI)])) := fun p hp => N11 p (by
          rcases List.mem_cons.mp hp with rfl | hp
          · exact .tail _ (List.mem_append_right _ (.head _))
          · rcases List.mem_cons.mp hp with rfl | hp
            · exact .head _
            · rcases List.mem_append.mp hp with hp | hp
              · exact .tail _ (List.mem_append_left _ hp)
              · exact .tail _ (List.mem_append_right _ (.tail _ hp)))
        have hP2 : PcsAre ((fa, W.listOf vs.toArray k) :: (tup ++ [(I2, oI2), (I, oI)])) vs ps := pcs_mono hP fun p hp => .tail _ (List.mem_append_left _ hp)
        have hl2 : vs.length < 10 := by
          have e1 := pcs_len hP
          have e2 := pieces_len hps
          have e3 : pt.cps.toList.length = pt.cps.size := by simp
          omega
        clear N10 N11
        k_steps
        unfold Stop
        k_dflt (refine' Con.use ?k1 ?k2 ?k3 ?k4 ?k5 ?kK ?kd ?ku (text_c _ _ _ _ _ _ _ _ _ hsa11 hso8 (.inr ⟨fa, vs, k, ps, rfl, .head _, hP2, hl2⟩)) ?_; (case k1 => k_asm); (case k2 => k_asm); (case k3 => k_asm); (case k4 => k_asm); (case k5 => k_asm); (case kK => first | exact rfl | assumption); (case kd => walk_at "room"); (case ku => walk_at "units"); k_whole)
        rintro r12 h12 tk12 news12 F12 N12 ⟨so12, hso12, rfl, t12, u12, rfl, ht12⟩
        k_steps
        rw [like_some hps]
        unfold Stop
        k_dflt (refine' Con.use ?k1 ?k2 ?k3 ?k4 ?k5 ?kK ?kd ?ku (due1_c _ _ _ _ _ _ _ _ _ _ _ _ (.tail _ (.head _)) (pcs_mono hP2 fun p hp => .tail _ hp) hl ht12) ?_; (case k1 => k_asm); (case k2 => k_asm); (case k3 => k_asm); (case k4 => k_asm); (case k5 => k_asm); (case kK => first | exact rfl | assumption); (case kd => walk_at "room"); (case ku => walk_at "units"); k_whole)
        rintro r13 h13 tk13 news13 F13 N13 ⟨rfl, rfl⟩
        k_steps
        refine hR2 _ _ _ ?_
        dsimp only [TurnEnd]
        refine ⟨h13, _, _, [(sa, so12), (I, oI)], rfl, F13, fun p hp => N13 p ?_, List.forall_mem_cons.mpr ⟨Ne.symm hI2sa, List.forall_mem_cons.mpr ⟨hne2 _ (.tail _ (.head _)), fun _ h => nomatch h⟩⟩, hms2, rfl, so12, hso12, rfl⟩
        simp only [List.mem_cons, List.not_mem_nil, or_false] at hp
        rcases hp with rfl | rfl | rfl
        · exact .tail _ (.tail _ (List.mem_append_right _ (.head _)))
        · exact .head _
        · exact .tail _ (.tail _ (List.mem_append_right _ (.tail _ (.head _))))
    · clear R2
      rintro m₃ nx3 h3 tk3 ⟨hms3, hsr3, so3, hso3, rfl⟩ F3 N3
      k_steps
      refine hR _ _ _ ?_
      dsimp only [TurnEnd]
      exact ⟨h3, _, _, [], rfl, F3, tl1 N3, (fun _ h => nomatch h), hms3, rfl⟩
  · clear R1
    rintro m₃ nx3 h3 tk3 ⟨hms3, rfl⟩ F3 N3
    k_steps
    all_goals (try k_data)
    all_goals w_report)
end Law
end Mine
theorem PySem.Challenge.cw_qd0119_01_holds : PySem.Challenge.rw_qd0119_01.Holds :=
  Mine.lawx
