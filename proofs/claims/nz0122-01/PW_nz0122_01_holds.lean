import PyProof.Rows.All
import Wide.All
import OpenK.AllK
import Wide.FinOn
import PySem.Challenge.RW_nz0122_01
set_option Elab.async false
set_option linter.all false
section
open PySem PySem.W PyProof.Rows
namespace Mine
set_option maxRecDepth 100000 in
set_option maxHeartbeats 8000000 in
open_top hd for PySem.Challenge.rw_nz0122_01
end Mine
end
section
open PySem PySem.W PyProof.Rows PySem.Spec PySem.Calls
namespace Mine
/-- the ledger's source list -/
abbrev srcO (a b : Int) (ta tb : Tok) (n : Nat) : Obj := listOf #[.int a ta, .int b tb] n
/-- an entry taken out of a ledger -/
inductive Pick (p : Addr × Obj) : List (Addr × Obj) → List (Addr × Obj) → Prop
  | head {r} : Pick p (p :: r) r
  | tail {q r r'} : Pick p r r' → Pick p (q :: r) (q :: r')
theorem Pick.sub {p : Addr × Obj} : ∀ {l r : List (Addr × Obj)}, Pick p l r → ∀ q ∈ p :: r, q ∈ l
  | _, _, .head, q, h => h
  | _, _, .tail k, q, h => by
    rcases List.mem_cons.mp h with rfl | h
    · exact .tail _ (k.sub _ (.head _))
    · rcases List.mem_cons.mp h with rfl | h
      · exact .head _
      · exact .tail _ (k.sub _ (.tail _ h))
theorem news_sub {h₀ h : Heap} {L : Addr} {l l' : List (Addr × Obj)} (N : News h₀ L h l) (k : ∀ q ∈ l', q ∈ l) : News h₀ L h l' := fun p hp => N p (k p hp)
/-- what was made lies off what stood -/
def Off (tl l : List (Addr × Obj)) : Prop := ∀ p ∈ tl, ∀ q ∈ l, p.1 ≠ q.1
theorem Off.ne {tl l : List (Addr × Obj)} {a : Addr} {o : Obj} (h : Off tl l) (hm : (a, o) ∈ l) : ∀ p ∈ tl, p.1 ≠ a := fun p hp => h p hp _ hm
theorem Off.sub {tl l l' : List (Addr × Obj)} (h : Off tl l) (k : ∀ q ∈ l', q ∈ l) : Off tl l' := fun p hp q hq => h p hp q (k q hq)
/-- what a ledger holds beyond a part of it, told apart by the heap -/
theorem pack {h₀ h : Heap} {L : Addr} {l dl rest : List (Addr × Obj)} {p₀ : Addr × Obj} (N : News h₀ L h l) (P : Pick p₀ l dl) (hne : ∀ p ∈ dl, p.1 ≠ p₀.1) (hr : ∀ p ∈ rest, p ∈ dl) :
    ∃ tl, Off tl (p₀ :: rest) ∧ (∀ p ∈ dl, p ∈ rest ++ tl) ∧ News h₀ L h (p₀ :: (rest ++ tl)) := by
  refine ⟨dl.filter fun p => (p₀ :: rest).all fun q => decide (p.1 ≠ q.1), ?_, ?_, ?_⟩
  · intro p hp q hq
    have := List.all_eq_true.mp (List.mem_filter.mp hp).2 q hq
    exact of_decide_eq_true this
  · intro p hp
    by_cases hc : ((p₀ :: rest).all fun q => decide (p.1 ≠ q.1)) = true
    · exact List.mem_append.mpr (.inr (List.mem_filter.mpr ⟨hp, hc⟩))
    · refine List.mem_append.mpr (.inl ?_)
      rw [List.all_eq_true] at hc
      have hc' : ∃ q, q ∈ p₀ :: rest ∧ p.1 = q.1 := by
        refine Classical.byContradiction fun hx => hc fun q hq => decide_eq_true fun he => hx ⟨q, hq, he⟩
      obtain ⟨q, hq, he⟩ := hc'
      rcases List.mem_cons.mp hq with rfl | hq
      · exact absurd he (hne p hp)
      · have h1 := (N p (P.sub _ (.tail _ hp))).1
        have h2 := (N q (P.sub _ (.tail _ (hr q hq)))).1
        rw [he, h2] at h1
        have h3 : p = q := Prod.ext he (Option.some.inj h1).symm
        exact h3 ▸ hq
  · intro p hp
    refine N p (P.sub _ ?_)
    rcases List.mem_cons.mp hp with rfl | hp
    · exact .head _
    · rcases List.mem_append.mp hp with hp | hp
      · exact .tail _ (hr p hp)
      · exact .tail _ (List.mem_filter.mp hp).1
theorem packS {h₀ h : Heap} {L src : Addr} {a b : Int} {ta tb : Tok} {n : Nat} {l dl rest : List (Addr × Obj)} (N : News h₀ L h l) (P : Pick (src, srcO a b ta tb n) l dl) (hne : ∀ p ∈ dl, p.1 ≠ src) (hr : ∀ p ∈ rest, p ∈ dl) :
    ∃ tl, Off tl ((src, srcO a b ta tb n) :: rest) ∧ (∀ p ∈ dl, (∀ q ∈ rest, p.1 ≠ q.1) → p ∈ tl) ∧ News h₀ L h ((src, srcO a b ta tb n) :: (rest ++ tl)) := by
  obtain ⟨tl, h1, h2, h3⟩ := pack N P hne hr
  refine ⟨tl, h1, fun p hp hO => ?_, h3⟩
  rcases List.mem_append.mp (h2 p hp) with h | h
  · exact absurd rfl (hO p h)
  · exact h
theorem ne_new {a : Addr} {o : Obj} {l X : List (Addr × Obj)} (h : AllLt a X) (hs : ∀ q ∈ l, q ∈ X) : ∀ q ∈ l, (a, o).1 ≠ q.1 := fun q hq => Nat.ne_of_gt (ktn_ltOf h q (hs q hq))
theorem Off.at {tl l : List (Addr × Obj)} {p q : Addr × Obj} (hp : p ∈ tl) (h : Off tl l) (hq : q ∈ l) : p.1 ≠ q.1 := h p hp q hq
theorem Off.nil {l : List (Addr × Obj)} : Off [] l := fun _ h => nomatch h
theorem Off.c {X l : List (Addr × Obj)} {a : Addr} {o : Obj} (h : ∀ p ∈ X, p.1 ≠ a) (k : Off X l) : Off X ((a, o) :: l) := by
  intro p hp q hq
  rcases List.mem_cons.mp hq with rfl | hq
  · exact h p hp
  · exact k p hp q hq
theorem Off.app {X Y l : List (Addr × Obj)} (h : Off X l) (k : Off Y l) : Off (X ++ Y) l := by
  intro p hp q hq
  rcases List.mem_append.mp hp with hp | hp
  · exact h p hp q hq
  · exact k p hp q hq
theorem dat_up {news news' : List (Addr × Obj)} {v : Value} {d : Dat} (h : DatIn news v d) (hs : ∀ p ∈ news, p ∈ news') : DatIn news' v d := h.mono hs
/-- the source's numbers -/
structure Good (a b : Int) : Prop where
  a0 : 0 ≤ a
  b0 : 0 ≤ b
  b1 : b < 2147483647

theorem sq_ok (y : Int) : IntMulOk (y.fmod 2147483647) (y.fmod 2147483647) :=
  .of_right (PySem.intBits_le_64 (by have := Int.fmod_nonneg_of_pos y (b := 2147483647) (by decide); omega) (by have := Int.fmod_lt_of_pos y (b := 2147483647) (by decide); omega))
theorem fmod_in (x y : Int) (h : 0 < y) : 0 ≤ x.fmod y ∧ x.fmod y < y := ⟨Int.fmod_nonneg_of_pos x h, Int.fmod_lt_of_pos x h⟩
theorem fdiv_nn (x y : Int) (hx : 0 ≤ x) (h : 0 < y) : 0 ≤ x.fdiv y := Int.fdiv_nonneg hx (Int.le_of_lt h)

abbrev TopN (mean : ExcName → Option Value) (mg mb : Str → Option Value) (h : Heap) : Prop := Top hd.view_39 (looseW hd.view_39 []) mean mg mb h
abbrev prg : Program := Challenge.rw_nz0122_01.row.prog

inductive Sh where
  | cell
  | fields (a b : Sh)
  | array (a : Sh)
  | variants (a : Sh)
  | box (a : Sh)
  | hold (a : Sh)
def Sh.depth : Sh → Nat
  | .cell => 0
  | .fields a b => max a.depth b.depth + 1
  | .array a => a.depth + 1
  | .variants a => a.depth + 1
  | .box a => a.depth + 1
  | .hold a => a.depth + 1
abbrev cellD : Dat := .tuple [.str (Str.ofString "cell")]
def Sh.enc : Sh → Dat
  | .cell => cellD
  | .fields a b => .tuple [.str (Str.ofString "fields"), .list [a.enc, b.enc]]
  | .array a => .tuple [.str (Str.ofString "array"), .list [a.enc]]
  | .variants a => .tuple [.str (Str.ofString "variants"), .list [a.enc, cellD]]
  | .box a => .tuple [.str (Str.ofString "box"), .list [a.enc]]
  | .hold a => .tuple [.str (Str.ofString "mut"), .list [a.enc]]
inductive St where
  | field (i : Int)
  | down (i : Int)
  | index (i : Int)
  | deref
def St.enc : St → Dat
  | .field i => .tuple [.str (Str.ofString "field"), .int i]
  | .down i => .tuple [.str (Str.ofString "downcast"), .int i]
  | .index i => .tuple [.str (Str.ofString "index"), .int i]
  | .deref => .tuple [.str (Str.ofString "deref")]
/-- one step down a shape -/
inductive Goes : Sh → St → Sh → Prop
  | f0 {a b} : Goes (.fields a b) (.field 0) a
  | f1 {a b} : Goes (.fields a b) (.field 1) b
  | v0 {a} : Goes (.variants a) (.down 0) a
  | v1 {a} : Goes (.variants a) (.down 1) .cell
  | ar {a} (i : Int) : Goes (.array a) (.index i) a
  | bx {a} : Goes (.box a) .deref a
  | mt {a} : Goes (.hold a) .deref a
theorem dat_tag {led : List (Addr × Obj)} {v : Value} {x : Str} {ds : List Dat} (h : DatIn led v (.tuple [.str x, .list ds])) :
    ∃ t tk n l vs k, v = .ref t ∧ (t, ({ cls := .type "tuple", data := .seq #[.str x tk, .ref l] n } : Obj)) ∈ led ∧ (l, listOf (List.toArray vs) k) ∈ led ∧ DatAll led vs ds := by
  cases h with
  | tuple hm r =>
    cases r with
    | cons h1 r =>
      cases r with
      | cons h2 r =>
        cases r
        cases h1
        cases h2 with
        | list hl r => exact ⟨_, _, _, _, _, _, rfl, hm, hl, r⟩
theorem dat_one {led : List (Addr × Obj)} {vs : List Value} {d : Dat} (h : DatAll led vs [d]) : ∃ v, vs = [v] ∧ DatIn led v d := by
  cases h with
  | cons h r => cases r; exact ⟨_, rfl, h⟩
theorem dat_two {led : List (Addr × Obj)} {vs : List Value} {d e : Dat} (h : DatAll led vs [d, e]) : ∃ v u, vs = [v, u] ∧ DatIn led v d ∧ DatIn led u e := by
  cases h with
  | cons h r =>
    obtain ⟨u, rfl, hu⟩ := dat_one r
    exact ⟨_, _, rfl, h, hu⟩
theorem dat_pair {led : List (Addr × Obj)} {v : Value} {x : Str} {i : Int} (h : DatIn led v (.tuple [.str x, .int i])) :
    ∃ t tk ti n, v = .ref t ∧ (t, ({ cls := .type "tuple", data := .seq #[.str x tk, .int i ti] n } : Obj)) ∈ led := by
  cases h with
  | tuple hm r =>
    cases r with
    | cons h1 r =>
      cases r with
      | cons h2 r =>
        cases r
        cases h1
        cases h2
        exact ⟨_, _, _, _, rfl, hm⟩
theorem dat_sing {led : List (Addr × Obj)} {v : Value} {x : Str} (h : DatIn led v (.tuple [.str x])) :
    ∃ t tk n, v = .ref t ∧ (t, ({ cls := .type "tuple", data := .seq #[.str x tk] n } : Obj)) ∈ led := by
  cases h with
  | tuple hm r =>
    cases r with
    | cons h1 r =>
      cases r
      cases h1
      exact ⟨_, _, _, rfl, hm⟩
def meetsB : St → St → Bool
  | .field i, .field j => i == j
  | .down i, .down j => i == j
  | _, _ => true
def mayB : List St → List St → Bool
  | a :: l, b :: r => meetsB a b && mayB l r
  | _, _ => true
theorem mayB_true : ∀ {l r : List St}, (∀ (j : Nat) a b, l[j]? = some a → r[j]? = some b → meetsB a b = true) → mayB l r = true
  | [], _, _ => by simp [mayB]
  | _ :: _, [], _ => by simp [mayB]
  | a :: l, b :: r, h => by
    simp only [mayB, Bool.and_eq_true]
    exact ⟨h 0 a b rfl rfl, mayB_true fun j x y hx hy => h (j + 1) x y (by simpa using hx) (by simpa using hy)⟩
theorem mayB_false : ∀ {l r : List St} (j : Nat) {a b : St}, l[j]? = some a → r[j]? = some b → meetsB a b = false → mayB l r = false
  | [], _, j, _, _, h, _, _ => by simp at h
  | _ :: _, [], j, _, _, _, h, _ => by simp at h
  | a :: l, b :: r, 0, x, y, hx, hy, h => by
    simp only [List.getElem?_cons_zero, Option.some.injEq] at hx hy
    subst hx; subst hy
    simp [mayB, h]
  | a :: l, b :: r, j + 1, x, y, hx, hy, h => by
    have := mayB_false (l := l) (r := r) j (by simpa using hx) (by simpa using hy) h
    simp [mayB, this]
theorem dat_tup {led : List (Addr × Obj)} {v : Value} {ds : List Dat} (h : DatIn led v (.tuple ds)) : ∃ t vs n, v = .ref t ∧ (t, ({ cls := .type "tuple", data := .seq (List.toArray vs) n } : Obj)) ∈ led ∧ DatAll led vs ds := by
  cases h with
  | tuple hm r => exact ⟨_, _, _, rfl, hm, r⟩
theorem dat_at {α : Type} {f : α → Dat} {led : List (Addr × Obj)} {vs : List Value} {l : List α} (h : DatAll led vs (l.map f)) {i : Nat} {v : Value} (hv : vs[i]? = some v) : ∃ a, l[i]? = some a ∧ DatIn led v (f a) := by
  have hl := h.length
  have hi : i < vs.length := (List.getElem?_eq_some_iff.mp hv).1
  have hi2 : i < (l.map f).length := by rw [← hl]; exact hi
  obtain ⟨v', hv', hD⟩ := h.get hi2
  rw [hv] at hv'
  cases hv'
  rw [List.length_map] at hi2
  exact ⟨l[i], List.getElem?_eq_getElem hi2, by simpa using hD⟩
def kd (b : Bool) : Dat := .str (if b then Str.ofString "box" else Str.ofString "mut")
def Sh.kinds : Sh → List Bool
  | .box _ => [true]
  | .hold _ => [false]
  | _ => []
/-- a road down a shape: its steps, the kinds of its derefs -/
inductive Path : Sh → List St → List Bool → Sh → Prop
  | nil {s} : Path s [] [] s
  | cons {s st s1 sts ks s2} : Goes s st s1 → Path s1 sts ks s2 → Path s (st :: sts) (s.kinds ++ ks) s2
theorem Path.snoc {s s1 s2 : Sh} {sts : List St} {ks : List Bool} {st : St} (h : Path s sts ks s1) (g : Goes s1 st s2) : Path s (sts ++ [st]) (ks ++ s1.kinds) s2 := by
  induction h with
  | nil =>
    have := Path.cons g .nil
    simpa using this
  | cons g' _ ih =>
    have := Path.cons g' (ih g)
    simpa [List.append_assoc] using this
theorem Goes.less {s s' : Sh} {st : St} (g : Goes s st s') : s'.depth < s.depth := by
  cases g <;> simp only [Sh.depth] <;> omega

theorem Path.len {s s2 : Sh} {sts : List St} {ks : List Bool} (h : Path s sts ks s2) : sts.length + s2.depth ≤ s.depth ∧ ks.length ≤ sts.length := by
  induction h with
  | nil => simp
  | @cons s st s1 sts ks s2 g _ ih =>
    have := g.less
    have hk : s.kinds.length ≤ 1 := by cases s <;> simp [Sh.kinds]
    simp only [List.length_cons, List.length_append]
    omega
theorem kqd_mono : ∀ (n k : Nat) (d : Dat), n ≤ k → kqdOk n d = true → kqdOk k d = true := by
  intro n
  induction n with
  | zero =>
    intro k d _ h
    cases d <;> cases k <;> simp_all [kqdOk]
  | succ n ih =>
    intro k d hk h
    cases k with
    | zero => omega
    | succ k =>
      cases d with
      | tuple ds =>
        simp only [kqdOk, List.all_eq_true] at h ⊢
        exact fun x hx => ih k x (by omega) (h x hx)
      | list ds =>
        simp only [kqdOk, List.all_eq_true] at h ⊢
        exact fun x hx => ih k x (by omega) (h x hx)
      | _ => simp_all [kqdOk]
theorem Sh.ok : ∀ s : Sh, kqdOk (2 * s.depth + 1) s.enc = true
  | .cell => by decide +kernel
  | .fields a b => by
    have h1 := kqd_mono _ (2 * max a.depth b.depth + 1) _ (by omega) a.ok
    have h2 := kqd_mono _ (2 * max a.depth b.depth + 1) _ (by omega) b.ok
    have e : 2 * (Sh.fields a b).depth + 1 = (2 * max a.depth b.depth + 1) + 1 + 1 := by simp only [Sh.depth]; omega
    rw [e]
    simp only [Sh.enc, kqdOk, List.all_cons, List.all_nil, h1, h2, Bool.and_true]
    decide +kernel
  | .array a => by
    have h1 := a.ok
    have e : 2 * (Sh.array a).depth + 1 = (2 * a.depth + 1) + 1 + 1 := by simp only [Sh.depth]; omega
    rw [e]
    simp only [Sh.enc, kqdOk, List.all_cons, List.all_nil, h1, Bool.and_true]
    decide +kernel
  | .variants a => by
    have h1 := a.ok
    have h2 := kqd_mono 1 (2 * a.depth + 1) cellD (by omega) (by decide +kernel)
    have e : 2 * (Sh.variants a).depth + 1 = (2 * a.depth + 1) + 1 + 1 := by simp only [Sh.depth]; omega
    rw [e]
    simp only [Sh.enc, kqdOk, List.all_cons, List.all_nil, h1, Bool.and_true]
    rw [Bool.and_eq_true]
    exact ⟨by decide +kernel, by simpa [kqdOk] using h2⟩
  | .box a => by
    have h1 := a.ok
    have e : 2 * (Sh.box a).depth + 1 = (2 * a.depth + 1) + 1 + 1 := by simp only [Sh.depth]; omega
    rw [e]
    simp only [Sh.enc, kqdOk, List.all_cons, List.all_nil, h1, Bool.and_true]
    decide +kernel
  | .hold a => by
    have h1 := a.ok
    have e : 2 * (Sh.hold a).depth + 1 = (2 * a.depth + 1) + 1 + 1 := by simp only [Sh.depth]; omega
    rw [e]
    simp only [Sh.enc, kqdOk, List.all_cons, List.all_nil, h1, Bool.and_true]
    decide +kernel
def Sh.isCell : Sh → Bool
  | .cell => true
  | _ => false
section
variable {prog : Program} {w : World} {A : Around} {E : Value → Shared → Prop} {s : Shared} {h₀ : Heap} {L : Addr} {news na nb : List (Addr × Obj)} {x y : Value} {d e : Dat} {Q : Value → Shared → Prop}
open Classical in
theorem eqv_dec {n k : Nat} (ha : kqdOk n d = true) (hb : kqdOk k e = true) : PyData.eqv (kqdP d) (kqdP e) = decide (d = e) := by
  have q := kqd_eqv n d e k ha hb
  by_cases hq : d = e
  · rw [decide_eq_true hq]; exact q.mpr hq
  · rw [decide_eq_false hq]; exact Bool.eq_false_iff.mpr fun z => hq (q.mp z)
theorem shaped_of {n : Nat} (hn : n ≤ 64) (ha : kqdOk n d = true) : SeqAt.shaped (kqdP d) = true := by
  have la := kqd_lay n d ha
  unfold SeqAt.shaped
  rw [la.1, Bool.true_and]
  exact decide_eq_true (Nat.le_trans la.2 hn)
open Classical in
theorem dat_ne {n k : Nat} (N : News h₀ L s.heap news) (Da : DatIn na x d) (sa : ∀ p ∈ na, p ∈ news) (Db : DatIn nb y e) (sb : ∀ p ∈ nb, p ∈ news) (ha : kqdOk n d = true) (hb : kqdOk k e = true) (hn : n ≤ 64) (hk : k ≤ 64)
    (hu : A.units + 64 < cLine) (h : Q (.bool (!decide (d = e))) s) : wpAny (model prog w) A (compareOp .NotEq x y) Q E s := by
  obtain ⟨as, ra⟩ := kqd_in N n (Da.mono sa) ha
  obtain ⟨bs, rb⟩ := kqd_in N k (Db.mono sb) hb
  exact ne_dataH ra rb (shaped_of hn ha) (shaped_of hk hb) hu (by rw [eqv_dec ha hb]; exact h)
open Classical in
theorem dat_eq {n k : Nat} (N : News h₀ L s.heap news) (Da : DatIn na x d) (sa : ∀ p ∈ na, p ∈ news) (Db : DatIn nb y e) (sb : ∀ p ∈ nb, p ∈ news) (ha : kqdOk n d = true) (hb : kqdOk k e = true) (hn : n ≤ 64) (hk : k ≤ 64)
    (hu : A.units + 64 < cLine) (h : Q (.bool (decide (d = e))) s) : wpAny (model prog w) A (compareOp .Eq x y) Q E s := by
  obtain ⟨as, ra⟩ := kqd_in N n (Da.mono sa) ha
  obtain ⟨bs, rb⟩ := kqd_in N k (Db.mono sb) hb
  exact eq_dataH ra rb (shaped_of hn ha) (shaped_of hk hb) hu (by rw [eqv_dec ha hb]; exact h)
open Classical in
theorem shape_ne {sh : Sh} {c : Addr} {tk : Tok} {nc : Nat} (N : News h₀ L s.heap news) (Da : DatIn na x sh.enc) (sa : ∀ p ∈ na, p ∈ news) (hm : (c, ({ cls := .type "tuple", data := .seq #[.str (Str.ofString "cell") tk] nc } : Obj)) ∈ news) (hd : sh.depth ≤ 8)
    (hu : A.units + 64 < cLine) (h : Q (.bool (!sh.isCell)) s) : wpAny (model prog w) A (compareOp .NotEq x (.ref c)) Q E s := by
  refine dat_ne (k := 1) N Da sa (DatIn.tuple (vs := [_]) hm (.cons (.str _ _) .nil)) (fun p hp => hp) sh.ok (by decide +kernel) (by omega) (by decide) hu ?_
  have e : (sh.enc = cellD) ↔ sh.isCell = true := by cases sh <;> simp [Sh.enc, Sh.isCell]
  have e2 : decide (sh.enc = cellD) = sh.isCell := by
    by_cases q : sh.enc = cellD
    · rw [decide_eq_true q, e.mp q]
    · rw [decide_eq_false q]; exact (Bool.eq_false_iff.mpr fun z => q (e.mpr z)).symm
  rw [e2]; exact h
end
inductive Dp where
  | deep
  | shallow
  | drop
def Dp.name : Dp → Str
  | .deep => Str.ofString "deep"
  | .shallow => Str.ofString "shallow"
  | .drop => Str.ofString "drop"
def St.isDeref : St → Bool
  | .deref => true
  | _ => false
def conflictsB (i1 : Int) (l : List St) (ks : List Bool) (d : Dp) (i2 : Int) (r : List St) : Bool :=
  if i1 != i2 || !mayB l r then false
  else if l.length ≤ r.length then true
  else match d with
    | .deep => true
    | .shallow => (ks.drop ((l.take r.length).filter St.isDeref).length).isEmpty
    | .drop => !(ks.drop ((l.take r.length).filter St.isDeref).length).contains false
theorem dat_place {led : List (Addr × Obj)} {v : Value} {i : Int} {ds : List Dat} (h : DatIn led v (.tuple [.int i, .tuple ds])) :
    ∃ t ti n s vs k, v = .ref t ∧ (t, ({ cls := .type "tuple", data := .seq #[.int i ti, .ref s] n } : Obj)) ∈ led ∧ (s, ({ cls := .type "tuple", data := .seq (List.toArray vs) k } : Obj)) ∈ led ∧ DatAll led vs ds := by
  cases h with
  | tuple hm r =>
    cases r with
    | cons h1 r =>
      cases r with
      | cons h2 r =>
        cases r
        cases h1
        cases h2 with
        | tuple hl r => exact ⟨_, _, _, _, _, _, rfl, hm, hl, r⟩
/-- where the walk is to halt -/
def Stop (p : Prop) : Prop := p
theorem Stop.out {p : Prop} (h : Stop p) : p := h
theorem Stop.intro {p : Prop} (h : p) : Stop p := h
end Mine
end
section
local macro_rules | `(tactic| walk_at "own pad") => `(tactic| fail)
open PySem PySem.W PyProof.Rows PySem.Spec PySem.Calls
set_option pp.maxSteps 600
namespace Mine
section
local macro_rules | `(tactic| k_all) => `(tactic| assumption)
local macro_rules | `(tactic| mul_fits) => `(tactic| (k_dflt exact sq_ok _))
set_option maxRecDepth 100000 in
set_option maxHeartbeats 8000000 in
theorem take_call {w : World} {dp un : Nat} {gd : Option (List Code)} {cn : Str} {cs : Scope} {fa : Addr} {ccd : Value} {cl : List (Str × Addr)} {outer : List Env} {A₀ : Around} {base h₀ : Heap} {L : Addr} {m : Str → Option Value} {mean : ExcName → Option Value} {mg mb : Str → Option Value}
    {news rest : List (Addr × Obj)} {s : Shared} {Q E : Value → Shared → Prop} {src : Addr} {top a b : Int} {tt ta tb : Tok} {n : Nat}
    (B : Below A₀ base outer h₀) (F : Fr h₀ L s.heap m) (X : (hd.heap_39 w.params).In h₀) (N₀ : News h₀ L s.heap news) (T : TopN mean mg mb h₀) (hk : cs.kind = .function)
    (P : Pick (src, srcO a b ta tb n) news rest) (h6 : ∀ p ∈ rest, p.1 ≠ src) (G : Good a b) (h1 : 0 < top) (h2 : top ≤ 100)
    (hdp : dp + 2 < recursionLimit) (hun : un + 8 * 2 < cLine)
    (hret : ∀ a' b' ta' tb' k t h' tk', Good a' b' → 0 ≤ k → k < top → Fr h₀ L h' m → News h₀ L h' ((src, srcO a' b' ta' tb' n) :: rest) → Q (.int k t) { s with heap := h', toks := tk' }) :
    wpAny (model Challenge.rw_nz0122_01.row.prog w) (ktrTop dp un gd cn cs L fa ccd cl outer) (call (.ref 47) [.ref src, .int top tt]) Q E s := by
  have N := news_sub N₀ P.sub
  clear N₀ P
  w_on
  w_strict (
  k_with_none
  revert X; k_fill; intro X
  obtain ⟨h3, h4, h5⟩ := G
  refine wpAny_call ?_
  k_dflt ktr_enter
  k_steps
  · refine' hret _ _ _ _ _ _ _ _ ⟨?a1, ?a2, ?a3⟩ ?a4 ?a5 ?e1 ?e2
    case e1 => k_asm
    case e2 => k_asm
    case a1 => exact fdiv_nn _ _ h3 h1
    case a2 => exact h4
    case a3 => exact h5
    case a4 => exact (fmod_in _ _ h1).1
    case a5 => exact (fmod_in _ _ h1).2
  · refine' hret _ _ _ _ _ _ _ _ ⟨?a1, ?a2, ?a3⟩ ?a4 ?a5 ?e1 ?e2
    case e1 => k_asm
    case e2 => k_asm
    case a1 => exact h3
    case a2 => exact (fmod_in _ _ (by decide)).1
    case a3 => exact (fmod_in _ _ (by decide)).2
    case a4 => exact (fmod_in _ _ h1).1
    case a5 => exact (fmod_in _ _ h1).2)
end
end Mine
end
section
local macro_rules | `(tactic| walk_at "own pad") => `(tactic| fail)
local macro_rules | `(tactic| walk_at "own pad") => `(tactic| fail)
open PySem PySem.W PyProof.Rows PySem.Spec PySem.Calls
set_option pp.maxSteps 600
set_option linter.unusedVariables false
namespace Mine
section
local macro_rules | `(tactic| k_all) => `(tactic| assumption)
local macro_rules | `(tactic| k_mem) => `(tactic| first | (with_reducible assumption) | (with_reducible exact List.mem_cons_self) | (with_reducible refine List.mem_append_left _ ?_; k_mem) | (with_reducible refine List.mem_append_right _ ?_; k_mem) | (with_reducible refine List.mem_cons_of_mem _ ?_; k_mem))
local macro_rules | `(tactic| news_mem) => `(tactic| k_mem)
local macro_rules | `(tactic| walk_at "call ref") => `(tactic| (k_here; k_dflt (refine' take_call ?kB ?kF ?kX ?kN ?kT ?kk ?kP ?k6 ?kG ?k1 ?k2 ?kd ?ku ?_; (case kB => k_asm); (case kF => k_asm); (case kX => k_asm); (case kN => k_asm); (case kT => k_asm); (case kk => (first | exact rfl | assumption)); (case kP => (repeat' (first | exact Pick.head | refine' Pick.tail ?_))); (case k6 => k_all); (case kG => assumption); (case k1 => (first | decide | omega)); (case k2 => (first | decide | omega)); (case kd => ktr_room); (case ku => ktr_units)); intro a' b' ta' tb' k' t' h' tk' G' l1' l2' F' N'; (have hk9 : k' = 0 ∨ k' = 1 := by omega); (rcases hk9 with hk9 | hk9); all_goals (subst hk9; (try dsimp only); (try k_fold))))
set_option maxRecDepth 100000 in
set_option maxHeartbeats 8000000 in
theorem one_call {w : World} {dp un : Nat} {gd : Option (List Code)} {cn : Str} {cs : Scope} {fa : Addr} {ccd : Value} {cl : List (Str × Addr)} {outer : List Env} {A₀ : Around} {base h₀ : Heap} {L : Addr} {m : Str → Option Value} {mean : ExcName → Option Value} {mg mb : Str → Option Value}
    {news rest : List (Addr × Obj)} {s : Shared} {Q E : Value → Shared → Prop} {src l : Addr} {a b : Int} {ta tb t1 t2 : Tok} {n k : Nat} {x1 x2 : Str}
    (B : Below A₀ base outer h₀) (F : Fr h₀ L s.heap m) (X : (hd.heap_39 w.params).In h₀) (N₀ : News h₀ L s.heap news) (T : TopN mean mg mb h₀) (hk : cs.kind = .function)
    (P : Pick (src, srcO a b ta tb n) news rest) (h6 : ∀ p ∈ rest, p.1 ≠ src) (G : Good a b) (hl : (l, listOf #[.str x1 t1, .str x2 t2] k) ∈ rest)
    (hdp : dp + 4 < recursionLimit) (hun : un + 8 * 4 < cLine)
    (hret : ∀ a' b' ta' tb' x t h' tk', Good a' b' → (x = x1 ∨ x = x2) → Fr h₀ L h' m → News h₀ L h' ((src, srcO a' b' ta' tb' n) :: rest) → Q (.str x t) { s with heap := h', toks := tk' }) :
    wpAny (model Challenge.rw_nz0122_01.row.prog w) (ktrTop dp un gd cn cs L fa ccd cl outer) (call (.ref 54) [.ref src, .ref l]) Q E s := by
  have N := news_sub N₀ P.sub
  clear N₀ P
  w_on
  w_strict (
  k_with_none
  revert X; k_fill; intro X
  refine wpAny_call ?_
  k_dflt ktr_enter
  k_steps
  · refine' hret _ _ _ _ _ _ _ _ (by assumption) (.inl rfl) ?e1 ?e2
    case e1 => k_asm
    case e2 => k_asm
  · refine' hret _ _ _ _ _ _ _ _ (by assumption) (.inr rfl) ?e1 ?e2
    case e1 => k_asm
    case e2 => k_asm)
end
end Mine
end
section
local macro_rules | `(tactic| walk_at "own pad") => `(tactic| fail)
local macro_rules | `(tactic| walk_at "own pad") => `(tactic| fail)
local macro_rules | `(tactic| walk_at "own pad") => `(tactic| fail)
local macro_rules | `(tactic| walk_at "own pad") => `(tactic| fail)
open PySem PySem.W PyProof.Rows PySem.Spec PySem.Calls
set_option pp.maxSteps 600
set_option linter.unusedVariables false
namespace Mine
section
local macro_rules | `(tactic| k_all) => `(tactic| first | assumption | exact List.forall_mem_append.mpr ⟨by k_all, by k_all⟩ | exact List.forall_mem_cons.mpr ⟨by (refine neN ?_; (try dsimp only); omega), by k_all⟩)
local macro_rules | `(tactic| k_mem) => `(tactic| first | (with_reducible assumption) | (with_reducible exact List.mem_cons_self) | (with_reducible refine List.mem_append_left _ ?_; k_mem) | (with_reducible refine List.mem_append_right _ ?_; k_mem) | (with_reducible refine List.mem_cons_of_mem _ ?_; k_mem))
local macro_rules | `(tactic| k_memK) => `(tactic| first | (with_reducible assumption) | (with_reducible exact List.mem_cons_self) | (with_reducible refine List.mem_append_left _ ?_; k_memK) | (with_reducible refine List.mem_append_right _ ?_; k_memK) | (with_reducible refine List.mem_cons_of_mem _ ?_; k_memK))
local macro_rules | `(tactic| news_mem) => `(tactic| k_mem)

def ShapeSpec (w : World) (k : Nat) : Prop :=
  ∀ {dp un : Nat} {gd : Option (List Code)} {cn : Str} {cs : Scope} {fa : Addr} {ccd : Value} {cl : List (Str × Addr)} {outer : List Env} {A₀ : Around} {base h₀ : Heap} {L : Addr} {m : Str → Option Value} {mean : ExcName → Option Value} {mg mb : Str → Option Value}
    {news rest : List (Addr × Obj)} {s : Shared} {Q E : Value → Shared → Prop} {src : Addr} {d a b : Int} {tt ta tb : Tok} {n : Nat}
    (_ : Below A₀ base outer h₀) (_ : Fr h₀ L s.heap m) (_ : (hd.heap_39 w.params).In h₀) (_ : News h₀ L s.heap news) (_ : TopN mean mg mb h₀) (_ : cs.kind = .function)
    (_ : Pick (src, srcO a b ta tb n) news rest) (_ : ∀ p ∈ rest, p.1 ≠ src) (_ : Good a b) (_ : d = (k : Int))
    (_ : dp + (k + 6) < recursionLimit) (_ : un + 8 * (k + 6) < cLine)
    (_ : ∀ (a' b' : Int) (ta' tb' : Tok) (tl : List (Addr × Obj)) (r : Value) (sh : Sh) (h' : Heap) (tk' : Nat), Good a' b' → sh.depth ≤ k → Off tl ((src, srcO a' b' ta' tb' n) :: rest) → DatIn tl r sh.enc → Fr h₀ L h' m → News h₀ L h' ((src, srcO a' b' ta' tb' n) :: (rest ++ tl)) → Q r { s with heap := h', toks := tk' }),
    wpAny (model Challenge.rw_nz0122_01.row.prog w) (ktrTop dp un gd cn cs L fa ccd cl outer) (call (.ref 61) [.ref src, .int d tt]) Q E s

local macro_rules | `(tactic| walk_at "call ref") => `(tactic| (k_here; k_dflt (refine' take_call ?kB ?kF ?kX ?kN ?kT ?kk ?kP ?k6 ?kG ?k1 ?k2 ?kd ?ku ?_; (case kB => k_asm); (case kF => k_asm); (case kX => k_asm); (case kN => k_asm); (case kT => k_asm); (case kk => (first | exact rfl | assumption)); (case kP => (repeat' (first | exact Pick.head | refine' Pick.tail ?_))); (case k6 => k_all); (case kG => assumption); (case k1 => (first | decide | omega)); (case k2 => (first | decide | omega)); (case kd => ktr_room); (case ku => ktr_units)); intro a' b' ta' tb' k' t' h' tk' G' l1' l2' F' N'; (try dsimp only); (try k_fold)))
local macro_rules | `(tactic| walk_at "call ref") => `(tactic| (k_here; k_dflt (refine' one_call ?kB ?kF ?kX ?kN ?kT ?kk ?kP ?k6 ?kG ?kl ?kd ?ku ?_; (case kB => k_asm); (case kF => k_asm); (case kX => k_asm); (case kN => k_asm); (case kT => k_asm); (case kk => (first | exact rfl | assumption)); (case kP => (repeat' (first | exact Pick.head | refine' Pick.tail ?_))); (case k6 => k_all); (case kG => assumption); (case kl => k_mem); (case kd => ktr_room); (case ku => ktr_units)); intro a' b' ta' tb' x' t' h' tk' G' l1' F' N'; (rcases l1' with l1' | l1'); all_goals (subst l1'; (try dsimp only); (try k_fold))))
set_option maxRecDepth 100000 in
set_option maxHeartbeats 8000000 in
theorem shape_spec0 {w : World} : ShapeSpec w 0 := by
  w_on
  w_strict (
  k_with_none
  unfold ShapeSpec
  k_fill
  intro dp un gd cn cs fa ccd cl outer A₀ base h₀ L m mean mg mb news rest s Q E src d a b tt ta tb n B F X N₀ T hk P h6 G hd hdp hun hret
  have N := news_sub N₀ P.sub
  clear N₀ P
  subst hd
  refine wpAny_call ?_
  k_dflt ktr_enter
  k_steps
  rename News h₀ L _ _ => kN
  rename Fr h₀ L _ _ => kF
  obtain ⟨tl, O, S, N2⟩ := packS (src := src) (rest := rest) kN (by repeat' (first | exact Pick.head | refine' Pick.tail ?_)) (by k_all) (fun p hp => by k_memK)
  exact hret _ _ _ _ tl _ .cell _ _ (by assumption) (Nat.le_refl _) O (DatIn.tuple (S _ (by k_memK) (ne_new (by tbn_find) (fun q hq => by k_memK))) (.cons (.str _ _) .nil)) kF N2)
set_option maxRecDepth 100000 in
set_option maxHeartbeats 8000000 in
theorem shape_specS {w : World} {k : Nat} (ih : ShapeSpec w k) : ShapeSpec w (k + 1) := by
  w_on
  w_strict (
  k_with_none
  unfold ShapeSpec at *
  k_with_none
  k_fill
  intro dp un gd cn cs fa ccd cl outer A₀ base h₀ L m mean mg mb news rest s Q E src d a b tt ta tb n B F X N₀ T hk P h6 G hd hdp hun hret
  have N := news_sub N₀ P.sub
  clear N₀ P
  subst hd
  refine wpAny_call ?_
  k_dflt ktr_enter
  k_with "call ref" => (k_here; k_dflt (refine' ih ?kB ?kF ?kX ?kN ?kT ?kk ?kP ?k6 ?kG ?k1 ?kd ?ku ?_; (case kB => k_asm); (case kF => k_asm); (case kX => k_asm); (case kN => k_asm); (case kT => k_asm); (case kk => (first | exact rfl | assumption)); (case kP => (repeat' (first | exact Pick.head | refine' Pick.tail ?_))); (case k6 => k_all); (case kG => assumption); (case k1 => (first | decide | omega)); (case kd => ktr_room); (case ku => ktr_units)); intro a' b' ta' tb' tl' r' sh' h' tk' G' l1' O' D' F' N'; (have hs' := Off.ne O' (List.Mem.head _)); (try dsimp only); (try k_fold))
  k_steps
  · rename News h₀ L _ _ => kN
    rename Fr h₀ L _ _ => kF
    obtain ⟨tl, O, S, N2⟩ := packS (src := src) (rest := rest) kN (by repeat' (first | exact Pick.head | refine' Pick.tail ?_)) (by k_all) (fun p hp => by k_memK)
    exact hret _ _ _ _ tl _ .cell _ _ (by assumption) (Nat.zero_le _) O (DatIn.tuple (S _ (by k_memK) (ne_new (by tbn_find) (fun q hq => by k_memK))) (.cons (.str _ _) .nil)) kF N2
  · rename News h₀ L _ _ => kN
    rename Fr h₀ L _ _ => kF
    obtain ⟨tl, O, S, N2⟩ := packS (src := src) (rest := rest) kN (by repeat' (first | exact Pick.head | refine' Pick.tail ?_)) (by k_all) (fun p hp => by k_memK)
    refine' hret _ _ _ _ tl _ (.fields _ _) _ _ (by assumption) ?dp O (DatIn.tuple (S _ (by k_memK) (ne_new (by tbn_find) (fun q hq => by k_memK))) (.cons (.str _ _) (.cons (.list (S _ (by k_memK) (ne_new (by tbn_find) (fun q hq => by k_memK))) (.cons (dat_up (by assumption) (fun p hp => S p (by k_memK) (fun q hq => Off.at hp (by assumption) (by k_memK)))) (.cons (dat_up (by assumption) (fun p hp => S p (by k_memK) (fun q hq => Off.at hp (by assumption) (by k_memK)))) .nil))) .nil))) kF N2
    case dp => (simp only [Sh.depth]; omega)
  · rename News h₀ L _ _ => kN
    rename Fr h₀ L _ _ => kF
    obtain ⟨tl, O, S, N2⟩ := packS (src := src) (rest := rest) kN (by repeat' (first | exact Pick.head | refine' Pick.tail ?_)) (by k_all) (fun p hp => by k_memK)
    refine' hret _ _ _ _ tl _ (.array _) _ _ (by assumption) ?dp O (DatIn.tuple (S _ (by k_memK) (ne_new (by tbn_find) (fun q hq => by k_memK))) (.cons (.str _ _) (.cons (.list (S _ (by k_memK) (ne_new (by tbn_find) (fun q hq => by k_memK))) (.cons (dat_up (by assumption) (fun p hp => S p (by k_memK) (fun q hq => Off.at hp (by assumption) (by k_memK)))) .nil)) .nil))) kF N2
    case dp => (simp only [Sh.depth]; omega)
  · rename News h₀ L _ _ => kN
    rename Fr h₀ L _ _ => kF
    obtain ⟨tl, O, S, N2⟩ := packS (src := src) (rest := rest) kN (by repeat' (first | exact Pick.head | refine' Pick.tail ?_)) (by k_all) (fun p hp => by k_memK)
    refine' hret _ _ _ _ tl _ (.variants _) _ _ (by assumption) ?dp O (DatIn.tuple (S _ (by k_memK) (ne_new (by tbn_find) (fun q hq => by k_memK))) (.cons (.str _ _) (.cons (.list (S _ (by k_memK) (ne_new (by tbn_find) (fun q hq => by k_memK))) (.cons (dat_up (by assumption) (fun p hp => S p (by k_memK) (fun q hq => Off.at hp (by assumption) (by k_memK)))) (.cons (DatIn.tuple (S _ (by k_memK) (ne_new (by tbn_find) (fun q hq => by k_memK))) (.cons (.str _ _) .nil)) .nil))) .nil))) kF N2
    case dp => (simp only [Sh.depth]; omega)
  · rename News h₀ L _ _ => kN
    rename Fr h₀ L _ _ => kF
    obtain ⟨tl, O, S, N2⟩ := packS (src := src) (rest := rest) kN (by repeat' (first | exact Pick.head | refine' Pick.tail ?_)) (by k_all) (fun p hp => by k_memK)
    refine' hret _ _ _ _ tl _ (.box _) _ _ (by assumption) ?dp O (DatIn.tuple (S _ (by k_memK) (ne_new (by tbn_find) (fun q hq => by k_memK))) (.cons (.str _ _) (.cons (.list (S _ (by k_memK) (ne_new (by tbn_find) (fun q hq => by k_memK))) (.cons (dat_up (by assumption) (fun p hp => S p (by k_memK) (fun q hq => Off.at hp (by assumption) (by k_memK)))) .nil)) .nil))) kF N2
    case dp => (simp only [Sh.depth]; omega)
  · rename News h₀ L _ _ => kN
    rename Fr h₀ L _ _ => kF
    obtain ⟨tl, O, S, N2⟩ := packS (src := src) (rest := rest) kN (by repeat' (first | exact Pick.head | refine' Pick.tail ?_)) (by k_all) (fun p hp => by k_memK)
    refine' hret _ _ _ _ tl _ (.hold _) _ _ (by assumption) ?dp O (DatIn.tuple (S _ (by k_memK) (ne_new (by tbn_find) (fun q hq => by k_memK))) (.cons (.str _ _) (.cons (.list (S _ (by k_memK) (ne_new (by tbn_find) (fun q hq => by k_memK))) (.cons (dat_up (by assumption) (fun p hp => S p (by k_memK) (fun q hq => Off.at hp (by assumption) (by k_memK)))) .nil)) .nil))) kF N2
    case dp => (simp only [Sh.depth]; omega))
theorem shape_spec {w : World} : ∀ k, ShapeSpec w k
  | 0 => shape_spec0
  | k + 1 => shape_specS (shape_spec k)
end
end Mine
end
section
local macro_rules | `(tactic| walk_at "own pad") => `(tactic| fail)
local macro_rules | `(tactic| walk_at "own pad") => `(tactic| fail)
local macro_rules | `(tactic| walk_at "own pad") => `(tactic| fail)
local macro_rules | `(tactic| walk_at "own pad") => `(tactic| fail)
local macro_rules | `(tactic| walk_at "own pad") => `(tactic| fail)
local macro_rules | `(tactic| walk_at "own pad") => `(tactic| fail)
local macro_rules | `(tactic| walk_at "own pad") => `(tactic| fail)
open PySem PySem.W PyProof.Rows PySem.Spec PySem.Calls
set_option pp.maxSteps 600
set_option linter.unusedVariables false
namespace Mine
section
local macro_rules | `(tactic| k_all) => `(tactic| first | assumption | exact List.forall_mem_append.mpr ⟨by k_all, by k_all⟩ | exact List.forall_mem_cons.mpr ⟨by (refine neN ?_; (try dsimp only); omega), by k_all⟩)
local macro_rules | `(tactic| k_mem) => `(tactic| first | (with_reducible assumption) | (with_reducible exact List.mem_cons_self) | (with_reducible refine List.mem_append_left _ ?_; k_mem) | (with_reducible refine List.mem_append_right _ ?_; k_mem) | (with_reducible refine List.mem_cons_of_mem _ ?_; k_mem))
local macro_rules | `(tactic| k_memK) => `(tactic| first | (with_reducible assumption) | (with_reducible exact List.mem_cons_self) | (with_reducible refine List.mem_append_left _ ?_; k_memK) | (with_reducible refine List.mem_append_right _ ?_; k_memK) | (with_reducible refine List.mem_cons_of_mem _ ?_; k_memK))
local macro_rules | `(tactic| news_mem) => `(tactic| k_mem)
local macro_rules | `(tactic| walk_at "call ref") => `(tactic| (k_here; k_dflt (refine' take_call ?kB ?kF ?kX ?kN ?kT ?kk ?kP ?k6 ?kG ?k1 ?k2 ?kd ?ku ?_; (case kB => k_asm); (case kF => k_asm); (case kX => k_asm); (case kN => k_asm); (case kT => k_asm); (case kk => (first | exact rfl | assumption)); (case kP => (repeat' (first | exact Pick.head | refine' Pick.tail ?_))); (case k6 => k_all); (case kG => assumption); (case k1 => (first | decide | omega)); (case k2 => (first | decide | omega)); (case kd => ktr_room); (case ku => ktr_units)); intro a' b' ta' tb' k' t' h' tk' G' l1' l2' F' N'; (have hk9 : k' = 0 ∨ k' = 1 := by omega); (rcases hk9 with hk9 | hk9); all_goals (subst hk9; first | (exfalso; omega) | ((try dsimp only); (try k_fold)))))
set_option maxRecDepth 100000 in
set_option maxHeartbeats 8000000 in
theorem step_call {w : World} {dp un : Nat} {gd : Option (List Code)} {cn : Str} {cs : Scope} {fa : Addr} {ccd : Value} {cl : List (Str × Addr)} {outer : List Env} {A₀ : Around} {base h₀ : Heap} {L : Addr} {m : Str → Option Value} {mean : ExcName → Option Value} {mg mb : Str → Option Value}
    {s : Shared} {Q E : Value → Shared → Prop}
    {news rest dat : List (Addr × Obj)} {src : Addr} {a b : Int} {ta tb : Tok} {n : Nat} {sv : Value} {sh : Sh}
    (B : Below A₀ base outer h₀) (F : Fr h₀ L s.heap m) (X : (hd.heap_39 w.params).In h₀) (N₀ : News h₀ L s.heap news) (T : TopN mean mg mb h₀) (hk : cs.kind = .function)
    (P : Pick (src, srcO a b ta tb n) news rest) (h6 : ∀ p ∈ rest, p.1 ≠ src) (G : Good a b) (hdat : ∀ p ∈ dat, p ∈ rest) (hs : DatIn dat sv sh.enc) (hc : sh ≠ .cell)
    (hdp : dp + 4 < recursionLimit) (hun : un + 8 * 4 < cLine)
    (hret : ∀ (a' b' : Int) (ta' tb' : Tok) (tl : List (Addr × Obj)) (l : Addr) (v1 v2 : Value) (st : St) (sh' : Sh) (h' : Heap) (tk' : Nat), Good a' b' → Goes sh st sh' → Off tl ((src, srcO a' b' ta' tb' n) :: rest) → (l, listOf #[v1, v2] 0) ∈ tl → DatIn (dat ++ tl) v1 st.enc → DatIn (dat ++ tl) v2 sh'.enc →
      Fr h₀ L h' m → News h₀ L h' ((src, srcO a' b' ta' tb' n) :: (rest ++ tl)) → Q (.ref l) { s with heap := h', toks := tk' }) :
    wpAny (model Challenge.rw_nz0122_01.row.prog w) (ktrTop dp un gd cn cs L fa ccd cl outer) (call (.ref 68) [.ref src, sv]) Q E s := by
  have N := news_sub N₀ P.sub
  clear N₀ P
  cases sh with
  | cell => exact absurd rfl hc
  | fields sa sb =>
    obtain ⟨t, tkt, nt, l, vs, kl, rfl, ht', hl', hvs⟩ := dat_tag hs
    have ht := hdat _ ht'
    have hl := hdat _ hl'
    obtain ⟨v, u, rfl, hv, hu⟩ := dat_two hvs
    clear hs hvs hc ht' hl'
    w_on
    w_strict (
    revert X; k_fill; intro X
    refine wpAny_call ?_
    k_dflt ktr_enter
    k_steps
    · rename News h₀ L _ _ => kN
      rename Fr h₀ L _ _ => kF
      obtain ⟨tl, O, S, N2⟩ := packS (src := src) (rest := rest) kN (by repeat' (first | exact Pick.head | refine' Pick.tail ?_)) (by k_all) (fun p hp => by k_memK)
      exact hret _ _ _ _ tl _ _ _ (.field 0) _ _ _ (by assumption) .f0 O (S _ (by k_memK) (ne_new (by tbn_find) (fun q hq => by k_memK))) (.tuple (List.mem_append_right _ (S _ (by k_memK) (ne_new (by tbn_find) (fun q hq => by k_memK)))) (.cons (.str _ _) (.cons (.int _ _) .nil))) (dat_up hv (fun p hp => List.mem_append_left _ hp)) kF N2
    · rename News h₀ L _ _ => kN
      rename Fr h₀ L _ _ => kF
      obtain ⟨tl, O, S, N2⟩ := packS (src := src) (rest := rest) kN (by repeat' (first | exact Pick.head | refine' Pick.tail ?_)) (by k_all) (fun p hp => by k_memK)
      exact hret _ _ _ _ tl _ _ _ (.field 1) _ _ _ (by assumption) .f1 O (S _ (by k_memK) (ne_new (by tbn_find) (fun q hq => by k_memK))) (.tuple (List.mem_append_right _ (S _ (by k_memK) (ne_new (by tbn_find) (fun q hq => by k_memK)))) (.cons (.str _ _) (.cons (.int _ _) .nil))) (dat_up hu (fun p hp => List.mem_append_left _ hp)) kF N2)
  | variants sa =>
    obtain ⟨t, tkt, nt, l, vs, kl, rfl, ht', hl', hvs⟩ := dat_tag hs
    have ht := hdat _ ht'
    have hl := hdat _ hl'
    obtain ⟨v, u, rfl, hv, hu⟩ := dat_two hvs
    clear hs hvs hc ht' hl'
    w_on
    w_strict (
    revert X; k_fill; intro X
    refine wpAny_call ?_
    k_dflt ktr_enter
    k_steps
    · rename News h₀ L _ _ => kN
      rename Fr h₀ L _ _ => kF
      obtain ⟨tl, O, S, N2⟩ := packS (src := src) (rest := rest) kN (by repeat' (first | exact Pick.head | refine' Pick.tail ?_)) (by k_all) (fun p hp => by k_memK)
      exact hret _ _ _ _ tl _ _ _ (.down 0) _ _ _ (by assumption) .v0 O (S _ (by k_memK) (ne_new (by tbn_find) (fun q hq => by k_memK))) (.tuple (List.mem_append_right _ (S _ (by k_memK) (ne_new (by tbn_find) (fun q hq => by k_memK)))) (.cons (.str _ _) (.cons (.int _ _) .nil))) (dat_up hv (fun p hp => List.mem_append_left _ hp)) kF N2
    · rename News h₀ L _ _ => kN
      rename Fr h₀ L _ _ => kF
      obtain ⟨tl, O, S, N2⟩ := packS (src := src) (rest := rest) kN (by repeat' (first | exact Pick.head | refine' Pick.tail ?_)) (by k_all) (fun p hp => by k_memK)
      exact hret _ _ _ _ tl _ _ _ (.down 1) _ _ _ (by assumption) .v1 O (S _ (by k_memK) (ne_new (by tbn_find) (fun q hq => by k_memK))) (.tuple (List.mem_append_right _ (S _ (by k_memK) (ne_new (by tbn_find) (fun q hq => by k_memK)))) (.cons (.str _ _) (.cons (.int _ _) .nil))) (dat_up hu (fun p hp => List.mem_append_left _ hp)) kF N2)
  | array sa =>
    obtain ⟨t, tkt, nt, l, vs, kl, rfl, ht', hl', hvs⟩ := dat_tag hs
    have ht := hdat _ ht'
    have hl := hdat _ hl'
    obtain ⟨v, rfl, hv⟩ := dat_one hvs
    clear hs hvs hc ht' hl'
    w_on
    w_strict (
    revert X; k_fill; intro X
    refine wpAny_call ?_
    k_dflt ktr_enter
    k_steps
    · rename News h₀ L _ _ => kN
      rename Fr h₀ L _ _ => kF
      obtain ⟨tl, O, S, N2⟩ := packS (src := src) (rest := rest) kN (by repeat' (first | exact Pick.head | refine' Pick.tail ?_)) (by k_all) (fun p hp => by k_memK)
      exact hret _ _ _ _ tl _ _ _ (.index _) _ _ _ (by assumption) (.ar _) O (S _ (by k_memK) (ne_new (by tbn_find) (fun q hq => by k_memK))) (.tuple (List.mem_append_right _ (S _ (by k_memK) (ne_new (by tbn_find) (fun q hq => by k_memK)))) (.cons (.str _ _) (.cons (.int _ _) .nil))) (dat_up hv (fun p hp => List.mem_append_left _ hp)) kF N2
    · rename News h₀ L _ _ => kN
      rename Fr h₀ L _ _ => kF
      obtain ⟨tl, O, S, N2⟩ := packS (src := src) (rest := rest) kN (by repeat' (first | exact Pick.head | refine' Pick.tail ?_)) (by k_all) (fun p hp => by k_memK)
      exact hret _ _ _ _ tl _ _ _ (.index _) _ _ _ (by assumption) (.ar _) O (S _ (by k_memK) (ne_new (by tbn_find) (fun q hq => by k_memK))) (.tuple (List.mem_append_right _ (S _ (by k_memK) (ne_new (by tbn_find) (fun q hq => by k_memK)))) (.cons (.str _ _) (.cons (.int _ _) .nil))) (dat_up hv (fun p hp => List.mem_append_left _ hp)) kF N2)
  | box sa =>
    obtain ⟨t, tkt, nt, l, vs, kl, rfl, ht', hl', hvs⟩ := dat_tag hs
    have ht := hdat _ ht'
    have hl := hdat _ hl'
    obtain ⟨v, rfl, hv⟩ := dat_one hvs
    clear hs hvs hc ht' hl'
    w_on
    w_strict (
    revert X; k_fill; intro X
    refine wpAny_call ?_
    k_dflt ktr_enter
    k_steps
    · rename News h₀ L _ _ => kN
      rename Fr h₀ L _ _ => kF
      obtain ⟨tl, O, S, N2⟩ := packS (src := src) (rest := rest) kN (by repeat' (first | exact Pick.head | refine' Pick.tail ?_)) (by k_all) (fun p hp => by k_memK)
      exact hret _ _ _ _ tl _ _ _ .deref _ _ _ (by assumption) .bx O (S _ (by k_memK) (ne_new (by tbn_find) (fun q hq => by k_memK))) (.tuple (List.mem_append_right _ (S _ (by k_memK) (ne_new (by tbn_find) (fun q hq => by k_memK)))) (.cons (.str _ _) .nil)) (dat_up hv (fun p hp => List.mem_append_left _ hp)) kF N2)
  | hold sa =>
    obtain ⟨t, tkt, nt, l, vs, kl, rfl, ht', hl', hvs⟩ := dat_tag hs
    have ht := hdat _ ht'
    have hl := hdat _ hl'
    obtain ⟨v, rfl, hv⟩ := dat_one hvs
    clear hs hvs hc ht' hl'
    w_on
    w_strict (
    revert X; k_fill; intro X
    refine wpAny_call ?_
    k_dflt ktr_enter
    k_steps
    · rename News h₀ L _ _ => kN
      rename Fr h₀ L _ _ => kF
      obtain ⟨tl, O, S, N2⟩ := packS (src := src) (rest := rest) kN (by repeat' (first | exact Pick.head | refine' Pick.tail ?_)) (by k_all) (fun p hp => by k_memK)
      exact hret _ _ _ _ tl _ _ _ .deref _ _ _ (by assumption) .mt O (S _ (by k_memK) (ne_new (by tbn_find) (fun q hq => by k_memK))) (.tuple (List.mem_append_right _ (S _ (by k_memK) (ne_new (by tbn_find) (fun q hq => by k_memK)))) (.cons (.str _ _) .nil)) (dat_up hv (fun p hp => List.mem_append_left _ hp)) kF N2)
end
end Mine
end
section
local macro_rules | `(tactic| walk_at "own pad") => `(tactic| fail)
local macro_rules | `(tactic| walk_at "own pad") => `(tactic| fail)
local macro_rules | `(tactic| walk_at "own pad") => `(tactic| fail)
local macro_rules | `(tactic| walk_at "own pad") => `(tactic| fail)
local macro_rules | `(tactic| walk_at "own pad") => `(tactic| fail)
local macro_rules | `(tactic| walk_at "own pad") => `(tactic| fail)
local macro_rules | `(tactic| walk_at "own pad") => `(tactic| fail)
local macro_rules | `(tactic| walk_at "own pad") => `(tactic| fail)
local macro_rules | `(tactic| walk_at "own pad") => `(tactic| fail)
open PySem PySem.W PyProof.Rows PySem.Spec PySem.Calls
set_option pp.maxSteps 600
set_option linter.unusedVariables false
namespace Mine
section

/-- what holds between the turns of the place's loop -/
inductive PlaceJ (src la lb : Addr) (nn : Nat) (rest dat : List (Addr × Obj)) (sh : Sh) : Nat → (Str → Option Value) → List (Addr × Obj) → Prop
  | mk {n : Nat} {m : Str → Option Value} {sv : Value} {sh' : Sh} {sts : List St} {ks : List Bool} {a b : Int} {ta tb : Tok} {xs ys : List Value} {kx ky : Nat} {tlx : List (Addr × Obj)} :
    n = sh'.depth → sh'.depth ≤ 8 → Path sh sts ks sh' → m (Str.ofString "source") = some (.ref src) → m (Str.ofString "shape") = some sv → m (Str.ofString "steps") = some (.ref la) → m (Str.ofString "derefs") = some (.ref lb) →
    Good a b → Off tlx ((src, srcO a b ta tb nn) :: (la, listOf (List.toArray xs) kx) :: (lb, listOf (List.toArray ys) ky) :: rest) → DatIn (dat ++ tlx) sv sh'.enc → DatAll (dat ++ tlx) xs (sts.map St.enc) → DatAll (dat ++ tlx) ys (ks.map kd) →
    PlaceJ src la lb nn rest dat sh n m ((src, srcO a b ta tb nn) :: (la, listOf (List.toArray xs) kx) :: (lb, listOf (List.toArray ys) ky) :: (rest ++ tlx))
def pmap (src la lb : Addr) (sv : Value) (u : Str → Option Value) : Str → Option Value := fun y =>
  if y = Str.ofString "source" then some (.ref src) else if y = Str.ofString "shape" then some sv else if y = Str.ofString "steps" then some (.ref la) else if y = Str.ofString "derefs" then some (.ref lb) else u y
theorem pmap_eq {src la lb : Addr} {sv : Value} {m : Str → Option Value} (h1 : m (Str.ofString "source") = some (.ref src)) (h2 : m (Str.ofString "shape") = some sv) (h3 : m (Str.ofString "steps") = some (.ref la)) (h4 : m (Str.ofString "derefs") = some (.ref lb)) : m = pmap src la lb sv m := by
  funext y
  unfold pmap
  by_cases e1 : y = Str.ofString "source"
  · rw [if_pos e1, e1, h1]
  · rw [if_neg e1]
    by_cases e2 : y = Str.ofString "shape"
    · rw [if_pos e2, e2, h2]
    · rw [if_neg e2]
      by_cases e3 : y = Str.ofString "steps"
      · rw [if_pos e3, e3, h3]
      · rw [if_neg e3]
        by_cases e4 : y = Str.ofString "derefs"
        · rw [if_pos e4, e4, h4]
        · rw [if_neg e4]
theorem PlaceJ.next {src la lb : Addr} {nn : Nat} {rest dat : List (Addr × Obj)} {sh sh1 sh2 : Sh} {st : St} {sts : List St} {ks : List Bool} {m : Str → Option Value} {v1 v2 : Value} {a b : Int} {ta tb : Tok} {xs ys : List Value} {kx ky : Nat} {tlx tl : List (Addr × Obj)}
    (hd : sh1.depth ≤ 8) (hp : Path sh sts ks sh1) (g : Goes sh1 st sh2) (h1 : m (Str.ofString "source") = some (.ref src)) (h2 : m (Str.ofString "shape") = some v2) (h3 : m (Str.ofString "steps") = some (.ref la)) (h4 : m (Str.ofString "derefs") = some (.ref lb)) (G : Good a b)
    (o1 : ∀ p ∈ tlx, p.1 ≠ src) (o2 : ∀ p ∈ tlx, p.1 ≠ la) (o3 : ∀ p ∈ tlx, p.1 ≠ lb) (o4 : Off tlx rest) (p1 : ∀ p ∈ tl, p.1 ≠ src) (p2 : ∀ p ∈ tl, p.1 ≠ la) (p3 : ∀ p ∈ tl, p.1 ≠ lb) (p4 : Off tl rest)
    (D1 : DatIn (dat ++ tlx ++ tl) v1 st.enc) (D2 : DatIn (dat ++ tlx ++ tl) v2 sh2.enc) (Dx : DatAll (dat ++ tlx) xs (sts.map St.enc)) (Dy : DatAll (dat ++ tlx) ys ((ks ++ sh1.kinds).map kd)) :
    PlaceJ src la lb nn rest dat sh sh2.depth m ((src, srcO a b ta tb nn) :: (la, listOf (List.toArray (xs ++ [v1])) kx) :: (lb, listOf (List.toArray ys) ky) :: (rest ++ (tlx ++ tl))) := by
  have up : ∀ p ∈ dat ++ tlx, p ∈ dat ++ (tlx ++ tl) := fun p hp => by rw [← List.append_assoc]; exact List.mem_append_left _ hp
  have := g.less
  refine .mk rfl (by omega) (hp.snoc g) h1 h2 h3 h4 G (.c (fun p hp => (List.mem_append.mp hp).elim (o1 p) (p1 p)) (.c (fun p hp => (List.mem_append.mp hp).elim (o2 p) (p2 p)) (.c (fun p hp => (List.mem_append.mp hp).elim (o3 p) (p3 p)) (.app o4 p4)))) ?_ ?_ (Dy.mono up)
  · rw [← List.append_assoc]; exact D2
  · rw [List.map_append]
    refine (Dx.mono up).append (.one ?_)
    rw [← List.append_assoc]; exact D1
def PlaceE (g : Heap) (L' : Addr) (src la lb : Addr) (nn : Nat) (rest dat : List (Addr × Obj)) (sh : Sh) (s : Shared) (f : Flow) (s' : Shared) : Prop :=
  f = .next ∧ ∃ n m nx h' tk, s' = { s with heap := h', toks := tk } ∧ Fr g L' h' m ∧ News g L' h' nx ∧ PlaceJ src la lb nn rest dat sh n m nx
local macro_rules | `(tactic| k_all) => `(tactic| first | assumption | exact List.forall_mem_append.mpr ⟨by k_all, by k_all⟩ | exact List.forall_mem_cons.mpr ⟨by (refine neN ?_; (try dsimp only); omega), by k_all⟩)
local macro_rules | `(tactic| k_mem) => `(tactic| first | (with_reducible assumption) | (with_reducible exact List.mem_cons_self) | (with_reducible refine List.mem_append_left _ ?_; k_mem) | (with_reducible refine List.mem_append_right _ ?_; k_mem) | (with_reducible refine List.mem_cons_of_mem _ ?_; k_mem))
local macro_rules | `(tactic| k_memK) => `(tactic| first | (with_reducible assumption) | (with_reducible exact List.mem_cons_self) | (with_reducible refine List.mem_append_left _ ?_; k_memK) | (with_reducible refine List.mem_append_right _ ?_; k_memK) | (with_reducible refine List.mem_cons_of_mem _ ?_; k_memK))
local macro_rules | `(tactic| news_mem) => `(tactic| k_mem)
local macro_rules | `(tactic| walk_at "call ref") => `(tactic| (k_here; k_dflt (refine' take_call ?kB ?kF ?kX ?kN ?kT ?kk ?kP ?k6 ?kG ?k1 ?k2 ?kd ?ku ?_; (case kB => k_asm); (case kF => k_asm); (case kX => k_asm); (case kN => k_asm); (case kT => k_asm); (case kk => (first | exact rfl | assumption)); (case kP => (repeat' (first | exact Pick.head | refine' Pick.tail ?_))); (case k6 => k_all); (case kG => assumption); (case k1 => (first | decide | omega)); (case k2 => (first | decide | omega)); (case kd => ktr_room); (case ku => ktr_units)); intro a' b' ta' tb' k' t' h' tk' G' l1' l2' F' N'; (try dsimp only); (try k_fold)))
set_option maxRecDepth 100000 in
set_option maxHeartbeats 8000000 in
theorem place_call {w : World} {dp un : Nat} {gd : Option (List Code)} {cn : Str} {cs : Scope} {fa : Addr} {ccd : Value} {cl : List (Str × Addr)} {outer : List Env} {A₀ : Around} {base h₀ : Heap} {L : Addr} {m : Str → Option Value} {mean : ExcName → Option Value} {mg mb : Str → Option Value}
    {s : Shared} {Q E : Value → Shared → Prop}
    {news rest dat : List (Addr × Obj)} {src : Addr} {a b : Int} {ta tb : Tok} {n : Nat} {sv : Value} {sh : Sh}
    (B : Below A₀ base outer h₀) (F : Fr h₀ L s.heap m) (X : (hd.heap_39 w.params).In h₀) (N₀ : News h₀ L s.heap news) (T : TopN mean mg mb h₀) (hk : cs.kind = .function)
    (P : Pick (src, srcO a b ta tb n) news rest) (h6 : ∀ p ∈ rest, p.1 ≠ src) (G : Good a b) (hdat : ∀ p ∈ dat, p ∈ rest) (hs : DatIn dat sv sh.enc) (hds : sh.depth ≤ 8)
    (hdp : dp + 6 < recursionLimit) (hun : un + 8 * 26 < cLine)
    (hret : ∀ (a' b' : Int) (ta' tb' : Tok) (tl : List (Addr × Obj)) (l t1 t2 : Addr) (sts : List St) (ks : List Bool) (sh' : Sh) (h' : Heap) (tk' : Nat), Good a' b' → Path sh sts ks sh' → Off tl ((src, srcO a' b' ta' tb' n) :: rest) → (l, listOf #[.ref t1, .ref t2] 0) ∈ tl → DatIn (dat ++ tl) (.ref t1) (.tuple (sts.map St.enc)) → DatIn (dat ++ tl) (.ref t2) (.tuple (ks.map kd)) →
      Fr h₀ L h' m → News h₀ L h' ((src, srcO a' b' ta' tb' n) :: (rest ++ tl)) → Q (.ref l) { s with heap := h', toks := tk' }) :
    wpAny (model Challenge.rw_nz0122_01.row.prog w) (ktrTop dp un gd cn cs L fa ccd cl outer) (call (.ref 75) [.ref src, sv]) Q E s := by
  have N := news_sub N₀ P.sub
  clear N₀ P
  w_on
  w_strict (
  k_with_none
  revert X; k_fill; intro X
  refine wpAny_call ?_
  k_dflt ktr_enter
  k_with_none
  k_with "call ref" => (k_here; k_dflt (refine' step_call ?kB ?kF ?kX ?kN ?kT ?kk ?kP ?k6 ?kG ?kh ?ks ?kc ?kd ?ku ?_; (case kB => k_asm); (case kF => k_asm); (case kX => k_asm); (case kN => k_asm); (case kT => k_asm); (case kk => (first | exact rfl | assumption)); (case kP => (repeat' (first | exact Pick.head | refine' Pick.tail ?_))); (case k6 => k_all); (case kG => assumption); (case ks => assumption); (case kh => (intro p hp; (have hp' := hdat1 p hp); k_mem)); (case kc => (intro hc; cases hc)); (case kd => ktr_room); (case ku => ktr_units)); intro a' b' ta' tb' tl' l' v1' v2' st' sh' h' tk' G' g' O' hl' D1' D2' F' N'; (have hs' := Off.ne (a := src) O' (by k_mem)); (have hsa := Off.ne (a := la) O' (by k_mem)); (have hsb := Off.ne (a := lb) O' (by k_mem)); (try simp only [List.cons_append] at N'); (try dsimp only); (try k_fold))
  k_with "compareOp NotEq ref ref" => (k_here; k_dflt (refine' shape_ne ?kN ?ka ?kb ?kc ?ke ?ku ?_; (case kN => k_asm); (case ka => assumption); (case kb => (intro p hp; (have hp' := hdat1 p hp); k_mem)); (case kc => k_mem); (case ke => assumption); (case ku => ktr_units)))
  k_with "call builtin:list.append" => (k_here; k_dflt (refine' append_K ?k1 ?k2 ?k3 ?_ ?z; (case k1 => k_asm); (case k2 => k_asm); (case k3 => k_upd); (case z => assumption)); intro h' F' N'; (try simp only [List.push_toArray] at N'); (try dsimp only); (try k_fold))
  k_with "call type:tuple" => (k_here; k_dflt (refine' kde_tupleOf ?k1 ?k2 ?k3 ?k4 ?k5 ?_; (case k1 => k_asm); (case k2 => k_asm); (case k3 => exact News.isList (by k_asm) (by k_mem)); (case k4 => assumption); (case k5 => exact rfl)); intro D' h' F' N' l1; (try k_lt l1); (try dsimp only); (try k_fold))
  k_with "exec While BoolOp" => (refine Stop.out ?_)
  k_steps
  refine Stop.intro ?_
  rename_i g1 L1 _ FG1 B1 X1 T1 la _ hla lb _ hlb _ _ _ _ _ _ lF lN
  have lN2 : News _ _ _ ((src, srcO a b ta tb n) :: (la, listOf (List.toArray []) 0) :: (lb, listOf (List.toArray []) 0) :: (rest ++ [])) := news_sub lN (fun p hp => by
    rw [List.append_nil] at hp
    rcases List.mem_cons.mp hp with rfl | hp
    · k_memK
    · rcases List.mem_cons.mp hp with rfl | hp
      · k_memK
      · rcases List.mem_cons.mp hp with rfl | hp
        · k_memK
        · k_memK)
  refine' wpAny_mono (Q := fun f s' => PlaceE g1 L1 src la lb n rest dat sh s f s') (While_inv2 (PlaceJ src la lb n rest dat sh) lF lN2 ?hJ ?turn ?hE) ?rest (fun _ _ e => e)
  case hJ => exact .mk rfl hds .nil (by exact rfl) (by exact rfl) (by exact rfl) (by exact rfl) (by assumption) Off.nil (by rw [List.append_nil]; exact hs) .nil .nil
  case hE => with_unfolding_all passes_own
  case turn =>
    clear lF lN lN2
    intro n1 m1 nx1 h1 tk1 F1 N1 J1
    cases J1 with
    | @mk sv1 sh1 sts ks a1 b1 ta1 tb1 xs ys kx ky tlx hn1 hd1 hp1 hm1 hm2 hm3 hm4 G1 O1 D1 Dx Dy =>
      rw [pmap_eq hm1 hm2 hm3 hm4] at F1
      unfold pmap at F1
      have h61 : ∀ p ∈ tlx, p.1 ≠ src := Off.ne O1 (by k_memK)
      have h62 : ∀ p ∈ tlx, p.1 ≠ la := Off.ne O1 (by k_memK)
      have h63 : ∀ p ∈ tlx, p.1 ≠ lb := Off.ne O1 (by k_memK)
      have h64 : ∀ p ∈ rest, p.1 ≠ la := fun p hp => Nat.ne_of_lt (ktn_ltOf hla.2 p hp)
      have h65 : ∀ p ∈ rest, p.1 ≠ lb := fun p hp => Nat.ne_of_lt (ktn_ltOf hlb.2.2 p hp)
      have h66 : Off tlx rest := Off.sub O1 (fun q hq => by k_memK)
      have hlen := hp1.len
      have hxs : xs.toArray.size ≤ sizeLine := by rw [sizeLine_eq, List.size_toArray, Dx.length, List.length_map]; omega
      have hys : ys.toArray.size ≤ sizeLine := by rw [sizeLine_eq, List.size_toArray, Dy.length, List.length_map]; omega
      have hdat1 : ∀ p ∈ dat ++ tlx, p ∈ rest ++ tlx := fun p hp => (List.mem_append.mp hp).elim (fun h => List.mem_append_left _ (hdat _ h)) (fun h => List.mem_append_right _ h)
      cases sh1 with
      | cell =>
        obtain ⟨t, rfl⟩ : ∃ t, sv1 = .ref t := by cases D1; exact ⟨_, rfl⟩
        k_steps
        · rename Fr g1 L1 _ _ => kF
          rename News g1 L1 _ _ => kN
          exact ⟨rfl, _, _, _, _, _, rfl, kF, news_sub kN (List.forall_mem_cons.mpr ⟨by k_memK, List.forall_mem_cons.mpr ⟨by k_memK, List.forall_mem_cons.mpr ⟨by k_memK, fun p hp => by k_memK⟩⟩⟩), .mk rfl hd1 hp1 (by exact rfl) (by exact rfl) (by exact rfl) (by exact rfl) (by assumption) (.c h61 (.c h62 (.c h63 h66))) D1 Dx Dy⟩
      | fields sa sb =>
        obtain ⟨t, tkt, nt, l, vs, kl, rfl, ht', hl', hvs⟩ := dat_tag D1
        have ht := hdat1 _ ht'
        have hl := hdat1 _ hl'
        clear ht' hl'
        k_steps
        · rename Fr g1 L1 _ _ => kF
          rename News g1 L1 _ _ => kN
          exact ⟨rfl, _, _, _, _, _, rfl, kF, news_sub kN (List.forall_mem_cons.mpr ⟨by k_memK, List.forall_mem_cons.mpr ⟨by k_memK, List.forall_mem_cons.mpr ⟨by k_memK, fun p hp => by k_memK⟩⟩⟩), .mk rfl hd1 hp1 (by exact rfl) (by exact rfl) (by exact rfl) (by exact rfl) (by assumption) (.c h61 (.c h62 (.c h63 h66))) D1 Dx Dy⟩
        · rename Fr g1 L1 _ _ => kF
          rename News g1 L1 _ _ => kN
          unfold WhileStep2
          dsimp only
          exact ⟨_, _, _, _, _, rfl, kF, news_sub kN (List.forall_mem_cons.mpr ⟨by k_memK, List.forall_mem_cons.mpr ⟨by k_memK, List.forall_mem_cons.mpr ⟨by k_memK, fun p hp => by (rw [← List.append_assoc] at hp; k_memK)⟩⟩⟩), hn1 ▸ g'.less, PlaceJ.next hd1 hp1 g' (by exact rfl) (by exact rfl) (by exact rfl) (by exact rfl) (by assumption) h61 h62 h63 h66 hs' hsa hsb (Off.sub O' (fun q hq => by k_memK)) D1' D2' Dx (by (show DatAll _ _ (List.map kd (ks ++ []))); rw [List.append_nil]; exact Dy)⟩
        · rename Fr g1 L1 _ _ => kF
          rename News g1 L1 _ _ => kN
          exact ⟨rfl, _, _, _, _, _, rfl, kF, news_sub kN (List.forall_mem_cons.mpr ⟨by k_memK, List.forall_mem_cons.mpr ⟨by k_memK, List.forall_mem_cons.mpr ⟨by k_memK, fun p hp => by k_memK⟩⟩⟩), .mk rfl hd1 hp1 (by exact rfl) (by exact rfl) (by exact rfl) (by exact rfl) (by assumption) (.c h61 (.c h62 (.c h63 h66))) D1 Dx Dy⟩
      | variants sa =>
        obtain ⟨t, tkt, nt, l, vs, kl, rfl, ht', hl', hvs⟩ := dat_tag D1
        have ht := hdat1 _ ht'
        have hl := hdat1 _ hl'
        clear ht' hl'
        k_steps
        · rename Fr g1 L1 _ _ => kF
          rename News g1 L1 _ _ => kN
          exact ⟨rfl, _, _, _, _, _, rfl, kF, news_sub kN (List.forall_mem_cons.mpr ⟨by k_memK, List.forall_mem_cons.mpr ⟨by k_memK, List.forall_mem_cons.mpr ⟨by k_memK, fun p hp => by k_memK⟩⟩⟩), .mk rfl hd1 hp1 (by exact rfl) (by exact rfl) (by exact rfl) (by exact rfl) (by assumption) (.c h61 (.c h62 (.c h63 h66))) D1 Dx Dy⟩
        · rename Fr g1 L1 _ _ => kF
          rename News g1 L1 _ _ => kN
          unfold WhileStep2
          dsimp only
          exact ⟨_, _, _, _, _, rfl, kF, news_sub kN (List.forall_mem_cons.mpr ⟨by k_memK, List.forall_mem_cons.mpr ⟨by k_memK, List.forall_mem_cons.mpr ⟨by k_memK, fun p hp => by (rw [← List.append_assoc] at hp; k_memK)⟩⟩⟩), hn1 ▸ g'.less, PlaceJ.next hd1 hp1 g' (by exact rfl) (by exact rfl) (by exact rfl) (by exact rfl) (by assumption) h61 h62 h63 h66 hs' hsa hsb (Off.sub O' (fun q hq => by k_memK)) D1' D2' Dx (by (show DatAll _ _ (List.map kd (ks ++ []))); rw [List.append_nil]; exact Dy)⟩
        · rename Fr g1 L1 _ _ => kF
          rename News g1 L1 _ _ => kN
          exact ⟨rfl, _, _, _, _, _, rfl, kF, news_sub kN (List.forall_mem_cons.mpr ⟨by k_memK, List.forall_mem_cons.mpr ⟨by k_memK, List.forall_mem_cons.mpr ⟨by k_memK, fun p hp => by k_memK⟩⟩⟩), .mk rfl hd1 hp1 (by exact rfl) (by exact rfl) (by exact rfl) (by exact rfl) (by assumption) (.c h61 (.c h62 (.c h63 h66))) D1 Dx Dy⟩
      | array sa =>
        obtain ⟨t, tkt, nt, l, vs, kl, rfl, ht', hl', hvs⟩ := dat_tag D1
        have ht := hdat1 _ ht'
        have hl := hdat1 _ hl'
        clear ht' hl'
        k_steps
        · rename Fr g1 L1 _ _ => kF
          rename News g1 L1 _ _ => kN
          exact ⟨rfl, _, _, _, _, _, rfl, kF, news_sub kN (List.forall_mem_cons.mpr ⟨by k_memK, List.forall_mem_cons.mpr ⟨by k_memK, List.forall_mem_cons.mpr ⟨by k_memK, fun p hp => by k_memK⟩⟩⟩), .mk rfl hd1 hp1 (by exact rfl) (by exact rfl) (by exact rfl) (by exact rfl) (by assumption) (.c h61 (.c h62 (.c h63 h66))) D1 Dx Dy⟩
        · rename Fr g1 L1 _ _ => kF
          rename News g1 L1 _ _ => kN
          unfold WhileStep2
          dsimp only
          exact ⟨_, _, _, _, _, rfl, kF, news_sub kN (List.forall_mem_cons.mpr ⟨by k_memK, List.forall_mem_cons.mpr ⟨by k_memK, List.forall_mem_cons.mpr ⟨by k_memK, fun p hp => by (rw [← List.append_assoc] at hp; k_memK)⟩⟩⟩), hn1 ▸ g'.less, PlaceJ.next hd1 hp1 g' (by exact rfl) (by exact rfl) (by exact rfl) (by exact rfl) (by assumption) h61 h62 h63 h66 hs' hsa hsb (Off.sub O' (fun q hq => by k_memK)) D1' D2' Dx (by (show DatAll _ _ (List.map kd (ks ++ []))); rw [List.append_nil]; exact Dy)⟩
        · rename Fr g1 L1 _ _ => kF
          rename News g1 L1 _ _ => kN
          exact ⟨rfl, _, _, _, _, _, rfl, kF, news_sub kN (List.forall_mem_cons.mpr ⟨by k_memK, List.forall_mem_cons.mpr ⟨by k_memK, List.forall_mem_cons.mpr ⟨by k_memK, fun p hp => by k_memK⟩⟩⟩), .mk rfl hd1 hp1 (by exact rfl) (by exact rfl) (by exact rfl) (by exact rfl) (by assumption) (.c h61 (.c h62 (.c h63 h66))) D1 Dx Dy⟩
      | box sa =>
        obtain ⟨t, tkt, nt, l, vs, kl, rfl, ht', hl', hvs⟩ := dat_tag D1
        have ht := hdat1 _ ht'
        have hl := hdat1 _ hl'
        clear ht' hl'
        k_steps
        · rename Fr g1 L1 _ _ => kF
          rename News g1 L1 _ _ => kN
          exact ⟨rfl, _, _, _, _, _, rfl, kF, news_sub kN (List.forall_mem_cons.mpr ⟨by k_memK, List.forall_mem_cons.mpr ⟨by k_memK, List.forall_mem_cons.mpr ⟨by k_memK, fun p hp => by k_memK⟩⟩⟩), .mk rfl hd1 hp1 (by exact rfl) (by exact rfl) (by exact rfl) (by exact rfl) (by assumption) (.c h61 (.c h62 (.c h63 h66))) D1 Dx Dy⟩
        · rename Fr g1 L1 _ _ => kF
          rename News g1 L1 _ _ => kN
          unfold WhileStep2
          dsimp only
          exact ⟨_, _, _, _, _, rfl, kF, news_sub kN (List.forall_mem_cons.mpr ⟨by k_memK, List.forall_mem_cons.mpr ⟨by k_memK, List.forall_mem_cons.mpr ⟨by k_memK, fun p hp => by (rw [← List.append_assoc] at hp; k_memK)⟩⟩⟩), hn1 ▸ g'.less, PlaceJ.next hd1 hp1 g' (by exact rfl) (by exact rfl) (by exact rfl) (by exact rfl) (by assumption) h61 h62 h63 h66 hs' hsa hsb (Off.sub O' (fun q hq => by k_memK)) D1' D2' Dx (by rw [List.map_append]; exact Dy.append (.one (.str _ _)))⟩
        · rename Fr g1 L1 _ _ => kF
          rename News g1 L1 _ _ => kN
          exact ⟨rfl, _, _, _, _, _, rfl, kF, news_sub kN (List.forall_mem_cons.mpr ⟨by k_memK, List.forall_mem_cons.mpr ⟨by k_memK, List.forall_mem_cons.mpr ⟨by k_memK, fun p hp => by k_memK⟩⟩⟩), .mk rfl hd1 hp1 (by exact rfl) (by exact rfl) (by exact rfl) (by exact rfl) (by assumption) (.c h61 (.c h62 (.c h63 h66))) D1 Dx Dy⟩
      | hold sa =>
        obtain ⟨t, tkt, nt, l, vs, kl, rfl, ht', hl', hvs⟩ := dat_tag D1
        have ht := hdat1 _ ht'
        have hl := hdat1 _ hl'
        clear ht' hl'
        k_steps
        · rename Fr g1 L1 _ _ => kF
          rename News g1 L1 _ _ => kN
          exact ⟨rfl, _, _, _, _, _, rfl, kF, news_sub kN (List.forall_mem_cons.mpr ⟨by k_memK, List.forall_mem_cons.mpr ⟨by k_memK, List.forall_mem_cons.mpr ⟨by k_memK, fun p hp => by k_memK⟩⟩⟩), .mk rfl hd1 hp1 (by exact rfl) (by exact rfl) (by exact rfl) (by exact rfl) (by assumption) (.c h61 (.c h62 (.c h63 h66))) D1 Dx Dy⟩
        · rename Fr g1 L1 _ _ => kF
          rename News g1 L1 _ _ => kN
          unfold WhileStep2
          dsimp only
          exact ⟨_, _, _, _, _, rfl, kF, news_sub kN (List.forall_mem_cons.mpr ⟨by k_memK, List.forall_mem_cons.mpr ⟨by k_memK, List.forall_mem_cons.mpr ⟨by k_memK, fun p hp => by (rw [← List.append_assoc] at hp; k_memK)⟩⟩⟩), hn1 ▸ g'.less, PlaceJ.next hd1 hp1 g' (by exact rfl) (by exact rfl) (by exact rfl) (by exact rfl) (by assumption) h61 h62 h63 h66 hs' hsa hsb (Off.sub O' (fun q hq => by k_memK)) D1' D2' Dx (by rw [List.map_append]; exact Dy.append (.one (.str _ _)))⟩
        · rename Fr g1 L1 _ _ => kF
          rename News g1 L1 _ _ => kN
          exact ⟨rfl, _, _, _, _, _, rfl, kF, news_sub kN (List.forall_mem_cons.mpr ⟨by k_memK, List.forall_mem_cons.mpr ⟨by k_memK, List.forall_mem_cons.mpr ⟨by k_memK, fun p hp => by k_memK⟩⟩⟩), .mk rfl hd1 hp1 (by exact rfl) (by exact rfl) (by exact rfl) (by exact rfl) (by assumption) (.c h61 (.c h62 (.c h63 h66))) D1 Dx Dy⟩
  case rest =>
    clear lF lN lN2
    rintro f s' ⟨rfl, n1, m1, nx1, h1, tk1, rfl, F1, N1, J1⟩
    cases J1 with
    | @mk sv1 sh1 sts ks a1 b1 ta1 tb1 xs ys kx ky tlx hn1 hd1 hp1 hm1 hm2 hm3 hm4 G1 O1 D1 Dx Dy =>
      rw [pmap_eq hm1 hm2 hm3 hm4] at F1
      unfold pmap at F1
      have h61 : ∀ p ∈ tlx, p.1 ≠ src := Off.ne O1 (by k_memK)
      have h66 : Off tlx rest := Off.sub O1 (fun q hq => by k_memK)
      have hlen := hp1.len
      have hxs : xs.toArray.size ≤ 16384 := by rw [List.size_toArray, Dx.length, List.length_map]; omega
      have hys : ys.toArray.size ≤ 16384 := by rw [List.size_toArray, Dy.length, List.length_map]; omega
      dsimp only
      k_steps
      rename Fr h₀ L _ _ => kF
      rename News h₀ L _ _ => kN
      obtain ⟨tl, O, S, N2⟩ := packS (src := src) (rest := rest) kN (by repeat' (first | exact Pick.head | refine' Pick.tail ?_)) (by k_all) (fun p hp => by k_memK)
      have up : ∀ p ∈ dat ++ tlx, p ∈ dat ++ tl := fun p hp => (List.mem_append.mp hp).elim (fun h => List.mem_append_left _ h) (fun h => List.mem_append_right _ (S p (by k_memK) (h66 p h)))
      exact hret _ _ _ _ tl _ _ _ sts ks _ _ _ (by assumption) hp1 O (S _ (by k_memK) (ne_new (by tbn_find) (fun q hq => by k_memK)))
        (.tuple (List.mem_append_right _ (S _ (by k_memK) (ne_new (by tbn_find) (fun q hq => by k_memK)))) (Dx.mono up)) (.tuple (List.mem_append_right _ (S _ (by k_memK) (ne_new (by tbn_find) (fun q hq => by k_memK)))) (Dy.mono up)) kF N2)
end
end Mine
end
section
local macro_rules | `(tactic| walk_at "own pad") => `(tactic| fail)
local macro_rules | `(tactic| walk_at "own pad") => `(tactic| fail)
local macro_rules | `(tactic| walk_at "own pad") => `(tactic| fail)
local macro_rules | `(tactic| walk_at "own pad") => `(tactic| fail)
local macro_rules | `(tactic| walk_at "own pad") => `(tactic| fail)
local macro_rules | `(tactic| walk_at "own pad") => `(tactic| fail)
local macro_rules | `(tactic| walk_at "own pad") => `(tactic| fail)
local macro_rules | `(tactic| walk_at "own pad") => `(tactic| fail)
local macro_rules | `(tactic| walk_at "own pad") => `(tactic| fail)
local macro_rules | `(tactic| walk_at "own pad") => `(tactic| fail)
local macro_rules | `(tactic| walk_at "own pad") => `(tactic| fail)
open PySem PySem.W PyProof.Rows PySem.Spec PySem.Calls
set_option pp.maxSteps 600
set_option linter.unusedVariables false
namespace Mine
section
local macro_rules | `(tactic| k_all) => `(tactic| first | assumption | exact List.forall_mem_append.mpr ⟨by k_all, by k_all⟩ | exact List.forall_mem_cons.mpr ⟨by (refine neN ?_; (try dsimp only); omega), by k_all⟩)
local macro_rules | `(tactic| k_mem) => `(tactic| first | (with_reducible assumption) | (with_reducible exact List.mem_cons_self) | (with_reducible refine List.mem_append_left _ ?_; k_mem) | (with_reducible refine List.mem_append_right _ ?_; k_mem) | (with_reducible refine List.mem_cons_of_mem _ ?_; k_mem))
local macro_rules | `(tactic| k_memK) => `(tactic| first | (with_reducible assumption) | (with_reducible exact List.mem_cons_self) | (with_reducible refine List.mem_append_left _ ?_; k_memK) | (with_reducible refine List.mem_append_right _ ?_; k_memK) | (with_reducible refine List.mem_cons_of_mem _ ?_; k_memK))
local macro_rules | `(tactic| news_mem) => `(tactic| k_mem)
set_option maxRecDepth 100000 in
set_option maxHeartbeats 8000000 in
theorem meets_call {w : World} {dp un : Nat} {gd : Option (List Code)} {cn : Str} {cs : Scope} {fa : Addr} {ccd : Value} {cl : List (Str × Addr)} {outer : List Env} {A₀ : Around} {base h₀ : Heap} {L : Addr} {m : Str → Option Value} {mean : ExcName → Option Value} {mg mb : Str → Option Value}
    {s : Shared} {Q E : Value → Shared → Prop}
    {news dat : List (Addr × Obj)} {v1 v2 : Value} {st1 st2 : St}
    (B : Below A₀ base outer h₀) (F : Fr h₀ L s.heap m) (X : (hd.heap_39 w.params).In h₀) (N₀ : News h₀ L s.heap news) (T : TopN mean mg mb h₀) (hk : cs.kind = .function)
    (hdat : ∀ p ∈ dat, p ∈ news) (h1 : DatIn dat v1 st1.enc) (h2 : DatIn dat v2 st2.enc)
    (hdp : dp + 2 < recursionLimit) (hun : un + 8 * 2 < cLine)
    (hret : ∀ (h' : Heap) (tk' : Nat), Fr h₀ L h' m → News h₀ L h' news → Q (.bool (meetsB st1 st2)) { s with heap := h', toks := tk' }) :
    wpAny (model Challenge.rw_nz0122_01.row.prog w) (ktrTop dp un gd cn cs L fa ccd cl outer) (call (.ref 21) [v1, v2]) Q E s := by
  have N := N₀
  clear N₀
  cases st1 with
  | field i =>
    obtain ⟨t1, k1, u1, n1, rfl, g1⟩ := dat_pair h1
    have m1 := hdat _ g1
    clear h1 g1
    cases st2 with
    | field j =>
      obtain ⟨t2, k2, u2, n2, rfl, g2⟩ := dat_pair h2
      have m2 := hdat _ g2
      clear h2 g2
      w_on
      w_strict (
      revert X; k_fill; intro X
      refine wpAny_call ?_
      k_dflt ktr_enter
      k_steps
      rename Fr h₀ L _ _ => kF
      rename News h₀ L _ _ => kN
      exact hret _ _ kF (news_sub kN (fun p hp => by k_memK)))
    | down j =>
      obtain ⟨t2, k2, u2, n2, rfl, g2⟩ := dat_pair h2
      have m2 := hdat _ g2
      clear h2 g2
      w_on
      w_strict (
      revert X; k_fill; intro X
      refine wpAny_call ?_
      k_dflt ktr_enter
      k_steps
      rename Fr h₀ L _ _ => kF
      rename News h₀ L _ _ => kN
      exact hret _ _ kF (news_sub kN (fun p hp => by k_memK)))
    | index j =>
      obtain ⟨t2, k2, u2, n2, rfl, g2⟩ := dat_pair h2
      have m2 := hdat _ g2
      clear h2 g2
      w_on
      w_strict (
      revert X; k_fill; intro X
      refine wpAny_call ?_
      k_dflt ktr_enter
      k_steps
      rename Fr h₀ L _ _ => kF
      rename News h₀ L _ _ => kN
      exact hret _ _ kF (news_sub kN (fun p hp => by k_memK)))
    | deref =>
      obtain ⟨t2, k2, n2, rfl, g2⟩ := dat_sing h2
      have m2 := hdat _ g2
      clear h2 g2
      w_on
      w_strict (
      revert X; k_fill; intro X
      refine wpAny_call ?_
      k_dflt ktr_enter
      k_steps
      rename Fr h₀ L _ _ => kF
      rename News h₀ L _ _ => kN
      exact hret _ _ kF (news_sub kN (fun p hp => by k_memK)))
  | down i =>
    obtain ⟨t1, k1, u1, n1, rfl, g1⟩ := dat_pair h1
    have m1 := hdat _ g1
    clear h1 g1
    cases st2 with
    | field j =>
      obtain ⟨t2, k2, u2, n2, rfl, g2⟩ := dat_pair h2
      have m2 := hdat _ g2
      clear h2 g2
      w_on
      w_strict (
      revert X; k_fill; intro X
      refine wpAny_call ?_
      k_dflt ktr_enter
      k_steps
      rename Fr h₀ L _ _ => kF
      rename News h₀ L _ _ => kN
      exact hret _ _ kF (news_sub kN (fun p hp => by k_memK)))
    | down j =>
      obtain ⟨t2, k2, u2, n2, rfl, g2⟩ := dat_pair h2
      have m2 := hdat _ g2
      clear h2 g2
      w_on
      w_strict (
      revert X; k_fill; intro X
      refine wpAny_call ?_
      k_dflt ktr_enter
      k_steps
      rename Fr h₀ L _ _ => kF
      rename News h₀ L _ _ => kN
      exact hret _ _ kF (news_sub kN (fun p hp => by k_memK)))
    | index j =>
      obtain ⟨t2, k2, u2, n2, rfl, g2⟩ := dat_pair h2
      have m2 := hdat _ g2
      clear h2 g2
      w_on
      w_strict (
      revert X; k_fill; intro X
      refine wpAny_call ?_
      k_dflt ktr_enter
      k_steps
      rename Fr h₀ L _ _ => kF
      rename News h₀ L _ _ => kN
      exact hret _ _ kF (news_sub kN (fun p hp => by k_memK)))
    | deref =>
      obtain ⟨t2, k2, n2, rfl, g2⟩ := dat_sing h2
      have m2 := hdat _ g2
      clear h2 g2
      w_on
      w_strict (
      revert X; k_fill; intro X
      refine wpAny_call ?_
      k_dflt ktr_enter
      k_steps
      rename Fr h₀ L _ _ => kF
      rename News h₀ L _ _ => kN
      exact hret _ _ kF (news_sub kN (fun p hp => by k_memK)))
  | index i =>
    obtain ⟨t1, k1, u1, n1, rfl, g1⟩ := dat_pair h1
    have m1 := hdat _ g1
    clear h1 g1
    w_on
    w_strict (
    revert X; k_fill; intro X
    refine wpAny_call ?_
    k_dflt ktr_enter
    k_steps
    rename Fr h₀ L _ _ => kF
    rename News h₀ L _ _ => kN
    exact hret _ _ kF (news_sub kN (fun p hp => by k_memK)))
  | deref =>
    obtain ⟨t1, k1, n1, rfl, g1⟩ := dat_sing h1
    have m1 := hdat _ g1
    clear h1 g1
    w_on
    w_strict (
    revert X; k_fill; intro X
    refine wpAny_call ?_
    k_dflt ktr_enter
    k_steps
    rename Fr h₀ L _ _ => kF
    rename News h₀ L _ _ => kN
    exact hret _ _ kF (news_sub kN (fun p hp => by k_memK)))
end
end Mine
end
section
open PySem PySem.W PyProof.Rows PySem.Spec PySem.Calls
set_option linter.unusedVariables false
namespace Mine
section
variable {prog : Program} {w : World} {A : Around} {E : Value → Shared → Prop} {s : Shared}
/-- a tuple's iterator, drawn from -/
theorem draw_item {it t : Addr} {i : Nat} {items : Array Value} {x : Value} {Q : Value → Shared → Prop} (hit : s.heap.IsTupleIter it t i) (ht : s.heap.IsTuple t items) (hx : items[i]? = some x)
    (hQ : ∀ h', h'.IsTupleIter it t (i + 1) → Heap.SameBut it s.heap h' → Q x { s with heap := h' }) : wpAny (model prog w) A (Builtin.SmallTypes.nextOf (.ref it)) Q E s := by
  obtain ⟨o, ho, hc, hd⟩ := id hit
  obtain ⟨ot, hot, _, nt, hdt⟩ := ht
  unfold Builtin.SmallTypes.nextOf
  refine wpAny_bind (wpAny_callSpecial?_slot (name := Str.ofString "__next__") hit.typeIs F.slot_tuple_iterator_next (wpAny_call_entry F.slot_tuple_iterator_next hit.typeIs F.entry_tuple_iterator_next ?_ (F.args_tuple_iterator_next_1 _)))
  show wpAny _ _ (field (.ref it) 0 >>= _) _ _ s
  refine wpAny_bind (wpAny_field ho hd (x := .ref t) rfl ?_)
  show wpAny _ _ (if (Value.ref t == Value.none) = true then _ else _) _ _ s
  rw [if_neg (show ¬ ((Value.ref t == Value.none) = true) from Bool.false_ne_true)]
  show wpAny _ _ (field (.ref it) 1 >>= _) _ _ s
  refine wpAny_bind (wpAny_field ho hd (x := .int i 0) rfl ?_)
  show wpAny _ _ (seqItems? (.ref t) >>= _) _ _ s
  refine wpAny_bind (wpAny_seqItems hot hdt ?_)
  simp only [Int.toNat_natCast, hx]
  refine wpAny_bind (wpAny_setField ho hd (by simp) (wpAny_pure ⟨x, rfl, wpAny_pure (hQ _ ?_ (Heap.SameBut.update ..))⟩))
  exact ⟨_, Heap.get?_update_self _ ho (Obj.isFreed_of_fields (Obj.data_mapFields hd _)), (Obj.cls_mapFields ..).trans hc, by
    rw [Obj.data_mapFields hd]; simp [rawInt]⟩
theorem draw_end {it t : Addr} {i : Nat} {items : Array Value} {Q : Value → Shared → Prop} (hh : A.handled = none) (hit : s.heap.IsTupleIter it t i) (ht : s.heap.IsTuple t items) (hx : items[i]? = none)
    (hE : ∀ h' e, Heap.ExtBut it s.heap h' → (∃ o, h'.get? e = some o ∧ o.cls = .type "StopIteration") → E (.ref e) { s with heap := h' }) : wpAny (model prog w) A (Builtin.SmallTypes.nextOf (.ref it)) Q E s := by
  obtain ⟨o, ho, hc, hd⟩ := id hit
  obtain ⟨ot, hot, _, nt, hdt⟩ := ht
  unfold Builtin.SmallTypes.nextOf
  refine wpAny_bind (wpAny_callSpecial?_slot (name := Str.ofString "__next__") hit.typeIs F.slot_tuple_iterator_next (wpAny_call_entry F.slot_tuple_iterator_next hit.typeIs F.entry_tuple_iterator_next ?_ (F.args_tuple_iterator_next_1 _)))
  show wpAny _ _ (field (.ref it) 0 >>= _) _ _ s
  refine wpAny_bind (wpAny_field ho hd (x := .ref t) rfl ?_)
  show wpAny _ _ (if (Value.ref t == Value.none) = true then _ else _) _ _ s
  rw [if_neg (show ¬ ((Value.ref t == Value.none) = true) from Bool.false_ne_true)]
  show wpAny _ _ (field (.ref it) 1 >>= _) _ _ s
  refine wpAny_bind (wpAny_field ho hd (x := .int i 0) rfl ?_)
  show wpAny _ _ (seqItems? (.ref t) >>= _) _ _ s
  refine wpAny_bind (wpAny_seqItems hot hdt ?_)
  simp only [Int.toNat_natCast, hx]
  refine wpAny_bind (wpAny_rule (wpAny_bind (wpAny_setField ho hd (by simp) ?_)))
  show wpAny _ _ (newExc (.type "StopIteration") [] >>= _) _ _ _
  refine wpAny_bind ?_
  simp only [newExc, newTuple]
  refine wpAny_bind (wpAny_newObj_type ?_ (by size_fits))
  refine wpAny_bind (m := firstArgMember _ _) (wpAny_of_eq (a := Value.none) (by first | rfl | (simp only [firstArgMember]; rfl)) ?_)
  refine wpAny_newObj_type ?_ (by size_fits)
  simp only [raiseNew]
  refine wpAny_bind (wpAny_handled ?_)
  first | rw [show A.in1.handled = none from hh] | rw [hh]
  refine wpAny_bind (wpAny_pure (wpAny_throw ?_))
  exact hE _ _ (((Heap.SameBut.update ..).extBut.push _).push _) ⟨_, Heap.get?_push_size _ rfl, rfl⟩
end
theorem tup_at {h h' : Heap} {a : Addr} {items : Array Value} (x : h.IsTuple a items) (hk : ∀ o, h.get? a = some o → h'.get? a = some o) : h'.IsTuple a items := let ⟨o, ho, r⟩ := x; ⟨o, hk o ho, r⟩
theorem tupIter_at {h h' : Heap} {a t : Addr} {i : Nat} (x : h.IsTupleIter a t i) (hk : ∀ o, h.get? a = some o → h'.get? a = some o) : h'.IsTupleIter a t i := let ⟨o, ho, r⟩ := x; ⟨o, hk o ho, r⟩
theorem tupDraws {prog : Program} {w : World} {A : Around} (hh : A.handled = none) (it t : Addr) (hne : t ≠ it) (items : Array Value) :
    Draws prog w A it [it, t] items.size (fun i v => items[i]? = some v) (fun i h => h.IsTupleIter it t i ∧ h.IsTuple t items) where
  live := fun _ _ st => let ⟨o, ho, _⟩ := st.1; ⟨o, ho⟩
  frame := fun _ _ _ st hk => ⟨tupIter_at st.1 fun o e => hk it (by simp) o e, tup_at st.2 fun o e => hk t (by simp) o e⟩
  item := fun i s Q E hi st hQ => by
    refine draw_item st.1 st.2 (x := items[i]) (by simp [hi]) fun h' hit' hs' => ?_
    exact hQ _ h' s.toks (by simp [hi]) ⟨hit', st.2.extBut hs'.extBut hne⟩ hs'
  done := fun s Q E st hE => draw_end hh st.1 st.2 (by simp) hE

/-- a zip's five objects and what its sources draw from lie apart -/
structure ZA (z TI TO i1 i2 : Addr) (fp1 fp2 : List Addr) : Prop where
  TIz : TI ≠ z
  TOz : TO ≠ z
  i1z : i1 ≠ z
  i2z : i2 ≠ z
  TITO : TI ≠ TO
  TIi1 : TI ≠ i1
  TIi2 : TI ≠ i2
  TOi1 : TO ≠ i1
  TOi2 : TO ≠ i2
  i12 : i1 ≠ i2
  z1 : z ∉ fp1
  z2 : z ∉ fp2
  o1 : TO ∉ fp1
  o2 : TO ∉ fp2
  a21 : i2 ∉ fp1
  a12 : i1 ∉ fp2

section
variable {prog : Program} {w : World} {A : Around} {E : Value → Shared → Prop} {s : Shared} {z TI TO i1 i2 : Addr} {fp1 fp2 : List Addr} {n1 n2 k : Nat} {P1 P2 : Nat → Value → Prop} {St1 St2 : Nat → Heap → Prop} {a b : Value}
theorem zip_one {Q : Value → Shared → Prop} (D1 : Draws prog w A i1 fp1 n1 P1 St1) (D2 : Draws prog w A i2 fp2 n2 P2 St2) (Z : ZA z TI TO i1 i2 fp1 fp2)
    (hz : IsZip s.heap z TI TO .none) (hTI : IsPair s.heap TI (.ref i1) (.ref i2)) (hTO : IsPair s.heap TO a b) (h1 : St1 k s.heap) (h2 : St2 k s.heap) (lt1 : k < n1) (lt2 : k < n2)
    (hQ : ∀ x y h' tk, P1 k x → P2 k y → IsZip h' z TI TO (rawInt s.heap.objs.size) → IsPair h' TO x y → St1 (k + 1) h' → St2 (k + 1) h' → IsPair h' s.heap.objs.size x y → h'.objs.size = s.heap.objs.size + 1 →
      (∀ c o, c ≠ z → c ≠ TO → c ≠ i1 → c ≠ i2 → s.heap.get? c = some o → h'.get? c = some o) → Q (.ref s.heap.objs.size) { s with heap := h', toks := tk }) :
    wpAny (model prog w) A (Builtin.«zip.__next__» ⟨[.ref z], []⟩) (fun fin s' => ∃ v, fin = .done (.ret v) ∧ Q v s') E s := by
  obtain ⟨hp, g, dr, tk₀, os⟩ := s
  show wpAny _ _ (field (.ref z) 2 >>= _) _ _ _
  refine wpAny_bind (wpAny_field hz rfl (x := .bool false) rfl ?_)
  show wpAny _ _ (field (.ref z) 3 >>= _) _ _ _
  refine wpAny_bind (wpAny_field hz rfl (x := .ref TI) rfl ?_)
  refine wpAny_bind (wpAny_seqItems hTI rfl ?_)
  show wpAny _ _ (Builtin.SmallTypes.ownedTupleIsFree (.ref z) >>= _) _ _ _
  refine wpAny_bind ?_
  unfold Builtin.SmallTypes.ownedTupleIsFree
  refine wpAny_bind (wpAny_field hz rfl (x := .none) rfl (wpAny_pure ?_))
  simp only [if_true]
  refine wpAny_bind (wpAny_rule ?_)
  refine wpAny_bind (wpAny_field hz rfl (x := .ref TO) rfl ?_)
  refine wpAny_bind (wpAny_setField_rec hz (by simp) fun h₁ hz₁ hs₁ => ?_)
  replace hz₁ : IsZip h₁ z TI TO .ellipsis := hz₁
  replace hs₁ : Heap.SameBut z hp h₁ := hs₁
  refine wpAny_bind ?_
  simp only [List.zipIdx_cons, List.zipIdx_nil, List.forIn_cons, List.forIn_nil]
  refine wpAny_bind (wpAny_bind (wpAny_onRaise ?_))
  show wpAny _ _ (Builtin.SmallTypes.nextOf (.ref i1) >>= _) _ _ _
  have h1₁ : St1 k h₁ := D1.frame _ _ _ h1 fun c hc o e => hs₁.extBut c o (fun q => Z.z1 (q ▸ hc)) e
  have h2₁ : St2 k h₁ := D2.frame _ _ _ h2 fun c hc o e => hs₁.extBut c o (fun q => Z.z2 (q ▸ hc)) e
  refine wpAny_bind (D1.item k _ _ _ lt1 h1₁ fun x h₂ tk₂ hx st1₂ hs₂ => wpAny_pure ?_)
  replace hs₂ : Heap.SameBut i1 h₁ h₂ := hs₂
  have hTO₂ : IsPair h₂ TO a b := hs₂.extBut _ _ Z.TOi1 (hs₁.extBut _ _ Z.TOz hTO)
  refine wpAny_bind (wpAny_seqItems hTO₂ rfl ?_)
  refine wpAny_bind (wpAny_updateSeq_pair hTO₂ fun h₃ hTO₃ hs₃ => ?_)
  replace hTO₃ : IsPair h₃ TO x b := hTO₃
  replace hs₃ : Heap.SameBut TO h₂ h₃ := hs₃
  refine wpAny_bind (wpAny_letGo (wpAny_pure ?_))
  refine wpAny_bind (wpAny_bind (wpAny_onRaise ?_))
  show wpAny _ _ (Builtin.SmallTypes.nextOf (.ref i2) >>= _) _ _ _
  have h2₃ : St2 k h₃ := D2.frame _ _ _ h2₁ fun c hc o e => hs₃.extBut c o (fun q => Z.o2 (q ▸ hc)) (hs₂.extBut c o (fun q => Z.a12 (q ▸ hc)) e)
  refine wpAny_bind (D2.item k _ _ _ lt2 h2₃ fun y h₄ tk₄ hy st2₄ hs₄ => wpAny_pure ?_)
  replace hs₄ : Heap.SameBut i2 h₃ h₄ := hs₄
  have hTO₄ : IsPair h₄ TO x b := hs₄.extBut _ _ Z.TOi2 hTO₃
  refine wpAny_bind (wpAny_seqItems hTO₄ rfl ?_)
  refine wpAny_bind (wpAny_updateSeq_pair hTO₄ fun h₅ hTO₅ hs₅ => ?_)
  replace hTO₅ : IsPair h₅ TO x y := hTO₅
  replace hs₅ : Heap.SameBut TO h₄ h₅ := hs₅
  refine wpAny_bind (wpAny_letGo (wpAny_pure (wpAny_pure ?_)))
  refine wpAny_bind (wpAny_seqItems hTO₅ rfl ?_)
  refine wpAny_bind (wpAny_newTuple ?_)
  have hsz : h₅.objs.size = hp.objs.size := by rw [hs₅.1, hs₄.1, hs₃.1, hs₂.1, hs₁.1]
  have hz₅ : IsZip h₅ z TI TO .ellipsis := hs₅.extBut _ _ Z.TOz.symm (hs₄.extBut _ _ Z.i2z.symm (hs₃.extBut _ _ Z.TOz.symm (hs₂.extBut _ _ Z.i1z.symm hz₁)))
  have hk₅ : ∀ c o, c ≠ z → c ≠ TO → c ≠ i1 → c ≠ i2 → hp.get? c = some o → h₅.get? c = some o := fun c o c1 c2 c3 c4 e =>
    hs₅.extBut _ _ c2 (hs₄.extBut _ _ c4 (hs₃.extBut _ _ c2 (hs₂.extBut _ _ c3 (hs₁.extBut _ _ c1 e))))
  have st1₅ : St1 (k + 1) h₅ := D1.frame _ _ _ st1₂ fun c hc o e => hs₅.extBut c o (fun q => Z.o1 (q ▸ hc)) (hs₄.extBut c o (fun q => Z.a21 (q ▸ hc)) (hs₃.extBut c o (fun q => Z.o1 (q ▸ hc)) e))
  have st2₅ : St2 (k + 1) h₅ := D2.frame _ _ _ st2₄ fun c hc o e => hs₅.extBut c o (fun q => Z.o2 (q ▸ hc)) e
  have hzlt : z < h₅.objs.size := Heap.lt_size hz₅
  show wpAny _ _ (Builtin.SmallTypes.ownedTupleHandOut (.ref z) (.ref h₅.objs.size) >>= _) _ _ _
  refine wpAny_bind ?_
  unfold Builtin.SmallTypes.ownedTupleHandOut
  have hz₆ : IsZip (h₅.push { cls := .type "tuple", data := .seq #[x, y] }) z TI TO .ellipsis := Heap.get?_push_of_some _ hz₅
  refine wpAny_bind (wpAny_setField_rec hz₆ (by simp) fun h₇ hz₇ hs₇ => ?_)
  replace hz₇ : IsZip h₇ z TI TO (rawInt h₅.objs.size) := hz₇
  refine wpAny_setField_rec hz₇ (by simp) fun h₈ hz₈ hs₈ => ?_
  replace hz₈ : IsZip h₈ z TI TO (rawInt h₅.objs.size) := hz₈
  have up : ∀ c o, c ≠ z → h₅.get? c = some o → h₈.get? c = some o := fun c o c1 e => hs₈.extBut _ _ c1 (hs₇.extBut _ _ c1 (Heap.get?_push_of_some _ e))
  have hT₈ : IsPair h₈ h₅.objs.size x y := hs₈.extBut _ _ (Nat.ne_of_gt hzlt) (hs₇.extBut _ _ (Nat.ne_of_gt hzlt) (Heap.get?_push_size _ rfl))
  have hz8 : h₈.objs.size = h₅.objs.size + 1 := by rw [hs₈.1, hs₇.1, Heap.size_push]
  rw [hsz] at hz₈ hT₈ hz8
  refine wpAny_pure ⟨_, rfl, ?_⟩
  show Q (.ref h₅.objs.size) _
  rw [hsz]
  exact hQ x y h₈ _ hx hy hz₈ (up _ _ Z.TOz hTO₅) (D1.frame _ _ _ st1₅ fun c hc o e => up c o (fun q => Z.z1 (q ▸ hc)) e) (D2.frame _ _ _ st2₅ fun c hc o e => up c o (fun q => Z.z2 (q ▸ hc)) e) hT₈ hz8
    fun c o c1 c2 c3 c4 e => up c o c1 (hk₅ c o c1 c2 c3 c4 e)
theorem zip_over {Q : Fin → Shared → Prop} (D1 : Draws prog w A i1 fp1 n1 P1 St1) (D2 : Draws prog w A i2 fp2 n2 P2 St2) (Z : ZA z TI TO i1 i2 fp1 fp2)
    (hz : IsZip s.heap z TI TO .none) (hTI : IsPair s.heap TI (.ref i1) (.ref i2)) (hTO : IsPair s.heap TO a b) (h1 : St1 k s.heap) (h2 : St2 k s.heap) (hend : k = n1 ∨ (k < n1 ∧ k = n2))
    (hE : ∀ h' e tk, (∀ c o, c ≠ z → c ≠ TO → c ≠ i1 → c ≠ i2 → s.heap.get? c = some o → h'.get? c = some o) → (∃ o, h'.get? e = some o ∧ o.cls = .type "StopIteration") → E (.ref e) { s with heap := h', toks := tk }) :
    wpAny (model prog w) A (Builtin.«zip.__next__» ⟨[.ref z], []⟩) Q E s := by
  obtain ⟨hp, g, dr, tk₀, os⟩ := s
  show wpAny _ _ (field (.ref z) 2 >>= _) _ _ _
  refine wpAny_bind (wpAny_field hz rfl (x := .bool false) rfl ?_)
  show wpAny _ _ (field (.ref z) 3 >>= _) _ _ _
  refine wpAny_bind (wpAny_field hz rfl (x := .ref TI) rfl ?_)
  refine wpAny_bind (wpAny_seqItems hTI rfl ?_)
  show wpAny _ _ (Builtin.SmallTypes.ownedTupleIsFree (.ref z) >>= _) _ _ _
  refine wpAny_bind ?_
  unfold Builtin.SmallTypes.ownedTupleIsFree
  refine wpAny_bind (wpAny_field hz rfl (x := .none) rfl (wpAny_pure ?_))
  simp only [if_true]
  refine wpAny_bind (wpAny_rule ?_)
  refine wpAny_bind (wpAny_field hz rfl (x := .ref TO) rfl ?_)
  refine wpAny_bind (wpAny_setField_rec hz (by simp) fun h₁ hz₁ hs₁ => ?_)
  replace hz₁ : IsZip h₁ z TI TO .ellipsis := hz₁
  replace hs₁ : Heap.SameBut z hp h₁ := hs₁
  refine wpAny_bind ?_
  simp only [List.zipIdx_cons, List.zipIdx_nil, List.forIn_cons, List.forIn_nil]
  refine wpAny_bind (wpAny_bind (wpAny_onRaise ?_))
  show wpAny _ _ (Builtin.SmallTypes.nextOf (.ref i1) >>= _) _ _ _
  have h1₁ : St1 k h₁ := D1.frame _ _ _ h1 fun c hc o e => hs₁.extBut c o (fun q => Z.z1 (q ▸ hc)) e
  have h2₁ : St2 k h₁ := D2.frame _ _ _ h2 fun c hc o e => hs₁.extBut c o (fun q => Z.z2 (q ▸ hc)) e
  rcases hend with rfl | ⟨lt1, rfl⟩
  · refine wpAny_bind (D1.done _ _ _ h1₁ fun h₂ e hs₂ he => ?_)
    replace hs₂ : Heap.ExtBut i1 h₁ h₂ := hs₂
    obtain ⟨oe, hoe, hce⟩ := he
    have hz₂ : IsZip h₂ z TI TO .ellipsis := hs₂ _ _ Z.i1z.symm hz₁
    have hez : e ≠ z := fun x => by subst x; rw [hz₂] at hoe; cases hoe; simp at hce
    refine wpAny_setField_rec hz₂ (by simp) fun h₃ _ hs₃ => hE h₃ e _ (fun c o c1 _ c3 _ x => hs₃.extBut _ _ c1 (hs₂ _ _ c3 (hs₁.extBut _ _ c1 x))) ⟨oe, hs₃.extBut _ _ hez hoe, hce⟩
  · refine wpAny_bind (D1.item k _ _ _ lt1 h1₁ fun x h₂ tk₂ hx st1₂ hs₂ => wpAny_pure ?_)
    replace hs₂ : Heap.SameBut i1 h₁ h₂ := hs₂
    have hTO₂ : IsPair h₂ TO a b := hs₂.extBut _ _ Z.TOi1 (hs₁.extBut _ _ Z.TOz hTO)
    refine wpAny_bind (wpAny_seqItems hTO₂ rfl ?_)
    refine wpAny_bind (wpAny_updateSeq_pair hTO₂ fun h₃ hTO₃ hs₃ => ?_)
    replace hs₃ : Heap.SameBut TO h₂ h₃ := hs₃
    refine wpAny_bind (wpAny_letGo (wpAny_pure ?_))
    refine wpAny_bind (wpAny_bind (wpAny_onRaise ?_))
    show wpAny _ _ (Builtin.SmallTypes.nextOf (.ref i2) >>= _) _ _ _
    have h2₃ : St2 k h₃ := D2.frame _ _ _ h2₁ fun c hc o e => hs₃.extBut c o (fun q => Z.o2 (q ▸ hc)) (hs₂.extBut c o (fun q => Z.a12 (q ▸ hc)) e)
    refine wpAny_bind (D2.done _ _ _ h2₃ fun h₄ e hs₄ he => ?_)
    replace hs₄ : Heap.ExtBut i2 h₃ h₄ := hs₄
    obtain ⟨oe, hoe, hce⟩ := he
    have hz₄ : IsZip h₄ z TI TO .ellipsis := hs₄ _ _ Z.i2z.symm (hs₃.extBut _ _ Z.TOz.symm (hs₂.extBut _ _ Z.i1z.symm hz₁))
    have hez : e ≠ z := fun x => by subst x; rw [hz₄] at hoe; cases hoe; simp at hce
    refine wpAny_setField_rec hz₄ (by simp) fun h₅ _ hs₅ => hE h₅ e _ (fun c o c1 c2 c3 c4 x => hs₅.extBut _ _ c1 (hs₄ _ _ c4 (hs₃.extBut _ _ c2 (hs₂.extBut _ _ c3 (hs₁.extBut _ _ c1 x))))) ⟨oe, hs₅.extBut _ _ hez hoe, hce⟩

theorem zip_walks (D1 : Draws prog w A.in1 i1 fp1 n1 P1 St1) (D2 : Draws prog w A.in1 i2 fp2 n2 P2 St2) (Z : ZA z TI TO i1 i2 fp1 fp2) (f1 : i1 ∈ fp1) (f2 : i2 ∈ fp2) :
    WalksT prog w A z (z :: TI :: TO :: (fp1 ++ fp2)) [z, TO, i1, i2] (min n1 n2)
      (fun i vals => ∃ x y, P1 i x ∧ P2 i y ∧ vals = #[x, y])
      (fun i h => IsZip h z TI TO .none ∧ IsPair h TI (.ref i1) (.ref i2) ∧ (∃ a b, IsPair h TO a b) ∧ St1 i h ∧ St2 i h)
      (fun i T h => IsZip h z TI TO (rawInt T) ∧ IsPair h TI (.ref i1) (.ref i2) ∧ (∃ a b, IsPair h TO a b) ∧ St1 (i + 1) h ∧ St2 (i + 1) h ∧ T ≠ z ∧ T ≠ TO ∧ T ≠ i1 ∧ T ≠ i2) where
  sub := fun c hc => by
    simp only [List.mem_cons, List.not_mem_nil, or_false] at hc
    rcases hc with rfl | rfl | rfl | rfl
    · exact .head _
    · exact .tail _ (.tail _ (.head _))
    · exact .tail _ (.tail _ (.tail _ (List.mem_append_left _ f1)))
    · exact .tail _ (.tail _ (.tail _ (List.mem_append_right _ f2)))
  frame := fun i h h' hst hk => by
    obtain ⟨hz, hTI, ⟨a, b, hTO⟩, h1, h2⟩ := hst
    exact ⟨hk z (by simp) _ hz, hk TI (by simp) _ hTI, ⟨a, b, hk TO (by simp) _ hTO⟩, D1.frame _ _ _ h1 fun c hc o e => hk c (by simp [hc]) o e, D2.frame _ _ _ h2 fun c hc o e => hk c (by simp [hc]) o e⟩
  item := fun i s Q E hi hst hQ => by
    obtain ⟨hz, hTI, ⟨a, b, hTO⟩, h1, h2⟩ := hst
    have hT : s.TypeIs (.ref z) "zip" := ⟨_, hz, rfl⟩
    have lt : ∀ {c o}, s.heap.get? c = some o → s.heap.objs.size ≠ c := fun e => Nat.ne_of_gt (Heap.lt_size e)
    unfold pyNext
    refine wpAny_bind (wpAny_attempt (wpAny_callSpecial?_slot (name := Str.ofString "__next__") hT F.slot_zip_next (wpAny_call_entry F.slot_zip_next hT F.entry_zip_next
      (zip_one D1 D2 Z hz hTI hTO h1 h2 (Nat.lt_of_lt_of_le hi (Nat.min_le_left ..)) (Nat.lt_of_lt_of_le hi (Nat.min_le_right ..)) fun x y h' tk hx hy a1 a2 a3 a4 a5 a6 hk => wpAny_pure ?_) (F.args_zip_next_1 _))))
    refine hQ s.heap.objs.size #[x, y] h' tk ⟨x, y, hx, hy, rfl⟩ (Nat.le_refl _) ⟨_, a5, rfl, _, rfl⟩
      ⟨a1, hk _ _ Z.TIz Z.TITO Z.TIi1 Z.TIi2 hTI, ⟨_, _, a2⟩, a3, a4, lt hz, lt hTO, (by obtain ⟨_, e⟩ := D1.live _ _ h1; exact lt e), (by obtain ⟨_, e⟩ := D2.live _ _ h2; exact lt e)⟩ ?_
    exact fun c o hc e => hk c o (fun x => hc (by simp [x])) (fun x => hc (by simp [x])) (fun x => hc (by simp [x])) (fun x => hc (by simp [x])) e
  go := fun elts k pos i T s Q E hm hQ => by
    obtain ⟨hz, hTI, ⟨a, b, hTO⟩, h1, h2, _⟩ := hm
    refine wpAny_letOwnedTupleGo_zip hz fun h' hz' hs' => hQ h' ⟨hz', hs'.extBut _ _ Z.TIz hTI, ⟨a, b, hs'.extBut _ _ Z.TOz hTO⟩, D1.frame _ _ _ h1 fun c hc o e => hs'.extBut c o (fun q => Z.z1 (q ▸ hc)) e,
      D2.frame _ _ _ h2 fun c hc o e => hs'.extBut c o (fun q => Z.z2 (q ▸ hc)) e⟩ fun c o hc e => hs'.extBut _ _ (fun x => hc (by simp [x])) e
  apart := fun i T h hm hT => by
    obtain ⟨_, _, _, _, _, t1, t2, t3, t4⟩ := hm
    simp only [List.mem_cons, List.not_mem_nil, or_false] at hT
    rcases hT with rfl | rfl | rfl | rfl
    · exact t1 rfl
    · exact t2 rfl
    · exact t3 rfl
    · exact t4 rfl
  done := fun s Q E hst hQ => by
    obtain ⟨hz, hTI, ⟨a, b, hTO⟩, h1, h2⟩ := hst
    have hT : s.TypeIs (.ref z) "zip" := ⟨_, hz, rfl⟩
    unfold pyNext
    refine wpAny_bind (wpAny_attempt (wpAny_callSpecial?_slot (name := Str.ofString "__next__") hT F.slot_zip_next (wpAny_call_entry F.slot_zip_next hT F.entry_zip_next
      (zip_over D1 D2 Z hz hTI hTO h1 h2 (by omega) fun h' e tk hk he => ?_) (F.args_zip_next_1 _))))
    obtain ⟨o, ho, hc⟩ := he
    refine wpAny_bind (wpAny_isInstance (T := "StopIteration") (b := true) ⟨o, ho, hc⟩ isSubtype_stop ?_)
    exact wpAny_pure (hQ _ tk fun c o hc e => hk c o (fun x => hc (by simp [x])) (fun x => hc (by simp [x])) (fun x => hc (by simp [x])) (fun x => hc (by simp [x])) e)
  self := fun i s Q E hst hQ => wpAny_pyIter_zip hst.1 hQ
end
end Mine
end
section
open PySem PySem.W PyProof.Rows PySem.Spec PySem.Calls
set_option linter.unusedVariables false
namespace Mine
abbrev zp1 (h : Heap) (l1 : Addr) : Heap := h.push { cls := .type "tuple_iterator", data := .fields #[.ref l1, .int 0 0] }
abbrev zp2 (h : Heap) (l1 l2 : Addr) : Heap := (zp1 h l1).push { cls := .type "tuple_iterator", data := .fields #[.ref l2, .int 0 0] }
abbrev zp3 (h : Heap) (l1 l2 : Addr) : Heap := (zp2 h l1 l2).push { cls := .type "tuple", data := .seq #[.ref h.objs.size, .ref (zp1 h l1).objs.size] }
abbrev zp4 (h : Heap) (l1 l2 : Addr) : Heap := (zp3 h l1 l2).push { cls := .type "tuple", data := .seq #[.none, .none] }
abbrev zp5 (h : Heap) (l1 l2 : Addr) : Heap := (zp4 h l1 l2).push { cls := .type "zip", data := .fields #[.none, .bool false, .bool false, .ref (zp2 h l1 l2).objs.size, .ref (zp3 h l1 l2).objs.size] }
theorem zip_new (l1 l2 : Addr) (xs ys : Array Value) :
    Meets (Builtin.«zip.__new__» ⟨[.type "zip", .ref l1, .ref l2], []⟩) (fun _ R s => s.heap.IsTuple l1 xs ∧ s.heap.IsTuple l2 ys ∧
      R (.ok (.ret (.ref (zp4 s.heap l1 l2).objs.size))) { s with heap := zp5 s.heap l1 l2 }) :=
  .of_wp fun prog w A R s h => by
    obtain ⟨hp, g, d, tk, os⟩ := s
    obtain ⟨hl1, hl2, h⟩ := h
    have hsub := sub_zip
    have hL1 : Heap.IsTuple (Shared.heap ⟨hp, g, d, tk, os⟩) l1 xs := hl1
    have hL2 : Heap.IsTuple (Shared.heap ⟨hp.push { cls := .type "tuple_iterator", data := .fields #[.ref l1, .int 0 0] }, g, d, tk, os⟩) l2 ys := Heap.IsTuple.push hl2 _
    wp_walk using wpAny_pyIter_tuple hL1, wpAny_pyIter_tuple hL2
    exact ⟨_, rfl, h⟩
section
variable {prog : Program} {w : World} {A : Around} {E : Value → Shared → Prop} {s : Shared}
theorem call_zipT {l1 l2 : Addr} {xs ys : Array Value} {Q : Value → Shared → Prop} (hl1 : s.heap.IsTuple l1 xs) (hl2 : s.heap.IsTuple l2 ys)
    (h : ∀ h', IsZip h' (s.heap.objs.size + 4) (s.heap.objs.size + 2) (s.heap.objs.size + 3) .none → IsPair h' (s.heap.objs.size + 2) (.ref s.heap.objs.size) (.ref (s.heap.objs.size + 1)) →
      IsPair h' (s.heap.objs.size + 3) .none .none → h'.IsTupleIter s.heap.objs.size l1 0 → h'.IsTupleIter (s.heap.objs.size + 1) l2 0 →
      (∀ c o, s.heap.get? c = some o → h'.get? c = some o) → Q (.ref (s.heap.objs.size + 4)) { s with heap := h' }) :
    wpAny (model prog w) A (call (.type "zip") [.ref l1, .ref l2]) Q E s := by
  refine callType_new F.called_zip (by decide) (F.typeCall_zip_2 _ _) (F.newCall_zip_2 _ _) (fun obj => F.args_object_init_3 obj _ _) F.entry_zip_new (zip_new l1 l2 xs ys) ⟨hl1, hl2, ?_⟩
  have z1 : (zp1 s.heap l1).objs.size = s.heap.objs.size + 1 := Heap.size_push ..
  have z2 : (zp2 s.heap l1 l2).objs.size = s.heap.objs.size + 2 := by rw [Heap.size_push, z1]
  have z3 : (zp3 s.heap l1 l2).objs.size = s.heap.objs.size + 3 := by rw [Heap.size_push, z2]
  have z4 : (zp4 s.heap l1 l2).objs.size = s.heap.objs.size + 4 := by rw [Heap.size_push, z3]
  have g5 : (zp5 s.heap l1 l2).get? (zp4 s.heap l1 l2).objs.size = some _ := Heap.get?_push_size _ rfl
  have g4 : (zp5 s.heap l1 l2).get? (zp3 s.heap l1 l2).objs.size = some _ := Heap.get?_push_of_some _ (Heap.get?_push_size _ rfl)
  have g3 : (zp5 s.heap l1 l2).get? (zp2 s.heap l1 l2).objs.size = some _ := Heap.get?_push_of_some _ (Heap.get?_push_of_some _ (Heap.get?_push_size _ rfl))
  have g2 : (zp5 s.heap l1 l2).get? (zp1 s.heap l1).objs.size = some _ := Heap.get?_push_of_some _ (Heap.get?_push_of_some _ (Heap.get?_push_of_some _ (Heap.get?_push_size _ rfl)))
  have g1 : (zp5 s.heap l1 l2).get? s.heap.objs.size = some _ := Heap.get?_push_of_some _ (Heap.get?_push_of_some _ (Heap.get?_push_of_some _ (Heap.get?_push_of_some _ (Heap.get?_push_size _ rfl))))
  show _ ∧ _
  rw [z2, z3, z4] at g5
  rw [z1, z2] at g3
  rw [z3] at g4
  rw [z1] at g2
  rw [z4]
  exact ⟨⟨_, g5, rfl⟩, h _ g5 g3 g4 ⟨_, g1, rfl, rfl⟩ ⟨_, g2, rfl, rfl⟩ fun c o x =>
    Heap.get?_push_of_some _ (Heap.get?_push_of_some _ (Heap.get?_push_of_some _ (Heap.get?_push_of_some _ (Heap.get?_push_of_some _ x))))⟩
end
end Mine
end
section
open PySem PySem.W PyProof.Rows PySem.Spec PySem.Calls
set_option linter.unusedVariables false
namespace Mine
abbrev tupO (xs : Array Value) (n : Nat) : Obj := { cls := .type "tuple", data := .seq xs n }
/-- the end of a turn of a loop over a zip -/
def ZipEnd (h₀ : Heap) (L : Addr) (news : List (Addr × Obj)) (m : Str → Option Value) (xi xc : Str) (K : Prop) (s : Shared) (Q : Flow → Shared → Prop) (f : Flow) (s' : Shared) : Prop :=
  match f with
  | .ret v => Q (.ret v) s'
  | .brk => Q .next s'
  | _ => ∃ h' tk m', s' = { s with heap := h', toks := tk } ∧ Fr h₀ L h' m' ∧ News h₀ L h' news ∧ (∀ y, y ≠ xc → y ≠ xi → m' y = m y) ∧ K
section
variable {prog : Program} {w : World} {A : Around} {E : Value → Shared → Prop} {s : Shared} {env : Env} {h₀ : Heap} {m : Str → Option Value} {news : List (Addr × Obj)}
theorem zip_src {t1 t2 : Addr} {xs ys : List Value} {n1 n2 : Nat} {xi xc : Str} {body : List Stmt} {Q : Flow → Shared → Prop} (K : Nat → Prop) (hh : A.handled = none) (F : Fr h₀ env.locals s.heap m) (N : News h₀ env.locals s.heap news)
    (m1 : (t1, tupO xs.toArray n1) ∈ news) (m2 : (t2, tupO ys.toArray n2) ∈ news) (k0 : K 0)
    (turn : ∀ i v0 v1 h tk own, xs[i]? = some v0 → ys[i]? = some v1 → K i → Fr h₀ env.locals h (fun y => if y = xc then some v1 else if y = xi then some v0 else m y) → News h₀ env.locals h (own ++ news) →
      wpAny (model prog w) A (execs body env) (ZipEnd h₀ env.locals (own ++ news) m xi xc (K (i + 1)) s Q) E { s with heap := h, toks := tk })
    (done : ∀ h' tk m', Fr h₀ env.locals h' m' → News h₀ env.locals h' news → (∀ y, y ≠ xc → y ≠ xi → m' y = m y) → K (min xs.length ys.length) → Q .next { s with heap := h', toks := tk }) :
    wpAny (model prog w) A (call (.type "zip") [.ref t1, .ref t2]) (fun xv s₁ => wpAny (model prog w) A (pyIter xv) (fun it s₂ => PairAt3 prog w A h₀ env xi xc body Q E it s₂) E s₁) E s := by
  have g1 := (N _ m1).1
  have g2 := (N _ m2).1
  have ht1 : s.heap.IsTuple t1 xs.toArray := ⟨_, g1, rfl, n1, rfl⟩
  have ht2 : s.heap.IsTuple t2 ys.toArray := ⟨_, g2, rfl, n2, rfl⟩
  have l1 : t1 < s.heap.objs.size := Heap.lt_size g1
  have l2 : t2 < s.heap.objs.size := Heap.lt_size g2
  have lL : env.locals < s.heap.objs.size := F.ns.lt
  refine call_zipT ht1 ht2 fun h' hz hTI hTO hi1 hi2 hk => ?_
  refine wpAny_pyIter_zip hz ?_
  generalize hb : s.heap.objs.size = b at *
  have l1' : @LT.lt Nat _ t1 b := l1
  have l2' : @LT.lt Nat _ t2 b := l2
  have Z : ZA (b + 4) (b + 2) (b + 3) b (b + 1) [b, t1] [b + 1, t2] := by
    constructor <;> simp only [List.mem_cons, List.not_mem_nil, or_false, not_or, ne_eq] <;> (try (refine ⟨?_, ?_⟩)) <;> (intro q; have q' : (_ : Nat) = _ := q; omega)
  refine ⟨b + 4, _, _, _, _, _, _, fun i v0 v1 => xs[i]? = some v0 ∧ ys[i]? = some v1, m, news, fun i m₁ nx => nx = news ∧ (∀ y, y ≠ xc → y ≠ xi → m₁ y = m y) ∧ K i, rfl,
    zip_walks (tupDraws (A := A.in1) hh b t1 (Nat.ne_of_lt l1) xs.toArray) (tupDraws (A := A.in1) hh (b + 1) t2 (Nat.ne_of_lt (Nat.lt_succ_of_lt l2)) ys.toArray) Z (.head _) (.head _), ?_, ?_, ?_, ?_,
    ⟨hz, hTI, ⟨_, _, hTO⟩, ⟨hi1, tup_at ht1 fun o e => hk _ o e⟩, ⟨hi2, tup_at ht2 fun o e => hk _ o e⟩⟩, F.keeps hk, fun p hp => ⟨hk _ _ (N p hp).1, (N p hp).2⟩, ⟨rfl, fun _ _ _ => rfl, k0⟩, ?_, ?_⟩
  · rintro i vals ⟨x, y, hx, hy, rfl⟩
    exact ⟨x, y, rfl, by simpa using hx, by simpa using hy⟩
  · intro hm
    simp only [List.mem_cons, List.mem_append, List.not_mem_nil, or_false] at hm
    have e1 : env.locals ≠ t1 := fun q => (N _ m1).2.1 q.symm
    have e2 : env.locals ≠ t2 := fun q => (N _ m2).2.1 q.symm
    have up : ∀ k, env.locals ≠ b + k := fun k q => Nat.ne_of_lt (Nat.lt_of_lt_of_le lL (Nat.le_add_right _ k)) q
    rcases hm with e | e | e | (e | e) | (e | e)
    · exact up 4 e
    · exact up 2 e
    · exact up 3 e
    · exact up 0 e
    · exact e1 e
    · exact up 1 e
    · exact e2 e
  · intro c hc
    simp only [List.mem_cons, List.not_mem_nil, or_false] at hc
    have nw : ∀ k, h₀.get? (b + k) = none := fun k => Heap.get?_none_of_le (Nat.le_trans F.above (Nat.le_trans (Nat.le_of_lt lL) (Nat.le_add_right _ k)))
    rcases hc with rfl | rfl | rfl | rfl
    · exact nw 4
    · exact nw 3
    · exact nw 0
    · exact nw 1
  · intro p hp hm
    have hq : p.1 < b := hb ▸ Heap.lt_size (N p hp).1
    simp only [List.mem_cons, List.not_mem_nil, or_false] at hm
    have dn : ∀ k, p.1 ≠ b + k := fun k e => Nat.ne_of_lt (Nat.lt_of_lt_of_le hq (Nat.le_add_right _ k)) e
    rcases hm with e | e | e | e
    · exact dn 4 e
    · exact dn 3 e
    · exact dn 0 e
    · exact dn 1 e
  · rintro i v0 v1 m₁ news₁ s₁ own ⟨h, tk, rfl⟩ _ ⟨hx, hy⟩ ⟨rfl, hm, hK⟩ _ _ F₁ N₁
    have e : (fun y => if y = xc then some v1 else if y = xi then some v0 else m₁ y) = fun y => if y = xc then some v1 else if y = xi then some v0 else m y := by
      funext y
      by_cases c1 : y = xc
      · simp [c1]
      · by_cases c2 : y = xi
        · simp [c1, c2]
        · simp [c1, c2, hm y c1 c2]
    rw [e] at F₁
    refine wpAny_mono (turn i v0 v1 h tk own hx hy hK F₁ N₁) (fun f s₂ p => ?_) fun _ _ e => e
    have fin : (∃ h' tk m', s₂ = { s with heap := h', toks := tk } ∧ Fr h₀ env.locals h' m' ∧ News h₀ env.locals h' (own ++ news₁) ∧ (∀ y, y ≠ xc → y ≠ xi → m' y = m y) ∧ K (i + 1)) →
        LoopStep2 h₀ env.locals own news₁ (fun m₁ nx => nx = news₁ ∧ (∀ y, y ≠ xc → y ≠ xi → m₁ y = m y) ∧ K (i + 1)) { s with heap := h, toks := tk } .next s₂ := by
      rintro ⟨h', tk', m', e, F', N', hm', hK'⟩
      exact ⟨rfl, h', tk', m', news₁, e, F', N', rfl, rfl, hm', hK'⟩
    cases f with
    | ret v => exact p
    | brk => exact p
    | next => exact fin p
    | cont => exact fin p
  · rintro h' tk m' news' F' N' _ ⟨rfl, hm, hK⟩
    refine done h' tk m' F' N' hm ?_
    simpa using hK
end
end Mine
end
section
local macro_rules | `(tactic| walk_at "own pad") => `(tactic| fail)
local macro_rules | `(tactic| walk_at "own pad") => `(tactic| fail)
local macro_rules | `(tactic| walk_at "own pad") => `(tactic| fail)
local macro_rules | `(tactic| walk_at "own pad") => `(tactic| fail)
local macro_rules | `(tactic| walk_at "own pad") => `(tactic| fail)
local macro_rules | `(tactic| walk_at "own pad") => `(tactic| fail)
local macro_rules | `(tactic| walk_at "own pad") => `(tactic| fail)
local macro_rules | `(tactic| walk_at "own pad") => `(tactic| fail)
local macro_rules | `(tactic| walk_at "own pad") => `(tactic| fail)
local macro_rules | `(tactic| walk_at "own pad") => `(tactic| fail)
local macro_rules | `(tactic| walk_at "own pad") => `(tactic| fail)
local macro_rules | `(tactic| walk_at "own pad") => `(tactic| fail)
open PySem PySem.W PyProof.Rows PySem.Spec PySem.Calls
set_option pp.maxSteps 600
set_option linter.unusedVariables false
namespace Mine
section
local macro_rules | `(tactic| k_all) => `(tactic| first | assumption | exact List.forall_mem_append.mpr ⟨by k_all, by k_all⟩ | exact List.forall_mem_cons.mpr ⟨by (refine neN ?_; (try dsimp only); omega), by k_all⟩)
local macro_rules | `(tactic| k_mem) => `(tactic| first | (with_reducible assumption) | (with_reducible exact List.mem_cons_self) | (with_reducible refine List.mem_append_left _ ?_; k_mem) | (with_reducible refine List.mem_append_right _ ?_; k_mem) | (with_reducible refine List.mem_cons_of_mem _ ?_; k_mem))
local macro_rules | `(tactic| k_memK) => `(tactic| first | (with_reducible assumption) | (with_reducible exact List.mem_cons_self) | (with_reducible refine List.mem_append_left _ ?_; k_memK) | (with_reducible refine List.mem_append_right _ ?_; k_memK) | (with_reducible refine List.mem_cons_of_mem _ ?_; k_memK))
local macro_rules | `(tactic| news_mem) => `(tactic| k_mem)
set_option maxRecDepth 100000 in
set_option maxHeartbeats 8000000 in
theorem may_call {w : World} {dp un : Nat} {gd : Option (List Code)} {cn : Str} {cs : Scope} {fa : Addr} {ccd : Value} {cl : List (Str × Addr)} {outer : List Env} {A₀ : Around} {base h₀ : Heap} {L : Addr} {m : Str → Option Value} {mean : ExcName → Option Value} {mg mb : Str → Option Value}
    {s : Shared} {Q E : Value → Shared → Prop}
    {news dat : List (Addr × Obj)} {v1 v2 : Value} {sts1 sts2 : List St}
    (B : Below A₀ base outer h₀) (F : Fr h₀ L s.heap m) (X : (hd.heap_39 w.params).In h₀) (N₀ : News h₀ L s.heap news) (T : TopN mean mg mb h₀) (hk : cs.kind = .function)
    (hdat : ∀ p ∈ dat, p ∈ news) (h1 : DatIn dat v1 (.tuple (sts1.map St.enc))) (h2 : DatIn dat v2 (.tuple (sts2.map St.enc)))
    (hdp : dp + 4 < recursionLimit) (hun : un + 8 * 4 < cLine)
    (hret : ∀ (h' : Heap) (tk' : Nat), Fr h₀ L h' m → News h₀ L h' news → Q (.bool (mayB sts1 sts2)) { s with heap := h', toks := tk' }) :
    wpAny (model Challenge.rw_nz0122_01.row.prog w) (ktrTop dp un gd cn cs L fa ccd cl outer) (call (.ref 28) [v1, v2]) Q E s := by
  have N := N₀
  clear N₀
  obtain ⟨t1, vs1, n1, rfl, g1, Da1⟩ := dat_tup h1
  obtain ⟨t2, vs2, n2, rfl, g2, Da2⟩ := dat_tup h2
  have m1 := hdat _ g1
  have m2 := hdat _ g2
  clear h1 h2 g1 g2
  w_on
  w_strict (
  k_with_none
  revert X; k_fill; intro X
  refine wpAny_call ?_
  k_dflt ktr_enter
  k_with_none
  k_with "exec For Tuple Call cons nil" => (refine Stop.out ?_)
  k_with "call ref" => (k_here; k_dflt (refine' meets_call (st1 := st1) (st2 := st2) ?kB ?kF ?kX ?kN ?kT ?kk ?kh ?k1 ?k2 ?kd ?ku ?_; (case kB => k_asm); (case kF => k_asm); (case kX => k_asm); (case kN => k_asm); (case kT => k_asm); (case kk => (first | exact rfl | assumption)); (case k1 => exact hd1); (case k2 => exact hd2); (case kh => exact fun p hp => List.mem_append_right _ (hdat p hp)); (case kd => ktr_room); (case ku => ktr_units)); intro h' tk' F' N'; (try dsimp only); (try k_fold))
  k_with "call type:zip" => (k_here; with_unfolding_all (refine' zip_src (fun i => ∀ (j : Nat) a b, j < i → sts1[j]? = some a → sts2[j]? = some b → meetsB a b = true) ?zh ?zF ?zN ?z1 ?z2 ?z0 ?zt ?zd; (case zh => rfl); (case zF => k_asm); (case zN => k_asm); (case z1 => k_mem); (case z2 => k_mem); (case z0 => exact fun j a b hj => absurd hj (Nat.not_lt_zero _)); (case' zt => (intro i v0 v1 h' tk' own hx hy hK F' N'; (obtain ⟨st1, e1, hd1⟩ := dat_at Da1 hx); (obtain ⟨st2, e2, hd2⟩ := dat_at Da2 hy); (try k_fold))); (case' zd => (intro h' tk' m' F' N' hm' hK'; (try dsimp only)))))
  k_steps
  refine Stop.intro ?_
  rename Fr _ _ _ _ => lF
  refine' For_pair3F lF ?hh ?hxi ?hxc ?hp ?h ?hs ?hE
  case hh => rfl
  case hxi => rfl
  case hxc => rfl
  case hp => rfl
  case hs => (intro _; rfl)
  case hE => with_unfolding_all passes_own
  case h =>
    k_steps
    · have e : mayB sts1 sts2 = true := by
        refine mayB_true fun j a b ha hb => hK' j a b ?_ ha hb
        have l1 := Da1.length
        have l2 := Da2.length
        rw [List.length_map] at l1 l2
        have q1 := (List.getElem?_eq_some_iff.mp ha).1
        have q2 := (List.getElem?_eq_some_iff.mp hb).1
        omega
      rename Fr h₀ L _ _ => kF
      rename News h₀ L _ _ => kN
      exact e ▸ hret _ _ kF kN
    · rename meetsB st1 st2 = true => hmt
      unfold ZipEnd
      dsimp only
      refine ⟨h', tk', _, rfl, F', N', ?_, ?_⟩
      · intro y c1 c2
        show (if _ then _ else if _ then _ else _) = _
        rw [if_neg c1, if_neg c2]
      · intro j a b hj ha hb
        rcases Nat.lt_or_ge j i with hlt | hge
        · exact hK j a b hlt ha hb
        · have : j = i := by omega
          subst this
          rw [e1] at ha
          rw [e2] at hb
          cases ha
          cases hb
          exact hmt
    · rename meetsB st1 st2 = false => hmt
      dsimp only
      k_steps
      unfold ZipEnd
      dsimp only
      k_steps
      rename Fr h₀ L _ _ => kF
      rename News h₀ L _ _ => kN
      exact mayB_false i e1 e2 hmt ▸ hret _ _ kF (news_sub kN (fun p hp => List.mem_append_right _ hp)))
end
end Mine
end
section
open PySem PySem.W PyProof.Rows PySem.Spec PySem.Calls
set_option linter.unusedVariables false
namespace Mine
inductive PartN : Value → Option Nat → Prop
  | none : PartN .none none
  | int (a : Nat) (t : Tok) : PartN (.int (a : Int) t) (some a)
def cutL {α : Type} (lo hi : Option Nat) (l : List α) : List α := (l.take (hi.getD l.length)).drop (lo.getD 0)
def loN (lo : Option Nat) (n : Nat) : Nat := min (lo.getD 0) n
def hiN (hi : Option Nat) (n : Nat) : Nat := min (hi.getD n) n
theorem adjustN (lo hi : Option Nat) (n : Nat) : Builtin.Slice.sliceAdjust (lo.map fun (a : Nat) => (a : Int)) (hi.map fun (a : Nat) => (a : Int)) 1 (n : Int) = ((loN lo n : Int), (hiN hi n : Int)) := by
  unfold Builtin.Slice.sliceAdjust loN hiN
  have h1 : ¬ ((1 : Int) < 0) := by omega
  simp only [h1, if_false]
  refine Prod.ext ?_ ?_
  · cases lo with
    | none => simp
    | some a =>
      have h2 : ¬ ((a : Int) < 0) := by omega
      simp only [Option.map_some, h2, if_false, Option.getD_some]
      omega
  · cases hi with
    | none => simp
    | some a =>
      have h2 : ¬ ((a : Int) < 0) := by omega
      simp only [Option.map_some, h2, if_false, Option.getD_some]
      omega
theorem placesN (l h : Nat) : Builtin.Slice.slicePlaces (l : Int) (h : Int) 1 = h - l := by
  unfold Builtin.Slice.slicePlaces
  have h1 : (1 : Int) > 0 := by omega
  simp only [h1, if_true, Int.ediv_one]
  split <;> omega
theorem pickN (xs : Array Value) (lo hi : Option Nat) : ((List.range (hiN hi xs.size - loN lo xs.size)).filterMap fun (k : Nat) => xs[((loN lo xs.size : Int) + (k : Int) * 1).toNat]?).toArray = (cutL lo hi xs.toList).toArray := by
  have e : (fun (k : Nat) => xs[((loN lo xs.size : Int) + (k : Int) * 1).toNat]?) = (fun x => xs[x]?) ∘ fun x => loN lo xs.size + x := by
    funext k
    have : ((loN lo xs.size : Int) + (k : Int) * 1).toNat = loN lo xs.size + k := by omega
    simp only [this, Function.comp]
  rw [e, ← List.filterMap_map, pick_run]
  congr 1
  unfold cutL loN hiN
  rw [Array.length_toList]
  apply List.ext_getElem?
  intro i
  simp only [List.getElem?_take, List.getElem?_drop]
  by_cases h : i < min (hi.getD xs.size) xs.size - min (lo.getD 0) xs.size
  · rw [if_pos h]
    have e1 : min (lo.getD 0) xs.size + i = lo.getD 0 + i := by omega
    rw [e1, if_pos (by omega)]
  · rw [if_neg h]
    by_cases h2 : lo.getD 0 + i < hi.getD xs.size
    · rw [if_pos h2]
      exact (List.getElem?_eq_none (by rw [Array.length_toList]; omega)).symm
    · rw [if_neg h2]
theorem cut_whole (xs : Array Value) (lo hi : Option Nat) (h : loN lo xs.size = 0) (h2 : hiN hi xs.size - loN lo xs.size = xs.size) : (cutL lo hi xs.toList).toArray = xs := by
  rw [← pickN, h2, h]
  have e : (fun (k : Nat) => xs[(((0 : Nat) : Int) + (k : Int) * 1).toNat]?) = fun k => xs[k]? := by
    funext k
    have : (((0 : Nat) : Int) + (k : Int) * 1).toNat = k := by omega
    rw [this]
  rw [e]
  have e2 : List.filterMap (fun k => xs[k]?) (List.range xs.size) = xs.toList := by
    have := pick_run xs 0 xs.size
    rw [List.drop_zero, List.take_of_length_le (by simp)] at this
    simpa using this
  rw [e2]
section
variable {prog : Program} {w : World} {A : Around} {E : Value → Shared → Prop} {s : Shared}
theorem part_ix {v : Value} {o : Option Nat} {Q : Option Int → Shared → Prop} (h : PartN v o) (q : Q (o.map fun (a : Nat) => (a : Int)) s) : wpAny (model prog w) A (Builtin.Slice.slicePartIndex v) Q E s := by
  cases h with
  | none => exact slicePart_none q
  | int a t => exact slicePart_int q
theorem part_here {v : Value} {o : Option Nat} (h : PartN v o) : True := trivial
theorem appliedN {sl : Addr} {n : Nat} {vl vu : Value} {lo hi : Option Nat} {Q : Int × Int × Nat → Shared → Prop} (hs : s.heap.IsSliceOf sl vl vu .none) (pl : PartN vl lo) (pu : PartN vu hi) (h : Q ((loN lo n : Int), 1, hiN hi n - loN lo n) s) :
    wpAny (model prog w) A (Builtin.Slice.sliceApplied (.ref sl) (pure (n : Int))) Q E s := by
  obtain ⟨os, hos, hcs, hds⟩ := id hs
  unfold Builtin.Slice.sliceApplied Builtin.Slice.sliceFields
  refine wpAny_bind (wpAny_bind (wpAny_field hos hds (x := vl) rfl (wpAny_bind (wpAny_field hos hds (x := vu) rfl (wpAny_bind (wpAny_field hos hds (x := .none) rfl (wpAny_pure ?_)))))))
  refine wpAny_bind (slicePart_none ?_)
  show wpAny _ _ (if ((1 : Int) == 0) = true then _ else _) _ _ s
  rw [if_neg (by decide)]
  refine wpAny_bind (part_ix pl (wpAny_bind (part_ix pu (wpAny_bind (wpAny_pure ?_)))))
  show wpAny _ _ (match Builtin.Slice.sliceAdjust (lo.map fun (a : Nat) => (a : Int)) (hi.map fun (a : Nat) => (a : Int)) 1 (n : Int) with | (lo, hi) => pure (lo, (1 : Int), Builtin.Slice.slicePlaces lo hi 1)) _ _ s
  rw [adjustN]
  show wpAny _ _ (pure ((loN lo n : Int), (1 : Int), Builtin.Slice.slicePlaces (loN lo n : Int) (hiN hi n : Int) 1)) _ _ s
  rw [placesN]
  exact wpAny_pure h
theorem getItemN {t sl : Addr} {items : Array Value} {vl vu : Value} {lo hi : Option Nat} {Q : Value → Shared → Prop} (ht : IsTup s.heap t items) (hs : s.heap.IsSliceOf sl vl vu .none) (pl : PartN vl lo) (pu : PartN vu hi)
    (h0 : (cutL lo hi items.toList).toArray = items → Q (.ref t) s)
    (h1 : Q (.ref s.heap.objs.size) { s with heap := s.heap.push { cls := .type "tuple", data := .seq (cutL lo hi items.toList).toArray } })
    (hsz : items.size ≤ sizeLine) : wpAny (model prog w) A (getItem (.ref t) (.ref sl)) Q E s := by
  have hcut : sizeOk (.seq (cutL lo hi items.toList).toArray) := by
    show (cutL lo hi items.toList).toArray.size ≤ sizeLine
    rw [List.size_toArray, cutL, List.length_drop, List.length_take, Array.length_toList]
    omega
  obtain ⟨os, hos, hcs, hds⟩ := id hs
  have hTs : s.TypeIs (.ref sl) "slice" := ⟨os, hos, hcs⟩
  unfold getItem
  try with_reducible refine wpAny_holding ?_
  first | refine wpAny_bind (wpAny_pure ?_) | skip
  refine wpAny_bind (wpAny_sequenceKey ht.typeIs (by decide) ?_)
  refine wpAny_bind (wpAny_callSpecial?_slot (name := Str.ofString "__getitem__") ht.typeIs PyProof.Rows.slot_tuple_getitem
    (wpAny_call_entry PyProof.Rows.slot_tuple_getitem ht.typeIs PyProof.Rows.entry_tuple_getitem ?_ (args_tuple_getitem _ _)))
  show wpAny _ _ (Builtin.Tuple.tupleItemsOf (.ref t) >>= _) _ _ s
  refine wpAny_bind (tupleItemsOf_ ht ?_)
  refine wpAny_bind (wpAny_typeOf hTs ?_)
  rw [if_pos (by decide)]
  refine wpAny_bind (appliedN hs pl pu ?_)
  show wpAny _ _ (if ((loN lo items.size : Int) == 0 && (1 : Int) == 1 && (hiN hi items.size - loN lo items.size) == items.size) = true then _ else _) _ _ s
  have fresh : wpAny (model prog w) A.in1 (Builtin.Tuple.tupleExact ((List.range (hiN hi items.size - loN lo items.size)).filterMap fun (k : Nat) => items[((loN lo items.size : Int) + (k : Int) * 1).toNat]?).toArray)
      (fun v s' => Q v s') E s := by
    rw [pickN items lo hi]
    exact wpAny_newObj_type h1 hcut
  by_cases hc : ((loN lo items.size : Int) == 0 && (1 : Int) == 1 && (hiN hi items.size - loN lo items.size) == items.size) = true
  · rw [if_pos hc]
    simp only [Bool.and_eq_true, beq_iff_eq] at hc
    have e0 : loN lo items.size = 0 := by omega
    have q := h0 (cut_whole items lo hi e0 hc.2)
    show wpAny _ _ (Builtin.Tuple.tupleIsExact (.ref t) >>= _) _ _ s
    unfold Builtin.Tuple.tupleIsExact
    refine wpAny_bind (wpAny_bind (wpAny_typeOf ht.typeIs (wpAny_pure ?_)))
    rw [if_pos (by decide)]
    refine wpAny_bind (wpAny_rule ?_)
    exact wpAny_pure ⟨_, rfl, wpAny_pure q⟩
  · rw [if_neg hc]
    exact wpAny_bind (wpAny_mono fresh (fun v s' q => wpAny_pure ⟨_, rfl, wpAny_pure q⟩) fun _ _ e => e)
end
section
variable {prog : Program} {w : World} {A : Around} {E : Value → Shared → Prop} {s : Shared} {h₀ : Heap} {L : Addr} {m : Str → Option Value} {news : List (Addr × Obj)}
/-- a cut of a tuple: the ledger holds it, be it the tuple itself or a new one -/
theorem cut_tup {value slice : PySem.Expr} {t : Addr} {xs : List Value} {n : Nat} {vl vu : Value} {lo hi : Option Nat} {Q : Value → Shared → Prop} (F : Fr h₀ L s.heap m) (N : News h₀ L s.heap news)
    (ht : (t, ({ cls := .type "tuple", data := .seq (List.toArray xs) n } : Obj)) ∈ news) (pl : PartN vl lo) (pu : PartN vu hi) (hsz : xs.toArray.size ≤ sizeLine)
    (h : ∀ t' n' h', Fr h₀ L h' m → News h₀ L h' ((t', ({ cls := .type "tuple", data := .seq (List.toArray (cutL lo hi xs)) n' } : Obj)) :: news) → Q (.ref t') { s with heap := h' })
    (hs : subscripted slice false (.ref t) (.ref s.heap.objs.size) = operate [.ref s.heap.objs.size, .ref t] (getItem (.ref t) (.ref s.heap.objs.size)))
    (hg : ∀ r, letTemporaryGo value (.ref t) r = pure ()) :
    wpAny (model prog w) A (subscriptTail value slice (.ref t) (.ref s.heap.objs.size)) Q E { s with heap := s.heap.push { cls := .type "slice", data := .fields #[vl, vu, .none] } } := by
  have hg0 := (N _ ht).1
  have ht' : IsTup (s.heap.push { cls := .type "slice", data := .fields #[vl, vu, .none] }) t xs.toArray := ⟨_, Heap.get?_push_of_some _ hg0, rfl, n, rfl⟩
  have F1 : Fr h₀ L (s.heap.push { cls := .type "slice", data := .fields #[vl, vu, .none] }) m := F.push _
  have N1 : News h₀ L (s.heap.push { cls := .type "slice", data := .fields #[vl, vu, .none] }) news := N.grown fun _ _ e => Heap.get?_push_of_some _ e
  refine subscriptTail_ops (s := { s with heap := s.heap.push { cls := .type "slice", data := .fields #[vl, vu, .none] } }) ht'.typeIs PyProof.Rows.slot_tuple_getitem.lookup
    (getItemN ht' (Heap.IsSliceOf.new ..) pl pu (fun e => ?_) ?_ hsz) hs hg
  · refine h t n _ F1 fun p hp => ?_
    rcases List.mem_cons.mp hp with rfl | hp
    · have e' : (cutL lo hi xs).toArray = xs.toArray := e
      rw [e']
      exact N1 _ ht
    · exact N1 p hp
  · exact h _ 0 _ (F1.push _) (N1.push F1 _)
end
end Mine
end
section
open PySem PySem.W PyProof.Rows PySem.Spec PySem.Calls
set_option linter.unusedVariables false
set_option maxHeartbeats 2000000
namespace Mine
/-- what a turn of a comprehension leaves: the ledger as it was, and the word on it -/
def TurnEnd (h₀ : Heap) (L : Addr) (m : Str → Option Value) (s₁ : Shared) (I : Addr) (oI : Obj) (C : Addr) (oC : Obj) (D : Addr) (oD : Obj) (news : List (Addr × Obj)) (K : Value → Prop) (y : Value) (s₂ : Shared) : Prop :=
  ∃ h' tk, s₂ = { s₁ with heap := h', toks := tk } ∧ Fr h₀ L h' m ∧ News h₀ L h' ((I, oI) :: (C, oC) :: (D, oD) :: news) ∧ K y
/-- a turn of a comprehension with one test -/
def TurnT (prog : Program) (w : World) (A : Around) (h₀ : Heap) (L : Addr) (m : Str → Option Value) (env : Env) (ct elt : Expr) (x : Str) (scope : Scope) (cl : List (Str × Addr)) (s : Shared) (news : List (Addr × Obj)) (v : Value) (K0 K1 : List Value → Prop) : Prop :=
  ∀ ys I oI C oC D m₂ h tk (E' : Value → Shared → Prop), K0 ys → LCg.NsObj oC m₂ → m₂ x = some v → Fr h₀ L h m → News h₀ L h ((I, oI) :: (C, oC) :: (D, LCg.lst ys) :: news) → LCg.Off3 I C D news → ((@Ne Nat I C) ∧ (@Ne Nat I D) ∧ (@Ne Nat C D)) →
    wpAny (model prog w) A (isTrue ct (compEnvC scope cl C env) (eval ct (compEnvC scope cl C env))) (fun ok s' => if ok = true then
        wpAny (model prog w) A (eval elt (compEnvC scope cl C env)) (TurnEnd h₀ L m { s with heap := h, toks := tk } I oI C oC D (LCg.lst ys) news (fun y => K1 (ys ++ [y]))) E' s'
        else TurnEnd h₀ L m { s with heap := h, toks := tk } I oI C oC D (LCg.lst ys) news (fun _ => K1 ys) Value.none s') E' { s with heap := h, toks := tk }
/-- the source of a comprehension over a tuple of the ledger -/
def SrcTT (prog : Program) (w : World) (A : Around) (h₀ : Heap) (L : Addr) (m : Str → Option Value) (env : Env) (ct elt : Expr) (x : Str) (scope : Scope) (cl : List (Str × Addr)) (Q : Value → Shared → Prop) (xv : Value) (s₁ : Shared) : Prop :=
  ∃ t xs n news, ∃ K : Nat → List Value → Prop, xv = .ref t ∧ A.handled = none ∧ Fr h₀ L s₁.heap m ∧ News h₀ L s₁.heap news ∧ (t, ({ cls := .type "tuple", data := .seq (List.toArray xs) n } : Obj)) ∈ news ∧ xs.length ≤ sizeLine ∧ K 0 [] ∧
    (∀ i v, xs[i]? = some v → ∀ g, TurnT prog w A h₀ L m env ct elt x scope cl { s₁ with heap := g } news v (K i) (K (i + 1))) ∧
    ∀ D h tk ys, K xs.length ys → Fr h₀ L h m → News h₀ L h ((D, LCg.lst ys) :: news) → LCg.Off1 D news → Q (.ref D) { s₁ with heap := h, toks := tk }
theorem SrcTT.mk {prog : Program} {w : World} {A : Around} {h₀ : Heap} {L : Addr} {m : Str → Option Value} {env : Env} {ct elt : Expr} {x : Str} {scope : Scope} {cl : List (Str × Addr)} {Q : Value → Shared → Prop} {s₁ : Shared} {t : Addr} {xs : List Value} {n : Nat} {news : List (Addr × Obj)} (K : Nat → List Value → Prop)
    (hh : A.handled = none) (F : Fr h₀ L s₁.heap m) (N : News h₀ L s₁.heap news) (hm : (t, ({ cls := .type "tuple", data := .seq (List.toArray xs) n } : Obj)) ∈ news) (hsz : xs.length ≤ sizeLine) (k0 : K 0 [])
    (ht : ∀ i v, xs[i]? = some v → ∀ g, TurnT prog w A h₀ L m env ct elt x scope cl { s₁ with heap := g } news v (K i) (K (i + 1)))
    (hd : ∀ D h tk ys, K xs.length ys → Fr h₀ L h m → News h₀ L h ((D, LCg.lst ys) :: news) → LCg.Off1 D news → Q (.ref D) { s₁ with heap := h, toks := tk }) :
    SrcTT prog w A h₀ L m env ct elt x scope cl Q (.ref t) s₁ := ⟨t, xs, n, news, K, rfl, hh, F, N, hm, hsz, k0, ht, hd⟩
section
variable {prog : Program} {w : World} {A : Around} {E : Value → Shared → Prop} {s : Shared} {h₀ : Heap} {L : Addr} {m : Str → Option Value} {env : Env}
theorem rest_T {ct elt : Expr} {x : Str} {scope : Scope} {cl : List (Str × Addr)} {t : Addr} {xs : List Value} {n : Nat} {news : List (Addr × Obj)} {K : Nat → List Value → Prop} {s₂ : Shared} (hm : (t, ({ cls := .type "tuple", data := .seq (List.toArray xs) n } : Obj)) ∈ news)
    (R : ∀ i v, xs[i]? = some v → TurnT prog w A h₀ L m env ct elt x scope cl s₂ news v (K i) (K (i + 1))) :
    ∀ (j i : Nat) (ys : List Value), i + j = xs.length → K i ys →
      LCt.CompRestT prog w A h₀ L m env ct elt x scope cl s₂ (fun nw => (t, ({ cls := .type "tuple", data := .seq (List.toArray xs) n } : Obj)) ∈ nw) (fun i v => xs[i]? = some v) (fun ys nw => nw = news ∧ K xs.length ys) j i ys news
  | 0, i, ys, e, k => by
    have e' : i = xs.length := by omega
    exact LCt.CompRestT.zero ⟨rfl, e' ▸ k⟩
  | j + 1, i, ys, e, k => by
    refine LCt.CompRestT.succ fun v I oI C oC D m₂ h tk E' hv hC hx F N off ne => ?_
    refine wpAny_mono (R i v hv ys I oI C oC D m₂ h tk E' k hC hx F N off ne) (fun ok s' h' => ?_) fun _ _ e => e
    cases ok with
    | true =>
      simp only [if_true] at h' ⊢
      refine wpAny_mono h' (fun y s'' h'' => ?_) fun _ _ e => e
      obtain ⟨h3, tk3, rfl, F3, N3, k3⟩ := h''
      exact ⟨h3, tk3, news, rfl, F3, N3, off, hm, rest_T hm R j (i + 1) _ (by omega) k3⟩
    | false =>
      simp only [Bool.false_eq_true, if_false] at h' ⊢
      obtain ⟨h3, tk3, rfl, F3, N3, k3⟩ := h'
      exact ⟨h3, tk3, news, rfl, F3, N3, off, hm, rest_T hm R j (i + 1) _ (by omega) k3⟩
theorem comp_TT {ct elt iter : Expr} {x : Str} {px : Pos} {scope : Scope} {cl : List (Str × Addr)} {pos : Pos} {Q : Value → Shared → Prop} (F₀ : Fr h₀ L s.heap m)
    (hclos : closureFor scope env = pure cl) (hcell : ∀ y ∈ scope.names, y.2 ≠ .cell) (hkind : scope.kind = .function)
    (hnames : ∀ y ∈ scope.names, y.2 = .local → scope.names.lookup y.1 = some .local) (hx : scope.names.lookup x = some .local)
    (h : wpAny (model prog w) A (eval iter env) (SrcTT prog w A h₀ L m env ct elt x scope cl Q) E s)
    (hs : ∀ x, foldedSetIterable iter env x = pure x := by intro _; rfl) :
    wpAny (model prog w) A (eval (.ListComp elt [⟨.Name x px, iter, [ct], 0⟩] scope pos) env) Q E s := by
  rw [eval_ListComp]
  refine wpAny_comprehension_free (use := none) rfl hs hclos hkind hnames (wpAny_mono h (fun xv s₁ h₁ => ?_) fun _ _ e => e)
  obtain ⟨t, xs, n, news, K, rfl, hh, F, N, hm, hsz, k0, R, fin⟩ := h₁
  have hl : s₁.heap.IsTuple t xs.toArray := ⟨_, (N _ hm).1, rfl, n, rfl⟩
  have hlt : t < s₁.heap.objs.size := Heap.lt_size (N _ hm).1
  refine wpAny_pyIter_tuple hl ?_
  have up : ∀ b o, s₁.heap.get? b = some o → (s₁.heap.push { cls := .type "tuple_iterator", data := .fields #[.ref t, .int 0 0] }).get? b = some o := fun b o e => Heap.get?_push_of_some _ e
  refine LCt.block_T (S := fun nw => (t, ({ cls := .type "tuple", data := .seq (List.toArray xs) n } : Obj)) ∈ nw) (Walks.tuple hh s₁.heap.objs.size t (Nat.ne_of_lt hlt) xs.toArray) (by simpa using hsz)
    (fun i h st => by obtain ⟨o, e, _⟩ := st.1; exact ⟨o, e⟩) ?_ hcell hkind hx ⟨⟨_, Heap.get?_push_size _ rfl, rfl, rfl⟩, ⟨_, up _ _ (N _ hm).1, rfl, n, rfl⟩⟩ (fun b hb => ?_)
      (F.keeps up) (N.grown up) (Nat.ne_of_lt F.ns.lt) (next_is_new F) (fun p hp => Nat.ne_of_lt (Heap.lt_size (N p hp).1)) hm (by
        have q := rest_T (K := K) hm (fun i v hv => R i v hv (s₁.heap.push { cls := .type "tuple_iterator", data := .fields #[.ref t, .int 0 0] })) xs.length 0 [] (by omega) k0
        simpa using q) ?_
  · intro i h h' o nw st e1 e2 keep N' hm'
    refine ⟨?_, ⟨_, (N' _ hm').1, rfl, n, rfl⟩⟩
    obtain ⟨o', e, r⟩ := st.1
    rw [e1] at e
    cases e
    exact ⟨o, e2, r⟩
  · show b < (s₁.heap.push _).objs.size
    rw [Heap.size_push]
    rcases List.mem_cons.mp hb with rfl | hb
    · exact Nat.lt_succ_self _
    · rw [List.mem_singleton.mp hb]; exact Nat.lt_succ_of_lt hlt
  · intro D C h tk m' ys news' F' N' o1 hn hC₀ hD₀ hCL hDL hCD offC fin'
    obtain ⟨rfl, k9⟩ := fin'
    refine ⟨m', hn, fun h'' hs'' => fin D h'' tk ys k9 (F'.change hs'' hCL hC₀) (fun p hp => ?_) o1⟩
    refine ⟨hs''.extBut _ _ ?_ (N' p hp).1, (N' p hp).2⟩
    rcases List.mem_cons.mp hp with rfl | hp
    · exact Ne.symm hCD
    · exact offC p hp
theorem dat_take {led : List (Addr × Obj)} : ∀ {vs : List Value} {ds : List Dat} (k : Nat), DatAll led vs ds → DatAll led (vs.take k) (ds.take k)
  | _, _, 0, _ => .nil
  | _, _, k + 1, .nil => .nil
  | _, _, k + 1, .cons h r => .cons h (dat_take k r)
theorem dat_drop {led : List (Addr × Obj)} : ∀ {vs : List Value} {ds : List Dat} (k : Nat), DatAll led vs ds → DatAll led (vs.drop k) (ds.drop k)
  | _, _, 0, h => h
  | _, _, k + 1, .nil => .nil
  | _, _, k + 1, .cons h r => dat_drop k r
theorem dat_cut {α : Type} {f : α → Dat} {led : List (Addr × Obj)} {vs : List Value} {l : List α} (h : DatAll led vs (l.map f)) (lo hi : Option Nat) : DatAll led (cutL lo hi vs) ((cutL lo hi l).map f) := by
  have e : vs.length = l.length := by rw [h.length, List.length_map]
  unfold cutL
  rw [List.map_drop, List.map_take, e]
  exact dat_drop _ (dat_take _ h)
theorem cut_len {α : Type} (lo hi : Option Nat) (l : List α) : (cutL lo hi l).length ≤ l.length := by
  unfold cutL
  rw [List.length_drop, List.length_take]
  omega
theorem count_turn {α : Type} (q : α → Bool) (l : List α) (i : Nat) (a : α) (h : l[i]? = some a) : ((l.take (i + 1)).filter q).length = ((l.take i).filter q).length + (if q a = true then 1 else 0) := by
  rw [List.take_add_one, h, List.filter_append, List.length_append]
  congr 1
  cases hq : q a <;> simp [hq]
theorem filter_turn {α : Type} (q : α → Bool) (l : List α) (i : Nat) (a : α) (h : l[i]? = some a) : (l.take (i + 1)).filter q = (l.take i).filter q ++ (if q a = true then [a] else []) := by
  rw [List.take_add_one, h, List.filter_append]
  congr 1
  cases hq : q a <;> simp [hq]
theorem lenT {t : Addr} {vs : List Value} {n k : Nat} {news : List (Addr × Obj)} {Q : Value → Shared → Prop} (N : News h₀ L s.heap news) (hm : (t, ({ cls := .type "tuple", data := .seq (List.toArray vs) n } : Obj)) ∈ news) (e : vs.length = k) (hk : k ≤ 1000000)
    (h : Q (.int (k : Int) (s.toks + 1)) { s with toks := s.toks + 1 + 1 }) : wpAny (model prog w) A (call (.builtin "len") [.ref t]) Q E s := by
  refine len_tuple (items := List.toArray vs) ⟨_, (N _ hm).1, rfl, n, rfl⟩ ?_ ?_
  · rw [List.size_toArray, e]; omega
  · rw [List.size_toArray, e]; exact h
theorem lenL {t : Addr} {vs : List Value} {n k : Nat} {news : List (Addr × Obj)} {Q : Value → Shared → Prop} (N : News h₀ L s.heap news) (hm : (t, ({ cls := .type "list", data := .seq (List.toArray vs) n } : Obj)) ∈ news) (e : vs.length = k) (hk : k ≤ 1000000)
    (h : Q (.int (k : Int) (s.toks + 1)) { s with toks := s.toks + 1 + 1 }) : wpAny (model prog w) A (call (.builtin "len") [.ref t]) Q E s := by
  refine len_list (items := List.toArray vs) ⟨_, (N _ hm).1, rfl, n, rfl⟩ ?_ ?_
  · rw [List.size_toArray, e]; omega
  · rw [List.size_toArray, e]; exact h
end
end Mine
end
section
open PySem PySem.W PyProof.Rows PySem.Spec PySem.Calls
set_option linter.unusedVariables false
namespace Mine
theorem cut_drop {α : Type} (c : Nat) (l : List α) : cutL (some c) none l = l.drop c := by simp [cutL]
theorem cut_take {α : Type} (c : Nat) (l : List α) : cutL none (some c) l = l.take c := by simp [cutL]
theorem kd_ok (b : Bool) : kqdOk 8 (kd b) = true := by cases b <;> decide +kernel
theorem kd_inj {a b : Bool} (h : kd a = kd b) : a = b := by
  cases a <;> cases b <;> first | rfl | (exfalso; unfold kd at h; injection h with h; revert h; decide +kernel)
open Classical in
theorem kd_mem (b : Bool) (ks : List Bool) : decide (kd b ∈ ks.map kd) = ks.contains b := by
  by_cases q : kd b ∈ ks.map kd
  · rw [decide_eq_true q]
    obtain ⟨a, ha, e⟩ := List.mem_map.mp q
    exact (List.contains_iff_mem.mpr (kd_inj e ▸ ha)).symm
  · rw [decide_eq_false q]
    exact (Bool.eq_false_iff.mpr fun z => q (List.mem_map.mpr ⟨b, List.contains_iff_mem.mp z, rfl⟩)).symm
theorem kds_ok (ks : List Bool) : ∀ d ∈ ks.map kd, kqdOk 8 d = true := fun d hd => by
  obtain ⟨a, _, rfl⟩ := List.mem_map.mp hd
  exact kd_ok a
theorem St.ok (st : St) : kqdOk 1 st.enc = true := by cases st <;> simp only [St.enc, kqdOk, List.all_cons, List.all_nil, Bool.and_true] <;> decide +kernel
section
variable {prog : Program} {w : World} {A : Around} {E : Value → Shared → Prop} {s : Shared} {h₀ : Heap} {L : Addr} {news na nb : List (Addr × Obj)} {x y : Value} {d e : Dat} {ds : List Dat} {ks : List Bool} {b : Bool} {Q : Value → Shared → Prop}
open Classical in
theorem notin_tup (N : News h₀ L s.heap news) (Da : DatIn na y (.tuple ds)) (sa : ∀ p ∈ na, p ∈ news) (Dx : DatIn nb x d) (sx : ∀ p ∈ nb, p ∈ news) (ha : ∀ d ∈ ds, kqdOk 8 d = true) (hd : kqdOk 8 d = true)
    (hu : A.units + 64 < cLine) (h : Q (.bool (!decide (d ∈ ds))) s) : wpAny (model prog w) A (compareOp .NotIn x y) Q E s := by
  obtain ⟨as, ra⟩ := kqd_in N 9 (Da.mono sa) (by simpa [kqdOk] using ha)
  obtain ⟨bs, rx⟩ := kqd_in N 8 (Dx.mono sx) hd
  have l := kqd_layL ha
  have ld := kqd_lay 8 d hd
  have e : ((kqdPs ds).any fun y => PyData.eqv y (kqdP d)) = decide (d ∈ ds) := by
    by_cases hq : d ∈ ds
    · rw [decide_eq_true hq]; exact (kqd_any ds d ha hd).mpr hq
    · rw [decide_eq_false hq]; exact Bool.eq_false_iff.mpr fun z => hq ((kqd_any ds d ha hd).mp z)
  have l2 := ld.2
  rw [kqdP] at ra
  refine SeqAt.notIn_tuple_reads ra rx l.1 ld.1 ?_ (by rw [e]; exact h)
  have := Nat.min_le_right (PyData.depthAll (kqdPs ds)) (kqdP d).depth
  omega
open Classical in
theorem notin_lst (N : News h₀ L s.heap news) (Da : DatIn na y (.list ds)) (sa : ∀ p ∈ na, p ∈ news) (Dx : DatIn nb x d) (sx : ∀ p ∈ nb, p ∈ news) (ha : ∀ d ∈ ds, kqdOk 8 d = true) (hd : kqdOk 8 d = true)
    (hu : A.units + 64 < cLine) (h : Q (.bool (!decide (d ∈ ds))) s) : wpAny (model prog w) A (compareOp .NotIn x y) Q E s := by
  obtain ⟨as, ra⟩ := kqd_in N 9 (Da.mono sa) (by simpa [kqdOk] using ha)
  obtain ⟨bs, rx⟩ := kqd_in N 8 (Dx.mono sx) hd
  have l := kqd_layL ha
  have ld := kqd_lay 8 d hd
  have e : ((kqdPs ds).any fun y => PyData.eqv y (kqdP d)) = decide (d ∈ ds) := by
    by_cases hq : d ∈ ds
    · rw [decide_eq_true hq]; exact (kqd_any ds d ha hd).mpr hq
    · rw [decide_eq_false hq]; exact Bool.eq_false_iff.mpr fun z => hq ((kqd_any ds d ha hd).mp z)
  have l2 := ld.2
  rw [kqdP] at ra
  refine SeqAt.notIn_list_reads ra rx l.1 ld.1 ?_ (by rw [e]; exact h)
  have := Nat.min_le_right (PyData.depthAll (kqdPs ds)) (kqdP d).depth
  omega
theorem notin_kinds (N : News h₀ L s.heap news) (Da : DatIn na y (.tuple (ks.map kd))) (sa : ∀ p ∈ na, p ∈ news) (Dx : DatIn nb x (kd b)) (sx : ∀ p ∈ nb, p ∈ news)
    (hu : A.units + 64 < cLine) (h : Q (.bool (!ks.contains b)) s) : wpAny (model prog w) A (compareOp .NotIn x y) Q E s :=
  notin_tup N Da sa Dx sx (kds_ok ks) (kd_ok b) hu (by rw [kd_mem]; exact h)
theorem notin_lets (N : News h₀ L s.heap news) (Da : DatIn na y (.list (ks.map kd))) (sa : ∀ p ∈ na, p ∈ news) (Dx : DatIn nb x (kd b)) (sx : ∀ p ∈ nb, p ∈ news)
    (hu : A.units + 64 < cLine) (h : Q (.bool (!ks.contains b)) s) : wpAny (model prog w) A (compareOp .NotIn x y) Q E s :=
  notin_lst N Da sa Dx sx (kds_ok ks) (kd_ok b) hu (by rw [kd_mem]; exact h)
open Classical in
theorem kinds_nil {α : Type} {f : α → Dat} {l : List α} : decide ((.tuple (l.map f) : Dat) = .tuple []) = l.isEmpty := by
  cases l with
  | nil => simp
  | cons a r => simp
open Classical in
theorem kinds_nilL {α : Type} {f : α → Dat} {l : List α} : decide ((.list (l.map f) : Dat) = .list []) = l.isEmpty := by
  cases l with
  | nil => simp
  | cons a r => simp
theorem eq_nil (N : News h₀ L s.heap news) (Da : DatIn na x (.tuple (ks.map kd))) (sa : ∀ p ∈ na, p ∈ news) (Db : DatIn nb y (.tuple [])) (sb : ∀ p ∈ nb, p ∈ news)
    (hu : A.units + 64 < cLine) (h : Q (.bool ks.isEmpty) s) : wpAny (model prog w) A (compareOp .Eq x y) Q E s :=
  dat_eq (n := 9) (k := 1) N Da sa Db sb (by simp only [kqdOk, List.all_eq_true]; exact kds_ok ks) rfl (by decide) (by decide) hu (by rw [kinds_nil]; exact h)
theorem eq_nilL (N : News h₀ L s.heap news) (Da : DatIn na x (.list (ks.map kd))) (sa : ∀ p ∈ na, p ∈ news) (Db : DatIn nb y (.list [])) (sb : ∀ p ∈ nb, p ∈ news)
    (hu : A.units + 64 < cLine) (h : Q (.bool ks.isEmpty) s) : wpAny (model prog w) A (compareOp .Eq x y) Q E s :=
  dat_eq (n := 9) (k := 1) N Da sa Db sb (by simp only [kqdOk, List.all_eq_true]; exact kds_ok ks) rfl (by decide) (by decide) hu (by rw [kinds_nilL]; exact h)
/-- the steps of a road, whole -/
theorem road_ok (l : List St) : kqdOk 9 (.tuple (l.map St.enc)) = true := by
  simp only [kqdOk, List.all_eq_true]
  intro d hd
  obtain ⟨a, _, rfl⟩ := List.mem_map.mp hd
  exact kqd_mono 1 8 _ (by decide) a.ok
theorem St.enc_inj {a b : St} (h : a.enc = b.enc) : a = b := by
  cases a <;> cases b <;> first | rfl | (unfold St.enc at h; injection h with h; injection h with h1 h2; injection h2 with h2 h3; injection h2 with h2; rw [h2]; done) | (exfalso; unfold St.enc at h; injection h with h; injection h with h1 h2; injection h1 with h1; revert h1; decide +kernel)
instance : DecidableEq St := fun a b => by
  cases a with
  | field i => cases b with
    | field j => exact if h : i = j then isTrue (h ▸ rfl) else isFalse fun e => by injection e; contradiction
    | down j => exact isFalse fun e => by injection e
    | index j => exact isFalse fun e => by injection e
    | deref => exact isFalse fun e => by injection e
  | down i => cases b with
    | down j => exact if h : i = j then isTrue (h ▸ rfl) else isFalse fun e => by injection e; contradiction
    | field j => exact isFalse fun e => by injection e
    | index j => exact isFalse fun e => by injection e
    | deref => exact isFalse fun e => by injection e
  | index i => cases b with
    | index j => exact if h : i = j then isTrue (h ▸ rfl) else isFalse fun e => by injection e; contradiction
    | field j => exact isFalse fun e => by injection e
    | down j => exact isFalse fun e => by injection e
    | deref => exact isFalse fun e => by injection e
  | deref => cases b with
    | deref => exact isTrue rfl
    | field j => exact isFalse fun e => by injection e
    | down j => exact isFalse fun e => by injection e
    | index j => exact isFalse fun e => by injection e
theorem encs_inj : ∀ {a b : List St}, a.map St.enc = b.map St.enc → a = b
  | [], [], _ => rfl
  | [], _ :: _, h => by simp at h
  | _ :: _, [], h => by simp at h
  | a :: l, b :: r, h => by
    simp only [List.map_cons, List.cons.injEq] at h
    rw [St.enc_inj h.1, encs_inj h.2]
theorem roads_ne {l r : List St} (N : News h₀ L s.heap news) (Da : DatIn na x (.tuple (l.map St.enc))) (sa : ∀ p ∈ na, p ∈ news) (Db : DatIn nb y (.tuple (r.map St.enc))) (sb : ∀ p ∈ nb, p ∈ news)
    (hu : A.units + 64 < cLine) (h : Q (.bool (!decide (l = r))) s) : wpAny (model prog w) A (compareOp .NotEq x y) Q E s := by
  refine dat_ne (n := 9) (k := 9) N Da sa Db sb (road_ok l) (road_ok r) (by decide) (by decide) hu ?_
  have e2 : ∀ (i1 : Decidable ((.tuple (l.map St.enc) : Dat) = .tuple (r.map St.enc))), @decide _ i1 = decide (l = r) := fun i1 => by
    by_cases q : l = r
    · rw [decide_eq_true q]; exact @decide_eq_true _ i1 (by rw [q])
    · rw [decide_eq_false q]; exact @decide_eq_false _ i1 (fun e => q (encs_inj (by injection e)))
  rw [e2]; exact h
end
theorem dat_lst {led : List (Addr × Obj)} {v : Value} {ds : List Dat} (h : DatIn led v (.list ds)) : ∃ t vs n, v = .ref t ∧ (t, ({ cls := .type "list", data := .seq (List.toArray vs) n } : Obj)) ∈ led ∧ DatAll led vs ds := by
  cases h with
  | list hm r => exact ⟨_, _, _, rfl, hm, r⟩
theorem step_ref {led : List (Addr × Obj)} {v : Value} {st : St} (h : DatIn led v st.enc) : ∃ t, v = .ref t := by
  cases st <;> (obtain ⟨t, _, _, e, _⟩ := dat_tup h; exact ⟨t, e⟩)
theorem kind_str {led : List (Addr × Obj)} {v : Value} {b : Bool} (h : DatIn led v (kd b)) : ∃ t, v = .str (if b then Str.ofString "box" else Str.ofString "mut") t := by
  unfold kd at h
  cases h
  exact ⟨_, rfl⟩
def withinB (ri ro : List St) (ks ls : List Bool) : Bool :=
  if ri.take ro.length = ro then ((((ks.take (ri.filter St.isDeref).length).drop (ro.filter St.isDeref).length)).filter fun k => !ls.contains k).isEmpty else false
section
variable {prog : Program} {w : World} {A : Around} {E : Value → Shared → Prop} {s : Shared} {h₀ : Heap} {L : Addr} {news na nb : List (Addr × Obj)} {x y : Value} {Q : Value → Shared → Prop}
theorem eq_deref {st : St} (N : News h₀ L s.heap news) (Da : DatIn na x st.enc) (sa : ∀ p ∈ na, p ∈ news) (Db : DatIn nb y St.deref.enc) (sb : ∀ p ∈ nb, p ∈ news)
    (hu : A.units + 64 < cLine) (h : Q (.bool st.isDeref) s) : wpAny (model prog w) A (compareOp .Eq x y) Q E s := by
  refine dat_eq (n := 1) (k := 1) N Da sa Db sb st.ok St.deref.ok (by decide) (by decide) hu ?_
  have e2 : ∀ (i1 : Decidable (st.enc = St.deref.enc)), @decide _ i1 = st.isDeref := fun i1 => by
    by_cases q : st = St.deref
    · subst q; exact @decide_eq_true _ _ rfl
    · have e : st.isDeref = false := by cases st <;> first | rfl | exact absurd rfl q
      rw [e]; exact @decide_eq_false _ i1 (fun z => q (St.enc_inj z))
  rw [e2]; exact h
end
theorem TurnEnd.intro {h₀ : Heap} {L : Addr} {m : Str → Option Value} {s₁ : Shared} {I : Addr} {oI : Obj} {C : Addr} {oC : Obj} {D : Addr} {oD : Obj} {news all : List (Addr × Obj)} {K : Value → Prop} {y : Value} {h' : Heap} {tk : Nat}
    (F : Fr h₀ L h' m) (N : News h₀ L h' all) (sub : ∀ p ∈ (I, oI) :: (C, oC) :: (D, oD) :: news, p ∈ all) (k : K y) : TurnEnd h₀ L m s₁ I oI C oC D oD news K y { s₁ with heap := h', toks := tk } :=
  ⟨h', tk, rfl, F, news_sub N sub, k⟩
end Mine
end
section
local macro_rules | `(tactic| walk_at "own pad") => `(tactic| fail)
local macro_rules | `(tactic| walk_at "own pad") => `(tactic| fail)
local macro_rules | `(tactic| walk_at "own pad") => `(tactic| fail)
local macro_rules | `(tactic| walk_at "own pad") => `(tactic| fail)
local macro_rules | `(tactic| walk_at "own pad") => `(tactic| fail)
local macro_rules | `(tactic| walk_at "own pad") => `(tactic| fail)
local macro_rules | `(tactic| walk_at "own pad") => `(tactic| fail)
local macro_rules | `(tactic| walk_at "own pad") => `(tactic| fail)
local macro_rules | `(tactic| walk_at "own pad") => `(tactic| fail)
local macro_rules | `(tactic| walk_at "own pad") => `(tactic| fail)
local macro_rules | `(tactic| walk_at "own pad") => `(tactic| fail)
local macro_rules | `(tactic| walk_at "own pad") => `(tactic| fail)
local macro_rules | `(tactic| walk_at "own pad") => `(tactic| fail)
open PySem PySem.W PyProof.Rows PySem.Spec PySem.Calls
set_option pp.maxSteps 600
set_option linter.unusedVariables false
namespace Mine
section
local macro_rules | `(tactic| k_all) => `(tactic| first | assumption | exact List.forall_mem_append.mpr ⟨by k_all, by k_all⟩ | exact List.forall_mem_cons.mpr ⟨by (refine neN ?_; (try dsimp only); omega), by k_all⟩)
local macro_rules | `(tactic| k_mem) => `(tactic| first | (with_reducible assumption) | (with_reducible exact List.mem_cons_self) | (with_reducible refine List.mem_append_left _ ?_; k_mem) | (with_reducible refine List.mem_append_right _ ?_; k_mem) | (with_reducible refine List.mem_cons_of_mem _ ?_; k_mem))
local macro_rules | `(tactic| k_memK) => `(tactic| first | (with_reducible assumption) | (with_reducible exact List.mem_cons_self) | (with_reducible refine List.mem_append_left _ ?_; k_memK) | (with_reducible refine List.mem_append_right _ ?_; k_memK) | (with_reducible refine List.mem_cons_of_mem _ ?_; k_memK))
local macro_rules | `(tactic| news_mem) => `(tactic| k_mem)
set_option maxRecDepth 100000 in
set_option maxHeartbeats 8000000 in
theorem conf_call {w : World} {dp un : Nat} {gd : Option (List Code)} {cn : Str} {cs : Scope} {fa : Addr} {ccd : Value} {cl : List (Str × Addr)} {outer : List Env} {A₀ : Around} {base h₀ : Heap} {L : Addr} {m : Str → Option Value} {mean : ExcName → Option Value} {mg mb : Str → Option Value}
    {s : Shared} {Q E : Value → Shared → Prop}
    {news dat : List (Addr × Obj)} {v1 v2 v3 : Value} {l r : List St} {ks : List Bool} {i1 i2 : Int} {d : Dp} {td : Tok}
    (B : Below A₀ base outer h₀) (F : Fr h₀ L s.heap m) (X : (hd.heap_39 w.params).In h₀) (N₀ : News h₀ L s.heap news) (T : TopN mean mg mb h₀) (hk : cs.kind = .function)
    (hdat : ∀ p ∈ dat, p ∈ news) (h1 : DatIn dat v1 (.tuple [.int i1, .tuple (l.map St.enc)])) (h2 : DatIn dat v2 (.tuple (ks.map kd))) (h3 : DatIn dat v3 (.tuple [.int i2, .tuple (r.map St.enc)]))
    (ll : l.length ≤ 100) (lr : r.length ≤ 100) (lk : ks.length ≤ 100)
    (hdp : dp + 6 < recursionLimit) (hun : un + 8 * 26 < cLine)
    (hret : ∀ (h' : Heap) (tk' : Nat), Fr h₀ L h' m → News h₀ L h' news → Q (.bool (conflictsB i1 l ks d i2 r)) { s with heap := h', toks := tk' }) :
    wpAny (model Challenge.rw_nz0122_01.row.prog w) (ktrTop dp un gd cn cs L fa ccd cl outer) (call (.ref 33) [v1, v2, .str d.name td, v3]) Q E s := by
  have N := N₀
  clear N₀
  obtain ⟨t1, u1, n1, s1, vs1, n2, rfl, g1, g2, d1⟩ := dat_place h1
  obtain ⟨t2, u2, n3, s2, vs2, n4, rfl, g3, g4, d2⟩ := dat_place h3
  obtain ⟨t3, vs3, n5, rfl, g5, d3⟩ := dat_tup h2
  have m1 := hdat _ g1
  have m2 := hdat _ g2
  have m3 := hdat _ g3
  have m4 := hdat _ g4
  have m5 := hdat _ g5
  clear h1 h2 h3
  have e1 : vs1.length = l.length := by rw [d1.length, List.length_map]
  have e2 : vs2.length = r.length := by rw [d2.length, List.length_map]
  have e3 : vs3.length = ks.length := by rw [d3.length, List.length_map]
  w_on
  w_strict (
  k_with_none
  revert X; k_fill; intro X
  refine wpAny_call ?_
  k_dflt ktr_enter
  k_with_none
  k_with "call ref" => (k_here; k_dflt (refine' may_call (sts1 := l) (sts2 := r) ?kB ?kF ?kX ?kN ?kT ?kk ?kh ?k1 ?k2 ?kd ?ku ?_; (case kB => k_asm); (case kF => k_asm); (case kX => k_asm); (case kN => k_asm); (case kT => k_asm); (case kk => (first | exact rfl | assumption)); (case k1 => exact DatIn.tuple g2 d1); (case k2 => exact DatIn.tuple g4 d2); (case kh => exact fun p hp => (have hp' := hdat p hp; by k_mem)); (case kd => ktr_room); (case ku => ktr_units)); intro h' tk' F' N'; (try dsimp only); (try k_fold))
  k_with "call builtin:len" => (k_here; first | (refine' lenT ?k1 ?k2 ?k3 ?k4 ?_; (case k1 => k_asm); (case k2 => k_mem); (case k3 => assumption); (case k4 => omega)) | (refine' lenL ?k1 ?k2 ?k3 ?k4 ?_; (case k1 => k_asm); (case k2 => k_mem); (case k3 => assumption); (case k4 => omega)))
  k_with "eval ListComp" => (k_here; lcg_calm; k_dflt (refine comp_TT (F₀ := by k_asm) (by with_unfolding_all rfl) (by decide) (by rfl) (by decide) (by rfl) ?_))
  k_with "subscriptTail" => (k_here; (with_reducible show wpAny _ _ (subscriptTail _ _ (Value.ref _) (Value.ref _)) _ _ _); (refine' cut_tup ?F ?N ?ht ?pl ?pu ?hsz ?h ?hs ?hg); (case F => k_asm); (case N => k_asm); (case ht => k_mem); (case pl => first | exact PartN.none | exact PartN.int _ _); (case pu => first | exact PartN.none | exact PartN.int _ _); (case hsz => (rw [List.size_toArray, sizeLine_eq]; omega)); (case hs => with_unfolding_all rfl); (case hg => (intro _; with_unfolding_all rfl)); (case' h => (intro t' n' h' F' N'; (try dsimp only); (try k_fold))))
  k_steps
  case _ =>
    have q1 : i1 ≠ i2 := by assumption
    have e : conflictsB i1 l ks d i2 r = false := by unfold conflictsB; rw [if_pos (by simp [q1])]
    rename Fr h₀ L _ _ => kF
    rename News h₀ L _ _ => kN
    exact e ▸ hret _ _ kF (news_sub kN (fun p hp => by k_mem))
  case _ =>
    have q1 : i1 = i2 := by assumption
    have q2 : mayB l r = true := by assumption
    have q3 : l.length ≤ r.length := by omega
    have e : conflictsB i1 l ks d i2 r = true := by unfold conflictsB; rw [if_neg (by simp [q1, q2]), if_pos q3]
    rename Fr h₀ L _ _ => kF
    rename News h₀ L _ _ => kN
    exact e ▸ hret _ _ kF (news_sub kN (fun p hp => by k_mem))
  case _ =>
    rename Fr _ _ _ _ => kF
    rename News _ _ _ _ => kN
    have dc := dat_cut d1 none (some r.length)
    have lc := cut_len none (some r.length) vs1
    rw [cut_take _ l] at dc
    refine SrcTT.mk (fun i ys => ys.length = (((l.take r.length).take i).filter St.isDeref).length) (by rfl) kF kN (by k_mem) (by rw [sizeLine_eq]; omega) (by simp) ?zt ?zd
    case zt =>
      intro i v hv g
      unfold TurnT
      intro ys I oI C oC D m₂ h1 tk1 E' hk hC hx F1 N1 off ne
      clear kF kN
      obtain ⟨st, est, dst⟩ := dat_at dc hv
      have hcnt := count_turn St.isDeref _ _ _ est
      cases st with
      | field j =>
        obtain ⟨t4, tk4, ti4, n4, rfl, g6⟩ := dat_pair dst
        have m6 := hdat _ g6
        k_steps
        rename Fr _ _ _ _ => kF
        rename News _ _ _ _ => kN
        exact TurnEnd.intro kF kN (fun _ h => h) (by simp only [St.isDeref, if_true, eq_self, Bool.false_eq_true, if_false, List.length_append, List.length_singleton] at hcnt ⊢; omega)
      | down j =>
        obtain ⟨t4, tk4, ti4, n4, rfl, g6⟩ := dat_pair dst
        have m6 := hdat _ g6
        k_steps
        rename Fr _ _ _ _ => kF
        rename News _ _ _ _ => kN
        exact TurnEnd.intro kF kN (fun _ h => h) (by simp only [St.isDeref, if_true, eq_self, Bool.false_eq_true, if_false, List.length_append, List.length_singleton] at hcnt ⊢; omega)
      | index j =>
        obtain ⟨t4, tk4, ti4, n4, rfl, g6⟩ := dat_pair dst
        have m6 := hdat _ g6
        k_steps
        rename Fr _ _ _ _ => kF
        rename News _ _ _ _ => kN
        exact TurnEnd.intro kF kN (fun _ h => h) (by simp only [St.isDeref, if_true, eq_self, Bool.false_eq_true, if_false, List.length_append, List.length_singleton] at hcnt ⊢; omega)
      | deref =>
        obtain ⟨t4, tk4, n4, rfl, g6⟩ := dat_sing dst
        have m6 := hdat _ g6
        k_steps
        rename Fr _ _ _ _ => kF
        rename News _ _ _ _ => kN
        exact TurnEnd.intro kF kN (fun _ h => h) (by simp only [St.isDeref, if_true, eq_self, Bool.false_eq_true, if_false, List.length_append, List.length_singleton] at hcnt ⊢; omega)
    case zd =>
      intro D h1 tk1 ys hk F1 N1 off
      clear kF kN
      have lx : (cutL none (some r.length) vs1).length = (l.take r.length).length := by rw [dc.length, List.length_map]
      rw [lx, List.take_length] at hk
      have lc2 : ((l.take r.length).filter St.isDeref).length ≤ 100 := Nat.le_trans (List.length_filter_le _ _) (by rw [List.length_take]; omega)
      have hres : conflictsB i1 l ks d i2 r = (match d with
        | .deep => true
        | .shallow => (ks.drop ((l.take r.length).filter St.isDeref).length).isEmpty
        | .drop => !(ks.drop ((l.take r.length).filter St.isDeref).length).contains false) := by
        have q1 : i1 = i2 := by assumption
        have q2 : mayB l r = true := by assumption
        have q3 : ¬ l.length ≤ r.length := by omega
        unfold conflictsB
        rw [if_neg (by simp [q1, q2]), if_neg q3]
        cases d <;> rfl
      rw [hres] at hret
      clear hres
      generalize ((l.take r.length).filter St.isDeref).length = c at hk lc2 hret
      have dk := dat_cut d3 (some c) none
      rw [cut_drop _ ks] at dk
      k_with "compareOp Eq ref ref" => (k_here; (refine' eq_nil (ks := ks.drop c) ?N ?Da (fun _ h => h) ?Db (fun _ h => h) ?hu ?_); (case N => k_asm); (case Da => exact DatIn.tuple (by k_mem) (dk.mono (fun p hp => (have hp' := hdat p hp; by k_mem)))); (case Db => exact DatIn.tuple (vs := []) (by k_mem) .nil); (case hu => ke_room))
      k_with "compareOp NotIn" => (k_here; (refine' notin_kinds (b := false) (ks := ks.drop c) ?N ?Da (fun _ h => h) (.str _ _) (fun _ h => h) ?hu ?_); (case N => k_asm); (case Da => exact DatIn.tuple (by k_mem) (dk.mono (fun p hp => (have hp' := hdat p hp; by k_mem)))); (case hu => ke_room))
      cases d
      all_goals k_steps
      all_goals (rename Fr h₀ L _ _ => kF; rename News h₀ L _ _ => kN)
      case _ =>
        have e0 : (Dp.deep.name == Str.ofString "deep") = true := by decide +kernel
        rw [e0]
        exact hret _ _ kF (news_sub kN (fun p hp => by k_mem))
      all_goals exact hret _ _ kF (news_sub kN (fun p hp => by k_mem))
  case _ =>
    have q2 : mayB l r = false := by assumption
    have e : conflictsB i1 l ks d i2 r = false := by unfold conflictsB; rw [if_pos (by simp [q2])]
    rename Fr h₀ L _ _ => kF
    rename News h₀ L _ _ => kN
    exact e ▸ hret _ _ kF (news_sub kN (fun p hp => by k_mem))
  )
end
end Mine
end
section
local macro_rules | `(tactic| walk_at "own pad") => `(tactic| fail)
local macro_rules | `(tactic| walk_at "own pad") => `(tactic| fail)
local macro_rules | `(tactic| walk_at "own pad") => `(tactic| fail)
local macro_rules | `(tactic| walk_at "own pad") => `(tactic| fail)
local macro_rules | `(tactic| walk_at "own pad") => `(tactic| fail)
local macro_rules | `(tactic| walk_at "own pad") => `(tactic| fail)
local macro_rules | `(tactic| walk_at "own pad") => `(tactic| fail)
local macro_rules | `(tactic| walk_at "own pad") => `(tactic| fail)
local macro_rules | `(tactic| walk_at "own pad") => `(tactic| fail)
local macro_rules | `(tactic| walk_at "own pad") => `(tactic| fail)
local macro_rules | `(tactic| walk_at "own pad") => `(tactic| fail)
local macro_rules | `(tactic| walk_at "own pad") => `(tactic| fail)
local macro_rules | `(tactic| walk_at "own pad") => `(tactic| fail)
local macro_rules | `(tactic| walk_at "own pad") => `(tactic| fail)
open PySem PySem.W PyProof.Rows PySem.Spec PySem.Calls
set_option pp.maxSteps 600
set_option linter.unusedVariables false
namespace Mine
section
local macro_rules | `(tactic| k_all) => `(tactic| first | assumption | exact List.forall_mem_append.mpr ⟨by k_all, by k_all⟩ | exact List.forall_mem_cons.mpr ⟨by (refine neN ?_; (try dsimp only); omega), by k_all⟩)
local macro_rules | `(tactic| k_mem) => `(tactic| first | (with_reducible assumption) | (with_reducible exact List.mem_cons_self) | (with_reducible refine List.mem_append_left _ ?_; k_mem) | (with_reducible refine List.mem_append_right _ ?_; k_mem) | (with_reducible refine List.mem_cons_of_mem _ ?_; k_mem))
local macro_rules | `(tactic| k_memK) => `(tactic| first | (with_reducible assumption) | (with_reducible exact List.mem_cons_self) | (with_reducible refine List.mem_append_left _ ?_; k_memK) | (with_reducible refine List.mem_append_right _ ?_; k_memK) | (with_reducible refine List.mem_cons_of_mem _ ?_; k_memK))
local macro_rules | `(tactic| news_mem) => `(tactic| k_mem)
local macro_rules | `(tactic| walk_at "compareOp NotEq ref ref") => `(tactic| k_extra "compareOp NotEq ref ref")
local macro_rules | `(tactic| walk_at "compareOp Eq ref ref") => `(tactic| k_extra "compareOp Eq ref ref")
local macro_rules | `(tactic| walk_at "compareOp NotIn") => `(tactic| k_extra "compareOp NotIn")
local macro_rules | `(tactic| walk_at "call builtin:len") => `(tactic| k_extra "call builtin:len")
local macro_rules | `(tactic| walk_at "eval ListComp") => `(tactic| k_extra "eval ListComp")
local macro_rules | `(tactic| walk_at "subscriptTail") => `(tactic| k_extra "subscriptTail")
local macro_rules | `(tactic| walk_at "call ref") => `(tactic| k_extra "call ref")
local macro_rules | `(tactic| walk_at "SrcTT") => `(tactic| k_extra "SrcTT")
set_option maxRecDepth 100000 in
set_option maxHeartbeats 8000000 in
theorem within_call {w : World} {dp un : Nat} {gd : Option (List Code)} {cn : Str} {cs : Scope} {fa : Addr} {ccd : Value} {cl : List (Str × Addr)} {outer : List Env} {A₀ : Around} {base h₀ : Heap} {L : Addr} {m : Str → Option Value} {mean : ExcName → Option Value} {mg mb : Str → Option Value}
    {s : Shared} {Q E : Value → Shared → Prop}
    {news dat : List (Addr × Obj)} {v1 v2 v3 v4 : Value} {ri ro : List St} {ks ls : List Bool}
    (B : Below A₀ base outer h₀) (F : Fr h₀ L s.heap m) (X : (hd.heap_39 w.params).In h₀) (N₀ : News h₀ L s.heap news) (T : TopN mean mg mb h₀) (hk : cs.kind = .function)
    (hdat : ∀ p ∈ dat, p ∈ news) (h1 : DatIn dat v1 (.tuple (ri.map St.enc))) (h2 : DatIn dat v2 (.tuple (ro.map St.enc))) (h3 : DatIn dat v3 (.tuple (ks.map kd))) (h4 : DatIn dat v4 (.list (ls.map kd)))
    (li : ri.length ≤ 100) (lo : ro.length ≤ 100) (lk : ks.length ≤ 100)
    (hdp : dp + 2 < recursionLimit) (hun : un + 8 * 16 < cLine)
    (hret : ∀ (h' : Heap) (tk' : Nat), Fr h₀ L h' m → News h₀ L h' news → Q (.bool (withinB ri ro ks ls)) { s with heap := h', toks := tk' }) :
    wpAny (model Challenge.rw_nz0122_01.row.prog w) (ktrTop dp un gd cn cs L fa ccd cl outer) (call (.ref 85) [v1, v2, v3, v4]) Q E s := by
  have N := N₀
  clear N₀
  obtain ⟨t1, vs1, n1, rfl, g1, d1⟩ := dat_tup h1
  obtain ⟨t2, vs2, n2, rfl, g2, d2⟩ := dat_tup h2
  obtain ⟨t3, vs3, n3, rfl, g3, d3⟩ := dat_tup h3
  obtain ⟨t4, vs4, n4, rfl, g4, d4⟩ := dat_lst h4
  have m1 := hdat _ g1
  have m2 := hdat _ g2
  have m3 := hdat _ g3
  have m4 := hdat _ g4
  clear h1 h2 h3
  have e1 : vs1.length = ri.length := by rw [d1.length, List.length_map]
  have e2 : vs2.length = ro.length := by rw [d2.length, List.length_map]
  have e3 : vs3.length = ks.length := by rw [d3.length, List.length_map]
  have dc := dat_cut d1 none (some ro.length)
  rw [cut_take _ ri] at dc
  w_on
  w_strict (
  k_with_none
  revert X; k_fill; intro X
  refine wpAny_call ?_
  k_dflt (refine' code_defC ?k1 ?k2 ?k3 ?k4 ?k5 ?kA ?kF ?kK ?k6 ?k7 ?k8 ?k9 ?kB ?kD ?_ ?c2 ?c3 ?c4; (case kA => exact rfl); (case kF => exact rfl); (case kK => assumption); (case k1 => k_asm); (case k2 => k_asm); (case k3 => k_asm); (case k4 => k_asm); (case k5 => k_asm); (case k6 => k_is); (case k7 => k_is); (case k8 => ktr_room); (case k9 => exact BindsTo.of_eq rfl); (case kB => exact rfl); (case kD => decide +kernel); (case c2 => exact rfl); (case c3 => exact rfl); (case c4 => exact rfl); k_whole; intro g' L' h' tk' cells' FG' F' N' Y' B' X' T' l1; (try k_lt l1); k_cells Y'; (try simp only [List.cons_append, List.nil_append] at N'); (try dsimp only); (try k_fold))
  k_with_none
  k_with "call builtin:len" => (k_here; first | (refine' lenT ?k1 ?k2 ?k3 ?k4 ?_; (case k1 => k_asm); (case k2 => k_mem); (case k3 => assumption); (case k4 => omega)) | (refine' lenL ?k1 ?k2 ?k3 ?k4 ?_; (case k1 => k_asm); (case k2 => k_mem); (case k3 => assumption); (case k4 => omega)))
  k_with "eval ListComp" => (k_here; lcg_calm; k_dflt (refine comp_TT (F₀ := by k_asm) (by with_unfolding_all rfl) (by decide) (by rfl) (by decide) (by rfl) ?_))
  k_with "subscriptTail" => (k_here; (with_reducible show wpAny _ _ (subscriptTail _ _ (Value.ref _) (Value.ref _)) _ _ _); (refine' cut_tup ?F ?N ?ht ?pl ?pu ?hsz ?h ?hs ?hg); (case F => k_asm); (case N => k_asm); (case ht => k_mem); (case pl => first | exact PartN.none | exact PartN.int _ _); (case pu => first | exact PartN.none | exact PartN.int _ _); (case hsz => (rw [List.size_toArray, sizeLine_eq]; omega)); (case hs => with_unfolding_all rfl); (case hg => (intro _; with_unfolding_all rfl)); (case' h => (intro t' n' h' F' N'; (try dsimp only); (try k_fold))))
  k_with "compareOp NotEq ref ref" => (k_here; (refine' roads_ne (l := ri.take ro.length) (r := ro) ?N ?Da (fun _ h => h) ?Db (fun _ h => h) ?hu ?_); (case N => k_asm); (case Da => exact DatIn.tuple (by k_mem) (dc.mono (fun p hp => (have hp' := hdat p hp; by k_mem)))); (case Db => exact DatIn.tuple (by k_mem) (d2.mono (fun p hp => (have hp' := hdat p hp; by k_mem)))); (case hu => ke_room))
  k_with "compareOp Eq ref ref" => (k_here; (refine' eq_deref (st := st) ?N ?Da ?sa ?Db (fun _ h => h) ?hu ?_); (case N => k_asm); (case Da => exact dst); (case sa => exact fun p hp => (have hp' := hdat p hp; by k_mem)); (case Db => exact DatIn.tuple (vs := [_]) (by k_mem) (.cons (.str _ _) .nil)); (case hu => ke_room))
  k_with "compareOp Eq ref ref" => (k_here; (refine' eq_nilL (ks := (cutL (some c1) (some c2) ks).filter fun k => !ls.contains k) ?N ?Da (fun _ h => h) ?Db (fun _ h => h) ?hu ?_); (case N => k_asm); (case Da => exact mD _ (by k_mem)); (case Db => exact DatIn.list (vs := []) (by k_mem) .nil); (case hu => ke_room))
  k_with "compareOp NotIn" => (k_here; (refine' notin_lets (b := b) (ks := ls) ?N ?Da ?sa (.str _ _) (fun _ h => h) ?hu ?_); (case N => k_asm); (case Da => exact h4); (case sa => exact fun p hp => (have hp' := hdat p hp; by k_mem)); (case hu => ke_room))
  k_steps
  case _ =>
    rename Fr _ _ _ _ => kF
    rename News _ _ _ _ => kN
    refine SrcTT.mk (fun i ys => ys.length = ((ro.take i).filter St.isDeref).length) (by rfl) kF kN (by k_mem) (by rw [sizeLine_eq]; omega) (by simp) ?zt ?zd
    case zt =>
      intro i v hv g
      unfold TurnT
      intro ys I oI C oC D m₂ h1 tk1 E' hk hC hx F1 N1 off ne
      clear kF kN
      obtain ⟨st, est, dst⟩ := dat_at d2 hv
      have hcnt := count_turn St.isDeref _ _ _ est
      obtain ⟨t9, hv9⟩ := step_ref dst
      subst hv9
      k_steps
      all_goals (rename Fr _ _ _ _ => kF; rename News _ _ _ _ => kN; rename St.isDeref st = _ => hd9; rw [hd9] at hcnt; exact TurnEnd.intro kF kN (fun p hp => by k_mem) (by simp only [if_true, eq_self, Bool.false_eq_true, if_false, List.length_append, List.length_singleton] at hcnt ⊢; omega))
    case zd =>
      intro D h1 tk1 ys hk F1 N1 off
      clear kF kN
      rw [e2, List.take_length] at hk
      have lc1 : (ro.filter St.isDeref).length ≤ 100 := Nat.le_trans (List.length_filter_le _ _) lo
      generalize hc1 : (ro.filter St.isDeref).length = c1 at hk lc1
      k_steps
      rename Fr _ _ _ _ => kF
      rename News _ _ _ _ => kN
      refine SrcTT.mk (fun i ys => ys.length = ((ri.take i).filter St.isDeref).length) (by rfl) kF kN (by k_mem) (by rw [sizeLine_eq]; omega) (by simp) ?zu ?ze
      case zu =>
        intro i v hv g
        unfold TurnT
        intro ys I oI C oC D m₂ h1 tk1 E' hk hC hx F1 N1 off ne
        clear kF kN
        obtain ⟨st, est, dst⟩ := dat_at d1 hv
        have hcnt := count_turn St.isDeref _ _ _ est
        obtain ⟨t9, hv9⟩ := step_ref dst
        subst hv9
        k_steps
        all_goals (rename Fr _ _ _ _ => kF; rename News _ _ _ _ => kN; rename St.isDeref st = _ => hd9; rw [hd9] at hcnt; exact TurnEnd.intro kF kN (fun p hp => by k_mem) (by simp only [if_true, eq_self, Bool.false_eq_true, if_false, List.length_append, List.length_singleton] at hcnt ⊢; omega))
  
      case ze =>
        intro D2 h2 tk2 ys2 hk2 F2 N2 off2
        clear kF kN
        rw [e1, List.take_length] at hk2
        have lc2 : (ri.filter St.isDeref).length ≤ 100 := Nat.le_trans (List.length_filter_le _ _) li
        generalize hc2 : (ri.filter St.isDeref).length = c2 at hk2 lc2
        have dk := dat_cut d3 (some c1) (some c2)
        have hres : ri.take ro.length = ro → withinB ri ro ks ls = ((cutL (some c1) (some c2) ks).filter fun k => !ls.contains k).isEmpty := fun e => by
          unfold withinB
          rw [if_pos e, hc1, hc2]
          rfl
        have lk2 := cut_len (some c1) (some c2) vs3
        k_steps
        rename Fr _ _ _ _ => kF
        rename News _ _ _ _ => kN
        refine SrcTT.mk (fun i ys => DatAll [] ys ((((cutL (some c1) (some c2) ks).take i).filter fun k => !ls.contains k).map kd)) (by rfl) kF kN (by k_mem) (by rw [sizeLine_eq]; omega) .nil ?zv ?zf
        case zv =>
          intro i v hv g
          unfold TurnT
          intro ys I oI C oC D m₂ h1 tk1 E' hk hC hx F1 N1 off ne
          clear kF kN
          obtain ⟨b, eb, db⟩ := dat_at dk hv
          have hcnt := filter_turn (fun k => !ls.contains k) _ _ _ eb
          obtain ⟨tb, hv9⟩ := kind_str db
          subst hv9
          k_steps
          case _ =>
            have hd9 : ls.contains b = true := by assumption
            rename Fr _ _ _ _ => kF
            rename News _ _ _ _ => kN
            exact TurnEnd.intro kF kN (fun p hp => by k_mem) (by rw [hcnt, hd9]; simp only [Bool.not_true, Bool.false_eq_true, if_false, List.append_nil]; exact hk)
          case _ =>
            have hd9 : ls.contains b = false := by assumption
            rename Fr _ _ _ _ => kF
            rename News _ _ _ _ => kN
            exact TurnEnd.intro kF kN (fun p hp => by k_mem) (by rw [hcnt, hd9]; simp only [Bool.not_false, if_true, eq_self]; rw [List.map_append]; exact hk.append (DatAll.one (.str _ _)))
        case zf =>
          intro D3 h3 tk3 ys3 hk3 F3 N3 off3
          clear kF kN
          have lx : (cutL (some c1) (some c2) vs3).length = (cutL (some c1) (some c2) ks).length := by rw [dk.length, List.length_map]
          rw [lx, List.take_length] at hk3
          have mD : ∀ nw : List (Addr × Obj), (D3, LCg.lst ys3) ∈ nw → DatIn nw (.ref D3) (.list (((cutL (some c1) (some c2) ks).filter fun k => !ls.contains k).map kd)) := fun nw h => DatIn.list h (hk3.mono (fun p hp => absurd hp List.not_mem_nil))
          k_with "compareOp Eq ref ref" => (refine Stop.out ?_)
          k_steps
          refine Stop.intro ?_
          k_here
          (refine' eq_nilL (ks := (cutL (some c1) (some c2) ks).filter fun k => !ls.contains k) ?N ?Da (fun _ h => h) ?Db (fun _ h => h) ?hu ?_)
          case N => k_asm
          case Da => exact mD _ (by k_mem)
          case Db => exact DatIn.list (vs := []) (by k_mem) .nil
          case hu => ke_room
          k_steps
          rename Fr h₀ L _ _ => kF
          rename News h₀ L _ _ => kN
          have e9 : ri.take ro.length = ro := by assumption
          rw [hres e9] at hret
          exact hret _ _ kF (news_sub kN (fun p hp => by k_mem))
  case _ => 
    have e9 : ¬ ri.take ro.length = ro := by assumption
    rename Fr h₀ L _ _ => kF
    rename News h₀ L _ _ => kN
    unfold withinB at hret
    rw [if_neg e9] at hret
    exact hret _ _ kF (news_sub kN (fun p hp => by k_mem))
  )
end
end Mine
end
section
open PySem PySem.W PyProof.Rows PySem.Spec PySem.Calls
set_option linter.unusedVariables false
set_option maxHeartbeats 2000000
namespace Mine
section
variable {prog : Program} {w : World} {A : Around} {E : Value → Shared → Prop} {R : Result → Shared → Prop} {s : Shared}
theorem turn_out (elt t0 i0 t1 i1 : Expr) (scope : Scope) (pos : Pos) (it acc : Value) (env : Env) :
    compTurn (.ListComp elt [⟨t0, i0, [], 0⟩, ⟨t1, i1, [], 0⟩] scope pos) 0 it acc env = (standAt i0.pos >>= fun _ => pyNext it >>= fun r => match r with
      | none => pure (.done .next)
      | some v => letOwnedTupleGo t0 it v >>= fun _ => assign t0 env v >>= fun _ => eval i1 env >>= fun x => standAt i1.pos >>= fun _ => foldedSetIterable i1 env x >>= fun x =>
        holding [x] (pyIter x) >>= fun it1 => runOwn (.compStart (.ListComp elt [⟨t0, i0, [], 0⟩, ⟨t1, i1, [], 0⟩] scope pos) 1 it1 acc env) env >>= fun _ =>
          again (.compLoop (.ListComp elt [⟨t0, i0, [], 0⟩, ⟨t1, i1, [], 0⟩] scope pos) 0 it acc env)) := by rfl
theorem turn_in (elt t0 i0 t1 i1 : Expr) (scope : Scope) (pos : Pos) (it acc : Value) (env : Env) :
    compTurn (.ListComp elt [⟨t0, i0, [], 0⟩, ⟨t1, i1, [], 0⟩] scope pos) 1 it acc env = (standAt i1.pos >>= fun _ => pyNext it >>= fun r => match r with
      | none => pure (.done .next)
      | some v => letOwnedTupleGo t1 it v >>= fun _ => assign t1 env v >>= fun _ =>
        (eval elt env >>= fun x => call (.builtin "list.append") [acc, x] >>= fun _ => pure ()) >>= fun _ =>
          again (.compLoop (.ListComp elt [⟨t0, i0, [], 0⟩, ⟨t1, i1, [], 0⟩] scope pos) 1 it acc env)) := by rfl
theorem start_n {n : Nat} {elt t0 i0 t1 i1 : Expr} {scope : Scope} {pos : Pos} {it acc : Value} {env : Env} (hn : n = 0 ∨ n = 1)
    (h0 : codeAny (model prog w) A (.compLoop (.ListComp elt [⟨t0, i0, [], 0⟩, ⟨t1, i1, [], 0⟩] scope pos) n it acc env) R s)
    (h : ∀ E', wpAny (model prog w) A (pyIter it) (fun it' s' => codeAny (model prog w) A (.compLoop (.ListComp elt [⟨t0, i0, [], 0⟩, ⟨t1, i1, [], 0⟩] scope pos) n it' acc env) R s') E' s) :
    codeAny (model prog w) A (.compStart (.ListComp elt [⟨t0, i0, [], 0⟩, ⟨t1, i1, [], 0⟩] scope pos) n it acc env) R s := by
  refine codeAny_of_tree ?_
  show wpAny _ _ ((compStart (.ListComp elt [⟨t0, i0, [], 0⟩, ⟨t1, i1, [], 0⟩] scope pos) n it acc env).onRaise (fun x => do noteFrame x env; standAt theWindowsPlace)) _ _ s
  refine wpAny_notedAt ?_
  unfold compStart
  rcases hn with rfl | rfl
  all_goals
    show wpAny _ _ (ask >>= _) _ _ s
    refine wpAny_bind (wpAny_askSetting (wpAny_ite ?_))
    split
    · first
        | exact wpAny_bind (wpAny_pure (wpAny_pure (And.intro rfl h0)))
        | exact wpAny_pure (And.intro rfl h0)
    · first
        | exact wpAny_bind (wpAny_rule (wpAny_bind (wpAny_standAt (wpAny_bind (wpAny_mono (h _) (fun it' s' h' => wpAny_pure (And.intro rfl h')) fun _ _ x => x)))))
        | (refine wpAny_bind (wpAny_rule ?_); refine wpAny_bind (wpAny_standAt ?_); exact wpAny_bind (wpAny_mono (h _) (fun it' s' h' => wpAny_pure (And.intro rfl h')) fun _ _ x => x))
theorem loop_in {elt t0 i0 t1 i1 : Expr} {scope : Scope} {pos : Pos} {it acc : Value} {env : Env} (I : Nat → Shared → Prop)
    (turn : ∀ n s E', I n s → wpAny (model prog w) A (pyNext it) (fun r s₁ => match r with
      | none => R (.ok .next) s₁
      | some v => wpAny (model prog w) A (assign t1 env v) (fun _ s₂ => wpAny (model prog w) A (eval elt env) (fun x s₃ =>
          wpAny (model prog w) A (call (.builtin "list.append") [acc, x]) (fun _ s₄ => ∃ m, m < n ∧ I m s₄) E' s₃) E' s₂) E' s₁) E' s)
    (n : Nat) (h : I n s) (ht : ∀ v, letOwnedTupleGo t1 it v = pure ()) :
    codeAny (model prog w) A (.compLoop (.ListComp elt [⟨t0, i0, [], 0⟩, ⟨t1, i1, [], 0⟩] scope pos) 1 it acc env) R s := by
  refine codeAny_loop rfl I (fun n s hI => ?_) n h
  show wpAny _ _ ((compTurn (.ListComp elt [⟨t0, i0, [], 0⟩, ⟨t1, i1, [], 0⟩] scope pos) 1 it acc env).onRaise (fun x => do noteFrame x env; theTreesLotGoes x)) _ _ s
  refine wpAny_noted ?_
  rw [turn_in]
  refine wpAny_bind (wpAny_standAt (wpAny_bind (wpAny_mono (turn n s _ hI) (fun r s₁ h₁ => ?_) fun _ _ h' => h')))
  cases r with
  | none => exact wpAny_pure h₁
  | some v =>
    refine wpAny_bind (wpAny_of_eq (ht v) ?_)
    exact wpAny_bind (wpAny_mono h₁ (fun _ s₂ h₂ => wpAny_bind (wpAny_bind (wpAny_mono h₂ (fun x s₃ h₃ => wpAny_bind (wpAny_mono h₃
      (fun _ s₄ h₄ => wpAny_pure (wpAny_pure ⟨rfl, h₄⟩)) fun _ _ h' => h')) fun _ _ h' => h'))) fun _ _ h' => h')
theorem loop_out {elt t0 i0 t1 i1 : Expr} {scope : Scope} {pos : Pos} {it acc : Value} {env : Env} (I : Nat → Shared → Prop)
    (turn : ∀ n s E', I n s → wpAny (model prog w) A (pyNext it) (fun r s₁ => match r with
      | none => R (.ok .next) s₁
      | some v => wpAny (model prog w) A (assign t0 env v) (fun _ s₂ => wpAny (model prog w) A (eval i1 env) (fun x s₃ =>
          wpAny (model prog w) A (pyIter x) (fun it1 s₄ => ∀ R1 : Result → Shared → Prop, (∀ s₅, (∃ m, m < n ∧ I m s₅) → R1 (.ok .next) s₅) → codeAny (model prog w) A (.compStart (.ListComp elt [⟨t0, i0, [], 0⟩, ⟨t1, i1, [], 0⟩] scope pos) 1 it1 acc env) R1 s₄) E' s₃) E' s₂) E' s₁) E' s)
    (n : Nat) (h : I n s) (ht : ∀ v, letOwnedTupleGo t0 it v = pure ()) (hs : ∀ x, foldedSetIterable i1 env x = pure x) :
    codeAny (model prog w) A (.compLoop (.ListComp elt [⟨t0, i0, [], 0⟩, ⟨t1, i1, [], 0⟩] scope pos) 0 it acc env) R s := by
  refine codeAny_loop rfl I (fun n s hI => ?_) n h
  show wpAny _ _ ((compTurn (.ListComp elt [⟨t0, i0, [], 0⟩, ⟨t1, i1, [], 0⟩] scope pos) 0 it acc env).onRaise (fun x => do noteFrame x env; theTreesLotGoes x)) _ _ s
  refine wpAny_noted ?_
  rw [turn_out]
  refine wpAny_bind (wpAny_standAt (wpAny_bind (wpAny_mono (turn n s _ hI) (fun r s₁ h₁ => ?_) fun _ _ h' => h')))
  cases r with
  | none => exact wpAny_pure h₁
  | some v =>
    refine wpAny_bind (wpAny_of_eq (ht v) ?_)
    refine wpAny_bind (wpAny_mono h₁ (fun _ s₂ h₂ => wpAny_bind (wpAny_mono h₂ (fun x s₃ h₃ => ?_) fun _ _ h' => h')) fun _ _ h' => h')
    refine wpAny_bind (wpAny_standAt (wpAny_bind (wpAny_of_eq (hs x) (wpAny_bind (wpAny_holding (wpAny_mono h₃ (fun it1 s₄ h₄ => ?_) fun _ _ h' => h'))))))
    refine wpAny_bind (wpAny_runOwn ?_)
    exact h₄ _ fun s₅ h₅ => wpAny_pure ⟨rfl, h₅⟩
end
end Mine
end
section
open PySem PySem.W PyProof.Rows PySem.Spec PySem.Calls
set_option linter.unusedVariables false
set_option maxHeartbeats 4000000
namespace Mine
abbrev lsO (xs : List Value) (n : Nat) : Obj := { cls := .type "list", data := .seq (List.toArray xs) n }
theorem fr_ext {h₀ h h' : Heap} {L a : Addr} {m : Str → Option Value} (F : Fr h₀ L h m) (hx : Heap.ExtBut a h h') (ha : a ≠ L) (h0 : h₀.get? a = none) : Fr h₀ L h' m :=
  ⟨F.ns.at' fun o e => hx L o (Ne.symm ha) e, fun b o e => hx b o (fun q => by rw [q, h0] at e; cases e) (F.keep b o e), F.above⟩
theorem news_ext {h₀ h h' : Heap} {L a : Addr} {l : List (Addr × Obj)} (N : News h₀ L h l) (hx : Heap.ExtBut a h h') (off : ∀ p ∈ l, p.1 ≠ a) : News h₀ L h' l :=
  fun p hp => ⟨hx _ _ (off p hp) (N p hp).1, (N p hp).2⟩
/-- the end of an element that is a new tuple -/
def EltEnd (h₀ : Heap) (L : Addr) (m : Str → Option Value) (s₁ : Shared) (led : List (Addr × Obj)) (K : Value → Addr × Obj → Prop) (y : Value) (s₂ : Shared) : Prop :=
  ∃ h' tk t' xs n, y = .ref t' ∧ s₂ = { s₁ with heap := h', toks := tk } ∧ Fr h₀ L h' m ∧ News h₀ L h' ((t', tupO xs n) :: led) ∧ K y (t', tupO xs n)
theorem EltEnd.intro {h₀ : Heap} {L : Addr} {m : Str → Option Value} {s₁ : Shared} {led all : List (Addr × Obj)} {K : Value → Addr × Obj → Prop} {h' : Heap} {tk : Nat} {t' : Addr} {xs : Array Value} {n : Nat}
    (F : Fr h₀ L h' m) (N : News h₀ L h' all) (sub : ∀ p ∈ (t', tupO xs n) :: led, p ∈ all) (k : K (.ref t') (t', tupO xs n)) : EltEnd h₀ L m s₁ led K (.ref t') { s₁ with heap := h', toks := tk } :=
  ⟨h', tk, t', xs, n, rfl, rfl, F, news_sub N sub, k⟩
/-- the element at a pair of items -/
def Elt2 (prog : Program) (w : World) (A : Around) (h₀ : Heap) (L : Addr) (m : Str → Option Value) (env : Env) (elt : Expr) (x0 x1 : Str) (scope : Scope) (cl : List (Str × Addr)) (s : Shared) (v u : Value) (ys : List Value) (nw : List (Addr × Obj)) (K1 : List Value → List (Addr × Obj) → Prop) : Prop :=
  ∀ I1 oI1 I oI C oC D m₂ h tk (E' : Value → Shared → Prop), LCg.NsObj oC m₂ → m₂ x0 = some v → m₂ x1 = some u → Fr h₀ L h m → News h₀ L h ((I1, oI1) :: (I, oI) :: (C, oC) :: (D, LCg.lst ys) :: nw) →
    wpAny (model prog w) A (eval elt (compEnvC scope cl C env)) (EltEnd h₀ L m { s with heap := h, toks := tk } ((I1, oI1) :: (I, oI) :: (C, oC) :: (D, LCg.lst ys) :: nw) (fun y p => K1 (ys ++ [y]) (p :: nw))) E' { s with heap := h, toks := tk }
/-- the sources of a comprehension over two lists -/
def Src2 (prog : Program) (w : World) (A : Around) (h₀ : Heap) (L : Addr) (m : Str → Option Value) (env : Env) (elt : Expr) (x0 x1 xm : Str) (scope : Scope) (cl : List (Str × Addr)) (mf : Addr → Str → Option Value) (Q : Value → Shared → Prop) (xv : Value) (s₁ : Shared) : Prop :=
  ∃ ax xs n zx zs nz c co news, ∃ K : Nat → Nat → List Value → List (Addr × Obj) → Prop, xv = .ref ax ∧ A.handled = none ∧ Fr h₀ L s₁.heap m ∧ News h₀ L s₁.heap news ∧ (ax, lsO xs n) ∈ news ∧ (zx, lsO zs nz) ∈ news ∧
    cl.lookup xm = some c ∧ (c, co) ∈ news ∧ co.data = .cell (some (.ref zx)) ∧ K 0 0 [] news ∧ (∀ i j ys nw, K i j ys nw → ys.length ≤ sizeLine) ∧ (∀ i ys nw, i < xs.length → K i zs.length ys nw → K (i + 1) 0 ys nw) ∧
    (∀ i j v u ys nw g, xs[i]? = some v → zs[j]? = some u → K i j ys nw → (∀ p ∈ news, p ∈ nw) → Elt2 prog w A h₀ L m env elt x0 x1 scope cl { s₁ with heap := g } v u ys nw (K i (j + 1))) ∧
    ∀ D h tk ys nw, K xs.length 0 ys nw → Fr h₀ L h (mf D) → News h₀ L h ((D, LCg.lst ys) :: nw) → (∀ p ∈ news, p ∈ nw) → (∀ p ∈ nw, p.1 ≠ D) → Q (.ref D) { s₁ with heap := h, toks := tk }
section
variable {prog : Program} {w : World} {A : Around} {E : Value → Shared → Prop} {s : Shared} {h₀ : Heap} {L : Addr} {m : Str → Option Value} {env : Env}
theorem block2 {elt i0 : Expr} {x0 x1 xm : Str} {p0 p1 pm : Pos} {scope : Scope} {cl : List (Str × Addr)} {pos : Pos} {s₁ : Shared} {ax : Addr} {xs : List Value} {n : Nat} {zx : Addr} {zs : List Value} {nz : Nat} {c : Addr} {co : Obj} {news : List (Addr × Obj)}
    {K : Nat → Nat → List Value → List (Addr × Obj) → Prop} {RR : Value → Addr → Result → Shared → Prop}
    (hcell : ∀ y ∈ scope.names, y.2 ≠ .cell) (hkind : scope.kind = .function)
    (hx0 : scope.names.lookup x0 = some .local) (hx1 : scope.names.lookup x1 = some .local) (hne : x0 ≠ x1)
    (hkm : ∀ C, (compEnvC scope cl C env).kindOf xm = some .cell) (hdb : (xm == ("__debug__" : Str)) = false)
    (hh : A.handled = none) (F : Fr h₀ L s₁.heap m) (N : News h₀ L s₁.heap news) (hax : (ax, lsO xs n) ∈ news) (hzx : (zx, lsO zs nz) ∈ news)
    (hcl : cl.lookup xm = some c) (hco : (c, co) ∈ news) (hcd : co.data = .cell (some (.ref zx))) (k0 : K 0 0 [] news) (ksz : ∀ i j ys nw, K i j ys nw → ys.length ≤ sizeLine) (knext : ∀ i ys nw, i < xs.length → K i zs.length ys nw → K (i + 1) 0 ys nw)
    (helt : ∀ i j v u ys nw g, xs[i]? = some v → zs[j]? = some u → K i j ys nw → (∀ p ∈ news, p ∈ nw) → Elt2 prog w A h₀ L m env elt x0 x1 scope cl { s₁ with heap := g } v u ys nw (K i (j + 1)))
    (hRR : ∀ D C h tk m' ys nw, Fr h₀ L h m → News h₀ L h ((D, LCg.lst ys) :: nw) → h.Ns C m' → h₀.get? C = none → h₀.get? D = none → C ≠ L → D ≠ L → C ≠ D → (∀ p ∈ nw, p.1 ≠ C ∧ p.1 ≠ D) → (∀ p ∈ news, p ∈ nw) → K xs.length 0 ys nw → RR (.ref D) C (.ok .next) { s₁ with heap := h, toks := tk })
    (hs1 : ∀ C x, foldedSetIterable (.Name xm pm) (compEnvC scope cl C env) x = pure x)
    (ht0 : ∀ it v, letOwnedTupleGo (.Name x0 p0) it v = pure ()) (ht1 : ∀ it v, letOwnedTupleGo (.Name x1 p1) it v = pure ()) :
    wpAny (model prog w) A (pyIter (.ref ax)) (fun it s₂ => wpAny (model prog w) A (newList []) (fun acc s₃ => wpAny (model prog w) A (newFunctionEnv scope env.globals cl [] env.qual none .none (some env)) (fun cenv s₄ =>
      codeAny (model prog w) A (.compStart (.ListComp elt [⟨.Name x0 p0, i0, [], 0⟩, ⟨.Name x1 p1, .Name xm pm, [], 0⟩] scope pos) 0 it acc { cenv with scope := relabel scope env }) (RR acc cenv.locals) s₄) E s₃) E s₂) E s₁ := by
  have hl : s₁.heap.IsList ax xs.toArray := ⟨_, (N _ hax).1, rfl, n, rfl⟩
  refine wpAny_pyIter_list hl ?_
  generalize hI : s₁.heap.objs.size = I
  have up : ∀ b o, s₁.heap.get? b = some o → (s₁.heap.push { cls := .type "list_iterator", data := .fields #[.ref ax, .int 0 0] }).get? b = some o := fun b o e => Heap.get?_push_of_some _ e
  have hit : (s₁.heap.push { cls := .type "list_iterator", data := .fields #[.ref ax, .int 0 0] }).IsListIter I ax 0 := by rw [← hI]; exact ⟨_, Heap.get?_push_size _ rfl, rfl, rfl⟩
  have F2 := F.keeps up
  have N2 := N.grown up
  have hI₀ : h₀.get? I = none := hI ▸ next_is_new F
  have hIL : I ≠ L := hI ▸ Ne.symm (Nat.ne_of_lt F.ns.lt)
  have hIs : I < (s₁.heap.push { cls := .type "list_iterator", data := .fields #[.ref ax, .int 0 0] }).objs.size := by rw [Heap.size_push, hI]; exact Nat.lt_succ_self _
  have offI : ∀ p ∈ news, p.1 ≠ I := fun p hp => hI ▸ Nat.ne_of_lt (Heap.lt_size (N p hp).1)
  generalize s₁.heap.push { cls := .type "list_iterator", data := .fields #[.ref ax, .int 0 0] } = H1 at *
  refine wpAny_newObj_type (wpAny_newFunctionEnv hcell (by intro y hy; simp at hy) (fun h₁ hns₁ hsb₁ => ?_) hkind)
  dsimp only at hns₁ hsb₁ ⊢
  generalize hD : H1.objs.size = D at *
  have F3 : Fr h₀ L (H1.push { cls := .type "list", dict := none, data := .seq ([] : List Value).toArray }) m := F2.push _
  have gD : (H1.push { cls := .type "list", dict := none, data := .seq ([] : List Value).toArray }).get? D = some (LCg.lst []) := by rw [← hD]; exact Heap.get?_push_size _ rfl
  have hD₀ : h₀.get? D = none := hD ▸ next_is_new F2
  have hDL : D ≠ L := hD ▸ Ne.symm (Nat.ne_of_lt F2.ns.lt)
  have hDI : D ≠ I := Ne.symm (Nat.ne_of_lt (hD ▸ hIs))
  have offD : ∀ p ∈ news, p.1 ≠ D := fun p hp => hD ▸ Nat.ne_of_lt (Heap.lt_size (N2 p hp).1)
  have N3 : News h₀ L (H1.push { cls := .type "list", dict := none, data := .seq ([] : List Value).toArray }) news := N2.grown fun b o e => Heap.get?_push_of_some _ e
  have hit3 : (H1.push { cls := .type "list", dict := none, data := .seq ([] : List Value).toArray }).IsListIter I ax 0 := hit.at fun o e => Heap.get?_push_of_some _ e
  have hDs : D < (H1.push { cls := .type "list", dict := none, data := .seq ([] : List Value).toArray }).objs.size := Heap.lt_size gD
  have hIs3 : I < (H1.push { cls := .type "list", dict := none, data := .seq ([] : List Value).toArray }).objs.size := by obtain ⟨o, e, _⟩ := hit3; exact Heap.lt_size e
  generalize H1.push { cls := .type "list", dict := none, data := .seq ([] : List Value).toArray } = H2 at *
  generalize hC : H2.objs.size = C at *
  have hC₀ : h₀.get? C = none := hC ▸ next_is_new F3
  have hCL : C ≠ L := hC ▸ Ne.symm (Nat.ne_of_lt F3.ns.lt)
  have hCI : C ≠ I := Ne.symm (Nat.ne_of_lt hIs3)
  have hCD : C ≠ D := Ne.symm (Nat.ne_of_lt hDs)
  have offC : ∀ p ∈ news, p.1 ≠ C := fun p hp => hC ▸ Nat.ne_of_lt (Heap.lt_size (N3 p hp).1)
  have F4 : Fr h₀ L h₁ m := fr_ext (F3.push _) hsb₁.extBut hCL hC₀
  have N3' : News h₀ L H2 ((D, LCg.lst []) :: news) := fun p hp => by
    rcases List.mem_cons.mp hp with rfl | hp
    · exact ⟨gD, hDL, hD₀⟩
    · exact N3 p hp
  have N4 : News h₀ L h₁ ((D, LCg.lst []) :: news) := news_ext (N3'.grown fun b o e => Heap.get?_push_of_some _ e) hsb₁.extBut fun p hp => by
      rcases List.mem_cons.mp hp with rfl | hp
      · exact Ne.symm hCD
      · exact offC p hp
  have hit4 : h₁.IsListIter I ax 0 := (hit3.at fun o e => Heap.get?_push_of_some _ e).extBut hsb₁.extBut (Ne.symm hCI)
  have outer : ∀ tk0, codeAny (model prog w) A (.compLoop (.ListComp elt [⟨.Name x0 p0, i0, [], 0⟩, ⟨.Name x1 p1, .Name xm pm, [], 0⟩] scope pos) 0 (.ref I) (.ref D) (compEnvC scope cl C env))
      (RR (.ref D) C) { s₁ with heap := h₁, toks := tk0 } := by
    intro tk0
    refine loop_out (fun k s' => ∃ h' tk i ys m' nw, s' = { s₁ with heap := h', toks := tk } ∧ i ≤ xs.length ∧ k = xs.length + 1 - i ∧ h'.IsListIter I ax i ∧ Fr h₀ L h' m ∧ h'.Ns C m' ∧ News h₀ L h' ((D, LCg.lst ys) :: nw) ∧ (∀ p ∈ news, p ∈ nw) ∧
      (∀ p ∈ nw, p.1 ≠ I ∧ p.1 ≠ C ∧ p.1 ≠ D) ∧ K i 0 ys nw) ?_ (xs.length + 1) ⟨h₁, tk0, 0, [], _, news, rfl, Nat.zero_le _, rfl, hit4, F4, hns₁, N4, fun _ h => h, fun p hp => ⟨offI p hp, offC p hp, offD p hp⟩, k0⟩ (ht0 _) (hs1 _)
    rintro k s' E' ⟨h', tk, i, ys, m', nw, rfl, hi, rfl, hit', F', hn', N', sub, off, kk⟩
    have hl' : h'.IsList ax xs.toArray := ⟨_, (N' _ (.tail _ (sub _ hax))).1, rfl, n, rfl⟩
    rcases Nat.lt_or_ge i xs.length with hlt | hge
    · have hv : xs.toArray[i]? = some xs[i] := by simp [hlt]
      refine wpAny_pyNext_list_item hit' hl' hv fun h2 hit2 hs2 => ?_
      have F2' : Fr h₀ L h2 m := fr_ext F' hs2.extBut hIL hI₀
      have N2' : News h₀ L h2 ((D, LCg.lst ys) :: nw) := news_ext N' hs2.extBut fun p hp => by
        rcases List.mem_cons.mp hp with rfl | hp
        · exact hDI
        · exact (off p hp).1
      refine wpAny_assign_Name (wpAny_storeName_local (lookup_relabel_local hx0) (hn'.sameBut hs2 hCI) (fun h3 hn3 hs3 => ?_) (by simp [compEnvC, relabel, hkind]))
      have F3' : Fr h₀ L h3 m := fr_ext F2' hs3.extBut hCL hC₀
      have N3' : News h₀ L h3 ((D, LCg.lst ys) :: nw) := news_ext N2' hs3.extBut fun p hp => by
        rcases List.mem_cons.mp hp with rfl | hp
        · exact Ne.symm hCD
        · exact (off p hp).2.1
      have hit3' : h3.IsListIter I ax (i + 1) := hit2.extBut hs3.extBut (Ne.symm hCI)
      refine wpAny_Name (wpAny_loadName_cell (by simp [compEnvC, relabel, hkind]) (hkm C) hcl ⟨co, (N3' _ (.tail _ (sub _ hco))).1, hcd⟩ ?_) hdb
      refine wpAny_pyIter_list (l := zx) (items := zs.toArray) ⟨_, (N3' _ (.tail _ (sub _ hzx))).1, rfl, nz, rfl⟩ ?_
      intro R1 hR1
      dsimp only at hR1 ⊢
      generalize hJ : h3.objs.size = J
      have hJ₀ : h₀.get? J = none := hJ ▸ next_is_new F3'
      have hJL : J ≠ L := hJ ▸ Ne.symm (Nat.ne_of_lt F3'.ns.lt)
      have hJI : J ≠ I := by obtain ⟨o, e, _⟩ := hit3'; exact hJ ▸ Ne.symm (Nat.ne_of_lt (Heap.lt_size e))
      have hJC : J ≠ C := hJ ▸ Ne.symm (Nat.ne_of_lt hn3.lt)
      have hJD : J ≠ D := hJ ▸ Ne.symm (Nat.ne_of_lt (Heap.lt_size (N3' _ (.head _)).1))
      have offJ : ∀ p ∈ nw, p.1 ≠ J := fun p hp => hJ ▸ Nat.ne_of_lt (Heap.lt_size (N3' p (.tail _ hp)).1)
      have up5 : ∀ b o, h3.get? b = some o → (h3.push { cls := .type "list_iterator", data := .fields #[.ref zx, .int 0 0] }).get? b = some o := fun b o e => Heap.get?_push_of_some _ e
      have hit5 : (h3.push { cls := .type "list_iterator", data := .fields #[.ref zx, .int 0 0] }).IsListIter J zx 0 := by rw [← hJ]; exact ⟨_, Heap.get?_push_size _ rfl, rfl, rfl⟩
      have F5 := F3'.keeps up5
      have N5 := N3'.grown up5
      have hit5' := hit3'.at fun o e => up5 _ _ e
      have hn5 := hn3.at' fun o e => up5 _ _ e
      generalize h3.push { cls := .type "list_iterator", data := .fields #[.ref zx, .int 0 0] } = h5 at *
      have inner : ∀ tk0, codeAny (model prog w) A (.compLoop (.ListComp elt [⟨.Name x0 p0, i0, [], 0⟩, ⟨.Name x1 p1, .Name xm pm, [], 0⟩] scope pos) 1 (.ref J) (.ref D) (compEnvC scope cl C env)) R1 { s₁ with heap := h5, toks := tk0 } := by
        intro tk0
        refine loop_in (fun k s' => ∃ h' tk j ys m' nw, s' = { s₁ with heap := h', toks := tk } ∧ j ≤ zs.length ∧ k = zs.length + 1 - j ∧ h'.IsListIter J zx j ∧ h'.IsListIter I ax (i + 1) ∧ Fr h₀ L h' m ∧ h'.Ns C m' ∧ m' x0 = some xs[i] ∧
          News h₀ L h' ((D, LCg.lst ys) :: nw) ∧ (∀ p ∈ news, p ∈ nw) ∧ (∀ p ∈ nw, p.1 ≠ J ∧ p.1 ≠ I ∧ p.1 ≠ C ∧ p.1 ≠ D) ∧ K i j ys nw) ?_ (zs.length + 1)
          ⟨h5, tk0, 0, ys, _, nw, rfl, Nat.zero_le _, rfl, hit5, hit5', F5, hn5, by simp, N5, sub, fun p hp => ⟨offJ p hp, off p hp⟩, kk⟩ (ht1 _)
        clear hit5 hit5' F5 N5 hn5 N3' F3' hit3' offJ hn3 kk off sub N' hn' F' hit' hl' N2' F2'
        rintro k s' E'' ⟨h', tk, j, ys, m', nw, rfl, hj, rfl, hitJ, hitI, F', hn', hm0, N', sub, off, kk⟩
        have hz' : h'.IsList zx zs.toArray := ⟨_, (N' _ (.tail _ (sub _ hzx))).1, rfl, nz, rfl⟩
        rcases Nat.lt_or_ge j zs.length with hlt2 | hge2
        · have hu : zs.toArray[j]? = some zs[j] := by simp [hlt2]
          refine wpAny_pyNext_list_item hitJ hz' hu fun h6 hit6 hs6 => ?_
          have F6 : Fr h₀ L h6 m := fr_ext F' hs6.extBut hJL hJ₀
          have N6 : News h₀ L h6 ((D, LCg.lst ys) :: nw) := news_ext N' hs6.extBut fun p hp => by
            rcases List.mem_cons.mp hp with rfl | hp
            · exact Ne.symm hJD
            · exact (off p hp).1
          have hitI6 := hitI.extBut hs6.extBut (Ne.symm hJI)
          refine wpAny_assign_Name (wpAny_storeName_local (lookup_relabel_local hx1) (hn'.sameBut hs6 (Ne.symm hJC)) (fun h7 hn7 hs7 => ?_) (by simp [compEnvC, relabel, hkind]))
          have F7 : Fr h₀ L h7 m := fr_ext F6 hs7.extBut hCL hC₀
          have N7 : News h₀ L h7 ((D, LCg.lst ys) :: nw) := news_ext N6 hs7.extBut fun p hp => by
            rcases List.mem_cons.mp hp with rfl | hp
            · exact Ne.symm hCD
            · exact (off p hp).2.2.1
          have hitI7 := hitI6.extBut hs7.extBut (Ne.symm hCI)
          have hit7 := hit6.extBut hs7.extBut hJC
          obtain ⟨oJ, eJ, cJ, dJ⟩ := hit7
          obtain ⟨oI, eI, cI, dI⟩ := hitI7
          obtain ⟨oC, eC, hoC⟩ := LCg.ns_obj hn7
          have N8 : News h₀ L h7 ((J, oJ) :: (I, oI) :: (C, oC) :: (D, LCg.lst ys) :: nw) := fun p hp => by
            rcases List.mem_cons.mp hp with rfl | hp
            · exact ⟨eJ, hJL, hJ₀⟩
            · rcases List.mem_cons.mp hp with rfl | hp
              · exact ⟨eI, hIL, hI₀⟩
              · rcases List.mem_cons.mp hp with rfl | hp
                · exact ⟨eC, hCL, hC₀⟩
                · exact N7 p hp
          refine wpAny_mono (helt i j xs[i] zs[j] ys nw h7 (by simp [hlt]) (by simp [hlt2]) kk sub J oJ I oI C oC D _ h7 _ E'' hoC (by simp [hne, hm0]) (by simp) F7 N8) (fun y s8 h8 => ?_) fun _ _ e => e
          obtain ⟨h9, tk9, t', vs', n', rfl, rfl, F9, N9, k9⟩ := h8
          have gt := (N9 _ (.head _)).1
          have gJ := (N9 (J, oJ) (.tail _ (.head _))).1
          have gI := (N9 (I, oI) (.tail _ (.tail _ (.head _)))).1
          have gC := (N9 (C, oC) (.tail _ (.tail _ (.tail _ (.head _))))).1
          have gD := (N9 (D, LCg.lst ys) (.tail _ (.tail _ (.tail _ (.tail _ (.head _)))))).1
          have tJ : t' ≠ J := fun q => by
            rw [q, gJ] at gt
            have q2 : oJ = tupO vs' n' := Option.some.inj gt
            rw [q2] at cJ
            exact absurd (show Value.type "tuple" = Value.type "list_iterator" from cJ) (by decide)
          have tI : t' ≠ I := fun q => by
            rw [q, gI] at gt
            have q2 : oI = tupO vs' n' := Option.some.inj gt
            rw [q2] at cI
            exact absurd (show Value.type "tuple" = Value.type "list_iterator" from cI) (by decide)
          have tC : t' ≠ C := fun q => by
            rw [q, gC] at gt
            obtain ⟨es, ep, hd, _⟩ := hoC
            have q2 : oC = tupO vs' n' := Option.some.inj gt
            rw [q2] at hd
            cases hd
          have tD : t' ≠ D := fun q => by
            rw [q, gD] at gt
            have q2 : LCg.lst ys = tupO vs' n' := Option.some.inj gt
            have q3 := congrArg Obj.cls q2
            exact absurd (show Value.type "list" = Value.type "tuple" from q3) (by decide)
          refine append_at (hsz := by rw [List.size_toArray]; exact ksz _ _ _ _ kk) gD fun h10 hs10 hD10 => ?_
          have offD' : ∀ p ∈ (t', tupO vs' n') :: nw, p.1 ≠ D := fun p hp => by
            rcases List.mem_cons.mp hp with rfl | hp
            · exact tD
            · exact (off p hp).2.2.2
          refine ⟨zs.length + 1 - (j + 1), by omega, h10, tk9, j + 1, ys ++ [.ref t'], _, (t', tupO vs' n') :: nw, rfl, hlt2, rfl, ?_, ?_, fr_ext F9 hs10.extBut hDL hD₀, (hoC.ns gC).sameBut hs10 hCD, by simp [hne, hm0], fun p hp => ?_, fun p hp => .tail _ (sub p hp), fun p hp => ?_, k9⟩
          · exact ⟨oJ, hs10.extBut _ _ hJD gJ, cJ, dJ⟩
          · exact ⟨oI, hs10.extBut _ _ (Ne.symm hDI) gI, cI, dI⟩
          · rcases List.mem_cons.mp hp with rfl | hp
            · exact ⟨hD10.trans (congrArg some (LCg.lst_snoc ys _)), hDL, hD₀⟩
            · have z : p ∈ (t', tupO vs' n') :: (J, oJ) :: (I, oI) :: (C, oC) :: (D, LCg.lst ys) :: nw := by
                rcases List.mem_cons.mp hp with rfl | hp
                · exact .head _
                · exact .tail _ (.tail _ (.tail _ (.tail _ (.tail _ hp))))
              exact ⟨hs10.extBut _ _ (offD' p hp) (N9 p z).1, (N9 p z).2⟩
          · rcases List.mem_cons.mp hp with rfl | hp
            · exact ⟨tJ, tI, tC, tD⟩
            · exact off p hp
        · obtain rfl : j = zs.length := Nat.le_antisymm hj hge2
          refine wpAny_pyNext_list_end hh hitJ hz' (by simp) fun h6 he6 => ?_
          refine hR1 _ ⟨xs.length + 1 - (i + 1), by omega, h6, tk, i + 1, ys, m', nw, rfl, hlt, rfl, hitI.extBut he6 (Ne.symm hJI), fr_ext F' he6 hJL hJ₀, hn'.extBut he6 (Ne.symm hJC), ?_, sub, fun p hp => (off p hp).2, knext i ys nw hlt kk⟩
          exact news_ext N' he6 fun p hp => by
            rcases List.mem_cons.mp hp with rfl | hp
            · exact Ne.symm hJD
            · exact (off p hp).1
      exact start_n (.inr rfl) (inner _) fun E'' => wpAny_pyIter_listiter hit5 (inner _)
    · obtain rfl : i = xs.length := Nat.le_antisymm hi hge
      refine wpAny_pyNext_list_end hh hit' hl' (by simp) fun h2 he2 => ?_
      have F2' := fr_ext F' he2 hIL hI₀
      have N2' : News h₀ L h2 ((D, LCg.lst ys) :: nw) := news_ext N' he2 fun p hp => by
        rcases List.mem_cons.mp hp with rfl | hp
        · exact hDI
        · exact (off p hp).1
      exact hRR D C h2 tk m' ys nw F2' N2' (hn'.extBut he2 hCI) hC₀ hD₀ hCL hDL hCD (fun p hp => (off p hp).2) sub kk
  exact start_n (.inl rfl) (outer _) fun E' => wpAny_pyIter_listiter hit4 (outer _)
theorem comp2 {elt i0 : Expr} {x0 x1 xm : Str} {p0 p1 pm : Pos} {scope : Scope} {cl : List (Str × Addr)} {pos : Pos} {Q : Value → Shared → Prop} (F₀ : Fr h₀ L s.heap m)
    (hclos : closureFor scope env = pure cl) (hcell : ∀ y ∈ scope.names, y.2 ≠ .cell) (hkind : scope.kind = .function)
    (hnames : ∀ y ∈ scope.names, y.2 = .local → scope.names.lookup y.1 = some .local) (hx0 : scope.names.lookup x0 = some .local) (hx1 : scope.names.lookup x1 = some .local) (hne : x0 ≠ x1)
    (hkm : ∀ C, (compEnvC scope cl C env).kindOf xm = some .cell) (hdb : (xm == ("__debug__" : Str)) = false)
    (h : wpAny (model prog w) A (eval i0 env) (Src2 prog w A h₀ L m env elt x0 x1 xm scope cl (fun _ => m) Q) E s)
    (hs : ∀ x, foldedSetIterable i0 env x = pure x := by intro _; rfl) (hs1 : ∀ C x, foldedSetIterable (.Name xm pm) (compEnvC scope cl C env) x = pure x := by intro _ _; rfl)
    (ht0 : ∀ it v, letOwnedTupleGo (.Name x0 p0) it v = pure () := by intro _ _; rfl) (ht1 : ∀ it v, letOwnedTupleGo (.Name x1 p1) it v = pure () := by intro _ _; rfl) :
    wpAny (model prog w) A (eval (.ListComp elt [⟨.Name x0 p0, i0, [], 0⟩, ⟨.Name x1 p1, .Name xm pm, [], 0⟩] scope pos) env) Q E s := by
  rw [eval_ListComp]
  refine wpAny_comprehension_free (use := none) rfl hs hclos hkind hnames (wpAny_mono h (fun xv s₁ h₁ => ?_) fun _ _ e => e)
  obtain ⟨ax, xs, n, zx, zs, nz, c, co, news, K, rfl, hh, F, N, hax, hzx, hcl, hco, hcd, k0, ksz, knext, helt, fin⟩ := h₁
  refine block2 hcell hkind hx0 hx1 hne hkm hdb hh F N hax hzx hcl hco hcd k0 ksz knext helt ?_ hs1 ht0 ht1
  intro D C h tk m' ys nw F' N' hn hC₀ hD₀ hCL hDL hCD off sub kk
  refine ⟨m', hn, fun h'' hs'' => fin D h'' tk ys nw kk (fr_ext F' hs''.extBut hCL hC₀) (news_ext N' hs''.extBut fun p hp => ?_) sub fun p hp => (off p hp).2⟩
  rcases List.mem_cons.mp hp with rfl | hp
  · exact Ne.symm hCD
  · exact (off p hp).1
theorem assign_comp2 {elt i0 : Expr} {x0 x1 xm y : Str} {p0 p1 pm py spos : Pos} {scope : Scope} {cl : List (Str × Addr)} {pos : Pos} {Q : Flow → Shared → Prop} (F₀ : Fr h₀ L s.heap m) (hLe : env.locals = L)
    (hsw : swapsWith (.ListComp elt [⟨.Name x0 p0, i0, [], 0⟩, ⟨.Name x1 p1, .Name xm pm, [], 0⟩] scope pos) (some (.Name y py)) spos.line env = pure true)
    (hclos : closureFor scope env = pure cl) (hcell : ∀ y ∈ scope.names, y.2 ≠ .cell) (hkind : scope.kind = .function)
    (hnames : ∀ y ∈ scope.names, y.2 = .local → scope.names.lookup y.1 = some .local) (hx0 : scope.names.lookup x0 = some .local) (hx1 : scope.names.lookup x1 = some .local) (hne : x0 ≠ x1)
    (hkm : ∀ C, (compEnvC scope cl C env).kindOf xm = some .cell) (hdb : (xm == ("__debug__" : Str)) = false)
    (hy : env.kindOf y = some .local) (hp : (env.scope.kind == .class || (env.scope.kind == .module && env.locals != env.globals)) = false)
    (h : wpAny (model prog w) A (eval i0 env) (Src2 prog w A h₀ L m env elt x0 x1 xm scope cl (fun D z => if z = y then some (.ref D) else m z) (fun _ s' => Q .next s')) E s)
    (hs : ∀ x, foldedSetIterable i0 env x = pure x := by intro _; rfl) (hs1 : ∀ C x, foldedSetIterable (.Name xm pm) (compEnvC scope cl C env) x = pure x := by intro _ _; rfl)
    (ht0 : ∀ it v, letOwnedTupleGo (.Name x0 p0) it v = pure () := by intro _ _; rfl) (ht1 : ∀ it v, letOwnedTupleGo (.Name x1 p1) it v = pure () := by intro _ _; rfl) :
    wpAny (model prog w) A (exec (.Assign [.Name y py] (.ListComp elt [⟨.Name x0 p0, i0, [], 0⟩, ⟨.Name x1 p1, .Name xm pm, [], 0⟩] scope pos) spos) env) Q E s := by
  subst hLe
  rw [exec_Assign_Name_used _ _ _ _ hsw]
  refine wpAny_bind (wpAny_standAt (wpAny_bind ?_))
  show wpAny _ A (do let _ ← comprehension (.ListComp elt [⟨.Name x0 p0, i0, [], 0⟩, ⟨.Name x1 p1, .Name xm pm, [], 0⟩] scope pos) scope env _ (newList []) false (eval i0 env) (some (assign (.Name y py) env))) _ _ s
  refine wpAny_bind (wpAny_mono (wpAny_comprehension_free (use := some (assign (.Name y py) env)) (Q := fun _ s' => Q .next s') rfl hs hclos hkind hnames
    (wpAny_mono h (fun xv s₁ h₁ => ?_) fun _ _ e => e)) (fun _ s' hq => wpAny_pure (wpAny_pure hq)) fun _ _ e => e)
  obtain ⟨ax, xs, n, zx, zs, nz, c, co, news, K, rfl, hh, F, N, hax, hzx, hcl, hco, hcd, k0, ksz, knext, helt, fin⟩ := h₁
  refine block2 hcell hkind hx0 hx1 hne hkm hdb hh F N hax hzx hcl hco hcd k0 ksz knext helt ?_ hs1 ht0 ht1
  intro D C h tk m' ys nw F' N' hn hC₀ hD₀ hCL hDL hCD off sub kk
  show wpAny _ A (assign (.Name y py) env (.ref D)) _ _ _
  refine wpAny_assign_Name (wpAny_storeName_local hy F'.ns (fun h₂ hn₂ hs₂ => ?_) hp)
  have hL₀ : h₀.get? env.locals = none := Heap.get?_none_of_le F'.above
  have F₂ : Fr h₀ env.locals h₂ (fun z => if z = y then some (.ref D) else m z) := ⟨hn₂, fun b o e => hs₂.extBut b o (fun q => by rw [q, hL₀] at e; cases e) (F'.keep b o e), F'.above⟩
  refine ⟨m', hn.sameBut hs₂ hCL, fun h'' hs'' => fin D h'' _ ys nw kk (fr_ext F₂ hs''.extBut hCL hC₀) (fun p hp => ?_) sub fun p hp => (off p hp).2⟩
  have z : h₂.get? p.1 = some p.2 := hs₂.extBut _ _ (N' p hp).2.1 (N' p hp).1
  refine ⟨hs''.extBut _ _ ?_ z, (N' p hp).2⟩
  rcases List.mem_cons.mp hp with rfl | hp
  · exact Ne.symm hCD
  · exact (off p hp).1
theorem Src2.mk {elt : Expr} {x0 x1 xm : Str} {scope : Scope} {cl : List (Str × Addr)} {mf : Addr → Str → Option Value} {Q : Value → Shared → Prop} {s₁ : Shared} {ax : Addr} {xs : List Value} {n : Nat} {zx : Addr} {zs : List Value} {nz : Nat} {c : Addr} {co : Obj} {news : List (Addr × Obj)} (K : Nat → Nat → List Value → List (Addr × Obj) → Prop)
    (hh : A.handled = none) (F : Fr h₀ L s₁.heap m) (N : News h₀ L s₁.heap news) (hax : (ax, lsO xs n) ∈ news) (hzx : (zx, lsO zs nz) ∈ news) (hcl : cl.lookup xm = some c) (hco : (c, co) ∈ news) (hcd : co.data = .cell (some (.ref zx))) (k0 : K 0 0 [] news)
    (ksz : ∀ i j ys nw, K i j ys nw → ys.length ≤ sizeLine) (knext : ∀ i ys nw, i < xs.length → K i zs.length ys nw → K (i + 1) 0 ys nw)
    (helt : ∀ i j v u ys nw g, xs[i]? = some v → zs[j]? = some u → K i j ys nw → (∀ p ∈ news, p ∈ nw) → Elt2 prog w A h₀ L m env elt x0 x1 scope cl { s₁ with heap := g } v u ys nw (K i (j + 1)))
    (fin : ∀ D h tk ys nw, K xs.length 0 ys nw → Fr h₀ L h (mf D) → News h₀ L h ((D, LCg.lst ys) :: nw) → (∀ p ∈ news, p ∈ nw) → (∀ p ∈ nw, p.1 ≠ D) → Q (.ref D) { s₁ with heap := h, toks := tk }) :
    Src2 prog w A h₀ L m env elt x0 x1 xm scope cl mf Q (.ref ax) s₁ := ⟨ax, xs, n, zx, zs, nz, c, co, news, K, rfl, hh, F, N, hax, hzx, hcl, hco, hcd, k0, ksz, knext, helt, fin⟩
end
end Mine
end
section
open PySem PySem.W PyProof.Rows PySem.Spec PySem.Calls
set_option linter.unusedVariables false
set_option maxHeartbeats 2000000
namespace Mine
def marksB : St → List St
  | .index _ => [.index 0, .index 1]
  | st => [st]
def stepRoots (f : List (List St)) (st : St) : List (List St) := f.flatMap fun road => (marksB st).map fun mk => road ++ [mk]
def rootsB (sts : List St) : List (List St) := sts.foldl stepRoots [[]]
theorem ne_obj {h₀ h : Heap} {L : Addr} {l : List (Addr × Obj)} {p q : Addr × Obj} (N : News h₀ L h l) (hp : p ∈ l) (hq : q ∈ l) (hd : p.2 ≠ q.2) : p.1 ≠ q.1 := fun e => by
  have h1 := (N p hp).1
  have h2 := (N q hq).1
  rw [e, h2] at h1
  exact hd (Option.some.inj h1).symm
theorem seq_cell {o : Obj} {cls : Value} {xs : Array Value} {n : Nat} {cv : Option Value} (h : o.data = .cell cv) : ({ cls := cls, data := .seq xs n } : Obj) ≠ o := fun e => by
  rw [← e] at h
  cases h
theorem seq_fields {o : Obj} {cls : Value} {xs : Array Value} {n : Nat} (h : ∃ fs, o.data = .fields fs) : ({ cls := cls, data := .seq xs n } : Obj) ≠ o := fun e => by
  obtain ⟨fs, h⟩ := h
  rw [← e] at h
  cases h
/-- the end of a turn of a loop over a sequence of the ledger -/
def SeqEnd (h₀ : Heap) (L : Addr) (J : (Str → Option Value) → List (Addr × Obj) → Prop) (I : Addr) (oI : Obj) (tp : Addr × Obj) (s : Shared) (Q : Flow → Shared → Prop) (f : Flow) (s' : Shared) : Prop :=
  match f with
  | .ret v => Q (.ret v) s'
  | .brk => Q .next s'
  | _ => ∃ h' tk m' nx, s' = { s with heap := h', toks := tk } ∧ Fr h₀ L h' m' ∧ News h₀ L h' ((I, oI) :: nx) ∧ (∀ p ∈ nx, p.1 ≠ I) ∧ tp ∈ nx ∧ J m' nx
theorem SeqEnd.intro {h₀ : Heap} {L : Addr} {J : (Str → Option Value) → List (Addr × Obj) → Prop} {I : Addr} {oI : Obj} {tp : Addr × Obj} {s : Shared} {Q : Flow → Shared → Prop} {h' : Heap} {tk : Nat} {m' : Str → Option Value} {all : List (Addr × Obj)} (nx : List (Addr × Obj))
    (F : Fr h₀ L h' m') (N : News h₀ L h' all) (sub : ∀ p ∈ (I, oI) :: nx, p ∈ all) (off : ∀ p ∈ nx, p.1 ≠ I) (ht : tp ∈ nx) (j : J m' nx) : SeqEnd h₀ L J I oI tp s Q .next { s with heap := h', toks := tk } :=
  ⟨h', tk, m', nx, rfl, F, news_sub N sub, off, ht, j⟩
section
variable {prog : Program} {w : World} {A : Around} {E : Value → Shared → Prop} {s : Shared} {env : Env} {h₀ : Heap} {x : Str} {body : List Stmt} {Q : Flow → Shared → Prop}
theorem iter_tup {t : Addr} {vs : List Value} {nn : Nat} {m₀ : Str → Option Value} {news : List (Addr × Obj)} (J : Nat → (Str → Option Value) → List (Addr × Obj) → Prop)
    (hh : A.handled = none) (F : Fr h₀ env.locals s.heap m₀) (N : News h₀ env.locals s.heap news) (hl : (t, ({ cls := .type "tuple", data := .seq (List.toArray vs) nn } : Obj)) ∈ news) (hj : J 0 m₀ news)
    (turn : ∀ i v m₁ nx h tk I oI, vs[i]? = some v → (∃ fs, oI.data = .fields fs) → (∀ p ∈ nx, p.1 ≠ I) → (t, ({ cls := .type "tuple", data := .seq (List.toArray vs) nn } : Obj)) ∈ nx → J i m₁ nx → Fr h₀ env.locals h (fun y => if y = x then some v else m₁ y) → News h₀ env.locals h ((I, oI) :: nx) →
      wpAny (model prog w) A (execs body env) (SeqEnd h₀ env.locals (J (i + 1)) I oI (t, ({ cls := .type "tuple", data := .seq (List.toArray vs) nn } : Obj)) s Q) E { s with heap := h, toks := tk })
    (done : ∀ m₁ nx h tk, J vs.length m₁ nx → Fr h₀ env.locals h m₁ → News h₀ env.locals h nx → Q .next { s with heap := h, toks := tk }) :
    wpAny (model prog w) A (pyIter (.ref t)) (fun it s₂ => LoopAtV prog w A h₀ env x body Q E it s₂) E s := by
  have hol : s.heap.get? t = some ({ cls := .type "tuple", data := .seq (List.toArray vs) nn } : Obj) := (N _ hl).1
  have hls : s.heap.IsTuple t vs.toArray := ⟨_, hol, rfl, nn, rfl⟩
  have hne : t ≠ s.heap.objs.size := Nat.ne_of_lt (Heap.lt_size hol)
  refine wpAny_pyIter_tuple hls ?_
  have W := Walks.tuple (prog := prog) (w := w) hh s.heap.objs.size t hne vs.toArray
  have hlen : vs.toArray.size = vs.length := by simp
  rw [hlen] at W
  refine ⟨_, _, _, vs.length, _, _, m₀, news, (fun i m nx => (t, ({ cls := .type "tuple", data := .seq (List.toArray vs) nn } : Obj)) ∈ nx ∧ J i m nx), rfl, W, ?_, ?_, ?_, ⟨⟨_, Heap.get?_push_size _ rfl, rfl, rfl⟩, tup_at hls fun o e => Heap.get?_push_of_some _ e⟩, F.push _, (fun p hp => ⟨Heap.get?_push_of_some _ (N p hp).1, (N p hp).2⟩), ⟨hl, hj⟩, ?_, ?_⟩
  · intro hm
    rcases List.mem_cons.mp hm with e | hm
    · exact absurd F.ns.lt (e ▸ Nat.lt_irrefl _)
    · exact (N _ hl).2.1 ((List.mem_singleton.mp hm).symm)
  · intro b hb
    rw [List.mem_singleton.mp hb]
    exact next_is_new F
  · intro p hp hI
    exact absurd (Heap.lt_size (N p hp).1) ((List.mem_singleton.mp hI) ▸ Nat.lt_irrefl _)
  · rintro i v m₁ news₁ s₁ own ⟨hh', tk', rfl⟩ hin hP ⟨hl₁, hJ⟩ hoff hown hget hfp hst F₁ N₁
    have hP' : vs[i]? = some v := by simpa using hP
    have hI0 : h₀.get? s.heap.objs.size = none := next_is_new F
    obtain ⟨⟨oI, hoI, _, hfI⟩, _⟩ := id hst
    have hIown : (s.heap.objs.size, oI) ∈ own := hfp _ (List.mem_cons.mpr (.inl rfl)) hI0 _ hoI
    have hlo : hh'.get? t = some ({ cls := .type "tuple", data := .seq (List.toArray vs) nn } : Obj) := (N₁ _ (List.mem_append.mpr (.inr hl₁))).1
    have N₂ : News h₀ env.locals hh' ((s.heap.objs.size, oI) :: news₁) := fun p hp => by
      rcases List.mem_cons.mp hp with rfl | hp
      · exact N₁ _ (List.mem_append.mpr (.inl hIown))
      · exact N₁ p (List.mem_append.mpr (.inr hp))
    refine wpAny_mono (turn i v m₁ news₁ hh' tk' _ oI hP' ⟨_, hfI⟩ (fun p hp e => hoff p hp (List.mem_singleton.mpr e)) hl₁ hJ F₁ N₂) (fun f s₂ p => ?_) fun _ _ e => e
    have fin : (∃ h' tk m' nx, s₂ = { s with heap := h', toks := tk } ∧ Fr h₀ env.locals h' m' ∧ News h₀ env.locals h' ((s.heap.objs.size, oI) :: nx) ∧ (∀ p ∈ nx, p.1 ≠ s.heap.objs.size) ∧ (t, ({ cls := .type "tuple", data := .seq (List.toArray vs) nn } : Obj)) ∈ nx ∧ J (i + 1) m' nx) →
        LoopStepU h₀ env.locals [s.heap.objs.size] own (fun m nx => (t, ({ cls := .type "tuple", data := .seq (List.toArray vs) nn } : Obj)) ∈ nx ∧ J (i + 1) m nx) { s with heap := hh', toks := tk' } .next s₂ := by
      rintro ⟨h', tk, m', nx, e, F', N', off', ht', hj'⟩
      refine ⟨rfl, h', tk, m', nx, e, F', fun p hp => ?_, fun p hp hq => off' p hp (List.mem_singleton.mp hq), ht', hj'⟩
      rcases List.mem_append.mp hp with h | h
      · have hg := hget p h
        rcases List.mem_cons.mp (hown p h) with h2 | h2
        · have h3 : p = (s.heap.objs.size, oI) := Prod.ext h2 (by rw [h2, hoI] at hg; exact (Option.some.inj hg).symm)
          rw [h3]
          exact N' _ (.head _)
        · have h1 := List.mem_singleton.mp h2
          have h3 : p = (t, ({ cls := .type "tuple", data := .seq (List.toArray vs) nn } : Obj)) := Prod.ext h1 (by rw [h1, hlo] at hg; exact (Option.some.inj hg).symm)
          rw [h3]
          exact N' _ (.tail _ ht')
      · exact N' p (.tail _ h)
    cases f with
    | ret v => exact .ret p
    | brk => exact .brk p
    | next => exact .next (fin p)
    | cont => exact .cont (fin p)
  · rintro h' tk m' news' F' N' _ ⟨_, hJ⟩
    exact done m' news' h' tk hJ F' N'
theorem iter_lst {t : Addr} {vs : List Value} {nn : Nat} {m₀ : Str → Option Value} {news : List (Addr × Obj)} (J : Nat → (Str → Option Value) → List (Addr × Obj) → Prop)
    (hh : A.handled = none) (F : Fr h₀ env.locals s.heap m₀) (N : News h₀ env.locals s.heap news) (hl : (t, ({ cls := .type "list", data := .seq (List.toArray vs) nn } : Obj)) ∈ news) (hj : J 0 m₀ news)
    (turn : ∀ i v m₁ nx h tk I oI, vs[i]? = some v → (∃ fs, oI.data = .fields fs) → (∀ p ∈ nx, p.1 ≠ I) → (t, ({ cls := .type "list", data := .seq (List.toArray vs) nn } : Obj)) ∈ nx → J i m₁ nx → Fr h₀ env.locals h (fun y => if y = x then some v else m₁ y) → News h₀ env.locals h ((I, oI) :: nx) →
      wpAny (model prog w) A (execs body env) (SeqEnd h₀ env.locals (J (i + 1)) I oI (t, ({ cls := .type "list", data := .seq (List.toArray vs) nn } : Obj)) s Q) E { s with heap := h, toks := tk })
    (done : ∀ m₁ nx h tk, J vs.length m₁ nx → Fr h₀ env.locals h m₁ → News h₀ env.locals h nx → Q .next { s with heap := h, toks := tk }) :
    wpAny (model prog w) A (pyIter (.ref t)) (fun it s₂ => LoopAtV prog w A h₀ env x body Q E it s₂) E s := by
  have hol : s.heap.get? t = some ({ cls := .type "list", data := .seq (List.toArray vs) nn } : Obj) := (N _ hl).1
  have hls : s.heap.IsList t vs.toArray := ⟨_, hol, rfl, nn, rfl⟩
  have hne : t ≠ s.heap.objs.size := Nat.ne_of_lt (Heap.lt_size hol)
  refine wpAny_pyIter_list hls ?_
  have W := Walks.list (prog := prog) (w := w) hh s.heap.objs.size t hne vs.toArray
  have hlen : vs.toArray.size = vs.length := by simp
  rw [hlen] at W
  refine ⟨_, _, _, vs.length, _, _, m₀, news, (fun i m nx => (t, ({ cls := .type "list", data := .seq (List.toArray vs) nn } : Obj)) ∈ nx ∧ J i m nx), rfl, W, ?_, ?_, ?_, ⟨⟨_, Heap.get?_push_size _ rfl, rfl, rfl⟩, hls.at fun o e => Heap.get?_push_of_some _ e⟩, F.push _, (fun p hp => ⟨Heap.get?_push_of_some _ (N p hp).1, (N p hp).2⟩), ⟨hl, hj⟩, ?_, ?_⟩
  · intro hm
    rcases List.mem_cons.mp hm with e | hm
    · exact absurd F.ns.lt (e ▸ Nat.lt_irrefl _)
    · exact (N _ hl).2.1 ((List.mem_singleton.mp hm).symm)
  · intro b hb
    rw [List.mem_singleton.mp hb]
    exact next_is_new F
  · intro p hp hI
    exact absurd (Heap.lt_size (N p hp).1) ((List.mem_singleton.mp hI) ▸ Nat.lt_irrefl _)
  · rintro i v m₁ news₁ s₁ own ⟨hh', tk', rfl⟩ hin hP ⟨hl₁, hJ⟩ hoff hown hget hfp hst F₁ N₁
    have hP' : vs[i]? = some v := by simpa using hP
    have hI0 : h₀.get? s.heap.objs.size = none := next_is_new F
    obtain ⟨⟨oI, hoI, _, hfI⟩, _⟩ := id hst
    have hIown : (s.heap.objs.size, oI) ∈ own := hfp _ (List.mem_cons.mpr (.inl rfl)) hI0 _ hoI
    have hlo : hh'.get? t = some ({ cls := .type "list", data := .seq (List.toArray vs) nn } : Obj) := (N₁ _ (List.mem_append.mpr (.inr hl₁))).1
    have N₂ : News h₀ env.locals hh' ((s.heap.objs.size, oI) :: news₁) := fun p hp => by
      rcases List.mem_cons.mp hp with rfl | hp
      · exact N₁ _ (List.mem_append.mpr (.inl hIown))
      · exact N₁ p (List.mem_append.mpr (.inr hp))
    refine wpAny_mono (turn i v m₁ news₁ hh' tk' _ oI hP' ⟨_, hfI⟩ (fun p hp e => hoff p hp (List.mem_singleton.mpr e)) hl₁ hJ F₁ N₂) (fun f s₂ p => ?_) fun _ _ e => e
    have fin : (∃ h' tk m' nx, s₂ = { s with heap := h', toks := tk } ∧ Fr h₀ env.locals h' m' ∧ News h₀ env.locals h' ((s.heap.objs.size, oI) :: nx) ∧ (∀ p ∈ nx, p.1 ≠ s.heap.objs.size) ∧ (t, ({ cls := .type "list", data := .seq (List.toArray vs) nn } : Obj)) ∈ nx ∧ J (i + 1) m' nx) →
        LoopStepU h₀ env.locals [s.heap.objs.size] own (fun m nx => (t, ({ cls := .type "list", data := .seq (List.toArray vs) nn } : Obj)) ∈ nx ∧ J (i + 1) m nx) { s with heap := hh', toks := tk' } .next s₂ := by
      rintro ⟨h', tk, m', nx, e, F', N', off', ht', hj'⟩
      refine ⟨rfl, h', tk, m', nx, e, F', fun p hp => ?_, fun p hp hq => off' p hp (List.mem_singleton.mp hq), ht', hj'⟩
      rcases List.mem_append.mp hp with h | h
      · have hg := hget p h
        rcases List.mem_cons.mp (hown p h) with h2 | h2
        · have h3 : p = (s.heap.objs.size, oI) := Prod.ext h2 (by rw [h2, hoI] at hg; exact (Option.some.inj hg).symm)
          rw [h3]
          exact N' _ (.head _)
        · have h1 := List.mem_singleton.mp h2
          have h3 : p = (t, ({ cls := .type "list", data := .seq (List.toArray vs) nn } : Obj)) := Prod.ext h1 (by rw [h1, hlo] at hg; exact (Option.some.inj hg).symm)
          rw [h3]
          exact N' _ (.tail _ ht')
      · exact N' p (.tail _ h)
    cases f with
    | ret v => exact .ret p
    | brk => exact .brk p
    | next => exact .next (fin p)
    | cont => exact .cont (fin p)
  · rintro h' tk m' news' F' N' _ ⟨_, hJ⟩
    exact done m' news' h' tk hJ F' N'
end
section
variable {prog : Program} {w : World} {A : Around} {E : Value → Shared → Prop} {s : Shared} {h₀ : Heap} {L : Addr} {m : Str → Option Value} {news : List (Addr × Obj)}
theorem tup_snoc {t b : Addr} {xs : List Value} {u : Value} {n1 n2 : Nat} {Q : Value → Shared → Prop} (F : Fr h₀ L s.heap m) (N : News h₀ L s.heap news) (ht : (t, tupO (List.toArray xs) n1) ∈ news) (hb : (b, tupO (List.toArray [u]) n2) ∈ news) (hz : xs.length ≤ 1000)
    (h : ∀ D n' h', Fr h₀ L h' m → News h₀ L h' ((D, tupO (List.toArray (xs ++ [u])) n') :: news) → Q (.ref D) { s with heap := h' }) : wpAny (model prog w) A (binaryOp .Add (.ref t) (.ref b)) Q E s := by
  have it : IsTup s.heap t (List.toArray xs) := ⟨_, (N _ ht).1, rfl, n1, rfl⟩
  have ib : IsTup s.heap b (List.toArray [u]) := ⟨_, (N _ hb).1, rfl, n2, rfl⟩
  cases xs with
  | nil =>
    refine kde_addT0 F N it ib rfl (by show 0 + 1 ≤ 16384; omega) ?_
    refine h b n2 s.heap F fun p hp => ?_
    rcases List.mem_cons.mp hp with rfl | hp
    · exact N _ hb
    · exact N p hp
  | cons x r =>
    refine kde_addT (zs := (x :: r) ++ [u]) F N it ib (List.cons_ne_nil _ _) (List.cons_ne_nil _ _) (by show (x :: r).length + 1 ≤ 16384; omega) rfl fun D h' F' N' _ => ?_
    exact h D _ h' F' N'
end
def partR (R : List (List St)) (mks : List St) (a b : Nat) : List (List St) := ((R.take a).flatMap fun r => mks.map fun k => r ++ [k]) ++ ((R.drop a).take 1).flatMap fun r => (mks.take b).map fun k => r ++ [k]
theorem partR_zero (R : List (List St)) (mks : List St) : partR R mks 0 0 = [] := by
  unfold partR
  cases R <;> simp
theorem partR_step {R : List (List St)} {mks : List St} {a b : Nat} {r : List St} {k : St} (hr : R[a]? = some r) (hk : mks[b]? = some k) : partR R mks a (b + 1) = partR R mks a b ++ [r ++ [k]] := by
  unfold partR
  have e : (R.drop a).take 1 = [r] := by
    have h1 := (List.getElem?_eq_some_iff.mp hr).1
    rw [List.drop_eq_getElem_cons h1, List.take_succ_cons, List.take_zero]
    congr 1
    exact (List.getElem?_eq_some_iff.mp hr).2
  rw [e]
  simp only [List.flatMap_cons, List.flatMap_nil, List.append_nil]
  rw [List.take_add_one, hk, List.map_append, ← List.append_assoc]
  rfl
theorem partR_next {R : List (List St)} {mks : List St} {a : Nat} (h : a < R.length) : partR R mks a mks.length = partR R mks (a + 1) 0 := by
  unfold partR
  rw [List.take_length, List.drop_eq_getElem_cons h, List.take_succ_cons, List.take_zero]
  have e2 : (((R.drop (a + 1)).take 1).flatMap fun r => (mks.take 0).map fun k => r ++ [k]) = [] := by
    simp
  rw [e2, List.append_nil, List.take_add_one, List.getElem?_eq_getElem h, List.flatMap_append]
  rfl
theorem partR_end (R : List (List St)) (mks : List St) : partR R mks R.length 0 = R.flatMap fun r => mks.map fun k => r ++ [k] := by
  unfold partR
  rw [List.take_length, List.drop_length]
  simp
theorem flat_len (R : List (List St)) (mks : List St) (f : List St → St → List St) (h : mks.length ≤ 2) : (R.flatMap fun r => mks.map fun k => f r k).length ≤ R.length * 2 := by
  induction R with
  | nil => simp
  | cons r R ih =>
    simp only [List.flatMap_cons, List.length_append, List.length_map, List.length_cons]
    omega
theorem partR_len {R : List (List St)} {mks : List St} (h : mks.length ≤ 2) (a b : Nat) : (partR R mks a b).length ≤ R.length * 2 + 2 := by
  unfold partR
  rw [List.length_append]
  have h1 := flat_len (R.take a) mks (fun r k => r ++ [k]) h
  have h2 := flat_len ((R.drop a).take 1) (mks.take b) (fun r k => r ++ [k]) (by rw [List.length_take]; omega)
  have h3 : (R.take a).length ≤ R.length := by rw [List.length_take]; omega
  have h4 : ((R.drop a).take 1).length ≤ 1 := by rw [List.length_take]; omega
  omega
theorem marksB_len (st : St) : (marksB st).length ≤ 2 := by cases st <;> simp [marksB]
theorem rootsB_take {sts : List St} {i : Nat} {st : St} (h : sts[i]? = some st) : rootsB (sts.take (i + 1)) = stepRoots (rootsB (sts.take i)) st := by
  unfold rootsB
  rw [List.take_add_one, h, List.foldl_append]
  rfl
theorem rootsB_len : ∀ (i : Nat) (sts : List St), (rootsB (sts.take i)).length ≤ 2 ^ i := by
  intro i
  induction i with
  | zero => intro sts; simp [rootsB]
  | succ i ih =>
    intro sts
    cases h : sts[i]? with
    | none =>
      have e : sts.take (i + 1) = sts.take i := by rw [List.take_add_one, h]; simp
      rw [e]
      have := ih sts
      rw [Nat.pow_succ]
      omega
    | some st =>
      rw [rootsB_take h]
      have h1 := flat_len (rootsB (sts.take i)) (marksB st) (fun r k => r ++ [k]) (marksB_len st)
      have h2 := ih sts
      rw [Nat.pow_succ]
      unfold stepRoots
      omega
theorem rootsB_each : ∀ (i : Nat) (sts : List St) (r : List St), r ∈ rootsB (sts.take i) → r.length ≤ i := by
  intro i
  induction i with
  | zero => intro sts r hr; simp [rootsB] at hr; simp [hr]
  | succ i ih =>
    intro sts r hr
    cases h : sts[i]? with
    | none =>
      have e : sts.take (i + 1) = sts.take i := by rw [List.take_add_one, h]; simp
      rw [e] at hr
      have := ih sts r hr
      omega
    | some st =>
      rw [rootsB_take h] at hr
      unfold stepRoots at hr
      obtain ⟨r0, hr0, hr⟩ := List.mem_flatMap.mp hr
      obtain ⟨k, _, rfl⟩ := List.mem_map.mp hr
      have := ih sts r0 hr0
      rw [List.length_append, List.length_singleton]
      omega
/-- the state of the loop of roots -/
def RootJ (c : Addr) (news : List (Addr × Obj)) (sts : List St) (M0 : Str → Option Value) (i : Nat) (m : Str → Option Value) (nx : List (Addr × Obj)) : Prop :=
  ∃ tl l vs n oc cv, (c, oc) ∈ nx ∧ oc.data = .cell cv ∧ (∀ p ∈ tl, p ∈ nx) ∧ (∀ p ∈ tl, p.1 ≠ c) ∧ (∀ p ∈ news, p ∈ tl) ∧ (l, lsO vs n) ∈ tl ∧ DatAll tl vs ((rootsB (sts.take i)).map fun r => .tuple (r.map St.enc)) ∧
    ∀ y, y ≠ Str.ofString "step" → m y = if y = Str.ofString "found" then some (.ref l) else M0 y
theorem RootJ.start {h₀ h : Heap} {L c D l : Addr} {o : Obj} {cv : Option Value} {k n : Nat} {news : List (Addr × Obj)} {sts : List St} {M0 m : Str → Option Value} (N : News h₀ L h ((l, lsO [.ref D] n) :: (D, tupO #[] k) :: (c, o) :: news)) (hd : o.data = .cell cv) (hn : ∀ p ∈ news, p.1 ≠ c)
    (hm : ∀ y, y ≠ Str.ofString "step" → m y = if y = Str.ofString "found" then some (.ref l) else M0 y) : RootJ c news sts M0 0 m ((l, lsO [.ref D] n) :: (D, tupO #[] k) :: (c, o) :: news) := by
  refine ⟨(l, lsO [.ref D] n) :: (D, tupO #[] k) :: news, l, [.ref D], n, o, cv, .tail _ (.tail _ (.head _)), hd, ?_, ?_, fun p hp => .tail _ (.tail _ hp), .head _, .cons (.tuple (vs := []) (.tail _ (.head _)) .nil) .nil, hm⟩
  · intro p hp
    rcases List.mem_cons.mp hp with rfl | hp
    · exact .head _
    · rcases List.mem_cons.mp hp with rfl | hp
      · exact .tail _ (.head _)
      · exact .tail _ (.tail _ (.tail _ hp))
  · intro p hp
    rcases List.mem_cons.mp hp with rfl | hp
    · exact ne_obj N (.head _) (.tail _ (.tail _ (.head _))) (seq_cell hd)
    · rcases List.mem_cons.mp hp with rfl | hp
      · exact ne_obj N (.tail _ (.head _)) (.tail _ (.tail _ (.head _))) (seq_cell hd)
      · exact hn p hp
end Mine
end
section
open PySem PySem.W PyProof.Rows PySem.Spec PySem.Calls
set_option linter.unusedVariables false
set_option maxHeartbeats 2000000
namespace Mine
def letsB : Dp → List Bool
  | .deep => [true, false]
  | .drop => [true]
  | .shallow => []
def touchesB (l : List St) (ks : List Bool) (d : Dp) (r : List St) (kt : List Bool) : Bool :=
  (rootsB l).any fun one => (rootsB r).any fun other => withinB other one kt [true, false] || withinB one other ks (letsB d)
/-- after `lets = {...}[depth]` -/
def LetsPost (h₀ : Heap) (L : Addr) (m : Str → Option Value) (news : List (Addr × Obj)) (ls : List Bool) (s : Shared) (f : Flow) (s' : Shared) : Prop :=
  f = .next ∧ ∃ h' tk la lv n, s' = { s with heap := h', toks := tk } ∧ Fr h₀ L h' (fun y => if y = Str.ofString "lets" then some (.ref la) else m y) ∧ News h₀ L h' ((la, lsO lv n) :: news) ∧ DatAll [] lv (ls.map kd)
theorem LetsPost.intro {h₀ : Heap} {L : Addr} {m : Str → Option Value} {news all : List (Addr × Obj)} {ls : List Bool} {s : Shared} {h' : Heap} {tk : Nat} {la : Addr} (lv : List Value) {n : Nat} (F : Fr h₀ L h' (fun y => if y = Str.ofString "lets" then some (.ref la) else m y)) (N : News h₀ L h' all)
    (hm : (la, lsO lv n) ∈ all) (sub : ∀ p ∈ news, p ∈ all) (hd : DatAll [] lv (ls.map kd)) : LetsPost h₀ L m news ls s .next { s with heap := h', toks := tk } :=
  ⟨rfl, h', tk, la, lv, n, rfl, F, news_sub N fun p hp => (List.mem_cons.mp hp).elim (fun e => e ▸ hm) (sub p), hd⟩
theorem mono_lets {M : Model} {A : Around} {x : Sem Flow} {E : Value → Shared → Prop} {Q : Flow → Shared → Prop} {s1 : Shared} (s : Shared) {h h₀ : Heap} {L : Addr} {m : Str → Option Value} {news : List (Addr × Obj)} (ls : List Bool) (F : Fr h₀ L h m) (N : News h₀ L h news)
    (hw : wpAny M A x (LetsPost h₀ L m news ls s) E s1) (k : ∀ f s', LetsPost h₀ L m news ls s f s' → Q f s') : wpAny M A x Q E s1 := wpAny_mono hw k fun _ _ e => e
abbrev roadD (r : List St) : Dat := .tuple (r.map St.enc)
/-- what the element leaves -/
def EltPost (h₀ : Heap) (L : Addr) (m : Str → Option Value) (s : Shared) (zs : List Value) (LED : List (Addr × Obj)) (y : Value) (s₂ : Shared) : Prop :=
  ∃ h' tk' t' n', y = .ref t' ∧ s₂ = { s with heap := h', toks := tk' } ∧ Fr h₀ L h' m ∧ News h₀ L h' ((t', tupO (List.toArray zs) n') :: LED)
theorem EltPost.intro {h₀ : Heap} {L : Addr} {m : Str → Option Value} {s : Shared} {zs : List Value} {LED all : List (Addr × Obj)} {h' : Heap} {tk' : Nat} {t' : Addr} {n' : Nat} (F : Fr h₀ L h' m) (N : News h₀ L h' ((t', tupO (List.toArray zs) n') :: all)) (sub : ∀ p ∈ LED, p ∈ all) :
    EltPost h₀ L m s zs LED (.ref t') { s with heap := h', toks := tk' } := ⟨h', tk', t', n', rfl, rfl, F, news_sub N fun p hp => (List.mem_cons.mp hp).elim (fun e => e ▸ .head _) fun h => .tail _ (sub p h)⟩
/-- the element of the comprehension of roots: a road and a mark make a new road -/
def RootElt (prog : Program) (w : World) (A : Around) (h₀ : Heap) (L : Addr) (m : Str → Option Value) (env : Env) (elt : Expr) (scope : Scope) (cl : List (Str × Addr)) (s : Shared) : Prop :=
  ∀ (tr tu : Addr) (vr : List Value) (n1 : Nat) (LED : List (Addr × Obj)) (C : Addr) (oC : Obj) (m₂ : Str → Option Value) (h : Heap) (tk : Nat) (E' : Value → Shared → Prop),
    LCg.NsObj oC m₂ → m₂ (Str.ofString "road") = some (.ref tr) → m₂ (Str.ofString "mark") = some (.ref tu) → Fr h₀ L h m → News h₀ L h LED → (C, oC) ∈ LED → (tr, tupO (List.toArray vr) n1) ∈ LED → vr.length ≤ 100 →
    wpAny (model prog w) A (eval elt (compEnvC scope cl C env)) (EltPost h₀ L m s (vr ++ [.ref tu]) LED) E' { s with heap := h, toks := tk }
section
variable {prog : Program} {w : World} {A : Around} {E : Value → Shared → Prop} {s : Shared} {h₀ : Heap} {L : Addr} {m : Str → Option Value} {env : Env}
theorem roots_src {elt : Expr} {scope : Scope} {cl : List (Str × Addr)} {mf : Addr → Str → Option Value} {Q : Value → Shared → Prop} {l : Addr} {vs : List Value} {n : Nat} {zx : Addr} {zs : List Value} {nz : Nat} {c : Addr} {co : Obj} {news tl mk : List (Addr × Obj)}
    {I : Addr} {oI : Obj} {R : List (List St)} {st : St}
    (hh : A.handled = none) (F : Fr h₀ L s.heap m) (N : News h₀ L s.heap news) (hl : (l, lsO vs n) ∈ tl) (hzx : (zx, lsO zs nz) ∈ news) (hcl : cl.lookup (Str.ofString "marks") = some c) (hco : (c, co) ∈ news) (hcd : co.data = .cell (some (.ref zx)))
    (hI : (I, oI) ∈ news) (hfI : ∃ fs, oI.data = .fields fs) (htl : ∀ p ∈ tl, p ∈ news) (htc : ∀ p ∈ tl, p.1 ≠ c) (htI : ∀ p ∈ tl, p.1 ≠ I) (hmk : ∀ p ∈ mk, p ∈ news) (hms : ∀ p ∈ mk, ∃ xs n, p.2 = tupO xs n)
    (hD : DatAll tl vs (R.map roadD)) (hZ : DatAll (mk ++ tl) zs ((marksB st).map St.enc)) (hR : R.length ≤ 16) (hRe : ∀ r ∈ R, r.length ≤ 100)
    (helt : ∀ g, RootElt prog w A h₀ L m env elt scope cl { s with heap := g })
    (fin : ∀ D h tk ys tl2, DatAll tl2 ys ((stepRoots R st).map roadD) → (∀ p ∈ tl, p ∈ tl2) → (∀ p ∈ tl2, p.1 ≠ c) → (∀ p ∈ tl2, p.1 ≠ I) → D ≠ c → D ≠ I → Fr h₀ L h (mf D) → News h₀ L h ((D, LCg.lst ys) :: (I, oI) :: (c, co) :: tl2) → Q (.ref D) { s with heap := h, toks := tk }) :
    Src2 prog w A h₀ L m env elt (Str.ofString "road") (Str.ofString "mark") (Str.ofString "marks") scope cl mf Q (.ref l) s := by
  have tupc : ∀ (h : Heap) (led : List (Addr × Obj)) (p : Addr × Obj), News h₀ L h led → p ∈ led → (c, co) ∈ led → (∃ xs n, p.2 = tupO xs n) → p.1 ≠ c := fun h led p N hp hc ⟨xs, n, e⟩ =>
    ne_obj N hp hc (by rw [e]; exact seq_cell hcd)
  have tupI : ∀ (h : Heap) (led : List (Addr × Obj)) (p : Addr × Obj), News h₀ L h led → p ∈ led → (I, oI) ∈ led → (∃ xs n, p.2 = tupO xs n) → p.1 ≠ I := fun h led p N hp hc ⟨xs, n, e⟩ =>
    ne_obj N hp hc (by rw [e]; exact seq_fields hfI)
  have lv : vs.length = R.length := by rw [hD.length, List.length_map]
  have lz : zs.length = (marksB st).length := by rw [hZ.length, List.length_map]
  refine Src2.mk (xs := vs) (zs := zs) (news := news) (fun a b ys nw => ∃ tl2, (∀ p ∈ tl2, p ∈ nw) ∧ (∀ p ∈ tl2, p.1 ≠ c) ∧ (∀ p ∈ tl2, p.1 ≠ I) ∧ (∀ p ∈ mk ++ tl, p ∈ tl2) ∧ DatAll tl2 ys ((partR R (marksB st) a b).map roadD))
    hh F N (htl _ hl) hzx hcl hco hcd ?_ ?_ ?_ ?_ ?_
  · refine ⟨mk ++ tl, ?_, ?_, ?_, fun _ h => h, by rw [partR_zero]; exact .nil⟩
    · intro p hp
      exact (List.mem_append.mp hp).elim (hmk p) (htl p)
    · intro p hp
      exact (List.mem_append.mp hp).elim (fun h => tupc _ _ p N (hmk p h) hco (hms p h)) (htc p)
    · intro p hp
      exact (List.mem_append.mp hp).elim (fun h => tupI _ _ p N (hmk p h) hI (hms p h)) (htI p)
  · rintro a b ys nw ⟨tl2, _, _, _, _, hd⟩
    have e := hd.length
    rw [List.length_map] at e
    have := partR_len (R := R) (marksB_len st) a b
    rw [sizeLine_eq]
    omega
  · rintro a ys nw ha ⟨tl2, h1, h2, h3, h4, hd⟩
    rw [lz, partR_next (by omega)] at hd
    exact ⟨tl2, h1, h2, h3, h4, hd⟩
  · rintro a b v u ys nw g hv hu ⟨tl2, h1, h2, h3, h4, hd⟩ hsub
    intro I1 oI1 I2 oI2 C oC D m₂ h tk E' hC hr hk F1 N1
    obtain ⟨r, er, dr⟩ := dat_at hD hv
    obtain ⟨k, ek, dk⟩ := dat_at hZ hu
    obtain ⟨tr, vr, n1, rfl, g1, d1⟩ := dat_tup dr
    obtain ⟨tu, rfl⟩ := step_ref dk
    have lr : vr.length ≤ 100 := by
      rw [d1.length, List.length_map]
      exact hRe r (List.mem_of_getElem? er)
    have in4 : ∀ p ∈ nw, p ∈ (I1, oI1) :: (I2, oI2) :: (C, oC) :: (D, LCg.lst ys) :: nw := fun p hp => .tail _ (.tail _ (.tail _ (.tail _ hp)))
    refine wpAny_mono (helt g tr tu vr n1 _ C oC m₂ h tk E' hC hr hk F1 N1 (.tail _ (.tail _ (.head _))) (in4 _ (hsub _ (htl _ g1))) lr) (fun y s2 hy => ?_) fun _ _ e => e
    obtain ⟨h', tk', t', n', rfl, rfl, F2, N2⟩ := hy
    have q1 : t' ≠ c := tupc _ _ _ N2 (.head _) (.tail _ (in4 _ (hsub _ hco))) ⟨_, _, rfl⟩
    have q2 : t' ≠ I := tupI _ _ _ N2 (.head _) (.tail _ (in4 _ (hsub _ hI))) ⟨_, _, rfl⟩
    refine ⟨h', tk', t', _, n', rfl, rfl, F2, N2, (t', tupO (List.toArray (vr ++ [.ref tu])) n') :: tl2, ?_, ?_, ?_, fun p hp => .tail _ (h4 p hp), ?_⟩
    · intro p hp
      rcases List.mem_cons.mp hp with rfl | hp
      · exact .head _
      · exact .tail _ (h1 p hp)
    · intro p hp
      rcases List.mem_cons.mp hp with rfl | hp
      · exact q1
      · exact h2 p hp
    · intro p hp
      rcases List.mem_cons.mp hp with rfl | hp
      · exact q2
      · exact h3 p hp
    · rw [partR_step er ek, List.map_append]
      refine (hd.mono fun p hp => .tail _ hp).append (DatAll.one (DatIn.tuple (.head _) ?_))
      rw [List.map_append]
      refine DatAll.append (d1.mono fun p hp => .tail _ (h4 p (List.mem_append.mpr (.inr hp)))) (DatAll.one (dk.mono fun p hp => .tail _ (h4 p hp)))
  · rintro D h tk ys nw ⟨tl2, h1, h2, h3, h4, hd⟩ F1 N1 hsub hoff
    rw [lv, partR_end] at hd
    refine fin D h tk ys tl2 hd (fun p hp => h4 p (List.mem_append.mpr (.inr hp))) h2 h3 (Ne.symm (hoff _ (hsub _ hco))) (Ne.symm (hoff _ (hsub _ hI))) F1 fun p hp => ?_
    rcases List.mem_cons.mp hp with rfl | hp
    · exact N1 _ (.head _)
    · rcases List.mem_cons.mp hp with rfl | hp
      · exact N1 _ (.tail _ (hsub _ hI))
      · rcases List.mem_cons.mp hp with rfl | hp
        · exact N1 _ (.tail _ (hsub _ hco))
        · exact N1 _ (.tail _ (h1 p hp))
end
theorem roots_end {h₀ : Heap} {L : Addr} {I : Addr} {oI : Obj} {c : Addr} {co : Obj} {cv : Option Value} {news tl tl2 : List (Addr × Obj)} {sts : List St} {st : St} {i : Nat} {M0 m' : Str → Option Value} {D : Addr} {ys : List Value} {tp : Addr × Obj} {s : Shared} {Q : Flow → Shared → Prop} {h : Heap} {tk : Nat}
    (est : sts[i]? = some st) (hd : DatAll tl2 ys ((stepRoots (rootsB (sts.take i)) st).map roadD)) (hs : ∀ p ∈ tl, p ∈ tl2) (hnews : ∀ p ∈ news, p ∈ tl) (hc : ∀ p ∈ tl2, p.1 ≠ c) (hi : ∀ p ∈ tl2, p.1 ≠ I) (hDc : D ≠ c) (hDI : D ≠ I) (hcI : I ≠ c) (hcd : co.data = .cell cv)
    (F : Fr h₀ L h m') (N : News h₀ L h ((D, LCg.lst ys) :: (I, oI) :: (c, co) :: tl2)) (ht : tp ∈ tl) (hm : ∀ y, y ≠ Str.ofString "step" → m' y = if y = Str.ofString "found" then some (.ref D) else M0 y) :
    SeqEnd h₀ L (RootJ c news sts M0 (i + 1)) I oI tp s Q .next { s with heap := h, toks := tk } := by
  refine SeqEnd.intro ((D, LCg.lst ys) :: (c, co) :: tl2) F N ?_ ?_ (.tail _ (.tail _ (hs _ ht))) ⟨(D, LCg.lst ys) :: tl2, D, ys, ys.length, co, cv, .tail _ (.head _), hcd, ?_, ?_, fun p hp => .tail _ (hs _ (hnews p hp)), .head _, ?_, hm⟩
  · intro p hp
    rcases List.mem_cons.mp hp with rfl | hp
    · exact .tail _ (.head _)
    · rcases List.mem_cons.mp hp with rfl | hp
      · exact .head _
      · exact .tail _ (.tail _ hp)
  · intro p hp
    rcases List.mem_cons.mp hp with rfl | hp
    · exact hDI
    · rcases List.mem_cons.mp hp with rfl | hp
      · exact Ne.symm hcI
      · exact hi p hp
  · intro p hp
    rcases List.mem_cons.mp hp with rfl | hp
    · exact .head _
    · exact .tail _ (.tail _ hp)
  · intro p hp
    rcases List.mem_cons.mp hp with rfl | hp
    · exact hDc
    · exact hc p hp
  · rw [rootsB_take est]
    exact hd.mono fun p hp => .tail _ hp
theorem pack_ix {h₀ h : Heap} {L zx ta tb : Addr} {k k1 k2 : Nat} {x1 x2 : Tok} {y1 y2 : Tok} {rest tl : List (Addr × Obj)}
    (N : News h₀ L h ((zx, lsO [.ref ta, .ref tb] k) :: (tb, tupO #[.str (Str.ofString "index") x2, .int 1 y2] k2) :: (ta, tupO #[.str (Str.ofString "index") x1, .int 0 y1] k1) :: rest)) (j : Int) :
    ∃ mk, (∀ p ∈ mk, p ∈ ((zx, lsO [.ref ta, .ref tb] k) :: (tb, tupO #[.str (Str.ofString "index") x2, .int 1 y2] k2) :: (ta, tupO #[.str (Str.ofString "index") x1, .int 0 y1] k1) :: rest)) ∧ (∀ p ∈ mk, ∃ xs n, p.2 = tupO xs n) ∧ DatAll (mk ++ tl) [.ref ta, .ref tb] ((marksB (.index j)).map St.enc) := by
  refine ⟨[(tb, tupO #[.str (Str.ofString "index") x2, .int 1 y2] k2), (ta, tupO #[.str (Str.ofString "index") x1, .int 0 y1] k1)], ?_, ?_, ?_⟩
  · intro p hp
    simp only [List.mem_cons, List.not_mem_nil, or_false] at hp
    rcases hp with rfl | rfl
    · exact .tail _ (.head _)
    · exact .tail _ (.tail _ (.head _))
  · intro p hp
    simp only [List.mem_cons, List.not_mem_nil, or_false] at hp
    rcases hp with rfl | rfl <;> exact ⟨_, _, rfl⟩
  · exact .cons (.tuple (vs := [_, _]) (.tail _ (.head _)) (.cons (.str _ _) (.cons (.int _ _) .nil))) (.cons (.tuple (vs := [_, _]) (.head _) (.cons (.str _ _) (.cons (.int _ _) .nil))) .nil)
end Mine
end
section
local macro_rules | `(tactic| walk_at "own pad") => `(tactic| fail)
local macro_rules | `(tactic| walk_at "own pad") => `(tactic| fail)
local macro_rules | `(tactic| walk_at "own pad") => `(tactic| fail)
local macro_rules | `(tactic| walk_at "own pad") => `(tactic| fail)
local macro_rules | `(tactic| walk_at "own pad") => `(tactic| fail)
local macro_rules | `(tactic| walk_at "own pad") => `(tactic| fail)
local macro_rules | `(tactic| walk_at "own pad") => `(tactic| fail)
local macro_rules | `(tactic| walk_at "own pad") => `(tactic| fail)
local macro_rules | `(tactic| walk_at "own pad") => `(tactic| fail)
local macro_rules | `(tactic| walk_at "own pad") => `(tactic| fail)
local macro_rules | `(tactic| walk_at "own pad") => `(tactic| fail)
local macro_rules | `(tactic| walk_at "own pad") => `(tactic| fail)
local macro_rules | `(tactic| walk_at "own pad") => `(tactic| fail)
local macro_rules | `(tactic| walk_at "own pad") => `(tactic| fail)
local macro_rules | `(tactic| walk_at "own pad") => `(tactic| fail)
local macro_rules | `(tactic| walk_at "own pad") => `(tactic| fail)
local macro_rules | `(tactic| walk_at "own pad") => `(tactic| fail)
local macro_rules | `(tactic| walk_at "own pad") => `(tactic| fail)
local macro_rules | `(tactic| walk_at "own pad") => `(tactic| fail)
local macro_rules | `(tactic| walk_at "own pad") => `(tactic| fail)
local macro_rules | `(tactic| walk_at "own pad") => `(tactic| fail)
local macro_rules | `(tactic| walk_at "own pad") => `(tactic| fail)
local macro_rules | `(tactic| walk_at "own pad") => `(tactic| fail)
open PySem PySem.W PyProof.Rows PySem.Spec PySem.Calls
set_option pp.maxSteps 600
set_option linter.unusedVariables false
namespace Mine
section
local macro_rules | `(tactic| k_all) => `(tactic| first | assumption | exact List.forall_mem_append.mpr ⟨by k_all, by k_all⟩ | exact List.forall_mem_cons.mpr ⟨by (refine neN ?_; (try dsimp only); omega), by k_all⟩)
local macro_rules | `(tactic| k_mem) => `(tactic| first | (with_reducible assumption) | (with_reducible exact List.mem_cons_self) | (with_reducible refine List.mem_append_left _ ?_; k_mem) | (with_reducible refine List.mem_append_right _ ?_; k_mem) | (with_reducible refine List.mem_cons_of_mem _ ?_; k_mem))
local macro_rules | `(tactic| k_memK) => `(tactic| first | (with_reducible assumption) | (with_reducible exact List.mem_cons_self) | (with_reducible refine List.mem_append_left _ ?_; k_memK) | (with_reducible refine List.mem_append_right _ ?_; k_memK) | (with_reducible refine List.mem_cons_of_mem _ ?_; k_memK))
local macro_rules | `(tactic| news_mem) => `(tactic| k_mem)
local macro_rules | `(tactic| walk_at "compareOp NotEq ref ref") => `(tactic| k_extra "compareOp NotEq ref ref")
local macro_rules | `(tactic| walk_at "compareOp Eq ref ref") => `(tactic| k_extra "compareOp Eq ref ref")
local macro_rules | `(tactic| walk_at "compareOp NotIn") => `(tactic| k_extra "compareOp NotIn")
local macro_rules | `(tactic| walk_at "call builtin:len") => `(tactic| k_extra "call builtin:len")
local macro_rules | `(tactic| walk_at "eval ListComp") => `(tactic| k_extra "eval ListComp")
local macro_rules | `(tactic| walk_at "subscriptTail") => `(tactic| k_extra "subscriptTail")
local macro_rules | `(tactic| walk_at "call ref") => `(tactic| k_extra "call ref")
local macro_rules | `(tactic| walk_at "SrcTT") => `(tactic| k_extra "SrcTT")
local macro_rules | `(tactic| walk_at "exec For Name Name cons nil") => `(tactic| k_extra "exec For Name Name cons nil")
local macro_rules | `(tactic| walk_at "pyIter ref") => `(tactic| k_extra "pyIter ref")
local macro_rules | `(tactic| walk_at "exec Assign cons ListComp") => `(tactic| k_extra "exec Assign cons ListComp")
local macro_rules | `(tactic| walk_at "last exec For") => `(tactic| k_extra "last exec For")
local macro_rules | `(tactic| walk_at "execs cons Assign cons") => `(tactic| k_extra "execs cons Assign cons")
local macro_rules | `(tactic| walk_at "binaryOp Add ref ref") => `(tactic| k_extra "binaryOp Add ref ref")
set_option maxRecDepth 100000 in
set_option maxHeartbeats 8000000 in
theorem roots_call {w : World} {dp un : Nat} {gd : Option (List Code)} {cn : Str} {cs : Scope} {fa : Addr} {ccd : Value} {cl : List (Str × Addr)} {outer : List Env} {A₀ : Around} {base h₀ : Heap} {L : Addr} {m : Str → Option Value} {mean : ExcName → Option Value} {mg mb : Str → Option Value}
    {s : Shared} {Q E : Value → Shared → Prop}
    {news dat : List (Addr × Obj)} {v : Value} {sts : List St}
    (B : Below A₀ base outer h₀) (F : Fr h₀ L s.heap m) (X : (hd.heap_39 w.params).In h₀) (N₀ : News h₀ L s.heap news) (T : TopN mean mg mb h₀) (hk : cs.kind = .function)
    (hdat : ∀ p ∈ dat, p ∈ news) (h1 : DatIn dat v (.tuple (sts.map St.enc)))
    (hl : sts.length ≤ 4)
    (hdp : dp + 2 < recursionLimit) (hun : un + 8 * 16 < cLine)
    (hret : ∀ (h' : Heap) (tk' : Nat) (l : Addr) (tl : List (Addr × Obj)), Fr h₀ L h' m → News h₀ L h' (tl ++ news) → DatIn (tl ++ dat) (.ref l) (.list ((rootsB sts).map fun r => .tuple (r.map St.enc))) → Q (.ref l) { s with heap := h', toks := tk' }) :
    wpAny (model Challenge.rw_nz0122_01.row.prog w) (ktrTop dp un gd cn cs L fa ccd cl outer) (call (.ref 80) [v]) Q E s := by
  have N := N₀
  clear N₀
  obtain ⟨t1, vs1, n1, rfl, g1, d1⟩ := dat_tup h1
  have m1 := hdat _ g1
  clear h1
  have e1 : vs1.length = sts.length := by rw [d1.length, List.length_map]
  w_on
  w_strict (
  k_with_none
  revert X; k_fill; intro X
  refine wpAny_call ?_
  k_dflt (refine' code_defC ?k1 ?k2 ?k3 ?k4 ?k5 ?kA ?kF ?kK ?k6 ?k7 ?k8 ?k9 ?kB ?kD ?_ ?c2 ?c3 ?c4; (case kA => exact rfl); (case kF => exact rfl); (case kK => assumption); (case k1 => k_asm); (case k2 => k_asm); (case k3 => k_asm); (case k4 => k_asm); (case k5 => k_asm); (case k6 => k_is); (case k7 => k_is); (case k8 => ktr_room); (case k9 => exact BindsTo.of_eq rfl); (case kB => exact rfl); (case kD => decide +kernel); (case c2 => exact rfl); (case c3 => exact rfl); (case c4 => exact rfl); k_whole; intro g' L' h' tk' cells' FG' F' N' Y' B' X' T' l1; (try k_lt l1); k_cells Y'; (try simp only [List.cons_append, List.nil_append] at N'); (try dsimp only); (try k_fold))
  k_with_none
  k_with "exec For Name Name cons nil" => (refine Stop.out ?_)
  k_with "pyIter ref" => (refine Stop.out ?_)
  k_steps
  refine Stop.intro ?_
  rename Fr _ _ _ _ => lF
  refine' For_invVF lF ?hx ?hp ?h ?hs ?hE
  case hx => rfl
  case hp => rfl
  case hs => (intro _; rfl)
  case hE => with_unfolding_all passes_own
  case h =>
    k_steps
    refine Stop.intro ?_
    rename News _ _ _ _ => lN
    rename _ = Data.cell _ => lc
    generalize hM : bindL _ _ (fun _ => none) = M0 at lF
    have hn9 : ∀ p ∈ news, p.1 ≠ L' + 1 := fun p hp => Nat.ne_of_lt (Nat.lt_succ_of_lt (l1 p hp))
    refine iter_tup (RootJ (L' + 1) news sts M0) (by rfl) lF lN (by k_mem) (RootJ.start lN lc hn9 (fun y hy => rfl)) ?jt ?jd
    case jt =>
      clear lN lc lF
      intro i v m₁ nx h tk I oI hv hfI hoff ht1 hJ F1 N1
      obtain ⟨tl, l, vs, n, oc, cv, hoc, hcv, hsub, hoc', hnews, hlm, hdl, hm⟩ := hJ
      have e : (fun y => if y = Str.ofString "step" then some v else m₁ y) = fun y => if y = Str.ofString "step" then some v else if y = Str.ofString "found" then some (.ref l) else M0 y := by
        funext y
        by_cases q : y = Str.ofString "step"
        · rw [if_pos q, if_pos q]
        · rw [if_neg q, if_neg q, hm y q]
      rw [e] at F1
      have N2 : News g' L' h ((I, oI) :: (L' + 1, oc) :: tl) := fun p hp => by
        rcases List.mem_cons.mp hp with rfl | hp
        · exact N1 _ (.head _)
        · rcases List.mem_cons.mp hp with rfl | hp
          · exact N1 _ (.tail _ hoc)
          · exact N1 _ (.tail _ (hsub p hp))
      have hI : @Ne Nat I (L' + 1) := Ne.symm (hoff _ hoc)
      have hoI : ∀ p ∈ tl, p.1 ≠ I := fun p hp => hoff p (hsub p hp)
      clear N1 hm e
      obtain ⟨st, est, dst⟩ := dat_at d1 hv
      have ms : ∀ p ∈ dat, p ∈ tl := fun p hp => hnews p (hdat p hp)
      k_with "exec Assign cons ListComp" => (k_here; lcg_calm; k_dflt (refine assign_comp2 (F₀ := by k_asm) (by rfl) (by with_unfolding_all rfl) (by with_unfolding_all rfl) (by decide) (by rfl) (by decide) (by rfl) (by rfl) (by decide) (by intro _; rfl) (by decide) (by rfl) (by rfl) ?_))
      have hi4 : i < sts.length := (List.getElem?_eq_some_iff.mp est).1
      have hR : (rootsB (sts.take i)).length ≤ 16 := Nat.le_trans (rootsB_len i sts) (Nat.le_trans (Nat.pow_le_pow_right (by decide) (show i ≤ 4 by omega)) (by decide))
      have hRe : ∀ r ∈ rootsB (sts.take i), r.length ≤ 100 := fun r hr => by have := rootsB_each i sts r hr; omega
      k_with "binaryOp Add ref ref" => (k_here; (refine' tup_snoc ?F ?N ?a ?b ?z ?_); (case F => k_asm); (case N => k_asm); (case a => k_mem); (case b => k_mem); (case z => omega); intro D' n' h' F' N'; (try dsimp only); (try k_fold))
      cases st with
      | field j =>
        obtain ⟨t4, tk4, ti4, n4, rfl, g6⟩ := dat_pair dst
        have m6 := ms _ g6
        k_steps
        rename Fr _ _ _ _ => kF
        rename News _ _ _ _ => kN
        rename _ = Data.cell (some _) => kc
        refine roots_src (st := .field j) (mk := []) (zs := [_]) (by rfl) kF kN hlm (.head _) (by rfl) (by k_mem) kc (by k_mem) hfI (fun p hp => by k_mem) hoc' hoI (fun p hp => absurd hp List.not_mem_nil) (fun p hp => absurd hp List.not_mem_nil) hdl (DatAll.one (dst.mono ms)) hR hRe ?helt ?fin
        case helt =>
          intro g tr tu vr n1 LED C oC m₂ h tk E' hC hr hk F1 N1 hCm htm lr
          clear kF kN kc
          k_steps
          rename Fr _ _ _ _ => kF
          rename News _ _ _ _ => kN
          exact EltPost.intro kF kN (fun p hp => by k_mem)
        case fin =>
          intro D h tk ys tl2 hd2 hs2 hc2 hI2 hDc hDI F1 N1
          clear kF kN
          k_steps
          exact roots_end est hd2 hs2 hnews hc2 hI2 hDc hDI hI kc F1 N1 (hnews _ m1) (fun y hy => by by_cases q : y = Str.ofString "found" <;> simp [q, hy])
      | down j =>
        obtain ⟨t4, tk4, ti4, n4, rfl, g6⟩ := dat_pair dst
        have m6 := ms _ g6
        k_steps
        rename Fr _ _ _ _ => kF
        rename News _ _ _ _ => kN
        rename _ = Data.cell (some _) => kc
        refine roots_src (st := .down j) (mk := []) (zs := [_]) (by rfl) kF kN hlm (.head _) (by rfl) (by k_mem) kc (by k_mem) hfI (fun p hp => by k_mem) hoc' hoI (fun p hp => absurd hp List.not_mem_nil) (fun p hp => absurd hp List.not_mem_nil) hdl (DatAll.one (dst.mono ms)) hR hRe ?helt ?fin
        case helt =>
          intro g tr tu vr n1 LED C oC m₂ h tk E' hC hr hk F1 N1 hCm htm lr
          clear kF kN kc
          k_steps
          rename Fr _ _ _ _ => kF
          rename News _ _ _ _ => kN
          exact EltPost.intro kF kN (fun p hp => by k_mem)
        case fin =>
          intro D h tk ys tl2 hd2 hs2 hc2 hI2 hDc hDI F1 N1
          clear kF kN
          k_steps
          exact roots_end est hd2 hs2 hnews hc2 hI2 hDc hDI hI kc F1 N1 (hnews _ m1) (fun y hy => by by_cases q : y = Str.ofString "found" <;> simp [q, hy])
      | index j =>
        obtain ⟨t4, tk4, ti4, n4, rfl, g6⟩ := dat_pair dst
        have m6 := ms _ g6
        k_steps
        rename Fr _ _ _ _ => kF
        rename News _ _ _ _ => kN
        rename _ = Data.cell (some _) => kc
        obtain ⟨mk, hmk, hms, hZ⟩ := pack_ix (tl := tl) kN j
        refine roots_src (st := .index j) (mk := mk) (zs := [_, _]) (by rfl) kF kN hlm (.head _) (by rfl) (by k_mem) kc (by k_mem) hfI (fun p hp => by k_mem) hoc' hoI hmk hms hdl hZ hR hRe ?helt ?fin
        case helt =>
          intro g tr tu vr n1 LED C oC m₂ h tk E' hC hr hk F1 N1 hCm htm lr
          clear kF kN kc
          k_steps
          rename Fr _ _ _ _ => kF
          rename News _ _ _ _ => kN
          exact EltPost.intro kF kN (fun p hp => by k_mem)
        case fin =>
          intro D h tk ys tl2 hd2 hs2 hc2 hI2 hDc hDI F1 N1
          clear kF kN
          k_steps
          exact roots_end est hd2 hs2 hnews hc2 hI2 hDc hDI hI kc F1 N1 (hnews _ m1) (fun y hy => by by_cases q : y = Str.ofString "found" <;> simp [q, hy])
      | deref =>
        obtain ⟨t4, tk4, n4, rfl, g6⟩ := dat_sing dst
        have m6 := ms _ g6
        k_steps
        rename Fr _ _ _ _ => kF
        rename News _ _ _ _ => kN
        rename _ = Data.cell (some _) => kc
        refine roots_src (st := .deref) (mk := []) (zs := [_]) (by rfl) kF kN hlm (.head _) (by rfl) (by k_mem) kc (by k_mem) hfI (fun p hp => by k_mem) hoc' hoI (fun p hp => absurd hp List.not_mem_nil) (fun p hp => absurd hp List.not_mem_nil) hdl (DatAll.one (dst.mono ms)) hR hRe ?helt ?fin
        case helt =>
          intro g tr tu vr n1 LED C oC m₂ h tk E' hC hr hk F1 N1 hCm htm lr
          clear kF kN kc
          k_steps
          rename Fr _ _ _ _ => kF
          rename News _ _ _ _ => kN
          exact EltPost.intro kF kN (fun p hp => by k_mem)
        case fin =>
          intro D h tk ys tl2 hd2 hs2 hc2 hI2 hDc hDI F1 N1
          clear kF kN
          k_steps
          exact roots_end est hd2 hs2 hnews hc2 hI2 hDc hDI hI kc F1 N1 (hnews _ m1) (fun y hy => by by_cases q : y = Str.ofString "found" <;> simp [q, hy])
    case jd =>
      clear lN lc lF
      intro m₁ nx h tk hJ F1 N1
      obtain ⟨tl, l, vs, n, oc, cv, hoc, hcv, hsub, hoc', hnews, hlm, hdl, hm⟩ := hJ
      rw [e1, List.take_length] at hdl
      have e : m₁ = fun y => if y = Str.ofString "step" then m₁ (Str.ofString "step") else if y = Str.ofString "found" then some (.ref l) else M0 y := by
        funext y
        by_cases q : y = Str.ofString "step"
        · rw [if_pos q, q]
        · rw [if_neg q, hm y q]
      generalize m₁ (Str.ofString "step") = v9 at e
      subst e
      have N2 : News g' L' h tl := fun p hp => N1 p (hsub p hp)
      clear N1 hm
      dsimp only
      k_steps
      rename Fr h₀ L _ _ => kF
      rename News h₀ L _ _ => kN
      exact hret _ _ l tl kF (news_sub kN fun p hp => (List.mem_append.mp hp).elim (fun h => by k_mem) fun h => (have h9 := hnews p h; by k_mem)) (DatIn.list (List.mem_append_left _ hlm) (hdl.mono fun p hp => List.mem_append_left _ hp))
    )
end
end Mine
end
section
open PySem PySem.W PyProof.Rows PySem.Spec PySem.Calls
set_option linter.unusedVariables false
set_option maxHeartbeats 2000000
namespace Mine
theorem lets_made {prog : Program} {w : World} {h₀ : Heap} {L : Addr} {m : Str → Option Value} {news : List (Addr × Obj)} {Q : Value → Shared → Prop} {s : Shared} {a b c d : Addr} {o : Obj} {t1 t2 t3 x1 x2 x3 : Tok} {n1 n2 n3 : Nat}
    (F : Fr h₀ L s.heap m) (N : News h₀ L s.heap ((c, lsO [] n3) :: (b, lsO [.str (Str.ofString "box") x3] n2) :: (a, lsO [.str (Str.ofString "box") x1, .str (Str.ofString "mut") x2] n1) :: (d, o) :: news))
    (hd : o.IsDictOf (PySem.strKind prog w) []) (hl : ∀ p ∈ news, p.1 < d)
    (h : ∀ h' o' v1 v2 v3, DatAll [] v1 ((letsB .deep).map kd) → DatAll [] v2 ((letsB .drop).map kd) → DatAll [] v3 ((letsB .shallow).map kd) → Fr h₀ L h' m → News h₀ L h' ((c, lsO v3 n3) :: (b, lsO v2 n2) :: (a, lsO v1 n1) :: (d, o') :: news) →
      o'.IsDictOf (PySem.strKind prog w) [(Str.ofString "deep", .ref a), (Str.ofString "drop", .ref b), (Str.ofString "shallow", .ref c)] → Q (.ref d) { s with heap := h', toks := s.toks + 3 }) :
    KdnMade prog w (PySem.strKind prog w) d Q [(.str (Str.ofString "deep") t1, .ref a), (.str (Str.ofString "drop") t2, .ref b), (.str (Str.ofString "shallow") t3, .ref c)] s := by
  have hno : ∀ (vs : List Value) (n : Nat), lsO vs n ≠ o := fun vs n e => by
    subst e
    obtain ⟨_, _, _, hx, _⟩ := hd
    cases hx
  refine kdn_made_str F N (.tail (ne_obj N (.head _) (.tail _ (.tail _ (.tail _ (.head _)))) (hno _ _)) (.tail (ne_obj N (.tail _ (.head _)) (.tail _ (.tail _ (.tail _ (.head _)))) (hno _ _)) (.tail (ne_obj N (.tail _ (.tail _ (.head _))) (.tail _ (.tail _ (.tail _ (.head _)))) (hno _ _)) (.head fun p hp => Nat.ne_of_lt (hl p hp))))) hd rfl ?_ ?_
  · exact of_decide_eq_true (by first | rfl | kernel_rfl!)
  · intro h' o' F' N' hd'
    exact h h' o' _ _ _ (.cons (.str _ _) (.cons (.str _ _) .nil)) (.cons (.str _ _) .nil) .nil F' N' hd'
end Mine
namespace Mine
theorem fr_name {h₀ h : Heap} {L : Addr} {m : Str → Option Value} (F : Fr h₀ L h m) : ∃ M0, M0 = m ∧ Fr h₀ L h M0 := ⟨m, rfl, F⟩
/-- the hit of one pair of roads -/
abbrev hitB (ks : List Bool) (d : Dp) (kt : List Bool) (one other : List St) : Bool := withinB other one kt [true, false] || withinB one other ks (letsB d)
def TouchO (BL : List (Addr × Obj)) (l : List St) (ks : List Bool) (d : Dp) (r : List St) (kt : List Bool) (M0 : Str → Option Value) (i : Nat) (m : Str → Option Value) (nx : List (Addr × Obj)) : Prop :=
  (∀ p ∈ BL, p ∈ nx) ∧ (∀ y, y ≠ Str.ofString "one" → y ≠ Str.ofString "other" → m y = M0 y) ∧ ∀ one ∈ (rootsB l).take i, (rootsB r).any (hitB ks d kt one) = false
def TouchI (BL : List (Addr × Obj)) (ks : List Bool) (d : Dp) (r : List St) (kt : List Bool) (one : List St) (M1 : Str → Option Value) (i : Nat) (m : Str → Option Value) (nx : List (Addr × Obj)) : Prop :=
  (∀ p ∈ BL, p ∈ nx) ∧ (∀ y, y ≠ Str.ofString "other" → m y = M1 y) ∧ ∀ other ∈ (rootsB r).take i, hitB ks d kt one other = false
theorem take_all_succ {α : Type} {P : α → Prop} {xs : List α} {i : Nat} {x : α} (h : xs[i]? = some x) (hp : ∀ y ∈ xs.take i, P y) (hx : P x) : ∀ y ∈ xs.take (i + 1), P y := fun y hy => by
  rw [List.take_add_one, h] at hy
  rcases List.mem_append.mp hy with hy | hy
  · exact hp y hy
  · simp only [Option.toList_some, List.mem_singleton] at hy
    exact hy ▸ hx
theorem touches_false {l r : List St} {ks kt : List Bool} {d : Dp} (h : ∀ one ∈ rootsB l, (rootsB r).any (hitB ks d kt one) = false) : touchesB l ks d r kt = false := by
  unfold touchesB
  rw [List.any_eq_false]
  intro one ho
  have := h one ho
  unfold hitB at this
  rw [this]
  decide
theorem touches_true {l r : List St} {ks kt : List Bool} {d : Dp} {i j : Nat} {a b : List St} (ha : (rootsB l)[i]? = some a) (hb : (rootsB r)[j]? = some b) (h : hitB ks d kt a b = true) : touchesB l ks d r kt = true := by
  unfold touchesB
  rw [List.any_eq_true]
  refine ⟨a, List.mem_of_getElem? ha, ?_⟩
  rw [List.any_eq_true]
  exact ⟨b, List.mem_of_getElem? hb, h⟩
theorem row_false {r : List St} {ks kt : List Bool} {d : Dp} {one : List St} (h : ∀ other ∈ rootsB r, hitB ks d kt one other = false) : (rootsB r).any (hitB ks d kt one) = false := by
  rw [List.any_eq_false]
  intro o ho
  rw [h o ho]
  decide
end Mine
namespace Mine
theorem fr_re {x z : Str} {v : Value} {m₁ M0 : Str → Option Value} (hm : ∀ y, y ≠ x → y ≠ z → m₁ y = M0 y) : (fun y => if y = x then some v else m₁ y) = fun y => if y = x then some v else if y = z then m₁ z else M0 y := by
  funext y
  by_cases q : y = x
  · rw [if_pos q, if_pos q]
  · rw [if_neg q, if_neg q]
    by_cases q2 : y = z
    · rw [if_pos q2, q2]
    · rw [if_neg q2, hm y q q2]
theorem fr_re2 {z : Str} {v : Value} {m₁ M1 : Str → Option Value} (hm : ∀ y, y ≠ z → m₁ y = M1 y) : (fun y => if y = z then some v else m₁ y) = fun y => if y = z then some v else M1 y := by
  funext y
  by_cases q : y = z
  · rw [if_pos q, if_pos q]
  · rw [if_neg q, if_neg q, hm y q]
theorem fr_re3 {x z : Str} {m₁ M0 : Str → Option Value} (hm : ∀ y, y ≠ x → y ≠ z → m₁ y = M0 y) : m₁ = fun y => if y = x then m₁ x else if y = z then m₁ z else M0 y := by
  funext y
  by_cases q : y = x
  · rw [if_pos q, q]
  · rw [if_neg q]
    by_cases q2 : y = z
    · rw [if_pos q2, q2]
    · rw [if_neg q2, hm y q q2]
end Mine
end
section
local macro_rules | `(tactic| walk_at "own pad") => `(tactic| fail)
local macro_rules | `(tactic| walk_at "own pad") => `(tactic| fail)
local macro_rules | `(tactic| walk_at "own pad") => `(tactic| fail)
local macro_rules | `(tactic| walk_at "own pad") => `(tactic| fail)
local macro_rules | `(tactic| walk_at "own pad") => `(tactic| fail)
local macro_rules | `(tactic| walk_at "own pad") => `(tactic| fail)
local macro_rules | `(tactic| walk_at "own pad") => `(tactic| fail)
local macro_rules | `(tactic| walk_at "own pad") => `(tactic| fail)
local macro_rules | `(tactic| walk_at "own pad") => `(tactic| fail)
local macro_rules | `(tactic| walk_at "own pad") => `(tactic| fail)
local macro_rules | `(tactic| walk_at "own pad") => `(tactic| fail)
local macro_rules | `(tactic| walk_at "own pad") => `(tactic| fail)
local macro_rules | `(tactic| walk_at "own pad") => `(tactic| fail)
local macro_rules | `(tactic| walk_at "own pad") => `(tactic| fail)
local macro_rules | `(tactic| walk_at "own pad") => `(tactic| fail)
local macro_rules | `(tactic| walk_at "own pad") => `(tactic| fail)
local macro_rules | `(tactic| walk_at "own pad") => `(tactic| fail)
local macro_rules | `(tactic| walk_at "own pad") => `(tactic| fail)
local macro_rules | `(tactic| walk_at "own pad") => `(tactic| fail)
local macro_rules | `(tactic| walk_at "own pad") => `(tactic| fail)
local macro_rules | `(tactic| walk_at "own pad") => `(tactic| fail)
local macro_rules | `(tactic| walk_at "own pad") => `(tactic| fail)
local macro_rules | `(tactic| walk_at "own pad") => `(tactic| fail)
local macro_rules | `(tactic| walk_at "own pad") => `(tactic| fail)
local macro_rules | `(tactic| walk_at "own pad") => `(tactic| fail)
local macro_rules | `(tactic| walk_at "own pad") => `(tactic| fail)
local macro_rules | `(tactic| walk_at "own pad") => `(tactic| fail)
local macro_rules | `(tactic| walk_at "own pad") => `(tactic| fail)
local macro_rules | `(tactic| walk_at "own pad") => `(tactic| fail)
local macro_rules | `(tactic| walk_at "own pad") => `(tactic| fail)
local macro_rules | `(tactic| walk_at "own pad") => `(tactic| fail)
local macro_rules | `(tactic| walk_at "own pad") => `(tactic| fail)
local macro_rules | `(tactic| walk_at "own pad") => `(tactic| fail)
local macro_rules | `(tactic| walk_at "own pad") => `(tactic| fail)
local macro_rules | `(tactic| walk_at "own pad") => `(tactic| fail)
local macro_rules | `(tactic| walk_at "own pad") => `(tactic| fail)
local macro_rules | `(tactic| walk_at "own pad") => `(tactic| fail)
local macro_rules | `(tactic| walk_at "own pad") => `(tactic| fail)
open PySem PySem.W PyProof.Rows PySem.Spec PySem.Calls
set_option pp.maxSteps 600
set_option linter.unusedVariables false
namespace Mine
section
local macro_rules | `(tactic| k_all) => `(tactic| first | assumption | exact List.forall_mem_append.mpr ⟨by k_all, by k_all⟩ | exact List.forall_mem_cons.mpr ⟨by (refine neN ?_; (try dsimp only); omega), by k_all⟩)
local macro_rules | `(tactic| k_mem) => `(tactic| first | (with_reducible assumption) | (with_reducible exact List.mem_cons_self) | (with_reducible refine List.mem_append_left _ ?_; k_mem) | (with_reducible refine List.mem_append_right _ ?_; k_mem) | (with_reducible refine List.mem_cons_of_mem _ ?_; k_mem))
local macro_rules | `(tactic| k_memK) => `(tactic| first | (with_reducible assumption) | (with_reducible exact List.mem_cons_self) | (with_reducible refine List.mem_append_left _ ?_; k_memK) | (with_reducible refine List.mem_append_right _ ?_; k_memK) | (with_reducible refine List.mem_cons_of_mem _ ?_; k_memK))
local macro_rules | `(tactic| news_mem) => `(tactic| k_mem)
local macro_rules | `(tactic| walk_at "compareOp NotEq ref ref") => `(tactic| k_extra "compareOp NotEq ref ref")
local macro_rules | `(tactic| walk_at "compareOp Eq ref ref") => `(tactic| k_extra "compareOp Eq ref ref")
local macro_rules | `(tactic| walk_at "compareOp NotIn") => `(tactic| k_extra "compareOp NotIn")
local macro_rules | `(tactic| walk_at "call builtin:len") => `(tactic| k_extra "call builtin:len")
local macro_rules | `(tactic| walk_at "eval ListComp") => `(tactic| k_extra "eval ListComp")
local macro_rules | `(tactic| walk_at "subscriptTail") => `(tactic| k_extra "subscriptTail")
local macro_rules | `(tactic| walk_at "call ref") => `(tactic| k_extra "call ref")
local macro_rules | `(tactic| walk_at "SrcTT") => `(tactic| k_extra "SrcTT")
local macro_rules | `(tactic| walk_at "exec For Name Call cons nil") => `(tactic| k_extra "exec For Name Call cons nil")
local macro_rules | `(tactic| walk_at "exec For Name Name cons nil") => `(tactic| k_extra "exec For Name Name cons nil")
local macro_rules | `(tactic| walk_at "pyIter ref") => `(tactic| k_extra "pyIter ref")
local macro_rules | `(tactic| walk_at "exec Assign cons Subscript") => `(tactic| k_extra "exec Assign cons Subscript")
local macro_rules | `(tactic| walk_at "last exec For") => `(tactic| k_extra "last exec For")
local macro_rules | `(tactic| walk_at "execs cons Assign cons") => `(tactic| k_extra "execs cons Assign cons")
local macro_rules | `(tactic| walk_at "KdnMade") => `(tactic| k_extra "KdnMade")
set_option maxRecDepth 100000 in
set_option maxHeartbeats 8000000 in
theorem touches_call {w : World} {dp un : Nat} {gd : Option (List Code)} {cn : Str} {cs : Scope} {fa : Addr} {ccd : Value} {cl : List (Str × Addr)} {outer : List Env} {A₀ : Around} {base h₀ : Heap} {L : Addr} {m : Str → Option Value} {mean : ExcName → Option Value} {mg mb : Str → Option Value}
    {s : Shared} {Q E : Value → Shared → Prop}
    {news dat : List (Addr × Obj)} {v1 v2 v3 v4 : Value} {l r : List St} {ks kt : List Bool} {d : Dp} {td : Tok}
    (B : Below A₀ base outer h₀) (F : Fr h₀ L s.heap m) (X : (hd.heap_39 w.params).In h₀) (N₀ : News h₀ L s.heap news) (T : TopN mean mg mb h₀) (hk : cs.kind = .function)
    (hdat : ∀ p ∈ dat, p ∈ news) (h1 : DatIn dat v1 (.tuple (l.map St.enc))) (h2 : DatIn dat v2 (.tuple (ks.map kd))) (h3 : DatIn dat v3 (.tuple (r.map St.enc))) (h4 : DatIn dat v4 (.tuple (kt.map kd)))
    (ll : l.length ≤ 4) (lr : r.length ≤ 4) (lk : ks.length ≤ 100) (lt : kt.length ≤ 100)
    (hdp : dp + 6 < recursionLimit) (hun : un + 8 * 26 < cLine)
    (hret : ∀ (h' : Heap) (tk' : Nat), Fr h₀ L h' m → News h₀ L h' news → Q (.bool (touchesB l ks d r kt)) { s with heap := h', toks := tk' }) :
    wpAny (model Challenge.rw_nz0122_01.row.prog w) (ktrTop dp un gd cn cs L fa ccd cl outer) (call (.ref 92) [v1, v2, .str d.name td, v3, v4]) Q E s := by
  have N := N₀
  clear N₀
  w_on
  w_strict (
  k_with_none
  revert X; k_fill; intro X
  refine wpAny_call ?_
  k_dflt (refine' code_def ?k1 ?k2 ?k3 ?k4 ?k5 ?kA ?kF ?kK ?k6 ?k7 ?k8 ?k9 ?kB ?_ ?c2 ?c3 ?c4 ?c5; (case kA => exact rfl); (case kF => exact rfl); (case kK => assumption); (case k1 => k_asm); (case k2 => k_asm); (case k3 => k_asm); (case k4 => k_asm); (case k5 => k_asm); (case k6 => k_is); (case k7 => k_is); (case k8 => ktr_room); (case k9 => exact BindsTo.of_eq rfl); (case c5 => decide); (case kB => exact locs rfl); (case c2 => exact rfl); (case c3 => exact rfl); (case c4 => exact rfl); k_whole; intro g' L' h' FG' F' N' B' X' T'; (try dsimp only); (try k_fold))
  k_with_none
  k_with "exec For Name Call cons nil" => (refine Stop.out ?_)
  k_with "exec Assign cons Subscript" => (refine Stop.out ?_)
  k_with "pyIter ref" => (refine Stop.out ?_)
  k_steps
  refine Stop.intro ?_
  rename Fr _ _ _ _ => lF
  rename News _ _ _ _ => lN
  with_reducible refine mono_lets s (letsB d) lF lN ?walk ?rest
  case walk =>
    k_with_none
    k_with "subscriptTail" => (k_here; (refine' kda_item (knd := PySem.strKind _ _) ?N ?hp ?hd (strKind_is _ _ _ _) ?hl ?_); (case N => k_asm); (case hp => k_mem); (case hd => assumption); (case hl => rfl); (try dsimp only); (try k_fold))
    k_with "KdnMade" => (k_here; (refine' lets_made ?F ?N ?hd ?hl ?_); (case F => k_asm); (case N => k_asm); (case hd => assumption); (case hl => assumption); intro h' o' v1' v2' v3' hv1 hv2 hv3 F' N' hd'; (try dsimp only); (try k_fold))
    cases d
    all_goals
      k_steps
      rename Fr _ _ _ _ => kF
      rename News _ _ _ _ => kN
      first
        | exact LetsPost.intro _ kF kN (.tail _ (.tail _ (.head _))) (fun p hp => by k_mem) (by assumption)
        | exact LetsPost.intro _ kF kN (.tail _ (.head _)) (fun p hp => by k_mem) (by assumption)
        | exact LetsPost.intro _ kF kN (.head _) (fun p hp => by k_mem) (by assumption)
  case rest =>
    clear lF lN
    rintro f s' ⟨rfl, h5, tk5, la, lv, ln, rfl, lF, lN, hd5⟩
    k_with "exec For Name Call cons nil" => (refine Stop.out ?_)
    k_steps
    refine Stop.intro ?_
    refine' For_invVF lF ?hx ?hp ?h ?hs ?hE
    case hx => rfl
    case hp => rfl
    case hs => (intro _; rfl)
    case hE => with_unfolding_all passes_own
    case h =>
      have hdat5 : ∀ p ∈ dat, p ∈ (la, lsO lv ln) :: news := fun p hp => .tail _ (hdat p hp)
      k_with "call ref" => (k_here; k_dflt (refine' roots_call ?kB ?kF ?kX ?kN ?kT ?kk ?w0 ?w1 ?w2 ?kd ?ku ?_; (case kB => k_asm); (case kF => k_asm); (case kX => k_asm); (case kN => k_asm); (case kT => k_asm); (case kk => (first | exact rfl | assumption)); (case w0 => assumption); (case w1 => first | exact h1 | exact h3); (case w2 => assumption); (case kd => ktr_room); (case ku => ktr_units)); intro h' tk' l' tl' F' N' D'; (try dsimp only); (try k_fold))
      k_steps
      refine Stop.intro ?_
      clear lF lN
      rename Fr _ _ _ _ => lF
      rename News _ _ _ _ => lN
      rename DatIn _ _ (Dat.list _) => lD
      obtain ⟨_, vs1, n1, e1, g1, d1⟩ := dat_lst lD
      cases e1
      have g1' : (l', lsO vs1 n1) ∈ tl' ++ (la, lsO lv ln) :: news := (List.mem_append.mp g1).elim (fun h => List.mem_append_left _ h) fun h => List.mem_append_right _ (hdat5 _ h)
      have sub1 : ∀ p ∈ tl' ++ dat, p ∈ tl' ++ (la, lsO lv ln) :: news := fun p hp => (List.mem_append.mp hp).elim (fun h => List.mem_append_left _ h) fun h => List.mem_append_right _ (hdat5 _ h)
      have e1 : vs1.length = (rootsB l).length := by rw [d1.length, List.length_map]
      obtain ⟨M0, hM0, lF'⟩ := fr_name lF
      refine iter_lst (TouchO (tl' ++ (la, lsO lv ln) :: news) l ks d r kt M0) (by rfl) lF' lN g1' ⟨fun _ h => h, fun _ _ _ => rfl, fun _ h => absurd h (by rw [List.take_zero]; exact List.not_mem_nil)⟩ ?turn ?done
      case turn =>
        subst hM0
        clear lF lF' lN
        intro i v m₁ nx h tk I oI hv hfI hoff ht1 hJ F1 N1
        obtain ⟨hBL, hm, hno⟩ := hJ
        obtain ⟨oa, ea, da⟩ := dat_at d1 hv
        have la4 : oa.length ≤ 100 := by
          have := rootsB_each l.length l oa (by rw [List.take_length]; exact List.mem_of_getElem? ea)
          omega
        rw [fr_re hm] at F1
        generalize m₁ (Str.ofString "other") = w9 at F1
        have hdat6 : ∀ p ∈ dat, p ∈ (I, oI) :: nx := fun p hp => .tail _ (hBL _ (List.mem_append_right _ (hdat5 p hp)))
        k_steps
        refine Stop.intro ?_
        refine' For_invVF F1 ?hx ?hp ?h ?hs ?hE
        case hx => rfl
        case hp => rfl
        case hs => (intro _; rfl)
        case hE => with_unfolding_all passes_own
        case h =>
          k_steps
          refine Stop.intro ?_
          clear F1
          rename Fr _ _ _ _ => F1
          rename News _ _ _ _ => kN
          rename DatIn _ _ (Dat.list _) => lE
          obtain ⟨_, vs2, n2, e2, g2, d2⟩ := dat_lst lE
          cases e2
          have g2' : (l', lsO vs2 n2) ∈ tl' ++ (I, oI) :: nx := (List.mem_append.mp g2).elim (fun h => List.mem_append_left _ h) fun h => List.mem_append_right _ (hdat6 _ h)
          have sub2 : ∀ p ∈ tl' ++ dat, p ∈ tl' ++ (I, oI) :: nx := fun p hp => (List.mem_append.mp hp).elim (fun h => List.mem_append_left _ h) fun h => List.mem_append_right _ (hdat6 _ h)
          have e2 : vs2.length = (rootsB r).length := by rw [d2.length, List.length_map]
          obtain ⟨M1, hM1, F1'⟩ := fr_name F1
          refine iter_lst (TouchI (tl' ++ (I, oI) :: nx) ks d r kt oa M1) (by rfl) F1' kN g2' ⟨fun _ h => h, fun _ _ => rfl, fun _ h => absurd h (by rw [List.take_zero]; exact List.not_mem_nil)⟩ ?turn2 ?done2
          case turn2 =>
            subst hM1
            clear F1 F1' kN
            intro j u m₂ nx2 h tk I2 oI2 hu hfI2 hoff2 ht2 hJ2 F2 N2
            obtain ⟨hBL2, hm2, hno2⟩ := hJ2
            obtain ⟨ob, eb, du⟩ := dat_at d2 hu
            have lb4 : ob.length ≤ 100 := by
              have := rootsB_each r.length r ob (by rw [List.take_length]; exact List.mem_of_getElem? eb)
              omega
            rw [fr_re2 hm2] at F2
            have hsubU : ∀ p ∈ tl' ++ dat, p ∈ nx2 := fun p hp => hBL2 p (sub2 p hp)
            have hsubV : ∀ p ∈ _, p ∈ nx2 := fun p hp => hBL2 p (List.mem_append_right _ (List.mem_cons_of_mem _ (hBL p (sub1 p hp))))
            have hsubD : ∀ p ∈ dat, p ∈ nx2 := fun p hp => hBL2 p (List.mem_append_right _ (hdat6 p hp))
            have hmla : (la, lsO lv ln) ∈ nx2 := hBL2 _ (List.mem_append_right _ (List.mem_cons_of_mem _ (hBL _ (List.mem_append_right _ (List.mem_cons_self)))))
            obtain ⟨tv, vv, nv, rfl, gv, dv⟩ := dat_tup da
            obtain ⟨tu, vu, nu, rfl, gu, dvu⟩ := dat_tup du
            obtain ⟨t2, vv2, nv2, rfl, gv2, dv2⟩ := dat_tup h2
            obtain ⟨t4, vv4, nv4, rfl, gv4, dv4⟩ := dat_tup h4
            k_with "call ref" => (k_here; k_dflt (first | ((refine' within_call (ri := ob) (ro := oa) (ks := kt) (ls := [true, false]) ?kB ?kF ?kX ?kN ?kT ?kk (fun _ h => h) ?w1 ?w2 ?w3 ?w4 ?w5 ?w6 ?w7 ?kd ?ku ?_); (case kB => k_asm); (case kF => k_asm); (case kX => k_asm); (case kN => k_asm); (case kT => k_asm); (case kk => (first | exact rfl | assumption)); (case w1 => exact du.mono (fun p hp => (have hp' := hsubU p hp; by k_mem))); (case w2 => exact da.mono (fun p hp => (have hp' := hsubV p hp; by k_mem))); (case w3 => exact h4.mono (fun p hp => (have hp' := hsubD p hp; by k_mem))); (case w4 => exact DatIn.list (vs := [_, _]) (by k_mem) (.cons (.str _ _) (.cons (.str _ _) .nil))); (case w5 => omega); (case w6 => omega); (case w7 => assumption); (case kd => ktr_room); (case ku => ktr_units)) | ((refine' within_call (ri := oa) (ro := ob) (ks := ks) (ls := letsB d) ?kB ?kF ?kX ?kN ?kT ?kk (fun _ h => h) ?w1 ?w2 ?w3 ?w4 ?w5 ?w6 ?w7 ?kd ?ku ?_); (case kB => k_asm); (case kF => k_asm); (case kX => k_asm); (case kN => k_asm); (case kT => k_asm); (case kk => (first | exact rfl | assumption)); (case w1 => exact da.mono (fun p hp => (have hp' := hsubV p hp; by k_mem))); (case w2 => exact du.mono (fun p hp => (have hp' := hsubU p hp; by k_mem))); (case w3 => exact h2.mono (fun p hp => (have hp' := hsubD p hp; by k_mem))); (case w4 => exact DatIn.list (by k_mem) (hd5.mono fun p hp => absurd hp List.not_mem_nil)); (case w5 => omega); (case w6 => omega); (case w7 => assumption); (case kd => ktr_room); (case ku => ktr_units))); intro h' tk' F' N'; (try dsimp only); (try k_fold))
            k_steps
            case _ =>
              have hh9 : withinB ob oa kt [true, false] = true := by assumption
              have e9 := touches_true (ks := ks) (kt := kt) (d := d) ea eb (by unfold hitB; rw [hh9]; simp)
              rw [e9] at hret
              dsimp only [SeqEnd]
              k_steps
              rename Fr h₀ L _ _ => kF
              rename News h₀ L _ _ => kN
              exact hret _ _ kF (news_sub kN fun p hp => (have hp' := hBL2 p (List.mem_append_right _ (List.mem_cons_of_mem _ (hBL p (List.mem_append_right _ (List.mem_cons_of_mem _ hp))))); by k_mem))
            case _ =>
              have hh9 : withinB oa ob ks (letsB d) = true := by assumption
              have e9 := touches_true (ks := ks) (kt := kt) (d := d) ea eb (by unfold hitB; rw [hh9]; simp)
              rw [e9] at hret
              dsimp only [SeqEnd]
              k_steps
              rename Fr h₀ L _ _ => kF
              rename News h₀ L _ _ => kN
              exact hret _ _ kF (news_sub kN fun p hp => (have hp' := hBL2 p (List.mem_append_right _ (List.mem_cons_of_mem _ (hBL p (List.mem_append_right _ (List.mem_cons_of_mem _ hp))))); by k_mem))
            case _ =>
              have hh8 : withinB ob oa kt [true, false] = false := by assumption
              have hh9 : withinB oa ob ks (letsB d) = false := by assumption
              rename Fr _ _ _ _ => kF
              rename News _ _ _ _ => kN
              exact SeqEnd.intro nx2 kF kN (fun p hp => (List.mem_cons.mp hp).elim (fun e => e ▸ by k_mem) fun hp' => by k_mem) hoff2 ht2 ⟨hBL2, fun y hy => by simp only [if_neg hy], take_all_succ eb hno2 (by unfold hitB; rw [hh8, hh9]; rfl)⟩
          case done2 =>
            subst hM1
            clear F1 F1' kN
            intro m₂ nx2 h tk hJ2 F2 N2
            obtain ⟨hBL2, hm2, hno2⟩ := hJ2
            dsimp only
            k_steps
            rw [e2, List.take_length] at hno2
            exact SeqEnd.intro nx F2 N2 (fun p hp => hBL2 p (List.mem_append_right _ hp)) hoff ht1 ⟨hBL, fun y h1 h2 => (hm2 y h2).trans ((if_neg h1).trans (if_neg h2)), take_all_succ ea hno (row_false hno2)⟩
      case done =>
        subst hM0
        clear lF lF' lN
        intro m₁ nx h tk hJ F1 N1
        obtain ⟨hBL, hm, hno⟩ := hJ
        rw [e1, List.take_length] at hno
        have e9 := touches_false hno
        rw [e9] at hret
        dsimp only
        k_steps
        rename Fr h₀ L _ _ => kF
        rename News h₀ L _ _ => kN
        exact hret _ _ kF (news_sub kN fun p hp => (have hp' := hBL p (List.mem_append_right _ (List.mem_cons_of_mem _ hp)); by k_mem)))
end
end Mine
end
section
local macro_rules | `(tactic| walk_at "own pad") => `(tactic| fail)
local macro_rules | `(tactic| walk_at "own pad") => `(tactic| fail)
local macro_rules | `(tactic| walk_at "own pad") => `(tactic| fail)
local macro_rules | `(tactic| walk_at "own pad") => `(tactic| fail)
local macro_rules | `(tactic| walk_at "own pad") => `(tactic| fail)
local macro_rules | `(tactic| walk_at "own pad") => `(tactic| fail)
local macro_rules | `(tactic| walk_at "own pad") => `(tactic| fail)
local macro_rules | `(tactic| walk_at "own pad") => `(tactic| fail)
local macro_rules | `(tactic| walk_at "own pad") => `(tactic| fail)
local macro_rules | `(tactic| walk_at "own pad") => `(tactic| fail)
local macro_rules | `(tactic| walk_at "own pad") => `(tactic| fail)
local macro_rules | `(tactic| walk_at "own pad") => `(tactic| fail)
local macro_rules | `(tactic| walk_at "own pad") => `(tactic| fail)
local macro_rules | `(tactic| walk_at "own pad") => `(tactic| fail)
local macro_rules | `(tactic| walk_at "own pad") => `(tactic| fail)
local macro_rules | `(tactic| walk_at "own pad") => `(tactic| fail)
local macro_rules | `(tactic| walk_at "own pad") => `(tactic| fail)
local macro_rules | `(tactic| walk_at "own pad") => `(tactic| fail)
local macro_rules | `(tactic| walk_at "own pad") => `(tactic| fail)
local macro_rules | `(tactic| walk_at "own pad") => `(tactic| fail)
local macro_rules | `(tactic| walk_at "own pad") => `(tactic| fail)
local macro_rules | `(tactic| walk_at "own pad") => `(tactic| fail)
local macro_rules | `(tactic| walk_at "own pad") => `(tactic| fail)
local macro_rules | `(tactic| walk_at "own pad") => `(tactic| fail)
local macro_rules | `(tactic| walk_at "own pad") => `(tactic| fail)
local macro_rules | `(tactic| walk_at "own pad") => `(tactic| fail)
local macro_rules | `(tactic| walk_at "own pad") => `(tactic| fail)
local macro_rules | `(tactic| walk_at "own pad") => `(tactic| fail)
local macro_rules | `(tactic| walk_at "own pad") => `(tactic| fail)
local macro_rules | `(tactic| walk_at "own pad") => `(tactic| fail)
local macro_rules | `(tactic| walk_at "own pad") => `(tactic| fail)
local macro_rules | `(tactic| walk_at "own pad") => `(tactic| fail)
local macro_rules | `(tactic| walk_at "own pad") => `(tactic| fail)
local macro_rules | `(tactic| walk_at "own pad") => `(tactic| fail)
local macro_rules | `(tactic| walk_at "own pad") => `(tactic| fail)
local macro_rules | `(tactic| walk_at "own pad") => `(tactic| fail)
local macro_rules | `(tactic| walk_at "own pad") => `(tactic| fail)
local macro_rules | `(tactic| walk_at "own pad") => `(tactic| fail)
local macro_rules | `(tactic| walk_at "own pad") => `(tactic| fail)
local macro_rules | `(tactic| walk_at "own pad") => `(tactic| fail)
local macro_rules | `(tactic| walk_at "own pad") => `(tactic| fail)
local macro_rules | `(tactic| walk_at "own pad") => `(tactic| fail)
local macro_rules | `(tactic| walk_at "own pad") => `(tactic| fail)
local macro_rules | `(tactic| walk_at "own pad") => `(tactic| fail)
local macro_rules | `(tactic| walk_at "own pad") => `(tactic| fail)
local macro_rules | `(tactic| walk_at "own pad") => `(tactic| fail)
local macro_rules | `(tactic| walk_at "own pad") => `(tactic| fail)
local macro_rules | `(tactic| walk_at "own pad") => `(tactic| fail)
local macro_rules | `(tactic| walk_at "own pad") => `(tactic| fail)
local macro_rules | `(tactic| walk_at "own pad") => `(tactic| fail)
local macro_rules | `(tactic| walk_at "own pad") => `(tactic| fail)
local macro_rules | `(tactic| walk_at "own pad") => `(tactic| fail)
local macro_rules | `(tactic| walk_at "own pad") => `(tactic| fail)
local macro_rules | `(tactic| walk_at "own pad") => `(tactic| fail)
open PySem PySem.W PyProof.Rows PySem.Spec PySem.Calls
set_option pp.maxSteps 600
set_option linter.unusedVariables false
namespace Mine
section
local macro_rules | `(tactic| k_all) => `(tactic| first | assumption | exact List.forall_mem_append.mpr ⟨by k_all, by k_all⟩ | exact List.forall_mem_cons.mpr ⟨by (refine neN ?_; (try dsimp only); omega), by k_all⟩)
local macro_rules | `(tactic| k_mem) => `(tactic| first | (with_reducible assumption) | (with_reducible exact List.mem_cons_self) | (with_reducible refine List.mem_append_left _ ?_; k_mem) | (with_reducible refine List.mem_append_right _ ?_; k_mem) | (with_reducible refine List.mem_cons_of_mem _ ?_; k_mem))
local macro_rules | `(tactic| k_memK) => `(tactic| first | (with_reducible assumption) | (with_reducible exact List.mem_cons_self) | (with_reducible refine List.mem_append_left _ ?_; k_memK) | (with_reducible refine List.mem_append_right _ ?_; k_memK) | (with_reducible refine List.mem_cons_of_mem _ ?_; k_memK))
local macro_rules | `(tactic| news_mem) => `(tactic| k_mem)
theorem good_pool (c z : Int) (p : Prop) [Decidable p] : Good ((if -1 - c > c then -1 - c else c) * if decide p = true then 1 else 0) (z.fmod 2147483647) := by
  refine ⟨Int.mul_nonneg ?_ ?_, (fmod_in z _ (by decide)).1, (fmod_in z _ (by decide)).2⟩
  · split <;> omega
  · split <;> omega
set_option maxRecDepth 100000 in
set_option maxHeartbeats 8000000 in
theorem pool_call {w : World} {dp un : Nat} {gd : Option (List Code)} {cn : Str} {cs : Scope} {fa : Addr} {ccd : Value} {cl : List (Str × Addr)} {outer : List Env} {A₀ : Around} {base h₀ : Heap} {L : Addr} {m : Str → Option Value} {mean : ExcName → Option Value} {mg mb : Str → Option Value}
    {s : Shared} {Q E : Value → Shared → Prop}
    {news : List (Addr × Obj)} {sc : Addr} {vs : List Value} {xs : List Int} {ws : List Addr} {t0 : Tok}
    (B : Below A₀ base outer h₀) (F : Fr h₀ L s.heap m) (X : (hd.heap_39 w.params).In h₀) (N₀ : News h₀ L s.heap news) (T : TopN mean mg mb h₀) (hk : cs.kind = .function)
    (hL : base.IsList sc vs.toArray) (ra : ReadsAll base vs (xs.map PyData.int) ws) (hI : IntsAre vs xs) (hlen : ¬ ((63 : Nat) : Int) < (xs.length : Int))
    (hdp : dp + 6 < recursionLimit) (hun : un + 8 * 26 < cLine)
    (hret : ∀ (a b : Int) (ta tb : Tok) (l : Addr) (h' : Heap) (tk' : Nat), Good a b → (∀ p ∈ news, p.1 < l) → Fr h₀ L h' m → News h₀ L h' ((l, srcO a b ta tb 0) :: news) → Q (.ref l) { s with heap := h', toks := tk' }) :
    wpAny (model Challenge.rw_nz0122_01.row.prog w) (ktrTop dp un gd cn cs L fa ccd cl outer) (call (.ref 40) [.ref sc, .int 0 t0]) Q E s := by
  have N := N₀
  clear N₀
  w_on
  w_strict (
  k_with_none
  revert X; k_fill; intro X
  refine wpAny_call ?_
  k_dflt (refine' code_def ?k1 ?k2 ?k3 ?k4 ?k5 ?kA ?kF ?kK ?k6 ?k7 ?k8 ?k9 ?kB ?_ ?c2 ?c3 ?c4 ?c5; (case kA => exact rfl); (case kF => exact rfl); (case kK => assumption); (case k1 => k_asm); (case k2 => k_asm); (case k3 => k_asm); (case k4 => k_asm); (case k5 => k_asm); (case k6 => k_is); (case k7 => k_is); (case k8 => ktr_room); (case k9 => exact BindsTo.of_eq rfl); (case c5 => decide); (case kB => exact locs rfl); (case c2 => exact rfl); (case c3 => exact rfl); (case c4 => exact rfl); k_whole; intro g' L' h' FG' F' N' B' X' T'; (try dsimp only); (try k_fold))
  k_lift B'
  k_with_none
  k_steps
  all_goals
    rename Fr h₀ L _ _ => kF
    rename News h₀ L _ _ => kN
    refine hret _ _ _ _ _ _ _ ?_ (by assumption) kF (news_sub kN (fun p hp => by k_mem))
    exact good_pool _ _ _)
end
end Mine
end
section
open PySem PySem.W PyProof.Rows PySem.Spec PySem.Calls
set_option linter.unusedVariables false
set_option maxHeartbeats 2000000
namespace Mine
/-- two frames agree outside of some names -/
def Same (ns : List Str) (m M0 : Str → Option Value) : Prop := ∀ y, ns.contains y = false → m y = M0 y
theorem Same.refl (ns : List Str) (M0 : Str → Option Value) : Same ns M0 M0 := fun _ _ => rfl
theorem Same.put {ns : List Str} {m M0 : Str → Option Value} {x : Str} {v : Option Value} (h : Same ns m M0) (hx : ns.contains x = true) : Same ns (fun y => if y = x then v else m y) M0 := fun y hy => by
  have q : y ≠ x := fun e => by rw [e, hx] at hy; cases hy
  simp only [if_neg q]
  exact h y hy
theorem Same.base (ns : List Str) (u M0 : Str → Option Value) : Same ns (fun y => if ns.contains y then u y else M0 y) M0 := fun y hy => by
  simp only [hy, Bool.false_eq_true, if_false]
theorem Same.form {ns : List Str} {m M0 : Str → Option Value} (h : Same ns m M0) : m = fun y => if ns.contains y then m y else M0 y := by
  funext y
  cases q : ns.contains y with
  | true => simp
  | false => simp only [Bool.false_eq_true, if_false]; exact h y q
theorem Same.turn {ns : List Str} {m M0 : Str → Option Value} {x : Str} {v : Option Value} (h : Same ns m M0) : (fun y => if y = x then v else m y) = fun y => if y = x then v else if ns.contains y then m y else M0 y := by
  funext y
  by_cases q : y = x
  · rw [if_pos q, if_pos q]
  · rw [if_neg q, if_neg q]
    exact congrFun h.form y
def RngEnd (h₀ : Heap) (L : Addr) (J : (Str → Option Value) → List (Addr × Obj) → Prop) (own : List (Addr × Obj)) (s : Shared) (Q : Flow → Shared → Prop) (f : Flow) (s' : Shared) : Prop :=
  match f with
  | .ret v => Q (.ret v) s'
  | .brk => Q .next s'
  | _ => ∃ h' tk m' nx, s' = { s with heap := h', toks := tk } ∧ Fr h₀ L h' m' ∧ News h₀ L h' (nx ++ own) ∧ TbOff own nx ∧ J m' nx
theorem RngEnd.intro {h₀ : Heap} {L : Addr} {J : (Str → Option Value) → List (Addr × Obj) → Prop} {own : List (Addr × Obj)} {s : Shared} {Q : Flow → Shared → Prop} {h' : Heap} {tk : Nat} {m' : Str → Option Value} {all : List (Addr × Obj)} (nx : List (Addr × Obj))
    (F : Fr h₀ L h' m') (N : News h₀ L h' all) (sub : ∀ p ∈ nx, p ∈ all) (sub2 : ∀ p ∈ own, p ∈ all) (off : TbOff own nx) (j : J m' nx) : RngEnd h₀ L J own s Q .next { s with heap := h', toks := tk } :=
  ⟨h', tk, m', nx, rfl, F, news_sub N fun p hp => (List.mem_append.mp hp).elim (sub p) (sub2 p), off, j⟩
section
variable {prog : Program} {w : World} {A : Around} {E : Value → Shared → Prop} {s : Shared} {env : Env} {h₀ : Heap} {x : Str} {body : List Stmt} {Q : Flow → Shared → Prop}
theorem iter_rng {r : Addr} {a₀ b₀ : Int} {t₀ u₀ v₀ : Tok} {n : Nat} {m₀ : Str → Option Value} {news : List (Addr × Obj)} (J : Nat → (Str → Option Value) → List (Addr × Obj) → Prop)
    (hh : A.handled = none) (hr : IsRange s.heap r a₀ b₀ 1 t₀ u₀ v₀) (hsmall : Builtin.Range.small a₀ b₀ 1 = true) (hn : Builtin.Range.rangeSize a₀ b₀ 1 = (n : Int)) (F : Fr h₀ env.locals s.heap m₀) (N : News h₀ env.locals s.heap news) (hj : J 0 m₀ news)
    (turn : ∀ i k t m₁ nx h tk own, TbOff own nx → J i m₁ nx → Fr h₀ env.locals h (fun y => if y = x then some (.int k t) else m₁ y) → News h₀ env.locals h (nx ++ own) →
      wpAny (model prog w) A (execs body env) (RngEnd h₀ env.locals (J (i + 1)) own s Q) E { s with heap := h, toks := tk })
    (done : ∀ m₁ nx h tk, J n m₁ nx → Fr h₀ env.locals h m₁ → News h₀ env.locals h nx → Q .next { s with heap := h, toks := tk }) :
    wpAny (model prog w) A (pyIter (.ref r)) (fun it s₂ => LoopAtV prog w A h₀ env x body Q E it s₂) E s := by
  refine tbr_invG J hh hr hsmall hn F N hj (fun i k t m₁ nx h tk own _ hoff hJ F1 N1 => wpAny_mono (turn i k t m₁ nx h tk own hoff hJ F1 N1) (fun f s2 p => ?_) fun _ _ e => e) done
  have fin : (∃ h' tk' m' nx', s2 = { s with heap := h', toks := tk' } ∧ Fr h₀ env.locals h' m' ∧ News h₀ env.locals h' (nx' ++ own) ∧ TbOff own nx' ∧ J (i + 1) m' nx') → TbEnd h₀ env.locals (J (i + 1)) own { s with heap := h, toks := tk } s2 := by
    rintro ⟨h', tk', m', nx', e, F', N', o', j'⟩
    exact ⟨h', tk', m', nx' ++ own, nx', e, F', N', fun p hp => List.mem_append_left _ hp, fun p hp => List.mem_append_right _ hp, o', j'⟩
  cases f with
  | ret v => exact p
  | brk => exact p
  | next => exact fin p
  | cont => exact fin p
end
theorem law_pack {h₀ h : Heap} {L D ls src : Addr} {tk : Tok} {n nl ns : Nat} {r1 r2 : Value} {a b : Int} {ta tb : Tok} {sh1 sh2 : Sh} {cells tl1 tl2 : List (Addr × Obj)}
    (N : News h₀ L h ((D, tupO #[.str (Str.ofString "fields") tk, .ref ls] n) :: (ls, listOf #[r1, r2] nl) :: (src, srcO a b ta tb ns) :: (cells ++ tl1 ++ tl2)))
    (hs1 : ∀ p ∈ tl1, p.1 ≠ src) (hs2 : ∀ p ∈ tl2, p.1 ≠ src) (hc : ∀ p ∈ cells, p.1 ≠ src) (l1 : @LT.lt Nat _ src ls) (l2 : @LT.lt Nat _ src D) (D1 : DatIn tl1 r1 sh1.enc) (D2 : DatIn tl2 r2 sh2.enc) (q1 : sh1.depth ≤ 3) (q2 : sh2.depth ≤ 3) :
    ∃ R, ∃ sh : Sh, sh.depth ≤ 4 ∧ (∀ p ∈ R, p.1 ≠ src) ∧ DatIn R (.ref D) sh.enc ∧ (∀ p ∈ cells, p ∈ R) ∧ News h₀ L h ((src, srcO a b ta tb ns) :: R) := by
  refine ⟨(D, tupO #[.str (Str.ofString "fields") tk, .ref ls] n) :: (ls, listOf #[r1, r2] nl) :: (cells ++ tl1 ++ tl2), .fields sh1 sh2, by simp only [Sh.depth]; omega, ?_, ?_, ?_, ?_⟩
  · intro p hp
    rcases List.mem_cons.mp hp with rfl | hp
    · exact Nat.ne_of_gt l2
    · rcases List.mem_cons.mp hp with rfl | hp
      · exact Nat.ne_of_gt l1
      · rcases List.mem_append.mp hp with hp | hp
        · rcases List.mem_append.mp hp with hp | hp
          · exact hc p hp
          · exact hs1 p hp
        · exact hs2 p hp
  · refine DatIn.tuple (vs := [_, _]) (.head _) (.cons (.str _ _) (.cons (DatIn.list (vs := [_, _]) (.tail _ (.head _)) (.cons (D1.mono fun p hp => ?_) (.cons (D2.mono fun p hp => ?_) .nil))) .nil))
    · exact .tail _ (.tail _ (List.mem_append_left _ (List.mem_append_right _ hp)))
    · exact .tail _ (.tail _ (List.mem_append_right _ hp))
  · exact fun p hp => .tail _ (.tail _ (List.mem_append_left _ (List.mem_append_left _ hp)))
  · intro p hp
    refine N p ?_
    rcases List.mem_cons.mp hp with rfl | hp
    · exact .tail _ (.tail _ (.head _))
    · rcases List.mem_cons.mp hp with rfl | hp
      · exact .head _
      · rcases List.mem_cons.mp hp with rfl | hp
        · exact .tail _ (.head _)
        · exact .tail _ (.tail _ (.tail _ hp))
abbrev lawNames : List Str := [Str.ofString "turn", Str.ofString "lent", Str.ofString "derefs", Str.ofString "place", Str.ofString "others", Str.ofString "depth", Str.ofString "due"]
/-- between the turns of the law -/
def LawJ (src : Addr) (R : List (Addr × Obj)) (M0 : Str → Option Value) (_ : Nat) (m : Str → Option Value) (nx : List (Addr × Obj)) : Prop :=
  ∃ a b ta tb, Good a b ∧ nx = (src, srcO a b ta tb 0) :: R ∧ Same lawNames m M0
abbrev dpNames : List Str := [Str.ofString "depth", Str.ofString "due"]
/-- between the depths -/
def DepthJ (BL : List (Addr × Obj)) (M1 : Str → Option Value) (_ : Nat) (m : Str → Option Value) (nx : List (Addr × Obj)) : Prop := (∀ p ∈ BL, p ∈ nx) ∧ Same dpNames m M1
theorem depth_at {t1 t2 t3 : Tok} {i : Nat} {v : Value} (h : [Value.str (Str.ofString "deep") t1, .str (Str.ofString "shallow") t2, .str (Str.ofString "drop") t3][i]? = some v) : ∃ (d : Dp) (t : Tok), v = .str d.name t := by
  match i, h with
  | 0, h => exact ⟨.deep, t1, (Option.some.inj h).symm⟩
  | 1, h => exact ⟨.shallow, t2, (Option.some.inj h).symm⟩
  | 2, h => exact ⟨.drop, t3, (Option.some.inj h).symm⟩
  | n + 3, h => simp at h
end Mine
namespace Mine
theorem turn_pack {h₀ h : Heap} {L src : Addr} {a b : Int} {ta tb : Tok} {n : Nat} {R own tlA tlB : List (Addr × Obj)} {x1 x2 y1 y2 : Value} {d1 d2 e1 e2 : Dat}
    (N : News h₀ L h ((src, srcO a b ta tb n) :: (R ++ own ++ tlA ++ tlB))) (DA1 : DatIn (R ++ tlA) x1 d1) (DA2 : DatIn (R ++ tlA) x2 d2) (DB1 : DatIn (R ++ tlB) y1 e1) (DB2 : DatIn (R ++ tlB) y2 e2) :
    ∃ BL, (∀ p ∈ R, p ∈ BL) ∧ (∀ p ∈ own, p ∈ BL) ∧ (src, srcO a b ta tb n) ∈ BL ∧ DatIn BL x1 d1 ∧ DatIn BL x2 d2 ∧ DatIn BL y1 e1 ∧ DatIn BL y2 e2 ∧ News h₀ L h BL := by
  have sA : ∀ p ∈ R ++ tlA, p ∈ (src, srcO a b ta tb n) :: (R ++ own ++ tlA ++ tlB) := fun p hp => (List.mem_append.mp hp).elim (fun h => .tail _ (List.mem_append_left _ (List.mem_append_left _ (List.mem_append_left _ h)))) fun h => .tail _ (List.mem_append_left _ (List.mem_append_right _ h))
  have sB : ∀ p ∈ R ++ tlB, p ∈ (src, srcO a b ta tb n) :: (R ++ own ++ tlA ++ tlB) := fun p hp => (List.mem_append.mp hp).elim (fun h => .tail _ (List.mem_append_left _ (List.mem_append_left _ (List.mem_append_left _ h)))) fun h => .tail _ (List.mem_append_right _ h)
  exact ⟨_, fun p hp => sA p (List.mem_append_left _ hp), fun p hp => .tail _ (List.mem_append_left _ (List.mem_append_left _ (List.mem_append_right _ hp))), .head _, DA1.mono sA, DA2.mono sA, DB1.mono sB, DB2.mono sB, N⟩
theorem conf_apart (l : List St) (ks : List Bool) (d : Dp) (r : List St) : conflictsB 1 l ks d 2 r = false := by
  unfold conflictsB
  simp
end Mine
namespace Mine
theorem Same.puts {ns ks : List Str} {m M0 u : Str → Option Value} (h : Same ns m M0) (hs : ∀ y, ns.contains y = false → ks.contains y = false) : Same ns (fun y => if ks.contains y then u y else m y) M0 := fun y hy => by
  simp only [hs y hy, Bool.false_eq_true, if_false]
  exact h y hy
theorem dp_sub (y : Str) (h : lawNames.contains y = false) : dpNames.contains y = false := by
  unfold lawNames at h
  unfold dpNames
  simp only [List.contains_cons, Bool.or_eq_false_iff] at h ⊢
  exact ⟨h.2.2.2.2.2.1, h.2.2.2.2.2.2.1, rfl⟩
theorem law_end {h₀ h' : Heap} {L src : Addr} {tk : Nat} {a b a' b' : Int} {ta tb ta' tb' : Tok} {R own BL nx all : List (Addr × Obj)} {M0 m' : Str → Option Value} {i : Nat} {s : Shared} {Q : Flow → Shared → Prop}
    (F : Fr h₀ L h' m') (N : News h₀ L h' all) (sub : ∀ p ∈ nx, p ∈ all) (hBL : ∀ p ∈ BL, p ∈ nx) (hRB : ∀ p ∈ R, p ∈ BL) (hoB : ∀ p ∈ own, p ∈ BL) (hsB : (src, srcO a' b' ta' tb' 0) ∈ BL) (hoff : TbOff own ((src, srcO a b ta tb 0) :: R)) (G : Good a' b') (hm : Same lawNames m' M0) :
    RngEnd h₀ L (LawJ src R M0 i) own s Q .next { s with heap := h', toks := tk } := by
  refine RngEnd.intro ((src, srcO a' b' ta' tb' 0) :: R) F N (fun p hp => ?_) (fun p hp => sub _ (hBL _ (hoB p hp))) (fun p hp q hq => ?_) ⟨a', b', ta', tb', G, rfl, hm⟩
  · rcases List.mem_cons.mp hp with rfl | hp
    · exact sub _ (hBL _ hsB)
    · exact sub _ (hBL _ (hRB p hp))
  · rcases List.mem_cons.mp hq with rfl | hq
    · exact hoff p hp (src, srcO a b ta tb 0) (.head _)
    · exact hoff p hp q (.tail _ hq)
end Mine
namespace Mine
theorem comp_keep {h₀ : Heap} {L I C D : Addr} {m : Str → Option Value} {s₁ : Shared} {oI oC oD : Obj} {S : List (Addr × Obj) → Prop} {rest : Value → List (Addr × Obj) → Prop} {y : Value} {h' h0 : Heap} {tk : Nat} {all news' : List (Addr × Obj)}
    (_ : News h₀ L h0 ((I, oI) :: (C, oC) :: (D, oD) :: news')) (F : Fr h₀ L h' m) (N : News h₀ L h' all) (sub : ∀ p ∈ (I, oI) :: (C, oC) :: (D, oD) :: news', p ∈ all) (off : LCg.Off3 I C D news') (hS : S news') (r : rest y news') :
    LCg.CompEnd h₀ L m s₁ I oI C oC D oD S rest y { s₁ with heap := h', toks := tk } := LCg.CompEnd.intro F N news' sub off hS r
end Mine
namespace Mine
inductive Suf (l : List (Addr × Obj)) : List (Addr × Obj) → Prop
  | here : Suf l l
  | there {p r} : Suf l r → Suf l (p :: r)
theorem Suf.sub {l : List (Addr × Obj)} : ∀ {r : List (Addr × Obj)}, Suf l r → ∀ p ∈ l, p ∈ r
  | _, .here, _, h => h
  | _, .there k, p, h => .tail _ (k.sub p h)
theorem comp_keep2 {h₀ : Heap} {L I C D : Addr} {m : Str → Option Value} {s₁ : Shared} {oI oC oD : Obj} {S : List (Addr × Obj) → Prop} {rest : Value → List (Addr × Obj) → Prop} {y : Value} {h' : Heap} {tk : Nat} {all news' : List (Addr × Obj)}
    (F : Fr h₀ L h' m) (N : News h₀ L h' all) (sf : Suf ((I, oI) :: (C, oC) :: (D, oD) :: news') all) (off : LCg.Off3 I C D news') (hS : S news') (r : rest y news') :
    LCg.CompEnd h₀ L m s₁ I oI C oC D oD S rest y { s₁ with heap := h', toks := tk } := LCg.CompEnd.intro F N news' sf.sub off hS r
end Mine
end
section
open PySem PySem.W PyProof.Rows PySem.Spec PySem.Calls
set_option linter.unusedVariables false
namespace Mine
inductive Roots : List St → List St → Prop
  | nil : Roots [] []
  | cons {st mk l a} : mk ∈ marksB st → Roots l a → Roots (st :: l) (mk :: a)
theorem foldl_roots : ∀ (l : List St) (f : List (List St)) (x : List St), x ∈ l.foldl stepRoots f ↔ ∃ p ∈ f, ∃ a, Roots l a ∧ x = p ++ a
  | [], f, x => by
    constructor
    · intro h
      exact ⟨x, h, [], .nil, by simp⟩
    · rintro ⟨p, hp, a, ha, rfl⟩
      cases ha
      simpa using hp
  | st :: l, f, x => by
    rw [List.foldl_cons, foldl_roots l]
    constructor
    · rintro ⟨p', hp', a, ha, rfl⟩
      obtain ⟨p, hp, hp'⟩ := List.mem_flatMap.mp hp'
      obtain ⟨mk, hk, rfl⟩ := List.mem_map.mp hp'
      exact ⟨p, hp, mk :: a, .cons hk ha, by simp⟩
    · rintro ⟨p, hp, a', ha', rfl⟩
      cases ha' with
      | cons hk ha =>
        exact ⟨p ++ [_], List.mem_flatMap.mpr ⟨p, hp, List.mem_map.mpr ⟨_, hk, rfl⟩⟩, _, ha, by simp⟩
theorem mem_roots {l x : List St} : x ∈ rootsB l ↔ Roots l x := by
  unfold rootsB
  rw [foldl_roots]
  constructor
  · rintro ⟨p, hp, a, ha, rfl⟩
    simp only [List.mem_singleton] at hp
    subst hp
    simpa using ha
  · intro h
    exact ⟨[], by simp, x, h, by simp⟩
def cntD (l : List St) : Nat := (l.filter St.isDeref).length
theorem mark_deref {st mk : St} (h : mk ∈ marksB st) : mk.isDeref = st.isDeref := by
  cases st <;> simp only [marksB, List.mem_cons, List.not_mem_nil, or_false] at h
  · subst h; rfl
  · subst h; rfl
  · rcases h with h | h <;> subst h <;> rfl
  · subst h; rfl
theorem Roots.len {l a : List St} (h : Roots l a) : a.length = l.length := by
  induction h with
  | nil => rfl
  | cons _ _ ih => simp [ih]
theorem Roots.cnt {l a : List St} (h : Roots l a) : (a.filter St.isDeref).length = (l.filter St.isDeref).length := by
  induction h with
  | nil => rfl
  | cons hk _ ih =>
    simp only [List.filter_cons, mark_deref hk]
    split <;> simp [ih]
theorem kinds_len {sh s2 : Sh} {l : List St} {ks : List Bool} (P : Path sh l ks s2) : ks.length = (l.filter St.isDeref).length := by
  induction P with
  | nil => rfl
  | cons g _ ih =>
    rw [List.length_append, ih]
    cases g <;> simp [Sh.kinds, List.filter_cons, St.isDeref] <;> omega
/-- a step with a mark in common, one shape below -/
theorem goes_meet {sh a b : Sh} {st st' : St} (g : Goes sh st a) (g' : Goes sh st' b) (h : meetsB st st' = true) : a = b ∧ st.isDeref = st'.isDeref ∧ ∃ mk, mk ∈ marksB st ∧ mk ∈ marksB st' := by
  cases g <;> cases g' <;> first | exact ⟨rfl, rfl, _, .head _, .head _⟩ | (exfalso; revert h; decide)
theorem meet_of {st st' mk : St} (h : mk ∈ marksB st) (h' : mk ∈ marksB st') : meetsB st st' = true := by
  cases st <;> cases st' <;> first | rfl | skip
  all_goals
    simp only [marksB, List.mem_cons, List.not_mem_nil, or_false] at h h'
    subst h
    cases h'
    simp [meetsB]
theorem share : ∀ {l r : List St} {sh a b : Sh} {ks kt : List Bool}, Path sh l ks a → Path sh r kt b → mayB l r = true →
    ∃ x y, Roots l x ∧ Roots r y ∧ (l.length ≤ r.length → y.take l.length = x) ∧ (r.length ≤ l.length → x.take r.length = y ∧ ((l.take r.length).filter St.isDeref).length = (r.filter St.isDeref).length)
  | [], r, sh, a, b, ks, kt, P, P2, h => by
    have hy : ∃ y, Roots r y := by
      clear P2 h
      induction r with
      | nil => exact ⟨_, .nil⟩
      | cons st r ih =>
        obtain ⟨y, hy⟩ := ih
        cases st
        · exact ⟨_, .cons (.head _) hy⟩
        · exact ⟨_, .cons (.head _) hy⟩
        · exact ⟨_, .cons (.head _) hy⟩
        · exact ⟨_, .cons (.head _) hy⟩
    obtain ⟨y, hy⟩ := hy
    refine ⟨[], y, .nil, hy, fun _ => by simp, fun hl => ?_⟩
    have e : r = [] := List.eq_nil_of_length_eq_zero (Nat.le_zero.mp hl)
    subst e
    cases hy
    exact ⟨rfl, rfl⟩
  | st :: l, [], sh, a, b, ks, kt, P, P2, h => by
    have hy : ∀ r : List St, ∃ y, Roots r y := by
      intro r
      induction r with
      | nil => exact ⟨_, .nil⟩
      | cons st r ih =>
        obtain ⟨y, hy⟩ := ih
        cases st
        · exact ⟨_, .cons (.head _) hy⟩
        · exact ⟨_, .cons (.head _) hy⟩
        · exact ⟨_, .cons (.head _) hy⟩
        · exact ⟨_, .cons (.head _) hy⟩
    obtain ⟨x, hx⟩ := hy (st :: l)
    exact ⟨x, [], hx, .nil, fun hl => absurd hl (by simp), fun _ => ⟨by simp, by simp⟩⟩
  | st :: l, st' :: r, sh, a, b, ks, kt, P, P2, h => by
    simp only [mayB, Bool.and_eq_true] at h
    cases P with
    | cons g P =>
      cases P2 with
      | cons g' P2 =>
        obtain ⟨e, hd, mk, hk, hk'⟩ := goes_meet g g' h.1
        subst e
        obtain ⟨x, y, hx, hy, h1, h2⟩ := share P P2 h.2
        refine ⟨mk :: x, mk :: y, .cons hk hx, .cons hk' hy, fun hl => ?_, fun hl => ⟨?_, ?_⟩⟩
        · rw [List.length_cons, List.take_succ_cons, h1 (by simpa using hl)]
        · rw [List.length_cons, List.take_succ_cons, (h2 (by simpa using hl)).1]
        · rw [List.length_cons, List.take_succ_cons, List.filter_cons, List.filter_cons, hd]
          have := (h2 (by simpa using hl)).2
          split <;> simp [this]
theorem may_of : ∀ {l r x y : List St}, Roots l x → Roots r y → (x.take y.length = y ∨ y.take x.length = x) → mayB l r = true
  | [], r, _, _, _, _, _ => by simp [mayB]
  | st :: l, [], _, _, _, _, _ => by simp [mayB]
  | st :: l, st' :: r, _, _, .cons hk hx, .cons hk' hy, h => by
    simp only [mayB, Bool.and_eq_true]
    have hh : ∀ {m1 m2 : St} {x y : List St}, ((m1 :: x).take (m2 :: y).length = m2 :: y ∨ (m2 :: y).take (m1 :: x).length = m1 :: x) → m1 = m2 ∧ (x.take y.length = y ∨ y.take x.length = x) := by
      rintro m1 m2 x y (h | h)
      · rw [List.length_cons, List.take_succ_cons] at h
        injection h with h1 h2
        exact ⟨h1, .inl h2⟩
      · rw [List.length_cons, List.take_succ_cons] at h
        injection h with h1 h2
        exact ⟨h1.symm, .inr h2⟩
    obtain ⟨e, h2⟩ := hh h
    subst e
    exact ⟨meet_of hk hk', may_of hx hy h2⟩
theorem filter_none (ks : List Bool) : (ks.filter fun k => !([true, false] : List Bool).contains k) = [] := by
  rw [List.filter_eq_nil_iff]
  intro k _
  cases k <;> decide
theorem filter_nil (ks : List Bool) : (ks.filter fun k => !([] : List Bool).contains k) = ks := by
  rw [List.filter_eq_self]
  intro k _
  rfl
theorem filter_box : ∀ ks : List Bool, (ks.filter fun k => !([true] : List Bool).contains k).isEmpty = !ks.contains false
  | [] => rfl
  | true :: ks => by
    have := filter_box ks
    simp only [List.filter_cons, List.contains_cons] at this ⊢
    simpa using this
  | false :: ks => by simp [List.filter_cons]
def goodK (d : Dp) (k : List Bool) : Bool :=
  match d with
  | .deep => true
  | .shallow => k.isEmpty
  | .drop => !k.contains false
theorem goodK_eq (d : Dp) (k : List Bool) : (k.filter fun x => !(letsB d).contains x).isEmpty = goodK d k := by
  cases d
  · unfold letsB goodK
    dsimp only
    rw [filter_none]
    rfl
  · unfold letsB goodK
    dsimp only
    rw [filter_nil]
  · unfold letsB goodK
    exact filter_box k
theorem within_all (ri ro : List St) (ks : List Bool) : withinB ri ro ks [true, false] = decide (ri.take ro.length = ro) := by
  unfold withinB
  rw [filter_none]
  by_cases h : ri.take ro.length = ro
  · rw [if_pos h, decide_eq_true h]; rfl
  · rw [if_neg h, decide_eq_false h]
theorem within_lets (ri ro : List St) (ks : List Bool) (d : Dp) : withinB ri ro ks (letsB d) = (decide (ri.take ro.length = ro) && goodK d ((ks.take (ri.filter St.isDeref).length).drop (ro.filter St.isDeref).length)) := by
  unfold withinB
  rw [goodK_eq]
  by_cases h : ri.take ro.length = ro
  · rw [if_pos h, decide_eq_true h]; rfl
  · rw [if_neg h, decide_eq_false h]; rfl
theorem conf_eq (l : List St) (ks : List Bool) (d : Dp) (r : List St) : conflictsB 1 l ks d 1 r = (mayB l r && (decide (l.length ≤ r.length) || goodK d (ks.drop ((l.take r.length).filter St.isDeref).length))) := by
  unfold conflictsB
  cases mayB l r
  · simp
  · by_cases h : l.length ≤ r.length
    · simp [h]
    · cases d <;> simp [h, goodK]
theorem law_plain {sh a b : Sh} {l r : List St} {ks kt : List Bool} (P : Path sh l ks a) (P2 : Path sh r kt b) (d : Dp) : conflictsB 1 l ks d 1 r = touchesB l ks d r kt := by
  rw [conf_eq, Bool.eq_iff_iff]
  unfold touchesB
  simp only [List.any_eq_true, Bool.or_eq_true, within_all, within_lets, Bool.and_eq_true, decide_eq_true_eq]
  constructor
  · rintro ⟨hm, h⟩
    obtain ⟨x, y, hx, hy, h1, h2⟩ := share P P2 hm
    refine ⟨x, mem_roots.mpr hx, y, mem_roots.mpr hy, ?_⟩
    by_cases hl : l.length ≤ r.length
    · left
      rw [hx.len]
      exact h1 hl
    · right
      have hg := h.resolve_left hl
      obtain ⟨e1, e2⟩ := h2 (by omega)
      refine ⟨by rw [hy.len]; exact e1, ?_⟩
      rw [hx.cnt, hy.cnt, ← kinds_len P, List.take_length, ← e2]
      exact hg
  · rintro ⟨x, hx, y, hy, h⟩
    have hx := mem_roots.mp hx
    have hy := mem_roots.mp hy
    rcases h with h | ⟨h, hg⟩
    · have hm := may_of hx hy (.inr h)
      refine ⟨hm, .inl ?_⟩
      have := congrArg List.length h
      rw [List.length_take, hx.len, hy.len] at this
      omega
    · have hm := may_of hx hy (.inl h)
      refine ⟨hm, ?_⟩
      by_cases hl : l.length ≤ r.length
      · exact .inl hl
      · right
        obtain ⟨_, _, _, _, _, h2⟩ := share P P2 hm
        rw [hx.cnt, hy.cnt, ← kinds_len P, List.take_length, ← (h2 (by omega)).2] at hg
        exact hg
end Mine
end
section
open PySem PySem.W PyProof.Rows PySem.Spec PySem.Calls
set_option linter.unusedVariables false
set_option maxHeartbeats 2000000
namespace Mine
theorem told_eq {prog : Program} {w : World} {A : Around} {E : Value → Shared → Prop} {s : Shared} {h₀ : Heap} {L : Addr} {news : List (Addr × Obj)} {l1 l2 : Addr} {n1 n2 : Nat} {Q : Value → Shared → Prop} (b1 b2 b3 : Bool)
    (N : News h₀ L s.heap news) (h1 : (l1, lsO [.bool b1, .bool b2, .bool b3] n1) ∈ news) (h2 : (l2, lsO [.bool b1, .bool b2, .bool b3] n2) ∈ news) (hu : A.units + 64 < cLine) (h : Q (.bool true) s) : wpAny (model prog w) A (compareOp .Eq (.ref l1) (.ref l2)) Q E s := by
  refine eq_dataH (da := .list [.bool b1, .bool b2, .bool b3]) (db := .list [.bool b1, .bool b2, .bool b3]) (reads_list_at (N.get h1) rfl rfl (ReadsAll.cons (Reads.bool _) (ReadsAll.cons (Reads.bool _) (ReadsAll.cons (Reads.bool _) ReadsAll.nil))))
    (reads_list_at (N.get h2) rfl rfl (ReadsAll.cons (Reads.bool _) (ReadsAll.cons (Reads.bool _) (ReadsAll.cons (Reads.bool _) ReadsAll.nil)))) ?_ ?_ hu ?_
  · cases b1 <;> cases b2 <;> cases b3 <;> decide +kernel
  · cases b1 <;> cases b2 <;> cases b3 <;> decide +kernel
  · have e : PyData.eqv (.list [.bool b1, .bool b2, .bool b3]) (.list [.bool b1, .bool b2, .bool b3]) = true := by
      cases b1 <;> cases b2 <;> cases b3 <;> decide +kernel
    rw [e]
    exact h
end Mine
end
section
local macro_rules | `(tactic| walk_at "own pad") => `(tactic| fail)
local macro_rules | `(tactic| walk_at "own pad") => `(tactic| fail)
local macro_rules | `(tactic| walk_at "own pad") => `(tactic| fail)
local macro_rules | `(tactic| walk_at "own pad") => `(tactic| fail)
local macro_rules | `(tactic| walk_at "own pad") => `(tactic| fail)
local macro_rules | `(tactic| walk_at "own pad") => `(tactic| fail)
local macro_rules | `(tactic| walk_at "own pad") => `(tactic| fail)
local macro_rules | `(tactic| walk_at "own pad") => `(tactic| fail)
local macro_rules | `(tactic| walk_at "own pad") => `(tactic| fail)
local macro_rules | `(tactic| walk_at "own pad") => `(tactic| fail)
local macro_rules | `(tactic| walk_at "own pad") => `(tactic| fail)
local macro_rules | `(tactic| walk_at "own pad") => `(tactic| fail)
local macro_rules | `(tactic| walk_at "own pad") => `(tactic| fail)
local macro_rules | `(tactic| walk_at "own pad") => `(tactic| fail)
local macro_rules | `(tactic| walk_at "own pad") => `(tactic| fail)
local macro_rules | `(tactic| walk_at "own pad") => `(tactic| fail)
local macro_rules | `(tactic| walk_at "own pad") => `(tactic| fail)
local macro_rules | `(tactic| walk_at "own pad") => `(tactic| fail)
local macro_rules | `(tactic| walk_at "own pad") => `(tactic| fail)
local macro_rules | `(tactic| walk_at "own pad") => `(tactic| fail)
local macro_rules | `(tactic| walk_at "own pad") => `(tactic| fail)
local macro_rules | `(tactic| walk_at "own pad") => `(tactic| fail)
local macro_rules | `(tactic| walk_at "own pad") => `(tactic| fail)
local macro_rules | `(tactic| walk_at "own pad") => `(tactic| fail)
local macro_rules | `(tactic| walk_at "own pad") => `(tactic| fail)
local macro_rules | `(tactic| walk_at "own pad") => `(tactic| fail)
local macro_rules | `(tactic| walk_at "own pad") => `(tactic| fail)
local macro_rules | `(tactic| walk_at "own pad") => `(tactic| fail)
local macro_rules | `(tactic| walk_at "own pad") => `(tactic| fail)
local macro_rules | `(tactic| walk_at "own pad") => `(tactic| fail)
local macro_rules | `(tactic| walk_at "own pad") => `(tactic| fail)
local macro_rules | `(tactic| walk_at "own pad") => `(tactic| fail)
local macro_rules | `(tactic| walk_at "own pad") => `(tactic| fail)
local macro_rules | `(tactic| walk_at "own pad") => `(tactic| fail)
local macro_rules | `(tactic| walk_at "own pad") => `(tactic| fail)
local macro_rules | `(tactic| walk_at "own pad") => `(tactic| fail)
local macro_rules | `(tactic| walk_at "own pad") => `(tactic| fail)
local macro_rules | `(tactic| walk_at "own pad") => `(tactic| fail)
local macro_rules | `(tactic| walk_at "own pad") => `(tactic| fail)
local macro_rules | `(tactic| walk_at "own pad") => `(tactic| fail)
local macro_rules | `(tactic| walk_at "own pad") => `(tactic| fail)
local macro_rules | `(tactic| walk_at "own pad") => `(tactic| fail)
local macro_rules | `(tactic| walk_at "own pad") => `(tactic| fail)
local macro_rules | `(tactic| walk_at "own pad") => `(tactic| fail)
local macro_rules | `(tactic| walk_at "own pad") => `(tactic| fail)
local macro_rules | `(tactic| walk_at "own pad") => `(tactic| fail)
local macro_rules | `(tactic| walk_at "own pad") => `(tactic| fail)
local macro_rules | `(tactic| walk_at "own pad") => `(tactic| fail)
local macro_rules | `(tactic| walk_at "own pad") => `(tactic| fail)
local macro_rules | `(tactic| walk_at "own pad") => `(tactic| fail)
local macro_rules | `(tactic| walk_at "own pad") => `(tactic| fail)
local macro_rules | `(tactic| walk_at "own pad") => `(tactic| fail)
local macro_rules | `(tactic| walk_at "own pad") => `(tactic| fail)
local macro_rules | `(tactic| walk_at "own pad") => `(tactic| fail)
local macro_rules | `(tactic| walk_at "own pad") => `(tactic| fail)
open PySem PySem.W PyProof.Rows PySem.Spec PySem.Calls
set_option pp.maxSteps 600
set_option linter.unusedVariables false
namespace Mine
section
local macro_rules | `(tactic| k_all) => `(tactic| first | assumption | (with_reducible exact List.forall_mem_nil _) | exact List.forall_mem_append.mpr ⟨by k_all, by k_all⟩ | exact List.forall_mem_cons.mpr ⟨by (refine neN ?_; (try dsimp only); omega), by k_all⟩)
local macro_rules | `(tactic| k_mem) => `(tactic| first | (with_reducible assumption) | (with_reducible exact List.mem_cons_self) | (with_reducible refine List.mem_append_left _ ?_; k_mem) | (with_reducible refine List.mem_append_right _ ?_; k_mem) | (with_reducible refine List.mem_cons_of_mem _ ?_; k_mem))
local macro_rules | `(tactic| k_memK) => `(tactic| first | (with_reducible assumption) | (with_reducible exact List.mem_cons_self) | (with_reducible refine List.mem_append_left _ ?_; k_memK) | (with_reducible refine List.mem_append_right _ ?_; k_memK) | (with_reducible refine List.mem_cons_of_mem _ ?_; k_memK))
local macro_rules | `(tactic| news_mem) => `(tactic| k_mem)
local macro_rules | `(tactic| walk_at "compareOp NotEq ref ref") => `(tactic| k_extra "compareOp NotEq ref ref")
local macro_rules | `(tactic| walk_at "compareOp Eq ref ref") => `(tactic| k_extra "compareOp Eq ref ref")
local macro_rules | `(tactic| walk_at "compareOp NotIn") => `(tactic| k_extra "compareOp NotIn")
local macro_rules | `(tactic| walk_at "call builtin:len") => `(tactic| k_extra "call builtin:len")
local macro_rules | `(tactic| walk_at "eval ListComp") => `(tactic| k_extra "eval ListComp")
local macro_rules | `(tactic| walk_at "subscriptTail") => `(tactic| k_extra "subscriptTail")
local macro_rules | `(tactic| walk_at "call ref") => `(tactic| k_extra "call ref")
local macro_rules | `(tactic| walk_at "SrcTT") => `(tactic| k_extra "SrcTT")
local macro_rules | `(tactic| walk_at "exec Assign cons Tuple") => `(tactic| k_extra "exec Assign cons Tuple")
local macro_rules | `(tactic| walk_at "exec For Name Call cons nil") => `(tactic| k_extra "exec For Name Call cons nil")
local macro_rules | `(tactic| walk_at "exec For Name List cons nil") => `(tactic| k_extra "exec For Name List cons nil")
local macro_rules | `(tactic| walk_at "pyIter ref") => `(tactic| k_extra "pyIter ref")
theorem conc0 : conflictsB 1 [.field 0, .deref] [true] .deep 1 [.field 0] = true := by decide
theorem conc1 : conflictsB 1 [.field 0, .deref] [true] .shallow 1 [.field 0] = false := by decide
theorem conc2 : conflictsB 1 [.field 0, .deref] [true] .drop 1 [.field 0] = true := by decide
theorem conc3 : conflictsB 1 [.field 1, .deref, .field 0] [false] .deep 1 [.field 1] = true := by decide
theorem conc4 : conflictsB 1 [.field 1, .deref, .field 0] [false] .shallow 1 [.field 1] = false := by decide
theorem conc5 : conflictsB 1 [.field 1, .deref, .field 0] [false] .drop 1 [.field 1] = false := by decide
set_option maxRecDepth 100000 in
set_option maxHeartbeats 20000000 in
theorem law_holds : PySem.Challenge.rw_nz0122_01.Holds := hd (by w_strict (
  k_with_none
  k_go0
  (all_goals try k_fold)
  k_with "exec For Name Call cons nil" => (refine Stop.out ?_)
  k_with "pyIter ref" => (refine Stop.out ?_)
  k_with "call ref" => (k_here; (with_reducible show wpAny _ _ (call (Value.ref 40) _) _ _ _); k_dflt (refine' pool_call ?kB ?kF ?kX ?kN ?kT ?kk ?pL ?pR ?pI ?pl ?kd ?ku ?_; (case kB => k_asm); (case kF => k_asm); (case kX => k_asm); (case kN => k_asm); (case kT => k_asm); (case kk => (first | exact rfl | assumption)); (case pL => assumption); (case pR => assumption); (case pI => assumption); (case pl => assumption); (case kd => ktr_room); (case ku => ktr_units)); intro a' b' ta' tb' l' h' tk' G' l1' F' N'; (try k_lt l1'); (try dsimp only); (try k_fold))
  k_with "call ref" => (k_here; (with_reducible show wpAny _ _ (call (Value.ref 61) _) _ _ _); k_dflt (refine' shape_spec 3 ?kB ?kF ?kX ?kN ?kT ?kk ?kP ?k6 ?kG ?k1 ?kd ?ku ?_; (case kB => k_asm); (case kF => k_asm); (case kX => k_asm); (case kN => k_asm); (case kT => k_asm); (case kk => (first | exact rfl | assumption)); (case kP => (repeat' (first | exact Pick.head | refine' Pick.tail ?_))); (case k6 => k_all); (case kG => assumption); (case k1 => rfl); (case kd => ktr_room); (case ku => ktr_units)); intro a' b' ta' tb' tl' r' sh' h' tk' G' l1' O' D' F' N'; (have hs' := Off.ne O' (List.Mem.head _)); (try dsimp only); (try k_fold))
  k_steps
  refine Stop.intro ?_
  rename Fr _ _ _ _ => lF
  rename News _ _ _ _ => lN
  rename Good _ _ => lG
  rename DatIn _ _ _ => lD2
  revert lD2
  rename DatIn _ _ _ => lD1
  intro lD2
  rename _ = Data.cell _ => hcA
  revert hcA
  rename _ = Data.cell _ => hcB
  intro hcA
  generalize bindL _ _ _ = B0 at lF
  obtain ⟨R, shp, hq, hRs, hRD, hRc, lN'⟩ := law_pack lN (by assumption) (by assumption) (by k_all) (by omega) (by omega) lD1 lD2 (by assumption) (by assumption)
  have hcR1 := hRc _ (.head _)
  have hcR2 := hRc _ (.tail _ (.head _))
  clear lN lD1 lD2 hRc
  refine' For_invVF lF ?hx ?hp ?h ?hs ?hE
  case hx => rfl
  case hp => rfl
  case hs => (intro _; rfl)
  case hE => with_unfolding_all passes_own
  case h =>
    k_steps
    refine Stop.intro ?_
    try clear lF
    try clear lN'
    rename Fr _ _ _ _ => lF
    rename News _ _ _ _ => lN
    rename IsRange _ _ _ _ _ _ _ _ => rgX
    obtain ⟨M0, hM0, lF'⟩ := fr_name lF
    refine iter_rng (LawJ _ R M0) (by rfl) rgX (by decide) (by rfl) lF' lN ⟨_, _, _, _, lG, rfl, Same.refl _ _⟩ ?turn ?done
    case turn =>
      subst hM0
      clear lF lF' lN rgX lG
      intro i k t m₁ nx h tk own hoff hJ F1 N1
      obtain ⟨a, b, ta, tb, G1, rfl, hm⟩ := hJ
      rw [hm.turn] at F1
      clear hm
      generalize m₁ = u1 at F1
      simp only [List.cons_append] at N1
      have hos : ∀ p ∈ own, p.1 ≠ _ := fun p hp => hoff p hp _ (.head _)
      k_with "call ref" => (k_here; (with_reducible show wpAny _ _ (call (Value.ref 75) _) _ _ _); k_dflt (refine' place_call ?kB ?kF ?kX ?kN ?kT ?kk ?kP ?k6 ?kG ?kD ?kE ?ke ?kd ?ku ?_; (case kB => k_asm); (case kF => k_asm); (case kX => k_asm); (case kN => k_asm); (case kT => k_asm); (case kk => (first | exact rfl | assumption)); (case kP => (repeat' (first | exact Pick.head | refine' Pick.tail ?_))); (case k6 => k_all); (case kG => assumption); (case kE => assumption); (case kD => exact fun p hp => by k_mem); (case ke => omega); (case kd => ktr_room); (case ku => ktr_units)); intro a' b' ta' tb' tl' l' t1' t2' sts' ks' sh' h' tk' G' P' O' m' D1' D2' F' N'; (have hs' := Off.ne O' (List.Mem.head _)); (try dsimp only); (try k_fold))
      k_with "exec For Name List cons nil" => (refine Stop.out ?_)
      k_steps
      refine Stop.intro ?_
      rename Fr _ _ _ _ => lF
      rename News _ _ _ _ => lN
      rename Good _ _ => lG
      rename Path _ _ _ _ => P2
      revert P2
      rename Path _ _ _ _ => P1
      intro P2
      rename DatIn _ _ (Dat.tuple (List.map St.enc _)) => DB1
      revert DB1
      rename DatIn _ _ (Dat.tuple (List.map St.enc _)) => DA1
      intro DB1
      rename DatIn _ _ (Dat.tuple (List.map kd _)) => DB2
      revert DB2
      rename DatIn _ _ (Dat.tuple (List.map kd _)) => DA2
      intro DB2
      obtain ⟨BL, hRB, hoB, hsB, DA1, DA2, DB1, DB2, lN'⟩ := turn_pack lN DA1 DA2 DB1 DB2
      clear lN
      have hl1 := P1.len
      have hl2 := P2.len
      have hlaw := law_plain P1 P2
      refine' For_invVF lF ?hx ?hp ?h ?hs ?hE
      case hx => rfl
      case hp => rfl
      case hs => (intro _; rfl)
      case hE => with_unfolding_all passes_own
      case h =>
        k_steps
        refine Stop.intro ?_
        try clear lF
        try clear lN'
        rename Fr _ _ _ _ => lF
        rename News _ _ _ _ => lN
        obtain ⟨M1, hM1, lF'⟩ := fr_name lF
        refine iter_lst (DepthJ BL M1) (by rfl) lF' lN (.head _) ⟨fun p hp => .tail _ hp, Same.refl _ _⟩ ?turn2 ?done2
        case turn2 =>
          subst hM1
          clear lF lF' lN
          intro i v m₁ nx h tk I oI hv hfI hoff2 ht1 hJ F1 N1
          obtain ⟨hBL, hm⟩ := hJ
          obtain ⟨d, td, rfl⟩ := depth_at hv
          clear hv
          rw [hm.turn] at F1
          have hm1 := hm
          generalize m₁ = u2 at F1
          k_with "call ref" => (k_here; (with_reducible show wpAny _ _ (call (Value.ref 92) _) _ _ _); k_dflt (refine' touches_call (dat := BL) ?kB ?kF ?kX ?kN ?kT ?kk ?w0 ?w1 ?w2 ?w3 ?w4 ?w5 ?w6 ?w7 ?w8 ?kd ?ku ?_; (case kB => k_asm); (case kF => k_asm); (case kX => k_asm); (case kN => k_asm); (case kT => k_asm); (case kk => (first | exact rfl | assumption)); (case w0 => exact fun p hp => (have hp' := hBL p hp; by k_mem)); (case w1 => exact DA1); (case w2 => exact DA2); (case w3 => exact DB1); (case w4 => exact DB2); (case w5 => omega); (case w6 => omega); (case w7 => omega); (case w8 => omega); (case kd => ktr_room); (case ku => ktr_units)); intro h' tk' F' N'; (try dsimp only); (try k_fold))
          k_with "call ref" => (k_here; (with_reducible show wpAny _ _ (call (Value.ref 33) _) _ _ _); k_dflt (refine' conf_call (d := d) ?kB ?kF ?kX ?kN ?kT ?kk (fun _ h => h) ?w1 ?w2 ?w3 ?w5 ?w6 ?w7 ?kd ?ku ?_; (case kB => k_asm); (case kF => k_asm); (case kX => k_asm); (case kN => k_asm); (case kT => k_asm); (case kk => (first | exact rfl | assumption)); (case w1 => exact DatIn.tuple (vs := [_, _]) (by k_mem) (.cons (.int _ _) (.cons (DA1.mono fun p hp => (have hp' := hBL p hp; by k_mem)) .nil))); (case w2 => exact DA2.mono fun p hp => (have hp' := hBL p hp; by k_mem)); (case w3 => exact DatIn.tuple (vs := [_, _]) (by k_mem) (.cons (.int _ _) (.cons (DB1.mono fun p hp => (have hp' := hBL p hp; by k_mem)) .nil))); (case w5 => omega); (case w6 => omega); (case w7 => omega); (case kd => ktr_room); (case ku => ktr_units)); (rw [hlaw]); intro h' tk' F' N'; (try dsimp only); (try k_fold))
          k_steps
          case _ =>
            rename (_ != _) = true => hx9
            exact absurd hx9 (by simp)
          case _ =>
            rename Fr _ _ _ _ => kF
            rename News _ _ _ _ => kN
            exact SeqEnd.intro nx kF kN (fun p hp => (List.mem_cons.mp hp).elim (fun e => e ▸ by k_mem) fun hp' => by k_mem) hoff2 ht1 ⟨hBL, ((Same.base _ _ _).put (by rfl)).put (by rfl)⟩
        case done2 =>
          subst hM1
          clear lF lF' lN
          intro m₁ nx h tk hJ F1 N1
          obtain ⟨hBL, hm⟩ := hJ
          rw [hm.form] at F1
          clear hm
          generalize m₁ = u2 at F1
          dsimp only
          k_with "call ref" => (k_here; (with_reducible show wpAny _ _ (call (Value.ref 33) _) _ _ _); k_dflt (refine' conf_call (d := .deep) ?kB ?kF ?kX ?kN ?kT ?kk (fun _ h => h) ?w1 ?w2 ?w3 ?w5 ?w6 ?w7 ?kd ?ku ?_; (case kB => k_asm); (case kF => k_asm); (case kX => k_asm); (case kN => k_asm); (case kT => k_asm); (case kk => (first | exact rfl | assumption)); (case w1 => exact DatIn.tuple (vs := [_, _]) (by k_mem) (.cons (.int _ _) (.cons (DA1.mono fun p hp => (have hp' := hBL p hp; by k_mem)) .nil))); (case w2 => exact DA2.mono fun p hp => (have hp' := hBL p hp; by k_mem)); (case w3 => exact DatIn.tuple (vs := [_, _]) (by k_mem) (.cons (.int _ _) (.cons (DB1.mono fun p hp => (have hp' := hBL p hp; by k_mem)) .nil))); (case w5 => omega); (case w6 => omega); (case w7 => omega); (case kd => ktr_room); (case ku => ktr_units)); (rw [conf_apart]); intro h' tk' F' N'; (try dsimp only); (try k_fold))
          k_steps
          rename Fr _ _ _ _ => kF
          rename News _ _ _ _ => kN
          exact law_end kF kN (fun p hp => by k_mem) hBL hRB hoB hsB hoff lG (Same.puts ((((((Same.base _ _ _).put (by rfl)).put (by rfl)).put (by rfl)).put (by rfl)).put (by rfl)) dp_sub)
    case done =>
      subst hM0
      clear lF lF' lN rgX lG
      intro m₁ nx h tk hJ F1 N1
      obtain ⟨a, b, ta, tb, G1, rfl, hm⟩ := hJ
      clear hm
      have N2 := news_sub N1 (List.forall_mem_cons.mpr ⟨.tail _ hcR1, List.forall_mem_cons.mpr ⟨.tail _ hcR2, List.forall_mem_nil _⟩⟩)
      clear N1
      dsimp only
      k_with_none
      k_with "exec Assign cons Tuple" => (refine Stop.out ?_)
      k_steps
      refine Stop.intro ?_
      refine Assign_Tuple ?_
      k_with_none
      k_with "compareOp Eq ref ref" => (k_here; (first | (refine' told_eq true false true ?N ?h1 ?h2 ?hu ?_; (case N => k_asm); (case h1 => k_mem); (case h2 => k_mem); (case hu => ke_room)) | (refine' told_eq true false false ?N ?h1 ?h2 ?hu ?_; (case N => k_asm); (case h1 => k_mem); (case h2 => k_mem); (case hu => ke_room))))
      k_with "call ref" => ((with_reducible show wpAny _ _ (call (Value.ref 33) _) _ _ _); (refine Stop.out ?_))
      k_steps
      refine Stop.intro ?_
      k_here
      k_dflt ((with_reducible show wpAny _ _ (call (Value.ref 33) [_, _, Value.str (Str.ofString "deep") _, _]) _ _ _); refine' conf_call (l := [.field 0, .deref]) (ks := [true]) (d := .deep) (r := [.field 0]) ?z0kB ?z0kF ?z0kX ?z0kN ?z0kT ?z0kk (fun _ h => h) ?z0w1 ?z0w2 ?z0w3 ?z0w5 ?z0w6 ?z0w7 ?z0kd ?z0ku ?_; (case z0kB => k_asm); (case z0kF => k_asm); (case z0kX => k_asm); (case z0kN => k_asm); (case z0kT => k_asm); (case z0kk => (first | exact rfl | assumption)); (case z0w2 => exact DatIn.tuple (vs := [_]) (by k_mem) (.cons (.str _ _) .nil)); (case z0w1 => exact DatIn.tuple (vs := [_, _]) (by k_mem) (.cons (.int _ _) (.cons (DatIn.tuple (vs := [_, _]) (by k_mem) (.cons (DatIn.tuple (vs := [_, _]) (by k_mem) (.cons (.str _ _) (.cons (.int _ _) .nil))) (.cons (DatIn.tuple (vs := [_]) (by k_mem) (.cons (.str _ _) .nil)) .nil))) .nil))); (case z0w3 => exact DatIn.tuple (vs := [_, _]) (by k_mem) (.cons (.int _ _) (.cons (DatIn.tuple (vs := [_]) (by k_mem) (.cons (DatIn.tuple (vs := [_, _]) (by k_mem) (.cons (.str _ _) (.cons (.int _ _) .nil))) .nil)) .nil))); (case z0w5 => decide); (case z0w6 => decide); (case z0w7 => decide); (case z0kd => ktr_room); (case z0ku => ktr_units))
      rw [conc0]
      intro h' tk' F' N'
      try dsimp only
      try k_fold
      k_unfold
      try dsimp only
      rename Fr _ _ _ _ => kF
      rename News _ _ _ _ => kN
      refine' comp_keep2 kF kN ?z0ks ?z0ko ?z0kS ?_
      case z0ks => (repeat (first | (with_reducible exact Suf.here) | (with_reducible refine Suf.there ?_)))
      case z0ko => (simp only [LCg.Off3, and_true]; assumption)
      case z0kS => lcg_src
      clear kF kN
      try dsimp only
      k_steps
      refine Stop.intro ?_
      k_here
      k_dflt ((with_reducible show wpAny _ _ (call (Value.ref 33) [_, _, Value.str (Str.ofString "shallow") _, _]) _ _ _); refine' conf_call (l := [.field 0, .deref]) (ks := [true]) (d := .shallow) (r := [.field 0]) ?z1kB ?z1kF ?z1kX ?z1kN ?z1kT ?z1kk (fun _ h => h) ?z1w1 ?z1w2 ?z1w3 ?z1w5 ?z1w6 ?z1w7 ?z1kd ?z1ku ?_; (case z1kB => k_asm); (case z1kF => k_asm); (case z1kX => k_asm); (case z1kN => k_asm); (case z1kT => k_asm); (case z1kk => (first | exact rfl | assumption)); (case z1w2 => exact DatIn.tuple (vs := [_]) (by k_mem) (.cons (.str _ _) .nil)); (case z1w1 => exact DatIn.tuple (vs := [_, _]) (by k_mem) (.cons (.int _ _) (.cons (DatIn.tuple (vs := [_, _]) (by k_mem) (.cons (DatIn.tuple (vs := [_, _]) (by k_mem) (.cons (.str _ _) (.cons (.int _ _) .nil))) (.cons (DatIn.tuple (vs := [_]) (by k_mem) (.cons (.str _ _) .nil)) .nil))) .nil))); (case z1w3 => exact DatIn.tuple (vs := [_, _]) (by k_mem) (.cons (.int _ _) (.cons (DatIn.tuple (vs := [_]) (by k_mem) (.cons (DatIn.tuple (vs := [_, _]) (by k_mem) (.cons (.str _ _) (.cons (.int _ _) .nil))) .nil)) .nil))); (case z1w5 => decide); (case z1w6 => decide); (case z1w7 => decide); (case z1kd => ktr_room); (case z1ku => ktr_units))
      rw [conc1]
      intro h' tk' F' N'
      try dsimp only
      try k_fold
      k_unfold
      try dsimp only
      rename Fr _ _ _ _ => kF
      rename News _ _ _ _ => kN
      refine' comp_keep2 kF kN ?z1ks ?z1ko ?z1kS ?_
      case z1ks => (repeat (first | (with_reducible exact Suf.here) | (with_reducible refine Suf.there ?_)))
      case z1ko => (simp only [LCg.Off3, and_true]; assumption)
      case z1kS => lcg_src
      clear kF kN
      try dsimp only
      k_steps
      refine Stop.intro ?_
      k_here
      k_dflt ((with_reducible show wpAny _ _ (call (Value.ref 33) [_, _, Value.str (Str.ofString "drop") _, _]) _ _ _); refine' conf_call (l := [.field 0, .deref]) (ks := [true]) (d := .drop) (r := [.field 0]) ?z2kB ?z2kF ?z2kX ?z2kN ?z2kT ?z2kk (fun _ h => h) ?z2w1 ?z2w2 ?z2w3 ?z2w5 ?z2w6 ?z2w7 ?z2kd ?z2ku ?_; (case z2kB => k_asm); (case z2kF => k_asm); (case z2kX => k_asm); (case z2kN => k_asm); (case z2kT => k_asm); (case z2kk => (first | exact rfl | assumption)); (case z2w2 => exact DatIn.tuple (vs := [_]) (by k_mem) (.cons (.str _ _) .nil)); (case z2w1 => exact DatIn.tuple (vs := [_, _]) (by k_mem) (.cons (.int _ _) (.cons (DatIn.tuple (vs := [_, _]) (by k_mem) (.cons (DatIn.tuple (vs := [_, _]) (by k_mem) (.cons (.str _ _) (.cons (.int _ _) .nil))) (.cons (DatIn.tuple (vs := [_]) (by k_mem) (.cons (.str _ _) .nil)) .nil))) .nil))); (case z2w3 => exact DatIn.tuple (vs := [_, _]) (by k_mem) (.cons (.int _ _) (.cons (DatIn.tuple (vs := [_]) (by k_mem) (.cons (DatIn.tuple (vs := [_, _]) (by k_mem) (.cons (.str _ _) (.cons (.int _ _) .nil))) .nil)) .nil))); (case z2w5 => decide); (case z2w6 => decide); (case z2w7 => decide); (case z2kd => ktr_room); (case z2ku => ktr_units))
      rw [conc2]
      intro h' tk' F' N'
      try dsimp only
      try k_fold
      k_unfold
      try dsimp only
      rename Fr _ _ _ _ => kF
      rename News _ _ _ _ => kN
      refine' comp_keep2 kF kN ?z2ks ?z2ko ?z2kS ?_
      case z2ks => (repeat (first | (with_reducible exact Suf.here) | (with_reducible refine Suf.there ?_)))
      case z2ko => (simp only [LCg.Off3, and_true]; assumption)
      case z2kS => lcg_src
      clear kF kN
      try dsimp only
      k_steps
      refine Stop.intro ?_
      k_here
      k_dflt ((with_reducible show wpAny _ _ (call (Value.ref 33) [_, _, Value.str (Str.ofString "deep") _, _]) _ _ _); refine' conf_call (l := [.field 1, .deref, .field 0]) (ks := [false]) (d := .deep) (r := [.field 1]) ?z3kB ?z3kF ?z3kX ?z3kN ?z3kT ?z3kk (fun _ h => h) ?z3w1 ?z3w2 ?z3w3 ?z3w5 ?z3w6 ?z3w7 ?z3kd ?z3ku ?_; (case z3kB => k_asm); (case z3kF => k_asm); (case z3kX => k_asm); (case z3kN => k_asm); (case z3kT => k_asm); (case z3kk => (first | exact rfl | assumption)); (case z3w2 => exact DatIn.tuple (vs := [_]) (by k_mem) (.cons (.str _ _) .nil)); (case z3w1 => exact DatIn.tuple (vs := [_, _]) (by k_mem) (.cons (.int _ _) (.cons (DatIn.tuple (vs := [_, _, _]) (by k_mem) (.cons (DatIn.tuple (vs := [_, _]) (by k_mem) (.cons (.str _ _) (.cons (.int _ _) .nil))) (.cons (DatIn.tuple (vs := [_]) (by k_mem) (.cons (.str _ _) .nil)) (.cons (DatIn.tuple (vs := [_, _]) (by k_mem) (.cons (.str _ _) (.cons (.int _ _) .nil))) .nil)))) .nil))); (case z3w3 => exact DatIn.tuple (vs := [_, _]) (by k_mem) (.cons (.int _ _) (.cons (DatIn.tuple (vs := [_]) (by k_mem) (.cons (DatIn.tuple (vs := [_, _]) (by k_mem) (.cons (.str _ _) (.cons (.int _ _) .nil))) .nil)) .nil))); (case z3w5 => decide); (case z3w6 => decide); (case z3w7 => decide); (case z3kd => ktr_room); (case z3ku => ktr_units))
      rw [conc3]
      intro h' tk' F' N'
      try dsimp only
      try k_fold
      k_unfold
      try dsimp only
      rename Fr _ _ _ _ => kF
      rename News _ _ _ _ => kN
      refine' comp_keep2 kF kN ?z3ks ?z3ko ?z3kS ?_
      case z3ks => (repeat (first | (with_reducible exact Suf.here) | (with_reducible refine Suf.there ?_)))
      case z3ko => (simp only [LCg.Off3, and_true]; assumption)
      case z3kS => lcg_src
      clear kF kN
      try dsimp only
      k_steps
      refine Stop.intro ?_
      k_here
      k_dflt ((with_reducible show wpAny _ _ (call (Value.ref 33) [_, _, Value.str (Str.ofString "shallow") _, _]) _ _ _); refine' conf_call (l := [.field 1, .deref, .field 0]) (ks := [false]) (d := .shallow) (r := [.field 1]) ?z4kB ?z4kF ?z4kX ?z4kN ?z4kT ?z4kk (fun _ h => h) ?z4w1 ?z4w2 ?z4w3 ?z4w5 ?z4w6 ?z4w7 ?z4kd ?z4ku ?_; (case z4kB => k_asm); (case z4kF => k_asm); (case z4kX => k_asm); (case z4kN => k_asm); (case z4kT => k_asm); (case z4kk => (first | exact rfl | assumption)); (case z4w2 => exact DatIn.tuple (vs := [_]) (by k_mem) (.cons (.str _ _) .nil)); (case z4w1 => exact DatIn.tuple (vs := [_, _]) (by k_mem) (.cons (.int _ _) (.cons (DatIn.tuple (vs := [_, _, _]) (by k_mem) (.cons (DatIn.tuple (vs := [_, _]) (by k_mem) (.cons (.str _ _) (.cons (.int _ _) .nil))) (.cons (DatIn.tuple (vs := [_]) (by k_mem) (.cons (.str _ _) .nil)) (.cons (DatIn.tuple (vs := [_, _]) (by k_mem) (.cons (.str _ _) (.cons (.int _ _) .nil))) .nil)))) .nil))); (case z4w3 => exact DatIn.tuple (vs := [_, _]) (by k_mem) (.cons (.int _ _) (.cons (DatIn.tuple (vs := [_]) (by k_mem) (.cons (DatIn.tuple (vs := [_, _]) (by k_mem) (.cons (.str _ _) (.cons (.int _ _) .nil))) .nil)) .nil))); (case z4w5 => decide); (case z4w6 => decide); (case z4w7 => decide); (case z4kd => ktr_room); (case z4ku => ktr_units))
      rw [conc4]
      intro h' tk' F' N'
      try dsimp only
      try k_fold
      k_unfold
      try dsimp only
      rename Fr _ _ _ _ => kF
      rename News _ _ _ _ => kN
      refine' comp_keep2 kF kN ?z4ks ?z4ko ?z4kS ?_
      case z4ks => (repeat (first | (with_reducible exact Suf.here) | (with_reducible refine Suf.there ?_)))
      case z4ko => (simp only [LCg.Off3, and_true]; assumption)
      case z4kS => lcg_src
      clear kF kN
      try dsimp only
      k_steps
      refine Stop.intro ?_
      k_here
      k_dflt ((with_reducible show wpAny _ _ (call (Value.ref 33) [_, _, Value.str (Str.ofString "drop") _, _]) _ _ _); refine' conf_call (l := [.field 1, .deref, .field 0]) (ks := [false]) (d := .drop) (r := [.field 1]) ?z5kB ?z5kF ?z5kX ?z5kN ?z5kT ?z5kk (fun _ h => h) ?z5w1 ?z5w2 ?z5w3 ?z5w5 ?z5w6 ?z5w7 ?z5kd ?z5ku ?_; (case z5kB => k_asm); (case z5kF => k_asm); (case z5kX => k_asm); (case z5kN => k_asm); (case z5kT => k_asm); (case z5kk => (first | exact rfl | assumption)); (case z5w2 => exact DatIn.tuple (vs := [_]) (by k_mem) (.cons (.str _ _) .nil)); (case z5w1 => exact DatIn.tuple (vs := [_, _]) (by k_mem) (.cons (.int _ _) (.cons (DatIn.tuple (vs := [_, _, _]) (by k_mem) (.cons (DatIn.tuple (vs := [_, _]) (by k_mem) (.cons (.str _ _) (.cons (.int _ _) .nil))) (.cons (DatIn.tuple (vs := [_]) (by k_mem) (.cons (.str _ _) .nil)) (.cons (DatIn.tuple (vs := [_, _]) (by k_mem) (.cons (.str _ _) (.cons (.int _ _) .nil))) .nil)))) .nil))); (case z5w3 => exact DatIn.tuple (vs := [_, _]) (by k_mem) (.cons (.int _ _) (.cons (DatIn.tuple (vs := [_]) (by k_mem) (.cons (DatIn.tuple (vs := [_, _]) (by k_mem) (.cons (.str _ _) (.cons (.int _ _) .nil))) .nil)) .nil))); (case z5w5 => decide); (case z5w6 => decide); (case z5w7 => decide); (case z5kd => ktr_room); (case z5ku => ktr_units))
      rw [conc5]
      intro h' tk' F' N'
      try dsimp only
      try k_fold
      k_unfold
      try dsimp only
      rename Fr _ _ _ _ => kF
      rename News _ _ _ _ => kN
      refine' comp_keep2 kF kN ?z5ks ?z5ko ?z5kS ?_
      case z5ks => (repeat (first | (with_reducible exact Suf.here) | (with_reducible refine Suf.there ?_)))
      case z5ko => (simp only [LCg.Off3, and_true]; assumption)
      case z5kS => lcg_src
      clear kF kN
      try dsimp only
      k_steps))
end
end Mine
end
theorem PySem.Challenge.cw_nz0122_01_holds : PySem.Challenge.rw_nz0122_01.Holds :=
  Mine.law_holds
