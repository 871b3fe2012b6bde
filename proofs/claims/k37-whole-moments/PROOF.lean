import PyProof.Rows.All
import Wide.All
import OpenK.AllK
import Wide.FinOn
import HandS.ForMost
import HandS.SortKw
import KE.SortKeyHeap
import HandS.Exc
import HandS.TryOnly
import HandS.ExcOwn
import HandS.WordsExc
import HandS.ExcInit
import HandS.IsInst
import HandS.Zip
import PySem.Challenge.RW_skewhouse_k37_whole_moments_go_forward
set_option Elab.async false
set_option linter.all false
set_option maxRecDepth 100000
set_option autoImplicit false
/-! THE PLAIN LAW: spans let in one after the other; whoever saw less stands ahead. No program here. -/
namespace K37
/-- a look: where it stands, its stretch, the keys that don't count -/
structure Look where
  st : Int
  lo : Int
  hi : Int
  own : List Int
/-- a span, a row of the law -/
structure Sp where
  num : Int
  wat : Bool
  beg : Int
  en : Int
  looks : List Look
  puts : List Int
def sees (l : Look) (key e : Int) : Bool := decide (l.st < e) && (decide (l.lo ≤ key) && decide (key ≤ l.hi)) && !decide (key ∈ l.own)
def seen (o : Sp) (key e : Int) : Bool := o.looks.any fun l => sees l key e
def older (o m : Sp) : Option Int := if o.num = m.num then none else m.puts.find? fun key => seen o key m.en
def outs (m o : Sp) : Bool := (older m o).isSome && decide (o.en < m.en)
def out (m : Sp) (l : List Sp) : Bool := l.any fun o => outs m o
def abt (o m : Sp) (behind : Bool) : Bool := (older o m).isSome && behind && !decide (o.en < m.beg)
/-- the turn of the inner loop -/
def hit (n : Int) (m : Sp) (b : Bool) (o : Sp) : Bool := (decide (m.num = n) || decide (o.num = n)) && abt o m b
/-- the turn of the outer loop -/
def mid (n : Int) (l : List Sp) (m : Sp) : Bool := m.wat && l.any fun o => hit n m (out m l) o
def clash (l : List Sp) (n : Int) : Bool := l.any fun m => mid n l m
def early (s : Sp) (l : List Sp) : Bool := s.wat && out s l
def stand (s : Sp) (l : List Sp) : Int := if early s l then s.beg else s.en
def step (acc : List Sp) (r : Sp) : List Sp := if clash (acc ++ [r]) r.num then acc else acc ++ [r]
def letIn (rows : List Sp) : List Sp := rows.foldl step []

/-! ### the order of the list counts for nothing -/
theorem any_perm {α : Type} {p : α → Bool} {l l' : List α} (h : l.Perm l') : l.any p = l'.any p := by
  rw [Bool.eq_iff_iff, List.any_eq_true, List.any_eq_true]
  constructor
  · rintro ⟨x, hx, hp⟩
    exact ⟨x, h.mem_iff.mp hx, hp⟩
  · rintro ⟨x, hx, hp⟩
    exact ⟨x, h.mem_iff.mpr hx, hp⟩
theorem out_perm {m : Sp} {l l' : List Sp} (h : l.Perm l') : out m l = out m l' := any_perm h
theorem mid_perm {n : Int} {m : Sp} {l l' : List Sp} (h : l.Perm l') : mid n l m = mid n l' m := by
  unfold mid
  rw [out_perm h, any_perm h]
theorem clash_perm {n : Int} {l l' : List Sp} (h : l.Perm l') : clash l n = clash l' n := by
  unfold clash
  rw [any_perm h]
  congr 1
  funext m
  exact mid_perm h

/-! ### what the law builds -/
structure RowOk (r : Sp) : Prop where
  look : ∀ l, l ∈ r.looks → r.beg ≤ l.st ∧ l.st ≤ r.en ∧ (r.wat = true → l.st = r.beg)
  be : r.beg ≤ r.en
structure Good (rows : List Sp) : Prop where
  row : ∀ r, r ∈ rows → RowOk r
  rise : rows.Pairwise fun a b => a.en < b.en ∧ a.num ≠ b.num
/-- about each watched one that is early: who saw less ended ahead of its begin -/
def Apart (l : List Sp) : Prop := ∀ m o, m ∈ l → o ∈ l → m.wat = true → out m l = true → (older o m).isSome = true → o.en < m.beg
theorem Good.sub {a b : List Sp} (g : Good b) (s : a.Sublist b) : Good a := ⟨fun r hr => g.row r (s.subset hr), g.rise.sublist s⟩
theorem no_clash {l : List Sp} {n : Int} (h : clash l n = false) {m o : Sp} (hm : m ∈ l) (ho : o ∈ l) (hn : m.num = n ∨ o.num = n) (hw : m.wat = true) (hout : out m l = true) (hold : (older o m).isSome = true) : o.en < m.beg := by
  by_cases hlt : o.en < m.beg
  · exact hlt
  · exfalso
    have hh : hit n m (out m l) o = true := by
      unfold hit abt
      rw [hout, hold, decide_eq_false hlt]
      rcases hn with e | e
      · rw [decide_eq_true e]; rfl
      · rw [decide_eq_true e]; simp
    have hmid : mid n l m = true := by
      unfold mid
      rw [hw, Bool.true_and]
      exact List.any_eq_true.mpr ⟨o, ho, hh⟩
    have hc : clash l n = true := List.any_eq_true.mpr ⟨m, hm, hmid⟩
    rw [h] at hc
    cases hc
theorem out_last {m r : Sp} {l : List Sp} (h : m.en < r.en) : out m (l ++ [r]) = out m l := by
  unfold out
  rw [List.any_append]
  have e : outs m r = false := by
    unfold outs
    rw [decide_eq_false (by omega), Bool.and_false]
  simp [e]
theorem step_apart {acc : List Sp} {r : Sp} (hr : ∀ a, a ∈ acc → a.en < r.en) (A : Apart acc) : Apart (step acc r) := by
  unfold step
  cases hc : clash (acc ++ [r]) r.num with
  | true => exact A
  | false =>
    show Apart (acc ++ [r])
    intro m o hm ho hw hout hold
    have hm' := List.mem_append.mp hm
    have ho' := List.mem_append.mp ho
    by_cases e : m.num = r.num ∨ o.num = r.num
    · exact no_clash hc hm ho e hw hout hold
    · rcases hm' with hm' | hm'
      · rcases ho' with ho' | ho'
        · rw [out_last (hr m hm')] at hout
          exact A m o hm' ho' hw hout hold
        · exact absurd (Or.inr (by rw [List.mem_singleton.mp ho'])) e
      · exact absurd (Or.inl (by rw [List.mem_singleton.mp hm'])) e
theorem fold_facts : ∀ (rows acc : List Sp), (∀ a, a ∈ acc → ∀ r, r ∈ rows → a.en < r.en) → (rows.Pairwise fun a b => a.en < b.en ∧ a.num ≠ b.num) → Apart acc →
    Apart (rows.foldl step acc) ∧ ∃ sub : List Sp, sub.Sublist rows ∧ rows.foldl step acc = acc ++ sub
  | [], acc, _, _, A => ⟨A, [], .slnil, by simp⟩
  | r :: rows, acc, h, g, A => by
    obtain ⟨g1, g2⟩ := List.pairwise_cons.mp g
    have A' := step_apart (acc := acc) (r := r) (fun a ha => h a ha r List.mem_cons_self) A
    show Apart (rows.foldl step (step acc r)) ∧ ∃ sub : List Sp, sub.Sublist (r :: rows) ∧ rows.foldl step (step acc r) = acc ++ sub
    by_cases hc : clash (acc ++ [r]) r.num = true
    · have es : step acc r = acc := by unfold step; rw [if_pos hc]
      rw [es]
      obtain ⟨q1, sub, q2, q3⟩ := fold_facts rows acc (fun a ha x hx => h a ha x (List.mem_cons_of_mem _ hx)) g2 A
      exact ⟨q1, sub, q2.cons _, q3⟩
    · have es : step acc r = acc ++ [r] := by unfold step; rw [if_neg hc]
      rw [es] at A' ⊢
      obtain ⟨q1, sub, q2, q3⟩ := fold_facts rows (acc ++ [r]) (fun a ha x hx => by
        rcases List.mem_append.mp ha with ha | ha
        · exact h a ha x (List.mem_cons_of_mem _ hx)
        · rw [List.mem_singleton.mp ha]; exact (g1 x hx).1) g2 A'
      exact ⟨q1, r :: sub, q2.cons_cons _, by rw [q3]; simp⟩
theorem let_facts {rows : List Sp} (g : Good rows) : Apart (letIn rows) ∧ Good (letIn rows) := by
  obtain ⟨h1, sub, h2, h3⟩ := fold_facts rows [] (fun a ha => absurd ha (by simp)) g.rise (fun m o hm => absurd hm (by simp))
  have e : letIn rows = sub := by unfold letIn; rw [h3, List.nil_append]
  exact ⟨h1, by rw [e]; exact g.sub h2⟩
theorem self_old (s : Sp) : older s s = none := if_pos rfl
theorem first_in (r : Sp) : step [] r = [r] := by
  have e : clash ([] ++ [r]) r.num = false := by
    unfold clash mid hit abt
    simp [self_old]
  unfold step
  rw [e]
  rfl
theorem step_len (acc : List Sp) (r : Sp) : acc.length ≤ (step acc r).length := by
  unfold step
  split
  · exact Nat.le_refl _
  · simp
theorem fold_len : ∀ (rows acc : List Sp), acc.length ≤ (rows.foldl step acc).length
  | [], _ => Nat.le_refl _
  | r :: rows, acc => Nat.le_trans (step_len acc r) (fold_len rows (step acc r))
theorem some_in {rows : List Sp} (h : 0 < rows.length) : 0 < (letIn rows).length := by
  cases rows with
  | nil => simp at h
  | cons r rows =>
    unfold letIn
    show 0 < (rows.foldl step (step [] r)).length
    rw [first_in]
    exact Nat.lt_of_lt_of_le (by simp) (fold_len rows [r])

/-! ### the law's own question -/
/-- the moment of a look -/
def moment (s : Sp) (l : Look) (ms : Int) : Int := if s.wat then ms else l.st
theorem older_some {o m : Sp} {l : Look} {key : Int} (hne : o.num ≠ m.num) (hl : l ∈ o.looks) (hk : key ∈ m.puts) (hs : sees l key m.en = true) : (older o m).isSome = true := by
  unfold older
  rw [if_neg hne, List.find?_isSome]
  exact ⟨key, hk, List.any_eq_true.mpr ⟨l, hl, hs⟩⟩
theorem rise_ne {l : List Sp} (g : l.Pairwise fun a b => a.en < b.en ∧ a.num ≠ b.num) {a b : Sp} (ha : a ∈ l) (hb : b ∈ l) (hn : a.num ≠ b.num) : a.en ≠ b.en := by
  induction l with
  | nil => simp at ha
  | cons x l ih =>
    obtain ⟨g1, g2⟩ := List.pairwise_cons.mp g
    rcases List.mem_cons.mp ha with ea | ha
    · rcases List.mem_cons.mp hb with eb | hb
      · rw [ea, eb] at hn; exact absurd rfl hn
      · rw [ea]; exact Int.ne_of_lt (g1 b hb).1
    · rcases List.mem_cons.mp hb with eb | hb
      · rw [eb]; exact Int.ne_of_gt (g1 a ha).1
      · exact ih g2 ha hb
/-- THE LAW -/
theorem forward {l : List Sp} (g : Good l) (A : Apart l) {one other : Sp} (h1 : one ∈ l) (h2 : other ∈ l) (hn : one.num ≠ other.num) {lk : Look} (hl : lk ∈ one.looks) {key : Int} (hk : key ∈ other.puts) (hs : sees lk key other.en = true) :
    moment one lk (stand one l) < stand other l := by
  have hold := older_some hn hl hk hs
  obtain ⟨lo, hi, heq⟩ := (g.row one h1).look lk hl
  have hbe := (g.row one h1).be
  have hst : lk.st < other.en := by
    unfold sees at hs
    simp only [Bool.and_eq_true, decide_eq_true_eq] at hs
    exact hs.1.1
  have hm : moment one lk (stand one l) ≤ one.en := by
    unfold moment stand
    split
    · split
      · exact hbe
      · exact Int.le_refl _
    · exact hi
  by_cases he : early other l = true
  · have hw : other.wat = true := by
      unfold early at he
      exact (Bool.and_eq_true _ _ ▸ he).1
    have ho : out other l = true := by
      unfold early at he
      exact (Bool.and_eq_true _ _ ▸ he).2
    have q := A other one h2 h1 hw ho hold
    have es : stand other l = other.beg := by unfold stand; rw [if_pos he]
    rw [es]
    omega
  · have es : stand other l = other.en := by unfold stand; rw [if_neg he]
    rw [es]
    unfold moment
    by_cases hw : one.wat = true
    · rw [if_pos hw]
      unfold stand
      by_cases hE : early one l = true
      · rw [if_pos hE, ← heq hw]
        exact hst
      · rw [if_neg hE]
        have hno : out one l = false := by
          unfold early at hE
          rw [hw, Bool.true_and] at hE
          exact Bool.eq_false_iff.mpr hE
        have hq : ¬ other.en < one.en := fun hlt => by
          have : out one l = true := List.any_eq_true.mpr ⟨other, h2, by unfold outs; rw [hold, decide_eq_true hlt]; rfl⟩
          rw [hno] at this
          cases this
        have hne := rise_ne g.rise h1 h2 hn
        omega
    · rw [if_neg hw]
      exact hst
/-- the law's inner question of two rows -/
def EdgesOk (one other : Sp) (m1 m2 : Int) : Prop := ∀ lk, lk ∈ one.looks → ∀ key, key ∈ other.puts → sees lk key other.en = true → moment one lk m1 < m2
theorem all_edges {rows : List Sp} (g : Good rows) {one other : Sp} (h1 : one ∈ letIn rows) (h2 : other ∈ letIn rows) (hn : one.num ≠ other.num) :
    EdgesOk one other (stand one (letIn rows)) (stand other (letIn rows)) := fun _ hl _ hk hs => forward (let_facts g).2 (let_facts g).1 h1 h2 hn hl hk hs
end K37

/-! THE DATA: looks, spans, rows as they lie in the heap; the defs of the text by places. -/
namespace K37
open PySem L2
/-! ### the text by places -/
def top (i : Nat) : Stmt := PySem.Challenge.pw_skewhouse_k37_whole_moments_go_forward.main.body.getD i (.Pass ⟨0, 0, 0, 0⟩)
abbrev sBroken : Stmt := inClass (top 2) 0
abbrev sInside : Stmt := top 4
abbrev sSpan : Stmt := inClass (top 6) 0
abbrev sLooked : Stmt := top 7
abbrev sOlder : Stmt := top 8
abbrev sNumber : Stmt := top 9
abbrev sOut : Stmt := top 10
abbrev sAbout : Stmt := top 11
abbrev sClosing : Stmt := top 12
abbrev sLet : Stmt := top 13
abbrev sEarly : Stmt := top 14
abbrev sStand : Stmt := top 15
abbrev sCell : Stmt := top 17
abbrev sStream : Stmt := top 18
abbrev sLooks : Stmt := top 19
abbrev sRows : Stmt := top 20
abbrev sLspan : Stmt := top 21
abbrev sWhole : Stmt := top 22
abbrev sCome : Stmt := top 23
abbrev sEdges : Stmt := top 24
abbrev sLaw : Stmt := top 25

/-! ### lists beside lists -/
inductive Al {α β : Type} (R : α → β → Prop) : List α → List β → Prop
  | nil : Al R [] []
  | cons {a : α} {b : β} {as : List α} {bs : List β} : R a b → Al R as bs → Al R (a :: as) (b :: bs)
section
variable {α β : Type} {R S : α → β → Prop}
theorem Al.len {as : List α} {bs : List β} (h : Al R as bs) : as.length = bs.length := by
  induction h with
  | nil => rfl
  | cons _ _ ih => simp [ih]
theorem Al.get {as : List α} {bs : List β} (h : Al R as bs) : ∀ {i : Nat} {a : α}, as[i]? = some a → ∃ b, bs[i]? = some b ∧ R a b := by
  induction h with
  | nil => intro i a e; simp at e
  | cons r _ ih =>
    intro i a e
    cases i with
    | zero => simp at e; subst e; exact ⟨_, rfl, r⟩
    | succ i => simpa using ih (by simpa using e)
theorem Al.back {as : List α} {bs : List β} (h : Al R as bs) : ∀ {i : Nat} {b : β}, bs[i]? = some b → ∃ a, as[i]? = some a ∧ R a b := by
  induction h with
  | nil => intro i a e; simp at e
  | cons r _ ih =>
    intro i a e
    cases i with
    | zero => simp at e; subst e; exact ⟨_, rfl, r⟩
    | succ i => simpa using ih (by simpa using e)
theorem Al.mono {as : List α} {bs : List β} (h : Al R as bs) (f : ∀ a b, R a b → S a b) : Al S as bs := by
  induction h with
  | nil => exact .nil
  | cons r _ ih => exact .cons (f _ _ r) ih
theorem Al.snoc {as : List α} {bs : List β} {a : α} {b : β} (h : Al R as bs) (r : R a b) : Al R (as ++ [a]) (bs ++ [b]) := by
  induction h with
  | nil => exact .cons r .nil
  | cons q _ ih => exact .cons q ih
theorem Al.perm {as as' : List α} (p : as'.Perm as) : ∀ {bs : List β}, Al R as bs → ∃ bs', bs'.Perm bs ∧ Al R as' bs' := by
  induction p with
  | nil => intro bs h; exact ⟨bs, List.Perm.refl _, h⟩
  | cons x _ ih =>
    intro bs h
    cases h with
    | cons r t =>
      obtain ⟨bs', q1, q2⟩ := ih t
      exact ⟨_ :: bs', q1.cons _, .cons r q2⟩
  | swap x y l =>
    intro bs h
    cases h with
    | cons r t =>
      cases t with
      | cons r2 t => exact ⟨_, List.Perm.swap _ _ _, .cons r2 (.cons r t)⟩
  | trans _ _ ih1 ih2 =>
    intro bs h
    obtain ⟨bs1, q1, q2⟩ := ih2 h
    obtain ⟨bs2, q3, q4⟩ := ih1 q2
    exact ⟨bs2, q3.trans q1, q4⟩
end
/-- an item of a list of references -/
theorem ref_at {as : List Addr} {i : Nat} {x : V} (h : (as.map V.ref)[i]? = some x) : ∃ a, as[i]? = some a ∧ x = V.ref a := by
  rw [List.getElem?_map] at h
  cases e : as[i]? with
  | none => rw [e] at h; cases h
  | some a => rw [e] at h; exact ⟨a, rfl, (Option.some.inj h).symm⟩
theorem int_at {as : List Int} {i : Nat} {x : V} (h : (as.map V.int)[i]? = some x) : ∃ a, as[i]? = some a ∧ x = V.int a := by
  rw [List.getElem?_map] at h
  cases e : as[i]? with
  | none => rw [e] at h; cases h
  | some a => rw [e] at h; exact ⟨a, rfl, (Option.some.inj h).symm⟩
theorem get_int {as : List Int} {i : Nat} {a : Int} (h : as[i]? = some a) : (as.map V.int)[i]? = some (V.int a) := by
  rw [List.getElem?_map, h]; rfl
theorem get_ref {as : List Addr} {i : Nat} {a : Addr} (h : as[i]? = some a) : (as.map V.ref)[i]? = some (V.ref a) := by
  rw [List.getElem?_map, h]; rfl
theorem snoc_ref (as : List Addr) (a : Addr) : (as ++ [a]).map V.ref = as.map V.ref ++ [V.ref a] := by simp
theorem snoc_int (as : List Int) (a : Int) : (as ++ [a]).map V.int = as.map V.int ++ [V.int a] := by simp
theorem all_flat (as : List Int) : (as.map V.int).all flatV = true := by
  rw [List.all_eq_true]
  intro v hv
  obtain ⟨a, _, rfl⟩ := List.mem_map.mp hv
  rfl
theorem in_int (k : Int) (as : List Int) : inV (V.int k) (as.map V.int) = decide (k ∈ as) := by
  rw [Bool.eq_iff_iff, decide_eq_true_eq]
  unfold inV
  rw [List.any_eq_true]
  constructor
  · rintro ⟨v, hv, e⟩
    obtain ⟨a, ha, rfl⟩ := List.mem_map.mp hv
    have e' : (a == k) = true := e
    rw [← eq_of_beq e']
    exact ha
  · intro h
    exact ⟨V.int k, List.mem_map.mpr ⟨k, h, rfl⟩, show (k == k) = true from beq_self_eq_true k⟩
theorem take_snoc {α : Type} : ∀ {l : List α} {i : Nat} {x : α}, l[i]? = some x → l.take (i + 1) = l.take i ++ [x]
  | [], i, x, h => by simp at h
  | a :: l, 0, x, h => by
    have e : a = x := Option.some.inj h
    subst e
    rfl
  | a :: l, i + 1, x, h => by
    have ih := take_snoc (l := l) (i := i) (x := x) h
    show a :: l.take (i + 1) = a :: l.take i ++ [x]
    rw [ih]
    rfl
theorem line1000 {n : Nat} (h : n ≤ 1000) : n ≤ sizeLine := Nat.le_of_lt (small1000 h)
theorem line1000' {n : Nat} (h : n ≤ 1001) : n ≤ sizeLine := Nat.le_trans h (by decide)

/-! ### a span's fields -/
theorem neS {x y : Str} (h : decide (x = y) = false) : ¬ x = y := of_decide_eq_false h
def sf (num : Int) (w : Bool) (b e : Int) (la pa : Addr) : List (Str × V) :=
  putF "puts" (.ref pa) (putF "looks" (.ref la) (putF "end" (.int e) (putF "begin" (.int b) (putF "watched" (.bl w) (putF "number" (.int num) [])))))
section
variable (num : Int) (w : Bool) (b e : Int) (la pa : Addr)
theorem sf_puts : (sf num w b e la pa).lookup ("puts" : Str) = some (.ref pa) := by
  unfold sf
  rw [lookup_putF, if_pos rfl]
theorem sf_looks : (sf num w b e la pa).lookup ("looks" : Str) = some (.ref la) := by
  unfold sf
  rw [lookup_putF, if_neg (neS (by decide +kernel)), lookup_putF, if_pos rfl]
theorem sf_end : (sf num w b e la pa).lookup ("end" : Str) = some (.int e) := by
  unfold sf
  rw [lookup_putF, if_neg (neS (by decide +kernel)), lookup_putF, if_neg (neS (by decide +kernel)), lookup_putF, if_pos rfl]
theorem sf_begin : (sf num w b e la pa).lookup ("begin" : Str) = some (.int b) := by
  unfold sf
  rw [lookup_putF, if_neg (neS (by decide +kernel)), lookup_putF, if_neg (neS (by decide +kernel)), lookup_putF, if_neg (neS (by decide +kernel)), lookup_putF, if_pos rfl]
theorem sf_watched : (sf num w b e la pa).lookup ("watched" : Str) = some (.bl w) := by
  unfold sf
  rw [lookup_putF, if_neg (neS (by decide +kernel)), lookup_putF, if_neg (neS (by decide +kernel)), lookup_putF, if_neg (neS (by decide +kernel)), lookup_putF, if_neg (neS (by decide +kernel)), lookup_putF, if_pos rfl]
theorem sf_number : (sf num w b e la pa).lookup ("number" : Str) = some (.int num) := by
  unfold sf
  rw [lookup_putF, if_neg (neS (by decide +kernel)), lookup_putF, if_neg (neS (by decide +kernel)), lookup_putF, if_neg (neS (by decide +kernel)), lookup_putF, if_neg (neS (by decide +kernel)), lookup_putF, if_neg (neS (by decide +kernel)), lookup_putF, if_pos rfl]
end

/-! ### in the heap -/
def LookAt (H : Hp) (t : Addr) (l : Look) : Prop := ∃ o, H t = some (.tup [.int l.st, .int l.lo, .int l.hi, .ref o]) ∧ H o = some (.tup (l.own.map V.int))
def ListOf {β : Type} (R : Hp → Addr → β → Prop) (H : Hp) (p : Addr) (bs : List β) : Prop := ∃ as : List Addr, H p = some (.lst (as.map V.ref)) ∧ Al (R H) as bs
abbrev LooksAt : Hp → Addr → List Look → Prop := ListOf LookAt
def SpanAt (C : Addr) (H : Hp) (a : Addr) (s : Sp) : Prop := ∃ dx la pa, H a = some (.ins C dx (sf s.num s.wat s.beg s.en la pa)) ∧ LooksAt H la s.looks ∧ H pa = some (.lst (s.puts.map V.int))
abbrev SpansAt (C : Addr) : Hp → Addr → List Sp → Prop := ListOf (SpanAt C)
def RowAt (H : Hp) (a : Addr) (s : Sp) : Prop := ∃ la pa, H a = some (.tup [.int s.num, .bl s.wat, .int s.beg, .int s.en, .ref la, .ref pa]) ∧ LooksAt H la s.looks ∧ H pa = some (.lst (s.puts.map V.int))
abbrev RowsAt : Hp → Addr → List Sp → Prop := ListOf RowAt
section
variable {H H' : Hp}
theorem LookAt.up (s : Same H H') {t : Addr} {l : Look} (h : LookAt H t l) : LookAt H' t l := by
  obtain ⟨o, h1, h2⟩ := h
  exact ⟨o, s _ _ h1, s _ _ h2⟩
theorem ListOf.up {β : Type} {R : Hp → Addr → β → Prop} (s : Same H H') (f : ∀ a b, R H a b → R H' a b) {p : Addr} {bs : List β} (h : ListOf R H p bs) : ListOf R H' p bs := by
  obtain ⟨as, h1, h2⟩ := h
  exact ⟨as, s _ _ h1, h2.mono f⟩
theorem looks_up (s : Same H H') {p : Addr} {ls : List Look} (h : LooksAt H p ls) : LooksAt H' p ls := ListOf.up s (fun _ _ r => r.up s) h
theorem SpanAt.up {C : Addr} (s : Same H H') {t : Addr} {l : Sp} (h : SpanAt C H t l) : SpanAt C H' t l := by
  obtain ⟨dx, la, pa, h1, h2, h3⟩ := h
  exact ⟨dx, la, pa, s _ _ h1, looks_up s h2, s _ _ h3⟩
theorem RowAt.up (s : Same H H') {t : Addr} {l : Sp} (h : RowAt H t l) : RowAt H' t l := by
  obtain ⟨la, pa, h1, h2, h3⟩ := h
  exact ⟨la, pa, s _ _ h1, looks_up s h2, s _ _ h3⟩
theorem spans_up {C : Addr} (s : Same H H') {p : Addr} {ls : List Sp} (h : SpansAt C H p ls) : SpansAt C H' p ls := ListOf.up s (fun _ _ r => r.up s) h
theorem rows_up (s : Same H H') {p : Addr} {ls : List Sp} (h : RowsAt H p ls) : RowsAt H' p ls := ListOf.up s (fun _ _ r => r.up s) h
/-- a new object -/
theorem same_new {p : Addr} {o : HO} (h : H p = none) : Same H (upd H p o) := fun b q e => by rw [upd_ne (ne_of_none e h)]; exact e
/-- an object that the entry did not know is written -/
theorem same_over {H0 : Hp} {p : Addr} {o : HO} (s : Same H0 H) (h : H0 p = none) : Same H0 (upd H p o) := fun b q e => by rw [upd_ne (ne_of_none e h)]; exact s _ _ e
end

/-! ### the heap without one object (a list that grows) -/
def hid (H : Hp) (l : Addr) : Hp := fun b => if b = l then none else H b
theorem hid_ne {H : Hp} {l b : Addr} (h : b ≠ l) : hid H l b = H b := if_neg h
theorem hid_sub {H : Hp} {l : Addr} : Same (hid H l) H := fun b o e => by
  by_cases c : b = l
  · have e' : hid H l b = none := if_pos c
    rw [e'] at e
    cases e
  · rw [hid_ne c] at e
    exact e
theorem hid_up {H H' : Hp} {l : Addr} (s : Same H H') : Same (hid H l) (hid H' l) := fun b o e => by
  by_cases c : b = l
  · have e' : hid H l b = none := if_pos c
    rw [e'] at e
    cases e
  · rw [hid_ne c] at e ⊢
    exact s _ _ e
theorem hid_upd {H : Hp} {l : Addr} {o : HO} : hid (upd H l o) l = hid H l := by
  funext b
  by_cases c : b = l
  · exact (if_pos c).trans (if_pos c).symm
  · rw [hid_ne c, hid_ne c, upd_ne c]
theorem same_hid {H0 H : Hp} {l : Addr} (s : Same H0 H) (h : H0 l = none) : Same H0 (hid H l) := fun b o e => by
  rw [hid_ne (ne_of_none e h)]
  exact s _ _ e
/-- a new address is not one that is known -/
theorem new_ne {H : Hp} {l b : Addr} (h : H l ≠ none) (n : H b = none) : b ≠ l := fun e => h (by rw [← e]; exact n)

/-! ### what the walk asks of the text -/
/-- a def of the module, as the top has left it -/
structure Def (K : PySem.W.Frag) (mg : Str → Option Value) (x : Str) (st : Stmt) (ps : List Str) (f : Addr) (fd : FuncData) : Prop where
  fn : Fun K x x st f fd
  gl : mg x = some (.ref f)
  bi : Binds K fd ps []
/-- a def that keeps its promise, for its callers -/
structure Cal (P : Program) (w : World) (K : PySem.W.Frag) (mg : Str → Option Value) (base : Heap) (CX : CXT) (k : Nat) (x : Str) (ps : List Str) (sp : L2.Sp) (f : Addr) (fd : FuncData) : Prop where
  ok : FnOk P w K mg base CX k f fd ps sp
  gl : mg x = some (.ref f)
  kp : PySem.W.keepIn K (.ref f) = true
  bi : Binds K fd ps []
theorem Def.cal {P : Program} {w : World} {K : PySem.W.Frag} {mg : Str → Option Value} {base : Heap} {CX : CXT} {k : Nat} {x : Str} {st : Stmt} {ps : List Str} {sp : L2.Sp} {f : Addr} {fd : FuncData} (D : Def K mg x st ps f fd) (ok : FnOk P w K mg base CX k f fd ps sp) :
    Cal P w K mg base CX k x ps sp f fd := ⟨ok, D.gl, D.fn.kp, D.bi⟩
/-- the class of spans -/
structure SpanC (K : PySem.W.Frag) (mg : Str → Option Value) (C : Addr) : Prop where
  cl : Cls K C
  nNum : NoAttr K C "number"
  nWat : NoAttr K C "watched"
  nBeg : NoAttr K C "begin"
  nEnd : NoAttr K C "end"
  nLks : NoAttr K C "looks"
  nPut : NoAttr K C "puts"
  mgC : mg "Span" = some (.ref C)
end K37

/-! inside, Span.__init__, looked_before, older. -/
namespace K37
open PySem L2
section
variable {P : Program} {w : World} {K : PySem.W.Frag} {mg : Str → Option Value} {base : Heap} {C : Addr}
/-! ### inside -/
def spInside : L2.Sp := fun vs H Q _ => ∃ key lo hi : Int, vs = [.int key, .int lo, .int hi] ∧ Q (.bl (decide (lo ≤ key) && decide (key ≤ hi))) H
theorem scInside : FnScope ["key", "low", "high"] ["key", "low", "high"] (defScope sInside) := ⟨rfl, rfl, rfl, by decide +kernel, rfl, by decide +kernel, by decide +kernel⟩
theorem ok_inside {f : Addr} {fd : FuncData} (F : Fun K "inside" "inside" sInside f fd) : FnOk P w K mg base CX0 1 f fd ["key", "low", "high"] spInside := by
  refine F.ok scInside (fun vs H Q E h => ?_) (fun cdv A outer s H vs Q E hr h => ?_)
  · obtain ⟨_, _, _, rfl, _⟩ := h
    rfl
  · obtain ⟨key, lo, hi, rfl, k⟩ := h
    refine ⟨_, pss_one (ps_ret (pe_chain op_le op_le (pv 1) (pv 0) (pv 2))), ?_⟩
    refine ⟨_, rfl, _, rfl, _, _, rfl, rfl, _, rfl, ?_⟩
    by_cases c : lo ≤ key
    · rw [decide_eq_true c] at k ⊢
      exact iteT ⟨_, rfl, _, _, rfl, rfl, k⟩
    · rw [decide_eq_false c] at k ⊢
      exact iteF k
/-! ### Span.__init__ -/
def spInit (C : Addr) : L2.Sp := fun vs H Q _ => ∃ (p dx la pa : Addr) (num : Int) (wt : Bool) (b e : Int) (xs ys : List V),
  vs = [.ref p, .int num, .bl wt, .int b, .int e, .ref la, .ref pa] ∧ H p = some (.ins C dx []) ∧ H la = some (.lst xs) ∧ H pa = some (.lst ys) ∧
  ∀ (la' pa' : Addr) (H' : Hp), H la' = none → H pa' = none → H' p = some (.ins C dx (sf num wt b e la' pa')) → H' la' = some (.lst xs) → H' pa' = some (.lst ys) → (∀ q o, H q = some o → q ≠ p → H' q = some o) → Q .non H'
theorem scInit : FnScope ["self", "number", "watched", "begin", "end", "looks", "puts"] ["self", "number", "watched", "begin", "end", "looks", "puts"] (defScope sSpan) := ⟨rfl, rfl, rfl, by decide +kernel, rfl, by decide +kernel, by decide +kernel⟩
theorem lenp {f : Str} {v : V} {fs : List (Str × V)} {n : Nat} (h : fs.length ≤ n) : (putF f v fs).length ≤ n + 1 := Nat.le_trans (length_putF f v fs) (Nat.succ_le_succ h)
theorem ok_init {f : Addr} {fd : FuncData} (F : Fun K "__init__" "Span.__init__" sSpan f fd) (T : SpanC K mg C) (zL : mg "list" = none) :
    FnOk P w K mg base CX0 1 f fd ["self", "number", "watched", "begin", "end", "looks", "puts"] (spInit C) := by
  refine F.ok scInit (fun vs H Q E h => ?_) (fun cdv A outer s H vs Q E hr h => ?_)
  · obtain ⟨_, _, _, _, _, _, _, _, _, _, rfl, _⟩ := h
    rfl
  · obtain ⟨p, dx, la, pa, num, wt, b, e, xs, ys, rfl, hp, hl, hq, k⟩ := h
    have npl : la ≠ p := ne_of hl hp (by intro z; cases z)
    have npq : pa ≠ p := ne_of hq hp (by intro z; cases z)
    refine ⟨_, pss_cons (ps_fld (pv 0) (pv 1) rfl) (pss_cons (ps_fld (pv 0) (pv 2) rfl) (pss_cons (ps_fld (pv 0) (pv 3) rfl) (pss_cons (ps_fld (pv 0) (pv 4) rfl)
      (pss_cons (ps_fld (pv 0) (pe_callTy call_list_of (by rfl) zL (by decide +kernel) (pa_cons (pv 5) pa_nil)) rfl)
      (pss_one (ps_fld (pv 0) (pe_callTy call_list_of (by rfl) zL (by decide +kernel) (pa_cons (pv 6) pa_nil)) rfl)))))), ?_⟩
    -- number, watched, begin, end
    refine ⟨_, rfl, _, rfl, p, C, dx, _, rfl, hp, T.cl, T.nNum, (by show 0 < 1000; decide), ?_⟩
    refine ⟨_, rfl, _, rfl, p, C, dx, _, rfl, upd_same, T.cl, T.nWat, Nat.lt_of_le_of_lt (lenp (Nat.le_refl 0)) (by decide), ?_⟩
    refine ⟨_, rfl, _, rfl, p, C, dx, _, rfl, upd_same, T.cl, T.nBeg, Nat.lt_of_le_of_lt (lenp (lenp (Nat.le_refl 0))) (by decide), ?_⟩
    refine ⟨_, rfl, _, rfl, p, C, dx, _, rfl, upd_same, T.cl, T.nEnd, Nat.lt_of_le_of_lt (lenp (lenp (lenp (Nat.le_refl 0)))) (by decide), ?_⟩
    -- looks
    have f4 : ∀ {o1 o2 o3 o4 : HO} (q : Addr) (o : HO), H q = some o → q ≠ p → upd (upd (upd (upd H p o1) p o2) p o3) p o4 q = some o := fun q o e hq => by
      rw [upd_ne hq, upd_ne hq, upd_ne hq, upd_ne hq]; exact e
    refine ⟨_, rfl, la, xs, rfl, .inl (SqL.of (f4 la _ hl npl)), fun l1 n1 => ?_⟩
    have p1 : p ≠ l1 := ne_of_none upd_same n1
    refine ⟨_, rfl, p, C, dx, _, rfl, Eq.trans (upd_ne p1) upd_same, T.cl, T.nLks, Nat.lt_of_le_of_lt (lenp (lenp (lenp (lenp (Nat.le_refl 0))))) (by decide), ?_⟩
    -- puts
    have q1 : pa ≠ l1 := ne_of_none (f4 pa _ hq npq) n1
    refine ⟨_, rfl, pa, ys, rfl, .inl (SqL.of (Eq.trans (upd_ne npq) (Eq.trans (upd_ne q1) (f4 pa _ hq npq)))), fun l2 n2 => ?_⟩
    have p2 : p ≠ l2 := ne_of_none upd_same n2
    have l12 : l1 ≠ l2 := ne_of_none (Eq.trans (upd_ne p1.symm) upd_same) n2
    refine ⟨_, rfl, p, C, dx, _, rfl, Eq.trans (upd_ne p2) upd_same, T.cl, T.nPut, Nat.lt_of_le_of_lt (lenp (lenp (lenp (lenp (lenp (Nat.le_refl 0)))))) (by decide), ?_⟩
    have m1 : H l1 = none := by
      have z := n1
      rw [upd_ne p1.symm, upd_ne p1.symm, upd_ne p1.symm, upd_ne p1.symm] at z
      exact z
    have m2 : H l2 = none := by
      have z := n2
      rw [upd_ne p2.symm, upd_ne l12.symm, upd_ne p2.symm, upd_ne p2.symm, upd_ne p2.symm, upd_ne p2.symm] at z
      exact z
    refine k l1 l2 _ m1 m2 upd_same (Eq.trans (upd_ne p1.symm) (Eq.trans (upd_ne l12) (Eq.trans (upd_ne p1.symm) upd_same))) (Eq.trans (upd_ne p2.symm) upd_same) fun q o e hqp => ?_
    have ql1 : q ≠ l1 := ne_of_none (f4 q o e hqp) n1
    have ql2 : q ≠ l2 := ne_of_none (Eq.trans (upd_ne hqp) (Eq.trans (upd_ne ql1) (f4 q o e hqp))) n2
    exact Eq.trans (upd_ne hqp) (Eq.trans (upd_ne ql2) (Eq.trans (upd_ne hqp) (Eq.trans (upd_ne ql1) (f4 q o e hqp))))
/-! ### looked_before -/
def spLooked (C : Addr) : L2.Sp := fun vs H Q _ => ∃ (a : Addr) (s : Sp) (key e : Int), vs = [.ref a, .int key, .int e] ∧ SpanAt C H a s ∧ Q (.bl (seen s key e)) H
theorem scLooked : FnScope ["one", "key", "end", "stand", "low", "high", "own"] ["one", "key", "end"] (defScope sLooked) := ⟨rfl, rfl, rfl, by decide +kernel, rfl, by decide +kernel, by decide +kernel⟩
theorem any_take {α : Type} {p : α → Bool} {l : List α} {i : Nat} {x : α} (h : l[i]? = some x) (h0 : (l.take i).any p = false) (hp : p x = false) : (l.take (i + 1)).any p = false := by
  rw [take_snoc h, List.any_append, h0]
  simp [hp]
theorem any_hit {α : Type} {p : α → Bool} {l : List α} {i : Nat} {x : α} (h : l[i]? = some x) (hp : p x = true) : l.any p = true := List.any_eq_true.mpr ⟨x, List.mem_of_getElem? h, hp⟩
theorem ok_looked {f fI : Addr} {fd fdI : FuncData} (F : Fun K "looked_before" "looked_before" sLooked f fd) (T : SpanC K mg C) (I : Cal P w K mg base CX0 1 "inside" ["key", "low", "high"] spInside fI fdI) :
    FnOk P w K mg base CX0 2 f fd ["one", "key", "end"] (spLooked C) := by
  refine F.ok scLooked (fun vs H Q E h => ?_) (fun cdv A outer s H vs Q E hr h => ?_)
  · obtain ⟨_, _, _, _, rfl, _⟩ := h
    rfl
  · obtain ⟨a, sp, key, e, rfl, ⟨dx, la, pa, h1, ⟨ts, h2, h3⟩, h4⟩, k⟩ := h
    refine ⟨_, pss_cons (ps_for PassesOwn.never rfl (pi_list (pe_fld (pv 0) rfl))
        (pg_tup rfl (pgs_cons (pg_name (i := 3) scLooked.nd rfl (.inl rfl)) (pgs_cons (pg_name (i := 4) scLooked.nd rfl (.inl rfl)) (pgs_cons (pg_name (i := 5) scLooked.nd rfl (.inl rfl)) (pgs_cons (pg_name (i := 6) scLooked.nd rfl (.inl rfl)) pgs_nil)))))
      (pss_one (ps_if (PW.pt (pw_and (pt_cmpR op_lt (pv 3) (pv 2) (nomark _)) (pw_and (pt_val (pe_call I.ok hr rfl I.gl I.kp I.bi .nil pass0 (pa_cons (pv 1) (pa_cons (pv 4) (pa_cons (pv 5) pa_nil))))) (pw_and1 (pt_cmpR op_notIn_seq (pv 1) (pv 6) (by rfl))))))
        (pss_one (ps_ret pe_bl)) pss_nil)))
      (pss_one (ps_ret pe_bl)), ?_⟩
    refine ⟨_, rfl, a, C, dx, _, _, rfl, h1, T.cl, T.nLks, sf_looks _ _ _ _ _ _, la, rfl, ⟨_, SqL.of h2⟩,
      for_list (K := K) (a := la) (xs := ts.map V.ref) (fun i σ H' => H' = H ∧ (sp.looks.take i).any (fun l => sees l key e) = false ∧ ∃ v3 v4 v5 v6 : Option V, σ = [some (.ref a), some (.int key), some (.int e), v3, v4, v5, v6])
      ⟨rfl, rfl, none, none, none, none, rfl⟩ (fun i σ H' _ ⟨e1, _⟩ => by rw [e1]; exact SqL.of h2) ?_ ?_⟩
    · rintro i y σ H' hi ⟨rfl, hno, v3, v4, v5, v6, rfl⟩
      obtain ⟨t, ht, rfl⟩ := ref_at hi
      obtain ⟨l, hl, o, ho1, ho2⟩ := h3.get ht
      refine ⟨t, _, rfl, SqT.of ho1, rfl, _, _, rfl, _, _, rfl, _, _, rfl, _, _, rfl, rfl, ?_⟩
      have next : sees l key e = false → H' = H' ∧ (sp.looks.take (i + 1)).any (fun l => sees l key e) = false ∧ ∃ w3 w4 w5 w6 : Option V, [some (V.ref a), some (V.int key), some (V.int e), some (V.int l.st), some (V.int l.lo), some (V.int l.hi), some (V.ref o)] = [some (V.ref a), some (V.int key), some (V.int e), w3, w4, w5, w6] :=
        fun hf => ⟨rfl, any_take hl hno hf, _, _, _, _, rfl⟩
      refine ⟨_, rfl, _, rfl, _, _, rfl, rfl, _, rfl, ?_⟩
      by_cases c1 : l.st < e
      · rw [decide_eq_true c1]
        refine iteT ⟨_, rfl, _, rfl, _, rfl, key, l.lo, l.hi, rfl, _, rfl, ?_⟩
        cases c2 : (decide (l.lo ≤ key) && decide (key ≤ l.hi)) with
        | true =>
          refine iteT ⟨_, rfl, _, rfl, o, _, rfl, .inr (SqT.of ho2), rfl, all_flat _, _, rfl, ?_⟩
          rw [if_pos rfl, in_int]
          cases c3 : (!decide (key ∈ l.own)) with
          | true =>
            refine iteT ?_
            have hs : seen sp key e = true := any_hit hl (by unfold sees; rw [decide_eq_true c1, c2, c3]; rfl)
            rw [hs] at k
            exact k
          | false => exact iteF (next (by unfold sees; rw [c3]; simp))
        | false => exact iteF (iteF (next (by unfold sees; rw [c2]; simp)))
      · rw [decide_eq_false c1]
        exact iteF (iteF (next (by unfold sees; rw [decide_eq_false c1]; simp)))
    · rintro σ H' ⟨rfl, hno, _⟩
      have e1 : seen sp key e = false := by
        have el : (ts.map V.ref).length = sp.looks.length := by rw [List.length_map]; exact h3.len
        rw [el, List.take_length] at hno
        exact hno
      rw [e1] at k
      exact k
end
end K37

/-! older, out_of, about, early, stand_of. -/
namespace K37
open PySem L2
theorem find_hit {α : Type} {p : α → Bool} : ∀ {l : List α} {i : Nat} {x : α}, l[i]? = some x → (l.take i).any p = false → p x = true → l.find? p = some x
  | [], i, x, h, _, _ => by simp at h
  | a :: l, 0, x, h, _, hp => by
    have e : a = x := Option.some.inj h
    subst e
    simp [hp]
  | a :: l, i + 1, x, h, h0, hp => by
    have h0' : (p a || (l.take i).any p) = false := h0
    obtain ⟨ha, h1⟩ := Bool.or_eq_false_iff.mp h0'
    have ih := find_hit (l := l) (i := i) (x := x) h h1 hp
    rw [List.find?_cons, ha]
    exact ih
theorem find_no {α : Type} {p : α → Bool} {l : List α} (h : l.any p = false) : l.find? p = none := by
  rw [List.find?_eq_none]
  intro x hx hp
  have : l.any p = true := List.any_eq_true.mpr ⟨x, hx, hp⟩
  rw [h] at this
  cases this
/-- a pair of ints, or None -/
def Pair2 (H : Hp) (b : Bool) (v : V) : Prop := (b = false → v = .non) ∧ (b = true → ∃ (t : Addr) (k n : Int), v = .ref t ∧ H t = some (.tup [.int k, .int n]))
/-- five ints, or None -/
def Five (H : Hp) (b : Bool) (v : V) : Prop := (b = false → v = .non) ∧ (b = true → ∃ (t : Addr) (i1 i2 i3 i4 i5 : Int), v = .ref t ∧ H t = some (.tup [.int i1, .int i2, .int i3, .int i4, .int i5]))
theorem Five.no {H : Hp} {b : Bool} (h : b = false) : Five H b .non := ⟨(fun _ => rfl), (fun z => by rw [h] at z; cases z)⟩
theorem Pair2.no {H : Hp} {b : Bool} (h : b = false) : Pair2 H b .non := ⟨(fun _ => rfl), (fun z => by rw [h] at z; cases z)⟩
theorem Five.yes {H : Hp} {b : Bool} {t : Addr} {i1 i2 i3 i4 i5 : Int} (h : b = true) (e : H t = some (.tup [.int i1, .int i2, .int i3, .int i4, .int i5])) : Five H b (.ref t) := ⟨(fun z => by rw [h] at z; cases z), (fun _ => ⟨t, i1, i2, i3, i4, i5, rfl, e⟩)⟩
theorem Pair2.yes {H : Hp} {b : Bool} {t : Addr} {k n : Int} (h : b = true) (e : H t = some (.tup [.int k, .int n])) : Pair2 H b (.ref t) := ⟨(fun z => by rw [h] at z; cases z), (fun _ => ⟨t, k, n, rfl, e⟩)⟩
/-- an int or None -/
def oV : Option Int → V
  | some k => .int k
  | none => .non
section
variable {P : Program} {w : World} {K : PySem.W.Frag} {mg : Str → Option Value} {base : Heap} {C : Addr}
/-! ### older -/
def spOlder (C : Addr) : L2.Sp := fun vs H Q _ => ∃ (a b : Addr) (s t : Sp), vs = [.ref a, .ref b] ∧ SpanAt C H a s ∧ SpanAt C H b t ∧ Q (oV (older s t)) H
theorem scOlder : FnScope ["one", "other", "key"] ["one", "other"] (defScope sOlder) := ⟨rfl, rfl, rfl, by decide +kernel, rfl, by decide +kernel, by decide +kernel⟩
theorem ok_older {f fL : Addr} {fd fdL : FuncData} (F : Fun K "older" "older" sOlder f fd) (T : SpanC K mg C) (L : Cal P w K mg base CX0 2 "looked_before" ["one", "key", "end"] (spLooked C) fL fdL) :
    FnOk P w K mg base CX0 3 f fd ["one", "other"] (spOlder C) := by
  refine F.ok scOlder (fun vs H Q E h => ?_) (fun cdv A outer s H vs Q E hr h => ?_)
  · obtain ⟨_, _, _, _, rfl, _⟩ := h
    rfl
  · obtain ⟨a, b, sp, tp, rfl, hA, hB, k⟩ := h
    obtain ⟨dx, la, pa, h1, _, _⟩ := id hA
    obtain ⟨dy, lb, pb, g1, _, g3⟩ := id hB
    refine ⟨_, pss_cons (ps_if (pt_cmpR op_eq (pe_fld (pv 0) rfl) (pe_fld (pv 1) rfl) (nomark _)) (pss_one (ps_ret pe_non)) pss_nil)
      (pss_cons (ps_for PassesOwn.never rfl (pi_list (pe_fld (pv 1) rfl)) (pg_name (i := 2) scOlder.nd rfl (.inl rfl))
        (pss_one (ps_if (pt_val (pe_call L.ok hr rfl L.gl L.kp L.bi .nil pass0 (pa_cons (pv 0) (pa_cons (pv 2) (pa_cons (pe_fld (pv 1) rfl) pa_nil))))) (pss_one (ps_ret (pv 2))) pss_nil)))
      (pss_one (ps_ret pe_non))), ?_⟩
    refine ⟨_, rfl, a, C, dx, _, _, rfl, h1, T.cl, T.nNum, sf_number _ _ _ _ _ _, _, rfl, b, C, dy, _, _, rfl, g1, T.cl, T.nNum, sf_number _ _ _ _ _ _, rfl, _, rfl, ?_⟩
    by_cases c : sp.num = tp.num
    · have e : older sp tp = none := by unfold older; rw [if_pos c]
      rw [e] at k
      rw [decide_eq_true (by rw [c])]
      exact iteT k
    · rw [decide_eq_false (fun q => c (V.int.inj q))]
      refine iteF ?_
      have eo : older sp tp = tp.puts.find? fun key => seen sp key tp.en := by unfold older; rw [if_neg c]
      refine ⟨_, rfl, b, C, dy, _, _, rfl, g1, T.cl, T.nPut, sf_puts _ _ _ _ _ _, pb, rfl, ⟨_, SqL.of g3⟩,
        for_list (K := K) (a := pb) (xs := tp.puts.map V.int) (fun i σ H' => H' = H ∧ (tp.puts.take i).any (fun key => seen sp key tp.en) = false ∧ ∃ v : Option V, σ = [some (.ref a), some (.ref b), v])
        ⟨rfl, rfl, none, rfl⟩ (fun i σ H' _ ⟨e1, _⟩ => by rw [e1]; exact SqL.of g3) ?_ ?_⟩
      · rintro i y σ H' hi ⟨rfl, hno, v, rfl⟩
        obtain ⟨key, hk, rfl⟩ := int_at hi
        refine ⟨_, rfl, _, rfl, _, rfl, b, C, dy, _, _, rfl, g1, T.cl, T.nEnd, sf_end _ _ _ _ _ _, a, sp, key, tp.en, rfl, hA, _, rfl, ?_⟩
        cases c2 : seen sp key tp.en with
        | true =>
          refine iteT ⟨_, rfl, ?_⟩
          rw [eo, find_hit hk hno c2] at k
          exact k
        | false => exact iteF ⟨rfl, any_take hk hno c2, _, rfl⟩
      · rintro σ H' ⟨rfl, hno, _⟩
        rw [List.length_map, List.take_length] at hno
        rw [eo, find_no hno] at k
        exact k
/-! ### out_of -/
def spOut (C : Addr) : L2.Sp := fun vs H Q _ => ∃ (a p : Addr) (m : Sp) (l : List Sp), vs = [.ref a, .ref p] ∧ SpanAt C H a m ∧ SpansAt C H p l ∧
  ∀ (v : V) (H' : Hp), Same H H' → Pair2 H' (out m l) v → Q v H'
theorem scOut : FnScope ["mid", "spans", "other", "key"] ["mid", "spans"] (defScope sOut) := ⟨rfl, rfl, rfl, by decide +kernel, rfl, by decide +kernel, by decide +kernel⟩
theorem ok_out {f fO : Addr} {fd fdO : FuncData} (F : Fun K "out_of" "out_of" sOut f fd) (T : SpanC K mg C) (O : Cal P w K mg base CX0 3 "older" ["one", "other"] (spOlder C) fO fdO) :
    FnOk P w K mg base CX0 4 f fd ["mid", "spans"] (spOut C) := by
  refine F.ok scOut (fun vs H Q E h => ?_) (fun cdv A outer s H vs Q E hr h => ?_)
  · obtain ⟨_, _, _, _, rfl, _⟩ := h
    rfl
  · obtain ⟨a, p, m, l, rfl, hA, ⟨as, hp, hl⟩, k⟩ := h
    obtain ⟨dx, la, pa, h1, _, _⟩ := id hA
    refine ⟨_, pss_cons (ps_for PassesOwn.never rfl (pi_list (pv 1)) (pg_name (i := 2) scOut.nd rfl (.inl rfl))
        (pss_cons (ps_set (i := 3) scOut.nd rfl (.inl rfl) (pe_call O.ok hr rfl O.gl O.kp O.bi .nil pass0 (pa_cons (pv 0) (pa_cons (pv 2) pa_nil))))
        (pss_one (ps_if (PW.pt (pw_and (pt_cmpR op_notN (pv 3) pe_non (nomark _)) (pw_and1 (pt_cmpR op_lt (pe_fld (pv 2) rfl) (pe_fld (pv 0) rfl) (nomark _)))))
          (pss_one (ps_ret (pe_tup (pa_cons (pv 3) (pa_cons (pe_fld (pv 2) rfl) pa_nil))))) pss_nil))))
      (pss_one (ps_ret pe_non)), ?_⟩
    refine ⟨_, rfl, p, rfl, ⟨_, SqL.of hp⟩,
      for_list (K := K) (a := p) (xs := as.map V.ref) (fun i σ H' => H' = H ∧ (l.take i).any (fun o => outs m o) = false ∧ ∃ v2 v3 : Option V, σ = [some (.ref a), some (.ref p), v2, v3])
      ⟨rfl, rfl, none, none, rfl⟩ (fun i σ H' _ ⟨e1, _⟩ => by rw [e1]; exact SqL.of hp) ?_ ?_⟩
    · rintro i y σ H' hi ⟨rfl, hno, v2, v3, rfl⟩
      obtain ⟨b, hb, rfl⟩ := ref_at hi
      obtain ⟨o, ho, hB⟩ := hl.get hb
      obtain ⟨dy, lb, pb, g1, _, _⟩ := id hB
      refine ⟨_, rfl, _, rfl, a, b, m, o, rfl, hA, hB, ?_⟩
      refine ⟨_, rfl, rfl, _, rfl, ?_⟩
      have next : outs m o = false → H' = H' ∧ (l.take (i + 1)).any (fun o => outs m o) = false ∧ ∃ v2 v3 : Option V, [some (V.ref a), some (V.ref p), some (V.ref b), some (oV (older m o))] = [some (V.ref a), some (V.ref p), v2, v3] :=
        fun hf => ⟨rfl, any_take ho hno hf, _, _, rfl⟩
      cases c : older m o with
      | none =>
        rw [c] at next
        exact iteF (iteF (next (by unfold outs; rw [c]; rfl)))
      | some key =>
        rw [c] at next
        refine iteT ⟨_, rfl, b, C, dy, _, _, rfl, g1, T.cl, T.nEnd, sf_end _ _ _ _ _ _, _, rfl, a, C, dx, _, _, rfl, h1, T.cl, T.nEnd, sf_end _ _ _ _ _ _, _, _, rfl, rfl, _, rfl, ?_⟩
        by_cases c2 : o.en < m.en
        · rw [decide_eq_true c2]
          have ho1 : out m l = true := any_hit ho (by unfold outs; rw [c, decide_eq_true c2]; rfl)
          refine iteT ⟨_, rfl, _, rfl, b, C, dy, _, _, rfl, g1, T.cl, T.nNum, sf_number _ _ _ _ _ _, (by show 2 ≤ sizeLine; decide), fun t ht => ?_⟩
          exact k _ _ (same_new ht) (.yes ho1 upd_same)
        · rw [decide_eq_false c2]
          exact iteF (next (by unfold outs; rw [decide_eq_false c2]; simp))
    · rintro σ H' ⟨rfl, hno, _⟩
      have e1 : out m l = false := by
        have el : (as.map V.ref).length = l.length := by rw [List.length_map]; exact hl.len
        rw [el, List.take_length] at hno
        exact hno
      exact k _ _ (Same.refl _) (.no e1)
/-! ### about -/
def spAbout (C : Addr) : L2.Sp := fun vs H Q _ => ∃ (a b : Addr) (s m : Sp) (bv : V) (bb : Bool), vs = [.ref a, .ref b, bv] ∧ SpanAt C H a s ∧ SpanAt C H b m ∧
  Pair2 H bb bv ∧ ∀ (v : V) (H' : Hp), Same H H' → Five H' (abt s m bb) v → Q v H'
theorem scAbout : FnScope ["one", "mid", "behind", "key"] ["one", "mid", "behind"] (defScope sAbout) := ⟨rfl, rfl, rfl, by decide +kernel, rfl, by decide +kernel, by decide +kernel⟩
theorem ok_about {f fO : Addr} {fd fdO : FuncData} (F : Fun K "about" "about" sAbout f fd) (T : SpanC K mg C) (O : Cal P w K mg base CX0 3 "older" ["one", "other"] (spOlder C) fO fdO) :
    FnOk P w K mg base CX0 4 f fd ["one", "mid", "behind"] (spAbout C) := by
  refine F.ok scAbout (fun vs H Q E h => ?_) (fun cdv A outer s H vs Q E hr h => ?_)
  · obtain ⟨_, _, _, _, _, _, rfl, _⟩ := h
    rfl
  · obtain ⟨a, b, sp, m, bv, bb, rfl, hA, hB, ⟨b0, b1⟩, kk⟩ := h
    obtain ⟨dx, la, pa, h1, _, _⟩ := id hA
    obtain ⟨dy, lb, pb, g1, _, _⟩ := id hB
    refine ⟨_, pss_cons (ps_set (i := 3) scAbout.nd rfl (.inl rfl) (pe_call O.ok hr rfl O.gl O.kp O.bi .nil pass0 (pa_cons (pv 0) (pa_cons (pv 1) pa_nil))))
      (pss_cons (ps_if (PW.pt (pw_or (pt_cmpR op_isN (pv 3) pe_non (nomark _)) (pw_or (pt_cmpR op_isN (pv 2) pe_non (nomark _)) (pw_or1 (pt_cmpR op_lt (pe_fld (pv 0) rfl) (pe_fld (pv 1) rfl) (nomark _))))))
        (pss_one (ps_ret pe_non)) pss_nil)
      (pss_one (ps_ret (pe_tup (pa_cons (pe_fld (pv 0) rfl) (pa_cons (pv 3) (pa_cons (pe_fld (pv 1) rfl) (pa_cons (pe_ix ix_tup (pv 2) pe_int (fun _ _ => rfl)) (pa_cons (pe_ix ix_tup (pv 2) pe_int (fun _ _ => rfl)) pa_nil)))))))))
      , ?_⟩
    refine ⟨_, rfl, _, rfl, a, b, sp, m, rfl, hA, hB, ?_⟩
    refine ⟨_, rfl, rfl, _, rfl, ?_⟩
    cases c : older sp m with
    | none => exact iteT (iteT (kk _ _ (Same.refl _) (.no (by unfold abt; rw [c]; rfl))))
    | some key =>
      refine iteF ⟨_, rfl, rfl, _, rfl, ?_⟩
      cases hb : bb with
      | false =>
        rw [b0 hb]
        exact iteT (iteT (kk _ _ (Same.refl _) (.no (by unfold abt; rw [hb]; simp))))
      | true =>
        obtain ⟨t, k, n, e, ht⟩ := b1 hb
        subst e
        refine iteF ⟨_, rfl, a, C, dx, _, _, rfl, h1, T.cl, T.nEnd, sf_end _ _ _ _ _ _, _, rfl, b, C, dy, _, _, rfl, g1, T.cl, T.nBeg, sf_begin _ _ _ _ _ _, _, _, rfl, rfl, _, rfl, ?_⟩
        by_cases c2 : sp.en < m.beg
        · rw [decide_eq_true c2]
          exact iteT (kk _ _ (Same.refl _) (.no (by unfold abt; rw [decide_eq_true c2]; simp)))
        · rw [decide_eq_false c2]
          refine iteF ⟨_, rfl, a, C, dx, _, _, rfl, h1, T.cl, T.nNum, sf_number _ _ _ _ _ _, _, rfl, _, rfl, b, C, dy, _, _, rfl, g1, T.cl, T.nNum, sf_number _ _ _ _ _ _,
            _, rfl, t, _, _, _, rfl, rfl, SqT.of ht, by rfl, _, rfl, t, _, _, _, rfl, rfl, SqT.of ht, by rfl, (by show 5 ≤ sizeLine; decide), fun q hq => ?_⟩
          exact kk _ _ (same_new hq) (.yes (by unfold abt; rw [c, hb, decide_eq_false c2]; rfl) upd_same)
/-! ### early, stand_of -/
def spEarly (C : Addr) : L2.Sp := fun vs H Q _ => ∃ (a p : Addr) (m : Sp) (l : List Sp), vs = [.ref a, .ref p] ∧ SpanAt C H a m ∧ SpansAt C H p l ∧ ∀ H', Same H H' → Q (.bl (early m l)) H'
theorem scEarly : FnScope ["span", "kept"] ["span", "kept"] (defScope sEarly) := ⟨rfl, rfl, rfl, by decide +kernel, rfl, by decide +kernel, by decide +kernel⟩
theorem ok_early {f fO : Addr} {fd fdO : FuncData} (F : Fun K "early" "early" sEarly f fd) (T : SpanC K mg C) (O : Cal P w K mg base CX0 4 "out_of" ["mid", "spans"] (spOut C) fO fdO) :
    FnOk P w K mg base CX0 5 f fd ["span", "kept"] (spEarly C) := by
  refine F.ok scEarly (fun vs H Q E h => ?_) (fun cdv A outer s H vs Q E hr h => ?_)
  · obtain ⟨_, _, _, _, rfl, _⟩ := h
    rfl
  · obtain ⟨a, p, m, l, rfl, hA, hL, k⟩ := h
    obtain ⟨dx, la, pa, h1, _, _⟩ := id hA
    refine ⟨_, pss_cons (ps_if (pt_not (pt_val (pe_fld (pv 0) rfl))) (pss_one (ps_ret pe_bl)) pss_nil)
      (pss_one (ps_ret (pe_cmpR op_notN (pe_call O.ok hr rfl O.gl O.kp O.bi .nil pass0 (pa_cons (pv 0) (pa_cons (pv 1) pa_nil))) pe_non (nomark _)))), ?_⟩
    refine ⟨_, rfl, a, C, dx, _, _, rfl, h1, T.cl, T.nWat, sf_watched _ _ _ _ _ _, _, rfl, ?_⟩
    cases c : m.wat with
    | false =>
      refine iteT ?_
      have e : early m l = false := by unfold early; rw [c]; rfl
      rw [e] at k
      exact k H (Same.refl H)
    | true =>
      refine iteF ⟨_, rfl, _, rfl, a, p, m, l, rfl, hA, hL, fun v H' s' ⟨p0, p1⟩ => ⟨rfl, ?_⟩⟩
      have e : early m l = !decide (v = V.non) := by
        unfold early
        rw [c, Bool.true_and]
        cases ho : out m l with
        | false => rw [p0 ho]; rfl
        | true =>
          obtain ⟨t, _, _, e, _⟩ := p1 ho
          rw [e]; rfl
      rw [e] at k
      exact k H' s'
def spStand (C : Addr) : L2.Sp := fun vs H Q _ => ∃ (a p : Addr) (m : Sp) (l : List Sp), vs = [.ref a, .ref p] ∧ SpanAt C H a m ∧ SpansAt C H p l ∧ ∀ H', Same H H' → Q (.int (stand m l)) H'
theorem scStand : FnScope ["span", "kept"] ["span", "kept"] (defScope sStand) := ⟨rfl, rfl, rfl, by decide +kernel, rfl, by decide +kernel, by decide +kernel⟩
theorem ok_stand {f fO : Addr} {fd fdO : FuncData} (F : Fun K "stand_of" "stand_of" sStand f fd) (T : SpanC K mg C) (O : Cal P w K mg base CX0 5 "early" ["span", "kept"] (spEarly C) fO fdO) :
    FnOk P w K mg base CX0 6 f fd ["span", "kept"] (spStand C) := by
  refine F.ok scStand (fun vs H Q E h => ?_) (fun cdv A outer s H vs Q E hr h => ?_)
  · obtain ⟨_, _, _, _, rfl, _⟩ := h
    rfl
  · obtain ⟨a, p, m, l, rfl, hA, hL, k⟩ := h
    refine ⟨_, pss_cons (ps_if (pt_val (pe_call O.ok hr rfl O.gl O.kp O.bi .nil pass0 (pa_cons (pv 0) (pa_cons (pv 1) pa_nil)))) (pss_one (ps_ret (pe_fld (pv 0) rfl))) pss_nil)
      (pss_one (ps_ret (pe_fld (pv 0) rfl))), ?_⟩
    refine ⟨_, rfl, _, rfl, a, p, m, l, rfl, hA, hL, fun H' s' => ⟨_, rfl, ?_⟩⟩
    obtain ⟨dx, la, pa, h1, _, _⟩ := hA.up s'
    cases c : early m l with
    | true =>
      have e : stand m l = m.beg := by unfold stand; rw [if_pos c]
      rw [e] at k
      exact iteT ⟨_, rfl, a, C, dx, _, _, rfl, h1, T.cl, T.nBeg, sf_begin _ _ _ _ _ _, k H' s'⟩
    | false =>
      have e : stand m l = m.en := by unfold stand; rw [c]; rfl
      rw [e] at k
      exact iteF ⟨_, rfl, a, C, dx, _, _, rfl, h1, T.cl, T.nEnd, sf_end _ _ _ _ _ _, k H' s'⟩
end
end K37

/-! sorted(spans, key=number_of_span): a permutation; no more is said. -/
namespace K37
open PySem L2
section
variable {P : Program} {w : World} {K : PySem.W.Frag} {mg : Str → Option Value} {base : Heap} {C : Addr}
/-- one call of the key: nothing that stood is changed -/
theorem key_turn {A : Around} {s : Shared} {x f dx : Addr} {fd : FuncData} {mA : Str → Option Value} {n : Int} {t : Tok} (X : K.In s.heap) (hlim : s.heap.NoLimit) (D : Def K mg "number_of_span" sNumber ["span"] f fd) (T : SpanC K mg C)
    (ob : ObjM s.heap x dx C mA) (hm : mA "number" = some (.int n t)) (hroom : A.depth < recursionLimit) :
    wpAny (model P w) A (call (.ref f) [.ref x]) (PySem.W.KeyPure (.int n) s) (fun _ _ => False) s := by
  have hb := D.bi s [.ref x] X rfl
  obtain ⟨oc, od, kV, doc, pm, an, cdv, ct, osl, rfl, lk, hcd⟩ := D.fn.ex
  refine wpAny_call (Att.call_fn (binds := [("span", .ref x)]) X hlim lk hcd hroom hb (by first | rfl | decide +kernel | with_unfolding_all rfl) (fun s₁ IC => ?_) rfl rfl rfl)
  obtain ⟨h₁, tk₁, rfl⟩ := IC.toInCall.same
  have k : ∀ b o, s.heap.get? b = some o → h₁.get? b = some o := IC.toInCall.keep
  have hn := IC.toInCall.ns
  have O₁ : ObjM h₁ x dx C mA := ⟨k _ _ ob.obj, ob.ns.at (fun o q => k _ _ q), ob.ne⟩
  show wpAny _ _ (execs _ _) _ _ _
  refine wpAny_execs_cons (wpAny_Return_some (attr_of (by rfl) ?_))
  refine wpAny_Name (wpAny_loadName_local (v := .ref x) (by rfl) (by rfl) hn (by first | rfl | with_unfolding_all rfl | kernel_rfl) ?_) (by decide)
  refine get_map (X.keeps k) O₁ (T.cl.get "number") T.cl.hd T.nNum hm rfl ?_
  exact ⟨h₁, _, rfl, k, .int n t⟩
end
def numOf (H : Hp) (b : Addr) : Int := match H b with
  | some (.ins _ _ fs) => match fs.lookup ("number" : Str) with
    | some (.int n) => n
    | _ => 0
  | _ => 0
def rSortedBy (K : PySem.W.Frag) (C f : Addr) : List V → List V → Hp → VK → Prop := fun vs zs H Q => ∃ (a : Addr) (as : List Addr), vs = [.ref a] ∧ zs = [.ref f] ∧ SqL K H a (as.map V.ref) ∧
  (∀ b, b ∈ as → ∃ (dx : Addr) (fs : List (Str × V)) (n : Int), H b = some (.ins C dx fs) ∧ fs.lookup ("number" : Str) = some (.int n)) ∧
  ∀ (as' : List Addr) (p : Addr), as'.Perm as → H p = none → Q (.ref p) (upd H p (.lst (as'.map V.ref)))
theorem each_refs : ∀ {as : List Addr} {its : List Value}, Vals (as.map V.ref) its → PySem.W.EachIs (fun v b => v = Value.ref b) its as
  | [], _, h => by cases h; exact .nil
  | a :: as, its, h => by
    have h' : Vals (V.ref a :: as.map V.ref) its := h
    cases h' with
    | cons r t => exact .cons r (each_refs t)
theorem refs_each : ∀ {as : List Addr} {its : List Value}, PySem.W.EachIs (fun v b => v = Value.ref b) its as → Vals (as.map V.ref) its
  | _, _, .nil => .nil
  | _, _, .cons r t => .cons r (refs_each t)
theorem cr_sortedBy {X : Cx} {C f : Addr} {fd : FuncData} {k : Nat} (D : Def X.K X.mg "number_of_span" sNumber ["span"] f fd) (T : SpanC X.K X.mg C) (hr : Room k X.A) : CallRK X (.builtin "sorted") [Str.ofString "key"] (rSortedBy X.K C f) := by
  intro pins s σ H vs zs us ws Q I r rz h
  obtain ⟨a, as, rfl, rfl, hs, hob, q⟩ := h
  obtain rfl := Vals.ref1 r
  obtain ⟨w1, rfl, e1⟩ := vals1 rz
  obtain rfl : w1 = Value.ref f := e1
  obtain ⟨its, rv, hl, hz⟩ := I.list hs
  rw [List.length_map] at hz
  refine PySem.W.sorted_key_data (β := Addr) (R := fun v b => v = Value.ref b) (bs := as) (b := false) (fun b => .int (numOf H b)) hl.isList (each_refs rv) (fun d hd d' hd' => ?_) (.inr fun d hd => ?_) hz (fun x _ => ?_)
    (PyProof.Rows.ksk_s1 _ _) (fun _ => PyProof.Rows.ksk_l1 _ _) (fun x => PyProof.Rows.ksk_t1 f x) (fun v b hv hb h tk keep => ?_) (fun out c h' tk keep fresh hat hlen each => ?_)
  · obtain ⟨_, _, rfl⟩ := List.mem_map.mp hd
    obtain ⟨_, _, rfl⟩ := List.mem_map.mp hd'
    rfl
  · obtain ⟨_, _, rfl⟩ := List.mem_map.mp hd
    exact ⟨(fun z => by cases z), (fun xs z => by cases z)⟩
  · have := hr.un
    show X.A.units + 2 + 0 < cLine
    omega
  · subst hv
    obtain ⟨dx, fs, n, e, l⟩ := hob b hb
    obtain ⟨mA, O, rel, _, _, _⟩ := ins_get I.hok e
    obtain ⟨u, hu, ru⟩ := RelO.some_of (v := .int n) (o := mA "number") (by rw [← l]; exact rel "number")
    obtain ⟨t, rfl⟩ := ru
    have en : numOf H b = n := by unfold numOf; rw [e]; show (match fs.lookup ("number" : Str) with | some (.int n) => n | _ => 0) = n; rw [l]
    rw [en]
    exact key_turn (s := { s with heap := h, toks := tk }) (I.kIn.keeps keep) (I.nolimit.keeps keep) D T ⟨keep _ _ O.obj, O.ns.at (fun o q => keep _ _ q), O.ne⟩ hu (by have := hr.dp; show X.A.depth < recursionLimit; omega)
  · have hp : (as.mergeSort (PySem.W.dataLe false fun b => .int (numOf H b))).Perm as := List.mergeSort_perm _ _
    refine ⟨.ref _, upd H (s.heap.objs.size + 1) (.lst ((as.mergeSort (PySem.W.dataLe false fun b => .int (numOf H b))).map V.ref)), I.laid (t' := tk) keep (Nat.le_succ _) ⟨?_, out, c, refs_each each, hat⟩, rfl, q _ _ hp (I.hok.fresh (Nat.le_succ _))⟩
    rw [List.length_map, hp.length_eq]
    exact hz
end K37

/-! closing. -/
namespace K37
open PySem L2
theorem dec_int_eq (i j : Int) : decide (V.int i = V.int j) = decide (i = j) := by
  by_cases c : i = j
  · rw [decide_eq_true c, decide_eq_true (by rw [c])]
  · rw [decide_eq_false c, decide_eq_false (fun q => c (V.int.inj q))]
section
variable {P : Program} {w : World} {K : PySem.W.Frag} {mg : Str → Option Value} {base : Heap} {C : Addr}
def spClosing (C : Addr) : L2.Sp := fun vs H Q _ => ∃ (p a : Addr) (kept : List Sp) (new : Sp), vs = [.ref p, .ref a] ∧ SpansAt C H p kept ∧ SpanAt C H a new ∧ kept.length ≤ 1000 ∧
  ∀ (v : V) (H' : Hp), Same H H' → Five H' (clash (kept ++ [new]) new.num) v → Q v H'
theorem scClosing : FnScope ["kept", "new", "spans", "mid", "behind", "one", "found"] ["kept", "new"] (defScope sClosing) := ⟨rfl, rfl, rfl, by decide +kernel, rfl, by decide +kernel, by decide +kernel⟩
theorem ok_closing {f fN fO fA : Addr} {fd fdN fdO fdA : FuncData} (F : Fun K "closing" "closing" sClosing f fd) (T : SpanC K mg C) (N : Def K mg "number_of_span" sNumber ["span"] fN fdN) (zS : mg "sorted" = none)
    (O : Cal P w K mg base CX0 4 "out_of" ["mid", "spans"] (spOut C) fO fdO) (B : Cal P w K mg base CX0 4 "about" ["one", "mid", "behind"] (spAbout C) fA fdA) :
    FnOk P w K mg base CX0 5 f fd ["kept", "new"] (spClosing C) := by
  refine F.ok scClosing (fun vs H Q E h => ?_) (fun cdv A outer s H vs Q E hr h => ?_)
  · obtain ⟨_, _, _, _, rfl, _⟩ := h
    rfl
  · obtain ⟨p, a, kept, new, rfl, ⟨as, hp, hl⟩, hA, hlen, k⟩ := h
    refine ⟨_, pss_cons (ps_set (i := 2) scClosing.nd rfl (.inl rfl) (pe_callBK (cr_sortedBy N T hr) rfl zS (by decide +kernel) (pa_cons (pe_op op_cat (pv 0) (pe_lst (pa_cons (pv 1) pa_nil))) pa_nil) (pk_cons (pe_glob (v := .ref fN) rfl N.gl rfl) pk_nil)))
      (pss_cons (ps_for PassesOwn.never rfl (pi_list (pv 2)) (pg_name (i := 3) scClosing.nd rfl (.inl rfl))
        (pss_cons (ps_if (pt_not (pt_val (pe_fld (pv 3) rfl))) (pss_one ps_continue) pss_nil)
        (pss_cons (ps_set (i := 4) scClosing.nd rfl (.inl rfl) (pe_call O.ok hr rfl O.gl O.kp O.bi .nil pass0 (pa_cons (pv 3) (pa_cons (pv 2) pa_nil))))
        (pss_one (ps_for PassesOwn.never rfl (pi_list (pv 2)) (pg_name (i := 5) scClosing.nd rfl (.inl rfl))
          (pss_one (ps_if (PW.pt (pw_or (pt_cmpR op_eq (pe_fld (pv 3) rfl) (pe_fld (pv 1) rfl) (nomark _)) (pw_or1 (pt_cmpR op_eq (pe_fld (pv 5) rfl) (pe_fld (pv 1) rfl) (nomark _)))))
            (pss_cons (ps_set (i := 6) scClosing.nd rfl (.inl rfl) (pe_call B.ok hr rfl B.gl B.kp B.bi .nil pass0 (pa_cons (pv 5) (pa_cons (pv 3) (pa_cons (pv 4) pa_nil)))))
            (pss_one (ps_if (pt_cmpR op_notN (pv 6) pe_non (nomark _)) (pss_one (ps_ret (pv 6))) pss_nil))) pss_nil)))))))
      (pss_one (ps_ret pe_non))), ?_⟩
    -- spans = sorted(kept + [new], key=number_of_span)
    have hlen2 : (as.map V.ref).length + ([V.ref a] : List V).length ≤ sizeLine := line1000' (by rw [List.length_map, hl.len]; show kept.length + 1 ≤ 1001; omega)
    refine ⟨_, rfl, _, rfl, (by show 1 ≤ sizeLine; decide), fun l1 n1 => ?_⟩
    refine ⟨p, l1, as.map V.ref, [V.ref a], rfl, rfl, same_new n1 _ _ hp, upd_same, hlen2, fun l2 n2 => ?_⟩
    have g1 : Same H (upd H l1 (.lst [V.ref a])) := same_new n1
    have g2 : Same H (upd (upd H l1 (.lst [V.ref a])) l2 (.lst (as.map V.ref ++ [V.ref a]))) := g1.trans (same_new n2)
    have hall : Al (SpanAt C H) (as ++ [a]) (kept ++ [new]) := hl.snoc hA
    refine ⟨l2, as ++ [a], rfl, rfl, SqL.of (by rw [snoc_ref]; exact upd_same), fun b hb => ?_, fun as' q hperm n3 => ?_⟩
    · obtain ⟨j, hj⟩ := List.getElem?_of_mem hb
      obtain ⟨sp, _, dx, la, pa, e1, _, _⟩ := hall.get hj
      exact ⟨dx, _, sp.num, g2 _ _ e1, sf_number _ _ _ _ _ _⟩
    have s3 : Same H (upd (upd (upd H l1 (.lst [V.ref a])) l2 (.lst (as.map V.ref ++ [V.ref a]))) q (.lst (as'.map V.ref))) := g2.trans (same_new n3)
    obtain ⟨L, hL, hal⟩ := hall.perm hperm
    have hq3 : (upd (upd (upd H l1 (.lst [V.ref a])) l2 (.lst (as.map V.ref ++ [V.ref a]))) q (.lst (as'.map V.ref))) q = some (.lst (as'.map V.ref)) := upd_same
    generalize (upd (upd (upd H l1 (.lst [V.ref a])) l2 (.lst (as.map V.ref ++ [V.ref a]))) q (.lst (as'.map V.ref))) = H3 at s3 hq3 ⊢
    have ec : clash (kept ++ [new]) new.num = clash L new.num := clash_perm hL.symm
    rw [ec] at k
    have elen : (as'.map V.ref).length = L.length := by rw [List.length_map]; exact hal.len
    -- for mid in spans
    refine ⟨_, rfl, q, rfl, ⟨_, SqL.of hq3⟩,
      for_list (K := K) (a := q) (xs := as'.map V.ref) (fun i σ H' => Same H3 H' ∧ (L.take i).any (fun m => mid new.num L m) = false ∧ ∃ v3 v4 v5 v6 : Option V, σ = [some (.ref p), some (.ref a), some (.ref q), v3, v4, v5, v6])
      ⟨Same.refl _, rfl, none, none, none, none, rfl⟩ (fun i σ H' _ ⟨e1, _⟩ => SqL.of (e1 _ _ hq3)) ?_ ?_⟩
    · rintro i y σ H4 hi ⟨s4, hno, v3, v4, v5, v6, rfl⟩
      obtain ⟨b, hb, rfl⟩ := ref_at hi
      obtain ⟨m, hm, hB⟩ := hal.get hb
      have hB4 := hB.up (s3.trans s4)
      obtain ⟨dy, lb, pb, g4, _, _⟩ := id hB4
      refine ⟨_, rfl, b, C, dy, _, _, rfl, g4, T.cl, T.nWat, sf_watched _ _ _ _ _ _, _, rfl, ?_⟩
      cases cw : m.wat with
      | false => exact iteT ⟨s4, any_take hm hno (by unfold mid; rw [cw]; rfl), _, _, _, _, rfl⟩
      | true =>
        -- behind = out_of(mid, spans)
        refine iteF ⟨_, rfl, _, rfl, b, q, m, L, rfl, hB4, ⟨as', s4 _ _ hq3, hal.mono fun _ _ r => r.up (s3.trans s4)⟩, fun bv H5 s5 hbv => ?_⟩
        have s35 : Same H3 H5 := s4.trans s5
        have hB5 := hB.up (s3.trans s35)
        have hN5 := hA.up (s3.trans s35)
        -- for one in spans
        refine ⟨_, rfl, q, rfl, ⟨_, SqL.of (s35 _ _ hq3)⟩,
          for_list (K := K) (a := q) (xs := as'.map V.ref) (fun j σ H' => Same H5 H' ∧ (L.take j).any (fun o => hit new.num m (out m L) o) = false ∧ ∃ w5 w6 : Option V, σ = [some (.ref p), some (.ref a), some (.ref q), some (.ref b), some bv, w5, w6])
          ⟨Same.refl _, rfl, _, _, rfl⟩ (fun i σ H' _ ⟨e1, _⟩ => SqL.of (e1 _ _ (s35 _ _ hq3))) ?_ ?_⟩
        · rintro j y σ H6 hj ⟨s6, hno6, w5, w6, rfl⟩
          obtain ⟨c, hc, rfl⟩ := ref_at hj
          obtain ⟨o, ho, hO⟩ := hal.get hc
          have s36 : Same H3 H6 := s35.trans s6
          have hB6 := hB.up (s3.trans s36)
          have hN6 := hA.up (s3.trans s36)
          have hO6 := hO.up (s3.trans s36)
          obtain ⟨d1, _, _, e1, _, _⟩ := id hB6
          obtain ⟨d2, _, _, e2, _, _⟩ := id hN6
          obtain ⟨d3, _, _, e3, _, _⟩ := id hO6
          have next : ∀ H', Same H6 H' → hit new.num m (out m L) o = false → Same H5 H' ∧ (L.take (j + 1)).any (fun o => hit new.num m (out m L) o) = false := fun H' s' hf => ⟨s6.trans s', any_take ho hno6 hf⟩
          have call : (decide (m.num = new.num) || decide (o.num = new.num)) = true → ∀ (v : V) (H' : Hp), Same H6 H' → Five H' (abt o m (out m L)) v → (¬ v = .non → Q v H') ∧ (v = .non → hit new.num m (out m L) o = false) := fun hn v H' s' hv => by
            have eh : hit new.num m (out m L) o = abt o m (out m L) := by unfold hit; rw [hn, Bool.true_and]
            cases hb : abt o m (out m L) with
            | false =>
              rw [hb] at eh
              exact ⟨fun z => absurd (hv.1 hb) z, fun _ => eh⟩
            | true =>
              rw [hb] at eh
              obtain ⟨t, i1, i2, i3, i4, i5, et, eH⟩ := hv.2 hb
              refine ⟨fun _ => ?_, fun z => by rw [et] at z; cases z⟩
              rw [et]
              have hmid : mid new.num L m = true := by unfold mid; rw [cw, Bool.true_and]; exact any_hit ho eh
              exact k _ _ (s3.trans (s36.trans s')) (.yes (any_hit hm hmid) eH)
          -- if mid.number == new.number or one.number == new.number
          refine ⟨_, rfl, b, C, d1, _, _, rfl, e1, T.cl, T.nNum, sf_number _ _ _ _ _ _, _, rfl, a, C, d2, _, _, rfl, e2, T.cl, T.nNum, sf_number _ _ _ _ _ _, rfl, _, rfl, ?_⟩
          rw [dec_int_eq]
          by_cases c1 : m.num = new.num
          · have hn : (decide (m.num = new.num) || decide (o.num = new.num)) = true := by rw [decide_eq_true c1]; rfl
            have cl := call hn
            rw [decide_eq_true c1]
            refine iteT (iteT ⟨_, rfl, _, rfl, _, rfl, c, b, o, m, bv, out m L, rfl, hO6, hB6, ⟨hbv.1, fun z => ?_⟩, fun v H7 s7 hv => ?_⟩)
            · obtain ⟨t, k1, k2, q1, q2⟩ := hbv.2 z
              exact ⟨t, k1, k2, q1, s6 _ _ q2⟩
            · refine ⟨_, rfl, rfl, _, rfl, ?_⟩
              obtain ⟨y1, y2⟩ := cl v H7 s7 hv
              by_cases cv : v = .non
              · rw [decide_eq_true cv]
                exact iteF ⟨(next H7 s7 (y2 cv)).1, (next H7 s7 (y2 cv)).2, _, _, rfl⟩
              · rw [decide_eq_false cv]
                exact iteT ⟨_, rfl, y1 cv⟩
          · rw [decide_eq_false c1]
            refine iteF ⟨_, rfl, c, C, d3, _, _, rfl, e3, T.cl, T.nNum, sf_number _ _ _ _ _ _, _, rfl, a, C, d2, _, _, rfl, e2, T.cl, T.nNum, sf_number _ _ _ _ _ _, rfl, _, rfl, ?_⟩
            rw [dec_int_eq]
            by_cases c2 : o.num = new.num
            · have hn : (decide (m.num = new.num) || decide (o.num = new.num)) = true := by rw [decide_eq_true c2]; simp
              have cl := call hn
              rw [decide_eq_true c2]
              refine iteT ⟨_, rfl, _, rfl, _, rfl, c, b, o, m, bv, out m L, rfl, hO6, hB6, ⟨hbv.1, fun z => ?_⟩, fun v H7 s7 hv => ?_⟩
              · obtain ⟨t, k1, k2, q1, q2⟩ := hbv.2 z
                exact ⟨t, k1, k2, q1, s6 _ _ q2⟩
              · refine ⟨_, rfl, rfl, _, rfl, ?_⟩
                obtain ⟨y1, y2⟩ := cl v H7 s7 hv
                by_cases cv : v = .non
                · rw [decide_eq_true cv]
                  exact iteF ⟨(next H7 s7 (y2 cv)).1, (next H7 s7 (y2 cv)).2, _, _, rfl⟩
                · rw [decide_eq_false cv]
                  exact iteT ⟨_, rfl, y1 cv⟩
            · rw [decide_eq_false c2]
              have hf : hit new.num m (out m L) o = false := by unfold hit; rw [decide_eq_false c1, decide_eq_false c2]; rfl
              exact iteF ⟨(next H6 (Same.refl _) hf).1, (next H6 (Same.refl _) hf).2, _, _, rfl⟩
        · rintro σ H6 ⟨s6, hno6, w5, w6, rfl⟩
          rw [elen, List.take_length] at hno6
          exact ⟨s35.trans s6, any_take hm hno (by unfold mid; rw [cw, hno6]; rfl), _, _, _, _, rfl⟩
    · rintro σ H4 ⟨s4, hno, v3, v4, v5, v6, rfl⟩
      rw [elen, List.take_length] at hno
      exact k _ _ (s3.trans s4) (.no hno)
end
end K37

/-! Broken.__init__, let_in, _law_come. -/
namespace K37
open PySem L2
/-- what the written part says of Broken -/
structure BrokenC (K : PySem.W.Frag) (mg : Str → Option Value) (B f : Addr) (fd : FuncData) : Prop where
  ox : OexC K B
  nDea : PySem.W.findIn K (.ref B) "dealing" = some none
  nWhy : PySem.W.findIn K (.ref B) "why" = some none
  gl : mg "Broken" = some (.ref B)
  ini : PySem.W.findIn K (.ref B) "__init__" = some (some (.ref f))
  ty : PySem.W.typeIn K (.ref f) = some (.type "function")
  fn : Fun K "__init__" "Broken.__init__" sBroken f fd
  bi : Binds K fd ["self", "dealing", "why"] []
  te : PySem.W.exmOne K (.ref B) (.ref B) = some true
section
variable {P : Program} {w : World} {K : PySem.W.Frag} {mg : Str → Option Value} {base : Heap} {C B fB : Addr} {fdB : FuncData}
def spBI (B : Addr) : L2.Sp := fun vs H Q _ => ∃ (a : Addr) (x y : V), vs = [.ref a, x, y] ∧ H a = some (exo a B none) ∧
  ∀ dx : Addr, H dx = none → dx ≠ a → Q .non (upd (upd (upd H dx (exd dx [("dealing", x)])) a (exo a B (some dx))) dx (exd dx [("why", y), ("dealing", x)]))
theorem scBI : FnScope ["self", "dealing", "why"] ["self", "dealing", "why"] (defScope sBroken) := ⟨rfl, rfl, rfl, by decide +kernel, rfl, by decide +kernel, by decide +kernel⟩
theorem ok_bi (T : BrokenC K mg B fB fdB) : FnOk P w K mg base CX0 1 fB fdB ["self", "dealing", "why"] (spBI B) := by
  refine T.fn.ok scBI (fun vs H Q E h => ?_) (fun cdv A outer s H vs Q E hr h => ?_)
  · obtain ⟨_, _, _, rfl, _⟩ := h
    rfl
  · obtain ⟨a, x, y, rfl, ha, k⟩ := h
    refine ⟨_, pss_cons (ps_ost (pv 0) (pv 1)) (pss_one (ps_ost (pv 0) (pv 2))), ?_⟩
    refine ⟨_, rfl, _, rfl, a, B, rfl, T.ox, T.nDea, .inl ⟨ha, fun dx hd hne => ?_⟩⟩
    refine ⟨_, rfl, _, rfl, a, B, rfl, T.ox, T.nWhy, .inr ⟨dx, _, upd_same, Eq.trans (upd_ne hne) upd_same, (by show 1 ≤ 900; decide), ?_⟩⟩
    exact k dx hd hne
/-! ### let_in -/
def spLet (C B : Addr) : L2.Sp := fun vs H Q E => ∃ (p a ll : Addr) (kept : List Sp) (new : Sp), vs = [.ref p, .ref a] ∧ H ll ≠ none ∧ SpansAt C (hid H ll) p kept ∧ SpanAt C (hid H ll) a new ∧ kept.length ≤ 1000 ∧
  (clash (kept ++ [new]) new.num = false → ∀ (q : Addr) (H' : Hp), Same H H' → SpansAt C (hid H' ll) q (kept ++ [new]) → Q (.ref q) H') ∧
  (clash (kept ++ [new]) new.num = true → ∀ (d : Addr) (H' : Hp), Same H H' → E (.ref B) (some d) H')
theorem scLet : FnScope ["kept", "new", "three"] ["kept", "new"] (defScope sLet) := ⟨rfl, rfl, rfl, by decide +kernel, rfl, by decide +kernel, by decide +kernel⟩
theorem ok_let {f fC : Addr} {fd fdC : FuncData} (F : Fun K "let_in" "let_in" sLet f fd) (T : SpanC K mg C) (TB : BrokenC K mg B fB fdB) (L : Cal P w K mg base CX0 5 "closing" ["kept", "new"] (spClosing C) fC fdC) :
    FnOk P w K mg base (L2.CX P w) 6 f fd ["kept", "new"] (spLet C B) := by
  refine F.okX scLet (fun vs H Q E h => ?_) (fun cdv A outer s H vs Q E hr h => ?_)
  · obtain ⟨_, _, _, _, _, rfl, _⟩ := h
    rfl
  · obtain ⟨p, a, ll, kept, new, rfl, hll, hK0, hA0, hlen, kF, kT⟩ := h
    have hK := spans_up hid_sub hK0
    have hA := hA0.up hid_sub
    have GB : FnOk P w K mg base CX0 1 fB fdB ["self", "dealing", "why"] (spBI B) := ok_bi TB
    have hr2 : Room (1 + 1) _ := hr.mono (by decide)
    refine ⟨_, pss_cons (ps_set (i := 2) scLet.nd rfl (.inl rfl) (pe_call L.ok hr rfl L.gl L.kp L.bi .nil pass0 (pa_cons (pv 0) (pa_cons (pv 1) pa_nil))))
      (pss_cons (ps_if (pt_cmpR op_notN (pv 2) pe_non (nomark _))
        (pss_one (ps_raise rfl (takes_of rfl rfl rfl rfl) (pmk_oex TB.ox TB.ini TB.ty GB hr2 TB.bi .nil pass0 rfl TB.gl (pa_cons (pe_fld (pv 1) rfl) (pa_cons (pe_op op_catT (pe_tup (pa_cons pe_str pa_nil)) (pv 2)) pa_nil))))) pss_nil)
      (pss_one (ps_ret (pe_op op_cat (pv 0) (pe_lst (pa_cons (pv 1) pa_nil)))))), ?_⟩
    refine ⟨_, rfl, _, rfl, p, a, kept, new, rfl, hK, hA, hlen, fun v H1 s1 hv => ?_⟩
    refine ⟨_, rfl, rfl, _, rfl, ?_⟩
    cases hc : clash (kept ++ [new]) new.num with
    | false =>
      rw [hv.1 hc]
      refine iteF ?_
      obtain ⟨as, e1, e2⟩ := spans_up s1 hK
      refine ⟨_, rfl, _, rfl, (by show 1 ≤ sizeLine; decide), fun l1 n1 => ?_⟩
      refine ⟨p, l1, as.map V.ref, [V.ref a], rfl, rfl, same_new n1 _ _ e1, upd_same, line1000' (by rw [List.length_map, e2.len]; show kept.length + 1 ≤ 1001; omega), fun l2 n2 => ?_⟩
      have s2 := (same_new (o := HO.lst [V.ref a]) n1).trans (same_new (o := HO.lst (as.map V.ref ++ [V.ref a])) n2)
      have s12 := s1.trans s2
      have m2 : H l2 = none := s1.free ((same_new (o := HO.lst [V.ref a]) n1).free n2)
      obtain ⟨as0, e10, e20⟩ := hK0
      have ea : as.map V.ref = as0.map V.ref := by
        have z := s1 _ _ (hid_sub _ _ e10)
        rw [e1] at z
        injection z with z2
        injection z2
      refine kF hc l2 _ s12 ⟨as0 ++ [a], by rw [hid_ne (new_ne hll m2), snoc_ref, ← ea]; exact upd_same, ?_⟩
      exact (e20.mono fun _ _ r => r.up (hid_up s12)).snoc (hA0.up (hid_up s12))
    | true =>
      obtain ⟨t, i1, i2, i3, i4, i5, et, eH⟩ := hv.2 hc
      rw [et]
      refine iteT ?_
      obtain ⟨dx, la, pa, h1, _, _⟩ := hA.up s1
      refine ⟨_, rfl, a, C, dx, _, _, rfl, h1, T.cl, T.nNum, sf_number _ _ _ _ _ _, (by show 1 ≤ sizeLine; decide), fun t1 n1 => ?_⟩
      refine ⟨_, rfl, t1, t, _, _, rfl, rfl, SqT.of upd_same, SqT.of (same_new n1 _ _ eH), (by intro z; cases z), (by show 6 ≤ sizeLine; decide), (fun z => by cases z), fun _ t2 n2 => ?_⟩
      have s2 := (same_new (o := HO.tup [V.str "edges"]) n1).trans (same_new (o := HO.tup ([V.str "edges"] ++ [V.int i1, V.int i2, V.int i3, V.int i4, V.int i5])) n2)
      refine ⟨(by show 2 ≤ 1000; decide), fun x nx => ?_⟩
      refine ⟨x, _, _, rfl, upd_same, fun dd hd hne => ⟨rfl, dd, _, Eq.trans (upd_ne (Ne.symm hne)) upd_same, upd_same, ?_, ?_⟩⟩
      · rw [upd_ne hne] at hd
        exact hd
      · rw [upd_ne hne] at hd
        refine kT hc dd _ fun b o e => ?_
        have e1 := s2 _ _ (s1 _ _ e)
        have nb1 : b ≠ dd := ne_of_none e1 hd
        have nb2 : b ≠ x := ne_of_none e1 nx
        rw [upd_ne nb1, del_ne nb2, upd_ne nb1, upd_ne nb2, upd_ne nb1, upd_ne nb2]
        exact e1
end
end K37

/-! _law_come, _law_whole, _law_span, _law_cell, _law_stream. -/
namespace K37
open PySem L2
section
variable {P : Program} {w : World} {K : PySem.W.Frag} {mg : Str → Option Value} {base : Heap} {C B fB : Addr} {fdB : FuncData}
/-! ### _law_come -/
def spCome (C : Addr) : L2.Sp := fun vs H Q _ => ∃ (p a ll : Addr) (kept : List Sp) (new : Sp), vs = [.ref p, .ref a] ∧ H ll ≠ none ∧ SpansAt C (hid H ll) p kept ∧ SpanAt C (hid H ll) a new ∧ kept.length ≤ 1000 ∧
  (clash (kept ++ [new]) new.num = false → ∀ (q : Addr) (H' : Hp), Same H H' → SpansAt C (hid H' ll) q (kept ++ [new]) → Q (.ref q) H') ∧
  (clash (kept ++ [new]) new.num = true → ∀ (H' : Hp), Same H H' → Q .non H')
theorem scCome : FnScope ["_law_kept", "_law_new", "_law_found"] ["_law_kept", "_law_new"] (defScope sCome) := ⟨rfl, rfl, rfl, by decide +kernel, rfl, by decide +kernel, by decide +kernel⟩
abbrev rListOf (K : PySem.W.Frag) : List V → Hp → VK → Prop := fun xs H Q => ∃ p ys, xs = [.ref p] ∧ (SqL K H p ys ∨ SqT K H p ys) ∧ ∀ l, H l = none → Q (.ref l) (upd H l (.lst ys))
theorem ok_come {f fL : Addr} {fd fdL : FuncData} (F : Fun K "_law_come" "_law_come" sCome f fd) (T : BrokenC K mg B fB fdB) (zL : mg "list" = none) (L : Cal P w K mg base (L2.CX P w) 6 "let_in" ["kept", "new"] (spLet C B) fL fdL) :
    FnOk P w K mg base CX0 7 f fd ["_law_kept", "_law_new"] (spCome C) := by
  refine F.ok scCome (fun vs H Q E h => ?_) (fun cdv A outer s H vs Q E hr h => ?_)
  · obtain ⟨_, _, _, _, _, rfl, _⟩ := h
    rfl
  · obtain ⟨p, a, ll, kept, new, rfl, hll, ⟨as, hp0, hal⟩, hA, hlen, kF, kT⟩ := h
    have hp := hid_sub _ _ hp0
    refine ⟨_, pss_cons (ps_set (i := 2) scCome.nd rfl (.inl rfl) pe_non)
      (pss_cons (ps_try_only (c := .ref B) (tb := fun W => tAsg (tCallS (spLet C B) (WE W) (tCons (tCB (rListOf K) (tCons (tVar 0) tNil)) (tCons (tVar 1) tNil))) (gName 2)) (ts := fun _ _ _ => tAsg (tC .non) (gName 2)) (Wout := fun _ _ _ _ => False)
          rfl rfl ⟨rfl, by decide, .inl T.gl⟩ takes0
          (fun W pn xe tk _ => pss_one (ps_set (i := 2) scCome.nd rfl (.inl rfl) (by exact (pe_callS L.ok hr rfl L.gl L.kp L.bi (fun σ => passAt tk σ) (by exact (pa_cons (pe_callTy call_list_of (by rfl) zL (by decide +kernel) (pa_cons (pv 0) pa_nil)) (pa_cons (pv 1) pa_nil)))))))
          (fun a oe cls d pn _ _ => pss_one (ps_set (i := 2) scCome.nd rfl (.inl rfl) pe_non)))
      (pss_one (ps_ret (pv 2)))), ?_⟩
    refine ⟨_, rfl, p, _, rfl, .inl (SqL.of hp), fun l hl => ?_⟩
    have s1 : Same H (upd H l (.lst (as.map V.ref))) := same_new hl
    have nl : l ≠ ll := new_ne hll hl
    refine ⟨_, rfl, l, a, ll, kept, new, rfl, (by rw [upd_ne nl.symm]; exact hll), ⟨as, by rw [hid_ne nl]; exact upd_same, hal.mono fun _ _ r => r.up (hid_up s1)⟩, hA.up (hid_up s1), hlen, fun hc q H' s2 hq => ?_, fun hc d H' s2 => ?_⟩
    · exact ⟨_, rfl, kF hc q H' (s1.trans s2) hq⟩
    · exact ⟨true, T.te, (fun _ a0 _ => ⟨_, rfl, kT hc H' (s1.trans s2)⟩), (fun z => by cases z)⟩
/-! ### _law_whole -/
def spWhole : L2.Sp := fun vs H Q _ => ∃ z : Int, vs = [.int z] ∧ Q (.bl true) H
theorem scWhole : FnScope ["_law_found"] ["_law_found"] (defScope sWhole) := ⟨rfl, rfl, rfl, by decide +kernel, rfl, by decide +kernel, by decide +kernel⟩
theorem ok_whole {f : Addr} {fd : FuncData} (F : Fun K "_law_whole" "_law_whole" sWhole f fd) (zI : mg "isinstance" = none) (zi : mg "int" = none) (zb : mg "bool" = none) :
    FnOk P w K mg base CX0 1 f fd ["_law_found"] spWhole := by
  refine F.ok scWhole (fun vs H Q E h => ?_) (fun cdv A outer s H vs Q E hr h => ?_)
  · obtain ⟨_, rfl, _⟩ := h
    rfl
  · obtain ⟨z, rfl, k⟩ := h
    refine ⟨_, pss_one (ps_ret (pe_and (pe_callB call_isi (by rfl) zI (by decide +kernel) (pa_cons (pv 0) (pa_cons (pe_bltn (v := .ty "int") (by rfl) zi (by decide +kernel) rfl) pa_nil)))
      (pe_one (pe_not (pe_callB call_isi (by rfl) zI (by decide +kernel) (pa_cons (pv 0) (pa_cons (pe_bltn (v := .ty "bool") (by rfl) zb (by decide +kernel) rfl) pa_nil))))))), ?_⟩
    refine ⟨_, rfl, _, _, _, _, true, rfl, .ty _, .base (.int z), kit_ty (by decide +kernel), _, rfl, ?_⟩
    exact iteT ⟨_, rfl, _, _, _, _, false, rfl, .ty _, .base (.int z), kit_ty (by decide +kernel), _, rfl, k⟩
/-! ### _law_span -/
def spLspan (C : Addr) : L2.Sp := fun vs H Q _ => ∃ (r ll : Addr) (s : Sp), vs = [.ref r] ∧ H ll ≠ none ∧ RowAt (hid H ll) r s ∧ ∀ (a : Addr) (H' : Hp), Same H H' → SpanAt C (hid H' ll) a s → Q (.ref a) H'
theorem scLspan : FnScope ["_law_row"] ["_law_row"] (defScope sLspan) := ⟨rfl, rfl, rfl, by decide +kernel, rfl, by decide +kernel, by decide +kernel⟩
theorem ok_lspan {f fI : Addr} {fd fdI : FuncData} (F : Fun K "_law_span" "_law_span" sLspan f fd) (T : SpanC K mg C) (zL : mg "list" = none) (M : Mk K C fI) (FI : Fun K "__init__" "Span.__init__" sSpan fI fdI) (bI : Binds K fdI ["self", "number", "watched", "begin", "end", "looks", "puts"] []) :
    FnOk P w K mg base CX0 3 f fd ["_law_row"] (spLspan C) := by
  have GI : FnOk P w K mg base CX0 1 fI fdI ["self", "number", "watched", "begin", "end", "looks", "puts"] (spInit C) := ok_init FI T zL
  refine F.ok scLspan (fun vs H Q E h => ?_) (fun cdv A outer s H vs Q E hr h => ?_)
  · obtain ⟨_, _, _, rfl, _⟩ := h
    rfl
  · obtain ⟨r, ll, sp, rfl, hll, ⟨la, pa, h10, ⟨ts, h20, h3⟩, h40⟩, k⟩ := h
    have h1 := hid_sub _ _ h10
    have h2 := hid_sub _ _ h20
    have h4 := hid_sub _ _ h40
    refine ⟨_, pss_one (ps_ret (pe_make M GI hr rfl T.mgC bI .nil pass0 (pa_cons (pe_ix ix_tup (pv 0) pe_int (fun _ _ => rfl)) (pa_cons (pe_ix ix_tup (pv 0) pe_int (fun _ _ => rfl)) (pa_cons (pe_ix ix_tup (pv 0) pe_int (fun _ _ => rfl)) (pa_cons (pe_ix ix_tup (pv 0) pe_int (fun _ _ => rfl))
      (pa_cons (pe_callTy call_list_of (by rfl) zL (by decide +kernel) (pa_cons (pe_ix ix_tup (pv 0) pe_int (fun _ _ => rfl)) pa_nil)) (pa_cons (pe_callTy call_list_of (by rfl) zL (by decide +kernel) (pa_cons (pe_ix ix_tup (pv 0) pe_int (fun _ _ => rfl)) pa_nil)) pa_nil)))))))), ?_⟩
    refine ⟨_, rfl, r, _, _, _, rfl, rfl, SqT.of h1, by rfl, _, rfl, r, _, _, _, rfl, rfl, SqT.of h1, by rfl, _, rfl, r, _, _, _, rfl, rfl, SqT.of h1, by rfl, _, rfl, r, _, _, _, rfl, rfl, SqT.of h1, by rfl,
      _, rfl, r, _, _, _, rfl, rfl, SqT.of h1, by rfl, la, _, rfl, .inl (SqL.of h2), fun l1 n1 => ?_⟩
    have s1 : Same H (upd H l1 (.lst (ts.map V.ref))) := same_new n1
    refine ⟨_, rfl, r, _, _, _, rfl, rfl, SqT.of (s1 _ _ h1), by rfl, pa, _, rfl, .inl (SqL.of (s1 _ _ h4)), fun l2 n2 => ?_⟩
    have s2 : Same (upd H l1 (.lst (ts.map V.ref))) (upd (upd H l1 (.lst (ts.map V.ref))) l2 (.lst (sp.puts.map V.int))) := same_new n2
    intro x dx nx nd ne
    have s3 := (s1.trans s2).trans ((same_new (o := HO.own x) nd).trans (same_new (p := x) (o := HO.ins C dx []) (by rw [upd_ne ne.symm]; exact nx)))
    have e1 : (upd (upd H l1 (.lst (ts.map V.ref))) l2 (.lst (sp.puts.map V.int))) l1 = some (.lst (ts.map V.ref)) := s2 _ _ upd_same
    have e2 : (upd (upd H l1 (.lst (ts.map V.ref))) l2 (.lst (sp.puts.map V.int))) l2 = some (.lst (sp.puts.map V.int)) := upd_same
    have q3 := (same_new (o := HO.own x) nd).trans (same_new (p := x) (o := HO.ins C dx []) (by rw [upd_ne ne.symm]; exact nx))
    refine ⟨x, dx, l1, l2, sp.num, sp.wat, sp.beg, sp.en, ts.map V.ref, sp.puts.map V.int, rfl, upd_same, q3 _ _ e1, q3 _ _ e2, fun la' pa' H' m1 m2 i1 i2 i3 kp => ⟨rfl, ?_⟩⟩
    have s4 : Same H H' := fun b o e => kp b o (s3 _ _ e) (ne_of_none ((s1.trans s2) _ _ e) nx)
    have nxl : x ≠ ll := new_ne hll ((s1.trans s2).free nx)
    have nla : la' ≠ ll := new_ne hll (s3.free m1)
    have npa : pa' ≠ ll := new_ne hll (s3.free m2)
    exact k x H' s4 ⟨dx, la', pa', by rw [hid_ne nxl]; exact i1, ⟨ts, by rw [hid_ne nla]; exact i2, h3.mono fun _ _ r => r.up (hid_up s4)⟩, by rw [hid_ne npa]; exact i3⟩
/-! ### _law_cell -/
def spCell (K : PySem.W.Frag) : L2.Sp := fun vs H Q _ => ∃ (a : Addr) (ns : List Int) (j : Int), vs = [.ref a, .int j] ∧ SqL K H a (ns.map V.int) ∧ 0 ≤ j ∧ j < 1000 ∧ ∀ z : Int, Q (.int z) H
theorem scCell : FnScope ["_law_script", "_law_k"] ["_law_script", "_law_k"] (defScope sCell) := ⟨rfl, rfl, rfl, by decide +kernel, rfl, by decide +kernel, by decide +kernel⟩
theorem ok_cell {f : Addr} {fd : FuncData} (F : Fun K "_law_cell" "_law_cell" sCell f fd) (zL : mg "len" = none) : FnOk P w K mg base CX0 1 f fd ["_law_script", "_law_k"] (spCell K) := by
  refine F.ok scCell (fun vs H Q E h => ?_) (fun cdv A outer s H vs Q E hr h => ?_)
  · obtain ⟨_, _, _, rfl, _⟩ := h
    rfl
  · obtain ⟨a, ns, j, rfl, hS, j0, j1, k⟩ := h
    refine ⟨_, pss_cons (ps_if (pt_cmpR op_lt (pv 1) (pe_callB call_len_seq (by rfl) zL PySem.boot_len (pa_cons (pv 0) pa_nil)) (nomark _)) (pss_one (ps_ret (pe_ix ix_list (pv 0) (pv 1) (fun _ _ => rfl)))) pss_nil)
      (pss_one (ps_ret (pe_op op_mod (pe_op op_mul (pe_op op_add (pv 1) pe_int) pe_int) pe_int))), ?_⟩
    refine ⟨_, rfl, _, rfl, a, _, rfl, .inl hS, _, _, rfl, rfl, _, rfl, ?_⟩
    rw [List.length_map]
    by_cases c : j < (ns.length : Int)
    · rw [decide_eq_true c]
      obtain ⟨n, hn⟩ : ∃ n : Nat, j = (n : Int) := ⟨j.toNat, by omega⟩
      have hlt : n < ns.length := by omega
      refine iteT ⟨_, rfl, _, rfl, a, _, _, .int ns[n], rfl, rfl, hS, at_of hn (get_int (List.getElem?_eq_getElem hlt)), k _⟩
    · rw [decide_eq_false c]
      exact iteF ⟨_, rfl, _, _, rfl, rfl, _, _, rfl, rfl, .inr ⟨by decide, by decide⟩, _, _, rfl, rfl, (by show (0 : Int) < 65537; decide), k _⟩
/-! ### _law_stream -/
def spStream : L2.Sp := fun vs H Q _ => ∃ (c j : Int), vs = [.int c, .int j] ∧ ∀ (p : Addr) (xs : List Int) (H' : Hp), Same H H' → H' p = some (.lst (xs.map V.int)) → xs.length = 7 → Q (.ref p) H'
theorem scStream : FnScope ["_law_cell_here", "_law_k", "_law_found", "_law_number", "_law_j"] ["_law_cell_here", "_law_k"] (defScope sStream) := ⟨rfl, rfl, rfl, by decide +kernel, rfl, by decide +kernel, by decide +kernel⟩
theorem ok_stream {f : Addr} {fd : FuncData} (F : Fun K "_law_stream" "_law_stream" sStream f fd) (zR : mg "range" = none) : FnOk P w K mg base CX0 1 f fd ["_law_cell_here", "_law_k"] spStream := by
  refine F.ok scStream (fun vs H Q E h => ?_) (fun cdv A outer s H vs Q E hr h => ?_)
  · obtain ⟨_, _, rfl, _⟩ := h
    rfl
  · obtain ⟨c, j, rfl, k⟩ := h
    refine ⟨_, pss_cons (ps_set (i := 2) scStream.nd rfl (.inl rfl) (pe_lst pa_nil))
      (pss_cons (ps_set (i := 3) scStream.nd rfl (.inl rfl) (pe_op op_add (pe_op op_add (pe_op op_mod (pv 0) pe_int) (pe_op op_mul pe_int (pv 1))) pe_int))
      (pss_cons (ps_for PassesOwn.never rfl (pi_range1 rfl zR (pa_cons pe_int pa_nil)) (pg_name (i := 4) scStream.nd rfl (.inl rfl))
        (pss_cons (ps_set (i := 3) scStream.nd rfl (.inl rfl) (pe_op op_mod (pe_op op_add (pe_op op_add (pe_op op_mul (pv 3) pe_int) (pe_op op_mul pe_int (pv 4))) pe_int) pe_int))
        (pss_one (ps_expr (pe_bm PySem.F.plainAttrs_list PySem.F.slot_list_append PySem.F.type_list_append mt_append (pv 2) (pa_cons (pv 3) pa_nil))))))
      (pss_one (ps_ret (pv 2))))), ?_⟩
    refine ⟨(by show 0 ≤ sizeLine; decide), fun l hl => ?_⟩
    refine ⟨_, rfl, _, _, rfl, rfl, (by show (0 : Int) < 2147483647; decide), _, rfl, _, _, rfl, rfl, .inl ⟨by decide, by decide⟩, _, _, rfl, rfl, _, _, rfl, rfl, ?_⟩
    refine ⟨7, rfl, by decide, by decide, for_range (n := 7) (fun i σ H' => ∃ (xs : List Int) (z : Int) (v : Option V), σ = [some (.int c), some (.int j), some (.ref l), some (.int z), v] ∧ Same H H' ∧ H' l = some (.lst (xs.map V.int)) ∧ xs.length = i)
      ⟨[], _, none, rfl, same_new hl, upd_same, rfl⟩ ?_ ?_⟩
    · rintro i σ H' hi ⟨xs, z, v, rfl, s1, e1, hx⟩
      refine ⟨_, rfl, _, _, rfl, rfl, .inr ⟨by decide, by decide⟩, _, rfl, _, _, rfl, rfl, .inl ⟨by decide, by decide⟩, _, _, rfl, rfl, _, _, rfl, rfl, _, _, rfl, rfl, (by show (0 : Int) < 2147483629; decide), ?_⟩
      refine ⟨_, rfl, .inl ⟨rfl, _, SqL.of e1⟩, _, rfl, l, _, _, rfl, rfl, e1, small1000 (by rw [List.length_map, hx]; omega), ?_⟩
      exact ⟨xs ++ [_], _, _, rfl, same_over s1 hl, by rw [snoc_int]; exact upd_same, by rw [List.length_append, hx]; rfl⟩
    · rintro σ H' ⟨xs, z, v, rfl, s1, e1, hx⟩
      exact ⟨_, rfl, k l xs H' s1 e1 hx⟩
end
end K37

/-! _law_looks. -/
namespace K37
open PySem L2
theorem LookAt.set {H : Hp} {l t : Addr} {xs ys : List V} {lk : Look} (hl : H l = some (.lst xs)) (h : LookAt H t lk) : LookAt (upd H l (.lst ys)) t lk := by
  obtain ⟨o, h1, h2⟩ := h
  exact ⟨o, by rw [upd_ne (ne_of h1 hl (by intro z; cases z))]; exact h1, by rw [upd_ne (ne_of h2 hl (by intro z; cases z))]; exact h2⟩
theorem quarter {d q : Int} (hd : 0 ≤ d) (h0 : 0 ≤ q) (h4 : q < 5) : 0 ≤ d * q / 4 ∧ d * q / 4 ≤ d := by
  have h : q = 0 ∨ q = 1 ∨ q = 2 ∨ q = 3 ∨ q = 4 := by omega
  rcases h with h | h | h | h | h <;> subst h <;> omega
/-- of eight -/
theorem of_eight {α : Type} {x0 x1 x2 x3 x4 x5 x6 x7 : α} {i : Int} {p : α → Prop} (h0 : 0 ≤ i) (h8 : i < 8) (a0 : p x0) (a1 : p x1) (a2 : p x2) (a3 : p x3) (a4 : p x4) (a5 : p x5) (a6 : p x6) (a7 : p x7) :
    ∃ x, atI [x0, x1, x2, x3, x4, x5, x6, x7] i = some x ∧ p x := by
  have h : i = 0 ∨ i = 1 ∨ i = 2 ∨ i = 3 ∨ i = 4 ∨ i = 5 ∨ i = 6 ∨ i = 7 := by omega
  rcases h with h | h | h | h | h | h | h | h <;> subst h
  · exact ⟨x0, rfl, a0⟩
  · exact ⟨x1, rfl, a1⟩
  · exact ⟨x2, rfl, a2⟩
  · exact ⟨x3, rfl, a3⟩
  · exact ⟨x4, rfl, a4⟩
  · exact ⟨x5, rfl, a5⟩
  · exact ⟨x6, rfl, a6⟩
  · exact ⟨x7, rfl, a7⟩
theorem iteTo {c : Bool} {A B : Prop} (hc : c = true) (h : A) : if c = true then A else B := by
  rw [if_pos hc]
  exact h
theorem iteFo {c : Bool} {A B : Prop} (hc : c = false) (h : B) : if c = true then A else B := by
  rw [hc, if_neg Bool.false_ne_true]
  exact h
/-- a tuple of ints -/
def OwnAt (H : Hp) (v : V) : Prop := ∃ (o : Addr) (own : List Int), v = V.ref o ∧ H o = some (.tup (own.map V.int))
def LooksOk (wt : Bool) (b e : Int) (ls : List Look) : Prop := ∀ l, l ∈ ls → b ≤ l.st ∧ l.st ≤ e ∧ (wt = true → l.st = b)
section
variable {P : Program} {w : World} {K : PySem.W.Frag} {mg : Str → Option Value} {base : Heap}
def spLooks : L2.Sp := fun vs H Q _ => ∃ (x : Addr) (xs : List Int) (wt : Bool) (b e sh : Int), vs = [.ref x, .bl wt, .int b, .int e, .int sh] ∧ H x = some (.lst (xs.map V.int)) ∧ xs.length = 7 ∧ b ≤ e ∧
  ∀ (p : Addr) (ls : List Look) (H' : Hp), H p = none → Same H H' → LooksAt H' p ls → LooksOk wt b e ls → Q (.ref p) H'
abbrev nmLooks : List Str := ["_law_xs", "_law_watched", "_law_begin", "_law_end", "_law_shift", "_law_looks_here", "_law_j", "_law_number", "_law_low", "_law_high", "_law_stand", "_law_own"]
theorem scLooks : FnScope nmLooks ["_law_xs", "_law_watched", "_law_begin", "_law_end", "_law_shift"] (defScope sLooks) := ⟨rfl, rfl, rfl, by decide +kernel, rfl, by decide +kernel, by decide +kernel⟩
theorem ok_looks {f : Addr} {fd : FuncData} (F : Fun K "_law_looks" "_law_looks" sLooks f fd) (zR : mg "range" = none) : FnOk P w K mg base CX0 1 f fd ["_law_xs", "_law_watched", "_law_begin", "_law_end", "_law_shift"] spLooks := by
  refine F.ok scLooks (fun vs H Q E h => ?_) (fun cdv A outer s H vs Q E hr h => ?_)
  · obtain ⟨_, _, _, _, _, _, rfl, _⟩ := h
    rfl
  · obtain ⟨x, xs, wt, b, e, sh, rfl, hx, hlen, hbe, k⟩ := h
    refine ⟨_, pss_cons (ps_set (i := 5) scLooks.nd rfl (.inl rfl) (pe_lst pa_nil))
      (pss_cons (ps_for PassesOwn.never rfl (pi_range1 rfl zR (pa_cons (pe_op op_mod (pe_ix ix_list (pv 0) pe_int (fun _ _ => rfl)) pe_int) pa_nil)) (pg_name (i := 6) scLooks.nd rfl (.inl rfl))
        (pss_cons (ps_set (i := 7) scLooks.nd rfl (.inl rfl) (pe_ix ix_list (pv 0) (pe_op op_add pe_int (pv 6)) (fun _ _ => rfl)))
        (pss_cons (ps_set (i := 8) scLooks.nd rfl (.inl rfl) (pe_op op_add (pv 4) (pe_op op_mod (pv 7) pe_int)))
        (pss_cons (ps_set (i := 9) scLooks.nd rfl (.inl rfl) (pe_op op_sub (pe_op op_add (pv 8) (pe_op op_mod (pe_op op_fdiv (pv 7) pe_int) pe_int)) pe_int))
        (pss_cons (ps_set (i := 10) scLooks.nd rfl (.inl rfl) (pv 2))
        (pss_cons (ps_if (pt_not (pt_val (pv 1))) (pss_one (ps_set (i := 10) scLooks.nd rfl (.inl rfl) (pe_op op_add (pv 2) (pe_op op_fdiv (pe_op op_mul (pe_op op_sub (pv 3) (pv 2)) (pe_op op_mod (pe_op op_fdiv (pv 7) pe_int) pe_int)) pe_int)))) pss_nil)
        (pss_cons (ps_set (i := 11) scLooks.nd rfl (.inl rfl) (pe_ix ix_list (pe_lst (pa_cons (pe_tup pa_nil) (pa_cons (pe_tup pa_nil) (pa_cons (pe_tup pa_nil) (pa_cons (pe_tup pa_nil)
          (pa_cons (pe_tup (pa_cons (pv 8) (pa_cons (pe_op op_add (pv 8) pe_int) pa_nil))) (pa_cons (pe_tup (pa_cons (pv 8) pa_nil)) (pa_cons (pe_tup (pa_cons (pv 9) pa_nil)) (pa_cons (pe_tup (pa_cons (pv 8) (pa_cons (pe_op op_add (pv 8) pe_int) pa_nil))) pa_nil)))))))))
          (pe_op op_mod (pe_op op_fdiv (pv 7) pe_int) pe_int) (fun _ _ => rfl)))
        (pss_cons (ps_if (pt_cmpR op_eq (pe_op op_mod (pe_op op_fdiv (pv 7) pe_int) pe_int) pe_int (nomark _))
          (pss_cons (ps_set (i := 8) scLooks.nd rfl (.inl rfl) (pe_op op_sub (pv 8) (pe_op op_pow pe_int pe_int))) (pss_one (ps_set (i := 9) scLooks.nd rfl (.inl rfl) (pe_op op_add (pv 9) (pe_op op_pow pe_int pe_int))))) pss_nil)
        (pss_one (ps_expr (pe_bm PySem.F.plainAttrs_list PySem.F.slot_list_append PySem.F.type_list_append mt_append (pv 5) (pa_cons (pe_tup (pa_cons (pv 10) (pa_cons (pv 8) (pa_cons (pv 9) (pa_cons (pv 11) pa_nil))))) pa_nil)))))))))))
        )
      (pss_one (ps_ret (pv 5)))), ?_⟩
    refine ⟨(by show 0 ≤ sizeLine; decide), fun l hl => ?_⟩
    have xl : x ≠ l := ne_of_none hx hl
    have h0 : xs[0]? = some xs[0] := List.getElem?_eq_getElem (by omega)
    have m0 := Int.emod_nonneg xs[0] (by decide : (4 : Int) ≠ 0)
    have m1 := Int.emod_lt_of_pos xs[0] (by decide : (0 : Int) < 4)
    refine ⟨_, rfl, x, _, _, _, rfl, rfl, SqL.of (Eq.trans (upd_ne xl) hx), at_of (j := 0) rfl (get_int h0), _, _, rfl, rfl, (by show (0 : Int) < 4; decide), xs[0] % 4, rfl, by omega, by omega,
      for_range (n := (xs[0] % 4).toNat) (fun i σ H' => ∃ (ts : List Addr) (ls : List Look) (v6 v7 v8 v9 v10 v11 : Option V), σ = [some (.ref x), some (.bl wt), some (.int b), some (.int e), some (.int sh), some (.ref l), v6, v7, v8, v9, v10, v11] ∧
          Same H H' ∧ H' l = some (.lst (ts.map V.ref)) ∧ Al (LookAt H') ts ls ∧ ls.length = i ∧ LooksOk wt b e ls)
        ⟨[], [], none, none, none, none, none, none, rfl, same_new hl, upd_same, .nil, rfl, fun l hl => absurd hl (by simp)⟩ ?_ ?_⟩
    · rintro i σ H1 hi ⟨ts, ls, v6, v7, v8, v9, v10, v11, rfl, s1, e1, al, ll, lok⟩
      have hi3 : i < 4 := by omega
      have hn : xs[1 + i]? = some (xs[1 + i]'(by omega)) := List.getElem?_eq_getElem (by omega)
      generalize (xs[1 + i]'(by omega)) = n at hn
      refine ⟨_, rfl, _, rfl, _, _, rfl, rfl, x, _, _, _, rfl, rfl, SqL.of (s1 _ _ hx), at_of (j := 1 + i) (by omega) (get_int hn), ?_⟩
      refine ⟨_, rfl, _, rfl, _, _, rfl, rfl, (by show (0 : Int) < 6; decide), _, _, rfl, rfl, ?_⟩
      refine ⟨_, rfl, _, rfl, _, _, rfl, rfl, ⟨by decide, by decide⟩, _, _, rfl, rfl, (by show (0 : Int) < 4; decide), _, _, rfl, rfl, _, _, rfl, rfl, ?_⟩
      refine ⟨_, rfl, ?_⟩
      refine ⟨_, rfl, _, rfl, ?_⟩
      have q := quarter (d := e - b) (q := n / 24 % 5) (by omega) (Int.emod_nonneg _ (by decide)) (Int.emod_lt_of_pos _ (by decide))
      have q0 := Int.emod_nonneg (n / 24) (by decide : (5 : Int) ≠ 0)
      have q1 := Int.emod_lt_of_pos (n / 24) (by decide : (0 : Int) < 5)
      rcases Bool.eq_false_or_eq_true wt with hw | hw
      · refine iteFo (by rw [hw]; rfl) ?_
        have hst : b ≤ b ∧ b ≤ e ∧ (wt = true → b = b) := ⟨Int.le_refl _, hbe, fun _ => rfl⟩
        -- own = [..][..]
        refine ⟨(by show 0 ≤ sizeLine; decide), fun p1 n1 => ⟨(by show 0 ≤ sizeLine; decide), fun p2 n2 => ⟨(by show 0 ≤ sizeLine; decide), fun p3 n3 => ⟨(by show 0 ≤ sizeLine; decide), fun p4 n4 => ⟨_, rfl, _, rfl, _, _, rfl, rfl, (by show 2 ≤ sizeLine; decide), fun p5 n5 =>
          ⟨_, rfl, (by show 1 ≤ sizeLine; decide), fun p6 n6 => ⟨_, rfl, (by show 1 ≤ sizeLine; decide), fun p7 n7 => ⟨_, rfl, _, rfl, _, _, rfl, rfl, (by show 2 ≤ sizeLine; decide), fun p8 n8 => ⟨(by show 8 ≤ sizeLine; decide), fun lp np => ?_⟩⟩⟩⟩⟩⟩⟩⟩⟩
        have c8 := same_new (o := HO.lst [V.ref p1, V.ref p2, V.ref p3, V.ref p4, V.ref p5, V.ref p6, V.ref p7, V.ref p8]) np
        have c7 := (same_new (o := HO.tup [V.int (sh + n % 6), V.int (sh + n % 6 + 1)]) n8).trans c8
        have c6 := (same_new (o := HO.tup [V.int (sh + n % 6 + n / 6 % 4 - 1)]) n7).trans c7
        have c5 := (same_new (o := HO.tup [V.int (sh + n % 6)]) n6).trans c6
        have c4 := (same_new (o := HO.tup [V.int (sh + n % 6), V.int (sh + n % 6 + 2)]) n5).trans c5
        have c3 := (same_new (o := HO.tup []) n4).trans c4
        have c2 := (same_new (o := HO.tup []) n3).trans c3
        have c1 := (same_new (o := HO.tup []) n2).trans c2
        have c0 := (same_new (o := HO.tup []) n1).trans c1
        obtain ⟨ov, hat, o, own, eo, ho⟩ := of_eight (p := OwnAt _) (i := n / 120 % 8) (Int.emod_nonneg _ (by decide)) (Int.emod_lt_of_pos _ (by decide))
          (show OwnAt _ (V.ref p1) from ⟨p1, [], rfl, c1 _ _ upd_same⟩) (show OwnAt _ (V.ref p2) from ⟨p2, [], rfl, c2 _ _ upd_same⟩) (show OwnAt _ (V.ref p3) from ⟨p3, [], rfl, c3 _ _ upd_same⟩) (show OwnAt _ (V.ref p4) from ⟨p4, [], rfl, c4 _ _ upd_same⟩)
          (show OwnAt _ (V.ref p5) from ⟨p5, [_, _], rfl, c5 _ _ upd_same⟩) (show OwnAt _ (V.ref p6) from ⟨p6, [_], rfl, c6 _ _ upd_same⟩) (show OwnAt _ (V.ref p7) from ⟨p7, [_], rfl, c7 _ _ upd_same⟩) (show OwnAt _ (V.ref p8) from ⟨p8, [_, _], rfl, c8 _ _ upd_same⟩)
        subst eo
        have e9 := c0 _ _ e1
        refine ⟨_, rfl, _, _, rfl, rfl, ⟨by decide, by decide⟩, _, _, rfl, rfl, (by show (0 : Int) < 8; decide), lp, _, _, _, rfl, rfl, SqL.of upd_same, hat, ?_⟩
        refine ⟨_, rfl, _, _, rfl, rfl, ⟨by decide, by decide⟩, _, _, rfl, rfl, (by show (0 : Int) < 8; decide), rfl, _, rfl, ite2 (fun _ => ?_) (fun _ => ?_)⟩
        · refine ⟨_, rfl, _, _, rfl, rfl, ⟨by decide, by decide, by decide⟩, _, _, rfl, rfl, _, rfl, _, _, rfl, rfl, ⟨by decide, by decide, by decide⟩, _, _, rfl, rfl, ?_⟩
          refine ⟨_, rfl, .inl ⟨rfl, _, SqL.of e9⟩, _, rfl, _, rfl, _, rfl, _, rfl, (by show 4 ≤ sizeLine; decide), fun t nt => ⟨l, _, _, rfl, rfl, same_new nt _ _ e9, small1000 (by rw [List.length_map, al.len]; omega), ?_⟩⟩
          refine ⟨ts ++ [t], ls ++ [(⟨_, _, _, own⟩ : Look)], _, _, _, _, _, _, rfl, same_over ((s1.trans c0).trans (same_new nt)) hl, (by rw [snoc_ref]; exact upd_same),
            (al.mono fun _ _ r => (r.up (c0.trans (same_new nt))).set (same_new nt _ _ e9)).snoc (LookAt.set (same_new nt _ _ e9) ⟨o, upd_same, same_new nt _ _ ho⟩), (by rw [List.length_append, ll]; rfl), fun l' hl' => ?_⟩
          rcases List.mem_append.mp hl' with z | z
          · exact lok l' z
          · rw [List.mem_singleton.mp z]
            exact hst
        · refine ⟨_, rfl, .inl ⟨rfl, _, SqL.of e9⟩, _, rfl, _, rfl, _, rfl, _, rfl, (by show 4 ≤ sizeLine; decide), fun t nt => ⟨l, _, _, rfl, rfl, same_new nt _ _ e9, small1000 (by rw [List.length_map, al.len]; omega), ?_⟩⟩
          refine ⟨ts ++ [t], ls ++ [(⟨_, _, _, own⟩ : Look)], _, _, _, _, _, _, rfl, same_over ((s1.trans c0).trans (same_new nt)) hl, (by rw [snoc_ref]; exact upd_same),
            (al.mono fun _ _ r => (r.up (c0.trans (same_new nt))).set (same_new nt _ _ e9)).snoc (LookAt.set (same_new nt _ _ e9) ⟨o, upd_same, same_new nt _ _ ho⟩), (by rw [List.length_append, ll]; rfl), fun l' hl' => ?_⟩
          rcases List.mem_append.mp hl' with z | z
          · exact lok l' z
          · rw [List.mem_singleton.mp z]
            exact hst
      · refine iteTo (by rw [hw]; rfl) ⟨_, rfl, _, rfl, _, rfl, _, _, rfl, rfl, _, rfl, _, _, rfl, rfl, ⟨by decide, by decide⟩, _, _, rfl, rfl, (by show (0 : Int) < 5; decide), _, _, rfl, rfl, .inr ⟨by omega, by omega⟩, _, _, rfl, rfl, ⟨by decide, by decide⟩, _, _, rfl, rfl, ?_⟩
        have hst : b ≤ b + (e - b) * (n / 24 % 5) / 4 ∧ b + (e - b) * (n / 24 % 5) / 4 ≤ e ∧ (wt = true → b + (e - b) * (n / 24 % 5) / 4 = b) := ⟨by omega, by omega, fun z => by rw [hw] at z; cases z⟩
        -- own = [..][..]
        refine ⟨(by show 0 ≤ sizeLine; decide), fun p1 n1 => ⟨(by show 0 ≤ sizeLine; decide), fun p2 n2 => ⟨(by show 0 ≤ sizeLine; decide), fun p3 n3 => ⟨(by show 0 ≤ sizeLine; decide), fun p4 n4 => ⟨_, rfl, _, rfl, _, _, rfl, rfl, (by show 2 ≤ sizeLine; decide), fun p5 n5 =>
          ⟨_, rfl, (by show 1 ≤ sizeLine; decide), fun p6 n6 => ⟨_, rfl, (by show 1 ≤ sizeLine; decide), fun p7 n7 => ⟨_, rfl, _, rfl, _, _, rfl, rfl, (by show 2 ≤ sizeLine; decide), fun p8 n8 => ⟨(by show 8 ≤ sizeLine; decide), fun lp np => ?_⟩⟩⟩⟩⟩⟩⟩⟩⟩
        have c8 := same_new (o := HO.lst [V.ref p1, V.ref p2, V.ref p3, V.ref p4, V.ref p5, V.ref p6, V.ref p7, V.ref p8]) np
        have c7 := (same_new (o := HO.tup [V.int (sh + n % 6), V.int (sh + n % 6 + 1)]) n8).trans c8
        have c6 := (same_new (o := HO.tup [V.int (sh + n % 6 + n / 6 % 4 - 1)]) n7).trans c7
        have c5 := (same_new (o := HO.tup [V.int (sh + n % 6)]) n6).trans c6
        have c4 := (same_new (o := HO.tup [V.int (sh + n % 6), V.int (sh + n % 6 + 2)]) n5).trans c5
        have c3 := (same_new (o := HO.tup []) n4).trans c4
        have c2 := (same_new (o := HO.tup []) n3).trans c3
        have c1 := (same_new (o := HO.tup []) n2).trans c2
        have c0 := (same_new (o := HO.tup []) n1).trans c1
        obtain ⟨ov, hat, o, own, eo, ho⟩ := of_eight (p := OwnAt _) (i := n / 120 % 8) (Int.emod_nonneg _ (by decide)) (Int.emod_lt_of_pos _ (by decide))
          (show OwnAt _ (V.ref p1) from ⟨p1, [], rfl, c1 _ _ upd_same⟩) (show OwnAt _ (V.ref p2) from ⟨p2, [], rfl, c2 _ _ upd_same⟩) (show OwnAt _ (V.ref p3) from ⟨p3, [], rfl, c3 _ _ upd_same⟩) (show OwnAt _ (V.ref p4) from ⟨p4, [], rfl, c4 _ _ upd_same⟩)
          (show OwnAt _ (V.ref p5) from ⟨p5, [_, _], rfl, c5 _ _ upd_same⟩) (show OwnAt _ (V.ref p6) from ⟨p6, [_], rfl, c6 _ _ upd_same⟩) (show OwnAt _ (V.ref p7) from ⟨p7, [_], rfl, c7 _ _ upd_same⟩) (show OwnAt _ (V.ref p8) from ⟨p8, [_, _], rfl, c8 _ _ upd_same⟩)
        subst eo
        have e9 := c0 _ _ e1
        refine ⟨_, rfl, _, _, rfl, rfl, ⟨by decide, by decide⟩, _, _, rfl, rfl, (by show (0 : Int) < 8; decide), lp, _, _, _, rfl, rfl, SqL.of upd_same, hat, ?_⟩
        refine ⟨_, rfl, _, _, rfl, rfl, ⟨by decide, by decide⟩, _, _, rfl, rfl, (by show (0 : Int) < 8; decide), rfl, _, rfl, ite2 (fun _ => ?_) (fun _ => ?_)⟩
        · refine ⟨_, rfl, _, _, rfl, rfl, ⟨by decide, by decide, by decide⟩, _, _, rfl, rfl, _, rfl, _, _, rfl, rfl, ⟨by decide, by decide, by decide⟩, _, _, rfl, rfl, ?_⟩
          refine ⟨_, rfl, .inl ⟨rfl, _, SqL.of e9⟩, _, rfl, _, rfl, _, rfl, _, rfl, (by show 4 ≤ sizeLine; decide), fun t nt => ⟨l, _, _, rfl, rfl, same_new nt _ _ e9, small1000 (by rw [List.length_map, al.len]; omega), ?_⟩⟩
          refine ⟨ts ++ [t], ls ++ [(⟨_, _, _, own⟩ : Look)], _, _, _, _, _, _, rfl, same_over ((s1.trans c0).trans (same_new nt)) hl, (by rw [snoc_ref]; exact upd_same),
            (al.mono fun _ _ r => (r.up (c0.trans (same_new nt))).set (same_new nt _ _ e9)).snoc (LookAt.set (same_new nt _ _ e9) ⟨o, upd_same, same_new nt _ _ ho⟩), (by rw [List.length_append, ll]; rfl), fun l' hl' => ?_⟩
          rcases List.mem_append.mp hl' with z | z
          · exact lok l' z
          · rw [List.mem_singleton.mp z]
            exact hst
        · refine ⟨_, rfl, .inl ⟨rfl, _, SqL.of e9⟩, _, rfl, _, rfl, _, rfl, _, rfl, (by show 4 ≤ sizeLine; decide), fun t nt => ⟨l, _, _, rfl, rfl, same_new nt _ _ e9, small1000 (by rw [List.length_map, al.len]; omega), ?_⟩⟩
          refine ⟨ts ++ [t], ls ++ [(⟨_, _, _, own⟩ : Look)], _, _, _, _, _, _, rfl, same_over ((s1.trans c0).trans (same_new nt)) hl, (by rw [snoc_ref]; exact upd_same),
            (al.mono fun _ _ r => (r.up (c0.trans (same_new nt))).set (same_new nt _ _ e9)).snoc (LookAt.set (same_new nt _ _ e9) ⟨o, upd_same, same_new nt _ _ ho⟩), (by rw [List.length_append, ll]; rfl), fun l' hl' => ?_⟩
          rcases List.mem_append.mp hl' with z | z
          · exact lok l' z
          · rw [List.mem_singleton.mp z]
            exact hst
    · rintro σ H1 ⟨ts, ls, v6, v7, v8, v9, v10, v11, rfl, s1, e1, al, ll, lok⟩
      exact ⟨_, rfl, k l ls H1 hl s1 ⟨ts, e1, al⟩ lok⟩
end
end K37

/-! _law_rows. -/
namespace K37
open PySem L2
/-- over enumerate(list), the list stays -/
theorem for_enumL {K : PySem.W.Frag} {a : Addr} {xs : List V} {g : TG} {tb : TS} {D : Ends} {σ : L2.St} {H : Hp} (Pv : Nat → L2.St → Hp → Prop) (h0 : Pv 0 σ H) (hq : ∀ i σ H, Pv i σ H → SqL K H a xs)
    (hs : ∀ (i : Nat) (x : V) (T : Addr) (σ : L2.St) (H : Hp), xs[i]? = some x → Pv i σ H → H T = none → g (.ref T) σ (upd H T (.tup [.int (i : Nat), x])) fun σ2 H2 => tb { D with nx := Pv (i + 1), ct := Pv (i + 1), bk := D.nx } σ2 H2) (hd : ∀ σ H, Pv xs.length σ H → D.nx σ H) :
    ∃ W : Nat → Nat → L2.St → Hp → Prop, (∃ m, W 0 m σ H) ∧ ∀ i m σ H, W i m σ H →
      ((Ite K a).stop i H ∧ D.nx σ H) ∨ ((Ite K a).go i H ∧ ∃ N : L2.St → Hp → Prop, (∀ σ' H', N σ' H' → ∃ m', m' < m ∧ W (i + 1) m' σ' H') ∧ ∀ v H', (Ite K a).yld i H v H' → g v σ H' fun σ2 H2 => tb { D with nx := N, ct := N, bk := D.nx } σ2 H2) := by
  refine ⟨fun i m σ H => m = xs.length - i ∧ i ≤ xs.length ∧ Pv i σ H, ⟨xs.length, rfl, Nat.zero_le _, h0⟩, ?_⟩
  rintro i m σ H ⟨rfl, hi, p⟩
  have qx := hq i σ H p
  by_cases hlt : i < xs.length
  · have hx : xs[i]? = some xs[i] := List.getElem?_eq_getElem hlt
    refine .inr ⟨⟨xs, _, qx, hx⟩, Pv (i + 1), fun σ' H' p' => ⟨xs.length - (i + 1), by omega, rfl, hlt, p'⟩, fun v H' y => ?_⟩
    obtain ⟨T, x', rfl, hT, rfl, f1⟩ := y
    exact hs i x' T σ H (f1 xs qx) p hT
  · have e : i = xs.length := by omega
    subst e
    exact .inl ⟨⟨xs, qx, Nat.le_refl _⟩, hd σ H p⟩
/-! ### the numbers of the rows -/
theorem num_ne {st off j k : Int} (h1 : 1 ≤ st) (h2 : st ≤ 16) (j0 : 0 ≤ j) (jk : j < k) (k14 : k < 14) : (j * st + off) % 17 ≠ (k * st + off) % 17 := by
  have h : st = 1 ∨ st = 2 ∨ st = 3 ∨ st = 4 ∨ st = 5 ∨ st = 6 ∨ st = 7 ∨ st = 8 ∨ st = 9 ∨ st = 10 ∨ st = 11 ∨ st = 12 ∨ st = 13 ∨ st = 14 ∨ st = 15 ∨ st = 16 := by omega
  rcases h with h | h | h | h | h | h | h | h | h | h | h | h | h | h | h | h <;> subst h <;> omega
structure RowIs (u st off : Int) (j : Nat) (r : Sp) : Prop where
  en : r.en = u * 100 * ((j : Int) + 1)
  num : r.num = 1 + ((j : Int) * st + off) % 17
  ok : RowOk r
theorem good_of {u st off : Int} {rows : List Sp} (hu : 1 ≤ u) (h1 : 1 ≤ st) (h2 : st ≤ 16) (hl : rows.length ≤ 14) (h : ∀ (j : Nat) (r : Sp), rows[j]? = some r → RowIs u st off j r) : Good rows := by
  refine ⟨fun r hr => ?_, ?_⟩
  · obtain ⟨j, hj⟩ := List.getElem?_of_mem hr
    exact (h j r hj).ok
  · rw [List.pairwise_iff_getElem]
    intro i j hi hj hij
    have a := h i rows[i] (List.getElem?_eq_getElem hi)
    have b := h j rows[j] (List.getElem?_eq_getElem hj)
    refine ⟨?_, ?_⟩
    · rw [a.en, b.en]
      exact Int.mul_lt_mul_of_pos_left (by omega) (by omega)
    · rw [a.num, b.num]
      have q := num_ne (st := st) (off := off) (j := (i : Int)) (k := (j : Int)) h1 h2 (by omega) (by omega) (by omega)
      omega
/-! ### rows whose lists are not the list that grows -/
def RowOff (l : Addr) (H : Hp) (a : Addr) (s : Sp) : Prop := ∃ la pa, la ≠ l ∧ pa ≠ l ∧ H a = some (.tup [.int s.num, .bl s.wat, .int s.beg, .int s.en, .ref la, .ref pa]) ∧ LooksAt H la s.looks ∧ H pa = some (.lst (s.puts.map V.int))
theorem RowOff.row {l a : Addr} {H : Hp} {s : Sp} (h : RowOff l H a s) : RowAt H a s := by
  obtain ⟨la, pa, _, _, h1, h2, h3⟩ := h
  exact ⟨la, pa, h1, h2, h3⟩
theorem RowOff.up {l a : Addr} {H H' : Hp} {s : Sp} (e : Same H H') (h : RowOff l H a s) : RowOff l H' a s := by
  obtain ⟨la, pa, n1, n2, h1, h2, h3⟩ := h
  exact ⟨la, pa, n1, n2, e _ _ h1, looks_up e h2, e _ _ h3⟩
theorem RowOff.set {l a : Addr} {H : Hp} {s : Sp} {xs ys : List V} (hl : H l = some (.lst xs)) (h : RowOff l H a s) : RowOff l (upd H l (.lst ys)) a s := by
  obtain ⟨la, pa, n1, n2, h1, ⟨ts, h2, h3⟩, h4⟩ := h
  exact ⟨la, pa, n1, n2, by rw [upd_ne (ne_of h1 hl (by intro z; cases z))]; exact h1, ⟨ts, by rw [upd_ne n1]; exact h2, h3.mono fun _ _ r => r.set hl⟩, by rw [upd_ne n2]; exact h4⟩
theorem snoc_all {α : Type} {p : Nat → α → Prop} {l : List α} {x : α} (h : ∀ (j : Nat) (r : α), l[j]? = some r → p j r) (hx : p l.length x) : ∀ (j : Nat) (r : α), (l ++ [x])[j]? = some r → p j r := by
  intro j r e
  by_cases c : j < l.length
  · rw [List.getElem?_append_left c] at e
    exact h j r e
  · rw [List.getElem?_append_right (by omega)] at e
    by_cases c2 : j = l.length
    · subst c2
      rw [Nat.sub_self] at e
      have e' : x = r := Option.some.inj e
      rw [← e']
      exact hx
    · obtain ⟨m, hm⟩ : ∃ m, j - l.length = m + 1 := ⟨j - l.length - 1, by omega⟩
      rw [hm] at e
      simp at e
/-- the cells of the script that make rows -/
def cells (ns : List Int) : List Int := (ns.drop (min 2 ns.length)).take (min 16 ns.length - min 2 ns.length)
theorem cut_cells (ns : List Int) : cutV (ns.map V.int) (some 2) (some 16) = (cells ns).map V.int := by
  unfold cutV cells
  rw [List.length_map, List.map_take, List.map_drop]
  rfl
theorem cells_len (ns : List Int) : (cells ns).length ≤ 14 := by
  unfold cells
  rw [List.length_take, List.length_drop]
  omega
section
variable {P : Program} {w : World} {K : PySem.W.Frag} {mg : Str → Option Value} {base : Heap}
def spRows (K : PySem.W.Frag) : L2.Sp := fun vs H Q _ => ∃ (a : Addr) (ns : List Int), vs = [.ref a, .int 14] ∧ SqL K H a (ns.map V.int) ∧
  ∀ (p : Addr) (rows : List Sp) (H' : Hp), Same H H' → RowsAt H' p rows → rows.length ≤ 14 → Good rows → Q (.ref p) H'
abbrev nmRows : List Str := ["_law_script", "_law_most", "_law_shift", "_law_unit", "_law_step", "_law_off", "_law_rows_here", "_law_k", "_law_cell_here", "_law_xs", "_law_watched", "_law_begin", "_law_end", "_law_mask", "_law_puts", "_law_looks_here", "_law_j"]
theorem scRows : FnScope nmRows ["_law_script", "_law_most"] (defScope sRows) := ⟨rfl, rfl, rfl, by decide +kernel, rfl, by decide +kernel, by decide +kernel⟩
theorem ok_rows {f fC fS fL : Addr} {fd fdC fdS fdL : FuncData} (F : Fun K "_law_rows" "_law_rows" sRows f fd) (zE : mg "enumerate" = none) (zR : mg "range" = none) (zM : mg "max" = none)
    (Ce : Cal P w K mg base CX0 1 "_law_cell" ["_law_script", "_law_k"] (spCell K) fC fdC) (S : Cal P w K mg base CX0 1 "_law_stream" ["_law_cell_here", "_law_k"] spStream fS fdS)
    (L : Cal P w K mg base CX0 1 "_law_looks" ["_law_xs", "_law_watched", "_law_begin", "_law_end", "_law_shift"] spLooks fL fdL) :
    FnOk P w K mg base CX0 2 f fd ["_law_script", "_law_most"] (spRows K) := by
  refine F.ok scRows (fun vs H Q E h => ?_) (fun cdv A outer s H vs Q E hr h => ?_)
  · obtain ⟨_, _, rfl, _⟩ := h
    rfl
  · obtain ⟨a, ns, rfl, hS, k⟩ := h
    refine ⟨_, pss_cons (ps_set (i := 2) scRows.nd rfl (.inr rfl) (pe_op op_sub (pe_op op_mod (pe_call Ce.ok hr rfl Ce.gl Ce.kp Ce.bi .nil pass0 (pa_cons (pv 0) (pa_cons pe_int pa_nil))) (pe_op op_add (pe_op op_mul pe_int (pe_op op_pow pe_int pe_int)) pe_int)) (pe_op op_pow pe_int pe_int)))
      (pss_cons (ps_set (i := 3) scRows.nd rfl (.inl rfl) (pe_op op_add pe_int (pe_op op_mod (pe_op op_fdiv (pe_call Ce.ok hr rfl Ce.gl Ce.kp Ce.bi .nil pass0 (pa_cons (pv 0) (pa_cons pe_int pa_nil))) pe_int) (pe_op op_pow pe_int pe_int))))
      (pss_cons (ps_set (i := 4) scRows.nd rfl (.inl rfl) (pe_op op_add pe_int (pe_op op_mod (pe_call Ce.ok hr rfl Ce.gl Ce.kp Ce.bi .nil pass0 (pa_cons (pv 0) (pa_cons pe_int pa_nil))) pe_int)))
      (pss_cons (ps_set (i := 5) scRows.nd rfl (.inl rfl) (pe_op op_mod (pe_op op_fdiv (pe_call Ce.ok hr rfl Ce.gl Ce.kp Ce.bi .nil pass0 (pa_cons (pv 0) (pa_cons pe_int pa_nil))) pe_int) pe_int))
      (pss_cons (ps_set (i := 6) scRows.nd rfl (.inl rfl) (pe_lst pa_nil))
      (pss_cons (ps_for PassesOwn.never rfl (pi_enum (by rfl) zE (pa_cons (pe_slice sl_list (pv 0) (po_some pe_int) (po_some (pe_op op_add pe_int (pv 1)))) pa_nil))
          (pg_tup rfl (pgs_cons (pg_name (i := 7) scRows.nd rfl (.inl rfl)) (pgs_cons (pg_name (i := 8) scRows.nd rfl (.inl rfl)) pgs_nil)))
        (pss_cons (ps_set (i := 9) scRows.nd rfl (.inl rfl) (pe_call S.ok hr rfl S.gl S.kp S.bi .nil pass0 (pa_cons (pv 8) (pa_cons (pv 7) pa_nil))))
        (pss_cons (ps_set (i := 10) scRows.nd rfl (.inl rfl) (pe_cmpR op_gt (pe_op op_mod (pe_op op_fdiv (pe_ix ix_list (pv 9) pe_int (fun _ _ => rfl)) pe_int) pe_int) pe_int (nomark _)))
        (pss_cons (ps_set (i := 11) scRows.nd rfl (.inl rfl) (pe_op op_mul (pv 3) (pe_op op_add (pe_op op_add (pe_op op_mul pe_int (pe_callB (call_max2 rfl) (by rfl) zM (by decide +kernel) (pa_cons pe_int (pa_cons (pe_op op_sub (pv 7) (pe_op op_mod (pe_ix ix_list (pv 9) pe_int (fun _ _ => rfl)) pe_int)) pa_nil)))) pe_int)
            (pe_op op_mod (pe_ix ix_list (pv 9) pe_int (fun _ _ => rfl)) pe_int))))
        (pss_cons (ps_set (i := 12) scRows.nd rfl (.inl rfl) (pe_op op_mul (pe_op op_mul (pv 3) pe_int) (pe_op op_add (pv 7) pe_int)))
        (pss_cons (ps_set (i := 13) scRows.nd rfl (.inr rfl) (pe_op op_and (pe_ix ix_list (pv 9) pe_int (fun _ _ => rfl)) (pe_op op_shr (pe_ix ix_list (pv 9) pe_int (fun _ _ => rfl)) pe_int)))
        (pss_cons (ps_setLc (i := 14) (own := [("_law_j", 16)]) (g := gName 16) (by rfl) scRows.nd rfl rfl (sw_true rfl rfl rfl (by decide +kernel)) (pi_range1 rfl zR (pa_cons pe_int pa_nil)) (blkOk_by (own := [("_law_j", 16)]) (N := nmRows) (sc := defScope sRows) (by decide +kernel))
            (fun _ _ _ _ _ => pg_name (i := 16) scRows.nd rfl (Or.inl rfl)) (fun _ _ _ _ _ => pts_one (pt_cmpR op_eq (pe_op op_and (pe_op op_shr (pv 13) (pv 16)) pe_int) pe_int (nomark _))) (fun _ _ _ _ _ => pe_op op_add (pv 2) (pv 16)))
        (pss_cons (ps_set (i := 15) scRows.nd rfl (.inl rfl) (pe_call L.ok hr rfl L.gl L.kp L.bi .nil pass0 (pa_cons (pv 9) (pa_cons (pv 10) (pa_cons (pv 11) (pa_cons (pv 12) (pa_cons (pv 2) pa_nil)))))))
        (pss_one (ps_expr (pe_bm PySem.F.plainAttrs_list PySem.F.slot_list_append PySem.F.type_list_append mt_append (pv 6)
          (pa_cons (pe_tup (pa_cons (pe_op op_add pe_int (pe_op op_mod (pe_op op_add (pe_op op_mul (pv 7) (pv 4)) (pv 5)) pe_int)) (pa_cons (pv 10) (pa_cons (pv 11) (pa_cons (pv 12) (pa_cons (pv 15) (pa_cons (pv 14) pa_nil))))))) pa_nil))))))))))))
      (pss_one (ps_ret (pv 6)))))))), ?_⟩
    -- the numbers that the script's first cells give
    refine ⟨_, rfl, a, ns, 0, rfl, hS, by decide, by decide, fun z0 => ⟨_, _, rfl, rfl, ⟨by decide, by decide, by decide⟩, _, _, rfl, rfl, .inl ⟨by decide, by decide⟩, _, _, rfl, rfl, _, _, rfl, rfl, (by show (0 : Int) < 2 * 10 ^ 28 + 1; decide +kernel), _, _, rfl, rfl, ⟨by decide, by decide, by decide⟩, _, _, rfl, rfl, ?_⟩⟩
    refine ⟨_, rfl, a, ns, 1, rfl, hS, by decide, by decide, fun z1 => ⟨_, _, rfl, rfl, ⟨by decide, by decide⟩, _, _, rfl, rfl, ⟨by decide, by decide, by decide⟩, _, _, rfl, rfl, (by show (0 : Int) < 10 ^ 20; decide +kernel), _, _, rfl, rfl, ?_⟩⟩
    have hu : 1 ≤ (1 + z1 / 272 % 10 ^ (20 : Int).toNat : Int) := by
      have := Int.emod_nonneg (z1 / 272) (show (10 ^ (20 : Int).toNat : Int) ≠ 0 by decide +kernel)
      omega
    refine ⟨_, rfl, a, ns, 1, rfl, hS, by decide, by decide, fun z2 => ⟨_, _, rfl, rfl, (by show (0 : Int) < 16; decide), _, _, rfl, rfl, ?_⟩⟩
    have hst : 1 ≤ (1 + z2 % 16 : Int) ∧ (1 + z2 % 16 : Int) ≤ 16 := by omega
    refine ⟨_, rfl, a, ns, 1, rfl, hS, by decide, by decide, fun z3 => ⟨_, _, rfl, rfl, ⟨by decide, by decide⟩, _, _, rfl, rfl, (by show (0 : Int) < 17; decide), ?_⟩⟩
    refine ⟨(by show 0 ≤ sizeLine; decide), fun l hl => ?_⟩
    have s0 : Same H (upd H l (.lst [])) := same_new hl
    -- for k, cell in enumerate(script[2:16])
    refine ⟨_, rfl, _, rfl, _, rfl, _, _, rfl, rfl, _, rfl, a, ns.map V.int, rfl, s0.seq hS, fun c hc => ?_⟩
    have ecut : cutV (ns.map V.int) (some 2) (some (2 + 14)) = (cells ns).map V.int := cut_cells ns
    rw [ecut]
    have lc : l ≠ c := ne_of_none upd_same hc
    have s1 : Same H (upd (upd H l (.lst [])) c (.lst ((cells ns).map V.int))) := s0.trans (same_new hc)
    have e0 : (upd (upd H l (.lst [])) c (.lst ((cells ns).map V.int))) l = some (.lst []) := Eq.trans (upd_ne lc) upd_same
    have ec : (upd (upd H l (.lst [])) c (.lst ((cells ns).map V.int))) c = some (.lst ((cells ns).map V.int)) := upd_same
    generalize (upd (upd H l (.lst [])) c (.lst ((cells ns).map V.int))) = H1 at s1 e0 ec ⊢
    refine ⟨c, _, rfl, SqL.of ec, for_enumL (K := K) (a := c) (xs := (cells ns).map V.int) (fun i σ H2 => ∃ (sh u st off : Int) (as : List Addr) (rows : List Sp) (v7 v8 v9 v10 v11 v12 v13 v14 v15 : Option V), 1 ≤ u ∧ (1 ≤ st ∧ st ≤ 16) ∧
        σ = [some (.ref a), some (.int 14), some (.int sh), some (.int u), some (.int st), some (.int off), some (.ref l), v7, v8, v9, v10, v11, v12, v13, v14, v15, none] ∧ Same H H2 ∧ H2 c = some (.lst ((cells ns).map V.int)) ∧
        H2 l = some (.lst (as.map V.ref)) ∧ Al (RowOff l H2) as rows ∧ rows.length = i ∧ ∀ (j : Nat) (r : Sp), rows[j]? = some r → RowIs u st off j r)
      ⟨_, _, _, _, [], [], none, none, none, none, none, none, none, none, none, hu, hst, rfl, s1, ec, e0, .nil, rfl, fun j r h => by simp at h⟩ (fun i σ H2 ⟨_, _, _, _, _, _, _, _, _, _, _, _, _, _, _, _, _, _, _, q, _⟩ => SqL.of q) ?_ ?_⟩
    · rintro i y T σ H2 hi ⟨sh, u, st, off, as, rows, v7, v8, v9, v10, v11, v12, v13, v14, v15, hu, hst, rfl, s2, e2, el, al, hlen, hall⟩ hT
      obtain ⟨z, hz, rfl⟩ := int_at hi
      have hi14 : i < 14 := Nat.lt_of_lt_of_le (List.getElem?_eq_some_iff.mp hz).1 (cells_len ns)
      have t1 := same_new (o := HO.tup [V.int (i : Nat), V.int z]) hT
      refine ⟨T, _, rfl, SqT.of upd_same, rfl, _, _, rfl, _, _, rfl, rfl, ?_⟩
      -- xs = _law_stream(cell, k)
      refine ⟨_, rfl, _, rfl, z, (i : Int), rfl, fun px xs H3 t3 e3 hxs => ?_⟩
      have s3 : Same H2 H3 := t1.trans t3
      have g4 : xs[4]? = some xs[4] := List.getElem?_eq_getElem (by omega)
      have g5 : xs[5]? = some xs[5] := List.getElem?_eq_getElem (by omega)
      have g6 : xs[6]? = some xs[6] := List.getElem?_eq_getElem (by omega)
      generalize xs[4] = x4 at g4
      generalize xs[5] = x5 at g5
      generalize xs[6] = x6 at g6
      -- watched
      refine ⟨_, rfl, px, _, _, _, rfl, rfl, SqL.of e3, at_of (j := 4) rfl (get_int g4), _, _, rfl, rfl, ⟨by decide, by decide⟩, _, _, rfl, rfl, (by show (0 : Int) < 4; decide), _, _, rfl, rfl, ?_⟩
      -- begin
      have hx4 := Int.emod_nonneg x4 (by decide : (4 : Int) ≠ 0)
      have hx5 := Int.emod_nonneg x5 (by decide : (98 : Int) ≠ 0)
      have hx5' := Int.emod_lt_of_pos x5 (by decide : (0 : Int) < 98)
      have hmax : 0 ≤ (if (i : Int) - x4 % 4 > 0 then (i : Int) - x4 % 4 else 0) ∧ (if (i : Int) - x4 % 4 > 0 then (i : Int) - x4 % 4 else 0) ≤ (i : Int) := by split <;> omega
      refine ⟨_, rfl, _, rfl, _, rfl, px, _, _, _, rfl, rfl, SqL.of e3, at_of (j := 4) rfl (get_int g4), _, _, rfl, rfl, (by show (0 : Int) < 4; decide), _, _, rfl, rfl, 0, (i : Int) - x4 % 4, rfl, _, _, rfl, rfl, .inl ⟨by decide, by decide⟩, _, _, rfl, rfl,
        _, rfl, px, _, _, _, rfl, rfl, SqL.of e3, at_of (j := 5) rfl (get_int g5), _, _, rfl, rfl, (by show (0 : Int) < 98; decide), _, _, rfl, rfl, _, _, rfl, rfl, .inr ⟨?_, ?_⟩, ?_⟩
      · show -(2 ^ 64) < 100 * (if (i : Int) - x4 % 4 > 0 then (i : Int) - x4 % 4 else 0) + 1 + x5 % 98
        omega
      · show 100 * (if (i : Int) - x4 % 4 > 0 then (i : Int) - x4 % 4 else 0) + 1 + x5 % 98 < 2 ^ 64
        omega
      have hbe : u * (100 * (if (i : Int) - x4 % 4 > 0 then (i : Int) - x4 % 4 else 0) + 1 + x5 % 98) ≤ u * 100 * ((i : Int) + 1) := by
        rw [Int.mul_assoc]
        exact Int.mul_le_mul_of_nonneg_left (by omega) (by omega)
      -- end
      refine ⟨_, rfl, _, _, rfl, rfl, .inr ⟨by decide, by decide⟩, _, rfl, _, _, rfl, rfl, _, _, rfl, rfl, .inr ⟨?_, ?_⟩, ?_⟩
      · show -(2 ^ 64) < (i : Int) + 1
        omega
      · show (i : Int) + 1 < 2 ^ 64
        omega
      -- mask
      refine ⟨_, rfl, px, _, _, _, rfl, rfl, SqL.of e3, at_of (j := 6) rfl (get_int g6), _, rfl, px, _, _, _, rfl, rfl, SqL.of e3, at_of (j := 6) rfl (get_int g6), _, _, rfl, rfl, (by show (0 : Int) ≤ 8; decide), _, _, rfl, rfl, ?_⟩
      -- puts
      refine ⟨6, rfl, by decide, by decide, fun D hD => lc_range (lo := 0) (n := 6) (fun j H' => ∃ ps : List Int, Same H3 H' ∧ H' D = some (.lst (ps.map V.int)) ∧ ps.length ≤ j) ⟨[], same_new hD, upd_same, Nat.le_refl _⟩ ?_ ?_⟩
      · rintro j H' hj ⟨ps, s', e', hps⟩
        refine ⟨rfl, _, rfl, _, rfl, _, _, rfl, rfl, ?_, _, _, rfl, rfl, rfl, _, rfl, ite2 (fun _ => ?_) (fun _ => ?_)⟩
        · show (0 : Int) ≤ 0 + (j : Int)
          omega
        · exact ⟨_, rfl, _, rfl, _, _, rfl, rfl, _, e', small1000 (by rw [List.length_map]; omega), ps ++ [_], same_over s' hD, by rw [snoc_int]; exact upd_same, by rw [List.length_append]; exact Nat.succ_le_succ hps⟩
        · exact ⟨ps, s', e', Nat.le_succ_of_le hps⟩
      · rintro H4 ⟨ps, s4, eD, hps⟩
        have e4 : H4 px = some (.lst (xs.map V.int)) := s4 _ _ e3
        -- looks
        refine ⟨_, rfl, _, rfl, _, rfl, _, rfl, _, rfl, px, xs, _, _, _, sh, rfl, e4, hxs, hbe, fun pl ls H5 npl s5 hls hok => ?_⟩
        have s45 := s4.trans s5
        have s25 : Same H2 H5 := s3.trans s45
        have el5 : H5 l = some (.lst (as.map V.ref)) := s25 _ _ el
        have npl' : pl ≠ l := (ne_of_none ((s3.trans s4) _ _ el) npl).symm
        have nD : D ≠ l := (ne_of_none (s3 _ _ el) hD).symm
        -- append
        refine ⟨_, rfl, .inl ⟨rfl, _, SqL.of el5⟩, _, rfl, _, rfl, _, _, rfl, rfl, .inl ⟨?_, ?_⟩, _, rfl, _, _, rfl, rfl, _, _, rfl, rfl, (by show (0 : Int) < 17; decide), _, _, rfl, rfl,
          _, rfl, _, rfl, _, rfl, _, rfl, _, rfl, (by show 6 ≤ sizeLine; decide), fun t nt => ⟨l, _, _, rfl, rfl, same_new nt _ _ el5, small1000 (by rw [List.length_map, al.len]; omega), ?_⟩⟩
        · show -(2 ^ 64) < (i : Int)
          omega
        · show (i : Int) < 2 ^ 64
          omega
        have t6 : ∀ {o : HO}, Same H5 (upd H5 t o) := fun {o} => same_new nt
        refine ⟨sh, u, st, off, as ++ [t], rows ++ [(⟨_, _, _, _, ls, ps⟩ : Sp)], _, _, _, _, _, _, _, _, _, hu, hst, rfl, same_over (s2.trans (s25.trans t6)) hl, Eq.trans (upd_ne lc.symm) (t6 _ _ (s25 _ _ e2)), (by rw [snoc_ref]; exact upd_same),
          (al.mono fun _ _ r => (r.up (s25.trans t6)).set (t6 _ _ el5)).snoc (RowOff.set (t6 _ _ el5) ⟨pl, D, npl', nD, upd_same, looks_up t6 hls, t6 _ _ (s5 _ _ eD)⟩), (by rw [List.length_append, hlen]; rfl), snoc_all hall ?_⟩
        rw [hlen]
        exact ⟨rfl, rfl, ⟨hok, hbe⟩⟩
    · rintro σ H2 ⟨sh, u, st, off, as, rows, v7, v8, v9, v10, v11, v12, v13, v14, v15, hu, hst, rfl, s2, e2, el, al, hlen, hall⟩
      have hl14 : rows.length ≤ 14 := by rw [hlen, List.length_map]; exact cells_len ns
      exact ⟨_, rfl, k l rows H2 s2 ⟨as, el, al.mono fun _ _ r => r.row⟩ hl14 (good_of hu hst.1 hst.2 hl14 hall)⟩
end
end K37

/-! _law_edges. -/
namespace K37
open PySem L2
section
variable {P : Program} {w : World} {K : PySem.W.Frag} {mg : Str → Option Value} {base : Heap}
def spEdges : L2.Sp := fun vs H Q _ => ∃ (a b d : Addr) (s t : Sp) (kvs : List (Key × V)) (m1 m2 : Int), vs = [.ref a, .ref b, .ref d] ∧ RowAt H a s ∧ RowAt H b t ∧ H d = some (.dK kvs) ∧
  valV kvs (Sum.inl s.num) = some (.int m1) ∧ valV kvs (Sum.inl t.num) = some (.int m2) ∧ EdgesOk s t m1 m2 ∧ Q (.bl true) H
abbrev nmEdges : List Str := ["_law_one", "_law_other", "_law_moments", "_law_stand", "_law_low", "_law_high", "_law_own", "_law_moment", "_law_key"]
theorem scEdges : FnScope nmEdges ["_law_one", "_law_other", "_law_moments"] (defScope sEdges) := ⟨rfl, rfl, rfl, by decide +kernel, rfl, by decide +kernel, by decide +kernel⟩
theorem ok_edges {f : Addr} {fd : FuncData} (F : Fun K "_law_edges" "_law_edges" sEdges f fd) : FnOk P w K mg base CX0 1 f fd ["_law_one", "_law_other", "_law_moments"] spEdges := by
  refine F.ok scEdges (fun vs H Q E h => ?_) (fun cdv A outer s H vs Q E hr h => ?_)
  · obtain ⟨_, _, _, _, _, _, _, _, rfl, _⟩ := h
    rfl
  · obtain ⟨a, b, d, sp, tp, kvs, m1, m2, rfl, ⟨la, pa, h1, ⟨ts, h2, h3⟩, h4⟩, ⟨lb, pb, g1, _, g4⟩, hd, v1, v2, ok, k⟩ := h
    have D1 : DGet H d (.int sp.num) (some (.int m1)) := by
      have q := DGet.k (k := Sum.inl sp.num) hd
      rw [v1] at q
      exact q
    have D2 : DGet H d (.int tp.num) (some (.int m2)) := by
      have q := DGet.k (k := Sum.inl tp.num) hd
      rw [v2] at q
      exact q
    refine ⟨_, pss_cons (ps_for PassesOwn.never rfl (pi_list (pe_ix ix_tup (pv 0) pe_int (fun _ _ => rfl)))
        (pg_tup rfl (pgs_cons (pg_name (i := 3) scEdges.nd rfl (.inl rfl)) (pgs_cons (pg_name (i := 4) scEdges.nd rfl (.inl rfl)) (pgs_cons (pg_name (i := 5) scEdges.nd rfl (.inl rfl)) (pgs_cons (pg_name (i := 6) scEdges.nd rfl (.inl rfl)) pgs_nil)))))
      (pss_cons (ps_set (i := 7) scEdges.nd rfl (.inl rfl) (pv 3))
      (pss_cons (ps_if (pt_val (pe_ix ix_tup (pv 0) pe_int (fun _ _ => rfl))) (pss_one (ps_set (i := 7) scEdges.nd rfl (.inl rfl) (pe_dget (hu_of hr) (pv 2) (pe_ix ix_tup (pv 0) pe_int (fun _ _ => rfl)) (fun _ _ => rfl)))) pss_nil)
      (pss_one (ps_for PassesOwn.never rfl (pi_list (pe_ix ix_tup (pv 1) pe_int (fun _ _ => rfl))) (pg_name (i := 8) scEdges.nd rfl (.inl rfl))
        (pss_one (ps_if (PW.pt (pw_and (pt_chain op_le op_le (pv 4) (pv 8) (pv 5)) (pw_and (pt_cmpR op_notIn_seq (pv 8) (pv 6) (by rfl)) (pw_and1 (pt_cmpR op_lt (pv 3) (pe_ix ix_tup (pv 1) pe_int (fun _ _ => rfl)) (nomark _))))))
          (pss_one (ps_if (pt_cmpR op_ge (pv 7) (pe_dget (hu_of hr) (pv 2) (pe_ix ix_tup (pv 1) pe_int (fun _ _ => rfl)) (fun _ _ => rfl)) (nomark _)) (pss_one (ps_ret pe_bl)) pss_nil)) pss_nil)))))))
      (pss_one (ps_ret pe_bl)), ?_⟩
    refine ⟨_, rfl, a, _, _, _, rfl, rfl, SqT.of h1, by rfl, la, rfl, ⟨_, SqL.of h2⟩,
      for_list (K := K) (a := la) (xs := ts.map V.ref) (fun i σ H' => H' = H ∧ ∃ v3 v4 v5 v6 v7 v8 : Option V, σ = [some (.ref a), some (.ref b), some (.ref d), v3, v4, v5, v6, v7, v8])
      ⟨rfl, none, none, none, none, none, none, rfl⟩ (fun i σ H' _ ⟨e1, _⟩ => by rw [e1]; exact SqL.of h2) ?_ ?_⟩
    · rintro i y σ H' hi ⟨rfl, w3, w4, w5, w6, w7, w8, rfl⟩
      obtain ⟨t, ht, rfl⟩ := ref_at hi
      obtain ⟨l, hl, o, ho1, ho2⟩ := h3.get ht
      have hlm : l ∈ sp.looks := List.mem_of_getElem? hl
      refine ⟨t, _, rfl, SqT.of ho1, rfl, _, _, rfl, _, _, rfl, _, _, rfl, _, _, rfl, rfl, ?_⟩
      refine ⟨_, rfl, ?_⟩
      refine ⟨_, rfl, a, _, _, _, rfl, rfl, SqT.of h1, by rfl, _, rfl, ?_⟩
      rcases Bool.eq_false_or_eq_true sp.wat with hw | hw
      · have em : moment sp l m1 = m1 := by unfold moment; rw [if_pos hw]
        refine iteTo hw ⟨_, rfl, _, rfl, a, _, _, _, rfl, rfl, SqT.of h1, by rfl, d, _, rfl, D1, ?_⟩
        refine ⟨_, rfl, b, _, _, _, rfl, rfl, SqT.of g1, by rfl, pb, rfl, ⟨_, SqL.of g4⟩,
          for_list (K := K) (a := pb) (xs := tp.puts.map V.int) (fun j σ H'' => H'' = H' ∧ ∃ v8 : Option V, σ = [some (.ref a), some (.ref b), some (.ref d), some (.int l.st), some (.int l.lo), some (.int l.hi), some (.ref o), some (.int m1), v8])
          ⟨rfl, _, rfl⟩ (fun i σ H' _ ⟨e1, _⟩ => by rw [e1]; exact SqL.of g4) ?_ ?_⟩
        · rintro j y σ H'' hj ⟨rfl, v8, rfl⟩
          obtain ⟨key, hk, rfl⟩ := int_at hj
          have hkm : key ∈ tp.puts := List.mem_of_getElem? hk
          refine ⟨_, rfl, _, rfl, _, _, rfl, rfl, _, rfl, ?_⟩
          by_cases c1 : l.lo ≤ key
          · refine iteTo (decide_eq_true c1) ⟨_, rfl, _, _, rfl, rfl, _, rfl, ?_⟩
            by_cases c2 : key ≤ l.hi
            · refine iteTo (decide_eq_true c2) ⟨_, rfl, _, rfl, o, _, rfl, .inr (SqT.of ho2), rfl, all_flat _, _, rfl, ?_⟩
              rw [if_pos rfl, in_int]
              cases c3 : (!decide (key ∈ l.own)) with
              | false => exact iteF (iteF ⟨rfl, _, rfl⟩)
              | true =>
                refine iteT ⟨_, rfl, _, rfl, b, _, _, _, rfl, rfl, SqT.of g1, by rfl, _, _, rfl, rfl, _, rfl, ?_⟩
                by_cases c4 : l.st < tp.en
                · have hs : sees l key tp.en = true := by unfold sees; rw [decide_eq_true c4, decide_eq_true c1, decide_eq_true c2, c3]; rfl
                  have lt := ok l hlm key hkm hs
                  rw [em] at lt
                  refine iteTo (decide_eq_true c4) ⟨_, rfl, _, rfl, _, rfl, b, _, _, _, rfl, rfl, SqT.of g1, by rfl, d, _, rfl, D2, _, _, rfl, rfl, _, rfl, ?_⟩
                  exact iteFo (decide_eq_false (by omega)) ⟨rfl, _, rfl⟩
                · exact iteFo (decide_eq_false c4) ⟨rfl, _, rfl⟩
            · exact iteFo (decide_eq_false c2) (iteF ⟨rfl, _, rfl⟩)
          · exact iteFo (decide_eq_false c1) ⟨_, rfl, iteF (iteF ⟨rfl, _, rfl⟩)⟩
        · rintro σ H'' ⟨rfl, v8, rfl⟩
          exact ⟨rfl, _, _, _, _, _, _, rfl⟩
      · have em : moment sp l m1 = l.st := by unfold moment; rw [hw]; rfl
        refine iteFo hw ?_
        refine ⟨_, rfl, b, _, _, _, rfl, rfl, SqT.of g1, by rfl, pb, rfl, ⟨_, SqL.of g4⟩,
          for_list (K := K) (a := pb) (xs := tp.puts.map V.int) (fun j σ H'' => H'' = H' ∧ ∃ v8 : Option V, σ = [some (.ref a), some (.ref b), some (.ref d), some (.int l.st), some (.int l.lo), some (.int l.hi), some (.ref o), some (.int l.st), v8])
          ⟨rfl, _, rfl⟩ (fun i σ H' _ ⟨e1, _⟩ => by rw [e1]; exact SqL.of g4) ?_ ?_⟩
        · rintro j y σ H'' hj ⟨rfl, v8, rfl⟩
          obtain ⟨key, hk, rfl⟩ := int_at hj
          have hkm : key ∈ tp.puts := List.mem_of_getElem? hk
          refine ⟨_, rfl, _, rfl, _, _, rfl, rfl, _, rfl, ?_⟩
          by_cases c1 : l.lo ≤ key
          · refine iteTo (decide_eq_true c1) ⟨_, rfl, _, _, rfl, rfl, _, rfl, ?_⟩
            by_cases c2 : key ≤ l.hi
            · refine iteTo (decide_eq_true c2) ⟨_, rfl, _, rfl, o, _, rfl, .inr (SqT.of ho2), rfl, all_flat _, _, rfl, ?_⟩
              rw [if_pos rfl, in_int]
              cases c3 : (!decide (key ∈ l.own)) with
              | false => exact iteF (iteF ⟨rfl, _, rfl⟩)
              | true =>
                refine iteT ⟨_, rfl, _, rfl, b, _, _, _, rfl, rfl, SqT.of g1, by rfl, _, _, rfl, rfl, _, rfl, ?_⟩
                by_cases c4 : l.st < tp.en
                · have hs : sees l key tp.en = true := by unfold sees; rw [decide_eq_true c4, decide_eq_true c1, decide_eq_true c2, c3]; rfl
                  have lt := ok l hlm key hkm hs
                  rw [em] at lt
                  refine iteTo (decide_eq_true c4) ⟨_, rfl, _, rfl, _, rfl, b, _, _, _, rfl, rfl, SqT.of g1, by rfl, d, _, rfl, D2, _, _, rfl, rfl, _, rfl, ?_⟩
                  exact iteFo (decide_eq_false (by omega)) ⟨rfl, _, rfl⟩
                · exact iteFo (decide_eq_false c4) ⟨rfl, _, rfl⟩
            · exact iteFo (decide_eq_false c2) (iteF ⟨rfl, _, rfl⟩)
          · exact iteFo (decide_eq_false c1) ⟨_, rfl, iteF (iteF ⟨rfl, _, rfl⟩)⟩
        · rintro σ H'' ⟨rfl, v8, rfl⟩
          exact ⟨rfl, _, _, _, _, _, _, rfl⟩
    · rintro σ H' ⟨rfl, _⟩
      exact k
end
end K37

/-! law. -/
namespace K37
open PySem L2
theorem len_put (kvs : List (Key × V)) (k : Key) (v : V) : (putK kvs k v).length ≤ kvs.length + 1 := by
  unfold putK
  split
  · rw [List.length_map]; exact Nat.le_succ _
  · rw [List.length_append]; exact Nat.le_refl _
theorem fold_le : ∀ (rows acc : List Sp), (rows.foldl step acc).length ≤ acc.length + rows.length
  | [], acc => Nat.le_refl _
  | r :: rows, acc => by
    have h := fold_le rows (step acc r)
    have h2 : (step acc r).length ≤ acc.length + 1 := by
      unfold step
      split
      · exact Nat.le_succ _
      · rw [List.length_append]; exact Nat.le_refl _
    show (rows.foldl step (step acc r)).length ≤ acc.length + (rows.length + 1)
    omega
theorem num_apart {l : List Sp} (g : Good l) {i j : Nat} {a b : Sp} (hij : i < j) (ha : l[i]? = some a) (hb : l[j]? = some b) : a.num ≠ b.num := by
  obtain ⟨h1, e1⟩ := List.getElem?_eq_some_iff.mp ha
  obtain ⟨h2, e2⟩ := List.getElem?_eq_some_iff.mp hb
  have q := (List.pairwise_iff_getElem.mp g.rise i j h1 h2 hij).2
  rw [e1, e2] at q
  exact q
section
variable {P : Program} {w : World} {K : PySem.W.Frag} {mg : Str → Option Value} {base : Heap} {C : Addr}
def spLaw (K : PySem.W.Frag) : L2.Sp := fun vs H Q _ => ∃ (a : Addr) (ns : List Int), vs = [.ref a] ∧ SqL K H a (ns.map V.int) ∧ ∀ H', Q (.bl true) H'
abbrev nmLaw : List Str := ["_law_script", "_law_rows_here", "_law_kept", "_law_let", "_law_row", "_law_found", "_law_moments", "_law_span_here", "_law_moment", "_law_one", "_law_other"]
theorem scLaw : FnScope nmLaw ["_law_script"] (defScope sLaw) := ⟨rfl, rfl, rfl, by decide +kernel, rfl, by decide +kernel, by decide +kernel⟩
theorem ok_law {f fR fC fS fT fW fE : Addr} {fd fdR fdC fdS fdT fdW fdE : FuncData} (F : Fun K "law" "law" sLaw f fd) (zL : mg "len" = none) (zM : mg "min" = none) (zZ : mg "zip" = none)
    (R : Cal P w K mg base CX0 2 "_law_rows" ["_law_script", "_law_most"] (spRows K) fR fdR) (Co : Cal P w K mg base CX0 7 "_law_come" ["_law_kept", "_law_new"] (spCome C) fC fdC) (Ls : Cal P w K mg base CX0 3 "_law_span" ["_law_row"] (spLspan C) fS fdS)
    (St : Cal P w K mg base CX0 6 "stand_of" ["span", "kept"] (spStand C) fT fdT) (Wh : Cal P w K mg base CX0 1 "_law_whole" ["_law_found"] spWhole fW fdW) (Ed : Cal P w K mg base CX0 1 "_law_edges" ["_law_one", "_law_other", "_law_moments"] spEdges fE fdE) :
    FnOk P w K mg base CX0 8 f fd ["_law_script"] (spLaw K) := by
  refine F.ok scLaw (fun vs H Q E h => ?_) (fun cdv A outer s H vs Q E hr h => ?_)
  · obtain ⟨_, _, rfl, _⟩ := h
    rfl
  · obtain ⟨a, ns, rfl, hS, k⟩ := h
    have hr1 : Room 1 _ := hr.mono (by decide)
    have hr2 : Room 2 _ := hr.mono (by decide)
    have hr3 : Room 3 _ := hr.mono (by decide)
    have hr6 : Room 6 _ := hr.mono (by decide)
    refine ⟨_, pss_cons (ps_set (i := 1) scLaw.nd rfl (.inl rfl) (pe_call R.ok hr2 rfl R.gl R.kp R.bi .nil pass0 (pa_cons (pv 0) (pa_cons pe_int pa_nil))))
      (pss_cons (ps_set (i := 2) scLaw.nd rfl (.inl rfl) (pe_lst pa_nil))
      (pss_cons (ps_set (i := 3) scLaw.nd rfl (.inl rfl) (pe_lst pa_nil))
      (pss_cons (ps_for PassesOwn.never rfl (pi_list (pv 1)) (pg_name (i := 4) scLaw.nd rfl (.inl rfl))
        (pss_cons (ps_set (i := 5) scLaw.nd rfl (.inl rfl) (pe_call Co.ok hr rfl Co.gl Co.kp Co.bi .nil pass0 (pa_cons (pv 2) (pa_cons (pe_call Ls.ok hr3 rfl Ls.gl Ls.kp Ls.bi .nil pass0 (pa_cons (pv 4) pa_nil)) pa_nil))))
        (pss_one (ps_if (pt_cmpR op_notN (pv 5) pe_non (nomark _)) (pss_cons (ps_set (i := 2) scLaw.nd rfl (.inl rfl) (pv 5))
          (pss_one (ps_expr (pe_bm PySem.F.plainAttrs_list PySem.F.slot_list_append PySem.F.type_list_append mt_append (pv 3) (pa_cons (pv 4) pa_nil))))) pss_nil))))
      (pss_cons (ps_if (pt_cmpR op_lt (pe_callB call_len_seq (by rfl) zL PySem.boot_len (pa_cons (pv 3) pa_nil)) (pe_callB (call_min2 rfl) (by rfl) zM (by decide +kernel) (pa_cons pe_int (pa_cons (pe_callB call_len_seq (by rfl) zL PySem.boot_len (pa_cons (pv 1) pa_nil)) pa_nil))) (nomark _))
        (pss_one (ps_ret pe_bl)) pss_nil)
      (pss_cons (ps_set (i := 6) scLaw.nd rfl (.inl rfl) pe_dnewK)
      (pss_cons (ps_for PassesOwn.never rfl (pi_zip (by rfl) zZ (pa_cons (pv 2) (pa_cons (pv 3) pa_nil))) (pg_tup rfl (pgs_cons (pg_name (i := 7) scLaw.nd rfl (.inl rfl)) (pgs_cons (pg_name (i := 4) scLaw.nd rfl (.inl rfl)) pgs_nil)))
        (pss_cons (ps_set (i := 8) scLaw.nd rfl (.inl rfl) (pe_call St.ok hr6 rfl St.gl St.kp St.bi .nil pass0 (pa_cons (pv 7) (pa_cons (pv 2) pa_nil))))
        (pss_cons (ps_if (PW.pt (pw_or (pt_not (pt_val (pe_call Wh.ok hr1 rfl Wh.gl Wh.kp Wh.bi .nil pass0 (pa_cons (pv 8) pa_nil)))) (pw_or (pt_cmpR op_notIn_seq (pv 8) (pe_slice sl_tup (pv 4) (po_some pe_int) (po_some pe_int)) (by rfl))
            (pw_or1 (PW.pt (pw_and (pt_not (pt_val (pe_ix ix_tup (pv 4) pe_int (fun _ _ => rfl)))) (pw_and1 (pt_cmpR op_ne (pv 8) (pe_ix ix_tup (pv 4) pe_int (fun _ _ => rfl)) (nomark _)))))))))
          (pss_one (ps_ret pe_bl)) pss_nil)
        (pss_one (ps_dput (hu_of hr) (pv 6) (pe_ix ix_tup (pv 4) pe_int (fun _ _ => rfl)) (pv 8) rfl)))))
      (pss_cons (ps_for PassesOwn.never rfl (pi_list (pv 3)) (pg_name (i := 9) scLaw.nd rfl (.inl rfl))
        (pss_one (ps_for PassesOwn.never rfl (pi_list (pv 3)) (pg_name (i := 10) scLaw.nd rfl (.inl rfl))
          (pss_one (ps_if (PW.pt (pw_and (pt_cmpR op_ne (pe_ix ix_tup (pv 9) pe_int (fun _ _ => rfl)) (pe_ix ix_tup (pv 10) pe_int (fun _ _ => rfl)) (nomark _))
              (pw_and1 (pt_not (pt_val (pe_call Ed.ok hr1 rfl Ed.gl Ed.kp Ed.bi .nil pass0 (pa_cons (pv 9) (pa_cons (pv 10) (pa_cons (pv 6) pa_nil)))))))))
            (pss_one (ps_ret pe_bl)) pss_nil)))))
      (pss_one (ps_ret pe_bl))))))))), ?_⟩
    -- rows = _law_rows(script, 14); kept = []; let = []
    refine ⟨_, rfl, a, ns, rfl, hS, fun pr rows H1 s1 ⟨asr, hpr, har⟩ hl14 hgood => ⟨(by show 0 ≤ sizeLine; decide), fun kp0 n1 => ⟨(by show 0 ≤ sizeLine; decide), fun ll n2 => ?_⟩⟩⟩
    have m2 : H1 ll = none := (same_new (o := HO.lst []) n1).free n2
    have s13 := (same_new (o := HO.lst []) n1).trans (same_new (o := HO.lst []) n2)
    have nkl : kp0 ≠ ll := ne_of_none upd_same n2
    have elr : (asr.map V.ref).length = rows.length := by rw [List.length_map]; exact har.len
    refine ⟨_, rfl, pr, rfl, ⟨_, SqL.of (s13 _ _ hpr)⟩,
      for_list (K := K) (a := pr) (xs := asr.map V.ref) (fun i σ H' => ∃ (kp : Addr) (asL : List Addr) (v4 v5 : Option V), σ = [some (.ref a), some (.ref pr), some (.ref kp), some (.ref ll), v4, v5, none, none, none, none, none] ∧ Same H1 H' ∧
          SpansAt C (hid H' ll) kp ((rows.take i).foldl step []) ∧ H' ll = some (.lst (asL.map V.ref)) ∧ Al (RowAt H1) asL ((rows.take i).foldl step []))
        ⟨kp0, [], none, none, rfl, s13, ⟨[], by rw [hid_ne nkl, upd_ne nkl]; exact upd_same, .nil⟩, upd_same, .nil⟩ (fun i σ H' _ ⟨_, _, _, _, _, e1, _⟩ => SqL.of (e1 _ _ hpr)) ?_ ?_⟩
    · rintro i y σ H3 hi ⟨kp, asL, v4, v5, rfl, s3, hk, hll, hal⟩
      obtain ⟨r, hrr, rfl⟩ := ref_at hi
      obtain ⟨sp, hsp, hrow⟩ := har.get hrr
      have hlen : ((rows.take i).foldl step []).length ≤ 14 := by
        have q := fold_le (rows.take i) []
        rw [List.length_take] at q
        have : ([] : List Sp).length = 0 := rfl
        omega
      have enext : (rows.take (i + 1)).foldl step [] = step ((rows.take i).foldl step []) sp := by rw [take_snoc hsp, List.foldl_append]; rfl
      generalize (rows.take i).foldl step [] = L at hk hal hlen enext
      have hll' : H3 ll ≠ none := by rw [hll]; exact fun z => by cases z
      refine ⟨_, rfl, _, rfl, r, ll, sp, rfl, hll', hrow.up (same_hid s3 m2), fun x H4 s4 hx => ?_⟩
      refine ⟨kp, x, ll, L, sp, rfl, (by rw [s4 _ _ hll]; exact fun z => by cases z), spans_up (hid_up s4) hk, hx, by omega, fun hc q H5 s5 hq => ?_, fun hc H5 s5 => ?_⟩
      · have el5 : H5 ll = some (.lst (asL.map V.ref)) := s5 _ _ (s4 _ _ hll)
        have es : step L sp = L ++ [sp] := by unfold step; rw [hc]; rfl
        refine ⟨_, rfl, rfl, _, rfl, iteT ⟨_, rfl, _, rfl, .inl ⟨rfl, _, SqL.of el5⟩, _, rfl, ll, _, _, rfl, rfl, el5, small1000 (by rw [List.length_map, hal.len]; omega), ?_⟩⟩
        exact ⟨q, asL ++ [r], _, _, rfl, same_over ((s3.trans s4).trans s5) m2, by rw [enext, es, hid_upd]; exact hq, by rw [snoc_ref]; exact upd_same, by rw [enext, es]; exact hal.snoc hrow⟩
      · have es : step L sp = L := by unfold step; rw [hc]; rfl
        refine ⟨_, rfl, rfl, _, rfl, iteF ?_⟩
        exact ⟨kp, asL, _, _, rfl, (s3.trans s4).trans s5, by rw [enext, es]; exact spans_up (hid_up (s4.trans s5)) hk, s5 _ _ (s4 _ _ hll), by rw [enext, es]; exact hal⟩
    · rintro σ H3 ⟨kp, asL, v4, v5, rfl, s3, hk, hll, hal⟩
      rw [elr, List.take_length] at hk hal
      have hL : (rows.foldl step [] : List Sp) = letIn rows := rfl
      rw [hL] at hk hal
      obtain ⟨hap, hgl⟩ := let_facts hgood
      have hed := @all_edges rows hgood
      have hsome := @some_in rows
      have hL14 : (letIn rows).length ≤ 14 := by
        have q := fold_le rows []
        have : ([] : List Sp).length = 0 := rfl
        show (rows.foldl step []).length ≤ 14
        omega
      generalize letIn rows = L at hk hal hap hgl hed hsome hL14
      have hk3 : SpansAt C H3 kp L := spans_up hid_sub hk
      have har3 : Al (RowAt H3) asL L := hal.mono fun _ _ r => r.up s3
      have ell : (asL.map V.ref).length = L.length := by rw [List.length_map]; exact hal.len
      -- if len(let) < min(1, len(rows))
      refine ⟨_, rfl, ll, _, rfl, .inl (SqL.of hll), _, rfl, pr, _, rfl, .inl (SqL.of (s3 _ _ hpr)), 1, _, rfl, _, _, rfl, rfl, _, rfl, iteFo (decide_eq_false ?_) ?_⟩
      · rw [ell, elr]
        by_cases c : 0 < rows.length
        · have := hsome c
          split <;> omega
        · split <;> omega
      -- moments = {}
      refine fun d nd => ?_
      obtain ⟨ask, hkp, hak⟩ := hk3
      have elk : (ask.map V.ref).length = L.length := by rw [List.length_map]; exact hak.len
      have s4 : Same H3 (upd H3 d (.dK [])) := same_new nd
      refine ⟨_, rfl, _, rfl, kp, ll, _, _, rfl, SqL.of (s4 _ _ hkp), SqL.of (s4 _ _ hll), RZ.for_zipL (K := K) (a := kp) (b := ll) (xs := ask.map V.ref) (ys := asL.map V.ref) (by rw [elk, ell])
        (fun i σ H' => ∃ (kvs : List (Key × V)) (w4 w7 w8 : Option V), σ = [some (.ref a), some (.ref pr), some (.ref kp), some (.ref ll), w4, v5, some (.ref d), w7, w8, none, none] ∧ Same H3 H' ∧ H' d = some (.dK kvs) ∧ kvs.length ≤ i ∧ i ≤ L.length ∧
          ∀ (j : Nat) (t : Sp), j < i → L[j]? = some t → valV kvs (Sum.inl t.num) = some (.int (stand t L)))
        ⟨[], _, _, _, rfl, s4, upd_same, Nat.le_refl _, Nat.zero_le _, fun j t hj _ => absurd hj (Nat.not_lt_zero _)⟩ (fun i σ H' ⟨_, _, _, _, _, e1, _⟩ => ⟨SqL.of (e1 _ _ hkp), SqL.of (e1 _ _ hll)⟩) ?_ ?_⟩
      · rintro i x y T σ H4 hx hy ⟨kvs, w4, w7, w8, rfl, s5, ed, hkl, hil, hval⟩ hT
        obtain ⟨sa, hsa, rfl⟩ := ref_at hx
        obtain ⟨ra, hra, rfl⟩ := ref_at hy
        obtain ⟨sp, hsp, hspan⟩ := hak.get hsa
        obtain ⟨sp', hsp', hrow⟩ := har3.get hra
        have esp : sp' = sp := Option.some.inj (hsp'.symm.trans hsp)
        subst esp
        have t5 : Same H4 (upd H4 T (.tup [V.ref sa, V.ref ra])) := same_new hT
        have s6 := s5.trans t5
        refine ⟨T, _, rfl, SqT.of upd_same, rfl, _, _, rfl, _, _, rfl, rfl, ?_⟩
        -- moment = stand_of(span, kept)
        refine ⟨_, rfl, _, rfl, sa, kp, sp', L, rfl, hspan.up s6, ⟨ask, s6 _ _ hkp, hak.mono fun _ _ r => r.up s6⟩, fun H5 s7 => ?_⟩
        have s37 := s6.trans s7
        obtain ⟨la, pa, h1, _, _⟩ := hrow.up s37
        have hmem : inV (V.int (stand sp' L)) [V.int sp'.beg, V.int sp'.en] = true := by
          rw [show [V.int sp'.beg, V.int sp'.en] = ([sp'.beg, sp'.en] : List Int).map V.int from rfl, in_int, decide_eq_true_eq]
          unfold stand
          split <;> simp
        refine ⟨_, rfl, _, rfl, _, rfl, iteF ⟨_, rfl, _, rfl, _, rfl, _, rfl, ra, _, rfl, SqT.of h1, (fun z => absurd (show (2 : Nat) = 0 from z.1) (by decide)), fun q nq => ?_⟩⟩
        have s38 := s37.trans (same_new (o := HO.tup [V.int sp'.beg, V.int sp'.en]) nq)
        have h1' := same_new (o := HO.tup [V.int sp'.beg, V.int sp'.en]) nq _ _ h1
        refine ⟨q, _, rfl, .inr (SqT.of upd_same), rfl, rfl, _, rfl, ?_⟩
        refine iteFo (by show (!inV (V.int (stand sp' L)) [V.int sp'.beg, V.int sp'.en]) = false; rw [hmem]; rfl) ?_
        have fin : ∃ a_1 H4_1, V.ref d = V.ref a_1 ∧ DPut (upd H5 q (.tup [V.int sp'.beg, V.int sp'.en])) a_1 (.int sp'.num) (.int (stand sp' L)) H4_1 ∧
            (∃ (kvs : List (Key × V)) (w4 w7 w8 : Option V), [some (V.ref a), some (V.ref pr), some (V.ref kp), some (V.ref ll), some (V.ref ra), v5, some (V.ref d), some (V.ref sa), some (V.int (stand sp' L)), none, none] =
              [some (V.ref a), some (V.ref pr), some (V.ref kp), some (V.ref ll), w4, v5, some (V.ref d), w7, w8, none, none] ∧ Same H3 H4_1 ∧ H4_1 d = some (.dK kvs) ∧ kvs.length ≤ i + 1 ∧ i + 1 ≤ L.length ∧
              ∀ (j : Nat) (t : Sp), j < i + 1 → L[j]? = some t → valV kvs (Sum.inl t.num) = some (.int (stand t L))) := by
          have ed5 := same_new (o := HO.tup [V.int sp'.beg, V.int sp'.en]) nq _ _ (s7 _ _ (t5 _ _ ed))
          have hiL : i < L.length := (List.getElem?_eq_some_iff.mp hsp).1
          refine ⟨d, _, rfl, DPut.k (k := Sum.inl sp'.num) ed5 (small1000 (by omega)), putK kvs (Sum.inl sp'.num) (.int (stand sp' L)), _, _, _, rfl, same_over s38 nd, upd_same, Nat.le_trans (len_put _ _ _) (Nat.succ_le_succ hkl), hiL, fun j t hj ht => ?_⟩
          rw [valV_put]
          by_cases c : j = i
          · subst c
            have e : t = sp' := Option.some.inj (ht.symm.trans hsp)
            rw [if_pos (by rw [e]), e]
          · rw [if_neg (fun z => num_apart hgl (by omega : j < i) ht hsp (Sum.inl.inj z))]
            exact hval j t (by omega) ht
        refine ⟨_, rfl, ra, _, _, _, rfl, rfl, SqT.of h1', by rfl, _, rfl, ?_⟩
        rcases Bool.eq_false_or_eq_true sp'.wat with hw | hw
        · exact iteFo (by rw [hw]; rfl) (iteF ⟨_, rfl, _, rfl, _, rfl, ra, _, _, _, rfl, rfl, SqT.of h1', by rfl, fin⟩)
        · have hst : stand sp' L = sp'.en := by
            unfold stand early
            rw [hw]
            rfl
          refine iteTo (by rw [hw]; rfl) ⟨_, rfl, _, rfl, ra, _, _, _, rfl, rfl, SqT.of h1', by rfl, rfl, _, rfl, ?_⟩
          exact iteFo (by rw [dec_int_eq, decide_eq_true hst]; rfl) ⟨_, rfl, _, rfl, _, rfl, ra, _, _, _, rfl, rfl, SqT.of h1', by rfl, fin⟩
      · rintro σ H4 ⟨kvs, w4, w7, w8, rfl, s5, ed, hkl, hil, hval⟩
        rw [elk] at hval
        have val : ∀ t, t ∈ L → valV kvs (Sum.inl t.num) = some (.int (stand t L)) := fun t ht => by
          obtain ⟨j, hj⟩ := List.getElem?_of_mem ht
          exact hval j t (List.getElem?_eq_some_iff.mp hj).1 hj
        -- for one in let: for other in let
        refine ⟨_, rfl, ll, rfl, ⟨_, SqL.of (s5 _ _ hll)⟩,
          for_list (K := K) (a := ll) (xs := asL.map V.ref) (fun i σ H' => H' = H4 ∧ ∃ w9 w10 : Option V, σ = [some (.ref a), some (.ref pr), some (.ref kp), some (.ref ll), w4, v5, some (.ref d), w7, w8, w9, w10])
          ⟨rfl, _, _, rfl⟩ (fun i σ H' _ ⟨e1, _⟩ => by rw [e1]; exact SqL.of (s5 _ _ hll)) ?_ ?_⟩
        · rintro i y σ H5 hi ⟨rfl, w9, w10, rfl⟩
          obtain ⟨r1, hr1', rfl⟩ := ref_at hi
          obtain ⟨o1, ho1, hrow1⟩ := har3.get hr1'
          have hm1 := List.mem_of_getElem? ho1
          have row1 := hrow1.up s5
          obtain ⟨_, _, q1, _, _⟩ := id row1
          refine ⟨_, rfl, ll, rfl, ⟨_, SqL.of (s5 _ _ hll)⟩,
            for_list (K := K) (a := ll) (xs := asL.map V.ref) (fun i σ H' => H' = H5 ∧ ∃ w10 : Option V, σ = [some (.ref a), some (.ref pr), some (.ref kp), some (.ref ll), w4, v5, some (.ref d), w7, w8, some (.ref r1), w10])
            ⟨rfl, _, rfl⟩ (fun i σ H' _ ⟨e1, _⟩ => by rw [e1]; exact SqL.of (s5 _ _ hll)) ?_ ?_⟩
          · rintro j y σ H6 hj ⟨rfl, w10, rfl⟩
            obtain ⟨r2, hr2', rfl⟩ := ref_at hj
            obtain ⟨o2, ho2, hrow2⟩ := har3.get hr2'
            have hm2 := List.mem_of_getElem? ho2
            have row2 := hrow2.up s5
            obtain ⟨_, _, q2, _, _⟩ := id row2
            refine ⟨_, rfl, r1, _, _, _, rfl, rfl, SqT.of q1, by rfl, _, rfl, r2, _, _, _, rfl, rfl, SqT.of q2, by rfl, rfl, _, rfl, ?_⟩
            by_cases c : o1.num = o2.num
            · exact iteFo (by rw [dec_int_eq, decide_eq_true c]; rfl) (iteF ⟨rfl, _, rfl⟩)
            · exact iteTo (by rw [dec_int_eq, decide_eq_false c]; rfl) ⟨_, rfl, _, rfl, _, rfl, r1, r2, d, o1, o2, kvs, _, _, rfl, row1, row2, ed, val o1 hm1, val o2 hm2, hed hm1 hm2 c, _, rfl, iteF ⟨rfl, _, rfl⟩⟩
          · rintro σ H6 ⟨rfl, w10, rfl⟩
            exact ⟨rfl, _, _, rfl⟩
        · rintro σ H5 ⟨rfl, _⟩
          exact k _
end
end K37

/-! What the top has written, and the end. -/
namespace K37
open PySem L2
/-- an error of the class at S is what «except S» names -/
theorem exm_self {K : PySem.W.Frag} {S : Addr} (h1 : PySem.W.subIn K (.ref S) (.type "BaseException") = some true) (h2 : PySem.W.isClsIn K S = true) (h3 : PySem.W.typeIn K (.ref S) = some (.type "type")) (h4 : PySem.W.subIn K (.ref S) (.ref S) = some true) :
    PySem.W.exmOne K (.ref S) (.ref S) = some true := by
  have e1 : (PySem.W.subIn K (.ref S) (.type "BaseException") == some true) = true := by rw [h1] <;> rfl
  have e2 : ((PySem.W.clsIn K S).isSome && PySem.W.typeIn K (.ref S) == some (.type "type")) = true := by
    have h2' : (PySem.W.clsIn K S).isSome = true := h2
    rw [h2', h3] <;> rfl
  show (if (PySem.W.subIn K (.ref S) (.type "BaseException") == some true) = true then (if ((PySem.W.clsIn K S).isSome && PySem.W.typeIn K (.ref S) == some (.type "type")) = true then PySem.W.subIn K (.ref S) (.ref S) else none) else none) = some true
  rw [if_pos e1, if_pos e2]
  exact h4
theorem def_mk {K : PySem.W.Frag} {h : Heap} {mg : Str → Option Value} {x : Str} {st : Stmt} {ps : List Str} {f : Addr} {oc : Value} {od an : Option Addr} {osl : Array (Option Value)} {kV doc pm cdv ct : Value} (X : K.In h) (G : h.Ns mainGlobals mg)
    (a : PySem.W.nsIn K mainGlobals x = some (some (.ref f))) (l : K.lookup f = some ⟨oc, od, .func (PySem.W.fnOf x x (defArgs st) (defBody st) (defScope st) .none kV doc pm an cdv ct), osl⟩) (c : PySem.W.codeIn K cdv x = true) (k : PySem.W.keepIn K (.ref f) = true)
    (hb : ∀ (kV doc pm : Value) (an : Option Addr) (cdv ct : Value) (us : List Value), us.length = ps.length → bindArgs (PySem.W.fnOf x x (defArgs st) (defBody st) (defScope st) .none kV doc pm an cdv ct) ⟨us, []⟩ = pure (ps.zip us)) :
    Def K mg x st ps f (PySem.W.fnOf x x (defArgs st) (defBody st) (defScope st) .none kV doc pm an cdv ct) := by
  have F := fun_mk (st := st) l c k
  exact ⟨F, PySem.W.mg_of X G a, F.binds hb⟩

theorem all_mk {P : Program} {w : World} {K : PySem.W.Frag} {h : Heap} {mg : Str → Option Value} {fa C fI B fB f0 f1 f2 f3 f4 f5 f6 f7 f8 f9 f10 f11 f12 f13 f14 f15 f16 f17 f18 : Addr} (X : K.In h) (G : h.Ns mainGlobals mg) (hfa : mg "law" = some (.ref fa))
    {od0 an0 : Option Addr} {sl0 : Array (Option Value)} {oc0 kV0 dc0 pm0 cd0 ct0 : Value}
    {od1 an1 : Option Addr} {sl1 : Array (Option Value)} {oc1 kV1 dc1 pm1 cd1 ct1 : Value}
    {od2 an2 : Option Addr} {sl2 : Array (Option Value)} {oc2 kV2 dc2 pm2 cd2 ct2 : Value}
    {od3 an3 : Option Addr} {sl3 : Array (Option Value)} {oc3 kV3 dc3 pm3 cd3 ct3 : Value}
    {od4 an4 : Option Addr} {sl4 : Array (Option Value)} {oc4 kV4 dc4 pm4 cd4 ct4 : Value}
    {od5 an5 : Option Addr} {sl5 : Array (Option Value)} {oc5 kV5 dc5 pm5 cd5 ct5 : Value}
    {od6 an6 : Option Addr} {sl6 : Array (Option Value)} {oc6 kV6 dc6 pm6 cd6 ct6 : Value}
    {od7 an7 : Option Addr} {sl7 : Array (Option Value)} {oc7 kV7 dc7 pm7 cd7 ct7 : Value}
    {od8 an8 : Option Addr} {sl8 : Array (Option Value)} {oc8 kV8 dc8 pm8 cd8 ct8 : Value}
    {od9 an9 : Option Addr} {sl9 : Array (Option Value)} {oc9 kV9 dc9 pm9 cd9 ct9 : Value}
    {od10 an10 : Option Addr} {sl10 : Array (Option Value)} {oc10 kV10 dc10 pm10 cd10 ct10 : Value}
    {od11 an11 : Option Addr} {sl11 : Array (Option Value)} {oc11 kV11 dc11 pm11 cd11 ct11 : Value}
    {od12 an12 : Option Addr} {sl12 : Array (Option Value)} {oc12 kV12 dc12 pm12 cd12 ct12 : Value}
    {od13 an13 : Option Addr} {sl13 : Array (Option Value)} {oc13 kV13 dc13 pm13 cd13 ct13 : Value}
    {od14 an14 : Option Addr} {sl14 : Array (Option Value)} {oc14 kV14 dc14 pm14 cd14 ct14 : Value}
    {od15 an15 : Option Addr} {sl15 : Array (Option Value)} {oc15 kV15 dc15 pm15 cd15 ct15 : Value}
    {od16 an16 : Option Addr} {sl16 : Array (Option Value)} {oc16 kV16 dc16 pm16 cd16 ct16 : Value}
    {od17 an17 : Option Addr} {sl17 : Array (Option Value)} {oc17 kV17 dc17 pm17 cd17 ct17 : Value}
    {od18 an18 : Option Addr} {sl18 : Array (Option Value)} {oc18 kV18 dc18 pm18 cd18 ct18 : Value}
    {odI anI : Option Addr} {slI : Array (Option Value)} {ocI kVI dcI pmI cdI ctI : Value}
    {odB anB : Option Addr} {slB : Array (Option Value)} {ocB kVB dcB pmB cdB ctB : Value}
    {nm q : Str} {N : Addr} {bs : List Value} {bm : List Value} {sn : List Str} {sub : List Value} {ab : Bool} {col : Option Bool} {dd : Option Addr} {m0 m1 m2 m3 m5 : Option Value}
    (a0 : PySem.W.nsIn K mainGlobals "inside" = some (some (.ref f0)))
    (l0 : K.lookup f0 = some ⟨oc0, od0, .func (PySem.W.fnOf "inside" "inside" (defArgs sInside) (defBody sInside) (defScope sInside) .none kV0 dc0 pm0 an0 cd0 ct0), sl0⟩)
    (c0 : PySem.W.codeIn K cd0 "inside" = true)
    (k0 : PySem.W.keepIn K (.ref f0) = true)
    (a1 : PySem.W.nsIn K mainGlobals "looked_before" = some (some (.ref f1)))
    (l1 : K.lookup f1 = some ⟨oc1, od1, .func (PySem.W.fnOf "looked_before" "looked_before" (defArgs sLooked) (defBody sLooked) (defScope sLooked) .none kV1 dc1 pm1 an1 cd1 ct1), sl1⟩)
    (c1 : PySem.W.codeIn K cd1 "looked_before" = true)
    (k1 : PySem.W.keepIn K (.ref f1) = true)
    (a2 : PySem.W.nsIn K mainGlobals "older" = some (some (.ref f2)))
    (l2 : K.lookup f2 = some ⟨oc2, od2, .func (PySem.W.fnOf "older" "older" (defArgs sOlder) (defBody sOlder) (defScope sOlder) .none kV2 dc2 pm2 an2 cd2 ct2), sl2⟩)
    (c2 : PySem.W.codeIn K cd2 "older" = true)
    (k2 : PySem.W.keepIn K (.ref f2) = true)
    (a3 : PySem.W.nsIn K mainGlobals "number_of_span" = some (some (.ref f3)))
    (l3 : K.lookup f3 = some ⟨oc3, od3, .func (PySem.W.fnOf "number_of_span" "number_of_span" (defArgs sNumber) (defBody sNumber) (defScope sNumber) .none kV3 dc3 pm3 an3 cd3 ct3), sl3⟩)
    (c3 : PySem.W.codeIn K cd3 "number_of_span" = true)
    (k3 : PySem.W.keepIn K (.ref f3) = true)
    (a4 : PySem.W.nsIn K mainGlobals "out_of" = some (some (.ref f4)))
    (l4 : K.lookup f4 = some ⟨oc4, od4, .func (PySem.W.fnOf "out_of" "out_of" (defArgs sOut) (defBody sOut) (defScope sOut) .none kV4 dc4 pm4 an4 cd4 ct4), sl4⟩)
    (c4 : PySem.W.codeIn K cd4 "out_of" = true)
    (k4 : PySem.W.keepIn K (.ref f4) = true)
    (a5 : PySem.W.nsIn K mainGlobals "about" = some (some (.ref f5)))
    (l5 : K.lookup f5 = some ⟨oc5, od5, .func (PySem.W.fnOf "about" "about" (defArgs sAbout) (defBody sAbout) (defScope sAbout) .none kV5 dc5 pm5 an5 cd5 ct5), sl5⟩)
    (c5 : PySem.W.codeIn K cd5 "about" = true)
    (k5 : PySem.W.keepIn K (.ref f5) = true)
    (a6 : PySem.W.nsIn K mainGlobals "closing" = some (some (.ref f6)))
    (l6 : K.lookup f6 = some ⟨oc6, od6, .func (PySem.W.fnOf "closing" "closing" (defArgs sClosing) (defBody sClosing) (defScope sClosing) .none kV6 dc6 pm6 an6 cd6 ct6), sl6⟩)
    (c6 : PySem.W.codeIn K cd6 "closing" = true)
    (k6 : PySem.W.keepIn K (.ref f6) = true)
    (a7 : PySem.W.nsIn K mainGlobals "let_in" = some (some (.ref f7)))
    (l7 : K.lookup f7 = some ⟨oc7, od7, .func (PySem.W.fnOf "let_in" "let_in" (defArgs sLet) (defBody sLet) (defScope sLet) .none kV7 dc7 pm7 an7 cd7 ct7), sl7⟩)
    (c7 : PySem.W.codeIn K cd7 "let_in" = true)
    (k7 : PySem.W.keepIn K (.ref f7) = true)
    (a8 : PySem.W.nsIn K mainGlobals "early" = some (some (.ref f8)))
    (l8 : K.lookup f8 = some ⟨oc8, od8, .func (PySem.W.fnOf "early" "early" (defArgs sEarly) (defBody sEarly) (defScope sEarly) .none kV8 dc8 pm8 an8 cd8 ct8), sl8⟩)
    (c8 : PySem.W.codeIn K cd8 "early" = true)
    (k8 : PySem.W.keepIn K (.ref f8) = true)
    (a9 : PySem.W.nsIn K mainGlobals "stand_of" = some (some (.ref f9)))
    (l9 : K.lookup f9 = some ⟨oc9, od9, .func (PySem.W.fnOf "stand_of" "stand_of" (defArgs sStand) (defBody sStand) (defScope sStand) .none kV9 dc9 pm9 an9 cd9 ct9), sl9⟩)
    (c9 : PySem.W.codeIn K cd9 "stand_of" = true)
    (k9 : PySem.W.keepIn K (.ref f9) = true)
    (a10 : PySem.W.nsIn K mainGlobals "_law_cell" = some (some (.ref f10)))
    (l10 : K.lookup f10 = some ⟨oc10, od10, .func (PySem.W.fnOf "_law_cell" "_law_cell" (defArgs sCell) (defBody sCell) (defScope sCell) .none kV10 dc10 pm10 an10 cd10 ct10), sl10⟩)
    (c10 : PySem.W.codeIn K cd10 "_law_cell" = true)
    (k10 : PySem.W.keepIn K (.ref f10) = true)
    (a11 : PySem.W.nsIn K mainGlobals "_law_stream" = some (some (.ref f11)))
    (l11 : K.lookup f11 = some ⟨oc11, od11, .func (PySem.W.fnOf "_law_stream" "_law_stream" (defArgs sStream) (defBody sStream) (defScope sStream) .none kV11 dc11 pm11 an11 cd11 ct11), sl11⟩)
    (c11 : PySem.W.codeIn K cd11 "_law_stream" = true)
    (k11 : PySem.W.keepIn K (.ref f11) = true)
    (a12 : PySem.W.nsIn K mainGlobals "_law_looks" = some (some (.ref f12)))
    (l12 : K.lookup f12 = some ⟨oc12, od12, .func (PySem.W.fnOf "_law_looks" "_law_looks" (defArgs sLooks) (defBody sLooks) (defScope sLooks) .none kV12 dc12 pm12 an12 cd12 ct12), sl12⟩)
    (c12 : PySem.W.codeIn K cd12 "_law_looks" = true)
    (k12 : PySem.W.keepIn K (.ref f12) = true)
    (a13 : PySem.W.nsIn K mainGlobals "_law_rows" = some (some (.ref f13)))
    (l13 : K.lookup f13 = some ⟨oc13, od13, .func (PySem.W.fnOf "_law_rows" "_law_rows" (defArgs sRows) (defBody sRows) (defScope sRows) .none kV13 dc13 pm13 an13 cd13 ct13), sl13⟩)
    (c13 : PySem.W.codeIn K cd13 "_law_rows" = true)
    (k13 : PySem.W.keepIn K (.ref f13) = true)
    (a14 : PySem.W.nsIn K mainGlobals "_law_span" = some (some (.ref f14)))
    (l14 : K.lookup f14 = some ⟨oc14, od14, .func (PySem.W.fnOf "_law_span" "_law_span" (defArgs sLspan) (defBody sLspan) (defScope sLspan) .none kV14 dc14 pm14 an14 cd14 ct14), sl14⟩)
    (c14 : PySem.W.codeIn K cd14 "_law_span" = true)
    (k14 : PySem.W.keepIn K (.ref f14) = true)
    (a15 : PySem.W.nsIn K mainGlobals "_law_whole" = some (some (.ref f15)))
    (l15 : K.lookup f15 = some ⟨oc15, od15, .func (PySem.W.fnOf "_law_whole" "_law_whole" (defArgs sWhole) (defBody sWhole) (defScope sWhole) .none kV15 dc15 pm15 an15 cd15 ct15), sl15⟩)
    (c15 : PySem.W.codeIn K cd15 "_law_whole" = true)
    (k15 : PySem.W.keepIn K (.ref f15) = true)
    (a16 : PySem.W.nsIn K mainGlobals "_law_come" = some (some (.ref f16)))
    (l16 : K.lookup f16 = some ⟨oc16, od16, .func (PySem.W.fnOf "_law_come" "_law_come" (defArgs sCome) (defBody sCome) (defScope sCome) .none kV16 dc16 pm16 an16 cd16 ct16), sl16⟩)
    (c16 : PySem.W.codeIn K cd16 "_law_come" = true)
    (k16 : PySem.W.keepIn K (.ref f16) = true)
    (a17 : PySem.W.nsIn K mainGlobals "_law_edges" = some (some (.ref f17)))
    (l17 : K.lookup f17 = some ⟨oc17, od17, .func (PySem.W.fnOf "_law_edges" "_law_edges" (defArgs sEdges) (defBody sEdges) (defScope sEdges) .none kV17 dc17 pm17 an17 cd17 ct17), sl17⟩)
    (c17 : PySem.W.codeIn K cd17 "_law_edges" = true)
    (k17 : PySem.W.keepIn K (.ref f17) = true)
    (a18 : PySem.W.nsIn K mainGlobals "law" = some (some (.ref f18)))
    (l18 : K.lookup f18 = some ⟨oc18, od18, .func (PySem.W.fnOf "law" "law" (defArgs sLaw) (defBody sLaw) (defScope sLaw) .none kV18 dc18 pm18 an18 cd18 ct18), sl18⟩)
    (c18 : PySem.W.codeIn K cd18 "law" = true)
    (k18 : PySem.W.keepIn K (.ref f18) = true)
    (aC : PySem.W.nsIn K mainGlobals "Span" = some (some (.ref C)))
    (aI : PySem.W.findIn K (.ref C) "__init__" = some (some (.ref fI)))
    (iI : PySem.W.isFn K (.ref fI) = true)
    (lI : K.lookup fI = some ⟨ocI, odI, .func (PySem.W.fnOf "__init__" "Span.__init__" (defArgs sSpan) (defBody sSpan) (defScope sSpan) .none kVI dcI pmI anI cdI ctI), slI⟩)
    (cI : PySem.W.codeIn K cdI "Span.__init__" = true)
    (kI : PySem.W.keepIn K (.ref fI) = true)
    (pgC : PySem.W.plainGet K C Str.empty = true)
    (hdC : PySem.W.hasDictIn K C = true)
    (poC : PySem.W.plainOver K C = true)
    (saC : PySem.W.findIn K (.ref C) "__setattr__" = some (some (.builtin "object.__setattr__")))
    (mkC : PySem.W.makesIn K C = true)
    (kcC : PySem.W.keepIn K (.ref C) = true)
    (n_number : PySem.W.findIn K (.ref C) "number" = some none)
    (n_watched : PySem.W.findIn K (.ref C) "watched" = some none)
    (n_begin : PySem.W.findIn K (.ref C) "begin" = some none)
    (n_end : PySem.W.findIn K (.ref C) "end" = some none)
    (n_looks : PySem.W.findIn K (.ref C) "looks" = some none)
    (n_puts : PySem.W.findIn K (.ref C) "puts" = some none)
    (aB : PySem.W.nsIn K mainGlobals "Broken" = some (some (.ref B)))
    (xB : K.lookup B = some (excClassObj nm q B N bs bm true sn sub ab col dd m0 m1 m2 m3 m5 "ValueError.__new__"))
    (rB : PySem.HandSPX.refsVE bm = true)
    (saB : PySem.W.findIn K (.ref B) "__setattr__" = some (some (.builtin "object.__setattr__")))
    (eB : PySem.W.subIn K (.ref B) (.type "BaseException") = some true)
    (tB : PySem.W.typeIn K (.ref B) = some (.type "type"))
    (kcB : PySem.W.keepIn K (.ref B) = true)
    (isB : PySem.W.isClsIn K B = true)
    (ssB : PySem.W.subIn K (.ref B) (.ref B) = some true)
    (n_dea : PySem.W.findIn K (.ref B) "dealing" = some none)
    (n_why : PySem.W.findIn K (.ref B) "why" = some none)
    (iB : PySem.W.findIn K (.ref B) "__init__" = some (some (.ref fB)))
    (tfB : PySem.W.typeIn K (.ref fB) = some (.type "function"))
    (lB : K.lookup fB = some ⟨ocB, odB, .func (PySem.W.fnOf "__init__" "Broken.__init__" (defArgs sBroken) (defBody sBroken) (defScope sBroken) .none kVB dcB pmB anB cdB ctB), slB⟩)
    (cB : PySem.W.codeIn K cdB "Broken.__init__" = true)
    (kB : PySem.W.keepIn K (.ref fB) = true)
    (z_len : PySem.W.nsIn K mainGlobals "len" = some none)
    (z_list : PySem.W.nsIn K mainGlobals "list" = some none)
    (z_sorted : PySem.W.nsIn K mainGlobals "sorted" = some none)
    (z_isinstance : PySem.W.nsIn K mainGlobals "isinstance" = some none)
    (z_int : PySem.W.nsIn K mainGlobals "int" = some none)
    (z_bool : PySem.W.nsIn K mainGlobals "bool" = some none)
    (z_range : PySem.W.nsIn K mainGlobals "range" = some none)
    (z_max : PySem.W.nsIn K mainGlobals "max" = some none)
    (z_enumerate : PySem.W.nsIn K mainGlobals "enumerate" = some none)
    (z_min : PySem.W.nsIn K mainGlobals "min" = some none)
    (z_zip : PySem.W.nsIn K mainGlobals "zip" = some none)
    : ∃ fd : FuncData, (∀ (s : Shared) (v : Value), BindsTo s fd ⟨[v], []⟩ [("_law_script", v)]) ∧ ∀ base : Heap, K.In base → base.Ns mainGlobals mg → FnOk P w K mg base CX0 8 fa fd ["_law_script"] (spLaw K) := by
  have e := hfa.symm.trans (PySem.W.mg_of X G a18)
  cases e
  have y_len := PySem.W.mg_none_of X G z_len
  have y_list := PySem.W.mg_none_of X G z_list
  have y_sorted := PySem.W.mg_none_of X G z_sorted
  have y_isinstance := PySem.W.mg_none_of X G z_isinstance
  have y_int := PySem.W.mg_none_of X G z_int
  have y_bool := PySem.W.mg_none_of X G z_bool
  have y_range := PySem.W.mg_none_of X G z_range
  have y_max := PySem.W.mg_none_of X G z_max
  have y_enumerate := PySem.W.mg_none_of X G z_enumerate
  have y_min := PySem.W.mg_none_of X G z_min
  have y_zip := PySem.W.mg_none_of X G z_zip
  have D0 := def_mk (st := sInside) (ps := ["key", "low", "high"]) X G a0 l0 c0 k0 (fun _ _ _ _ _ _ us hl => match us, hl with | [_, _, _], _ => rfl)
  have D1 := def_mk (st := sLooked) (ps := ["one", "key", "end"]) X G a1 l1 c1 k1 (fun _ _ _ _ _ _ us hl => match us, hl with | [_, _, _], _ => rfl)
  have D2 := def_mk (st := sOlder) (ps := ["one", "other"]) X G a2 l2 c2 k2 (fun _ _ _ _ _ _ us hl => match us, hl with | [_, _], _ => rfl)
  have D3 := def_mk (st := sNumber) (ps := ["span"]) X G a3 l3 c3 k3 (fun _ _ _ _ _ _ us hl => match us, hl with | [_], _ => rfl)
  have D4 := def_mk (st := sOut) (ps := ["mid", "spans"]) X G a4 l4 c4 k4 (fun _ _ _ _ _ _ us hl => match us, hl with | [_, _], _ => rfl)
  have D5 := def_mk (st := sAbout) (ps := ["one", "mid", "behind"]) X G a5 l5 c5 k5 (fun _ _ _ _ _ _ us hl => match us, hl with | [_, _, _], _ => rfl)
  have D6 := def_mk (st := sClosing) (ps := ["kept", "new"]) X G a6 l6 c6 k6 (fun _ _ _ _ _ _ us hl => match us, hl with | [_, _], _ => rfl)
  have D7 := def_mk (st := sLet) (ps := ["kept", "new"]) X G a7 l7 c7 k7 (fun _ _ _ _ _ _ us hl => match us, hl with | [_, _], _ => rfl)
  have D8 := def_mk (st := sEarly) (ps := ["span", "kept"]) X G a8 l8 c8 k8 (fun _ _ _ _ _ _ us hl => match us, hl with | [_, _], _ => rfl)
  have D9 := def_mk (st := sStand) (ps := ["span", "kept"]) X G a9 l9 c9 k9 (fun _ _ _ _ _ _ us hl => match us, hl with | [_, _], _ => rfl)
  have D10 := def_mk (st := sCell) (ps := ["_law_script", "_law_k"]) X G a10 l10 c10 k10 (fun _ _ _ _ _ _ us hl => match us, hl with | [_, _], _ => rfl)
  have D11 := def_mk (st := sStream) (ps := ["_law_cell_here", "_law_k"]) X G a11 l11 c11 k11 (fun _ _ _ _ _ _ us hl => match us, hl with | [_, _], _ => rfl)
  have D12 := def_mk (st := sLooks) (ps := ["_law_xs", "_law_watched", "_law_begin", "_law_end", "_law_shift"]) X G a12 l12 c12 k12 (fun _ _ _ _ _ _ us hl => match us, hl with | [_, _, _, _, _], _ => rfl)
  have D13 := def_mk (st := sRows) (ps := ["_law_script", "_law_most"]) X G a13 l13 c13 k13 (fun _ _ _ _ _ _ us hl => match us, hl with | [_, _], _ => rfl)
  have D14 := def_mk (st := sLspan) (ps := ["_law_row"]) X G a14 l14 c14 k14 (fun _ _ _ _ _ _ us hl => match us, hl with | [_], _ => rfl)
  have D15 := def_mk (st := sWhole) (ps := ["_law_found"]) X G a15 l15 c15 k15 (fun _ _ _ _ _ _ us hl => match us, hl with | [_], _ => rfl)
  have D16 := def_mk (st := sCome) (ps := ["_law_kept", "_law_new"]) X G a16 l16 c16 k16 (fun _ _ _ _ _ _ us hl => match us, hl with | [_, _], _ => rfl)
  have D17 := def_mk (st := sEdges) (ps := ["_law_one", "_law_other", "_law_moments"]) X G a17 l17 c17 k17 (fun _ _ _ _ _ _ us hl => match us, hl with | [_, _, _], _ => rfl)
  have D18 := def_mk (st := sLaw) (ps := ["_law_script"]) X G a18 l18 c18 k18 (fun _ _ _ _ _ _ us hl => match us, hl with | [_], _ => rfl)
  have T : SpanC K mg C := ⟨⟨pgC, hdC, poC, saC⟩, n_number, n_watched, n_begin, n_end, n_looks, n_puts, PySem.W.mg_of X G aC⟩
  have FI := fun_mk (st := sSpan) lI cI kI
  have bI := FI.binds (ps := ["self", "number", "watched", "begin", "end", "looks", "puts"]) (fun _ _ _ _ _ _ us hl => match us, hl with | [_, _, _, _, _, _, _], _ => rfl)
  have M : Mk K C fI := ⟨mkC, aI, iI, kcC⟩
  have FB := fun_mk (st := sBroken) lB cB kB
  have bB := FB.binds (ps := ["self", "dealing", "why"]) (fun _ _ _ _ _ _ us hl => match us, hl with | [_, _, _], _ => rfl)
  have TB : BrokenC K mg B fB _ := ⟨⟨⟨nm, q, N, bs, bm, sn, sub, ab, col, dd, m0, m1, m2, m3, m5, xB, rB⟩, saB, eB, tB, kcB⟩, n_dea, n_why, PySem.W.mg_of X G aB, iB, tfB, FB, bB, exm_self eB isB tB ssB⟩
  refine ⟨PySem.W.fnOf "law" "law" (defArgs sLaw) (defBody sLaw) (defScope sLaw) .none kV18 dc18 pm18 an18 cd18 ct18, fun s v => .of_eq rfl, fun base _ _ => ?_⟩
  have c_inside := D0.cal (ok_inside (P := P) (w := w) (base := base) D0.fn)
  have c_looked_before := D1.cal (ok_looked D1.fn T c_inside)
  have c_older := D2.cal (ok_older D2.fn T c_looked_before)
  have c_out_of := D4.cal (ok_out D4.fn T c_older)
  have c_about := D5.cal (ok_about D5.fn T c_older)
  have c_closing := D6.cal (ok_closing D6.fn T D3 y_sorted c_out_of c_about)
  have c_let_in := D7.cal (ok_let D7.fn T TB c_closing)
  have c_early := D8.cal (ok_early D8.fn T c_out_of)
  have c_stand_of := D9.cal (ok_stand D9.fn T c_early)
  have c__law_cell := D10.cal (ok_cell (P := P) (w := w) (base := base) D10.fn y_len)
  have c__law_stream := D11.cal (ok_stream (P := P) (w := w) (base := base) D11.fn y_range)
  have c__law_looks := D12.cal (ok_looks (P := P) (w := w) (base := base) D12.fn y_range)
  have c__law_rows := D13.cal (ok_rows D13.fn y_enumerate y_range y_max c__law_cell c__law_stream c__law_looks)
  have c__law_span := D14.cal (ok_lspan (P := P) (w := w) (base := base) D14.fn T y_list M FI bI)
  have c__law_whole := D15.cal (ok_whole (P := P) (w := w) (base := base) D15.fn y_isinstance y_int y_bool)
  have c__law_come := D16.cal (ok_come D16.fn TB y_list c_let_in)
  have c__law_edges := D17.cal (ok_edges (P := P) (w := w) (base := base) D17.fn)
  exact ok_law D18.fn y_len y_min y_zip c__law_rows c__law_come c__law_span c_stand_of c__law_whole c__law_edges
theorem walk {l : PySem.W.OpenLaw} {q : Program} {loose : List Str} {XP : (Str → Option Value) → Heap → Prop} {YP : World → Heap → Prop} {d : DefRec} {K : Params → PySem.W.Frag} (hn : l.most = some 63) (hdf : d.params.defaults = [])
    (hY : ∀ (w : World) (h : Heap), YP w h → (K w.params).In h)
    (F : ∀ (w : World) (mg : Str → Option Value) (fa : Addr) (h : Heap), (K w.params).In h → h.Ns mainGlobals mg → mg d.name = some (.ref fa) →
      ∃ fd : FuncData, (∀ (s : Shared) (u : Value), BindsTo s fd ⟨[u], []⟩ [("_law_script", u)]) ∧ ∀ base : Heap, (K w.params).In base → base.Ns mainGlobals mg → FnOk l.prog w (K w.params) mg base CX0 8 fa fd ["_law_script"] (spLaw (K w.params))) :
    PySem.W.WalkO q loose XP YP l.row.toRowW d [] (fun f vs => PySem.call f vs) :=
  L2.walk_of (n := 63) (k := 8) (x := "_law_script") (CX := fun _ => CX0) (sp := fun w => spLaw (K w.params)) hn (by decide) hdf ⟨rfl, by decide, by decide⟩ hY F (fun _ _ a ns _ _ hS => ⟨a, ns, rfl, hS, fun _ => rfl⟩) fun _ _ _ _ _ z => z
end K37
open PySem PySem.W PyProof.Rows
set_option maxRecDepth 100000 in
set_option maxHeartbeats 0 in
theorem PySem.Challenge.cw_skewhouse_k37_whole_moments_go_forward_holds : PySem.Challenge.rw_skewhouse_k37_whole_moments_go_forward.Holds := by
  w_on; o_law; k_head; (case hw => w_witness2)
  k_fill
  refine K37.walk (l := PySem.Challenge.rw_skewhouse_k37_whole_moments_go_forward) rfl rfl (fun w h Y => PySem.W.kIn_of Y) ?F
  case F =>
    intro w mg fa h KX G hmg
    refine' K37.all_mk KX G hmg ?a0 ?l0 ?c0 ?k0 ?a1 ?l1 ?c1 ?k1 ?a2 ?l2 ?c2 ?k2 ?a3 ?l3 ?c3 ?k3 ?a4 ?l4 ?c4 ?k4 ?a5 ?l5 ?c5 ?k5 ?a6 ?l6 ?c6 ?k6 ?a7 ?l7 ?c7 ?k7 ?a8 ?l8 ?c8 ?k8 ?a9 ?l9 ?c9 ?k9 ?a10 ?l10 ?c10 ?k10 ?a11 ?l11 ?c11 ?k11 ?a12 ?l12 ?c12 ?k12 ?a13 ?l13 ?c13 ?k13 ?a14 ?l14 ?c14 ?k14 ?a15 ?l15 ?c15 ?k15 ?a16 ?l16 ?c16 ?k16 ?a17 ?l17 ?c17 ?k17 ?a18 ?l18 ?c18 ?k18 ?aC ?aI ?iI ?lI ?cI ?kI ?pgC ?hdC ?poC ?saC ?mkC ?kcC ?n_number ?n_watched ?n_begin ?n_end ?n_looks ?n_puts ?aB ?xB ?rB ?saB ?eB ?tB ?kcB ?isB ?ssB ?n_dea ?n_why ?iB ?tfB ?lB ?cB ?kB ?z_len ?z_list ?z_sorted ?z_isinstance ?z_int ?z_bool ?z_range ?z_max ?z_enumerate ?z_min ?z_zip
    (case a0 => k_is)
    (case l0 => k_is)
    (case c0 => k_is)
    (case k0 => k_is)
    (case a1 => k_is)
    (case l1 => k_is)
    (case c1 => k_is)
    (case k1 => k_is)
    (case a2 => k_is)
    (case l2 => k_is)
    (case c2 => k_is)
    (case k2 => k_is)
    (case a3 => k_is)
    (case l3 => k_is)
    (case c3 => k_is)
    (case k3 => k_is)
    (case a4 => k_is)
    (case l4 => k_is)
    (case c4 => k_is)
    (case k4 => k_is)
    (case a5 => k_is)
    (case l5 => k_is)
    (case c5 => k_is)
    (case k5 => k_is)
    (case a6 => k_is)
    (case l6 => k_is)
    (case c6 => k_is)
    (case k6 => k_is)
    (case a7 => k_is)
    (case l7 => k_is)
    (case c7 => k_is)
    (case k7 => k_is)
    (case a8 => k_is)
    (case l8 => k_is)
    (case c8 => k_is)
    (case k8 => k_is)
    (case a9 => k_is)
    (case l9 => k_is)
    (case c9 => k_is)
    (case k9 => k_is)
    (case a10 => k_is)
    (case l10 => k_is)
    (case c10 => k_is)
    (case k10 => k_is)
    (case a11 => k_is)
    (case l11 => k_is)
    (case c11 => k_is)
    (case k11 => k_is)
    (case a12 => k_is)
    (case l12 => k_is)
    (case c12 => k_is)
    (case k12 => k_is)
    (case a13 => k_is)
    (case l13 => k_is)
    (case c13 => k_is)
    (case k13 => k_is)
    (case a14 => k_is)
    (case l14 => k_is)
    (case c14 => k_is)
    (case k14 => k_is)
    (case a15 => k_is)
    (case l15 => k_is)
    (case c15 => k_is)
    (case k15 => k_is)
    (case a16 => k_is)
    (case l16 => k_is)
    (case c16 => k_is)
    (case k16 => k_is)
    (case a17 => k_is)
    (case l17 => k_is)
    (case c17 => k_is)
    (case k17 => k_is)
    (case a18 => k_is)
    (case l18 => k_is)
    (case c18 => k_is)
    (case k18 => k_is)
    (case aC => k_is)
    (case aI => k_is)
    (case iI => k_is)
    (case lI => k_is)
    (case cI => k_is)
    (case kI => k_is)
    (case pgC => k_is)
    (case hdC => k_is)
    (case poC => k_is)
    (case saC => k_is)
    (case mkC => k_is)
    (case kcC => k_is)
    (case n_number => k_is)
    (case n_watched => k_is)
    (case n_begin => k_is)
    (case n_end => k_is)
    (case n_looks => k_is)
    (case n_puts => k_is)
    (case aB => k_is)
    (case xB => k_is)
    (case rB => first | rfl | decide +kernel | k_is)
    (case saB => k_is)
    (case eB => k_is)
    (case tB => k_is)
    (case kcB => k_is)
    (case isB => k_is)
    (case ssB => k_is)
    (case n_dea => k_is)
    (case n_why => k_is)
    (case iB => k_is)
    (case tfB => k_is)
    (case lB => k_is)
    (case cB => k_is)
    (case kB => k_is)
    (case z_len => k_is)
    (case z_list => k_is)
    (case z_sorted => k_is)
    (case z_isinstance => k_is)
    (case z_int => k_is)
    (case z_bool => k_is)
    (case z_range => k_is)
    (case z_max => k_is)
    (case z_enumerate => k_is)
    (case z_min => k_is)
    (case z_zip => k_is)
