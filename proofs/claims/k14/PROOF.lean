import PyProof.Rows.All
import Wide.All
import OpenK.AllK
import Wide.FinOn
import HandS.ForMost
import HandS.OwnEq
import HandS.Deep
import HandS.TupSets
import HandS.IsInst
import HandS.Codes
import HandS.Conv
import HandS.Style
import HandS.Flow
import PySem.Challenge.RW_mappedselves_k14_whole_maps_in_pieces
set_option Elab.async false
set_option linter.all false
set_option maxRecDepth 100000
set_option maxHeartbeats 8000000
namespace K14
abbrev Row := Int × Int × Int
abbrev Prt := Int × Int
/-- where a number leads -/
def Leads (rs : List Row) (x y : Int) : Prop := ∃ r ∈ rs, r.1 ≤ x ∧ x < r.1 + r.2.2 ∧ y = r.2.1 + (x - r.1)
def RR (r s : Row) : Prop := r.1 + r.2.2 ≤ s.1 ∧ ¬ (r.1 + r.2.2 = s.1 ∧ r.2.1 + r.2.2 = s.2.1)
def NF (rs : List Row) : Prop := (∀ r ∈ rs, 1 ≤ r.2.2) ∧ rs.Pairwise RR
def tot (rs : List Row) : Int := (rs.map (·.2.2)).sum
theorem leads_nil (x y : Int) : ¬ Leads [] x y := fun ⟨_, h, _⟩ => nomatch h
theorem leads_cons {r : Row} {rs : List Row} {x y : Int} : Leads (r :: rs) x y ↔ (r.1 ≤ x ∧ x < r.1 + r.2.2 ∧ y = r.2.1 + (x - r.1)) ∨ Leads rs x y := by
  constructor
  · rintro ⟨s, hs, h⟩
    rcases List.mem_cons.mp hs with e | e
    · subst e; exact .inl h
    · exact .inr ⟨s, e, h⟩
  · rintro (h | ⟨s, hs, h⟩)
    · exact ⟨r, List.mem_cons_self, h⟩
    · exact ⟨s, List.mem_cons_of_mem _ hs, h⟩
theorem leads_append {as bs : List Row} {x y : Int} : Leads (as ++ bs) x y ↔ Leads as x y ∨ Leads bs x y := by
  constructor
  · rintro ⟨s, hs, h⟩
    rcases List.mem_append.mp hs with e | e
    · exact .inl ⟨s, e, h⟩
    · exact .inr ⟨s, e, h⟩
  · rintro (⟨s, hs, h⟩ | ⟨s, hs, h⟩)
    · exact ⟨s, List.mem_append_left _ hs, h⟩
    · exact ⟨s, List.mem_append_right _ hs, h⟩
theorem leads_perm {as bs : List Row} (p : as.Perm bs) {x y : Int} : Leads as x y ↔ Leads bs x y :=
  ⟨fun ⟨s, hs, h⟩ => ⟨s, p.mem_iff.mp hs, h⟩, fun ⟨s, hs, h⟩ => ⟨s, p.mem_iff.mpr hs, h⟩⟩
theorem leads_head {r : Row} {rs : List Row} (h : 1 ≤ r.2.2) : Leads (r :: rs) r.1 r.2.1 := leads_cons.mpr (.inl ⟨by omega, by omega, by omega⟩)
theorem leads_mem {r : Row} {rs : List Row} (h : 1 ≤ r.2.2) (m : r ∈ rs) : Leads rs r.1 r.2.1 := ⟨r, m, by omega, by omega, by omega⟩
theorem nf_tail {r : Row} {rs : List Row} (h : NF (r :: rs)) : NF rs := ⟨fun s hs => h.1 s (List.mem_cons_of_mem _ hs), (List.pairwise_cons.mp h.2).2⟩
theorem nf_behind {r : Row} {rs : List Row} (h : NF (r :: rs)) {x y : Int} (l : Leads rs x y) : r.1 + r.2.2 ≤ x := by
  obtain ⟨s, hs, h1, h2, h3⟩ := l
  have q := ((List.pairwise_cons.mp h.2).1 s hs).1
  omega
theorem nf_low {r : Row} {rs : List Row} (h : NF (r :: rs)) {x y : Int} (l : Leads (r :: rs) x y) : r.1 ≤ x := by
  have h1 := h.1 r List.mem_cons_self
  rcases leads_cons.mp l with l | l
  · exact l.1
  · have := nf_behind h l
    omega
theorem nf_fun : ∀ {rs : List Row}, NF rs → ∀ {x y z : Int}, Leads rs x y → Leads rs x z → y = z
  | [], _, x, y, z, h, _ => (leads_nil x y h).elim
  | r :: rs, n, x, y, z, h, h' => by
    rcases leads_cons.mp h with a | a
    · rcases leads_cons.mp h' with b | b
      · omega
      · have := nf_behind n b
        omega
    · rcases leads_cons.mp h' with b | b
      · have := nf_behind n a
        omega
      · exact nf_fun (nf_tail n) a b
/-- the count of the first is no smaller -/
theorem nf_first {i o n m : Int} {as bs : List Row} (ha : NF ((i, o, n) :: as)) (hn : 1 ≤ n) (h : ∀ x y, Leads ((i, o, m) :: bs) x y → Leads ((i, o, n) :: as) x y) : m ≤ n := by
  rcases Int.lt_or_le n m with c | c
  · exfalso
    have l : Leads ((i, o, m) :: bs) (i + n) (o + n) := leads_cons.mpr (.inl ⟨by show i ≤ i + n; omega, by show i + n < i + m; omega, by show o + n = o + (i + n - i); omega⟩)
    rcases leads_cons.mp (h _ _ l) with q | q
    · have : i + n < i + n := q.2.1
      omega
    · obtain ⟨s, hs, h1, h2, h3⟩ := q
      have r := (List.pairwise_cons.mp ha.2).1 s hs
      have r1 : i + n ≤ s.1 := r.1
      have r2 : ¬ (i + n = s.1 ∧ o + n = s.2.1) := r.2
      exact r2 ⟨by omega, by omega⟩
  · exact c
/-- two normal forms that lead alike are one -/
theorem nf_unique : ∀ {as bs : List Row}, NF as → NF bs → (∀ x y, Leads as x y ↔ Leads bs x y) → as = bs
  | [], [], _, _, _ => rfl
  | [], b :: bs, _, nb, h => by
    have := (h _ _).mpr (leads_head (rs := bs) (nb.1 b List.mem_cons_self))
    exact (leads_nil _ _ this).elim
  | a :: as, [], na, _, h => by
    have := (h _ _).mp (leads_head (rs := as) (na.1 a List.mem_cons_self))
    exact (leads_nil _ _ this).elim
  | (i, o, n) :: as, (j, p, m) :: bs, na, nb, h => by
    have hn : 1 ≤ n := na.1 _ List.mem_cons_self
    have hm : 1 ≤ m := nb.1 _ List.mem_cons_self
    have la : Leads ((i, o, n) :: as) i o := leads_head (r := (i, o, n)) hn
    have lb : Leads ((j, p, m) :: bs) j p := leads_head (r := (j, p, m)) hm
    have e1 : j ≤ i := nf_low nb ((h _ _).mp la)
    have e2 : i ≤ j := nf_low na ((h _ _).mpr lb)
    have e : i = j := by omega
    subst e
    have e3 : o = p := nf_fun nb ((h _ _).mp la) lb
    subst e3
    have c1 : m ≤ n := nf_first na hn fun x y l => (h x y).mpr l
    have c2 : n ≤ m := nf_first nb hm fun x y l => (h x y).mp l
    have e4 : n = m := by omega
    subst e4
    have et : as = bs := nf_unique (nf_tail na) (nf_tail nb) fun x y => by
      constructor
      · intro l
        have q : i + n ≤ x := nf_behind na l
        rcases leads_cons.mp ((h x y).mp (leads_cons.mpr (.inr l))) with z | z
        · have z2 : x < i + n := z.2.1
          omega
        · exact z
      · intro l
        have q : i + n ≤ x := nf_behind nb l
        rcases leads_cons.mp ((h x y).mpr (leads_cons.mpr (.inr l))) with z | z
        · have z2 : x < i + n := z.2.1
          omega
        · exact z
    rw [et]

/-! ### gluing ascending rows -/
def step (acc : List Row) (r : Row) : List Row :=
  match acc.getLast? with
  | some l => if r.1 = l.1 + l.2.2 ∧ r.2.1 = l.2.1 + l.2.2 then acc.dropLast ++ [(l.1, l.2.1, l.2.2 + r.2.2)] else acc ++ [r]
  | none => acc ++ [r]
theorem step_nil (r : Row) : step [] r = [r] := rfl
theorem step_snoc (init : List Row) (l r : Row) : step (init ++ [l]) r = if r.1 = l.1 + l.2.2 ∧ r.2.1 = l.2.1 + l.2.2 then init ++ [(l.1, l.2.1, l.2.2 + r.2.2)] else init ++ [l] ++ [r] := by
  unfold step
  rw [List.getLast?_append]
  simp
theorem snoc_cases {α : Type} (l : List α) : l = [] ∨ ∃ init x, l = init ++ [x] := by
  rcases List.eq_nil_or_concat l with h | ⟨init, x, h⟩
  · exact .inl h
  · exact .inr ⟨init, x, by rw [h] <;> simp⟩
theorem tot_append (as bs : List Row) : tot (as ++ bs) = tot as + tot bs := by
  unfold tot
  rw [List.map_append, List.sum_append]
theorem tot_one (r : Row) : tot [r] = r.2.2 := by
  unfold tot
  simp
theorem tot_cons (r : Row) (rs : List Row) : tot (r :: rs) = r.2.2 + tot rs := by
  unfold tot
  simp
theorem tot_perm {as bs : List Row} (p : as.Perm bs) : tot as = tot bs := by
  induction p with
  | nil => rfl
  | cons x _ ih => rw [tot_cons, tot_cons, ih]
  | swap x y l => simp only [tot_cons]; omega
  | trans _ _ h1 h2 => rw [h1, h2]
theorem step_ok {acc : List Row} {r : Row} (n : NF acc) (hr : 1 ≤ r.2.2) (ha : ∀ a ∈ acc, a.1 + a.2.2 ≤ r.1) :
    NF (step acc r) ∧ (∀ x y, Leads (step acc r) x y ↔ Leads acc x y ∨ Leads [r] x y) ∧ (∀ a ∈ step acc r, a.1 + a.2.2 ≤ r.1 + r.2.2) ∧ (step acc r).length ≤ acc.length + 1 ∧ tot (step acc r) = tot acc + r.2.2 := by
  rcases snoc_cases acc with e | ⟨init, l, e⟩
  · subst e
    rw [step_nil]
    refine ⟨⟨fun s hs => ?_, by simp⟩, fun x y => ?_, fun a h => ?_, by simp, by simp [tot]⟩
    · rw [List.mem_singleton] at hs; subst hs; exact hr
    · constructor
      · exact .inr
      · rintro (h | h)
        · exact (leads_nil _ _ h).elim
        · exact h
    · rw [List.mem_singleton] at h; subst h; omega
  · subst e
    rw [step_snoc]
    have hl : 1 ≤ l.2.2 := n.1 l (by simp)
    have hal : l.1 + l.2.2 ≤ r.1 := ha l (by simp)
    have pw := List.pairwise_append.mp n.2
    have pil : ∀ a ∈ init, RR a l := fun a h => pw.2.2 a h l (by simp)
    by_cases c : r.1 = l.1 + l.2.2 ∧ r.2.1 = l.2.1 + l.2.2
    · rw [if_pos c]
      refine ⟨⟨fun s hs => ?_, List.pairwise_append.mpr ⟨pw.1, by simp, fun a h b hb => ?_⟩⟩, fun x y => ?_, fun a h => ?_, by simp, ?_⟩
      · rcases List.mem_append.mp hs with h | h
        · exact n.1 s (List.mem_append_left _ h)
        · rw [List.mem_singleton] at h; subst h; show 1 ≤ l.2.2 + r.2.2; omega
      · rw [List.mem_singleton] at hb
        subst hb
        exact pil a h
      · rw [leads_append, leads_append, leads_cons, leads_cons, leads_cons]
        have z : ¬ Leads [] x y := leads_nil x y
        constructor
        · rintro (h | ⟨h1, h2, h3⟩ | h)
          · exact .inl (.inl h)
          · have h1 : l.1 ≤ x := h1
            have h2 : x < l.1 + (l.2.2 + r.2.2) := h2
            have h3 : y = l.2.1 + (x - l.1) := h3
            rcases Int.lt_or_le x (l.1 + l.2.2) with q | q
            · exact .inl (.inr (.inl ⟨h1, q, h3⟩))
            · exact .inr (.inl ⟨by omega, by omega, by omega⟩)
          · exact (z h).elim
        · rintro ((h | ⟨h1, h2, h3⟩ | h) | ⟨h1, h2, h3⟩ | h)
          · exact .inl h
          · refine .inr (.inl ⟨h1, ?_, h3⟩)
            show x < l.1 + (l.2.2 + r.2.2)
            omega
          · exact (z h).elim
          · refine .inr (.inl ⟨?_, ?_, ?_⟩)
            · show l.1 ≤ x; omega
            · show x < l.1 + (l.2.2 + r.2.2); omega
            · show y = l.2.1 + (x - l.1); omega
          · exact (z h).elim
      · rcases List.mem_append.mp h with h | h
        · have := ha a (List.mem_append_left _ h); omega
        · rw [List.mem_singleton] at h; subst h; show l.1 + (l.2.2 + r.2.2) ≤ _; omega
      · simp only [tot_append, tot_one]
        omega
    · rw [if_neg c]
      refine ⟨⟨fun s hs => ?_, List.pairwise_append.mpr ⟨n.2, by simp, fun a h b hb => ?_⟩⟩, fun x y => leads_append, fun a h => ?_, by simp, by simp only [tot_append, tot_one]⟩
      · rcases List.mem_append.mp hs with h | h
        · exact n.1 s h
        · rw [List.mem_singleton] at h; subst h; exact hr
      · rw [List.mem_singleton] at hb
        subst hb
        refine ⟨ha a h, ?_⟩
        rcases List.mem_append.mp h with h | h
        · have q := (pil a h).1
          omega
        · rw [List.mem_singleton] at h; subst h
          exact fun q => c ⟨q.1.symm, q.2.symm⟩
      · rcases List.mem_append.mp h with h | h
        · have := ha a h; omega
        · rw [List.mem_singleton] at h; subst h; omega
def Asc (rs : List Row) : Prop := (∀ r ∈ rs, 1 ≤ r.2.2) ∧ rs.Pairwise (fun r s => r.1 + r.2.2 ≤ s.1)
theorem glue_inv : ∀ (rest acc : List Row), NF acc → Asc rest → (∀ a ∈ acc, ∀ r ∈ rest, a.1 + a.2.2 ≤ r.1) →
    NF (rest.foldl step acc) ∧ (∀ x y, Leads (rest.foldl step acc) x y ↔ Leads acc x y ∨ Leads rest x y) ∧ (rest.foldl step acc).length ≤ acc.length + rest.length ∧ tot (rest.foldl step acc) = tot acc + tot rest
  | [], acc, n, _, _ => ⟨n, fun x y => ⟨.inl, fun h => h.elim id fun h => (leads_nil x y h).elim⟩, by simp, by simp [tot]⟩
  | r :: rest, acc, n, a, h => by
    obtain ⟨n1, l1, e1, k1, t1⟩ := step_ok n (a.1 r List.mem_cons_self) fun b hb => h b hb r List.mem_cons_self
    have pw := List.pairwise_cons.mp a.2
    obtain ⟨n2, l2, k2, t2⟩ := glue_inv rest (step acc r) n1 ⟨fun s hs => a.1 s (List.mem_cons_of_mem _ hs), pw.2⟩ fun b hb s hs => by
      have := e1 b hb
      have := pw.1 s hs
      omega
    refine ⟨n2, fun x y => ?_, ?_, ?_⟩
    · show Leads (rest.foldl step (step acc r)) x y ↔ _
      rw [l2, l1, leads_cons, leads_cons]
      have z := leads_nil x y
      constructor
      · rintro ((h | h | h) | h)
        · exact .inl h
        · exact .inr (.inl h)
        · exact (z h).elim
        · exact .inr (.inr h)
      · rintro (h | h | h)
        · exact .inl (.inl h)
        · exact .inl (.inr (.inl h))
        · exact .inr h
    · show (rest.foldl step (step acc r)).length ≤ acc.length + (rest.length + 1)
      omega
    · show tot (rest.foldl step (step acc r)) = _
      rw [t2, t1, tot_cons]
      omega
def glue (rs : List Row) : List Row := rs.foldl step []
theorem nf0 : NF [] := ⟨fun _ h => (List.not_mem_nil h).elim, List.Pairwise.nil⟩
theorem pw_any {α : Type} {R : α → α → Prop} (sy : ∀ a b, R a b → R b a) : ∀ {l : List α}, l.Pairwise R → ∀ {a b : α}, a ∈ l → b ∈ l → a ≠ b → R a b
  | [], _, a, b, ha, _, _ => (List.not_mem_nil ha).elim
  | x :: l, h, a, b, ha, hb, ne => by
    have q := List.pairwise_cons.mp h
    rcases List.mem_cons.mp ha with e | ma
    · rcases List.mem_cons.mp hb with e' | mb
      · exact (ne (e.trans e'.symm)).elim
      · rw [e]; exact q.1 b mb
    · rcases List.mem_cons.mp hb with e' | mb
      · rw [e']; exact sy _ _ (q.1 a ma)
      · exact pw_any sy q.2 ma mb ne
/-- qs is the normal form of rs -/
structure IsNF (rs qs : List Row) : Prop where
  nf : NF qs
  ld : ∀ x y, Leads qs x y ↔ Leads rs x y
  len : qs.length ≤ rs.length
  tt : tot qs = tot rs
theorem glue_ok {rs : List Row} (a : Asc rs) : IsNF rs (glue rs) := by
  obtain ⟨h1, h2, h3, h4⟩ := glue_inv rs [] nf0 a fun _ h => (List.not_mem_nil h).elim
  refine ⟨h1, fun x y => ?_, ?_, by rw [show glue rs = rs.foldl step [] from rfl, h4]; simp [tot]⟩
  case refine_2 =>
    rw [List.length_nil, Nat.zero_add] at h3
    exact h3
  rw [show glue rs = rs.foldl step [] from rfl, h2]
  exact ⟨fun h => h.elim (fun h => (leads_nil x y h).elim) id, .inr⟩
theorem IsNF.perm {rs ss qs : List Row} (h : IsNF rs qs) (p : rs.Perm ss) : IsNF ss qs :=
  ⟨h.nf, fun x y => (h.ld x y).trans (leads_perm p), by rw [← p.length_eq]; exact h.len, by rw [h.tt, tot_perm p]⟩
theorem IsNF.same {rs ss qs ps : List Row} (h : IsNF rs qs) (k : IsNF ss ps) (e : ∀ x y, Leads rs x y ↔ Leads ss x y) : qs = ps :=
  nf_unique h.nf k.nf fun x y => (h.ld x y).trans ((e x y).trans (k.ld x y).symm)

/-! ### maps -/
def Apart (p q : Prt) : Prop := p.1 + p.2 ≤ q.1 ∨ q.1 + q.2 ≤ p.1
def insP (r : Row) : Prt := (r.1, r.2.2)
def outP (r : Row) : Prt := (r.2.1, r.2.2)
def TOP : Int := 4294967295
def RunOk (f n : Int) : Prop := 0 ≤ f ∧ f < TOP ∧ 1 ≤ n ∧ n ≤ TOP - f
def RowOk (r : Row) : Prop := RunOk r.1 r.2.2 ∧ RunOk r.2.1 r.2.2
structure VM (rs : List Row) : Prop where
  ok : ∀ r ∈ rs, RowOk r
  ins : (rs.map insP).Pairwise Apart
  out : (rs.map outP).Pairwise Apart
theorem apart_symm {p q : Prt} (h : Apart p q) : Apart q p := h.symm
theorem VM.perm {rs ss : List Row} (h : VM rs) (p : rs.Perm ss) : VM ss :=
  ⟨fun r hr => h.ok r (p.mem_iff.mpr hr), (List.Perm.pairwise_iff (fun {_ _} => apart_symm) (p.map insP)).mp h.ins, (List.Perm.pairwise_iff (fun {_ _} => apart_symm) (p.map outP)).mp h.out⟩
theorem VM.pos {rs : List Row} (h : VM rs) {r : Row} (hr : r ∈ rs) : 1 ≤ r.2.2 := (h.ok r hr).1.2.2.1
/-- sorted parts that are apart ascend -/
theorem asc_parts {ps : List Prt} (hp : ∀ p ∈ ps, 1 ≤ p.2) (ha : ps.Pairwise Apart) (hs : ps.Pairwise (fun p q => p.1 ≤ q.1)) : ps.Pairwise (fun p q => p.1 + p.2 ≤ q.1) := by
  refine (ha.and hs).imp_of_mem fun {p q} mp mq h => ?_
  have h1 := hp p mp
  have h2 := hp q mq
  rcases h.1 with c | c
  · exact c
  · have := h.2
    omega
theorem asc_rows {rs : List Row} (h : VM rs) (hs : rs.Pairwise (fun p q => p.1 ≤ q.1)) : Asc rs := by
  refine ⟨fun r hr => h.pos hr, ?_⟩
  have q := asc_parts (ps := rs.map insP) (fun p hp => by
    obtain ⟨r, hr, e⟩ := List.mem_map.mp hp
    subst e
    exact h.pos hr) h.ins (List.pairwise_map.mpr hs)
  exact List.pairwise_map.mp q
/-- in_order -/
theorem order_ok {rs ss : List Row} (h : VM rs) (p : ss.Perm rs) (hs : ss.Pairwise (fun p q => p.1 ≤ q.1)) : IsNF rs (glue ss) :=
  (glue_ok (asc_rows (h.perm p.symm) hs)).perm p
theorem VM.fn {rs : List Row} (h : VM rs) {x y z : Int} (a : Leads rs x y) (b : Leads rs x z) : y = z := by
  obtain ⟨r, hr, h1, h2, h3⟩ := a
  obtain ⟨s, hs, k1, k2, k3⟩ := b
  by_cases e : r = s
  · subst e; omega
  · exfalso
    have pw : rs.Pairwise (fun r s => Apart (insP r) (insP s)) := List.pairwise_map.mp h.ins
    have q := pw_any (fun _ _ => apart_symm) pw hr hs e
    rcases q with q | q
    · have q : r.1 + r.2.2 ≤ s.1 := q
      omega
    · have q : s.1 + s.2.2 ≤ r.1 := q
      omega
theorem VM.inj {rs : List Row} (h : VM rs) {x x' y : Int} (a : Leads rs x y) (b : Leads rs x' y) : x = x' := by
  obtain ⟨r, hr, h1, h2, h3⟩ := a
  obtain ⟨s, hs, k1, k2, k3⟩ := b
  by_cases e : r = s
  · subst e; omega
  · exfalso
    have pw : rs.Pairwise (fun r s => Apart (outP r) (outP s)) := List.pairwise_map.mp h.out
    have q := pw_any (fun _ _ => apart_symm) pw hr hs e
    rcases q with q | q
    · have q : r.2.1 + r.2.2 ≤ s.2.1 := q
      omega
    · have q : s.2.1 + s.2.2 ≤ r.2.1 := q
      omega
/-- the normal form of a map is a map -/
theorem VM.nf {rs qs : List Row} (h : VM rs) (k : IsNF rs qs) : VM qs := by
  have row : ∀ r ∈ qs, RowOk r := fun r hr => by
    have p := k.nf.1 r hr
    have a : Leads rs r.1 r.2.1 := (k.ld _ _).mp ⟨r, hr, by omega, by omega, by omega⟩
    have b : Leads rs (r.1 + r.2.2 - 1) (r.2.1 + r.2.2 - 1) := (k.ld _ _).mp ⟨r, hr, by omega, by omega, by omega⟩
    obtain ⟨s, hs, a1, a2, a3⟩ := a
    obtain ⟨t, ht, b1, b2, b3⟩ := b
    obtain ⟨⟨c1, c2, c3, c4⟩, c5, c6, c7, c8⟩ := h.ok s hs
    obtain ⟨⟨d1, d2, d3, d4⟩, d5, d6, d7, d8⟩ := h.ok t ht
    exact ⟨⟨by omega, by omega, by omega, by omega⟩, by omega, by omega, by omega, by omega⟩
  refine ⟨row, ?_, ?_⟩
  · exact List.pairwise_map.mpr (k.nf.2.imp fun q => .inl q.1)
  · refine List.pairwise_map.mpr (k.nf.2.imp_of_mem fun {r s} hr hs q => ?_)
    have p := k.nf.1 r hr
    have p' := k.nf.1 s hs
    show r.2.1 + r.2.2 ≤ s.2.1 ∨ s.2.1 + s.2.2 ≤ r.2.1
    rcases Int.lt_or_le s.2.1 (r.2.1 + r.2.2) with c | c
    · rcases Int.lt_or_le r.2.1 (s.2.1 + s.2.2) with d | d
      · exfalso
        have q1 := q.1
        rcases Int.le_total r.2.1 s.2.1 with m | m
        · have a : Leads rs (r.1 + (s.2.1 - r.2.1)) s.2.1 := (k.ld _ _).mp ⟨r, hr, by omega, by omega, by omega⟩
          have b : Leads rs s.1 s.2.1 := (k.ld _ _).mp ⟨s, hs, by omega, by omega, by omega⟩
          have := h.inj a b
          omega
        · have a : Leads rs r.1 r.2.1 := (k.ld _ _).mp ⟨r, hr, by omega, by omega, by omega⟩
          have b : Leads rs (s.1 + (r.2.1 - s.2.1)) r.2.1 := (k.ld _ _).mp ⟨s, hs, by omega, by omega, by omega⟩
          have := h.inj a b
          omega
      · exact .inr d
    · exact .inl c

/-! ### sets -/
def InP (ps : List Prt) (x : Int) : Prop := ∃ p ∈ ps, p.1 ≤ x ∧ x < p.1 + p.2
def idr (p : Prt) : Row := (p.1, p.1, p.2)
theorem idr_inj {p q : Prt} (h : idr p = idr q) : p = q := by
  have h1 : p.1 = q.1 := congrArg (·.1) h
  have h2 : p.2 = q.2 := congrArg (·.2.2) h
  exact Prod.ext h1 h2
theorem idr_map_inj : ∀ {ps qs : List Prt}, ps.map idr = qs.map idr → ps = qs
  | [], [], _ => rfl
  | [], _ :: _, h => by simp at h
  | _ :: _, [], h => by simp at h
  | p :: ps, q :: qs, h => by
    rw [List.map_cons, List.map_cons] at h
    injection h with h1 h2
    rw [idr_inj h1, idr_map_inj h2]
theorem leads_idr {ps : List Prt} {x y : Int} : Leads (ps.map idr) x y ↔ InP ps x ∧ y = x := by
  constructor
  · rintro ⟨r, hr, h1, h2, h3⟩
    obtain ⟨p, hp, e⟩ := List.mem_map.mp hr
    subst e
    have h1 : p.1 ≤ x := h1
    have h2 : x < p.1 + p.2 := h2
    have h3 : y = p.1 + (x - p.1) := h3
    exact ⟨⟨p, hp, h1, h2⟩, by omega⟩
  · rintro ⟨⟨p, hp, h1, h2⟩, e⟩
    refine ⟨idr p, List.mem_map_of_mem hp, h1, h2, ?_⟩
    show y = p.1 + (x - p.1)
    omega
def IsNS (ps qs : List Prt) : Prop := IsNF (ps.map idr) (qs.map idr)
theorem IsNS.same {ps qs ps' qs' : List Prt} (h : IsNS ps qs) (k : IsNS ps' qs') (e : ∀ x, InP ps x ↔ InP ps' x) : qs = qs' :=
  idr_map_inj (IsNF.same h k fun x y => by rw [leads_idr, leads_idr, e x])
def stepS (acc : List Prt) (p : Prt) : List Prt :=
  match acc.getLast? with
  | some l => if p.1 ≤ l.1 + l.2 then acc.dropLast ++ [(l.1, if l.2 < p.1 + p.2 - l.1 then p.1 + p.2 - l.1 else l.2)] else acc ++ [p]
  | none => acc ++ [p]
theorem stepS_nil (p : Prt) : stepS [] p = [p] := rfl
theorem stepS_snoc (init : List Prt) (l p : Prt) : stepS (init ++ [l]) p = if p.1 ≤ l.1 + l.2 then init ++ [(l.1, if l.2 < p.1 + p.2 - l.1 then p.1 + p.2 - l.1 else l.2)] else init ++ [l] ++ [p] := by
  unfold stepS
  rw [List.getLast?_append]
  simp
theorem stepS_idr {acc : List Prt} {p : Prt} (hp : 1 ≤ p.2) (ha : ∀ a ∈ acc, a.1 + a.2 ≤ p.1) : (stepS acc p).map idr = step (acc.map idr) (idr p) := by
  rcases snoc_cases acc with e | ⟨init, l, e⟩
  · subst e; rfl
  · subst e
    have h := ha l (by simp)
    rw [stepS_snoc, List.map_append, List.map_singleton, step_snoc]
    by_cases c : p.1 ≤ l.1 + l.2
    · have e1 : p.1 = l.1 + l.2 := by omega
      have e2 : (idr p).1 = (idr l).1 + (idr l).2.2 ∧ (idr p).2.1 = (idr l).2.1 + (idr l).2.2 := ⟨e1, e1⟩
      have e3 : l.2 < p.1 + p.2 - l.1 := by omega
      rw [if_pos c, if_pos e2, if_pos e3, List.map_append, List.map_singleton]
      have e4 : idr (l.1, p.1 + p.2 - l.1) = ((idr l).1, (idr l).2.1, (idr l).2.2 + (idr p).2.2) := by
        show (l.1, l.1, p.1 + p.2 - l.1) = (l.1, l.1, l.2 + p.2)
        rw [show p.1 + p.2 - l.1 = l.2 + p.2 by omega]
      rw [e4]
    · have e2 : ¬ ((idr p).1 = (idr l).1 + (idr l).2.2 ∧ (idr p).2.1 = (idr l).2.1 + (idr l).2.2) := fun q => c (by
        have q1 : p.1 = l.1 + l.2 := q.1
        omega)
      rw [if_neg c, if_neg e2]
      simp
theorem foldS_idr : ∀ (rest acc : List Prt), (∀ p ∈ rest, 1 ≤ p.2) → rest.Pairwise (fun p q => p.1 + p.2 ≤ q.1) → (∀ a ∈ acc, ∀ p ∈ rest, a.1 + a.2 ≤ p.1) → (rest.foldl stepS acc).map idr = (rest.map idr).foldl step (acc.map idr)
  | [], acc, _, _, _ => rfl
  | p :: rest, acc, h1, h2, h3 => by
    have pw := List.pairwise_cons.mp h2
    have hp := h1 p List.mem_cons_self
    have ha : ∀ a ∈ acc, a.1 + a.2 ≤ p.1 := fun a h => h3 a h p List.mem_cons_self
    have e := stepS_idr hp ha
    show (rest.foldl stepS (stepS acc p)).map idr = (rest.map idr).foldl step (step (acc.map idr) (idr p))
    rw [foldS_idr rest (stepS acc p) (fun q hq => h1 q (List.mem_cons_of_mem _ hq)) pw.2 (fun a h q hq => ?_), e]
    have hpq := pw.1 q hq
    rcases snoc_cases acc with z | ⟨init, l, z⟩
    · subst z
      rw [stepS_nil, List.mem_singleton] at h
      subst h
      exact hpq
    · subst z
      have hl := ha l (by simp)
      rw [stepS_snoc] at h
      by_cases c : p.1 ≤ l.1 + l.2
      · rw [if_pos c, if_pos (show l.2 < p.1 + p.2 - l.1 by omega)] at h
        rcases List.mem_append.mp h with h | h
        · exact h3 a (List.mem_append_left _ h) q (List.mem_cons_of_mem _ hq)
        · rw [List.mem_singleton] at h; subst h
          show l.1 + (p.1 + p.2 - l.1) ≤ q.1
          omega
      · rw [if_neg c] at h
        rcases List.mem_append.mp h with h | h
        · exact h3 a h q (List.mem_cons_of_mem _ hq)
        · rw [List.mem_singleton] at h; subst h
          exact hpq
structure PM (ps : List Prt) : Prop where
  pos : ∀ p ∈ ps, 1 ≤ p.2
  ap : ps.Pairwise Apart
/-- joined -/
theorem joined_ok {ps ss : List Prt} (h : PM ps) (p : ss.Perm ps) (hs : ss.Pairwise (fun p q => p.1 ≤ q.1)) : IsNS ps (ss.foldl stepS []) := by
  have pos : ∀ q ∈ ss, 1 ≤ q.2 := fun q hq => h.pos q (p.mem_iff.mp hq)
  have asc := asc_parts pos ((List.Perm.pairwise_iff (fun {_ _} => apart_symm) p.symm).mp h.ap) hs
  have e := foldS_idr ss [] pos asc fun _ h => (List.not_mem_nil h).elim
  have g : IsNF (ss.map idr) (glue (ss.map idr)) := glue_ok ⟨fun r hr => by
    obtain ⟨q, hq, z⟩ := List.mem_map.mp hr
    subst z
    exact pos q hq, List.pairwise_map.mpr asc⟩
  show IsNF (ps.map idr) ((ss.foldl stepS []).map idr)
  rw [e]
  exact g.perm (p.map idr)
theorem VM.pmIn {rs : List Row} (h : VM rs) : PM (rs.map insP) := ⟨fun p hp => by
  obtain ⟨r, hr, e⟩ := List.mem_map.mp hp
  subst e
  exact h.pos hr, h.ins⟩
theorem VM.pmOut {rs : List Row} (h : VM rs) : PM (rs.map outP) := ⟨fun p hp => by
  obtain ⟨r, hr, e⟩ := List.mem_map.mp hp
  subst e
  exact h.pos hr, h.out⟩
theorem inP_ins {rs : List Row} {x : Int} : InP (rs.map insP) x ↔ ∃ y, Leads rs x y := by
  constructor
  · rintro ⟨p, hp, h1, h2⟩
    obtain ⟨r, hr, e⟩ := List.mem_map.mp hp
    subst e
    exact ⟨r.2.1 + (x - r.1), r, hr, h1, h2, rfl⟩
  · rintro ⟨y, r, hr, h1, h2, h3⟩
    exact ⟨insP r, List.mem_map_of_mem hr, h1, h2⟩
theorem inP_out {rs : List Row} {y : Int} : InP (rs.map outP) y ↔ ∃ x, Leads rs x y := by
  constructor
  · rintro ⟨p, hp, h1, h2⟩
    obtain ⟨r, hr, e⟩ := List.mem_map.mp hp
    subst e
    have h1 : r.2.1 ≤ y := h1
    have h2 : y < r.2.1 + r.2.2 := h2
    exact ⟨r.1 + (y - r.2.1), r, hr, by omega, by omega, by omega⟩
  · rintro ⟨x, r, hr, h1, h2, h3⟩
    refine ⟨outP r, List.mem_map_of_mem hr, ?_, ?_⟩
    · show r.2.1 ≤ y; omega
    · show y < r.2.1 + r.2.2; omega
theorem inP_perm {ps qs : List Prt} (p : ps.Perm qs) (x : Int) : InP ps x ↔ InP qs x :=
  ⟨fun ⟨s, hs, h⟩ => ⟨s, p.mem_iff.mp hs, h⟩, fun ⟨s, hs, h⟩ => ⟨s, p.mem_iff.mpr hs, h⟩⟩
theorem inP_insNF {rs qs : List Row} (h : IsNF rs qs) (x : Int) : InP (qs.map insP) x ↔ InP (rs.map insP) x := by
  rw [inP_ins, inP_ins]
  exact ⟨fun ⟨y, l⟩ => ⟨y, (h.ld x y).mp l⟩, fun ⟨y, l⟩ => ⟨y, (h.ld x y).mpr l⟩⟩
theorem inP_outNF {rs qs : List Row} (h : IsNF rs qs) (y : Int) : InP (qs.map outP) y ↔ InP (rs.map outP) y := by
  rw [inP_out, inP_out]
  exact ⟨fun ⟨x, l⟩ => ⟨x, (h.ld x y).mp l⟩, fun ⟨x, l⟩ => ⟨x, (h.ld x y).mpr l⟩⟩

/-! ### the law's pieces -/
/-- L is a form of the map rs -/
structure Form (rs L : List Row) : Prop where
  vm : VM L
  ld : ∀ x y, Leads L x y ↔ Leads rs x y
theorem Form.self {rs : List Row} (h : VM rs) : Form rs rs := ⟨h, fun _ _ => Iff.rfl⟩
theorem Form.perm {rs L M : List Row} (h : Form rs L) (p : L.Perm M) : Form rs M := ⟨h.vm.perm p, fun x y => (leads_perm p).symm.trans (h.ld x y)⟩
theorem vm_cut {a b m k : Int} {Y : List Row} (h : VM ((a, b, m) :: Y)) (h0 : 0 < k) (h1 : k < m) : VM ((a, b, k) :: (a + k, b + k, m - k) :: Y) := by
  obtain ⟨⟨o1, o2, o3, o4⟩, o5, o6, o7, o8⟩ := h.ok (a, b, m) List.mem_cons_self
  have i1 := h.ins
  have i2 := h.out
  rw [List.map_cons, List.pairwise_cons] at i1 i2
  refine ⟨fun r hr => ?_, ?_, ?_⟩
  · rcases List.mem_cons.mp hr with e | hr
    · subst e
      refine ⟨⟨o1, o2, ?_, ?_⟩, o5, o6, ?_, ?_⟩
      · show 1 ≤ k; omega
      · show k ≤ TOP - a
        have o4 : m ≤ TOP - a := o4
        omega
      · show 1 ≤ k; omega
      · show k ≤ TOP - b
        have o8 : m ≤ TOP - b := o8
        omega
    · rcases List.mem_cons.mp hr with e | hr
      · subst e
        have o1 : 0 ≤ a := o1
        have o5 : 0 ≤ b := o5
        have o4 : m ≤ TOP - a := o4
        have o8 : m ≤ TOP - b := o8
        refine ⟨⟨?_, ?_, ?_, ?_⟩, ?_, ?_, ?_, ?_⟩
        · show 0 ≤ a + k; omega
        · show a + k < TOP; omega
        · show 1 ≤ m - k; omega
        · show m - k ≤ TOP - (a + k); omega
        · show 0 ≤ b + k; omega
        · show b + k < TOP; omega
        · show 1 ≤ m - k; omega
        · show m - k ≤ TOP - (b + k); omega
      · exact h.ok r (List.mem_cons_of_mem _ hr)
  · rw [List.map_cons, List.map_cons, List.pairwise_cons, List.pairwise_cons]
    refine ⟨fun q hq => ?_, fun q hq => ?_, i1.2⟩
    · rcases List.mem_cons.mp hq with e | hq
      · subst e
        refine Or.inl ?_
        show a + k ≤ a + k
        exact Int.le_refl _
      · rcases i1.1 q hq with c | c
        · have c : a + m ≤ q.1 := c
          refine Or.inl ?_
          show a + k ≤ q.1
          omega
        · exact Or.inr c
    · rcases i1.1 q hq with c | c
      · have c : a + m ≤ q.1 := c
        refine Or.inl ?_
        show a + k + (m - k) ≤ q.1
        omega
      · have c : q.1 + q.2 ≤ a := c
        refine Or.inr ?_
        show q.1 + q.2 ≤ a + k
        omega
  · rw [List.map_cons, List.map_cons, List.pairwise_cons, List.pairwise_cons]
    refine ⟨fun q hq => ?_, fun q hq => ?_, i2.2⟩
    · rcases List.mem_cons.mp hq with e | hq
      · subst e
        refine Or.inl ?_
        show b + k ≤ b + k
        exact Int.le_refl _
      · rcases i2.1 q hq with c | c
        · have c : b + m ≤ q.1 := c
          refine Or.inl ?_
          show b + k ≤ q.1
          omega
        · exact Or.inr c
    · rcases i2.1 q hq with c | c
      · have c : b + m ≤ q.1 := c
        refine Or.inl ?_
        show b + k + (m - k) ≤ q.1
        omega
      · have c : q.1 + q.2 ≤ b := c
        refine Or.inr ?_
        show q.1 + q.2 ≤ b + k
        omega
theorem leads_cut {a b m k : Int} {Y : List Row} (h0 : 0 < k) (h1 : k < m) (x y : Int) : Leads ((a, b, k) :: (a + k, b + k, m - k) :: Y) x y ↔ Leads ((a, b, m) :: Y) x y := by
  rw [leads_cons, leads_cons, leads_cons]
  show (a ≤ x ∧ x < a + k ∧ y = b + (x - a)) ∨ (a + k ≤ x ∧ x < a + k + (m - k) ∧ y = b + k + (x - (a + k))) ∨ Leads Y x y ↔ (a ≤ x ∧ x < a + m ∧ y = b + (x - a)) ∨ Leads Y x y
  constructor
  · rintro (h | h | h)
    · exact .inl ⟨by omega, by omega, by omega⟩
    · exact .inl ⟨by omega, by omega, by omega⟩
    · exact .inr h
  · rintro (h | h)
    · rcases Int.lt_or_le x (a + k) with c | c
      · exact .inl ⟨by omega, by omega, by omega⟩
      · exact .inr (.inl ⟨by omega, by omega, by omega⟩)
    · exact .inr (.inr h)
theorem perm_mid {α : Type} (X Y : List α) (a : α) : (X ++ a :: Y).Perm (a :: (X ++ Y)) := List.perm_middle
/-- a cut -/
theorem Form.cut {rs X Y : List Row} {a b m k : Int} (h : Form rs (X ++ (a, b, m) :: Y)) (h0 : 0 < k) (h1 : k < m) : Form rs ((X ++ [(a, b, k)]) ++ (a + k, b + k, m - k) :: Y) := by
  have f := h.perm (perm_mid X Y _)
  have g : Form rs ((a, b, k) :: (a + k, b + k, m - k) :: (X ++ Y)) := ⟨vm_cut f.vm h0 h1, fun x y => (leads_cut h0 h1 x y).trans (f.ld x y)⟩
  refine g.perm ?_
  have p1 : ((a + k, b + k, m - k) :: (X ++ Y)).Perm (X ++ (a + k, b + k, m - k) :: Y) := (perm_mid X Y _).symm
  have p2 := (p1.cons (a, b, k)).trans (perm_mid X ((a + k, b + k, m - k) :: Y) (a, b, k)).symm
  rw [List.append_assoc]
  exact p2
theorem erase_perm {α : Type} : ∀ {l : List α} {k : Nat} {x : α}, l[k]? = some x → l.Perm (l.eraseIdx k ++ [x])
  | [], k, x, h => by simp at h
  | a :: l, 0, x, h => by
    have e : a = x := Option.some.inj h
    subst e
    show (a :: l).Perm (l ++ [a])
    exact List.perm_append_comm (l₁ := [a])
  | a :: l, k + 1, x, h => by
    have ih := erase_perm (l := l) (k := k) (x := x) h
    exact ih.cons a

/-! ### two pieces exchanged outside -/
theorem vm_nodup {rs : List Row} (h : VM rs) : rs.Nodup := by
  have pw : rs.Pairwise (fun r s => Apart (insP r) (insP s)) := List.pairwise_map.mp h.ins
  refine pw.imp_of_mem fun {r s} hr hs q e => ?_
  subst e
  have := h.pos hr
  rcases q with q | q
  · have q : r.1 + r.2.2 ≤ r.1 := q
    omega
  · have q : r.1 + r.2.2 ≤ r.1 := q
    omega
theorem filter_out {α : Type} [DecidableEq α] {l : List α} (n : l.Nodup) {a : α} (h : a ∈ l) : l.Perm (l.filter (fun x => decide (x ≠ a)) ++ [a]) := by
  induction l with
  | nil => exact (List.not_mem_nil h).elim
  | cons b l ih =>
    have q := List.nodup_cons.mp n
    by_cases e : b = a
    · subst e
      have f : l.filter (fun x => decide (x ≠ b)) = l := List.filter_eq_self.mpr fun x hx => by
        have : x ≠ b := fun z => q.1 (z ▸ hx)
        simp [this]
      rw [List.filter_cons_of_neg (by simp), f]
      exact List.perm_append_comm (l₁ := [b])
    · have h' : a ∈ l := by
        rcases List.mem_cons.mp h with z | z
        · exact (e z.symm).elim
        · exact z
      rw [List.filter_cons_of_pos (by simp [e])]
      exact (ih q.2 h').cons b
/-- what is left, without two -/
def restOf (ps : List Row) (a b : Row) : List Row := ps.filter fun r => !(decide (r = a) || decide (r = b))
theorem restOf_same {ps : List Row} {a : Row} (n : ps.Nodup) (h : a ∈ ps) : ps.Perm (restOf ps a a ++ [a]) := by
  have e : restOf ps a a = ps.filter (fun x => decide (x ≠ a)) := by
    unfold restOf
    congr 1
    funext r
    by_cases z : r = a <;> simp [z]
  rw [e]
  exact filter_out n h
theorem restOf_two {ps : List Row} {a b : Row} (n : ps.Nodup) (ha : a ∈ ps) (hb : b ∈ ps) (ne : a ≠ b) : ps.Perm (restOf ps a b ++ [a, b]) := by
  have p1 := filter_out n ha
  have hb' : b ∈ ps.filter (fun x => decide (x ≠ a)) := List.mem_filter.mpr ⟨hb, by simp [ne.symm]⟩
  have p2 := filter_out (n.filter (fun x => decide (x ≠ a))) hb'
  have e : (ps.filter (fun x => decide (x ≠ a))).filter (fun x => decide (x ≠ b)) = restOf ps a b := by
    unfold restOf
    rw [List.filter_filter]
    congr 1
    funext r
    by_cases z : r = a <;> by_cases z' : r = b <;> simp [z, z']
  rw [e] at p2
  refine p1.trans ((p2.append_right [a]).trans ?_)
  rw [List.append_assoc]
  exact List.Perm.append_left _ (List.Perm.swap _ _ _)
/-- the exchanged pieces -/
def told (ps : List Row) (a b : Row) : List Row := restOf ps a b ++ [(a.1, b.2.1, a.2.2)] ++ (if a = b then [] else [(b.1, a.2.1, a.2.2)])
theorem told_same {ps : List Row} {a : Row} (h : VM ps) (ha : a ∈ ps) : ps.Perm (told ps a a) := by
  unfold told
  rw [if_pos rfl, List.append_nil]
  exact restOf_same (vm_nodup h) ha
theorem told_ins {ps : List Row} {a b : Row} (h : VM ps) (ha : a ∈ ps) (hb : b ∈ ps) (hc : b.2.2 = a.2.2) : (ps.map insP).Perm ((told ps a b).map insP) := by
  by_cases e : a = b
  · subst e
    exact (told_same h ha).map insP
  · unfold told
    rw [if_neg e]
    have p := (restOf_two (vm_nodup h) ha hb e).map insP
    simp only [List.map_append, List.map_cons, List.map_nil, List.append_assoc, List.cons_append, List.nil_append] at p ⊢
    rw [show insP b = (b.1, a.2.2) by rw [← hc]; rfl] at p
    exact p
theorem told_out {ps : List Row} {a b : Row} (h : VM ps) (ha : a ∈ ps) (hb : b ∈ ps) (hc : b.2.2 = a.2.2) : (ps.map outP).Perm ((told ps a b).map outP) := by
  by_cases e : a = b
  · subst e
    exact (told_same h ha).map outP
  · unfold told
    rw [if_neg e]
    have p := (restOf_two (vm_nodup h) ha hb e).map outP
    simp only [List.map_append, List.map_cons, List.map_nil, List.append_assoc, List.cons_append, List.nil_append] at p ⊢
    rw [show outP b = (b.2.1, a.2.2) by rw [← hc]; rfl] at p
    exact p.trans (List.Perm.append_left _ (List.Perm.swap _ _ _))
theorem told_vm {ps : List Row} {a b : Row} (h : VM ps) (ha : a ∈ ps) (hb : b ∈ ps) (hc : b.2.2 = a.2.2) : VM (told ps a b) := by
  refine ⟨fun r hr => ?_, (List.Perm.pairwise_iff (fun {_ _} => apart_symm) (told_ins h ha hb hc)).mp h.ins, (List.Perm.pairwise_iff (fun {_ _} => apart_symm) (told_out h ha hb hc)).mp h.out⟩
  obtain ⟨a1, a2⟩ := h.ok a ha
  obtain ⟨b1, b2⟩ := h.ok b hb
  rw [hc] at b1 b2
  unfold told at hr
  rcases List.mem_append.mp hr with hr | hr
  · rcases List.mem_append.mp hr with hr | hr
    · exact h.ok r ((List.mem_filter.mp hr).1)
    · rw [List.mem_singleton] at hr
      subst hr
      exact ⟨a1, b2⟩
  · by_cases e : a = b
    · rw [if_pos e] at hr
      exact (List.not_mem_nil hr).elim
    · rw [if_neg e, List.mem_singleton] at hr
      subst hr
      exact ⟨b1, a2⟩
theorem told_one {ps : List Row} {a b : Row} (h : 1 ≤ a.2.2) : Leads (told ps a b) a.1 b.2.1 := by
  refine leads_mem (r := (a.1, b.2.1, a.2.2)) h ?_
  unfold told
  simp
theorem told_other {ps : List Row} {a b : Row} (h : 1 ≤ a.2.2) : Leads (told ps a b) b.1 a.2.1 := by
  by_cases e : a = b
  · subst e
    exact told_one h
  · refine leads_mem (r := (b.1, a.2.1, a.2.2)) h ?_
    unfold told
    rw [if_neg e]
    simp
theorem told_len {ps : List Row} {a b : Row} : (told ps a b).length ≤ ps.length + 2 := by
  have h : (restOf ps a b).length ≤ ps.length := List.length_filter_le _ ps
  unfold told
  rw [List.length_append, List.length_append, List.length_singleton]
  by_cases e : a = b
  · rw [if_pos e, List.length_nil]; omega
  · rw [if_neg e, List.length_singleton]; omega
/-- the map of the exchanged pieces is the map of the pieces just if nothing was exchanged -/
theorem told_iff {ps qs ts : List Row} {a b : Row} (h : VM ps) (ha : a ∈ ps) (hb : b ∈ ps) (hc : b.2.2 = a.2.2) (k : IsNF ps qs) (k' : IsNF (told ps a b) ts) : ts = qs ↔ a = b := by
  constructor
  · intro e
    subst e
    have p := h.pos ha
    have l1 : Leads ps a.1 b.2.1 := (k.ld _ _).mp ((k'.ld _ _).mpr (told_one p))
    have l2 : Leads ps a.1 a.2.1 := leads_mem p ha
    have l3 : Leads ps b.1 b.2.1 := leads_mem (h.pos hb) hb
    have e1 : a.1 = b.1 := h.inj l1 l3
    have e2 : b.2.1 = a.2.1 := h.fn l1 l2
    exact Prod.ext e1 (Prod.ext e2.symm hc.symm)
  · intro e
    subst e
    exact k'.same k fun x y => (leads_perm (told_same h ha)).symm
theorem told_insides {ps qs ts : List Row} {a b : Row} {us vs : List Prt} (h : VM ps) (ha : a ∈ ps) (hb : b ∈ ps) (hc : b.2.2 = a.2.2) (k : IsNF ps qs) (k' : IsNF (told ps a b) ts) (u : IsNS (qs.map insP) us) (v : IsNS (ts.map insP) vs) : vs = us :=
  v.same u fun x => by
    rw [inP_insNF k', inP_insNF k]
    exact (inP_perm (told_ins h ha hb hc) x).symm
theorem told_outsides {ps qs ts : List Row} {a b : Row} {us vs : List Prt} (h : VM ps) (ha : a ∈ ps) (hb : b ∈ ps) (hc : b.2.2 = a.2.2) (k : IsNF ps qs) (k' : IsNF (told ps a b) ts) (u : IsNS (qs.map outP) us) (v : IsNS (ts.map outP) vs) : vs = us :=
  v.same u fun x => by
    rw [inP_outNF k', inP_outNF k]
    exact (inP_perm (told_out h ha hb hc) x).symm
/-! ### one piece left out -/
theorem VM.sub {rs ss : List Row} (h : VM rs) (s : ss.Sublist rs) : VM ss :=
  ⟨fun r hr => h.ok r (s.mem hr), List.Pairwise.sublist (s.map insP) h.ins, List.Pairwise.sublist (s.map outP) h.out⟩
theorem less_none {ps : List Row} {k : Nat} {r : Row} (h : VM ps) (e : ps[k]? = some r) (y : Int) : ¬ Leads (ps.eraseIdx k) r.1 y := by
  have p := erase_perm e
  have v : VM (ps.eraseIdx k ++ [r]) := h.perm p
  intro l
  obtain ⟨s, hs, h1, h2, h3⟩ := l
  have q := v.ins
  rw [List.map_append, List.pairwise_append] at q
  have c := q.2.2 (insP s) (List.mem_map_of_mem hs) (insP r) (by simp)
  have pr := h.pos (List.mem_of_getElem? e)
  rcases c with c | c
  · have c : s.1 + s.2.2 ≤ r.1 := c
    omega
  · have c : r.1 + r.2.2 ≤ s.1 := c
    omega
theorem less_ne {ps qs ts : List Row} {k : Nat} {r : Row} (h : VM ps) (e : ps[k]? = some r) (n : IsNF ps qs) (n' : IsNF (ps.eraseIdx k) ts) : ts ≠ qs := by
  intro z
  subst z
  have m : r ∈ ps := List.mem_of_getElem? e
  have l : Leads ps r.1 r.2.1 := leads_mem (h.pos m) m
  exact less_none h e _ ((n'.ld _ _).mp ((n.ld _ _).mpr l))
theorem less_tot {ps qs ts : List Row} {k : Nat} {r : Row} (e : ps[k]? = some r) (n : IsNF ps qs) (n' : IsNF (ps.eraseIdx k) ts) : tot ts = tot qs - r.2.2 := by
  rw [n.tt, n'.tt, tot_perm (erase_perm e), tot_append, tot_one]
  omega
/-! ### placed ranges -/
structure Placed (lo : Int) (c : Nat → Int) (done : List Nat) (at_ : Int) (I : Nat → Int) : Prop where
  lo_ : lo ≤ at_
  hi_ : at_ ≤ lo + 7 * (done.length : Int)
  bd : ∀ k ∈ done, lo ≤ I k ∧ I k + c k ≤ at_
  pw : done.Pairwise fun j k => Apart (I j, c j) (I k, c k)
def put (I : Nat → Int) (k : Nat) (z : Int) : Nat → Int := fun j => if j = k then z else I j
theorem put_same (I : Nat → Int) (k : Nat) (z : Int) : put I k z k = z := if_pos rfl
theorem put_ne (I : Nat → Int) {k j : Nat} (z : Int) (h : j ≠ k) : put I k z j = I j := if_neg h
theorem Placed.nil (lo : Int) (c : Nat → Int) (I : Nat → Int) : Placed lo c [] lo I := ⟨Int.le_refl _, by simp, fun _ h => (List.not_mem_nil h).elim, List.Pairwise.nil⟩
theorem Placed.next {lo at_ z : Int} {c I : Nat → Int} {done : List Nat} {k : Nat} (h : Placed lo c done at_ I) (hk : k ∉ done) (z0 : at_ ≤ z) (z1 : z ≤ at_ + 1) (c0 : 1 ≤ c k) (c6 : c k ≤ 6) : Placed lo c (done ++ [k]) (z + c k) (put I k z) := by
  have ne : ∀ j ∈ done, put I k z j = I j := fun j hj => put_ne I z fun e => hk (e ▸ hj)
  refine ⟨?_, ?_, fun j hj => ?_, ?_⟩
  · have := h.lo_; omega
  · have := h.hi_
    rw [List.length_append, List.length_singleton]
    omega
  · rcases List.mem_append.mp hj with hj | hj
    · rw [ne j hj]
      have := h.bd j hj
      omega
    · rw [List.mem_singleton] at hj
      subst hj
      rw [put_same]
      have := h.lo_
      omega
  · refine List.pairwise_append.mpr ⟨h.pw.imp_of_mem fun {a b} ha hb q => ?_, by simp, fun a ha b hb => ?_⟩
    · rw [ne a ha, ne b hb]; exact q
    · rw [List.mem_singleton] at hb
      subst hb
      rw [ne a ha, put_same]
      have := h.bd a ha
      refine Or.inl ?_
      show I a + c a ≤ z
      omega
structure Small (lo hi : Int) (rs : List Row) : Prop where
  len : rs.length ≤ 7
  bd : ∀ r ∈ rs, 1 ≤ r.2.2 ∧ lo ≤ r.1 ∧ r.1 + r.2.2 ≤ lo + 49 ∧ hi ≤ r.2.1 ∧ r.2.1 + r.2.2 ≤ hi + 49
  ins : (rs.map insP).Pairwise Apart
  out : (rs.map outP).Pairwise Apart
theorem small_of {lo hi a b : Int} {c I O : Nat → Int} {d1 d2 d3 : List Nat} (h1 : Placed lo c d1 a I) (h2 : Placed hi c d2 b O) (p1 : d1.Perm d3) (p2 : d2.Perm d3) (hn : d3.length ≤ 7) (hc : ∀ k ∈ d3, 1 ≤ c k) : Small lo hi (d3.map fun k => (I k, O k, c k)) := by
  have l1 := p1.length_eq
  have l2 := p2.length_eq
  refine ⟨by rw [List.length_map]; exact hn, fun r hr => ?_, ?_, ?_⟩
  · obtain ⟨k, hk, e⟩ := List.mem_map.mp hr
    subst e
    have a1 := h1.bd k (p1.mem_iff.mpr hk)
    have a2 := h2.bd k (p2.mem_iff.mpr hk)
    have a3 := h1.hi_
    have a4 := h2.hi_
    have a5 := hc k hk
    show 1 ≤ c k ∧ lo ≤ I k ∧ I k + c k ≤ lo + 49 ∧ hi ≤ O k ∧ O k + c k ≤ hi + 49
    omega
  · rw [List.map_map]
    refine List.pairwise_map.mpr ?_
    exact (List.Perm.pairwise_iff (R := fun j k => Apart (I j, c j) (I k, c k)) (fun {_ _} h => apart_symm h) p1).mp h1.pw
  · rw [List.map_map]
    refine List.pairwise_map.mpr ?_
    exact (List.Perm.pairwise_iff (R := fun j k => Apart (O j, c j) (O k, c k)) (fun {_ _} h => apart_symm h) p2).mp h2.pw
def great (d : Int) : List Row := [(1000000, 3000000000, 1 + d), (2000000000, 1000000000, 1000000000)]
theorem vm_start {rs : List Row} {d : Int} (h : Small 100 5000 rs) (d0 : 0 ≤ d) (d1 : d < 1000000000) : VM (rs ++ great d) := by
  refine ⟨fun r hr => ?_, ?_, ?_⟩
  · rcases List.mem_append.mp hr with hr | hr
    · have := h.bd r hr
      refine ⟨⟨?_, ?_, ?_, ?_⟩, ?_, ?_, ?_, ?_⟩ <;> (try unfold TOP) <;> omega
    · unfold great at hr
      rcases List.mem_cons.mp hr with e | hr
      · subst e
        show RunOk 1000000 (1 + d) ∧ RunOk 3000000000 (1 + d)
        unfold RunOk TOP
        omega
      · rw [List.mem_singleton] at hr
        subst hr
        show RunOk 2000000000 1000000000 ∧ RunOk 1000000000 1000000000
        unfold RunOk TOP
        omega
  · rw [List.map_append]
    refine List.pairwise_append.mpr ⟨h.ins, ?_, fun p hp q hq => ?_⟩
    · show [((1000000 : Int), 1 + d), (2000000000, 1000000000)].Pairwise Apart
      refine List.pairwise_cons.mpr ⟨fun q hq => ?_, by simp⟩
      rw [List.mem_singleton] at hq
      subst hq
      refine Or.inl ?_
      show 1000000 + (1 + d) ≤ 2000000000
      omega
    · obtain ⟨r, hr, e⟩ := List.mem_map.mp hp
      subst e
      have := h.bd r hr
      have hq : q ∈ [((1000000 : Int), 1 + d), (2000000000, 1000000000)] := hq
      refine Or.inl ?_
      show r.1 + r.2.2 ≤ q.1
      rcases List.mem_cons.mp hq with e | hq
      · subst e; show _ ≤ (1000000 : Int); omega
      · rw [List.mem_singleton] at hq
        subst hq; show _ ≤ (2000000000 : Int); omega
  · rw [List.map_append]
    refine List.pairwise_append.mpr ⟨h.out, ?_, fun p hp q hq => ?_⟩
    · show [((3000000000 : Int), 1 + d), (1000000000, 1000000000)].Pairwise Apart
      refine List.pairwise_cons.mpr ⟨fun q hq => ?_, by simp⟩
      rw [List.mem_singleton] at hq
      subst hq
      refine Or.inr ?_
      show (1000000000 : Int) + 1000000000 ≤ 3000000000
      omega
    · obtain ⟨r, hr, e⟩ := List.mem_map.mp hp
      subst e
      have := h.bd r hr
      have hq : q ∈ [((3000000000 : Int), 1 + d), (1000000000, 1000000000)] := hq
      refine Or.inl ?_
      show r.2.1 + r.2.2 ≤ q.1
      rcases List.mem_cons.mp hq with e | hq
      · subst e; show _ ≤ (3000000000 : Int); omega
      · rw [List.mem_singleton] at hq
        subst hq; show _ ≤ (1000000000 : Int); omega
/-- the last line of the law -/
theorem vm_last : VM [(0, 2, 2), (2, 0, 2)] := by
  refine ⟨fun r hr => ?_, ?_, ?_⟩
  · rcases List.mem_cons.mp hr with e | hr
    · subst e
      exact ⟨⟨by decide, by decide, by decide, by decide⟩, by decide, by decide, by decide, by decide⟩
    · rw [List.mem_singleton] at hr
      subst hr
      exact ⟨⟨by decide, by decide, by decide, by decide⟩, by decide, by decide, by decide, by decide⟩
  · exact List.pairwise_cons.mpr ⟨fun q hq => by rw [show q = (2, 2) by simpa [insP] using hq]; exact Or.inl (by decide), by simp⟩
  · exact List.pairwise_cons.mpr ⟨fun q hq => by rw [show q = (0, 2) by simpa [outP] using hq]; exact Or.inr (by decide), by simp⟩
theorem nf_last {qs : List Row} (k : IsNF [(0, 2, 2), (2, 0, 2)] qs) : qs = [(0, 2, 2), (2, 0, 2)] := by
  refine nf_unique k.nf ⟨fun r hr => vm_last.pos hr, ?_⟩ k.ld
  refine List.pairwise_cons.mpr ⟨fun q hq => ?_, by simp⟩
  rw [List.mem_singleton] at hq
  subst hq
  exact ⟨by decide, by decide⟩
/-! ### a search by halves -/
theorem nf_at {rs : List Row} (h : NF rs) {i j : Nat} {r s : Row} (e1 : rs[i]? = some r) (e2 : rs[j]? = some s) (l : i < j) : RR r s := by
  obtain ⟨h1, q1⟩ := List.getElem?_eq_some_iff.mp e1
  obtain ⟨h2, q2⟩ := List.getElem?_eq_some_iff.mp e2
  have := List.pairwise_iff_getElem.mp h.2 i j h1 h2 l
  rw [q1, q2] at this
  exact this
structure Seek (rs : List Row) (x : Int) (low high : Nat) : Prop where
  le : low ≤ high
  hi : high ≤ rs.length
  a : ∀ (i : Nat) (r : Row), i < low → rs[i]? = some r → r.1 + r.2.2 ≤ x
  b : ∀ (i : Nat) (r : Row), high ≤ i → rs[i]? = some r → x < r.1
theorem Seek.start (rs : List Row) (x : Int) : Seek rs x 0 rs.length :=
  ⟨Nat.zero_le _, Nat.le_refl _, fun _ _ h => (Nat.not_lt_zero _ h).elim, fun i r h e => by
    have := (List.getElem?_eq_some_iff.mp e).1
    omega⟩
theorem Seek.left {rs : List Row} (n : NF rs) {x : Int} {low high m : Nat} {r : Row} (h : Seek rs x low high) (e : rs[m]? = some r) (h1 : low ≤ m) (h2 : m < high) (c : x < r.1) : Seek rs x low m := by
  refine ⟨h1, by have := h.hi; omega, h.a, fun i s hi es => ?_⟩
  rcases Nat.lt_or_ge m i with q | q
  · have z := (nf_at n e es q).1
    have := n.1 r (List.mem_of_getElem? e)
    omega
  · have : i = m := by omega
    subst this
    rw [e] at es
    cases es
    exact c
theorem Seek.right {rs : List Row} (n : NF rs) {x : Int} {low high m : Nat} {r : Row} (h : Seek rs x low high) (e : rs[m]? = some r) (h1 : low ≤ m) (h2 : m < high) (c : r.1 + r.2.2 ≤ x) : Seek rs x (m + 1) high := by
  refine ⟨h2, h.hi, fun i s hi es => ?_, h.b⟩
  rcases Nat.lt_or_ge i m with q | q
  · have z := (nf_at n es e q).1
    have := n.1 r (List.mem_of_getElem? e)
    omega
  · have : i = m := by omega
    subst this
    rw [e] at es
    cases es
    exact c
theorem Seek.done {rs : List Row} {x : Int} {low high : Nat} (h : Seek rs x low high) (c : ¬ low < high) (y : Int) : ¬ Leads rs x y := by
  rintro ⟨r, hr, h1, h2, h3⟩
  obtain ⟨i, hi, e⟩ := List.getElem_of_mem hr
  have e' : rs[i]? = some r := by rw [List.getElem?_eq_getElem hi, e]
  rcases Nat.lt_or_ge i low with q | q
  · have := h.a i r q e'
    omega
  · have := h.b i r (by omega) e'
    omega
end K14
namespace NeX
open PySem PyProof.Rows
section
variable {prog : Program} {w : World} {M : Model} {A : Around} {E : Value → Shared → Prop} {t : Shared} {K : PySem.W.Frag} {a b C g : Addr} {oa ob : Obj} {da db : Option Obj}
/-- a special method that is a built-in's slot, called as the comparison does -/
theorem slot_called {nm : Str} {id : String} {ys : List Value} {R : Option Value → Shared → Prop} (S : Slot "object" nm id) (k : K.In t.heap) (I : PySem.W.InstAt t.heap a oa C da) (f : PySem.W.findIn K (.ref C) nm = some (some (.builtin id)))
    (c : wpAny M A (call (.builtin id) (.ref a :: ys)) (fun v => R (some v)) E t) : wpAny M A (callSpecialIfBound? (.ref a) nm ys) R E t := by
  have behind : wpAny M A (call (.builtin id) ([.ref a] ++ ys) >>= fun v => pure (some v)) R E t :=
    wpAny_bind (wpAny_mono c (fun _ _ z => wpAny_pure z) fun _ _ z => z)
  have bound := S.bind (Value.ref a)
  unfold callSpecialIfBound? bindSpecialIfBound?
  apply wpAny_holding
  apply wpAny_bind
  apply wpAny_bind
  apply wpAny_bind
  apply I.type.here
  apply (PySem.W.looks_findIn k f).here
  apply wpAny_bind
  apply wpAny_askSetting
  apply wpAny_ite
  split
  all_goals first
    | exact wpAny_bind (wpAny_of_eq bound (wpAny_pure (by exact behind)))
    | exact wpAny_tryCatch (wpAny_bind (wpAny_of_eq bound (wpAny_pure (by exact behind))))
/-- what object.__ne__ does over an own __eq__ -/
theorem ne_body {R : Fin → Shared → Prop} (u : A.units < cLine) (k : K.In t.heap) (I : PySem.W.InstAt t.heap a oa C da) (f : PySem.W.findIn K (.ref C) "__eq__" = some (some (.ref g))) (fn : PySem.W.isFn K (.ref g) = true)
    (c : wpAny (model prog w) A (call (.ref g) [.ref a, .ref b]) (fun v t' => ∃ r, v = .bool r ∧ R (.done (.ret (.bool (!r)))) t') E t) :
    wpAny (model prog w) A (Builtin.«object.__ne__» ⟨[.ref a, .ref b], []⟩) R E t := by
  have own : wpAny (model prog w) A (callSpecialIfBound? (.ref a) "__eq__" [.ref b]) (fun v t' => ∃ r, v = some (.bool r) ∧ R (.done (.ret (.bool (!r)))) t') E t :=
    PySem.W.ifBound_K k I f fn (wpAny_mono c (fun v t' ⟨r, e, z⟩ => ⟨r, by rw [e], z⟩) fun _ _ z => z)
  unfold Builtin.«object.__ne__»; apply wpAny_bind
  apply wpAny_pure
  apply wpAny_bind
  apply wpAny_cRoomFor u
  apply wpAny_bind
  refine wpAny_mono own (fun v t' ⟨r, e, z⟩ => ?_) fun _ _ z => z
  subst e
  apply wpAny_bind
  apply wpAny_truthy_bool
  exact wpAny_pure z
/-- a != b of two instances of one class that has an own __eq__ and no own __ne__ -/
theorem ne_own {R : Value → Shared → Prop} (u : A.units + 1 < cLine) (k : K.In t.heap) (I : PySem.W.InstAt t.heap a oa C da) (J : PySem.W.InstAt t.heap b ob C db) (ho : PySem.W.mroIn K C (.type "object") = some true)
    (hn : PySem.W.findIn K (.ref C) "__ne__" = some (some (.builtin "object.__ne__"))) (f : PySem.W.findIn K (.ref C) "__eq__" = some (some (.ref g))) (fn : PySem.W.isFn K (.ref g) = true)
    (c : wpAny (model prog w) A.in1 (call (.ref g) [.ref a, .ref b]) (fun v t' => ∃ r, v = .bool r ∧ R (.bool (!r)) t') E t) : wpAny (model prog w) A (compareOp .NotEq (.ref a) (.ref b)) R E t := by
  have tried : wpAny (model prog w) A (tryCompare (.ref a) "__ne__" (.ref b)) (fun v t' => ∃ r, v = some (.bool r) ∧ R (.bool r) t') E t := by
    have entered := ne_body (prog := prog) (w := w) (A := A.in1) (E := E) (R := fun x t' => ∃ r, x = .done (.ret (.bool (!r))) ∧ R (.bool (!r)) t') u k I f fn (wpAny_mono c (fun _ _ ⟨r, e, z⟩ => ⟨r, e, r, rfl, z⟩) fun _ _ z => z)
    have ok := PySem.W.check_slot (M := model prog w) (A := A.in1) (E := E) (s := t) (rest := [.ref b]) (kw := []) (Q := fun _ t' => t' = t) F.cmpKind_ne F.cmpSplit_ne (I.type.andThen (PySem.W.looks_mroIn k ho)) (F.cmpArgs_ne _ _) rfl
    unfold tryCompare
    apply wpAny_bind
    apply slot_called F.cmp_object.ne k I hn
    apply wpAny_call
    refine codeAny_call_builtin F.cmp_object.ne.plain F.cmpEntry_ne (wpAny_mono ok (fun _ t' e => ?_) fun _ _ z => z)
    subst e
    refine wpAny_mono entered (fun x t' z => ?_) fun _ _ z => z
    obtain ⟨r, rfl, z⟩ := z
    show wpAny _ _ (pure (some (Value.bool (!r)))) _ _ _
    exact wpAny_pure ⟨!r, rfl, z⟩
  show wpAny _ A (richCompare .NotEq (.ref a) (.ref b)) R E t
  unfold richCompare
  simp only [oneThing_ref, cmpInfo_NotEq]
  apply wpAny_holding
  apply wpAny_bind
  apply wpAny_cRoomFor (Nat.lt_of_succ_lt u)
  apply wpAny_bind
  apply I.type.here
  apply wpAny_bind
  apply J.type.here
  have alike : (Value.ref C != Value.ref C) = false := bne_self_eq_false _
  rw [alike]
  apply wpAny_bind
  apply wpAny_pure
  apply wpAny_bind
  refine wpAny_mono tried (fun v t' z => ?_) fun _ _ z => z
  obtain ⟨r, rfl, z⟩ := z
  exact wpAny_pure z
end
end NeX

namespace L2
open PySem PyProof.Rows
section
variable {X : Cx} {CX : CXT} {C g : Addr} {fd : FuncData} {ps : List Str} {n : Nat} {sp : Sp} {E : XK}
/-- a def of two arguments, called from within a built-in, by its promise -/
theorem called2 {pins : List (Addr × Obj)} {σ : St} {H : Hp} {t : Shared} {a b : Addr} {A : Around} {R : VK} (F : FnOk X.prog X.w X.K X.mg X.base CX n g fd ps sp) (room : Room n A) (env : Env0 X.prog X.w X.K X.mg X.base A X.stack t H) (bd : Binds X.K fd ps [])
    (px : Passes CX X E) (I : Inv X pins σ H t) (h : sp [.ref a, .ref b] H R E) : wpAny (model X.prog X.w) A (call (.ref g) [.ref a, .ref b]) (EP X pins σ R) X.xe t := by
  have both : Vals [.ref a, .ref b] [Value.ref a, Value.ref b] := Paired.cons rfl (Paired.cons rfl Paired.nil)
  have len := F.len _ _ _ _ h
  have bound : BindsTo t fd ⟨[.ref a, .ref b], []⟩ (ps.zip [.ref a, .ref b]) := by
    have z := bd t [Value.ref a, Value.ref b] I.kIn (by rw [List.append_nil]; exact len)
    rwa [List.append_nil] at z
  apply wpAny_call
  refine codeAny_mono (F.run A X.stack t H ⟨[.ref a, .ref b], []⟩ _ _ R E room env bound both h) fun r t' z => ?_
  match r, z with
  | .error x, z => exact px pins σ H t x t' I z
  | .ok (.ret u), z => exact I.after z
/-- a == b, a != b of two instances of the class at C by its own __eq__ -/
def rEqO (C : Addr) (sp : Sp) (E : XK) : R2 := fun x y H Q => ∃ a dx fs b dy gs, x = .ref a ∧ y = .ref b ∧ H a = some (.ins C dx fs) ∧ H b = some (.ins C dy gs) ∧ sp [.ref a, .ref b] H (fun v H' => ∃ k, v = .bl k ∧ Q (.bl k) H') E
def rNeO (C : Addr) (sp : Sp) (E : XK) : R2 := fun x y H Q => ∃ a dx fs b dy gs, x = .ref a ∧ y = .ref b ∧ H a = some (.ins C dx fs) ∧ H b = some (.ins C dy gs) ∧ sp [.ref a, .ref b] H (fun v H' => ∃ k, v = .bl k ∧ Q (.bl (!k)) H') E
structure EqCls (K : PySem.W.Frag) (C g : Addr) : Prop where
  eq : PySem.W.findIn K (.ref C) "__eq__" = some (some (.ref g))
  isf : PySem.W.isFn K (.ref g) = true
  ne : PySem.W.findIn K (.ref C) "__ne__" = some (some (.builtin "object.__ne__"))
  ob : PySem.W.mroIn K C (.type "object") = some true
/-- where an instance stands, for the machine -/
theorem inst_at {pins : List (Addr × Obj)} {σ : St} {H : Hp} {t : Shared} {a C dx : Addr} {fs : List (Str × V)} (I : Inv X pins σ H t) (h : H a = some (.ins C dx fs)) : ∃ ob od, PySem.W.InstAt t.heap a ob C od := by
  obtain ⟨_, M, _⟩ := ins_get I.hok h
  obtain ⟨d, z, _⟩ := M.look
  exact ⟨_, some d, z⟩
theorem op_eqO (c : EqCls X.K C g) (F : FnOk X.prog X.w X.K X.mg X.base CX n g fd ps sp) (bd : Binds X.K fd ps []) (room : Room n X.A) (px : Passes CX X E) : OpR X (compareOp .Eq) (rEqO C sp E) := by
  rintro pins t σ H _ _ v w Q I rx ry ⟨a, dx, fs, b, dy, gs, rfl, rfl, ha, hb, q⟩
  obtain ⟨oa, da, Ia⟩ := inst_at I ha
  obtain ⟨ob, db, Ib⟩ := inst_at I hb
  obtain ⟨m, fr⟩ := I.fr
  have ev : v = Value.ref a := rx
  have ew : w = Value.ref b := ry
  rw [ev, ew]
  have nf : PySem.W.notFirst X.K C (.ref C) = true := by simp [PySem.W.notFirst]
  show wpAny _ X.A (richCompare .Eq (.ref a) (.ref b)) _ _ _
  apply PySem.W.cmp_K (op := .Eq) (tb := .ref C) room.units0 fr I.ok.mod.kin Ia Ib.type nf c.eq c.isf
  refine wpAny_mono (called2 F room I.env0 bd px I q) (fun u t' ⟨z, H', I', rz, k, ek, qz⟩ => ?_) fun _ _ z => z
  rw [ek] at rz
  have eu : u = Value.bool k := rz
  rw [eu]
  exact ⟨.bl k, H', I', rfl, qz⟩
theorem op_neO (c : EqCls X.K C g) (F : FnOk X.prog X.w X.K X.mg X.base CX n g fd ps sp) (bd : Binds X.K fd ps []) (room : Room (n + 1) X.A) (px : Passes CX X E) : OpR X (compareOp .NotEq) (rNeO C sp E) := by
  rintro pins t σ H _ _ v w Q I rx ry ⟨a, dx, fs, b, dy, gs, rfl, rfl, ha, hb, q⟩
  obtain ⟨oa, da, Ia⟩ := inst_at I ha
  obtain ⟨ob, db, Ib⟩ := inst_at I hb
  have ev : v = Value.ref a := rx
  have ew : w = Value.ref b := ry
  rw [ev, ew]
  apply NeX.ne_own (hu_of room) I.kIn Ia Ib c.ob c.ne c.eq c.isf
  refine wpAny_mono (called2 F room.in1 I.env0.in1 bd px I q) (fun u t' ⟨z, H', I', rz, k, ek, qz⟩ => ?_) fun _ _ z => z
  rw [ek] at rz
  exact ⟨k, rz, .bl (!k), H', I', rfl, qz⟩
/-- x not in (a, b): data of any depth -/
def rNotInT (K : PySem.W.Frag) : R2 := fun x y H Q => ∃ d ds, Dp K H x d ∧ Dp K H y (.tuple ds) ∧ SeqAt.shaped d = true ∧ SeqAt.shaped (.tuple ds) = true ∧ Q (.bl (!ds.any fun z => PyData.eqv z d)) H
theorem op_notInT (room : X.A.units + 65 < cLine) : OpR X (compareOp .NotIn) (rNotInT X.K) := by
  rintro pins t σ H x y v w Q I rx ry ⟨one, all, h1, h2, sh1, sh2, q⟩
  obtain ⟨_, read1⟩ := Dp.reads I one x v h1 rx
  obtain ⟨_, read2⟩ := Dp.reads I (.tuple all) y w h2 ry
  exact SeqAt.notIn_tuple_reads read2 read1 (SeqAt.canLay_of_shaped sh2) (SeqAt.canLay_of_shaped sh1) (room_in_shaped sh1 room) ⟨.bl _, H, I, rfl, q⟩
end
end L2
namespace K14
open PySem L2
/-! ### lists of tuples of ints -/
def rI (r : Row) : List Int := [r.1, r.2.1, r.2.2]
def pI (p : Prt) : List Int := [p.1, p.2]
theorem rI_inj : ∀ {a b : Row}, rI a = rI b → a = b := fun {a b} h => by
  unfold rI at h
  injection h with h1 h
  injection h with h2 h
  injection h with h3 h
  exact Prod.ext h1 (Prod.ext h2 h3)
theorem pI_inj : ∀ {a b : Prt}, pI a = pI b → a = b := fun {a b} h => by
  unfold pI at h
  injection h with h1 h
  injection h with h2 h
  exact Prod.ext h1 h2
section
variable {α : Type} {g : α → List Int} {H H' : Hp} {a : Addr} {rs : List α}
abbrev tv (g : α → List Int) (r : α) : HO := .tup ((g r).map V.int)
abbrev refs (L : List (Addr × α)) : List V := L.map fun e => V.ref e.1
abbrev Tups (g : α → List Int) (H : Hp) (L : List (Addr × α)) : Prop := ∀ e ∈ L, H e.1 = some (tv g e.2)
def Ls (g : α → List Int) (H : Hp) (a : Addr) (rs : List α) : Prop := ∃ L : List (Addr × α), L.map (·.2) = rs ∧ H a = some (.lst (refs L)) ∧ Tups g H L
/-- all but what is at a is as it was -/
def But (a : Addr) (H H' : Hp) : Prop := ∀ b o, H b = some o → b ≠ a → H' b = some o
theorem But.refl {a : Addr} {H : Hp} : But a H H := fun _ _ h _ => h
theorem But.trans {H1 H2 : Hp} (x : But a H H1) (y : But a H1 H2) : But a H H2 := fun b o h n => y b o (x b o h n) n
theorem But.of (h : Same H H') : But a H H' := fun b o e _ => h b o e
theorem But.upd {o : HO} : But a H (upd H a o) := fun b u e n => by rw [upd_ne n]; exact e
theorem _root_.L2.Same.upd {p : Addr} {o : HO} (h : H p = none) : Same H (upd H p o) := fun b u e => by
  rw [upd_ne (ne_of_none e h)]
  exact e
theorem _root_.L2.Same.then {p : Addr} {o : HO} {H0 : Hp} (s : Same H0 H) (h : H p = none) : Same H0 (L2.upd H p o) := s.trans (Same.upd h)
/-- a new thing changed later -/
theorem _root_.L2.Same.but {p : Addr} (s : But p H H') (h : H p = none) : Same H H' := fun b o e => s b o e (ne_of_none e h)
theorem But.free {p : Addr} (s : But a H H') (n : p ≠ a) (h : H' p = none) : H p = none := by
  cases q : H p with
  | none => rfl
  | some o =>
    rw [s p o q n] at h
    cases h
theorem Tups.same {L : List (Addr × α)} (h : Tups g H L) (s : Same H H') : Tups g H' L := fun e m => s _ _ (h e m)
theorem Tups.but {L : List (Addr × α)} (h : Tups g H L) (s : But a H H') {o : HO} (ha : H a = some o) (ho : ∀ xs, o ≠ .tup xs) : Tups g H' L := fun e m => s _ _ (h e m) fun q => by
  have z := h e m
  rw [q, ha] at z
  exact ho _ (Option.some.inj z)
theorem Tups.butN {L : List (Addr × α)} (h : Tups g H L) (s : But a H H') (ha : H a = none) : Tups g H' L := fun e m => s _ _ (h e m) (ne_of_none (h e m) ha)
theorem Ls.same (h : Ls g H a rs) (s : Same H H') : Ls g H' a rs := let ⟨L, e, l, t⟩ := h; ⟨L, e, s _ _ l, t.same s⟩
theorem Ls.but {b : Addr} (h : Ls g H a rs) (s : But b H H') (n : a ≠ b) {o : HO} (hb : H b = some o) (ho : ∀ xs, o ≠ .tup xs) : Ls g H' a rs := let ⟨L, e, l, t⟩ := h; ⟨L, e, s _ _ l n, t.but s hb ho⟩
theorem Ls.lst (h : Ls g H a rs) : ∃ xs, H a = some (.lst xs) ∧ xs.length = rs.length := let ⟨L, e, l, _⟩ := h; ⟨refs L, l, by rw [← e, List.length_map, List.length_map]⟩
theorem Ls.seq {K : PySem.W.Frag} (h : Ls g H a rs) : ∃ xs, SqL K H a xs ∧ xs.length = rs.length := let ⟨xs, l, e⟩ := h.lst; ⟨xs, SqL.of l, e⟩
theorem lst_tup (xs : List V) : ∀ ys, HO.lst xs ≠ .tup ys := fun _ h => by cases h
theorem Ls.nil (h : H a = some (.lst [])) : Ls g H a [] := ⟨[], rfl, h, fun _ m => (List.not_mem_nil m).elim⟩
/-- the i-th one -/
theorem Ls.at (h : Ls g H a rs) : ∃ L : List (Addr × α), L.map (·.2) = rs ∧ H a = some (.lst (refs L)) ∧ Tups g H L ∧ L.length = rs.length ∧ ∀ (i : Nat) r, rs[i]? = some r → ∃ t, (refs L)[i]? = some (V.ref t) ∧ H t = some (tv g r) := by
  obtain ⟨L, e, l, t⟩ := h
  refine ⟨L, e, l, t, by rw [← e, List.length_map], fun i r hr => ?_⟩
  rw [← e, List.getElem?_map] at hr
  cases q : L[i]? with
  | none => rw [q] at hr; cases hr
  | some x =>
    rw [q] at hr
    have z : x.2 = r := Option.some.inj hr
    refine ⟨x.1, by rw [List.getElem?_map, q]; rfl, ?_⟩
    rw [← z]
    exact t x (List.mem_of_getElem? q)
theorem refs_at {L : List (Addr × α)} {i : Nat} {v : V} (h : (refs L)[i]? = some v) : ∃ e, L[i]? = some e ∧ v = V.ref e.1 := by
  rw [List.getElem?_map] at h
  cases q : L[i]? with
  | none => rw [q] at h; cases h
  | some x => rw [q] at h; exact ⟨x, rfl, (Option.some.inj h).symm⟩
theorem refs_len (L : List (Addr × α)) : (refs L).length = L.length := List.length_map _
/-- a new one behind -/
theorem Ls.push {L : List (Addr × α)} {t : Addr} {r : α} (l : H a = some (.lst (refs L))) (hT : Tups g H L) (ht : H t = some (tv g r)) : Ls g (upd H a (.lst (refs L ++ [V.ref t]))) a (L.map (·.2) ++ [r]) := by
  have T' : Tups g H (L ++ [(t, r)]) := fun e m => by
    rcases List.mem_append.mp m with m | m
    · exact hT e m
    · rw [List.mem_singleton] at m
      subst m
      exact ht
  refine ⟨L ++ [(t, r)], by simp, ?_, Tups.but T' But.upd l (lst_tup _)⟩
  rw [upd_same]
  simp
theorem Ls.put {M : List (Addr × α)} {xs : List V} (l : H a = some (.lst xs)) (hT : Tups g H M) : Ls g (upd H a (.lst (refs M))) a (M.map (·.2)) :=
  ⟨M, rfl, upd_same, Tups.but hT But.upd l (lst_tup _)⟩
/-- a new list of the same -/
theorem Ls.new {L : List (Addr × α)} {p : Addr} (hp : H p = none) (hT : Tups g H L) : Ls g (upd H p (.lst (refs L))) p (L.map (·.2)) := ⟨L, rfl, upd_same, hT.same (Same.upd hp)⟩
end
theorem perm_lift {α β : Type} {f : α → β} {ys xs : List β} (p : ys.Perm xs) : ∀ l : List α, xs = l.map f → ∃ l' : List α, l'.Perm l ∧ ys = l'.map f := by
  induction p with
  | nil => intro l h; exact ⟨l, List.Perm.refl _, h⟩
  | @cons x l1 l2 _ ih =>
    intro l h
    cases l with
    | nil => simp at h
    | cons b l =>
      rw [List.map_cons] at h
      injection h with h1 h2
      obtain ⟨l', p', e⟩ := ih l h2
      exact ⟨b :: l', p'.cons b, by rw [List.map_cons, ← h1, e]⟩
  | swap x y l0 =>
    intro l h
    match l, h with
    | b :: c :: l, h =>
      rw [List.map_cons, List.map_cons] at h
      injection h with h1 h2
      injection h2 with h2 h3
      refine ⟨c :: b :: l, List.Perm.swap _ _ _, ?_⟩
      rw [List.map_cons, List.map_cons, ← h1, ← h2, h3]
  | trans _ _ ih1 ih2 =>
    intro l h
    obtain ⟨l2, p2, e2⟩ := ih2 l h
    obtain ⟨l1, p1, e1⟩ := ih1 l2 e2
    exact ⟨l1, p1.trans p2, e1⟩
/-- the first ints of tuples in order -/
theorem code_first {B a b : Int} {r q : List Int} (hl : r.length = q.length) (h1 : TS.Bd B (a :: r)) (h2 : TS.Bd B (b :: q)) (h : TS.code B (a :: r) ≤ TS.code B (b :: q)) : a ≤ b := by
  rcases Int.lt_or_le b a with c | c
  · have := TS.code_lt hl.symm h2.tail h1.tail c
    omega
  · exact c
theorem sorted_ls {α : Type} {g : α → List Int} {fst : α → Int} {tl : α → List Int} (hg : ∀ r, g r = fst r :: tl r) {n : Nat} (hn : ∀ r, (tl r).length = n) {K : PySem.W.Frag} {H : Hp} {B : Int} {L : List (Addr × α)} {ys : List V}
    (hT : Tups g H L) (hb : ∀ e ∈ L, TS.Bd B (g e.2)) (p : ys.Perm (refs L)) (s : ys.Pairwise (fun x y => ∀ n m, TupI K H x n → TupI K H y m → TS.code B n ≤ TS.code B m)) :
    ∃ L' : List (Addr × α), L'.Perm L ∧ ys = refs L' ∧ (L'.map (·.2)).Pairwise (fun r s => fst r ≤ fst s) := by
  obtain ⟨L', p', e⟩ := perm_lift p L rfl
  subst e
  refine ⟨L', p', rfl, ?_⟩
  rw [List.pairwise_map] at s ⊢
  refine s.imp_of_mem fun {x y} hx hy h => ?_
  have mx := p'.mem_iff.mp hx
  have my := p'.mem_iff.mp hy
  have c := h (g x.2) (g y.2) ⟨x.1, rfl, SqT.of (hT x mx)⟩ ⟨y.1, rfl, SqT.of (hT y my)⟩
  have b1 := hb x mx
  have b2 := hb y my
  rw [hg] at c b1
  rw [hg y.2] at c b2
  exact code_first (by rw [hn, hn]) b1 b2 c
/-! ### as data -/
def tD (ns : List Int) : PyData := .tuple (ns.map .int)
def lD (ls : List (List Int)) : PyData := .list (ls.map tD)
theorem ints_lay : ∀ ns : List Int, PyData.canLayAll0 (ns.map .int) = true
  | [] => by simp [PyData.canLayAll0]
  | z :: zs => by simp [PyData.canLayAll0, PyData.canLay0, ints_lay zs]
theorem ints_depth : ∀ ns : List Int, PyData.depthAll (ns.map .int) ≤ 1
  | [] => by simp [PyData.depthAll]
  | z :: zs => by
    have h1 := ints_depth zs
    simp only [List.map_cons, PyData.depthAll, PyData.depth]
    omega
theorem tD_lay (ns : List Int) : (tD ns).canLay0 = true := by simp only [tD, PyData.canLay0]; exact ints_lay ns
theorem tD_depth (ns : List Int) : (tD ns).depth ≤ 2 := by
  have := ints_depth ns
  simp only [tD, PyData.depth]
  omega
theorem tDs_lay : ∀ ls : List (List Int), PyData.canLayAll0 (ls.map tD) = true
  | [] => by simp [PyData.canLayAll0]
  | z :: zs => by simp [PyData.canLayAll0, tD_lay z, tDs_lay zs]
theorem tDs_depth : ∀ ls : List (List Int), PyData.depthAll (ls.map tD) ≤ 2
  | [] => by simp [PyData.depthAll]
  | z :: zs => by
    have h1 := tDs_depth zs
    have h2 := tD_depth z
    simp only [List.map_cons, PyData.depthAll]
    omega
theorem tD_shaped (ns : List Int) : SeqAt.shaped (tD ns) = true := by
  have h := tD_depth ns
  show ((tD ns).canLay0 && decide ((tD ns).depth ≤ 64)) = true
  rw [Bool.and_eq_true]
  exact ⟨tD_lay ns, decide_eq_true (by omega)⟩
theorem lD_shaped (ls : List (List Int)) : SeqAt.shaped (lD ls) = true := by
  have h1 := tDs_depth ls
  have h2 : PyData.depth (lD ls) ≤ 64 := by
    simp only [lD, PyData.depth]
    omega
  show (PyData.canLay0 (lD ls) && decide (PyData.depth (lD ls) ≤ 64)) = true
  rw [Bool.and_eq_true]
  exact ⟨by simp only [lD, PyData.canLay0]; exact tDs_lay ls, decide_eq_true h2⟩
theorem lT_shaped (ls : List (List Int)) : SeqAt.shaped (.tuple (ls.map tD)) = true := by
  have h1 := tDs_depth ls
  have h2 : PyData.depth (.tuple (ls.map tD)) ≤ 64 := by
    simp only [PyData.depth]
    omega
  show (PyData.canLay0 (.tuple (ls.map tD)) && decide (PyData.depth (.tuple (ls.map tD)) ≤ 64)) = true
  rw [Bool.and_eq_true]
  exact ⟨by simp only [PyData.canLay0]; exact tDs_lay ls, decide_eq_true h2⟩
theorem ints_eqv : ∀ ns ms : List Int, PyData.eqvAll (ns.map .int) (ms.map .int) = decide (ns = ms)
  | [], [] => by simp [PyData.eqvAll]
  | [], _ :: _ => by simp [PyData.eqvAll]
  | _ :: _, [] => by simp [PyData.eqvAll]
  | n :: ns, m :: ms => by
    simp only [List.map_cons, PyData.eqvAll, PyData.eqv, ints_eqv ns ms]
    by_cases h1 : n = m
    · by_cases h2 : ns = ms <;> simp [h1, h2]
    · simp [h1]
theorem tD_eqv (ns ms : List Int) : PyData.eqv (tD ns) (tD ms) = decide (ns = ms) := by
  simp only [tD, PyData.eqv]
  exact ints_eqv ns ms
theorem tDs_eqv : ∀ ls ms : List (List Int), PyData.eqvAll (ls.map tD) (ms.map tD) = decide (ls = ms)
  | [], [] => by simp [PyData.eqvAll]
  | [], _ :: _ => by simp [PyData.eqvAll]
  | _ :: _, [] => by simp [PyData.eqvAll]
  | n :: ns, m :: ms => by
    simp only [List.map_cons, PyData.eqvAll, tD_eqv n m, tDs_eqv ns ms]
    by_cases h1 : n = m
    · by_cases h2 : ns = ms <;> simp [h1, h2]
    · simp [h1]
theorem lD_eqv (ls ms : List (List Int)) : PyData.eqv (lD ls) (lD ms) = decide (ls = ms) := by
  simp only [lD, PyData.eqv]
  exact tDs_eqv ls ms
theorem map_inj {α β : Type} {g : α → β} (hg : ∀ {a b}, g a = g b → a = b) : ∀ {xs ys : List α}, xs.map g = ys.map g → xs = ys
  | [], [], _ => rfl
  | [], _ :: _, h => by simp at h
  | _ :: _, [], h => by simp at h
  | x :: xs, y :: ys, h => by
    rw [List.map_cons, List.map_cons] at h
    injection h with h1 h2
    rw [hg h1, map_inj hg h2]
theorem lD_inj {α : Type} {g : α → List Int} (hg : ∀ {a b}, g a = g b → a = b) (xs ys : List α) [DecidableEq α] : PyData.eqv (lD (xs.map g)) (lD (ys.map g)) = decide (xs = ys) := by
  rw [lD_eqv]
  by_cases h : xs = ys
  · rw [h]; simp
  · rw [decide_eq_false h, decide_eq_false fun z => h (map_inj hg z)]
theorem tD_inj {α : Type} {g : α → List Int} (hg : ∀ {a b}, g a = g b → a = b) (x y : α) [DecidableEq α] : PyData.eqv (tD (g x)) (tD (g y)) = decide (x = y) := by
  rw [tD_eqv]
  by_cases h : x = y
  · rw [h]; simp
  · rw [decide_eq_false h, decide_eq_false fun z => h (hg z)]
section
variable {K : PySem.W.Frag} {H : Hp}
theorem dp_ints : ∀ ns : List Int, DpAll K H (ns.map V.int) (ns.map .int)
  | [] => .nil
  | n :: ns => .cons (.int n) (dp_ints ns)
theorem dp_tup {t : Addr} {ns : List Int} (h : H t = some (.tup (ns.map V.int))) : Dp K H (.ref t) (tD ns) := .tup (SqT.of h) (dp_ints ns)
theorem dp_refs {α : Type} {g : α → List Int} : ∀ {L : List (Addr × α)}, Tups g H L → DpAll K H (refs L) ((L.map (·.2)).map fun r => tD (g r))
  | [], _ => .nil
  | e :: L, h => .cons (dp_tup (h e List.mem_cons_self)) (dp_refs fun x m => h x (List.mem_cons_of_mem _ m))
theorem dp_ls {α : Type} {g : α → List Int} {a : Addr} {rs : List α} (h : Ls g H a rs) : Dp K H (.ref a) (lD (rs.map g)) := by
  obtain ⟨L, e, l, t⟩ := h
  subst e
  refine .lst (SqL.of l) ?_
  rw [List.map_map]
  exact dp_refs t
end
/-! ### instances -/
theorem rowsF (l : Addr) : ([("rows", V.ref l)] : List (Str × V)).lookup ("rows" : Str) = some (.ref l) := by
  have e : ([("rows", V.ref l)] : List (Str × V)) = putF ("rows" : Str) (V.ref l) [] := rfl
  rw [e, lookup_putF, if_pos rfl]
theorem rowsP (l : Addr) : putF ("rows" : Str) (V.ref l) [] = ([("rows", V.ref l)] : List (Str × V)) := rfl
theorem rowsP2 (l m : Addr) : putF ("rows" : Str) (V.ref m) ([("rows", V.ref l)] : List (Str × V)) = ([("rows", V.ref m)] : List (Str × V)) := by
  show (if ("rows" : Str) = "rows" then [(("rows" : Str), V.ref m)] else _) = ([("rows", V.ref m)] : List (Str × V))
  rw [if_pos rfl]
theorem rowsN (l : Addr) {m : Str} (h : ¬ m = "rows") : ([("rows", V.ref l)] : List (Str × V)).lookup m = none := by
  have e : ([("rows", V.ref l)] : List (Str × V)) = putF ("rows" : Str) (V.ref l) [] := rfl
  rw [e, lookup_putF, if_neg h]
  all_goals rfl
/-- a map, a set with its rows -/
def Inst {α : Type} (g : α → List Int) (C : Addr) (H : Hp) (x : Addr) (rs : List α) : Prop := ∃ dx l, H x = some (.ins C dx [("rows", V.ref l)]) ∧ Ls g H l rs
theorem Inst.same {α : Type} {g : α → List Int} {C : Addr} {H H' : Hp} {x : Addr} {rs : List α} (h : Inst g C H x rs) (s : Same H H') : Inst g C H' x rs := let ⟨dx, l, h1, h2⟩ := h; ⟨dx, l, s _ _ h1, h2.same s⟩
theorem Inst.but {α : Type} {g : α → List Int} {C : Addr} {H H' : Hp} {x a : Addr} {rs : List α} (h : Inst g C H x rs) (s : But a H H') {xs : List V} (ha : H a = some (.lst xs)) (n : ∀ dx l, H x = some (.ins C dx [("rows", V.ref l)]) → l ≠ a) : Inst g C H' x rs :=
  let ⟨dx, l, h1, h2⟩ := h
  ⟨dx, l, s _ _ h1 (ne_of h1 ha (by intro z; cases z)), h2.but s (n dx l h1) ha (lst_tup _)⟩
end K14
namespace K14
open PySem L2
open C8 (InsC call_isC pe_gc)
/-! ### the text by places -/
def top (i : Nat) : Stmt := PySem.Challenge.pw_mappedselves_k14_whole_maps_in_pieces.main.body.getD i (.Pass ⟨0, 0, 0, 0⟩)
abbrev sWhole : Stmt := top 8
abbrev sNumber : Stmt := top 9
abbrev sRun : Stmt := top 10
abbrev sJoined : Stmt := top 12
abbrev sInitS : Stmt := inClass (top 15) 0
abbrev sEqS : Stmt := inClass (top 15) 1
abbrev sSetOf : Stmt := top 16
abbrev sRange : Stmt := top 18
abbrev sApart : Stmt := top 19
abbrev sIsMap : Stmt := top 20
abbrev sOrder : Stmt := top 21
abbrev sInitR : Stmt := inClass (top 22) 0
abbrev sEqR : Stmt := inClass (top 22) 1
abbrev sRanges : Stmt := inClass (top 22) 2
abbrev sValue : Stmt := inClass (top 22) 3
abbrev sIns : Stmt := inClass (top 22) 6
abbrev sOuts : Stmt := inClass (top 22) 7
abbrev sSize : Stmt := inClass (top 22) 9
abbrev sCell : Stmt := top 25
abbrev sDigit : Stmt := top 26
abbrev sOne : Stmt := top 27
abbrev sDraw : Stmt := top 28
abbrev sPieces : Stmt := top 31
abbrev sLeast : Stmt := top 32
abbrev sTurned : Stmt := top 33
abbrev sLaw : Stmt := top 34
/-! ### what the text's names are -/
structure Txt (K : PySem.W.Frag) (mg : Str → Option Value) (R S : Addr) : Prop where
  len : mg "len" = none
  sorted : mg "sorted" = none
  isi : mg "isinstance" = none
  int : mg "int" = none
  bool : mg "bool" = none
  list : mg "list" = none
  tuple : mg "tuple" = none
  range : mg "range" = none
  max : mg "max" = none
  sum : mg "sum" = none
  top : ∃ u, mg "TOP" = some u ∧ RelV (.int 4294967295) u
  most : ∃ u, mg "MOST_ROWS" = some u ∧ RelV (.int 2000) u
  mgR : mg "RangeMap" = some (.ref R)
  mgS : mg "NumberSet" = some (.ref S)
  icR : InsC K R
  icS : InsC K S
  nR : NoAttr K R "rows"
  nS : NoAttr K S "rows"
section
variable {P : Program} {w : World} {K : PySem.W.Frag} {mg : Str → Option Value} {base : Heap} {R S : Addr}
/-! ### numbers -/
theorem scWhole : FnScope ["value"] ["value"] (defScope sWhole) := ⟨rfl, rfl, rfl, by decide +kernel, rfl, by decide +kernel, by decide +kernel⟩
def spWhole : Sp := fun vs H Q _ => ∃ i : Int, vs = [.int i] ∧ Q (.bl true) H
theorem ok_whole {f : Addr} {fd : FuncData} (F : Fun K "is_whole" "is_whole" sWhole f fd) (T : Txt K mg R S) : FnOk P w K mg base CX0 1 f fd ["value"] spWhole := by
  refine F.ok scWhole (fun vs H Q E h => ?_) (fun cdv A outer s H vs Q E hr h => ?_)
  · obtain ⟨i, rfl, _⟩ := h
    rfl
  · obtain ⟨i, rfl, q⟩ := h
    refine ⟨_, pss_one (ps_ret (pe_and (pe_callB call_isi (by rfl) T.isi (by decide +kernel) (pa_cons (pv 0) (pa_cons (pe_bltn (v := .ty "int") (by rfl) T.int (by decide +kernel) rfl) pa_nil)))
      (pe_one (pe_not (pe_callB call_isi (by rfl) T.isi (by decide +kernel) (pa_cons (pv 0) (pa_cons (pe_bltn (v := .ty "bool") (by rfl) T.bool (by decide +kernel) rfl) pa_nil))))))), ?_⟩
    refine ⟨_, rfl, _, _, _, _, _, rfl, .ty "int", .base (.int i), kit_ty (by decide +kernel), true, rfl, iteT ?_⟩
    refine ⟨_, rfl, _, _, _, _, _, rfl, .ty "bool", .base (.int i), kit_ty (r := false) (by decide +kernel), false, rfl, q⟩
theorem scNumber : FnScope ["value"] ["value"] (defScope sNumber) := ⟨rfl, rfl, rfl, by decide +kernel, rfl, by decide +kernel, by decide +kernel⟩
def spNumber : Sp := fun vs H Q _ => ∃ i : Int, vs = [.int i] ∧ 0 ≤ i ∧ i < TOP ∧ Q (.bl true) H
theorem ok_number {f f1 : Addr} {fd fd1 : FuncData} (F : Fun K "is_number" "is_number" sNumber f fd) (T : Txt K mg R S) (F1 : Fun K "is_whole" "is_whole" sWhole f1 fd1) (b1 : Binds K fd1 ["value"] []) (g1 : mg "is_whole" = some (.ref f1)) : FnOk P w K mg base CX0 2 f fd ["value"] spNumber := by
  have G1 : FnOk P w K mg base CX0 1 f1 fd1 ["value"] spWhole := ok_whole F1 T
  refine F.ok scNumber (fun vs H Q E h => ?_) (fun cdv A outer s H vs Q E hr h => ?_)
  · obtain ⟨i, rfl, _⟩ := h
    rfl
  · obtain ⟨i, rfl, h0, h1, q⟩ := h
    refine ⟨_, pss_one (ps_ret (pe_and (pe_call G1 hr (by rfl) g1 F1.kp b1 .nil pass0 (pa_cons (pv 0) pa_nil)) (pe_one (pe_chain op_le op_lt pe_int (pv 0) (pe_gc (v := .int 4294967295) (by rfl) T.top))))), ?_⟩
    refine ⟨_, rfl, i, rfl, true, rfl, iteT ?_⟩
    refine ⟨_, rfl, _, _, rfl, rfl, _, rfl, ?_⟩
    rw [decide_eq_true h0]
    refine iteT ⟨_, _, rfl, rfl, ?_⟩
    have h1 : i < 4294967295 := h1
    show Q (.bl (decide (i < 4294967295))) H
    rw [decide_eq_true h1]
    exact q
theorem scRun : FnScope ["first", "count"] ["first", "count"] (defScope sRun) := ⟨rfl, rfl, rfl, by decide +kernel, rfl, by decide +kernel, by decide +kernel⟩
def spRun : Sp := fun vs H Q _ => ∃ i n : Int, vs = [.int i, .int n] ∧ RunOk i n ∧ Q (.bl true) H
theorem ok_run {f f1 f2 : Addr} {fd fd1 fd2 : FuncData} (F : Fun K "is_run" "is_run" sRun f fd) (T : Txt K mg R S) (F1 : Fun K "is_whole" "is_whole" sWhole f1 fd1) (b1 : Binds K fd1 ["value"] []) (g1 : mg "is_whole" = some (.ref f1))
    (F2 : Fun K "is_number" "is_number" sNumber f2 fd2) (b2 : Binds K fd2 ["value"] []) (g2 : mg "is_number" = some (.ref f2)) : FnOk P w K mg base CX0 3 f fd ["first", "count"] spRun := by
  have G1 : FnOk P w K mg base CX0 1 f1 fd1 ["value"] spWhole := ok_whole F1 T
  have G2 : FnOk P w K mg base CX0 2 f2 fd2 ["value"] spNumber := ok_number F2 T F1 b1 g1
  refine F.ok scRun (fun vs H Q E h => ?_) (fun cdv A outer s H vs Q E hr h => ?_)
  · obtain ⟨i, n, rfl, _⟩ := h
    rfl
  · obtain ⟨i, n, rfl, ⟨h0, h1, h2, h3⟩, q⟩ := h
    refine ⟨_, pss_one (ps_ret (pe_and (pe_call G2 hr (by rfl) g2 F2.kp b2 .nil pass0 (pa_cons (pv 0) pa_nil)) (pe_and (pe_call G1 (hr.mono (by decide)) (by rfl) g1 F1.kp b1 .nil pass0 (pa_cons (pv 1) pa_nil))
      (pe_one (pe_chain op_le op_le pe_int (pv 1) (pe_op op_sub (pe_gc (v := .int 4294967295) (by rfl) T.top) (pv 0))))))), ?_⟩
    refine ⟨_, rfl, i, rfl, h0, h1, true, rfl, iteT ?_⟩
    refine ⟨_, rfl, n, rfl, true, rfl, iteT ?_⟩
    refine ⟨_, rfl, _, _, rfl, rfl, _, rfl, ?_⟩
    rw [decide_eq_true h2]
    refine iteT ⟨_, rfl, _, _, rfl, rfl, _, _, rfl, rfl, ?_⟩
    have h3 : n ≤ 4294967295 - i := h3
    show Q (.bl (decide (n ≤ 4294967295 - i))) H
    rw [decide_eq_true h3]
    exact q
end
end K14
namespace K14
open PySem L2
open C8 (InsC call_isC pe_gc)
theorem ixN_last {n : Nat} : ixN (n + 1) (-1) = some n := by
  unfold ixN
  rw [if_neg (by decide), if_pos (by omega)]
  congr 1
  omega
theorem ixN_lastL {α : Type} (xs : List α) (v : α) : ixN (xs ++ [v]).length (-1) = some xs.length := by
  rw [List.length_append, List.length_singleton]
  exact ixN_last
theorem set_last {α : Type} (xs : List α) (v w : α) : (xs ++ [v]).set xs.length w = xs ++ [w] := by
  rw [List.set_append_right _ _ (Nat.le_refl _), Nat.sub_self]
  rfl
section
variable {α : Type} {g : α → List Int} {H H' H0 : Hp} {a : Addr} {rs : List α}
theorem refs_snoc (M : List (Addr × α)) (e : Addr × α) : refs (M ++ [e]) = refs M ++ [V.ref e.1] := by
  show (M ++ [e]).map _ = _
  rw [List.map_append]
  rfl
theorem take_snoc {l : List α} {i : Nat} {x : α} (h : l[i]? = some x) : l.take (i + 1) = l.take i ++ [x] := by
  rw [List.take_add_one, h]
  rfl
/-- a new tuple, put behind a list that was made meanwhile -/
theorem push_new {D p : Addr} {out : List α} (r : α) (h0 : H0 D = none) (s : Same H0 H) (h : Ls g H D out) (hp : H p = none) :
    ∃ acc, (upd H p (tv g r)) D = some (.lst acc) ∧ acc.length = out.length ∧ Same H0 (upd (upd H p (tv g r)) D (.lst (acc ++ [V.ref p]))) ∧ Ls g (upd (upd H p (tv g r)) D (.lst (acc ++ [V.ref p]))) D (out ++ [r]) := by
  obtain ⟨M, e, l, t⟩ := h
  have nD : D ≠ p := ne_of_none l hp
  have l' : (upd H p (tv g r)) D = some (.lst (refs M)) := by rw [upd_ne nD]; exact l
  have t' : Tups g (upd H p (tv g r)) M := t.same (Same.upd hp)
  refine ⟨refs M, l', by rw [refs_len, ← e, List.length_map], fun b o eb => ?_, ?_⟩
  · rw [upd_ne (ne_of_none eb h0), upd_ne (ne_of_none (s _ _ eb) hp)]
    exact s _ _ eb
  · have := Ls.push (g := g) l' t' (r := r) (t := p) upd_same
    rw [e] at this
    exact this
/-- a new tuple, put in the place of the last one -/
theorem swap_new {D p : Addr} {M : List (Addr × α)} {e : Addr × α} (r : α) (h0 : H0 D = none) (s : Same H0 H) (l : H D = some (.lst (refs (M ++ [e])))) (t : Tups g H (M ++ [e])) (hp : H p = none) :
    (upd H p (tv g r)) D = some (.lst (refs (M ++ [e]))) ∧ Same H0 (upd (upd H p (tv g r)) D (.lst ((refs (M ++ [e])).set M.length (V.ref p)))) ∧ Ls g (upd (upd H p (tv g r)) D (.lst ((refs (M ++ [e])).set M.length (V.ref p)))) D (M.map (·.2) ++ [r]) := by
  have nD : D ≠ p := ne_of_none l hp
  refine ⟨by rw [upd_ne nD]; exact l, fun b o eb => ?_, ?_⟩
  · rw [upd_ne (ne_of_none eb h0), upd_ne (ne_of_none (s _ _ eb) hp)]
    exact s _ _ eb
  · have l' : (upd H p (tv g r)) D = some (.lst (refs (M ++ [e]))) := by rw [upd_ne nD]; exact l
    have t' : Tups g (upd H p (tv g r)) (M ++ [(p, r)]) := fun x m => by
      rcases List.mem_append.mp m with m | m
      · exact (Tups.same t (Same.upd hp)) x (List.mem_append_left _ m)
      · rw [List.mem_singleton] at m
        subst m
        exact upd_same
    have := Ls.put (g := g) (M := M ++ [(p, r)]) l' t'
    rw [refs_snoc] at this ⊢
    have z : (refs M ++ [V.ref e.1]).set M.length (V.ref p) = refs M ++ [V.ref p] := by
      have := set_last (refs M) (V.ref e.1) (V.ref p)
      rw [refs_len] at this
      exact this
    rw [z]
    rw [List.map_append] at this
    exact this
/-- sorted(..) of a list of tuples -/
def SortOut {α : Type} (g : α → List Int) (fst : α → Int) (n : Nat) (B : Int) (K : PySem.W.Frag) (H : Hp) (a : Addr) (rs : List α) : Prop :=
    ∃ xs, SqL K H a xs ∧ xs.length < 64 ∧ (∀ x ∈ xs, ∃ ns, TupI K H x ns ∧ ns.length = n + 1 ∧ TS.Bd B ns) ∧
      ∀ (ys : List V) (p : Addr), ys.Perm xs → ys.Pairwise (fun x y => ∀ n m, TupI K H x n → TupI K H y m → TS.code B n ≤ TS.code B m) → H p = none →
        ∃ L : List (Addr × α), ys = refs L ∧ (L.map (·.2)).Perm rs ∧ (L.map (·.2)).Pairwise (fun r s => fst r ≤ fst s) ∧ Tups g H L
theorem sort_ls {g : α → List Int} {fst : α → Int} {tl : α → List Int} (hg : ∀ r, g r = fst r :: tl r) {n : Nat} (hn : ∀ r, (tl r).length = n) {K : PySem.W.Frag} {B : Int} (h : Ls g H a rs) (hl : rs.length < 64) (hb : ∀ r ∈ rs, TS.Bd B (g r)) : SortOut g fst n B K H a rs := by
  obtain ⟨L, e, l, t⟩ := h
  have hb' : ∀ e ∈ L, TS.Bd B (g e.2) := fun x m => hb _ (by rw [← e]; exact List.mem_map_of_mem m)
  refine ⟨refs L, SqL.of l, by rw [refs_len]; rw [← e, List.length_map] at hl; exact hl, fun x hx => ?_, fun ys p pm pw hp => ?_⟩
  · obtain ⟨q, hq, z⟩ := List.mem_map.mp hx
    subst z
    refine ⟨g q.2, ⟨q.1, rfl, SqT.of (t q hq)⟩, ?_, hb' q hq⟩
    rw [hg, List.length_cons, hn]
  · obtain ⟨L', p', z, s⟩ := sorted_ls hg hn t hb' pm pw
    refine ⟨L', z, ?_, s, fun x m => t x (p'.mem_iff.mp m)⟩
    rw [← e]
    exact p'.map _
end
theorem bd_row {r : Row} (h : RowOk r) : TS.Bd 4294967296 (rI r) := fun m hm => by
  obtain ⟨⟨a1, a2, a3, a4⟩, b1, b2, b3, b4⟩ := h
  unfold TOP at a2 a4 b2 b4
  have q : m = r.1 ∨ m = r.2.1 ∨ m = r.2.2 := by simpa [rI] using hm
  rcases q with q | q | q <;> subst q <;> omega
theorem bd_ins {r : Row} (h : RowOk r) : TS.Bd 4294967296 (pI (insP r)) := fun m hm => by
  obtain ⟨⟨a1, a2, a3, a4⟩, b1, b2, b3, b4⟩ := h
  unfold TOP at a2 a4 b2 b4
  have q : m = r.1 ∨ m = r.2.2 := by simpa [pI, insP] using hm
  rcases q with q | q <;> subst q <;> omega
theorem bd_out {r : Row} (h : RowOk r) : TS.Bd 4294967296 (pI (outP r)) := fun m hm => by
  obtain ⟨⟨a1, a2, a3, a4⟩, b1, b2, b3, b4⟩ := h
  unfold TOP at a2 a4 b2 b4
  have q : m = r.2.1 ∨ m = r.2.2 := by simpa [pI, outP] using hm
  rcases q with q | q <;> subst q <;> omega
theorem sort_rows {K : PySem.W.Frag} {H : Hp} {a : Addr} {rs : List Row} (h : Ls rI H a rs) (hl : rs.length < 64) (hv : VM rs) : SortOut rI (fun r => r.1) 2 4294967296 K H a rs :=
  sort_ls (g := rI) (fst := fun r => r.1) (tl := fun r => [r.2.1, r.2.2]) (fun _ => rfl) (n := 2) (fun _ => rfl) (K := K) h hl fun r hr => bd_row (hv.ok r hr)
theorem sort_prts {K : PySem.W.Frag} {H : Hp} {a : Addr} {ps : List Prt} (h : Ls pI H a ps) (hl : ps.length < 64) (hb : ∀ p ∈ ps, TS.Bd 4294967296 (pI p)) : SortOut pI (fun p => p.1) 1 4294967296 K H a ps :=
  sort_ls (g := pI) (fst := fun r => r.1) (tl := fun r => [r.2]) (fun _ => rfl) (n := 1) (fun _ => rfl) (K := K) h hl hb
theorem slen {n : Nat} (h : n ≤ 1000) : n < sizeLine := small1000 h
end K14
namespace K14
open PySem L2
open C8 (InsC call_isC pe_gc)
section
variable {P : Program} {w : World} {K : PySem.W.Frag} {mg : Str → Option Value} {base : Heap} {R S : Addr}
/-! ### is_range -/
theorem scRange : FnScope ["value"] ["value"] (defScope sRange) := ⟨rfl, rfl, rfl, by decide +kernel, rfl, by decide +kernel, by decide +kernel⟩
def spRange : Sp := fun vs H Q _ => ∃ (t : Addr) (r : Row), vs = [.ref t] ∧ H t = some (tv rI r) ∧ RowOk r ∧ Q (.bl true) H
theorem ok_range {f f1 : Addr} {fd fd1 : FuncData} (F : Fun K "is_range" "is_range" sRange f fd) (T : Txt K mg R S) (F1 : Fun K "is_run" "is_run" sRun f1 fd1) (b1 : Binds K fd1 ["first", "count"] []) (g1 : mg "is_run" = some (.ref f1))
    (G1 : FnOk P w K mg base CX0 3 f1 fd1 ["first", "count"] spRun) : FnOk P w K mg base CX0 4 f fd ["value"] spRange := by
  refine F.ok scRange (fun vs H Q E h => ?_) (fun cdv A outer s H vs Q E hr h => ?_)
  · obtain ⟨t, r, rfl, _⟩ := h
    rfl
  · obtain ⟨t, r, rfl, ht, ⟨o1, o2⟩, q⟩ := h
    refine ⟨_, pss_cons (ps_if (PW.pt (pw_or (pt_not (pt_val (pe_callB call_isi (by rfl) T.isi (by decide +kernel) (pa_cons (pv 0) (pa_cons (pe_bltn (v := .ty "tuple") (by rfl) T.tuple (by decide +kernel) rfl) pa_nil)))))
        (pw_or1 (pt_cmpR op_ne (pe_callB call_len_seq (by rfl) T.len PySem.boot_len (pa_cons (pv 0) pa_nil)) pe_int (nomark _))))) (pss_one (ps_ret pe_bl)) pss_nil)
      (pss_one (ps_ret (pe_and (pe_call G1 hr (by rfl) g1 F1.kp b1 .nil pass0 (pa_cons (pe_ix ix_tup (pv 0) pe_int (fun _ _ => rfl)) (pa_cons (pe_ix ix_tup (pv 0) pe_int (fun _ _ => rfl)) pa_nil)))
        (pe_one (pe_call G1 hr (by rfl) g1 F1.kp b1 .nil pass0 (pa_cons (pe_ix ix_tup (pv 0) pe_int (fun _ _ => rfl)) (pa_cons (pe_ix ix_tup (pv 0) pe_int (fun _ _ => rfl)) pa_nil))))))), ?_⟩
    refine ⟨_, rfl, _, _, _, _, _, rfl, .ty "tuple", .base (.tup ht), kit_ty (by decide +kernel), true, rfl, ?_⟩
    refine iteF ⟨_, rfl, t, _, rfl, .inr (SqT.of ht), rfl, _, rfl, ?_⟩
    refine iteF ?_
    refine ⟨_, rfl, _, _, _, _, rfl, rfl, SqT.of ht, rfl, _, rfl, _, _, _, _, rfl, rfl, SqT.of ht, rfl, r.1, r.2.2, rfl, o1, true, rfl, iteT ?_⟩
    exact ⟨_, rfl, _, _, _, _, rfl, rfl, SqT.of ht, rfl, _, rfl, _, _, _, _, rfl, rfl, SqT.of ht, rfl, r.2.1, r.2.2, rfl, o2, q⟩
/-! ### are_apart -/
theorem scApart : FnScope ["rows", "k"] ["rows"] (defScope sApart) := ⟨rfl, rfl, rfl, by decide +kernel, rfl, by decide +kernel, by decide +kernel⟩
def spApart : Sp := fun vs H Q _ => ∃ (a : Addr) (ps : List Prt), vs = [.ref a] ∧ Ls pI H a ps ∧ ps.length ≤ 1000 ∧ ps.Pairwise (fun p q => p.1 + p.2 ≤ q.1) ∧ Q (.bl true) H
theorem ok_apart {f : Addr} {fd : FuncData} (F : Fun K "are_apart" "are_apart" sApart f fd) (T : Txt K mg R S) : FnOk P w K mg base CX0 1 f fd ["rows"] spApart := by
  refine F.ok scApart (fun vs H Q E h => ?_) (fun cdv A outer s H vs Q E hr h => ?_)
  · obtain ⟨a, ps, rfl, _⟩ := h
    rfl
  · obtain ⟨a, ps, rfl, hL, hlen, hp, q⟩ := h
    obtain ⟨L, eL, l, hT, ll, at_⟩ := hL.at
    refine ⟨_, pss_cons (ps_for PassesOwn.never rfl (pi_range2 (by rfl) T.range (pa_cons pe_int (pa_cons (pe_callB call_len_seq (by rfl) T.len PySem.boot_len (pa_cons (pv 0) pa_nil)) pa_nil))) (pg_name (i := 1) scApart.nd rfl (.inl rfl))
        (pss_one (ps_if (pt_cmpR op_lt (pe_ix ix_tup (pe_ix ix_list (pv 0) (pv 1) (fun _ _ => rfl)) pe_int (fun _ _ => rfl))
            (pe_op op_add (pe_ix ix_tup (pe_ix ix_list (pv 0) (pe_op op_sub (pv 1) pe_int) (fun _ _ => rfl)) pe_int (fun _ _ => rfl)) (pe_ix ix_tup (pe_ix ix_list (pv 0) (pe_op op_sub (pv 1) pe_int) (fun _ _ => rfl)) pe_int (fun _ _ => rfl))) (nomark _))
          (pss_one (ps_ret pe_bl)) pss_nil)))
      (pss_one (ps_ret pe_bl)), ?_⟩
    refine ⟨_, rfl, a, refs L, rfl, .inl (SqL.of l), 1, _, rfl, ?_, ?_⟩
    · rw [refs_len, ll]
      have : (ps.length : Int) ≤ 1000 := by omega
      refine ⟨by decide, by decide, ?_, ?_⟩
      · have : (0 : Int) ≤ ps.length := Int.natCast_nonneg _
        have : -(2 ^ 62 : Int) ≤ 0 := by decide
        omega
      · have : (1000 : Int) < 2 ^ 62 := by decide
        omega
    · refine for_range (lo := 1) (fun i σ H' => H' = H ∧ ∃ y, σ = [some (.ref a), y]) ⟨rfl, none, rfl⟩ ?_ ?_
      · rintro i σ H' hi ⟨rfl, y, rfl⟩
        rw [refs_len, ll] at hi
        have h1 : i + 1 < ps.length := by omega
        have h0 : i < ps.length := by omega
        obtain ⟨t1, z1, x1⟩ := at_ (i + 1) ps[i + 1] (List.getElem?_eq_getElem h1)
        obtain ⟨t0, z0, x0⟩ := at_ i ps[i] (List.getElem?_eq_getElem h0)
        have a1 : atI (refs L) (1 + (i : Int)) = some (V.ref t1) := at_of (j := i + 1) (by omega) z1
        have a0 : atI (refs L) (1 + (i : Int) - 1) = some (V.ref t0) := at_of (j := i) (by omega) z0
        refine ⟨_, rfl, _, rfl, a, _, _, _, rfl, rfl, SqL.of l, a1, t1, _, _, _, rfl, rfl, SqT.of x1, rfl, ?_⟩
        refine ⟨_, rfl, _, rfl, _, _, rfl, rfl, a, _, _, _, rfl, rfl, SqL.of l, a0, t0, _, _, _, rfl, rfl, SqT.of x0, rfl, ?_⟩
        refine ⟨_, rfl, _, rfl, _, _, rfl, rfl, a, _, _, _, rfl, rfl, SqL.of l, a0, t0, _, _, _, rfl, rfl, SqT.of x0, rfl, ?_⟩
        refine ⟨_, _, rfl, rfl, _, _, rfl, rfl, _, rfl, ?_⟩
        have c := List.pairwise_iff_getElem.mp hp i (i + 1) h0 h1 (by omega)
        refine ite2 (fun z => ?_) fun _ => ⟨rfl, _, rfl⟩
        have z : decide (ps[i + 1].1 < ps[i].1 + ps[i].2) = true := z
        have z := of_decide_eq_true z
        omega
      · rintro σ H' ⟨rfl, y, rfl⟩
        exact q
end
end K14
namespace K14
open PySem L2
open C8 (InsC call_isC pe_gc)
section
variable {P : Program} {w : World} {K : PySem.W.Frag} {mg : Str → Option Value} {base : Heap} {R S : Addr}
/-! ### in_order -/
theorem scOrder : FnScope ["ranges", "found", "inside", "outside", "count", "first", "goal", "many"] ["ranges"] (defScope sOrder) := ⟨rfl, rfl, rfl, by decide +kernel, rfl, by decide +kernel, by decide +kernel⟩
def spOrder : Sp := fun vs H Q _ => ∃ (a : Addr) (rs : List Row), vs = [.ref a] ∧ Ls rI H a rs ∧ VM rs ∧ rs.length < 64 ∧ ∀ H' p qs, Same H H' → H p = none → Ls rI H' p qs → IsNF rs qs → Q (.ref p) H'
theorem ok_order {f : Addr} {fd : FuncData} (F : Fun K "in_order" "in_order" sOrder f fd) (T : Txt K mg R S) : FnOk P w K mg base CX0 1 f fd ["ranges"] spOrder := by
  refine F.ok scOrder (fun vs H Q E h => ?_) (fun cdv A outer s H vs Q E hr h => ?_)
  · obtain ⟨a, rs, rfl, _⟩ := h
    rfl
  · obtain ⟨a, rs, rfl, hL, hv, hlen, q⟩ := h
    refine ⟨_, pss_cons (ps_set (i := 1) scOrder.nd rfl (.inl rfl) (pe_lst pa_nil))
      (pss_cons (ps_for PassesOwn.never rfl (pi_list (pe_callB (cr_sortT (d := 3) (B := 4294967296) (by decide)) (by rfl) T.sorted (by decide +kernel) (pa_cons (pv 0) pa_nil)))
          (pg_tup rfl (pgs_cons (pg_name (i := 2) scOrder.nd rfl (.inl rfl)) (pgs_cons (pg_name (i := 3) scOrder.nd rfl (.inl rfl)) (pgs_cons (pg_name (i := 4) scOrder.nd rfl (.inl rfl)) pgs_nil))))
          (pss_cons (ps_if (pt_truth (pv 1) (by intro _; rfl))
              (pss_cons (ps_asg (pe_ix ix_list (pv 1) (pe_un un_neg pe_int) (fun _ _ => rfl)) (pg_tup rfl (pgs_cons (pg_name (i := 5) scOrder.nd rfl (.inl rfl)) (pgs_cons (pg_name (i := 6) scOrder.nd rfl (.inl rfl)) (pgs_cons (pg_name (i := 7) scOrder.nd rfl (.inl rfl)) pgs_nil)))))
              (pss_one (ps_if (PW.pt (pw_and (pt_cmpR op_eq (pv 2) (pe_op op_add (pv 5) (pv 7)) (nomark _)) (pw_and1 (pt_cmpR op_eq (pv 3) (pe_op op_add (pv 6) (pv 7)) (nomark _)))))
                (pss_cons (ps_asg (pe_tup (pa_cons (pv 5) (pa_cons (pv 6) (pa_cons (pe_op op_add (pv 7) (pv 4)) pa_nil)))) (pg_sub (pv 1) (pe_un un_neg pe_int) set_list)) (pss_one ps_continue)) pss_nil))) pss_nil)
          (pss_one (ps_expr (pe_bm PySem.F.plainAttrs_list PySem.F.slot_list_append PySem.F.type_list_append mt_append (pv 1) (pa_cons (pe_tup (pa_cons (pv 2) (pa_cons (pv 3) (pa_cons (pv 4) pa_nil)))) pa_nil))))))
      (pss_one (ps_ret (pv 1)))), ?_⟩
    refine ⟨Nat.zero_le _, fun o no => ?_⟩
    have s1 : Same H (upd H o (.lst [])) := Same.upd no
    obtain ⟨xs, x1, x2, x3, x4⟩ := sort_rows (K := K) (hL.same s1) hlen hv
    refine ⟨_, rfl, a, xs, rfl, x1, x2, x3, fun ys p pm pw np => ?_⟩
    obtain ⟨L, rfl, pL, sL, tL⟩ := x4 ys p pm pw np
    have npo : o ≠ p := ne_of_none upd_same np
    have s2 : Same H (upd (upd H o (.lst [])) p (.lst (refs L))) := s1.then np
    have lenL : L.length = rs.length := by
      have := pL.length_eq
      rw [List.length_map] at this
      exact this
    refine ⟨p, rfl, ⟨_, SqL.of upd_same⟩, for_list (K := K) (a := p) (xs := refs L) (fun i σ H' => (∃ y2 y3 y4 y5 y6 y7, σ = [some (.ref a), some (.ref o), y2, y3, y4, y5, y6, y7]) ∧ Same H H' ∧ H' p = some (.lst (refs L)) ∧ Tups rI H' L ∧ Ls rI H' o (((L.map (·.2)).take i).foldl step []))
      ⟨⟨_, _, _, _, _, _, rfl⟩, s2, upd_same, tL.same (Same.upd np), Ls.nil (by rw [upd_ne npo]; exact upd_same)⟩ (fun i σ H' _ h => SqL.of h.2.2.1) ?_ ?_⟩
    · rintro i x σ H' hi ⟨⟨y2, y3, y4, y5, y6, y7, rfl⟩, sm, hp, ht, hl⟩
      obtain ⟨e, he, rfl⟩ := refs_at hi
      have hi64 : i < 64 := by
        have := (List.getElem?_eq_some_iff.mp he).1
        omega
      have tk := take_snoc (l := L.map (·.2)) (i := i) (x := e.2) (by rw [List.getElem?_map, he]; rfl)
      refine ⟨e.1, _, rfl, SqT.of (ht e (List.mem_of_getElem? he)), rfl, _, _, rfl, _, _, rfl, _, _, rfl, rfl, ?_⟩
      obtain ⟨M, eM, lM, tM⟩ := id hl
      have lenM : M.length ≤ i := by
        have h1 : M.length = (((L.map (·.2)).take i).foldl step []).length := by rw [← eM, List.length_map]
        have h2 : ∀ (l acc : List Row), (l.foldl step acc).length ≤ acc.length + l.length := by
          intro l
          induction l with
          | nil => intro acc; simp
          | cons r l ih =>
            intro acc
            have h3 := ih (step acc r)
            have h4 : (step acc r).length ≤ acc.length + 1 := by
              rcases snoc_cases acc with z | ⟨init, x, z⟩
              · subst z; simp [step_nil]
              · subst z
                rw [step_snoc]
                split <;> simp
            show (l.foldl step (step acc r)).length ≤ acc.length + (l.length + 1)
            omega
        have h3 := h2 ((L.map (·.2)).take i) []
        rw [← h1, List.length_take] at h3
        simp only [List.length_nil, Nat.zero_add] at h3
        exact Nat.le_trans h3 (Nat.min_le_left _ _)
      have fold : ∀ acc, ((L.map (·.2)).take i).foldl step [] = acc → ((L.map (·.2)).take (i + 1)).foldl step [] = step acc e.2 := fun acc h => by
        rw [tk, List.foldl_append, h]
        rfl
      have close : ∀ (t : Addr) (y5 y6 y7 : Option V), step (M.map (·.2)) e.2 = M.map (·.2) ++ [e.2] → H' t = none → ∃ acc, (upd H' t (tv rI e.2)) o = some (.lst acc) ∧ acc.length < sizeLine ∧
          Same H (upd (upd H' t (tv rI e.2)) o (.lst (acc ++ [V.ref t]))) ∧ (upd (upd H' t (tv rI e.2)) o (.lst (acc ++ [V.ref t]))) p = some (.lst (refs L)) ∧ Tups rI (upd (upd H' t (tv rI e.2)) o (.lst (acc ++ [V.ref t]))) L ∧
          Ls rI (upd (upd H' t (tv rI e.2)) o (.lst (acc ++ [V.ref t]))) o (((L.map (·.2)).take (i + 1)).foldl step []) := fun t y5 y6 y7 hs nt => by
        obtain ⟨acc, c1, c2, c3, c4⟩ := push_new (g := rI) e.2 no sm hl nt
        have npt : p ≠ t := ne_of_none hp nt
        refine ⟨acc, c1, ?_, c3, ?_, ?_, ?_⟩
        · rw [c2, ← eM, List.length_map]
          exact slen (by omega)
        · rw [upd_ne npo.symm, upd_ne npt]
          exact hp
        · exact Tups.but (ht.same (Same.upd nt)) But.upd c1 (lst_tup _)
        · rw [fold _ eM.symm, hs]
          rw [← eM] at c4
          exact c4
      refine ⟨.ref o, rfl, !(refs M).isEmpty, .inl ⟨_, SqL.of lM, rfl⟩, ?_⟩
      rcases snoc_cases M with z | ⟨M0, m, z⟩
      · subst z
        refine iteF ?_
        refine ⟨.ref o, rfl, .inl ⟨rfl, _, SqL.of lM⟩, _, rfl, _, rfl, _, rfl, by show 3 ≤ sizeLine; decide, fun t nt => ?_⟩
        obtain ⟨acc, c1, c2, c3, c4, c5, c6⟩ := close t none none none rfl nt
        exact ⟨o, acc, _, rfl, rfl, c1, c2, ⟨_, _, _, _, _, _, rfl⟩, c3, c4, c5, c6⟩
      · subst z
        have ne : (!(refs (M0 ++ [m])).isEmpty) = true := by rw [refs_snoc]; simp
        rw [ne]
        refine iteT ?_
        have hm : H' m.1 = some (tv rI m.2) := tM m (by simp)
        refine ⟨.ref o, rfl, 1, rfl, o, _, _, _, rfl, rfl, SqL.of lM, by rw [refs_snoc]; exact atI_last _ _, m.1, _, rfl, SqT.of hm, rfl, _, _, rfl, _, _, rfl, _, _, rfl, rfl, ?_⟩
        refine ⟨_, rfl, _, rfl, _, rfl, _, _, rfl, rfl, rfl, _, rfl, ?_⟩
        have st := step_snoc (M0.map (·.2)) m.2 e.2
        have mm : (M0 ++ [m]).map (·.2) = M0.map (·.2) ++ [m.2] := by simp
        by_cases c1 : e.2.1 = m.2.1 + m.2.2.2
        · have d1 : decide (V.int e.2.1 = V.int (m.2.1 + m.2.2.2)) = true := decide_eq_true (by rw [c1])
          rw [d1]
          refine iteT ⟨_, rfl, _, rfl, _, rfl, _, _, rfl, rfl, rfl, _, rfl, ?_⟩
          by_cases c2 : e.2.2.1 = m.2.2.1 + m.2.2.2
          · have d2 : decide (V.int e.2.2.1 = V.int (m.2.2.1 + m.2.2.2)) = true := decide_eq_true (by rw [c2])
            rw [d2]
            refine iteT ?_
            refine ⟨_, rfl, _, rfl, _, rfl, _, rfl, _, _, rfl, rfl, by show 3 ≤ sizeLine; decide, fun t nt => ?_⟩
            obtain ⟨k1, k2, k3⟩ := swap_new (g := rI) (m.2.1, m.2.2.1, m.2.2.2 + e.2.2.2) no sm lM tM nt
            have npt : p ≠ t := ne_of_none hp nt
            refine ⟨.ref o, rfl, 1, rfl, o, _, -1, M0.length, rfl, rfl, k1, ?_, ?_⟩
            · rw [refs_snoc, ixN_lastL, refs_len]
            · refine ⟨⟨_, _, _, _, _, _, rfl⟩, k2, ?_, Tups.but (ht.same (Same.upd nt)) But.upd k1 (lst_tup _), ?_⟩
              · rw [upd_ne npo.symm, upd_ne npt]
                exact hp
              · rw [fold _ eM.symm, mm, st, if_pos ⟨c1, c2⟩]
                exact k3
          · have d2 : decide (V.int e.2.2.1 = V.int (m.2.2.1 + m.2.2.2)) = false := decide_eq_false fun q => c2 (V.int.inj q)
            rw [d2]
            refine iteF ?_
            refine ⟨.ref o, rfl, .inl ⟨rfl, _, SqL.of lM⟩, _, rfl, _, rfl, _, rfl, by show 3 ≤ sizeLine; decide, fun t nt => ?_⟩
            obtain ⟨acc, c1, c2, c3, c4, c5, c6⟩ := close t none none none (by rw [mm, st, if_neg (fun q => c2 q.2)]) nt
            exact ⟨o, acc, _, rfl, rfl, c1, c2, ⟨_, _, _, _, _, _, rfl⟩, c3, c4, c5, c6⟩
        · have d1 : decide (V.int e.2.1 = V.int (m.2.1 + m.2.2.2)) = false := decide_eq_false fun q => c1 (V.int.inj q)
          rw [d1]
          refine iteF ?_
          refine iteF ?_
          refine ⟨.ref o, rfl, .inl ⟨rfl, _, SqL.of lM⟩, _, rfl, _, rfl, _, rfl, by show 3 ≤ sizeLine; decide, fun t nt => ?_⟩
          obtain ⟨acc, c1, c2, c3, c4, c5, c6⟩ := close t none none none (by rw [mm, st, if_neg (fun q => c1 q.1)]) nt
          exact ⟨o, acc, _, rfl, rfl, c1, c2, ⟨_, _, _, _, _, _, rfl⟩, c3, c4, c5, c6⟩
    · rintro σ H' ⟨⟨y2, y3, y4, y5, y6, y7, rfl⟩, sm, hp, ht, hl⟩
      have e : (L.map (·.2)).take (refs L).length = L.map (·.2) := List.take_of_length_le (by rw [refs_len, List.length_map]; exact Nat.le_refl _)
      rw [e] at hl
      exact ⟨.ref o, rfl, q H' o _ sm no hl (order_ok hv pL sL)⟩
end
end K14
namespace K14
open PySem L2
open C8 (InsC call_isC pe_gc)
section
variable {P : Program} {w : World} {K : PySem.W.Frag} {mg : Str → Option Value} {base : Heap} {R S : Addr}
theorem foldS_len : ∀ (l acc : List Prt), (l.foldl stepS acc).length ≤ acc.length + l.length := by
  intro l
  induction l with
  | nil => intro acc; simp
  | cons r l ih =>
    intro acc
    have h3 := ih (stepS acc r)
    have h4 : (stepS acc r).length ≤ acc.length + 1 := by
      rcases snoc_cases acc with z | ⟨init, x, z⟩
      · subst z; simp [stepS_nil]
      · subst z
        rw [stepS_snoc]
        split <;> simp
    show (l.foldl stepS (stepS acc r)).length ≤ acc.length + (l.length + 1)
    omega
/-! ### joined -/
theorem scJoined : FnScope ["parts", "found", "first", "count", "last", "many"] ["parts"] (defScope sJoined) := ⟨rfl, rfl, rfl, by decide +kernel, rfl, by decide +kernel, by decide +kernel⟩
def spJoined : Sp := fun vs H Q _ => ∃ (a : Addr) (ps : List Prt), vs = [.ref a] ∧ Ls pI H a ps ∧ PM ps ∧ (∀ p ∈ ps, TS.Bd 4294967296 (pI p)) ∧ ps.length < 64 ∧ ∀ H' p qs, Same H H' → H p = none → Ls pI H' p qs → IsNS ps qs → Q (.ref p) H'
theorem ok_joined {f : Addr} {fd : FuncData} (F : Fun K "joined" "joined" sJoined f fd) (T : Txt K mg R S) : FnOk P w K mg base CX0 1 f fd ["parts"] spJoined := by
  refine F.ok scJoined (fun vs H Q E h => ?_) (fun cdv A outer s H vs Q E hr h => ?_)
  · obtain ⟨a, ps, rfl, _⟩ := h
    rfl
  · obtain ⟨a, ps, rfl, hL, hv, hb, hlen, q⟩ := h
    refine ⟨_, pss_cons (ps_set (i := 1) scJoined.nd rfl (.inl rfl) (pe_lst pa_nil))
      (pss_cons (ps_for PassesOwn.never rfl (pi_list (pe_callB (cr_sortT (d := 2) (B := 4294967296) (by decide)) (by rfl) T.sorted (by decide +kernel) (pa_cons (pv 0) pa_nil)))
          (pg_tup rfl (pgs_cons (pg_name (i := 2) scJoined.nd rfl (.inl rfl)) (pgs_cons (pg_name (i := 3) scJoined.nd rfl (.inl rfl)) pgs_nil)))
          (pss_one (ps_if (PW.pt (pw_and (pt_truth (pv 1) (by intro _; rfl)) (pw_and1 (pt_cmpR op_le (pv 2) (pe_op op_add (pe_ix ix_tup (pe_ix ix_list (pv 1) (pe_un un_neg pe_int) (fun _ _ => rfl)) pe_int (fun _ _ => rfl)) (pe_ix ix_tup (pe_ix ix_list (pv 1) (pe_un un_neg pe_int) (fun _ _ => rfl)) pe_int (fun _ _ => rfl))) (nomark _)))))
              (pss_cons (ps_asg (pe_bm0 PySem.F.plainAttrs_list PySem.F.slot_list_pop PySem.F.type_list_pop mt_pop (pv 1)) (pg_tup rfl (pgs_cons (pg_name (i := 4) scJoined.nd rfl (.inl rfl)) (pgs_cons (pg_name (i := 5) scJoined.nd rfl (.inl rfl)) pgs_nil))))
                (pss_one (ps_expr (pe_bm PySem.F.plainAttrs_list PySem.F.slot_list_append PySem.F.type_list_append mt_append (pv 1) (pa_cons (pe_tup (pa_cons (pv 4) (pa_cons (pe_callB (call_max2 rfl) (by rfl) T.max (by decide +kernel) (pa_cons (pv 5) (pa_cons (pe_op op_sub (pe_op op_add (pv 2) (pv 3)) (pv 4)) pa_nil))) pa_nil))) pa_nil)))))
              (pss_one (ps_expr (pe_bm PySem.F.plainAttrs_list PySem.F.slot_list_append PySem.F.type_list_append mt_append (pv 1) (pa_cons (pe_tup (pa_cons (pv 2) (pa_cons (pv 3) pa_nil))) pa_nil)))))))
      (pss_one (ps_ret (pv 1)))), ?_⟩
    refine ⟨Nat.zero_le _, fun o no => ?_⟩
    have s1 : Same H (upd H o (.lst [])) := Same.upd no
    obtain ⟨xs, x1, x2, x3, x4⟩ := sort_prts (K := K) (hL.same s1) hlen hb
    refine ⟨_, rfl, a, xs, rfl, x1, x2, x3, fun ys p pm pw np => ?_⟩
    obtain ⟨L, rfl, pL, sL, tL⟩ := x4 ys p pm pw np
    have npo : o ≠ p := ne_of_none upd_same np
    have s2 : Same H (upd (upd H o (.lst [])) p (.lst (refs L))) := s1.then np
    have lenL : L.length = ps.length := by
      have := pL.length_eq
      rw [List.length_map] at this
      exact this
    refine ⟨p, rfl, ⟨_, SqL.of upd_same⟩, for_list (K := K) (a := p) (xs := refs L) (fun i σ H' => (∃ y2 y3 y4 y5, σ = [some (.ref a), some (.ref o), y2, y3, y4, y5]) ∧ Same H H' ∧ H' p = some (.lst (refs L)) ∧ Tups pI H' L ∧ Ls pI H' o (((L.map (·.2)).take i).foldl stepS []))
      ⟨⟨_, _, _, _, rfl⟩, s2, upd_same, tL.same (Same.upd np), Ls.nil (by rw [upd_ne npo]; exact upd_same)⟩ (fun i σ H' _ h => SqL.of h.2.2.1) ?_ ?_⟩
    · rintro i x σ H' hi ⟨⟨y2, y3, y4, y5, rfl⟩, sm, hp, ht, hl⟩
      obtain ⟨e, he, rfl⟩ := refs_at hi
      have hi64 : i < 64 := by
        have := (List.getElem?_eq_some_iff.mp he).1
        omega
      have tk := take_snoc (l := L.map (·.2)) (i := i) (x := e.2) (by rw [List.getElem?_map, he]; rfl)
      refine ⟨e.1, _, rfl, SqT.of (ht e (List.mem_of_getElem? he)), rfl, _, _, rfl, _, _, rfl, rfl, ?_⟩
      obtain ⟨M, eM, lM, tM⟩ := id hl
      have lenM : M.length ≤ i := by
        have h1 : M.length = (((L.map (·.2)).take i).foldl stepS []).length := by rw [← eM, List.length_map]
        have h3 := foldS_len ((L.map (·.2)).take i) []
        rw [← h1, List.length_take] at h3
        simp only [List.length_nil, Nat.zero_add] at h3
        exact Nat.le_trans h3 (Nat.min_le_left _ _)
      have fold : ((L.map (·.2)).take (i + 1)).foldl stepS [] = stepS (M.map (·.2)) e.2 := by
        rw [tk, List.foldl_append, ← eM]
        rfl
      have close : ∀ (H'' : Hp) (M' : List (Addr × Prt)) (t : Addr) (r : Prt), Same H H'' → H'' p = some (.lst (refs L)) → Tups pI H'' L → H'' o = some (.lst (refs M')) → Tups pI H'' M' → M'.length ≤ i → stepS (M.map (·.2)) e.2 = M'.map (·.2) ++ [r] → H'' t = none → ∃ acc, (upd H'' t (tv pI r)) o = some (.lst acc) ∧ acc.length < sizeLine ∧
          Same H (upd (upd H'' t (tv pI r)) o (.lst (acc ++ [V.ref t]))) ∧ (upd (upd H'' t (tv pI r)) o (.lst (acc ++ [V.ref t]))) p = some (.lst (refs L)) ∧ Tups pI (upd (upd H'' t (tv pI r)) o (.lst (acc ++ [V.ref t]))) L ∧
          Ls pI (upd (upd H'' t (tv pI r)) o (.lst (acc ++ [V.ref t]))) o (((L.map (·.2)).take (i + 1)).foldl stepS []) := fun H'' M' t r sm hp ht l2 t2 ln hs nt => by
        obtain ⟨acc, c1, c2, c3, c4⟩ := push_new (g := pI) r no sm ⟨M', rfl, l2, t2⟩ nt
        have npt : p ≠ t := ne_of_none hp nt
        refine ⟨acc, c1, ?_, c3, ?_, ?_, ?_⟩
        · rw [c2, List.length_map]
          exact slen (by omega)
        · rw [upd_ne npo.symm, upd_ne npt]
          exact hp
        · exact Tups.but (ht.same (Same.upd nt)) But.upd c1 (lst_tup _)
        · rw [fold, hs]
          exact c4
      refine ⟨.ref o, rfl, !(refs M).isEmpty, .inl ⟨_, SqL.of lM, rfl⟩, ?_⟩
      rcases snoc_cases M with z | ⟨M0, m, z⟩
      · subst z
        refine iteF ?_
        refine iteF ?_
        refine ⟨.ref o, rfl, .inl ⟨rfl, _, SqL.of lM⟩, _, rfl, _, rfl, by show 2 ≤ sizeLine; decide, fun t nt => ?_⟩
        obtain ⟨acc, c1, c2, c3, c4, c5, c6⟩ := close H' [] t e.2 sm hp ht lM tM (Nat.zero_le _) rfl nt
        exact ⟨o, acc, _, rfl, rfl, c1, c2, ⟨_, _, _, _, rfl⟩, c3, c4, c5, c6⟩
      · subst z
        have ne : (!(refs (M0 ++ [m])).isEmpty) = true := by rw [refs_snoc]; simp
        rw [ne]
        refine iteT ?_
        have hm : H' m.1 = some (tv pI m.2) := tM m (by simp)
        have al : atI (refs (M0 ++ [m])) (-1) = some (V.ref m.1) := by rw [refs_snoc]; exact atI_last _ _
        refine ⟨_, rfl, .ref o, rfl, 1, rfl, o, _, _, _, rfl, rfl, SqL.of lM, al, m.1, _, _, _, rfl, rfl, SqT.of hm, rfl, ?_⟩
        refine ⟨.ref o, rfl, 1, rfl, o, _, _, _, rfl, rfl, SqL.of lM, al, m.1, _, _, _, rfl, rfl, SqT.of hm, rfl, ?_⟩
        refine ⟨_, _, rfl, rfl, _, _, rfl, rfl, _, rfl, ?_⟩
        have st := stepS_snoc (M0.map (·.2)) m.2 e.2
        have mm : (M0 ++ [m]).map (·.2) = M0.map (·.2) ++ [m.2] := by simp
        refine ite2 (fun z => ?_) fun z => ?_
        · have c1 : e.2.1 ≤ m.2.1 + m.2.2 := of_decide_eq_true z
          rw [if_pos c1] at st
          have lastM : (refs (M0 ++ [m]))[(refs (M0 ++ [m])).length - 1]? = some (V.ref m.1) := by
            rw [refs_snoc, List.length_append, List.length_singleton, Nat.add_sub_cancel, List.getElem?_append_right (Nat.le_refl _), Nat.sub_self]
            rfl
          have dl : (refs (M0 ++ [m])).dropLast = refs M0 := by rw [refs_snoc, List.dropLast_concat]
          refine ⟨.ref o, rfl, .inl ⟨rfl, _, SqL.of lM⟩, o, _, V.ref m.1, rfl, rfl, lM, lastM, ?_⟩
          rw [dl]
          have nmo : m.1 ≠ o := ne_of hm lM (by intro z; cases z)
          have ho2 : (upd H' o (.lst (refs M0))) o = some (.lst (refs M0)) := upd_same
          have sm2 : Same H (upd H' o (.lst (refs M0))) := fun b u eb => by
            rw [upd_ne (ne_of_none eb no)]
            exact sm _ _ eb
          have hp2 : (upd H' o (.lst (refs M0))) p = some (.lst (refs L)) := by rw [upd_ne npo.symm]; exact hp
          have ht2 : Tups pI (upd H' o (.lst (refs M0))) L := Tups.but ht But.upd lM (lst_tup _)
          have tM2 : Tups pI (upd H' o (.lst (refs M0))) M0 := Tups.but (fun x hx => tM x (List.mem_append_left _ hx)) But.upd lM (lst_tup _)
          have hm2 : (upd H' o (.lst (refs M0))) m.1 = some (tv pI m.2) := by rw [upd_ne nmo]; exact hm
          refine ⟨m.1, _, rfl, SqT.of hm2, rfl, _, _, rfl, _, _, rfl, rfl, ?_⟩
          refine ⟨.ref o, rfl, .inl ⟨rfl, _, SqL.of ho2⟩, _, rfl, _, rfl, _, rfl, _, rfl, _, _, rfl, rfl, _, rfl, _, _, rfl, rfl, m.2.2, e.2.1 + e.2.2 - m.2.1, rfl, by show 2 ≤ sizeLine; decide, fun t nt => ?_⟩
          obtain ⟨acc, c1, c2, c3, c4, c5, c6⟩ := close _ M0 t (m.2.1, if m.2.2 < e.2.1 + e.2.2 - m.2.1 then e.2.1 + e.2.2 - m.2.1 else m.2.2) sm2 hp2 ht2 ho2 tM2 (by rw [List.length_append] at lenM; omega) (by rw [mm, st]) nt
          exact ⟨o, acc, _, rfl, rfl, c1, c2, ⟨_, _, _, _, rfl⟩, c3, c4, c5, c6⟩
        · have c1 : ¬ e.2.1 ≤ m.2.1 + m.2.2 := fun q => z (decide_eq_true q)
          rw [if_neg c1] at st
          refine ⟨.ref o, rfl, .inl ⟨rfl, _, SqL.of lM⟩, _, rfl, _, rfl, by show 2 ≤ sizeLine; decide, fun t nt => ?_⟩
          obtain ⟨acc, c1, c2, c3, c4, c5, c6⟩ := close H' (M0 ++ [m]) t e.2 sm hp ht lM tM lenM (by rw [mm, st]) nt
          exact ⟨o, acc, _, rfl, rfl, c1, c2, ⟨_, _, _, _, rfl⟩, c3, c4, c5, c6⟩
    · rintro σ H' ⟨⟨y2, y3, y4, y5, rfl⟩, sm, hp, ht, hl⟩
      have e : (L.map (·.2)).take (refs L).length = L.map (·.2) := List.take_of_length_le (by rw [refs_len, List.length_map]; exact Nat.le_refl _)
      rw [e] at hl
      exact ⟨.ref o, rfl, q H' o _ sm no hl (joined_ok hv pL sL)⟩
end
end K14
namespace K14
open PySem L2
open C8 (InsC call_isC pe_gc)
section
variable {P : Program} {w : World} {K : PySem.W.Frag} {mg : Str → Option Value} {base : Heap} {R S : Addr}
/-! ### is_map -/
abbrev nIsMap : List Str := ["value", "one", "insides", "inside", "outside", "count"]
theorem scIsMap : FnScope nIsMap ["value"] (defScope sIsMap) := ⟨rfl, rfl, rfl, by decide +kernel, rfl, by decide +kernel, by decide +kernel⟩
abbrev ownIs : List (Str × Nat) := [("inside", 3), ("outside", 4), ("count", 5)]
/-- a target of three names -/
abbrev g3 (K : PySem.W.Frag) (i j k : Nat) : TG := gTup K 3 (gCons (gName i) (gCons (gName j) (gCons (gName k) gNil)))
def spIsMap : Sp := fun vs H Q _ => ∃ (a : Addr) (rs : List Row), vs = [.ref a] ∧ Ls rI H a rs ∧ VM rs ∧ rs.length < 64 ∧ ∀ H', Same H H' → Q (.bl true) H'
theorem map_at {L : List (Addr × Row)} {i : Nat} {e : Addr × Row} {β : Type} (f : Row → β) (he : L[i]? = some e) : ((L.map (·.2)).take (i + 1)).map f = ((L.map (·.2)).take i).map f ++ [f e.2] := by
  have tk := take_snoc (l := L.map (·.2)) (i := i) (x := e.2) (by rw [List.getElem?_map, he]; rfl)
  rw [tk, List.map_append]
  rfl
theorem take_all {α β : Type} (L : List (Addr × α)) (f : α → β) : ((L.map (·.2)).take (refs L).length).map f = (L.map (·.2)).map f := by
  rw [List.take_of_length_le (by rw [refs_len, List.length_map]; exact Nat.le_refl _)]
theorem apart_of {ps qs : List Prt} (h : PM ps) (p : qs.Perm ps) (s : qs.Pairwise (fun p q => p.1 ≤ q.1)) : qs.Pairwise (fun p q => p.1 + p.2 ≤ q.1) :=
  asc_parts (fun q hq => h.pos q (p.mem_iff.mp hq)) ((List.Perm.pairwise_iff (fun {_ _} => apart_symm) p.symm).mp h.ap) s
theorem ok_isMap {f f1 f2 : Addr} {fd fd1 fd2 : FuncData} (F : Fun K "is_map" "is_map" sIsMap f fd) (T : Txt K mg R S) (F1 : Fun K "is_range" "is_range" sRange f1 fd1) (b1 : Binds K fd1 ["value"] []) (g1 : mg "is_range" = some (.ref f1)) (G1 : FnOk P w K mg base CX0 4 f1 fd1 ["value"] spRange)
    (F2 : Fun K "are_apart" "are_apart" sApart f2 fd2) (b2 : Binds K fd2 ["rows"] []) (g2 : mg "are_apart" = some (.ref f2)) (G2 : FnOk P w K mg base CX0 1 f2 fd2 ["rows"] spApart) : FnOk P w K mg base CX0 5 f fd ["value"] spIsMap := by
  refine F.ok scIsMap (fun vs H Q E h => ?_) (fun cdv A outer s H vs Q E hr h => ?_)
  · obtain ⟨a, rs, rfl, _⟩ := h
    rfl
  · obtain ⟨a, rs, rfl, hL, hv, hlen, q⟩ := h
    have hr1 : Room 1 _ := hr.mono (by decide)
    refine ⟨_, pss_cons (ps_if (PW.pt (pw_or (pt_not (pt_val (pe_callB call_isi (by rfl) T.isi (by decide +kernel) (pa_cons (pv 0) (pa_cons (pe_bltn (v := .ty "list") (by rfl) T.list (by decide +kernel) rfl) pa_nil)))))
        (pw_or1 (pt_cmpR op_gt (pe_callB call_len_seq (by rfl) T.len PySem.boot_len (pa_cons (pv 0) pa_nil)) (pe_gc (v := .int 2000) (by rfl) T.most) (nomark _))))) (pss_one (ps_ret pe_bl)) pss_nil)
      (pss_cons (ps_for PassesOwn.never rfl (pi_list (pv 0)) (pg_name (i := 1) scIsMap.nd rfl (.inl rfl))
        (pss_one (ps_if (pt_not (pt_val (pe_call G1 hr (by rfl) g1 F1.kp b1 .nil pass0 (pa_cons (pv 1) pa_nil)))) (pss_one (ps_ret pe_bl)) pss_nil)))
      (pss_cons (ps_set (i := 2) scIsMap.nd rfl (.inl rfl) (pe_callB (cr_sortT (d := 2) (B := 4294967296) (by decide)) (by rfl) T.sorted (by decide +kernel) (pa_cons
          (pe_lc (own := ownIs) (g := g3 K 3 4 5) (tt := tYes) rfl scIsMap.nd (pi_list (pv 0)) (blkOk_by (own := ownIs) (N := nIsMap) (sc := defScope sIsMap) (by decide +kernel))
            (fun _ _ _ _ _ => pg_tup rfl (pgs_cons (pg_name (i := 3) scIsMap.nd rfl (.inl rfl)) (pgs_cons (pg_name (i := 4) scIsMap.nd rfl (.inl rfl)) (pgs_cons (pg_name (i := 5) scIsMap.nd rfl (.inl rfl)) pgs_nil))))
            (fun _ _ _ _ _ => pts_nil) (fun _ _ _ _ _ => pe_tup (pa_cons (pv 3) (pa_cons (pv 5) pa_nil)))) pa_nil)))
      (pss_one (ps_ret (pe_and (pe_call G2 hr1 (by rfl) g2 F2.kp b2 .nil pass0 (pa_cons (pv 2) pa_nil)) (pe_one (pe_call G2 hr1 (by rfl) g2 F2.kp b2 .nil pass0 (pa_cons (pe_callB (cr_sortT (d := 2) (B := 4294967296) (by decide)) (by rfl) T.sorted (by decide +kernel) (pa_cons
          (pe_lc (own := ownIs) (g := g3 K 3 4 5) (tt := tYes) rfl scIsMap.nd (pi_list (pv 0)) (blkOk_by (own := ownIs) (N := nIsMap) (sc := defScope sIsMap) (by decide +kernel))
            (fun _ _ _ _ _ => pg_tup rfl (pgs_cons (pg_name (i := 3) scIsMap.nd rfl (.inl rfl)) (pgs_cons (pg_name (i := 4) scIsMap.nd rfl (.inl rfl)) (pgs_cons (pg_name (i := 5) scIsMap.nd rfl (.inl rfl)) pgs_nil))))
            (fun _ _ _ _ _ => pts_nil) (fun _ _ _ _ _ => pe_tup (pa_cons (pv 4) (pa_cons (pv 5) pa_nil)))) pa_nil)) pa_nil)))))))), ?_⟩
    obtain ⟨L, eL, l, hT, ll, at_⟩ := hL.at
    refine ⟨_, rfl, _, _, _, _, _, rfl, .ty "list", .base (.lst l), kit_ty (by decide +kernel), true, rfl, ?_⟩
    refine iteF ⟨_, rfl, a, _, rfl, .inl (SqL.of l), _, _, rfl, rfl, _, rfl, ?_⟩
    refine ite2 (fun z => ?_) fun _ => ?_
    · have z := of_decide_eq_true z
      rw [refs_len, ll] at z
      omega
    refine ⟨_, rfl, a, rfl, ⟨_, SqL.of l⟩, for_list (K := K) (a := a) (xs := refs L) (fun i σ H' => H' = H ∧ ∃ y, σ = [some (.ref a), y, none, none, none, none]) ⟨rfl, none, rfl⟩ (fun i σ H' _ ⟨e, _⟩ => by rw [e]; exact SqL.of l) ?_ ?_⟩
    · rintro i x σ H' hi ⟨rfl, y, rfl⟩
      obtain ⟨e, he, rfl⟩ := refs_at hi
      have me := List.mem_of_getElem? he
      refine ⟨_, rfl, e.1, e.2, rfl, hT e me, hv.ok _ (by rw [← eL]; exact List.mem_map_of_mem me), true, rfl, ?_⟩
      exact iteF ⟨rfl, _, rfl⟩
    · rintro σ H' ⟨rfl, y, rfl⟩
      -- insides
      refine ⟨_, rfl, a, rfl, ⟨_, SqL.of l⟩, fun D nD => lc_list (K := K) (a := a) (xs := refs L) (fun i H2 => Same H' H2 ∧ Ls pI H2 D (((L.map (·.2)).take i).map insP)) ⟨Same.upd nD, Ls.nil upd_same⟩ (fun i H2 _ h => SqL.of (h.1 _ _ l)) ?_ ?_⟩
      · rintro i x H2 hi ⟨sm, hl⟩
        obtain ⟨e, he, rfl⟩ := refs_at hi
        have me := List.mem_of_getElem? he
        refine ⟨e.1, _, rfl, SqT.of (sm _ _ (hT e me)), rfl, _, _, rfl, _, _, rfl, _, _, rfl, rfl, rfl, ?_⟩
        refine ⟨_, rfl, _, rfl, by show 2 ≤ sizeLine; decide, fun t nt => ?_⟩
        obtain ⟨acc, c1, c2, c3, c4⟩ := push_new (g := pI) (insP e.2) nD sm hl nt
        refine ⟨acc, c1, ?_, c3, ?_⟩
        · rw [c2, List.length_map, List.length_take]
          exact slen (Nat.le_trans (Nat.min_le_right _ _) (by rw [List.length_map]; omega))
        · rw [map_at insP he]
          exact c4
      · rintro H2 ⟨sm, hl⟩
        rw [take_all, eL] at hl
        obtain ⟨xs, x1, x2, x3, x4⟩ := sort_prts (K := K) hl (by rw [List.length_map]; exact hlen) (fun p hp => by
          obtain ⟨r, hr, z⟩ := List.mem_map.mp hp
          subst z
          exact bd_ins (hv.ok r hr))
        refine ⟨D, xs, rfl, x1, x2, x3, fun ys p pm pw np => ?_⟩
        obtain ⟨M, rfl, pM, sM, tM⟩ := x4 ys p pm pw np
        have apM := apart_of hv.pmIn pM sM
        have lM : Ls pI (upd H2 p (.lst (refs M))) p (M.map (·.2)) := Ls.new np tM
        have sm3 : Same H' (upd H2 p (.lst (refs M))) := sm.then np
        have lenM : (M.map (·.2)).length ≤ 1000 := by rw [pM.length_eq, List.length_map]; omega
        refine ⟨_, rfl, p, _, rfl, lM, lenM, apM, true, rfl, iteT ?_⟩
        -- outsides
        refine ⟨_, rfl, a, rfl, ⟨_, SqL.of (sm3 _ _ l)⟩, fun D' nD' => lc_list (K := K) (a := a) (xs := refs L) (fun i H4 => Same (upd H2 p (.lst (refs M))) H4 ∧ Ls pI H4 D' (((L.map (·.2)).take i).map outP)) ⟨Same.upd nD', Ls.nil upd_same⟩ (fun i H4 _ h => SqL.of (h.1 _ _ (sm3 _ _ l))) ?_ ?_⟩
        · rintro i x H4 hi ⟨sm4, hl4⟩
          obtain ⟨e, he, rfl⟩ := refs_at hi
          have me := List.mem_of_getElem? he
          refine ⟨e.1, _, rfl, SqT.of (sm4 _ _ (sm3 _ _ (hT e me))), rfl, _, _, rfl, _, _, rfl, _, _, rfl, rfl, rfl, ?_⟩
          refine ⟨_, rfl, _, rfl, by show 2 ≤ sizeLine; decide, fun t nt => ?_⟩
          obtain ⟨acc, c1, c2, c3, c4⟩ := push_new (g := pI) (outP e.2) nD' sm4 hl4 nt
          refine ⟨acc, c1, ?_, c3, ?_⟩
          · rw [c2, List.length_map, List.length_take]
            exact slen (Nat.le_trans (Nat.min_le_right _ _) (by rw [List.length_map]; omega))
          · rw [map_at outP he]
            exact c4
        · rintro H4 ⟨sm4, hl4⟩
          rw [take_all, eL] at hl4
          obtain ⟨xs, x1, x2, x3, x4⟩ := sort_prts (K := K) hl4 (by rw [List.length_map]; exact hlen) (fun p hp => by
            obtain ⟨r, hr, z⟩ := List.mem_map.mp hp
            subst z
            exact bd_out (hv.ok r hr))
          refine ⟨D', xs, rfl, x1, x2, x3, fun ys p' pm pw np' => ?_⟩
          obtain ⟨M', rfl, pM', sM', tM'⟩ := x4 ys p' pm pw np'
          have apM' := apart_of hv.pmOut pM' sM'
          have lM' : Ls pI (upd H4 p' (.lst (refs M'))) p' (M'.map (·.2)) := Ls.new np' tM'
          have lenM' : (M'.map (·.2)).length ≤ 1000 := by rw [pM'.length_eq, List.length_map]; omega
          exact ⟨p', _, rfl, lM', lenM', apM', q _ ((sm3.trans sm4).then np')⟩
end
end K14
namespace K14
open PySem L2
open C8 (InsC call_isC pe_gc)
section
variable {P : Program} {w : World} {K : PySem.W.Frag} {mg : Str → Option Value} {base : Heap} {R S : Addr}
theorem ins_tup (C dx : Addr) (fs : List (Str × V)) : ∀ ys, HO.ins C dx fs ≠ .tup ys := fun _ h => by cases h
/-- a field is laid into an instance -/
theorem inst_lay {α : Type} {g : α → List Int} {C : Addr} {H : Hp} {x dx l : Addr} {fs : List (Str × V)} {qs : List α} (hx : H x = some (.ins C dx fs)) (hl : Ls g H l qs) : Inst g C (upd H x (.ins C dx [("rows", V.ref l)])) x qs := by
  obtain ⟨xs, h1, _⟩ := hl.lst
  have n : l ≠ x := ne_of h1 hx (by intro z; cases z)
  exact ⟨dx, l, upd_same, hl.but But.upd n hx (ins_tup _ _ _)⟩
/-! ### RangeMap(ranges) -/
theorem scInitR : FnScope ["self", "ranges"] ["self", "ranges"] (defScope sInitR) := ⟨rfl, rfl, rfl, by decide +kernel, rfl, by decide +kernel, by decide +kernel⟩
/-- the rows of the instance at x are new -/
def Fresh0 (H H' : Hp) (x : Addr) : Prop := ∀ C dx l, H' x = some (.ins C dx [("rows", V.ref l)]) → H l = none
def spInitR (R : Addr) : Sp := fun vs H Q _ => ∃ (x dx a : Addr) (rs : List Row), vs = [.ref x, .ref a] ∧ H x = some (.ins R dx []) ∧ Ls rI H a rs ∧ VM rs ∧ rs.length < 64 ∧ ∀ H' qs, But x H H' → Inst rI R H' x qs → Fresh0 H H' x → IsNF rs qs → Q .non H'
theorem ok_initR {f f1 f2 : Addr} {fd fd1 fd2 : FuncData} (F : Fun K "__init__" "RangeMap.__init__" sInitR f fd) (T : Txt K mg R S) (F1 : Fun K "is_map" "is_map" sIsMap f1 fd1) (b1 : Binds K fd1 ["value"] []) (g1 : mg "is_map" = some (.ref f1)) (G1 : FnOk P w K mg base CX0 5 f1 fd1 ["value"] spIsMap)
    (F2 : Fun K "in_order" "in_order" sOrder f2 fd2) (b2 : Binds K fd2 ["ranges"] []) (g2 : mg "in_order" = some (.ref f2)) (G2 : FnOk P w K mg base CX0 1 f2 fd2 ["ranges"] spOrder) : FnOk P w K mg base CX0 6 f fd ["self", "ranges"] (spInitR R) := by
  refine F.ok scInitR (fun vs H Q E h => ?_) (fun cdv A outer s H vs Q E hr h => ?_)
  · obtain ⟨x, dx, a, rs, rfl, _⟩ := h
    rfl
  · obtain ⟨x, dx, a, rs, rfl, hx, hL, hv, hlen, q⟩ := h
    refine ⟨_, pss_cons (ps_if (pt_not (pt_val (pe_call G1 hr (by rfl) g1 F1.kp b1 .nil pass0 (pa_cons (pv 1) pa_nil)))) (pss_one ps_never) pss_nil)
      (pss_one (ps_fld (pv 0) (pe_call G2 (hr.mono (by decide)) (by rfl) g2 F2.kp b2 .nil pass0 (pa_cons (pv 1) pa_nil)) rfl)), ?_⟩
    refine ⟨_, rfl, a, rs, rfl, hL, hv, hlen, fun H1 s1 => ⟨true, rfl, ?_⟩⟩
    refine iteF ⟨_, rfl, a, rs, rfl, hL.same s1, hv, hlen, fun H2 p qs s2 np hq hn => ?_⟩
    have hx2 := s2 _ _ (s1 _ _ hx)
    refine ⟨_, rfl, x, R, dx, [], rfl, hx2, T.icR.cl, T.nR, (by show 0 < 1000; decide), ?_⟩
    refine q _ qs ((But.of (s1.trans s2)).trans But.upd) (inst_lay hx2 hq) (fun C dx l e => ?_) hn
    have e' : some (HO.ins R _ [("rows", V.ref p)]) = some (HO.ins C dx [("rows", V.ref l)]) := upd_same.symm.trans e
    injection e' with e'
    injection e' with _ _ e'
    injection e' with e' _
    injection e' with _ e'
    injection e' with e'
    rw [← e']
    exact s1.free np
/-! ### NumberSet([]) -/
theorem scInitS : FnScope ["self", "parts", "part"] ["self", "parts"] (defScope sInitS) := ⟨rfl, rfl, rfl, by decide +kernel, rfl, by decide +kernel, by decide +kernel⟩
def spInitS (S : Addr) : Sp := fun vs H Q _ => ∃ (x dx a : Addr), vs = [.ref x, .ref a] ∧ H x = some (.ins S dx []) ∧ Ls pI H a [] ∧ ∀ H' l, But x H H' → H' x = some (.ins S dx [("rows", .ref l)]) → Q .non H'
theorem ok_initS {f f1 : Addr} {fd fd1 : FuncData} (F : Fun K "__init__" "NumberSet.__init__" sInitS f fd) (T : Txt K mg R S) (F1 : Fun K "joined" "joined" sJoined f1 fd1) (b1 : Binds K fd1 ["parts"] []) (g1 : mg "joined" = some (.ref f1)) (G1 : FnOk P w K mg base CX0 1 f1 fd1 ["parts"] spJoined) :
    FnOk P w K mg base CX0 2 f fd ["self", "parts"] (spInitS S) := by
  refine F.ok scInitS (fun vs H Q E h => ?_) (fun cdv A outer s H vs Q E hr h => ?_)
  · obtain ⟨x, dx, a, rfl, _⟩ := h
    rfl
  · obtain ⟨x, dx, a, rfl, hx, hL, q⟩ := h
    refine ⟨_, pss_cons (ps_if (PW.pt (pw_or (pt_not (pt_val (pe_callB call_isi (by rfl) T.isi (by decide +kernel) (pa_cons (pv 1) (pa_cons (pe_bltn (v := .ty "list") (by rfl) T.list (by decide +kernel) rfl) pa_nil)))))
        (pw_or1 (pt_cmpR op_gt (pe_callB call_len_seq (by rfl) T.len PySem.boot_len (pa_cons (pv 1) pa_nil)) (pe_gc (v := .int 2000) (by rfl) T.most) (nomark _))))) (pss_one ps_never) pss_nil)
      (pss_cons (ps_for PassesOwn.never rfl (pi_list (pv 1)) (pg_name (i := 2) scInitS.nd rfl (.inl rfl)) (pss_one ps_never))
      (pss_one (ps_fld (pv 0) (pe_call G1 hr (by rfl) g1 F1.kp b1 .nil pass0 (pa_cons (pv 1) pa_nil)) rfl))), ?_⟩
    obtain ⟨xs, l, lx⟩ := hL.lst
    have xs0 : xs = [] := List.eq_nil_of_length_eq_zero lx
    subst xs0
    refine ⟨_, rfl, _, _, _, _, _, rfl, .ty "list", .base (.lst l), kit_ty (by decide +kernel), true, rfl, ?_⟩
    refine iteF ⟨_, rfl, a, _, rfl, .inl (SqL.of l), _, _, rfl, rfl, _, rfl, ?_⟩
    refine iteF ?_
    refine ⟨_, rfl, a, rfl, ⟨_, SqL.of l⟩, for_list (K := K) (a := a) (xs := []) (fun i σ H' => H' = H ∧ ∃ y, σ = [some (.ref x), some (.ref a), y]) ⟨rfl, none, rfl⟩ (fun i σ H' _ ⟨e, _⟩ => by rw [e]; exact SqL.of l) ?_ ?_⟩
    · intro i y σ H' hi _
      simp at hi
    · rintro σ H' ⟨rfl, y, rfl⟩
      refine ⟨_, rfl, a, [], rfl, hL, ⟨fun _ h => (List.not_mem_nil h).elim, List.Pairwise.nil⟩, fun _ h => (List.not_mem_nil h).elim, by decide, fun H2 p qs s2 np hq hn => ?_⟩
      have hx2 := s2 _ _ hx
      refine ⟨_, rfl, x, S, dx, [], rfl, hx2, T.icS.cl, T.nS, (by show 0 < 1000; decide), ?_⟩
      exact q _ p ((But.of s2).trans But.upd) upd_same
/-! ### set_of -/
theorem scSetOf : FnScope ["parts", "found"] ["parts"] (defScope sSetOf) := ⟨rfl, rfl, rfl, by decide +kernel, rfl, by decide +kernel, by decide +kernel⟩
def spSetOf (S : Addr) : Sp := fun vs H Q _ => ∃ (a : Addr) (ps : List Prt), vs = [.ref a] ∧ Ls pI H a ps ∧ PM ps ∧ (∀ p ∈ ps, TS.Bd 4294967296 (pI p)) ∧ ps.length < 64 ∧ ∀ H' x qs, Same H H' → H x = none → Inst pI S H' x qs → IsNS ps qs → Q (.ref x) H'
theorem ok_setOf {f f1 f2 : Addr} {fd fd1 fd2 : FuncData} (F : Fun K "set_of" "set_of" sSetOf f fd) (T : Txt K mg R S) (F1 : Fun K "joined" "joined" sJoined f1 fd1) (b1 : Binds K fd1 ["parts"] []) (g1 : mg "joined" = some (.ref f1)) (G1 : FnOk P w K mg base CX0 1 f1 fd1 ["parts"] spJoined)
    (M : Mk K S f2) (F2 : Fun K "__init__" "NumberSet.__init__" sInitS f2 fd2) (b2 : Binds K fd2 ["self", "parts"] []) (G2 : FnOk P w K mg base CX0 2 f2 fd2 ["self", "parts"] (spInitS S)) : FnOk P w K mg base CX0 4 f fd ["parts"] (spSetOf S) := by
  refine F.ok scSetOf (fun vs H Q E h => ?_) (fun cdv A outer s H vs Q E hr h => ?_)
  · obtain ⟨a, ps, rfl, _⟩ := h
    rfl
  · obtain ⟨a, ps, rfl, hL, hv, hb, hlen, q⟩ := h
    refine ⟨_, pss_cons (ps_set (i := 1) scSetOf.nd rfl (.inl rfl) (pe_make M G2 hr (by rfl) T.mgS b2 .nil pass0 (pa_cons (pe_lst pa_nil) pa_nil)))
      (pss_cons (ps_fld (pv 1) (pe_call G1 (hr.mono (by decide)) (by rfl) g1 F1.kp b1 .nil pass0 (pa_cons (pv 0) pa_nil)) rfl) (pss_one (ps_ret (pv 1)))), ?_⟩
    refine ⟨Nat.zero_le _, fun o no => ?_⟩
    intro x dx nx nd ne
    have s1 : Same H (upd H o (.lst [])) := Same.upd no
    have s2 : Same (upd H o (.lst [])) (upd (upd (upd H o (.lst [])) dx (.own x)) x (.ins S dx [])) := fun b u e => by
      rw [upd_ne (ne_of_none e nx), upd_ne (ne_of_none e nd)]
      exact e
    refine ⟨x, dx, o, rfl, upd_same, Ls.nil (s2 _ _ upd_same), fun H' l b hx => ⟨rfl, ?_⟩⟩
    have nx0 : H x = none := s1.free nx
    have s3 : Same H H' := fun c u e => b _ _ (s2 _ _ (s1 _ _ e)) (ne_of_none e nx0)
    refine ⟨_, rfl, a, ps, rfl, hL.same s3, hv, hb, hlen, fun H2 p qs s4 np hq hn => ?_⟩
    have hx2 := s4 _ _ hx
    refine ⟨_, rfl, x, S, dx, _, rfl, hx2, T.icS.cl, T.nS, (by show 1 < 1000; decide), ?_⟩
    rw [rowsP2]
    exact ⟨.ref x, rfl, q _ x qs (Same.but ((But.of (s3.trans s4)).trans But.upd) nx0) nx0 (inst_lay hx2 hq) hn⟩
/-! ### == -/
def spEq {α : Type} [DecidableEq α] (g : α → List Int) (C : Addr) : Sp := fun vs H Q _ => ∃ (x y : Addr) (rs qs : List α), vs = [.ref x, .ref y] ∧ Inst g C H x rs ∧ Inst g C H y qs ∧ Q (.bl (decide (rs = qs))) H
theorem scEqR : FnScope ["self", "other"] ["self", "other"] (defScope sEqR) := ⟨rfl, rfl, rfl, by decide +kernel, rfl, by decide +kernel, by decide +kernel⟩
theorem ok_eqR {f : Addr} {fd : FuncData} (F : Fun K "__eq__" "RangeMap.__eq__" sEqR f fd) (T : Txt K mg R S) : FnOk P w K mg base CX0 1 f fd ["self", "other"] (spEq rI R) := by
  refine F.ok scEqR (fun vs H Q E h => ?_) (fun cdv A outer s H vs Q E hr h => ?_)
  · obtain ⟨x, y, rs, qs, rfl, _⟩ := h
    rfl
  · obtain ⟨x, y, rs, qs, rfl, ⟨dx, l, hx, hl⟩, ⟨dy, m, hy, hm⟩, q⟩ := h
    refine ⟨_, pss_one (ps_ret (pe_and (pe_callB (call_isC T.icR) (by rfl) T.isi (by decide +kernel) (pa_cons (pv 1) (pa_cons (pe_glob (v := .ref R) (by rfl) T.mgR rfl) pa_nil))) (pe_one (pe_cmpR (op_eqD hr.units) (pe_fld (pv 0) rfl) (pe_fld (pv 1) rfl) (nomark _))))), ?_⟩
    refine ⟨_, rfl, y, dy, _, rfl, hy, true, rfl, iteT ?_⟩
    refine ⟨_, rfl, x, R, dx, _, _, rfl, hx, T.icR.cl, T.nR, rowsF l, _, rfl, y, R, dy, _, _, rfl, hy, T.icR.cl, T.nR, rowsF m, _, _, dp_ls hl, dp_ls hm, lD_shaped _, lD_shaped _, ?_⟩
    rw [lD_inj rI_inj]
    exact q
theorem scEqS : FnScope ["self", "other"] ["self", "other"] (defScope sEqS) := ⟨rfl, rfl, rfl, by decide +kernel, rfl, by decide +kernel, by decide +kernel⟩
theorem ok_eqS {f : Addr} {fd : FuncData} (F : Fun K "__eq__" "NumberSet.__eq__" sEqS f fd) (T : Txt K mg R S) : FnOk P w K mg base CX0 1 f fd ["self", "other"] (spEq pI S) := by
  refine F.ok scEqS (fun vs H Q E h => ?_) (fun cdv A outer s H vs Q E hr h => ?_)
  · obtain ⟨x, y, rs, qs, rfl, _⟩ := h
    rfl
  · obtain ⟨x, y, rs, qs, rfl, ⟨dx, l, hx, hl⟩, ⟨dy, m, hy, hm⟩, q⟩ := h
    refine ⟨_, pss_one (ps_ret (pe_and (pe_callB (call_isC T.icS) (by rfl) T.isi (by decide +kernel) (pa_cons (pv 1) (pa_cons (pe_glob (v := .ref S) (by rfl) T.mgS rfl) pa_nil))) (pe_one (pe_cmpR (op_eqD hr.units) (pe_fld (pv 0) rfl) (pe_fld (pv 1) rfl) (nomark _))))), ?_⟩
    refine ⟨_, rfl, y, dy, _, rfl, hy, true, rfl, iteT ?_⟩
    refine ⟨_, rfl, x, S, dx, _, _, rfl, hx, T.icS.cl, T.nS, rowsF l, _, rfl, y, S, dy, _, _, rfl, hy, T.icS.cl, T.nS, rowsF m, _, _, dp_ls hl, dp_ls hm, lD_shaped _, lD_shaped _, ?_⟩
    rw [lD_inj pI_inj]
    exact q
/-! ### ranges() -/
theorem scRanges : FnScope ["self"] ["self"] (defScope sRanges) := ⟨rfl, rfl, rfl, by decide +kernel, rfl, by decide +kernel, by decide +kernel⟩
def spRanges (R : Addr) : Sp := fun vs H Q _ => ∃ (x : Addr) (rs : List Row), vs = [.ref x] ∧ Inst rI R H x rs ∧ ∀ H' l, Same H H' → H l = none → Ls rI H' l rs → Q (.ref l) H'
theorem ok_ranges {f : Addr} {fd : FuncData} (F : Fun K "ranges" "RangeMap.ranges" sRanges f fd) (T : Txt K mg R S) : FnOk P w K mg base CX0 1 f fd ["self"] (spRanges R) := by
  refine F.ok scRanges (fun vs H Q E h => ?_) (fun cdv A outer s H vs Q E hr h => ?_)
  · obtain ⟨x, rs, rfl, _⟩ := h
    rfl
  · obtain ⟨x, rs, rfl, ⟨dx, l, hx, L, eL, hl, hT⟩, q⟩ := h
    refine ⟨_, pss_one (ps_ret (pe_callTy call_list_of (by rfl) T.list (by decide +kernel) (pa_cons (pe_fld (pv 0) rfl) pa_nil))), ?_⟩
    refine ⟨_, rfl, x, R, dx, _, _, rfl, hx, T.icR.cl, T.nR, rowsF l, l, _, rfl, .inl (SqL.of hl), fun p np => ?_⟩
    refine q _ p (Same.upd np) np ?_
    rw [← eL]
    exact Ls.new np hT
/-! ### insides(), outsides(), size() -/
abbrev nSelf : List Str := ["self", "inside", "outside", "count"]
abbrev ownS : List (Str × Nat) := [("inside", 1), ("outside", 2), ("count", 3)]
theorem scIns : FnScope nSelf ["self"] (defScope sIns) := ⟨rfl, rfl, rfl, by decide +kernel, rfl, by decide +kernel, by decide +kernel⟩
def spIns (R S : Addr) (p : Row → Prt) : Sp := fun vs H Q _ => ∃ (x : Addr) (rs : List Row), vs = [.ref x] ∧ Inst rI R H x rs ∧ VM rs ∧ rs.length < 64 ∧ ∀ H' y qs, Same H H' → H y = none → Inst pI S H' y qs → IsNS (rs.map p) qs → Q (.ref y) H'
theorem ok_ins {f f1 : Addr} {fd fd1 : FuncData} (F : Fun K "insides" "RangeMap.insides" sIns f fd) (T : Txt K mg R S) (F1 : Fun K "set_of" "set_of" sSetOf f1 fd1) (b1 : Binds K fd1 ["parts"] []) (g1 : mg "set_of" = some (.ref f1)) (G1 : FnOk P w K mg base CX0 4 f1 fd1 ["parts"] (spSetOf S)) : FnOk P w K mg base CX0 5 f fd ["self"] (spIns R S insP) := by
  refine F.ok scIns (fun vs H Q E h => ?_) (fun cdv A outer s H vs Q E hr h => ?_)
  · obtain ⟨x, rs, rfl, _⟩ := h
    rfl
  · obtain ⟨x, rs, rfl, ⟨dx, a, hx, hL⟩, hv, hlen, q⟩ := h
    obtain ⟨L, eL, l, hT, ll, at_⟩ := hL.at
    refine ⟨_, pss_one (ps_ret (pe_call G1 hr (by rfl) g1 F1.kp b1 .nil pass0 (pa_cons
          (pe_lc (own := ownS) (g := g3 K 1 2 3) (tt := tYes) rfl scIns.nd (pi_list (pe_fld (pv 0) rfl)) (blkOk_by (own := ownS) (N := nSelf) (sc := defScope sIns) (by decide +kernel))
            (fun _ _ _ _ _ => pg_tup rfl (pgs_cons (pg_name (i := 1) scIns.nd rfl (.inl rfl)) (pgs_cons (pg_name (i := 2) scIns.nd rfl (.inl rfl)) (pgs_cons (pg_name (i := 3) scIns.nd rfl (.inl rfl)) pgs_nil))))
            (fun _ _ _ _ _ => pts_nil) (fun _ _ _ _ _ => pe_tup (pa_cons (pv 1) (pa_cons (pv 3) pa_nil)))) pa_nil))), ?_⟩
    refine ⟨_, rfl, x, R, dx, _, _, rfl, hx, T.icR.cl, T.nR, rowsF a, a, rfl, ⟨_, SqL.of l⟩, fun D nD => lc_list (K := K) (a := a) (xs := refs L) (fun i H2 => Same H H2 ∧ Ls pI H2 D (((L.map (·.2)).take i).map insP)) ⟨Same.upd nD, Ls.nil upd_same⟩ (fun i H2 _ h => SqL.of (h.1 _ _ l)) ?_ ?_⟩
    · rintro i y H2 hi ⟨sm, hl⟩
      obtain ⟨e, he, rfl⟩ := refs_at hi
      have me := List.mem_of_getElem? he
      refine ⟨e.1, _, rfl, SqT.of (sm _ _ (hT e me)), rfl, _, _, rfl, _, _, rfl, _, _, rfl, rfl, rfl, ?_⟩
      refine ⟨_, rfl, _, rfl, by show 2 ≤ sizeLine; decide, fun t nt => ?_⟩
      obtain ⟨acc, c1, c2, c3, c4⟩ := push_new (g := pI) (insP e.2) nD sm hl nt
      refine ⟨acc, c1, ?_, c3, ?_⟩
      · rw [c2, List.length_map, List.length_take]
        exact slen (Nat.le_trans (Nat.min_le_right _ _) (by rw [List.length_map]; omega))
      · rw [map_at insP he]
        exact c4
    · rintro H2 ⟨sm, hl⟩
      rw [take_all, eL] at hl
      refine ⟨D, _, rfl, hl, hv.pmIn, fun p hp => ?_, by rw [List.length_map]; exact hlen, fun H' y qs s' ny hI hn => q H' y qs (sm.trans s') (sm.free ny) hI hn⟩
      obtain ⟨r, hr, z⟩ := List.mem_map.mp hp
      subst z
      exact bd_ins (hv.ok r hr)
theorem scOuts : FnScope nSelf ["self"] (defScope sOuts) := ⟨rfl, rfl, rfl, by decide +kernel, rfl, by decide +kernel, by decide +kernel⟩
theorem ok_outs {f f1 : Addr} {fd fd1 : FuncData} (F : Fun K "outsides" "RangeMap.outsides" sOuts f fd) (T : Txt K mg R S) (F1 : Fun K "set_of" "set_of" sSetOf f1 fd1) (b1 : Binds K fd1 ["parts"] []) (g1 : mg "set_of" = some (.ref f1)) (G1 : FnOk P w K mg base CX0 4 f1 fd1 ["parts"] (spSetOf S)) : FnOk P w K mg base CX0 5 f fd ["self"] (spIns R S outP) := by
  refine F.ok scOuts (fun vs H Q E h => ?_) (fun cdv A outer s H vs Q E hr h => ?_)
  · obtain ⟨x, rs, rfl, _⟩ := h
    rfl
  · obtain ⟨x, rs, rfl, ⟨dx, a, hx, hL⟩, hv, hlen, q⟩ := h
    obtain ⟨L, eL, l, hT, ll, at_⟩ := hL.at
    refine ⟨_, pss_one (ps_ret (pe_call G1 hr (by rfl) g1 F1.kp b1 .nil pass0 (pa_cons
          (pe_lc (own := ownS) (g := g3 K 1 2 3) (tt := tYes) rfl scOuts.nd (pi_list (pe_fld (pv 0) rfl)) (blkOk_by (own := ownS) (N := nSelf) (sc := defScope sOuts) (by decide +kernel))
            (fun _ _ _ _ _ => pg_tup rfl (pgs_cons (pg_name (i := 1) scOuts.nd rfl (.inl rfl)) (pgs_cons (pg_name (i := 2) scOuts.nd rfl (.inl rfl)) (pgs_cons (pg_name (i := 3) scOuts.nd rfl (.inl rfl)) pgs_nil))))
            (fun _ _ _ _ _ => pts_nil) (fun _ _ _ _ _ => pe_tup (pa_cons (pv 2) (pa_cons (pv 3) pa_nil)))) pa_nil))), ?_⟩
    refine ⟨_, rfl, x, R, dx, _, _, rfl, hx, T.icR.cl, T.nR, rowsF a, a, rfl, ⟨_, SqL.of l⟩, fun D nD => lc_list (K := K) (a := a) (xs := refs L) (fun i H2 => Same H H2 ∧ Ls pI H2 D (((L.map (·.2)).take i).map outP)) ⟨Same.upd nD, Ls.nil upd_same⟩ (fun i H2 _ h => SqL.of (h.1 _ _ l)) ?_ ?_⟩
    · rintro i y H2 hi ⟨sm, hl⟩
      obtain ⟨e, he, rfl⟩ := refs_at hi
      have me := List.mem_of_getElem? he
      refine ⟨e.1, _, rfl, SqT.of (sm _ _ (hT e me)), rfl, _, _, rfl, _, _, rfl, _, _, rfl, rfl, rfl, ?_⟩
      refine ⟨_, rfl, _, rfl, by show 2 ≤ sizeLine; decide, fun t nt => ?_⟩
      obtain ⟨acc, c1, c2, c3, c4⟩ := push_new (g := pI) (outP e.2) nD sm hl nt
      refine ⟨acc, c1, ?_, c3, ?_⟩
      · rw [c2, List.length_map, List.length_take]
        exact slen (Nat.le_trans (Nat.min_le_right _ _) (by rw [List.length_map]; omega))
      · rw [map_at outP he]
        exact c4
    · rintro H2 ⟨sm, hl⟩
      rw [take_all, eL] at hl
      refine ⟨D, _, rfl, hl, hv.pmOut, fun p hp => ?_, by rw [List.length_map]; exact hlen, fun H' y qs s' ny hI hn => q H' y qs (sm.trans s') (sm.free ny) hI hn⟩
      obtain ⟨r, hr, z⟩ := List.mem_map.mp hp
      subst z
      exact bd_out (hv.ok r hr)
theorem scSize : FnScope nSelf ["self"] (defScope sSize) := ⟨rfl, rfl, rfl, by decide +kernel, rfl, by decide +kernel, by decide +kernel⟩
def spSize (R : Addr) : Sp := fun vs H Q _ => ∃ (x : Addr) (rs : List Row), vs = [.ref x] ∧ Inst rI R H x rs ∧ rs.length < 64 ∧ ∀ H', Same H H' → Q (.int (tot rs)) H'
theorem ok_size {f : Addr} {fd : FuncData} (F : Fun K "size" "RangeMap.size" sSize f fd) (T : Txt K mg R S) : FnOk P w K mg base CX0 1 f fd ["self"] (spSize R) := by
  refine F.ok scSize (fun vs H Q E h => ?_) (fun cdv A outer s H vs Q E hr h => ?_)
  · obtain ⟨x, rs, rfl, _⟩ := h
    rfl
  · obtain ⟨x, rs, rfl, ⟨dx, a, hx, hL⟩, hlen, q⟩ := h
    obtain ⟨L, eL, l, hT, ll, at_⟩ := hL.at
    refine ⟨_, pss_one (ps_ret (pe_callB (cr_sum rfl) (by rfl) T.sum (by decide +kernel) (pa_cons
          (pe_lc (own := ownS) (g := g3 K 1 2 3) (tt := tYes) rfl scSize.nd (pi_list (pe_fld (pv 0) rfl)) (blkOk_by (own := ownS) (N := nSelf) (sc := defScope sSize) (by decide +kernel))
            (fun _ _ _ _ _ => pg_tup rfl (pgs_cons (pg_name (i := 1) scSize.nd rfl (.inl rfl)) (pgs_cons (pg_name (i := 2) scSize.nd rfl (.inl rfl)) (pgs_cons (pg_name (i := 3) scSize.nd rfl (.inl rfl)) pgs_nil))))
            (fun _ _ _ _ _ => pts_nil) (fun _ _ _ _ _ => pv 3)) pa_nil))), ?_⟩
    refine ⟨_, rfl, x, R, dx, _, _, rfl, hx, T.icR.cl, T.nR, rowsF a, a, rfl, ⟨_, SqL.of l⟩, fun D nD => lc_list (K := K) (a := a) (xs := refs L) (fun i H2 => Same H H2 ∧ H2 D = some (.lst ((((L.map (·.2)).take i).map (·.2.2)).map V.int))) ⟨Same.upd nD, upd_same⟩ (fun i H2 _ h => SqL.of (h.1 _ _ l)) ?_ ?_⟩
    · rintro i y H2 hi ⟨sm, hl⟩
      obtain ⟨e, he, rfl⟩ := refs_at hi
      have me := List.mem_of_getElem? he
      refine ⟨e.1, _, rfl, SqT.of (sm _ _ (hT e me)), rfl, _, _, rfl, _, _, rfl, _, _, rfl, rfl, rfl, ?_⟩
      refine ⟨_, rfl, _, hl, ?_, fun b o eb => ?_, ?_⟩
      · rw [List.length_map, List.length_map, List.length_take]
        exact slen (Nat.le_trans (Nat.min_le_right _ _) (by rw [List.length_map]; omega))
      · rw [upd_ne (ne_of_none eb nD)]
        exact sm _ _ eb
      · rw [upd_same, map_at (fun r => r.2.2) he, List.map_append]
        rfl
    · rintro H2 ⟨sm, hl⟩
      rw [take_all L (fun r => r.2.2), eL] at hl
      exact ⟨D, _, rfl, SqL.of hl, q H2 sm⟩
end
end K14
namespace K14
open PySem L2
open C8 (InsC call_isC pe_gc pss_cut)
section
variable {P : Program} {w : World} {K : PySem.W.Frag} {mg : Str → Option Value} {base : Heap} {R S : Addr}
/-! ### value(number) -/
def slotI (σ : St) (i : Nat) : Int := match σ[i]? with
  | some (some (.int z)) => z
  | _ => 0
theorem scValue : FnScope ["self", "number", "low", "high", "middle", "inside", "outside", "count"] ["self", "number"] (defScope sValue) := ⟨rfl, rfl, rfl, by decide +kernel, rfl, by decide +kernel, by decide +kernel⟩
def spValue (R : Addr) : Sp := fun vs H Q _ => ∃ (x : Addr) (n : Int) (rs : List Row), vs = [.ref x, .int n] ∧ Inst rI R H x rs ∧ NF rs ∧ rs.length < 64 ∧ RunOk n 1 ∧ (∀ y, Leads rs n y → Q (.int y) H) ∧ ((∀ y, ¬ Leads rs n y) → Q .non H)
theorem ok_value {f f1 : Addr} {fd fd1 : FuncData} (F : Fun K "value" "RangeMap.value" sValue f fd) (T : Txt K mg R S) (F1 : Fun K "is_run" "is_run" sRun f1 fd1) (b1 : Binds K fd1 ["first", "count"] []) (g1 : mg "is_run" = some (.ref f1)) (G1 : FnOk P w K mg base CX0 3 f1 fd1 ["first", "count"] spRun) :
    FnOk P w K mg base CX0 4 f fd ["self", "number"] (spValue R) := by
  refine F.ok scValue (fun vs H Q E h => ?_) (fun cdv A outer s H vs Q E hr h => ?_)
  · obtain ⟨x, n, rs, rfl, _⟩ := h
    rfl
  · obtain ⟨x, n, rs, rfl, ⟨dx, a, hx, hL⟩, hn, hlen, hrun, q1, q2⟩ := h
    obtain ⟨L, eL, l, hT, ll, at_⟩ := hL.at
    refine ⟨_, pss_cons (ps_if (pt_not (pt_val (pe_call G1 hr (by rfl) g1 F1.kp b1 .nil pass0 (pa_cons (pv 1) (pa_cons pe_int pa_nil))))) (pss_one (ps_ret pe_non)) pss_nil)
      (pss_cons (ps_par (i := 2) (j := 3) (by rfl) scValue.nd rfl rfl (by decide) rfl rfl (pa_cons pe_int (pa_cons (pe_callB call_len_seq (by rfl) T.len PySem.boot_len (pa_cons (pe_fld (pv 0) rfl) pa_nil)) pa_nil)) (by rfl))
      (pss_cons (ps_while PassesOwn.never (pt_cmpR op_lt (pv 2) (pv 3) (nomark _))
        (pss_cons (ps_set (i := 4) scValue.nd rfl (.inl rfl) (pe_op op_fdiv (pe_op op_add (pv 2) (pv 3)) pe_int))
        (pss_cons (ps_asg (pe_ix ix_list (pe_fld (pv 0) rfl) (pv 4) (fun _ _ => rfl)) (pg_tup rfl (pgs_cons (pg_name (i := 5) scValue.nd rfl (.inl rfl)) (pgs_cons (pg_name (i := 6) scValue.nd rfl (.inl rfl)) (pgs_cons (pg_name (i := 7) scValue.nd rfl (.inl rfl)) pgs_nil)))))
        (pss_one (ps_if (pt_cmpR op_lt (pv 1) (pv 5) (nomark _)) (pss_one (ps_set (i := 3) scValue.nd rfl (.inl rfl) (pv 4)))
          (pss_one (ps_if (pt_cmpR op_ge (pv 1) (pe_op op_add (pv 5) (pv 7)) (nomark _)) (pss_one (ps_set (i := 2) scValue.nd rfl (.inl rfl) (pe_op op_add (pv 4) pe_int)))
            (pss_one (ps_ret (pe_op op_sub (pe_op op_add (pv 6) (pv 1)) (pv 5)))))))))))
      (pss_one (ps_ret pe_non)))), ?_⟩
    refine ⟨_, rfl, n, 1, rfl, hrun, true, rfl, ?_⟩
    refine iteF ⟨_, rfl, x, R, dx, _, _, rfl, hx, T.icR.cl, T.nR, rowsF a, a, _, rfl, .inl (SqL.of l), _, _, rfl, ?_⟩
    refine while_by (fun σ H' => H' = H ∧ ∃ (lo hi : Nat) (y4 y5 y6 y7 : Option V), σ = [some (.ref x), some (.int n), some (.int (lo : Int)), some (.int (hi : Int)), y4, y5, y6, y7] ∧ Seek rs n lo hi) (fun σ _ => (slotI σ 3 - slotI σ 2).toNat) ?_ ?_ ?_
    · refine ⟨rfl, 0, rs.length, none, none, none, none, ?_, Seek.start rs n⟩
      rw [refs_len, ll]
      rfl
    · rintro σ H' ⟨rfl, lo, hi, y4, y5, y6, y7, rfl, sk⟩
      refine ⟨_, rfl, _, rfl, _, _, rfl, rfl, _, rfl, ?_⟩
      refine ite2 (fun z => ?_) fun z => ?_
      · have z : lo < hi := by
          have := of_decide_eq_true z
          omega
        have lh := sk.hi
        obtain ⟨m, em, m1, m2⟩ : ∃ m : Nat, ((lo : Int) + (hi : Int)) / 2 = (m : Int) ∧ lo ≤ m ∧ m < hi := ⟨(lo + hi) / 2, by omega, by omega, by omega⟩
        have hm : m < rs.length := by omega
        obtain ⟨t, zt, xt⟩ := at_ m rs[m] (List.getElem?_eq_getElem hm)
        have er := List.getElem?_eq_getElem hm
        refine ⟨_, rfl, _, rfl, _, _, rfl, rfl, _, _, rfl, rfl, ⟨by decide, by decide⟩, ?_⟩
        refine ⟨_, rfl, x, R, dx, _, _, rfl, hx, T.icR.cl, T.nR, rowsF a, _, rfl, a, _, _, _, rfl, rfl, SqL.of l, at_of em zt, ?_⟩
        refine ⟨t, _, rfl, SqT.of xt, rfl, _, _, rfl, _, _, rfl, _, _, rfl, rfl, ?_⟩
        refine ⟨_, rfl, _, rfl, _, _, rfl, rfl, _, rfl, ?_⟩
        refine ite2 (fun c => ?_) fun c => ?_
        · have c := of_decide_eq_true c
          refine ⟨_, rfl, ⟨rfl, lo, m, some (.int m), some (.int rs[m].1), some (.int rs[m].2.1), some (.int rs[m].2.2), ?_, sk.left hn er m1 m2 c⟩, ?_⟩
          · show [some (V.ref x), some (V.int n), some (V.int lo), some (V.int (((lo : Int) + (hi : Int)) / 2)), some (V.int (((lo : Int) + (hi : Int)) / 2)), some (V.int rs[m].1), some (V.int rs[m].2.1), some (V.int rs[m].2.2)] = _
            rw [em]
          · show ((((lo : Int) + (hi : Int)) / 2) - (lo : Int)).toNat < ((hi : Int) - (lo : Int)).toNat
            rw [em]
            omega
        · have c : ¬ n < rs[m].1 := fun q => c (decide_eq_true q)
          refine ⟨_, rfl, _, rfl, _, rfl, _, _, rfl, rfl, _, _, rfl, rfl, _, rfl, ?_⟩
          refine ite2 (fun d => ?_) fun d => ?_
          · have d := of_decide_eq_true d
            refine ⟨_, rfl, _, _, rfl, rfl, ⟨rfl, m + 1, hi, some (.int m), some (.int rs[m].1), some (.int rs[m].2.1), some (.int rs[m].2.2), ?_, sk.right hn er m1 m2 d⟩, ?_⟩
            · show [some (V.ref x), some (V.int n), some (V.int (((lo : Int) + (hi : Int)) / 2 + 1)), some (V.int hi), some (V.int (((lo : Int) + (hi : Int)) / 2)), some (V.int rs[m].1), some (V.int rs[m].2.1), some (V.int rs[m].2.2)] = _
              rw [em]
              rfl
            · show ((hi : Int) - (((lo : Int) + (hi : Int)) / 2 + 1)).toNat < ((hi : Int) - (lo : Int)).toNat
              rw [em]
              omega
          · have d : ¬ rs[m].1 + rs[m].2.2 ≤ n := fun q => d (decide_eq_true q)
            refine ⟨_, rfl, _, rfl, _, _, rfl, rfl, _, rfl, _, _, rfl, rfl, ?_⟩
            refine q1 _ ⟨rs[m], List.getElem_mem hm, by omega, by omega, ?_⟩
            omega
      · have z : ¬ lo < hi := fun q => z (decide_eq_true (by omega))
        exact q2 (sk.done z)
    · rintro σ H' Q1 Q2 hq ⟨v1, e1, v2, e2, i, j, e3, e4, k, e5, q⟩
      exact ⟨v1, e1, v2, e2, i, j, e3, e4, k, e5, hq _ _ q⟩
/-! ### digits -/
def St3 (H : Hp) (a : Addr) : Prop := ∃ x y z : Int, H a = some (.lst [.int x, .int y, .int z])
def StA (H : Hp) (a : Addr) : Prop := (∃ x : Int, H a = some (.lst [.int x])) ∨ St3 H a
theorem StA.lst {H : Hp} {a : Addr} (h : StA H a) : ∃ xs, H a = some (.lst xs) := by
  rcases h with ⟨x, h⟩ | ⟨x, y, z, h⟩
  · exact ⟨_, h⟩
  · exact ⟨_, h⟩
theorem StA.same {H H' : Hp} {a : Addr} (h : StA H a) (s : Same H H') : StA H' a := by
  rcases h with ⟨x, h⟩ | ⟨x, y, z, h⟩
  · exact .inl ⟨x, s _ _ h⟩
  · exact .inr ⟨x, y, z, s _ _ h⟩
theorem scDigit : FnScope ["_law_state", "_law_base", "_law_found", "_law_number"] ["_law_state", "_law_base"] (defScope sDigit) := ⟨rfl, rfl, rfl, by decide +kernel, rfl, by decide +kernel, by decide +kernel⟩
def spDigit : Sp := fun vs H Q _ => ∃ (a : Addr) (b : Int), vs = [.ref a, .int b] ∧ StA H a ∧ 0 < b ∧ b < 1073741824 ∧ ∀ H' r, But a H H' → StA H' a → 0 ≤ r → r < b → Q (.int r) H'
theorem ok_digit {f : Addr} {fd : FuncData} (F : Fun K "_law_digit" "_law_digit" sDigit f fd) (T : Txt K mg R S) : FnOk P w K mg base CX0 1 f fd ["_law_state", "_law_base"] spDigit := by
  refine F.ok scDigit (fun vs H Q E h => ?_) (fun cdv A outer s H vs Q E hr h => ?_)
  · obtain ⟨a, b, rfl, _⟩ := h
    rfl
  · obtain ⟨a, b, rfl, hS, b0, b1, q⟩ := h
    have si := fun (X : Cx) => (call_int1 : CallR X (.type "int") _)
    refine ⟨_, pss_cut (ps_if (pt_cmpR op_eq (pe_callB call_len_seq (by rfl) T.len PySem.boot_len (pa_cons (pv 0) pa_nil)) pe_int (nomark _))
        (pss_cons (ps_expr (pe_bm PySem.F.plainAttrs_list PySem.F.slot_list_extend PySem.F.type_list_extend mt_extend (pv 0) (pa_cons (pe_lst (pa_cons (pe_op op_mod (pe_callTy call_int1 (by rfl) T.int (by decide +kernel) (pa_cons (pe_ix ix_list (pv 0) pe_int (fun _ _ => rfl)) pa_nil)) pe_int) (pa_cons pe_int pa_nil))) pa_nil)))
        (pss_one (ps_asg (pe_op op_mul (pe_ix ix_list (pv 0) pe_int (fun _ _ => rfl)) (pe_callTy call_int1 (by rfl) T.int (by decide +kernel) (pa_cons (pe_cmpR op_ge (pe_ix ix_list (pv 0) pe_int (fun _ _ => rfl)) (pe_op op_pow pe_int pe_int) (nomark _)) pa_nil))) (pg_sub (pv 0) pe_int set_list)))) pss_nil)
      (pss_cons (ps_if (pt_cmpR op_gt (pe_ix ix_list (pv 0) pe_int (fun _ _ => rfl)) pe_int (nomark _))
        (pss_cons (ps_set (i := 2) scDigit.nd rfl (.inl rfl) (pe_op op_mod (pe_callTy call_int1 (by rfl) T.int (by decide +kernel) (pa_cons (pe_ix ix_list (pv 0) pe_int (fun _ _ => rfl)) pa_nil)) (pv 1)))
        (pss_cons (ps_asg (pe_op op_fdiv (pe_ix ix_list (pv 0) pe_int (fun _ _ => rfl)) (pv 1)) (pg_sub (pv 0) pe_int set_list)) (pss_one (ps_ret (pv 2))))) pss_nil)
      (pss_cons (ps_asg (pe_op op_add (pe_ix ix_list (pv 0) pe_int (fun _ _ => rfl)) pe_int) (pg_sub (pv 0) pe_int set_list))
      (pss_cons (ps_set (i := 3) scDigit.nd rfl (.inl rfl) (pe_op op_mod (pe_callTy call_int1 (by rfl) T.int (by decide +kernel) (pa_cons (pe_op op_mul (pe_op op_add (pe_op op_add (pe_ix ix_list (pv 0) pe_int (fun _ _ => rfl)) (pe_op op_mul pe_int (pe_ix ix_list (pv 0) pe_int (fun _ _ => rfl)))) pe_int) pe_int) pa_nil)) pe_int))
      (pss_cons (ps_set (i := 3) scDigit.nd rfl (.inl rfl) (pe_op op_mod (pe_callTy call_int1 (by rfl) T.int (by decide +kernel) (pa_cons (pe_op op_mul (pv 3) (pe_op op_add (pe_op op_fdiv (pv 3) pe_int) pe_int)) pa_nil)) pe_int))
      (pss_one (ps_ret (pe_op op_mod (pe_callTy call_int1 (by rfl) T.int (by decide +kernel) (pa_cons (pe_op op_mod (pe_callTy call_int1 (by rfl) T.int (by decide +kernel) (pa_cons (pe_op op_mul (pv 3) (pe_op op_add (pe_op op_fdiv (pv 3) pe_int) pe_int)) pa_nil)) pe_int) pa_nil)) (pv 1)))))))), ?_⟩
    refine ⟨fun σ H' => σ = [some (.ref a), some (.int b), none, none] ∧ But a H H' ∧ St3 H' a, ?_, ?_⟩
    · rcases hS with ⟨x, hx⟩ | ⟨x, y, z, hx⟩
      · refine ⟨_, rfl, a, _, rfl, .inl (SqL.of hx), rfl, _, rfl, ?_⟩
        refine iteT ?_
        refine ⟨_, rfl, .inl ⟨rfl, _, SqL.of hx⟩, _, rfl, a, _, _, _, rfl, rfl, SqL.of hx, rfl, .inl ⟨_, rfl, _, _, rfl, rfl, (show (0 : Int) < 2147483647 by decide), by show 2 ≤ sizeLine; decide, fun p np => ?_⟩⟩
        have nap : a ≠ p := ne_of_none hx np
        have hx1 : (upd H p (.lst [.int (x % 2147483647), .int 0])) a = some (.lst [.int x]) := by rw [upd_ne nap]; exact hx
        refine ⟨a, p, _, _, rfl, rfl, hx1, upd_same, by show 3 ≤ sizeLine; decide, ?_⟩
        have h3 : (upd (upd H p (.lst [.int (x % 2147483647), .int 0])) a (.lst ([.int x] ++ [.int (x % 2147483647), .int 0]))) a = some (.lst [.int x, .int (x % 2147483647), .int 0]) := upd_same
        refine ⟨_, rfl, a, _, _, _, rfl, rfl, SqL.of h3, rfl, ?_⟩
        refine ⟨_, rfl, a, _, _, _, rfl, rfl, SqL.of h3, rfl, _, _, rfl, rfl, ⟨by decide, by decide, by decide⟩, _, _, rfl, rfl, .inr ⟨_, rfl, _, _, rfl, rfl, ?_, ?_⟩⟩
        · refine .inr ?_
          split <;> decide
        · refine ⟨_, rfl, a, _, _, _, rfl, rfl, h3, rfl, rfl, ?_, _, _, _, upd_same⟩
          exact ((But.of (Same.upd np)).trans But.upd).trans But.upd
      · refine ⟨_, rfl, a, _, rfl, .inl (SqL.of hx), rfl, _, rfl, ?_⟩
        refine iteF ⟨rfl, But.refl, _, _, _, hx⟩
    · rintro σ H' ⟨rfl, bu, x, y, z, hx⟩
      refine ⟨_, rfl, a, _, _, _, rfl, rfl, SqL.of hx, rfl, _, _, rfl, rfl, _, rfl, ?_⟩
      refine ite2 (fun c => ?_) fun c => ?_
      · refine ⟨_, rfl, a, _, _, _, rfl, rfl, SqL.of hx, rfl, .inl ⟨_, rfl, _, rfl, _, _, rfl, rfl, b0, ?_⟩⟩
        refine ⟨_, rfl, a, _, _, _, rfl, rfl, SqL.of hx, rfl, _, rfl, _, _, rfl, rfl, ⟨b0, b1⟩, _, rfl, a, _, _, _, rfl, rfl, hx, rfl, ?_⟩
        exact ⟨_, rfl, q _ _ (bu.trans But.upd) (.inr ⟨_, _, _, upd_same⟩) (Int.emod_nonneg _ (by omega)) (Int.emod_lt_of_pos _ b0)⟩
      · refine ⟨_, rfl, a, _, _, _, rfl, rfl, SqL.of hx, rfl, _, _, rfl, rfl, _, rfl, a, _, _, _, rfl, rfl, hx, rfl, ?_⟩
        have h3 : (upd H' a (.lst (([.int x, .int y, .int z] : List V).set 2 (.int (z + 1))))) a = some (.lst [.int x, .int y, .int (z + 1)]) := upd_same
        refine ⟨_, rfl, a, _, _, _, rfl, rfl, SqL.of h3, rfl, _, rfl, a, _, _, _, rfl, rfl, SqL.of h3, rfl, _, _, rfl, rfl, .inl ⟨by decide, by decide⟩, _, _, rfl, rfl, _, _, rfl, rfl, _, _, rfl, rfl, .inr ⟨by decide, by decide⟩, .inl ⟨_, rfl, _, _, rfl, rfl, (show (0 : Int) < 2147483647 by decide), ?_⟩⟩
        obtain ⟨n, en⟩ : ∃ n, n = ((y + 7919 * (z + 1) + 1) * 48271) % 2147483647 := ⟨_, rfl⟩
        have n0 : 0 ≤ n := by rw [en]; exact Int.emod_nonneg _ (by decide)
        have n1 : n < 2147483647 := by rw [en]; exact Int.emod_lt_of_pos _ (by decide)
        refine ⟨_, rfl, _, rfl, n, 1009, congrArg V.int en.symm, rfl, ⟨by decide, by decide⟩, _, _, rfl, rfl, n, _, congrArg V.int en.symm, rfl, .inl ⟨by omega, by omega⟩, .inl ⟨_, rfl, _, _, rfl, rfl, (show (0 : Int) < 2147483647 by decide), ?_⟩⟩
        obtain ⟨m, em⟩ : ∃ m, m = (n * (n / 1009 + 69621)) % 2147483647 := ⟨_, rfl⟩
        have k0 : 0 ≤ m := by rw [em]; exact Int.emod_nonneg _ (by decide)
        have k1 : m < 2147483647 := by rw [em]; exact Int.emod_lt_of_pos _ (by decide)
        refine ⟨_, rfl, _, rfl, m, 2003, congrArg V.int em.symm, rfl, ⟨by decide, by decide⟩, _, _, rfl, rfl, m, _, congrArg V.int em.symm, rfl, .inl ⟨by omega, by omega⟩, .inl ⟨_, rfl, _, _, rfl, rfl, (show (0 : Int) < 2147483399 by decide), .inl ⟨_, rfl, _, rfl, _, _, rfl, rfl, b0, ?_⟩⟩⟩
        exact q _ _ (bu.trans But.upd) (.inr ⟨_, _, _, upd_same⟩) (Int.emod_nonneg _ (by omega)) (Int.emod_lt_of_pos _ b0)
/-! ### a drawn one -/
theorem scOne : FnScope ["_law_state", "_law_some"] ["_law_state", "_law_some"] (defScope sOne) := ⟨rfl, rfl, rfl, by decide +kernel, rfl, by decide +kernel, by decide +kernel⟩
def spOne : Sp := fun vs H Q _ => ∃ (a l : Addr) (ns : List Int), vs = [.ref a, .ref l] ∧ StA H a ∧ l ≠ a ∧ H l = some (.lst (ns.map V.int)) ∧ 0 < ns.length ∧ ns.length ≤ 1000 ∧ ∀ H' v, But a H H' → StA H' a → v ∈ ns → Q (.int v) H'
theorem ok_one {f f1 : Addr} {fd fd1 : FuncData} (F : Fun K "_law_one" "_law_one" sOne f fd) (T : Txt K mg R S) (F1 : Fun K "_law_digit" "_law_digit" sDigit f1 fd1) (b1 : Binds K fd1 ["_law_state", "_law_base"] []) (g1 : mg "_law_digit" = some (.ref f1)) (G1 : FnOk P w K mg base CX0 1 f1 fd1 ["_law_state", "_law_base"] spDigit) :
    FnOk P w K mg base CX0 2 f fd ["_law_state", "_law_some"] spOne := by
  refine F.ok scOne (fun vs H Q E h => ?_) (fun cdv A outer s H vs Q E hr h => ?_)
  · obtain ⟨a, l, ns, rfl, _⟩ := h
    rfl
  · obtain ⟨a, l, ns, rfl, hS, nla, hl, h0, h1, q⟩ := h
    refine ⟨_, pss_one (ps_ret (pe_ix ix_list (pv 1) (pe_call G1 hr (by rfl) g1 F1.kp b1 .nil pass0 (pa_cons (pv 0) (pa_cons (pe_callB call_len_seq (by rfl) T.len PySem.boot_len (pa_cons (pv 1) pa_nil)) pa_nil))) (fun _ _ => rfl))), ?_⟩
    refine ⟨_, rfl, _, rfl, _, rfl, l, _, rfl, .inl (SqL.of hl), a, _, rfl, hS, ?_, ?_, fun H' r bu hS' r0 r1 => ?_⟩
    · rw [List.length_map]; omega
    · rw [List.length_map]; omega
    · rw [List.length_map] at r1
      have hi : r.toNat < ns.length := by omega
      refine ⟨l, _, r, .int ns[r.toNat], rfl, rfl, SqL.of (bu _ _ hl nla), at_of (j := r.toNat) (by omega) ?_, q H' _ bu hS' (List.getElem_mem hi)⟩
      rw [List.getElem?_map, List.getElem?_eq_getElem hi]
      rfl
end
end K14
namespace K14
open PySem L2
open C8 (InsC call_isC pe_gc pss_cut)
/-! ### lists of ints -/
def zs (ks : List Nat) : List Int := ks.map fun (k : Nat) => (k : Int)
abbrev nl (ks : List Nat) : List V := (zs ks).map V.int
theorem nl_len (ks : List Nat) : (nl ks).length = ks.length := by
  unfold nl zs
  rw [List.length_map, List.length_map]
theorem nl_at {ks : List Nat} {i : Nat} {x : V} (h : (nl ks)[i]? = some x) : ∃ k, ks[i]? = some k ∧ x = V.int (k : Int) := by
  unfold nl zs at h
  rw [List.map_map, List.getElem?_map] at h
  cases q : ks[i]? with
  | none => rw [q] at h; cases h
  | some k => rw [q] at h; exact ⟨k, rfl, (Option.some.inj h).symm⟩
theorem nl_get {ks : List Nat} {i : Nat} {k : Nat} (h : ks[i]? = some k) : (nl ks)[i]? = some (V.int (k : Int)) := by
  unfold nl zs
  rw [List.map_map, List.getElem?_map, h]
  rfl
theorem erase_map {α β : Type} (f : α → β) : ∀ (l : List α) (i : Nat), (l.map f).eraseIdx i = (l.eraseIdx i).map f
  | [], _ => rfl
  | a :: l, 0 => rfl
  | a :: l, i + 1 => by
    show f a :: (l.map f).eraseIdx i = f a :: (l.eraseIdx i).map f
    rw [erase_map f l i]
theorem nl_erase (ks : List Nat) (i : Nat) : (nl ks).eraseIdx i = nl (ks.eraseIdx i) := by
  unfold nl zs
  rw [erase_map, erase_map]
theorem rgV_nl (n : Nat) : rgV 0 (n : Int) = nl (List.range n) := by
  unfold rgV nl zs
  rw [List.map_map, show ((n : Int) - 0).toNat = n by omega]
  congr 1
  funext i
  show V.int (0 + (i : Int)) = V.int (i : Int)
  rw [Int.zero_add]
theorem putK_len {κ : Type} [DecidableEq κ] (kvs : List (κ × V)) (k : κ) (v : V) : (putK kvs k v).length ≤ kvs.length + 1 := by
  unfold putK
  split <;> simp
def iD (ns : List Int) : PyData := .list (ns.map .int)
theorem iD_shaped (ns : List Int) : SeqAt.shaped (iD ns) = true := by
  have h1 := ints_depth ns
  have h2 : PyData.depth (iD ns) ≤ 64 := by
    simp only [iD, PyData.depth]
    omega
  show (PyData.canLay0 (iD ns) && decide (PyData.depth (iD ns) ≤ 64)) = true
  rw [Bool.and_eq_true]
  exact ⟨by simp only [iD, PyData.canLay0]; exact ints_lay ns, decide_eq_true h2⟩
theorem iD_eqv (ns ms : List Int) : PyData.eqv (iD ns) (iD ms) = decide (ns = ms) := by
  simp only [iD, PyData.eqv]
  exact ints_eqv ns ms
theorem dp_il {K : PySem.W.Frag} {H : Hp} {a : Addr} {ns : List Int} (h : H a = some (.lst (ns.map V.int))) : Dp K H (.ref a) (iD ns) := .lst (SqL.of h) (dp_ints ns)
theorem seqIx {n k : Nat} (h : k < n) : seqIndex? (k : Int) n = some k := by
  unfold seqIndex?
  show (if (decide ((0 : Int) ≤ (if (k : Int) < 0 then (k : Int) + n else k)) && decide ((if (k : Int) < 0 then (k : Int) + n else k) < (n : Int))) = true then some (if (k : Int) < 0 then (k : Int) + n else k).toNat else none) = some k
  rw [if_neg (show ¬ (k : Int) < 0 by omega), decide_eq_true (show (0 : Int) ≤ k by omega), decide_eq_true (show (k : Int) < n by omega)]
  rfl
theorem But.at {a o : Addr} {H H1 : Hp} {u : HO} (s : But a H H1) (h : H o = none) : But a H (L2.upd H1 o u) := fun b w e n => by
  rw [upd_ne (ne_of_none e h)]
  exact s b w e n
theorem But.new {a p : Addr} {H H1 : Hp} {u : HO} (s : But a H H1) (h : H1 p = none) : But a H (L2.upd H1 p u) := s.trans (But.of (Same.upd h))
theorem StA.new {a p : Addr} {H : Hp} {u : HO} (s : StA H a) (h : H p = none) : StA (L2.upd H p u) a := s.same (Same.upd h)
theorem StA.at {a o : Addr} {H : Hp} {u : HO} (s : StA H a) (h : a ≠ o) : StA (L2.upd H o u) a := by
  rcases s with ⟨x, e⟩ | ⟨x, y, z, e⟩
  · exact .inl ⟨x, by rw [upd_ne h]; exact e⟩
  · exact .inr ⟨x, y, z, by rw [upd_ne h]; exact e⟩
theorem perm_snoc {done left : List Nat} {n i k : Nat} (h : (done ++ left).Perm (List.range n)) (e : left[i]? = some k) : (done ++ [k] ++ left.eraseIdx i).Perm (List.range n) ∧ k ∉ done ∧ k < n := by
  have p := erase_perm e
  have q : (done ++ [k] ++ left.eraseIdx i).Perm (List.range n) := by
    refine List.Perm.trans ?_ h
    rw [List.append_assoc]
    refine List.Perm.append_left _ ?_
    exact (List.perm_append_comm (l₁ := [k])).trans p.symm
  refine ⟨q, fun m => ?_, ?_⟩
  · have nd : (done ++ [k] ++ left.eraseIdx i).Nodup := q.nodup_iff.mpr List.nodup_range
    rw [List.append_assoc, List.nodup_append] at nd
    exact nd.2.2 k m k (by simp) rfl
  · exact List.mem_range.mp (q.mem_iff.mp (by simp))
section
variable {P : Program} {w : World} {K : PySem.W.Frag} {mg : Str → Option Value} {base : Heap} {R S : Addr}
/-! ### _law_ranges -/
abbrev nDraw : List Str := ["_law_state", "_law_low", "_law_high", "_law_counts", "_law_order", "_law_insides", "_law_outsides", "_law_at", "_law_k", "_law_left", "_law_found", "_law_turn"]
theorem scDraw : FnScope nDraw ["_law_state", "_law_low", "_law_high"] (defScope sDraw) := ⟨rfl, rfl, rfl, by decide +kernel, rfl, by decide +kernel, by decide +kernel⟩
def spDraw : Sp := fun vs H Q _ => ∃ (a : Addr) (lo hi : Int), vs = [.ref a, .int lo, .int hi] ∧ StA H a ∧ ∀ H' p rs, But a H H' → StA H' a → H p = none → Ls rI H' p rs → Small lo hi rs → Q (.ref p) H'
theorem ok_draw {f f1 f2 : Addr} {fd fd1 fd2 : FuncData} (F : Fun K "_law_ranges" "_law_ranges" sDraw f fd) (T : Txt K mg R S) (F1 : Fun K "_law_digit" "_law_digit" sDigit f1 fd1) (b1 : Binds K fd1 ["_law_state", "_law_base"] []) (g1 : mg "_law_digit" = some (.ref f1)) (G1 : FnOk P w K mg base CX0 1 f1 fd1 ["_law_state", "_law_base"] spDigit)
    (F2 : Fun K "_law_one" "_law_one" sOne f2 fd2) (b2 : Binds K fd2 ["_law_state", "_law_some"] []) (g2 : mg "_law_one" = some (.ref f2)) (G2 : FnOk P w K mg base CX0 2 f2 fd2 ["_law_state", "_law_some"] spOne) : FnOk P w K mg base CX0 3 f fd ["_law_state", "_law_low", "_law_high"] spDraw := by
  refine F.ok scDraw (fun vs H Q E h => ?_) (fun cdv A outer s H vs Q E hr h => ?_)
  · obtain ⟨a, lo, hi, rfl, _⟩ := h
    rfl
  · obtain ⟨a, lo, hi, rfl, hS, q⟩ := h
    have hr1 : Room 1 _ := hr.mono (by decide)
    refine ⟨_, pss_cons (ps_setLc (i := 3) (own := [("_law_turn", 11)]) (g := gName 11) (tt := tYes) rfl scDraw.nd rfl rfl (sw_true rfl rfl rfl (by decide +kernel)) (pi_range1 (by rfl) T.range (pa_cons (pe_call G1 hr1 (by rfl) g1 F1.kp b1 .nil pass0 (pa_cons (pv 0) (pa_cons pe_int pa_nil))) pa_nil))
        (blkOk_by (own := [("_law_turn", 11)]) (N := nDraw) (sc := defScope sDraw) (by decide +kernel)) (fun _ _ _ _ _ => pg_name (i := 11) scDraw.nd rfl (Or.inl rfl)) (fun _ _ _ _ _ => pts_nil)
        (fun _ _ _ _ _ => pe_op op_add pe_int (pe_call G1 hr1 (by rfl) g1 F1.kp b1 .nil pass0 (pa_cons (pv 0) (pa_cons pe_int pa_nil)))))
      (pss_cons (ps_asg (pe_tup (pa_cons (pe_listRg rfl (by rfl) T.list (prg_1 (by rfl) T.range (pe_callB call_len_seq (by rfl) T.len PySem.boot_len (pa_cons (pv 3) pa_nil)))) (pa_cons pe_dnewK (pa_cons pe_dnewK (pa_cons (pv 1) pa_nil)))))
          (pg_tup rfl (pgs_cons (pg_name (i := 4) scDraw.nd rfl (.inl rfl)) (pgs_cons (pg_name (i := 5) scDraw.nd rfl (.inl rfl)) (pgs_cons (pg_name (i := 6) scDraw.nd rfl (.inl rfl)) (pgs_cons (pg_name (i := 7) scDraw.nd rfl (.inl rfl)) pgs_nil))))))
      (pss_cons (ps_for PassesOwn.never rfl (pi_list (pv 4)) (pg_name (i := 8) scDraw.nd rfl (.inl rfl))
          (pss_cons (ps_set (i := 7) scDraw.nd rfl (.inl rfl) (pe_op op_add (pv 7) (pe_call G2 hr (by rfl) g2 F2.kp b2 .nil pass0 (pa_cons (pv 0) (pa_cons (pe_lst (pa_cons pe_int (pa_cons pe_int (pa_cons pe_int pa_nil)))) pa_nil)))))
          (pss_cons (ps_dput (hu_of hr) (pv 5) (pv 8) (pv 7) rfl)
          (pss_one (ps_set (i := 7) scDraw.nd rfl (.inl rfl) (pe_op op_add (pv 7) (pe_ix ix_list (pv 3) (pv 8) (fun _ _ => rfl))))))))
      (pss_cons (ps_par3 (i := 9) (j := 7) (l := 10) (by rfl) scDraw.nd rfl rfl rfl (by decide) (by decide) (by decide) rfl rfl rfl (pa_cons (pe_callTy call_list_of (by rfl) T.list (by decide +kernel) (pa_cons (pv 4) pa_nil)) (pa_cons (pv 2) (pa_cons (pe_lst pa_nil) pa_nil))) (by rfl))
      (pss_cons (ps_while PassesOwn.never (pt_cmpR (op_neD hr.units) (pv 9) (pe_lst pa_nil) (nomark _))
          (pss_cons (ps_set (i := 8) scDraw.nd rfl (.inl rfl) (pe_bm PySem.F.plainAttrs_list PySem.F.slot_list_pop PySem.F.type_list_pop mt_popAt (pv 9) (pa_cons (pe_call G2 hr (by rfl) g2 F2.kp b2 .nil pass0 (pa_cons (pv 0) (pa_cons (pe_lst (pa_cons pe_int (pa_cons (pe_call G1 hr1 (by rfl) g1 F1.kp b1 .nil pass0 (pa_cons (pv 0) (pa_cons (pe_callB call_len_seq (by rfl) T.len PySem.boot_len (pa_cons (pv 9) pa_nil)) pa_nil))) pa_nil))) pa_nil))) pa_nil)))
          (pss_cons (ps_set (i := 7) scDraw.nd rfl (.inl rfl) (pe_op op_add (pv 7) (pe_call G2 hr (by rfl) g2 F2.kp b2 .nil pass0 (pa_cons (pv 0) (pa_cons (pe_lst (pa_cons pe_int (pa_cons pe_int (pa_cons pe_int pa_nil)))) pa_nil)))))
          (pss_cons (ps_dput (hu_of hr) (pv 6) (pv 8) (pv 7) rfl)
          (pss_one (ps_set (i := 7) scDraw.nd rfl (.inl rfl) (pe_op op_add (pv 7) (pe_ix ix_list (pv 3) (pv 8) (fun _ _ => rfl)))))))))
      (pss_cons (ps_while PassesOwn.never (pt_cmpR (op_neD hr.units) (pv 4) (pe_lst pa_nil) (nomark _))
          (pss_cons (ps_set (i := 8) scDraw.nd rfl (.inl rfl) (pe_bm PySem.F.plainAttrs_list PySem.F.slot_list_pop PySem.F.type_list_pop mt_popAt (pv 4) (pa_cons (pe_call G1 hr1 (by rfl) g1 F1.kp b1 .nil pass0 (pa_cons (pv 0) (pa_cons (pe_callB call_len_seq (by rfl) T.len PySem.boot_len (pa_cons (pv 4) pa_nil)) pa_nil))) pa_nil)))
          (pss_one (ps_expr (pe_bm PySem.F.plainAttrs_list PySem.F.slot_list_append PySem.F.type_list_append mt_append (pv 10) (pa_cons (pe_tup (pa_cons (pe_dget (hu_of hr) (pv 5) (pv 8) (fun _ _ => rfl)) (pa_cons (pe_dget (hu_of hr) (pv 6) (pv 8) (fun _ _ => rfl)) (pa_cons (pe_ix ix_list (pv 3) (pv 8) (fun _ _ => rfl)) pa_nil)))) pa_nil))))))
      (pss_one (ps_ret (pv 10)))))))), ?_⟩
    -- the counts
    refine ⟨_, rfl, a, 8, rfl, hS, by decide, by decide, fun H1 r1 bu1 hS1 r10 r11 => ⟨r1, rfl, by omega, by omega, fun D nD => ?_⟩⟩
    obtain ⟨xs1, hxs1⟩ := hS1.lst
    have naD : a ≠ D := ne_of_none hxs1 nD
    have nDH : H D = none := bu1.free naD.symm nD
    refine lc_range (lo := 0) (n := r1.toNat) (fun i H' => But a H H' ∧ StA H' a ∧ ∃ ns : List Int, H' D = some (.lst (ns.map V.int)) ∧ ns.length = i ∧ ∀ k ∈ ns, 1 ≤ k ∧ k ≤ 6)
      ⟨bu1.new nD, hS1.new nD, [], upd_same, rfl, fun _ h => (List.not_mem_nil h).elim⟩ ?_ ?_
    · rintro i H2 hi ⟨bu2, hS2, ns, hD, ln, hns⟩
      refine ⟨rfl, ?_⟩
      refine ⟨_, rfl, a, 6, rfl, hS2, by decide, by decide, fun H3 r3 bu3 hS3 p0 p1 => ?_⟩
      have hD3 := bu3 _ _ hD naD.symm
      refine ⟨_, _, rfl, rfl, _, hD3, ?_, (bu2.trans bu3).at nDH, hS3.at naD, ns ++ [1 + r3], ?_, ?_, fun k hk => ?_⟩
      · rw [List.length_map, ln]
        exact slen (by omega)
      · rw [upd_same, List.map_append]
        rfl
      · rw [List.length_append, ln]
        rfl
      · rcases List.mem_append.mp hk with m | m
        · exact hns k m
        · rw [List.mem_singleton] at m
          omega
    rintro H2 ⟨bu2, hS2, ns, hD, ln, hns⟩
    have hn7 : ns.length ≤ 7 := by omega
    -- the dicts
    refine ⟨_, rfl, D, _, rfl, .inl (SqL.of hD), _, rfl, RgOk.of_le (by omega) (by rw [List.length_map]; omega) (by omega) (by omega), fun od nod => ?_⟩
    intro di ndi dO ndO
    refine ⟨_, rfl, by show 4 ≤ sizeLine; decide, fun t nt => ⟨t, _, rfl, SqT.of upd_same, rfl, _, _, rfl, _, _, rfl, _, _, rfl, _, _, rfl, rfl, ?_⟩⟩
    have eod : rgV 0 (((ns.map V.int).length : Nat) : Int) = nl (List.range ns.length) := by rw [List.length_map, rgV_nl]
    rw [eod] at ndi ndO nt ⊢
    obtain ⟨xs2, hxs2⟩ := hS2.lst
    have naod : a ≠ od := ne_of_none hxs2 nod
    have nDod : D ≠ od := ne_of_none hD nod
    have nodH : H od = none := bu2.free naod.symm nod
    have b3 := bu2.new (u := .lst (nl (List.range ns.length))) nod
    have s3 := hS2.new (u := .lst (nl (List.range ns.length))) nod
    obtain ⟨xs3, hxs3⟩ := s3.lst
    have nadi : a ≠ di := ne_of_none hxs3 ndi
    have ndiH : H di = none := b3.free nadi.symm ndi
    have nDdi : D ≠ di := ne_of_none (Same.upd nod _ _ hD) ndi
    have nodi : od ≠ di := ne_of_none upd_same ndi
    have b4 := b3.new (u := .dK []) ndi
    have s4 := s3.new (u := .dK []) ndi
    obtain ⟨xs4, hxs4⟩ := s4.lst
    have nadO : a ≠ dO := ne_of_none hxs4 ndO
    have ndOH : H dO = none := b4.free nadO.symm ndO
    have nDdO : D ≠ dO := ne_of_none (Same.upd ndi _ _ (Same.upd nod _ _ hD)) ndO
    have nodO : od ≠ dO := ne_of_none (Same.upd ndi _ _ upd_same) ndO
    have ndidO : di ≠ dO := ne_of_none upd_same ndO
    have b5 := (b4.new (u := .dK []) ndO).new (u := .tup [.ref od, .ref di, .ref dO, .int lo]) nt
    have s5 := (s4.new (u := .dK []) ndO).new (u := .tup [.ref od, .ref di, .ref dO, .int lo]) nt
    have eD := Same.upd (o := .tup [.ref od, .ref di, .ref dO, .int lo]) nt _ _ (Same.upd (o := .dK []) ndO _ _ (Same.upd (o := .dK []) ndi _ _ (Same.upd (o := .lst (nl (List.range ns.length))) nod _ _ hD)))
    have eo := Same.upd (o := .tup [.ref od, .ref di, .ref dO, .int lo]) nt _ _ (Same.upd (o := .dK []) ndO _ _ (Same.upd (o := .dK []) ndi _ _ (upd_same (H := H2) (a := od) (o := .lst (nl (List.range ns.length))))))
    have ei := Same.upd (o := .tup [.ref od, .ref di, .ref dO, .int lo]) nt _ _ (Same.upd (o := .dK []) ndO _ _ (upd_same (H := upd H2 od (.lst (nl (List.range ns.length)))) (a := di) (o := .dK [])))
    have eO := Same.upd (o := .tup [.ref od, .ref di, .ref dO, .int lo]) nt _ _ (upd_same (H := upd (upd H2 od (.lst (nl (List.range ns.length)))) di (.dK [])) (a := dO) (o := .dK []))
    clear nt hxs4 hxs3 hxs2 hxs1 s4 b4 s3 b3
    revert b5 s5 eD eo ei eO
    generalize upd (upd (upd (upd H2 od (.lst (nl (List.range ns.length)))) di (.dK [])) dO (.dK [])) t (.tup [.ref od, .ref di, .ref dO, .int lo]) = H5
    intro b5 s5 eD eo ei eO
    have cget : ∀ k : Nat, k < ns.length → (ns.map V.int)[k]? = some (V.int (ns.getD k 0)) ∧ 1 ≤ ns.getD k 0 ∧ ns.getD k 0 ≤ 6 := fun k hk => by
      have e : ns.getD k 0 = ns[k] := by rw [List.getD_eq_getElem?_getD, List.getElem?_eq_getElem hk]; rfl
      rw [e]
      exact ⟨by rw [List.getElem?_map, List.getElem?_eq_getElem hk]; rfl, hns _ (List.getElem_mem hk)⟩
    refine ⟨_, rfl, od, rfl, ⟨_, SqL.of eo⟩, for_list (K := K) (a := od) (xs := nl (List.range ns.length)) (fun i σ H' => ∃ (I : Nat → Int) (kvs : List (Key × V)) (at_ : Int) (y8 : Option V),
        σ = [some (.ref a), some (.int lo), some (.int hi), some (.ref D), some (.ref od), some (.ref di), some (.ref dO), some (.int at_), y8, none, none, none] ∧ But a H H' ∧ StA H' a ∧ H' D = some (.lst (ns.map V.int)) ∧
        H' od = some (.lst (nl (List.range ns.length))) ∧ H' di = some (.dK kvs) ∧ H' dO = some (.dK []) ∧ kvs.length ≤ i ∧ Placed lo (fun k => ns.getD k 0) ((List.range ns.length).take i) at_ I ∧
        ∀ k ∈ (List.range ns.length).take i, valV kvs (Sum.inl (k : Int)) = some (.int (I k)))
      ⟨fun _ => 0, [], lo, none, rfl, b5, s5, eD, eo, ei, eO, Nat.le_refl _, Placed.nil _ _ _, fun k h => (List.not_mem_nil h).elim⟩ (fun i σ H' _ ⟨_, _, _, _, _, _, _, _, h, _⟩ => SqL.of h) ?_ ?_⟩
    · rintro i x σ H' hi_ ⟨I, kvs, at_, y8, rfl, bu, hS', hD', hod, hdi, hdO, lk, pl, hv⟩
      obtain ⟨k, ek, rfl⟩ := nl_at hi_
      have hk : k < ns.length := List.mem_range.mp (List.mem_of_getElem? ek)
      have tk := take_snoc ek
      have il : i < ns.length := by
        have := (List.getElem?_eq_some_iff.mp ek).1
        rw [List.length_range] at this
        exact this
      obtain ⟨g1, g2, g3⟩ := cget k hk
      refine ⟨_, rfl, _, rfl, by show 3 ≤ sizeLine; decide, fun l nl_ => ?_⟩
      obtain ⟨xs, hxs⟩ := hS'.lst
      refine ⟨a, l, [0, 0, 1], rfl, hS'.new nl_, (ne_of_none hxs nl_).symm, upd_same, by decide, by decide, fun H6 v bu6 hS6 mv => ?_⟩
      have mv : 0 ≤ v ∧ v ≤ 1 := by
        have : v = 0 ∨ v = 0 ∨ v = 1 := by simpa using mv
        omega
      have t6 := fun b o (h : H' b = some o) n => bu6 b o (Same.upd nl_ _ _ h) n
      have hdi6 := t6 _ _ hdi nadi.symm
      refine ⟨_, _, rfl, rfl, ?_⟩
      refine ⟨_, rfl, _, rfl, _, rfl, di, _, rfl, DPut.k (k := Sum.inl (k : Int)) hdi6 (slen (by omega)), ?_⟩
      have hD7 := t6 _ _ hD' naD.symm
      have t7 := fun b o (h : H' b = some o) (n : b ≠ a) (n2 : b ≠ di) => (show (upd H6 di (.dK (putK kvs (Sum.inl (k : Int)) (.int (at_ + v))))) b = some o by rw [upd_ne n2]; exact t6 b o h n)
      refine ⟨_, rfl, _, rfl, _, rfl, D, _, _, _, rfl, rfl, SqL.of (t7 _ _ hD' naD.symm nDdi), at_of rfl g1, _, _, rfl, rfl, ?_⟩
      have nk : k ∉ (List.range ns.length).take i := fun m => by
        have nd : ((List.range ns.length).take (i + 1)).Nodup := List.Nodup.sublist (List.take_sublist _ _) List.nodup_range
        rw [tk, List.nodup_append] at nd
        exact nd.2.2 k m k (by simp) rfl
      refine ⟨put I k (at_ + v), _, _, _, rfl, ?_, hS6.at nadi, t7 _ _ hD' naD.symm nDdi, t7 _ _ hod naod.symm nodi, upd_same, t7 _ _ hdO nadO.symm ndidO.symm, ?_, ?_, ?_⟩
      · exact ((bu.new nl_).trans bu6).at ndiH
      · exact Nat.le_trans (putK_len _ _ _) (by omega)
      · rw [tk]
        exact pl.next nk (by omega) (by omega) g2 g3
      · intro j hj
        rw [valV_put]
        rw [tk] at hj
        rcases List.mem_append.mp hj with m | m
        · have nj : j ≠ k := fun e => nk (e ▸ m)
          have nj' : ¬ ((Sum.inl (j : Int) : Key) = Sum.inl (k : Int)) := fun e => nj (by injection e with e; omega)
          rw [if_neg nj', put_ne I _ nj]
          exact hv j m
        · rw [List.mem_singleton] at m
          subst m
          rw [if_pos rfl, put_same]
    rintro σ H6 ⟨I, kvs, at1, y8, rfl, bu6, hS6, hD6, hod6, hdi6, hdO6, lk, pl, hv⟩
    have tka : (List.range ns.length).take (nl (List.range ns.length)).length = List.range ns.length := List.take_of_length_le (by rw [nl_len]; exact Nat.le_refl _)
    rw [tka] at pl hv
    rw [nl_len, List.length_range] at lk
    -- left, at, found
    refine ⟨_, rfl, od, _, rfl, .inl (SqL.of hod6), fun lf nlf => ⟨_, rfl, Nat.zero_le _, fun fo nfo => ⟨_, _, _, rfl, ?_⟩⟩⟩
    obtain ⟨xs6, hxs6⟩ := hS6.lst
    have nalf : a ≠ lf := ne_of_none hxs6 nlf
    have nlfH : H lf = none := bu6.free nalf.symm nlf
    have nDlf : D ≠ lf := ne_of_none hD6 nlf
    have nodlf : od ≠ lf := ne_of_none hod6 nlf
    have ndilf : di ≠ lf := ne_of_none hdi6 nlf
    have ndOlf : dO ≠ lf := ne_of_none hdO6 nlf
    have u6 := Same.upd (o := .lst (nl (List.range ns.length))) nlf
    have nafo : a ≠ fo := ne_of_none (u6 _ _ hxs6) nfo
    have nfoH : H fo = none := (bu6.new nlf).free nafo.symm nfo
    have nDfo : D ≠ fo := ne_of_none (u6 _ _ hD6) nfo
    have nodfo : od ≠ fo := ne_of_none (u6 _ _ hod6) nfo
    have ndifo : di ≠ fo := ne_of_none (u6 _ _ hdi6) nfo
    have ndOfo : dO ≠ fo := ne_of_none (u6 _ _ hdO6) nfo
    have nlffo : lf ≠ fo := ne_of_none upd_same nfo
    have u7 := Same.upd (o := .lst []) nfo
    have b7 := (bu6.new (u := .lst (nl (List.range ns.length))) nlf).new (u := .lst []) nfo
    have s7 := (hS6.new (u := .lst (nl (List.range ns.length))) nlf).new (u := .lst []) nfo
    have eD7 := u7 _ _ (u6 _ _ hD6)
    have eo7 := u7 _ _ (u6 _ _ hod6)
    have ei7 := u7 _ _ (u6 _ _ hdi6)
    have eO7 := u7 _ _ (u6 _ _ hdO6)
    have el7 := u7 _ _ (upd_same (H := H6) (a := lf) (o := .lst (nl (List.range ns.length))))
    have ef7 := upd_same (H := upd H6 lf (.lst (nl (List.range ns.length)))) (a := fo) (o := .lst [])
    clear nfo hxs6 u6
    revert b7 s7 eD7 eo7 ei7 eO7 el7 ef7
    clear u7
    generalize upd (upd H6 lf (.lst (nl (List.range ns.length)))) fo (.lst []) = H7
    intro b7 s7 eD7 eo7 ei7 eO7 el7 ef7
    refine while_by (fun σ H' => ∃ (left done : List Nat) (O : Nat → Int) (kv2 : List (Key × V)) (at_ : Int) (y8 : Option V),
        σ = [some (.ref a), some (.int lo), some (.int hi), some (.ref D), some (.ref od), some (.ref di), some (.ref dO), some (.int at_), y8, some (.ref lf), some (.ref fo), none] ∧ But a H H' ∧ StA H' a ∧ H' D = some (.lst (ns.map V.int)) ∧
        H' od = some (.lst (nl (List.range ns.length))) ∧ H' di = some (.dK kvs) ∧ H' dO = some (.dK kv2) ∧ H' lf = some (.lst (nl left)) ∧ H' fo = some (.lst []) ∧ kv2.length ≤ done.length ∧ (done ++ left).Perm (List.range ns.length) ∧
        Placed hi (fun k => ns.getD k 0) done at_ O ∧ ∀ k ∈ done, valV kv2 (Sum.inl (k : Int)) = some (.int (O k))) (fun _ H' => match H' lf with | some (.lst xs) => xs.length | _ => 0) ?_ ?_ ?_
    · exact ⟨List.range ns.length, [], fun _ => 0, [], hi, y8, rfl, b7, s7, eD7, eo7, ei7, eO7, el7, ef7, Nat.le_refl _, List.Perm.refl _, Placed.nil _ _ _, fun k h => (List.not_mem_nil h).elim⟩
    · rintro σ H' ⟨left, done, O, kv2, at_, y8, rfl, bu, hS', hD', hod, hdi, hdO, hlf, hfo, lk2, pm, pl2, hv2⟩
      have ll : left.length ≤ ns.length := by
        have := pm.length_eq
        rw [List.length_append, List.length_range] at this
        omega
      refine ⟨_, rfl, Nat.zero_le _, fun e ne => ⟨_, _, dp_il (Same.upd ne _ _ hlf), dp_il (ns := []) upd_same, iD_shaped _, iD_shaped _, _, rfl, ?_⟩⟩
      rw [iD_eqv]
      have bu := bu.new (u := .lst []) ne
      have hS' := hS'.new (u := .lst []) ne
      have hD' := Same.upd (o := .lst []) ne _ _ hD'
      have hod := Same.upd (o := .lst []) ne _ _ hod
      have hdi := Same.upd (o := .lst []) ne _ _ hdi
      have hdO := Same.upd (o := .lst []) ne _ _ hdO
      have hlf0 := hlf
      have hlf := Same.upd (o := .lst []) ne _ _ hlf
      have hfo := Same.upd (o := .lst []) ne _ _ hfo
      have mu0 : (match H' lf with | some (.lst xs) => xs.length | _ => 0) = left.length := by rw [hlf0]; exact nl_len _
      rw [mu0]
      clear mu0 hlf0
      revert bu hS' hD' hod hdi hdO hlf hfo
      generalize upd H' e (.lst []) = H8
      intro bu hS' hD' hod hdi hdO hlf hfo
      cases left with
      | nil =>
        refine iteF ?_
        have pmD : done.Perm (List.range ns.length) := by simpa using pm
        have I' := I
        refine while_by (fun σ H' => ∃ (left d3 : List Nat) (y8 : Option V),
            σ = [some (.ref a), some (.int lo), some (.int hi), some (.ref D), some (.ref od), some (.ref di), some (.ref dO), some (.int at_), y8, some (.ref lf), some (.ref fo), none] ∧ But a H H' ∧ StA H' a ∧ H' D = some (.lst (ns.map V.int)) ∧
            H' od = some (.lst (nl left)) ∧ H' di = some (.dK kvs) ∧ H' dO = some (.dK kv2) ∧ Ls rI H' fo (d3.map fun k => (I k, O k, ns.getD k 0)) ∧ (d3 ++ left).Perm (List.range ns.length)) (fun _ H' => match H' od with | some (.lst xs) => xs.length | _ => 0) ?_ ?_ ?_
        · exact ⟨List.range ns.length, [], y8, rfl, bu, hS', hD', hod, hdi, hdO, Ls.nil hfo, List.Perm.refl _⟩
        · clear bu hS' hD' hod hdi hdO hlf hfo
          rintro σ H' ⟨left, d3, y8, rfl, bu, hS', hD', hod, hdi, hdO, hfo, pm3⟩
          have ll : left.length ≤ ns.length := by
            have := pm3.length_eq
            rw [List.length_append, List.length_range] at this
            omega
          refine ⟨_, rfl, Nat.zero_le _, fun e ne => ⟨_, _, dp_il (Same.upd ne _ _ hod), dp_il (ns := []) upd_same, iD_shaped _, iD_shaped _, _, rfl, ?_⟩⟩
          rw [iD_eqv]
          have bu := bu.new (u := .lst []) ne
          have hS' := hS'.new (u := .lst []) ne
          have hD' := Same.upd (o := .lst []) ne _ _ hD'
          have hod0 := hod
          have hod := Same.upd (o := .lst []) ne _ _ hod
          have hdi := Same.upd (o := .lst []) ne _ _ hdi
          have hdO := Same.upd (o := .lst []) ne _ _ hdO
          have hfo := hfo.same (Same.upd (o := .lst []) ne)
          have mu0 : (match H' od with | some (.lst xs) => xs.length | _ => 0) = left.length := by rw [hod0]; exact nl_len _
          rw [mu0]
          clear mu0 hod0
          revert bu hS' hD' hod hdi hdO hfo
          generalize upd H' e (.lst []) = H13
          intro bu hS' hD' hod hdi hdO hfo
          cases left with
          | nil =>
            refine iteF ?_
            have pmE : d3.Perm (List.range ns.length) := by simpa using pm3
            refine ⟨_, rfl, q _ fo _ bu hS' nfoH hfo (small_of (c := fun k => ns.getD k 0) pl pl2 pmE.symm (pmD.trans pmE.symm) ?_ fun k hk => ?_)⟩
            · rw [pmE.length_eq, List.length_range]
              exact hn7
            · exact (cget k (List.mem_range.mp (pmE.mem_iff.mp hk))).2.1
          | cons k0 lr =>
            refine iteT ?_
            obtain ⟨xs, hxs⟩ := hS'.lst
            refine ⟨_, rfl, .inl ⟨rfl, _, SqL.of hod⟩, _, rfl, _, rfl, od, _, rfl, .inl (SqL.of hod), a, _, rfl, hS', ?_, ?_, fun H14 r bu14 hS14 r0 r1 => ?_⟩
            · rw [nl_len, List.length_cons]; omega
            · rw [nl_len]; omega
            rw [nl_len] at r1
            obtain ⟨vn, rfl⟩ : ∃ vn : Nat, r = (vn : Int) := ⟨r.toNat, by omega⟩
            have hvn : vn < (k0 :: lr).length := by omega
            obtain ⟨k, ek⟩ : ∃ k, (k0 :: lr)[vn]? = some k := ⟨_, List.getElem?_eq_getElem hvn⟩
            obtain ⟨pm', nk, hk⟩ := perm_snoc pm3 ek
            obtain ⟨g1, g2, g3⟩ := cget k hk
            have hod14 := bu14 _ _ hod naod.symm
            refine ⟨od, _, _, vn, _, rfl, rfl, hod14, by omega, by omega, by rw [nl_len]; exact seqIx hvn, nl_get ek, ?_⟩
            rw [nl_erase]
            have b15 : But a H (upd H14 od (.lst (nl ((k0 :: lr).eraseIdx vn)))) := (bu.trans bu14).at nodH
            have s15 : StA (upd H14 od (.lst (nl ((k0 :: lr).eraseIdx vn)))) a := hS14.at naod
            have t15 := fun b o (h : H13 b = some o) (n : b ≠ a) (n2 : b ≠ od) => (show (upd H14 od (.lst (nl ((k0 :: lr).eraseIdx vn)))) b = some o by rw [upd_ne n2]; exact bu14 b o h n)
            have hfo15 : Ls rI (upd H14 od (.lst (nl ((k0 :: lr).eraseIdx vn)))) fo (d3.map fun k => (I k, O k, ns.getD k 0)) := (hfo.but bu14 nafo.symm hxs (lst_tup _)).but But.upd nodfo.symm hod14 (lst_tup _)
            have l15 : (upd H14 od (.lst (nl ((k0 :: lr).eraseIdx vn)))) od = some (.lst (nl ((k0 :: lr).eraseIdx vn))) := upd_same
            revert b15 s15 t15 hfo15 l15
            generalize upd H14 od (.lst (nl ((k0 :: lr).eraseIdx vn))) = H15
            intro b15 s15 t15 hfo15 l15
            have di15 := t15 _ _ hdi nadi.symm nodi.symm
            have dO15 := t15 _ _ hdO nadO.symm nodO.symm
            have D15 := t15 _ _ hD' naD.symm nDod
            obtain ⟨M, eM, hfxs, tM⟩ := id hfo15
            refine ⟨_, rfl, .inl ⟨rfl, _, SqL.of hfxs⟩, _, rfl, _, rfl, di, _, rfl, (hv k (List.mem_range.mpr hk)) ▸ DGet.k (k := Sum.inl (k : Int)) di15, ?_⟩
            refine ⟨_, rfl, _, rfl, dO, _, rfl, (hv2 k (pmD.mem_iff.mpr (List.mem_range.mpr hk))) ▸ DGet.k (k := Sum.inl (k : Int)) dO15, ?_⟩
            refine ⟨_, rfl, _, rfl, D, _, _, _, rfl, rfl, SqL.of D15, at_of rfl g1, by show 3 ≤ sizeLine; decide, fun t nt => ?_⟩
            have nfot : fo ≠ t := ne_of_none hfxs nt
            have c1 : (upd H15 t (tv rI (I k, O k, ns.getD k 0))) fo = some (.lst (refs M)) := by rw [upd_ne nfot]; exact hfxs
            have t16 := fun b o (h : H15 b = some o) (n : b ≠ fo) => (show (upd (upd H15 t (tv rI (I k, O k, ns.getD k 0))) fo (.lst (refs M ++ [V.ref t]))) b = some o by rw [upd_ne n]; exact Same.upd nt _ _ h)
            have l16 := Ls.push (g := rI) c1 (tM.same (Same.upd nt)) (r := (I k, O k, ns.getD k 0)) (t := t) upd_same
            have lenM : M.length ≤ ns.length := by
              have h1 : M.length = d3.length := by rw [← List.length_map (f := fun k => (I k, O k, ns.getD k 0)) (as := d3), ← eM, List.length_map]
              have := pm3.length_eq
              rw [List.length_append, List.length_range] at this
              omega
            have fin := t16 _ _ l15 nodfo
            refine ⟨fo, refs M, _, rfl, rfl, c1, by rw [refs_len]; exact slen (by omega), ⟨(k0 :: lr).eraseIdx vn, d3 ++ [k], _, rfl, (b15.new nt).at nfoH, (s15.new nt).at nafo, t16 _ _ D15 nDfo, fin, t16 _ _ di15 ndifo, t16 _ _ dO15 ndOfo, ?_, pm'⟩, ?_⟩
            · rw [List.map_append, ← eM]
              exact l16
            · show (match (upd (upd H15 t (tv rI (I k, O k, ns.getD k 0))) fo (.lst (refs M ++ [V.ref t]))) od with | some (.lst xs) => xs.length | _ => 0) < _
              rw [fin]
              show (nl ((k0 :: lr).eraseIdx vn)).length < _
              rw [nl_len, List.length_eraseIdx_of_lt hvn, List.length_cons]
              omega
        · rintro σ H' Q1 Q2 hq ⟨v, e1, h1, h2⟩
          exact ⟨v, e1, h1, fun p np => let ⟨d, e, a1, a2, a3, a4, k, ek, q⟩ := h2 p np; ⟨d, e, a1, a2, a3, a4, k, ek, hq _ _ q⟩⟩
      | cons k0 lr =>
        refine iteT ?_
        obtain ⟨xs, hxs⟩ := hS'.lst
        refine ⟨_, rfl, .inl ⟨rfl, _, SqL.of hlf⟩, _, rfl, _, rfl, _, rfl, lf, _, rfl, .inl (SqL.of hlf), a, _, rfl, hS', ?_, ?_, fun H9 r bu9 hS9 r0 r1 => ?_⟩
        · rw [nl_len, List.length_cons]; omega
        · rw [nl_len]; omega
        rw [nl_len] at r1
        refine ⟨by show 2 ≤ sizeLine; decide, fun l nl_ => ?_⟩
        obtain ⟨xs9, hxs9⟩ := hS9.lst
        refine ⟨a, l, [0, r], rfl, hS9.new nl_, (ne_of_none hxs9 nl_).symm, upd_same, (by show 0 < 2; decide), (by show 2 ≤ 1000; decide), fun H10 v bu10 hS10 mv => ?_⟩
        have mv : 0 ≤ v ∧ v < ((k0 :: lr).length : Int) := by
          have : v = 0 ∨ v = r := by simpa using mv
          have : (0 : Int) < ((k0 :: lr).length : Int) := by rw [List.length_cons]; omega
          omega
        obtain ⟨vn, rfl⟩ : ∃ vn : Nat, v = (vn : Int) := ⟨v.toNat, by omega⟩
        have hvn : vn < (k0 :: lr).length := by omega
        obtain ⟨k, ek⟩ : ∃ k, (k0 :: lr)[vn]? = some k := ⟨_, List.getElem?_eq_getElem hvn⟩
        have t10 := fun b o (h : H8 b = some o) (n : b ≠ a) => bu10 b o (Same.upd nl_ _ _ (bu9 b o h n)) n
        have hlf10 := t10 _ _ hlf nalf.symm
        obtain ⟨pm', nk, hk⟩ := perm_snoc pm ek
        obtain ⟨g1, g2, g3⟩ := cget k hk
        refine ⟨lf, _, _, vn, _, rfl, rfl, hlf10, by omega, by omega, by rw [nl_len]; exact seqIx hvn, nl_get ek, ?_⟩
        rw [nl_erase]
        have b11 : But a H (upd H10 lf (.lst (nl ((k0 :: lr).eraseIdx vn)))) := (((bu.trans bu9).new nl_).trans bu10).at nlfH
        have s11 : StA (upd H10 lf (.lst (nl ((k0 :: lr).eraseIdx vn)))) a := hS10.at nalf
        have t11 := fun b o (h : H8 b = some o) (n : b ≠ a) (n2 : b ≠ lf) => (show (upd H10 lf (.lst (nl ((k0 :: lr).eraseIdx vn)))) b = some o by rw [upd_ne n2]; exact t10 b o h n)
        have l11 : (upd H10 lf (.lst (nl ((k0 :: lr).eraseIdx vn)))) lf = some (.lst (nl ((k0 :: lr).eraseIdx vn))) := upd_same
        revert b11 s11 t11 l11
        generalize upd H10 lf (.lst (nl ((k0 :: lr).eraseIdx vn))) = H11
        intro b11 s11 t11 l11
        refine ⟨_, rfl, _, rfl, by show 3 ≤ sizeLine; decide, fun l2 nl2 => ?_⟩
        obtain ⟨xs11, hxs11⟩ := s11.lst
        refine ⟨a, l2, [0, 0, 1], rfl, s11.new nl2, (ne_of_none hxs11 nl2).symm, upd_same, by decide, by decide, fun H12 v bu12 hS12 mv => ?_⟩
        have mv : 0 ≤ v ∧ v ≤ 1 := by
          have : v = 0 ∨ v = 0 ∨ v = 1 := by simpa using mv
          omega
        have t12 := fun b o (h : H11 b = some o) (n : b ≠ a) => bu12 b o (Same.upd nl2 _ _ h) n
        have hdO12 := t12 _ _ (t11 _ _ hdO nadO.symm ndOlf) nadO.symm
        refine ⟨_, _, rfl, rfl, ?_⟩
        have dl : done.length ≤ ns.length := by
          have := pm.length_eq
          rw [List.length_append, List.length_range] at this
          omega
        refine ⟨_, rfl, _, rfl, _, rfl, dO, _, rfl, DPut.k (k := Sum.inl (k : Int)) hdO12 (slen (by omega)), ?_⟩
        have t13 := fun b o (h : H11 b = some o) (n : b ≠ a) (n2 : b ≠ dO) => (show (upd H12 dO (.dK (putK kv2 (Sum.inl (k : Int)) (.int (at_ + v))))) b = some o by rw [upd_ne n2]; exact t12 b o h n)
        refine ⟨_, rfl, _, rfl, _, rfl, D, _, _, _, rfl, rfl, SqL.of (t13 _ _ (t11 _ _ hD' naD.symm nDlf) naD.symm nDdO), at_of rfl g1, _, _, rfl, rfl, ?_⟩
        have fin := t13 _ _ l11 nalf.symm ndOlf.symm
        refine ⟨⟨(k0 :: lr).eraseIdx vn, done ++ [k], put O k (at_ + v), _, _, _, rfl, ?_, hS12.at nadO, t13 _ _ (t11 _ _ hD' naD.symm nDlf) naD.symm nDdO, t13 _ _ (t11 _ _ hod naod.symm nodlf) naod.symm nodO, t13 _ _ (t11 _ _ hdi nadi.symm ndilf) nadi.symm ndidO, upd_same, fin, t13 _ _ (t11 _ _ hfo nafo.symm nlffo.symm) nafo.symm ndOfo.symm, ?_, pm', pl2.next nk (by omega) (by omega) g2 g3, ?_⟩, ?_⟩
        · exact ((b11.new nl2).trans bu12).at ndOH
        · rw [List.length_append, List.length_singleton]
          exact Nat.le_trans (putK_len _ _ _) (by omega)
        · intro j hj
          rw [valV_put]
          rcases List.mem_append.mp hj with m | m
          · have nj : j ≠ k := fun e => nk (e ▸ m)
            have nj' : ¬ ((Sum.inl (j : Int) : Key) = Sum.inl (k : Int)) := fun e => nj (by injection e with e; omega)
            rw [if_neg nj', put_ne O _ nj]
            exact hv2 j m
          · rw [List.mem_singleton] at m
            subst m
            rw [if_pos rfl, put_same]
        · show (match (upd H12 dO (.dK (putK kv2 (Sum.inl (k : Int)) (.int (at_ + v))))) lf with | some (.lst xs) => xs.length | _ => 0) < _
          rw [fin]
          show (nl ((k0 :: lr).eraseIdx vn)).length < _
          rw [nl_len, List.length_eraseIdx_of_lt hvn]
          rw [List.length_cons]
          omega
    · rintro σ H' Q1 Q2 hq ⟨v, e1, h1, h2⟩
      exact ⟨v, e1, h1, fun p np => let ⟨d, e, a1, a2, a3, a4, k, ek, q⟩ := h2 p np; ⟨d, e, a1, a2, a3, a4, k, ek, hq _ _ q⟩⟩
end
end K14
namespace K14
open PySem L2
open C8 (InsC call_isC pe_gc pss_cut)
theorem refs_erase {α : Type} (L : List (Addr × α)) (i : Nat) : (refs L).eraseIdx i = refs (L.eraseIdx i) := erase_map _ L i
theorem erase_mem {α : Type} {L : List α} {i : Nat} {x : α} (h : x ∈ L.eraseIdx i) : x ∈ L := List.mem_of_mem_eraseIdx h
section
variable {P : Program} {w : World} {K : PySem.W.Frag} {mg : Str → Option Value} {base : Heap} {R S : Addr}
/-! ### _law_cell_at -/
theorem scCell : FnScope ["_law_script", "_law_k"] ["_law_script", "_law_k"] (defScope sCell) := ⟨rfl, rfl, rfl, by decide +kernel, rfl, by decide +kernel, by decide +kernel⟩
def spCell (K : PySem.W.Frag) : Sp := fun vs H Q _ => ∃ (l : Addr) (ns : List Int), vs = [.ref l, .int 0] ∧ SqL K H l (ns.map V.int) ∧ ∀ n : Int, Q (.int n) H
theorem ok_cell {f : Addr} {fd : FuncData} (F : Fun K "_law_cell_at" "_law_cell_at" sCell f fd) (T : Txt K mg R S) : FnOk P w K mg base CX0 1 f fd ["_law_script", "_law_k"] (spCell K) := by
  refine F.ok scCell (fun vs H Q E h => ?_) (fun cdv A outer s H vs Q E hr h => ?_)
  · obtain ⟨l, ns, rfl, _⟩ := h
    rfl
  · obtain ⟨l, ns, rfl, hl, q⟩ := h
    refine ⟨_, pss_one (ps_ret (pe_ifExp (pt_cmpR op_lt (pv 1) (pe_callB call_len_seq (by rfl) T.len PySem.boot_len (pa_cons (pv 0) pa_nil)) (nomark _)) (pe_ix ix_list (pv 0) (pv 1) (fun _ _ => rfl)) pe_int)), ?_⟩
    refine ⟨_, rfl, _, rfl, l, _, rfl, .inl hl, _, _, rfl, rfl, _, rfl, ?_⟩
    refine ite2 (fun z => ?_) fun _ => q 0
    have z := of_decide_eq_true z
    rw [List.length_map] at z
    have h0 : 0 < ns.length := by omega
    refine ⟨_, rfl, _, rfl, l, _, 0, V.int ns[0], rfl, rfl, hl, at_of (j := 0) rfl ?_, q _⟩
    rw [List.getElem?_map, List.getElem?_eq_getElem h0]
    rfl
/-! ### _law_is_least -/
theorem scLeast : FnScope ["_law_rows_here", "_law_k", "_law_first", "_law_goal", "_law_many"] ["_law_rows_here"] (defScope sLeast) := ⟨rfl, rfl, rfl, by decide +kernel, rfl, by decide +kernel, by decide +kernel⟩
def spLeast : Sp := fun vs H Q _ => ∃ (l : Addr) (rs : List Row), vs = [.ref l] ∧ Ls rI H l rs ∧ NF rs ∧ rs.length ≤ 1000 ∧ ∀ H', Same H H' → Q (.bl true) H'
theorem ok_least {f : Addr} {fd : FuncData} (F : Fun K "_law_is_least" "_law_is_least" sLeast f fd) (T : Txt K mg R S) : FnOk P w K mg base CX0 1 f fd ["_law_rows_here"] spLeast := by
  refine F.ok scLeast (fun vs H Q E h => ?_) (fun cdv A outer s H vs Q E hr h => ?_)
  · obtain ⟨l, rs, rfl, _⟩ := h
    rfl
  · obtain ⟨a, rs, rfl, hL, hn, hlen, q⟩ := h
    obtain ⟨L, eL, l, hT, ll, at_⟩ := hL.at
    refine ⟨_, pss_cons (ps_for PassesOwn.never rfl (pi_range2 (by rfl) T.range (pa_cons pe_int (pa_cons (pe_callB call_len_seq (by rfl) T.len PySem.boot_len (pa_cons (pv 0) pa_nil)) pa_nil))) (pg_name (i := 1) scLeast.nd rfl (.inl rfl))
        (pss_cons (ps_asg (pe_ix ix_list (pv 0) (pe_op op_sub (pv 1) pe_int) (fun _ _ => rfl)) (pg_tup rfl (pgs_cons (pg_name (i := 2) scLeast.nd rfl (.inl rfl)) (pgs_cons (pg_name (i := 3) scLeast.nd rfl (.inl rfl)) (pgs_cons (pg_name (i := 4) scLeast.nd rfl (.inl rfl)) pgs_nil)))))
        (pss_one (ps_if (PW.pt (pw_or (pt_cmpR op_lt (pe_ix ix_tup (pe_ix ix_list (pv 0) (pv 1) (fun _ _ => rfl)) pe_int (fun _ _ => rfl)) (pe_op op_add (pv 2) (pv 4)) (nomark _))
            (pw_or1 (pt_cmpR (op_eqD hr.units) (pe_slice sl_tup (pe_ix ix_list (pv 0) (pv 1) (fun _ _ => rfl)) po_none (po_some pe_int)) (pe_tup (pa_cons (pe_op op_add (pv 2) (pv 4)) (pa_cons (pe_op op_add (pv 3) (pv 4)) pa_nil))) (nomark _)))))
          (pss_one (ps_ret pe_bl)) pss_nil))))
      (pss_one (ps_ret pe_bl)), ?_⟩
    refine ⟨_, rfl, a, refs L, rfl, .inl (SqL.of l), 1, _, rfl, ?_, ?_⟩
    · rw [refs_len, ll]
      exact ⟨by decide, by decide, by omega, by omega⟩
    · refine for_range (lo := 1) (fun i σ H' => Same H H' ∧ ∃ y1 y2 y3 y4, σ = [some (.ref a), y1, y2, y3, y4]) ⟨Same.refl _, none, none, none, none, rfl⟩ ?_ ?_
      · rintro i σ H' hi ⟨sm, y1, y2, y3, y4, rfl⟩
        rw [refs_len, ll] at hi
        have h1 : i + 1 < rs.length := by omega
        have h0 : i < rs.length := by omega
        obtain ⟨t1, z1, x1⟩ := at_ (i + 1) rs[i + 1] (List.getElem?_eq_getElem h1)
        obtain ⟨t0, z0, x0⟩ := at_ i rs[i] (List.getElem?_eq_getElem h0)
        have a1 : atI (refs L) (1 + (i : Int)) = some (V.ref t1) := at_of (j := i + 1) (by omega) z1
        have a0 : atI (refs L) (1 + (i : Int) - 1) = some (V.ref t0) := at_of (j := i) (by omega) z0
        have rr := nf_at hn (List.getElem?_eq_getElem h0) (List.getElem?_eq_getElem h1) (by omega)
        have l' := sm _ _ l
        have x1 := sm _ _ x1
        have x0 := sm _ _ x0
        refine ⟨_, rfl, _, rfl, _, _, rfl, rfl, a, _, _, _, rfl, rfl, SqL.of l', a0, t0, _, rfl, SqT.of x0, rfl, _, _, rfl, _, _, rfl, _, _, rfl, rfl, ?_⟩
        refine ⟨_, rfl, _, rfl, a, _, _, _, rfl, rfl, SqL.of l', a1, t1, _, _, _, rfl, rfl, SqT.of x1, rfl, _, rfl, _, rfl, _, _, rfl, rfl, _, _, rfl, rfl, _, rfl, ?_⟩
        refine ite2 (fun z => ?_) fun _ => ?_
        · have z := of_decide_eq_true z
          have := rr.1
          omega
        refine ⟨_, rfl, _, rfl, a, _, _, _, rfl, rfl, SqL.of l', a1, 2, rfl, t1, _, rfl, SqT.of x1, (by show ¬ (HT.sIx 3 0 none = 0 ∧ HT.sIx 3 3 (some 2) = 3); decide), fun p np => ?_⟩
        refine ⟨_, rfl, _, rfl, _, _, rfl, rfl, _, rfl, _, rfl, _, _, rfl, rfl, by show 2 ≤ sizeLine; decide, fun t nt => ?_⟩
        have pt : p ≠ t := ne_of_none upd_same nt
        refine ⟨tD [rs[i + 1].1, rs[i + 1].2.1], tD [rs[i].1 + rs[i].2.2, rs[i].2.1 + rs[i].2.2], dp_tup (by rw [upd_ne pt]; exact upd_same), dp_tup upd_same, tD_shaped _, tD_shaped _, _, rfl, ?_⟩
        have ne : ¬ ([rs[i + 1].1, rs[i + 1].2.1] = [rs[i].1 + rs[i].2.2, rs[i].2.1 + rs[i].2.2]) := fun e => by
          injection e with e1 e2
          injection e2 with e2 _
          exact rr.2 ⟨e1.symm, e2.symm⟩
        rw [tD_eqv, decide_eq_false ne]
        exact iteF ⟨(sm.then np).then nt, _, _, _, _, rfl⟩
      · rintro σ H' ⟨sm, y1, y2, y3, y4, rfl⟩
        exact q H' sm
end
end K14
namespace K14
open PySem L2
open C8 (InsC call_isC pe_gc pss_cut)
section
variable {P : Program} {w : World} {K : PySem.W.Frag} {mg : Str → Option Value} {base : Heap} {R S : Addr}
/-- a new tuple, put behind a list, the state's list aside -/
theorem push_but {α : Type} {g : α → List Int} {H0 H : Hp} {a D p : Addr} {out : List α} (r : α) (h0 : H0 D = none) (s : But a H0 H) (h : Ls g H D out) (hp : H p = none) :
    ∃ acc, (upd H p (tv g r)) D = some (.lst acc) ∧ acc.length = out.length ∧ But a H0 (upd (upd H p (tv g r)) D (.lst (acc ++ [V.ref p]))) ∧ Ls g (upd (upd H p (tv g r)) D (.lst (acc ++ [V.ref p]))) D (out ++ [r]) ∧ (∀ b o, H b = some o → b ≠ D → (upd (upd H p (tv g r)) D (.lst (acc ++ [V.ref p]))) b = some o) := by
  obtain ⟨M, e, l, t⟩ := h
  have nD : D ≠ p := ne_of_none l hp
  have l' : (upd H p (tv g r)) D = some (.lst (refs M)) := by rw [upd_ne nD]; exact l
  have t' : Tups g (upd H p (tv g r)) M := t.same (Same.upd hp)
  refine ⟨refs M, l', by rw [refs_len, ← e, List.length_map], (s.new hp).at h0, ?_, fun b o eb n => ?_⟩
  · have := Ls.push (g := g) l' t' (r := r) (t := p) upd_same
    rw [e] at this
    exact this
  · rw [upd_ne n]
    exact Same.upd hp _ _ eb
theorem scPieces : FnScope ["_law_state", "_law_ranges_here", "_law_left", "_law_found", "_law_inside", "_law_outside", "_law_count", "_law_turn", "_law_many"] ["_law_state", "_law_ranges_here"] (defScope sPieces) := ⟨rfl, rfl, rfl, by decide +kernel, rfl, by decide +kernel, by decide +kernel⟩
def spPieces : Sp := fun vs H Q _ => ∃ (a l : Addr) (rs : List Row), vs = [.ref a, .ref l] ∧ StA H a ∧ l ≠ a ∧ Ls rI H l rs ∧ VM rs ∧ rs.length ≤ 9 ∧ (∀ r ∈ rs, r.2.2 ≤ 1000000000) ∧
  ∀ H' p ps, But a H H' → StA H' a → H p = none → Ls rI H' p ps → Form rs ps → ps.length ≤ 45 → rs.length ≤ ps.length → Q (.ref p) H'
theorem ok_pieces {f f1 : Addr} {fd fd1 : FuncData} (F : Fun K "_law_pieces" "_law_pieces" sPieces f fd) (T : Txt K mg R S) (F1 : Fun K "_law_digit" "_law_digit" sDigit f1 fd1) (b1 : Binds K fd1 ["_law_state", "_law_base"] []) (g1 : mg "_law_digit" = some (.ref f1)) (G1 : FnOk P w K mg base CX0 1 f1 fd1 ["_law_state", "_law_base"] spDigit) :
    FnOk P w K mg base CX0 2 f fd ["_law_state", "_law_ranges_here"] spPieces := by
  refine F.ok scPieces (fun vs H Q E h => ?_) (fun cdv A outer s H vs Q E hr h => ?_)
  · obtain ⟨a, l, rs, rfl, _⟩ := h
    rfl
  · obtain ⟨a, l, rs, rfl, hS, nla, hL, hv, hlen, hbig, q⟩ := h
    refine ⟨_, pss_cons (ps_par (i := 2) (j := 3) (by rfl) scPieces.nd rfl rfl (by decide) rfl rfl (pa_cons (pe_lst pa_nil) (pa_cons (pe_lst pa_nil) pa_nil)) (by rfl))
      (pss_cons (ps_for PassesOwn.never rfl (pi_list (pv 1)) (pg_tup rfl (pgs_cons (pg_name (i := 4) scPieces.nd rfl (.inl rfl)) (pgs_cons (pg_name (i := 5) scPieces.nd rfl (.inl rfl)) (pgs_cons (pg_name (i := 6) scPieces.nd rfl (.inl rfl)) pgs_nil))))
          (pss_cons (ps_for PassesOwn.never rfl (pi_range1 (by rfl) T.range (pa_cons (pe_call G1 hr (by rfl) g1 F1.kp b1 .nil pass0 (pa_cons (pv 0) (pa_cons pe_int pa_nil))) pa_nil)) (pg_name (i := 7) scPieces.nd rfl (.inl rfl))
              (pss_one (ps_if (pt_cmpR op_gt (pv 6) pe_int (nomark _))
                (pss_cons (ps_set (i := 8) scPieces.nd rfl (.inl rfl) (pe_op op_add pe_int (pe_call G1 hr (by rfl) g1 F1.kp b1 .nil pass0 (pa_cons (pv 0) (pa_cons (pe_op op_sub (pv 6) pe_int) pa_nil)))))
                (pss_cons (ps_expr (pe_bm PySem.F.plainAttrs_list PySem.F.slot_list_append PySem.F.type_list_append mt_append (pv 2) (pa_cons (pe_tup (pa_cons (pv 4) (pa_cons (pv 5) (pa_cons (pv 8) pa_nil)))) pa_nil)))
                (pss_cons (ps_par (i := 4) (j := 5) (by rfl) scPieces.nd rfl rfl (by decide) rfl rfl (pa_cons (pe_op op_add (pv 4) (pv 8)) (pa_cons (pe_op op_add (pv 5) (pv 8)) pa_nil)) (by rfl))
                (pss_one (ps_set (i := 6) scPieces.nd rfl (.inl rfl) (pe_op op_sub (pv 6) (pv 8))))))) pss_nil)))
          (pss_one (ps_expr (pe_bm PySem.F.plainAttrs_list PySem.F.slot_list_append PySem.F.type_list_append mt_append (pv 2) (pa_cons (pe_tup (pa_cons (pv 4) (pa_cons (pv 5) (pa_cons (pv 6) pa_nil)))) pa_nil))))))
      (pss_cons (ps_while PassesOwn.never (pt_cmpR (op_neD hr.units) (pv 2) (pe_lst pa_nil) (nomark _))
          (pss_one (ps_expr (pe_bm PySem.F.plainAttrs_list PySem.F.slot_list_append PySem.F.type_list_append mt_append (pv 3) (pa_cons (pe_bm PySem.F.plainAttrs_list PySem.F.slot_list_pop PySem.F.type_list_pop mt_popAt (pv 2) (pa_cons (pe_call G1 hr (by rfl) g1 F1.kp b1 .nil pass0 (pa_cons (pv 0) (pa_cons (pe_callB call_len_seq (by rfl) T.len PySem.boot_len (pa_cons (pv 2) pa_nil)) pa_nil))) pa_nil)) pa_nil)))))
      (pss_one (ps_ret (pv 3))))), ?_⟩
    refine ⟨Nat.zero_le _, fun lf nlf => ⟨Nat.zero_le _, fun fo nfo => ⟨_, _, rfl, ?_⟩⟩⟩
    obtain ⟨L, eL, hl, tL⟩ := hL
    have lenL : L.length = rs.length := by rw [← eL, List.length_map]
    obtain ⟨xs, hxs⟩ := hS.lst
    have nalf : a ≠ lf := ne_of_none hxs nlf
    have nllf : l ≠ lf := ne_of_none hl nlf
    have nafo : a ≠ fo := ne_of_none (Same.upd nlf _ _ hxs) nfo
    have nlfo : l ≠ fo := ne_of_none (Same.upd nlf _ _ hl) nfo
    have nlffo : lf ≠ fo := ne_of_none upd_same nfo
    have nfoH : H fo = none := (Same.upd nlf).free nfo
    have b2 : But a H (upd (upd H lf (.lst [])) fo (.lst [])) := (But.refl.new nlf).new nfo
    have s2 : StA (upd (upd H lf (.lst [])) fo (.lst [])) a := (hS.new nlf).new nfo
    have sm2 : Same H (upd (upd H lf (.lst [])) fo (.lst [])) := (Same.upd nlf).then nfo
    have el2 : Ls rI (upd (upd H lf (.lst [])) fo (.lst [])) lf [] := Ls.nil (by rw [upd_ne nlffo]; exact upd_same)
    have ef2 : (upd (upd H lf (.lst [])) fo (.lst [])) fo = some (.lst []) := upd_same
    revert b2 s2 sm2 el2 ef2
    generalize upd (upd H lf (.lst [])) fo (.lst []) = H2
    intro b2 s2 sm2 el2 ef2
    refine ⟨_, rfl, l, rfl, ⟨_, SqL.of (sm2 _ _ hl)⟩, for_list (K := K) (a := l) (xs := refs L) (fun i σ H' => ∃ (Lr : List Row) (y4 y5 y6 y7 y8 : Option V),
        σ = [some (.ref a), some (.ref l), some (.ref lf), some (.ref fo), y4, y5, y6, y7, y8] ∧ But a H H' ∧ StA H' a ∧ H' l = some (.lst (refs L)) ∧ Ls rI H' lf Lr ∧ H' fo = some (.lst []) ∧
        Form rs (Lr ++ rs.drop i) ∧ i ≤ Lr.length ∧ Lr.length ≤ 5 * i) ⟨[], none, none, none, none, none, rfl, b2, s2, sm2 _ _ hl, el2, ef2, Form.self hv, Nat.le_refl _, Nat.le_refl _⟩ (fun i σ H' _ ⟨_, _, _, _, _, _, _, _, _, h, _⟩ => SqL.of h) ?_ ?_⟩
    · rintro i x σ H' hi ⟨Lr, y4, y5, y6, y7, y8, rfl, bu, hS', hl', hlf, hfo, fm, k1, k2⟩
      obtain ⟨e, he, rfl⟩ := refs_at hi
      have me := List.mem_of_getElem? he
      have il : i < L.length := (List.getElem?_eq_some_iff.mp he).1
      have er : rs[i]? = some e.2 := by rw [← eL, List.getElem?_map, he]; rfl
      have il' : i < rs.length := by omega
      have dr : rs.drop i = e.2 :: rs.drop (i + 1) := by
        rw [List.drop_eq_getElem_cons il']
        congr 1
        rw [List.getElem?_eq_getElem il'] at er
        exact Option.some.inj er
      obtain ⟨xs', hxs'⟩ := hS'.lst
      have tL' : H' e.1 = some (tv rI e.2) := bu _ _ (tL e me) (ne_of (tL e me) hxs (by intro z; cases z))
      rw [dr] at fm
      have cb : e.2.2.2 ≤ 1000000000 := hbig _ (List.mem_of_getElem? er)
      refine ⟨e.1, _, rfl, SqT.of tL', rfl, _, _, rfl, _, _, rfl, _, _, rfl, rfl, ?_⟩
      refine ⟨_, rfl, a, 5, rfl, hS', by decide, by decide, fun H3 r bu3 hS3 r0 r1 => ⟨r, rfl, by omega, by omega, ?_⟩⟩
      refine for_range (lo := 0) (n := r.toNat) (fun j σ H'' => ∃ (Lr : List Row) (i4 i5 i6 : Int) (y7 y8 : Option V),
          σ = [some (.ref a), some (.ref l), some (.ref lf), some (.ref fo), some (.int i4), some (.int i5), some (.int i6), y7, y8] ∧ But a H H'' ∧ StA H'' a ∧ H'' l = some (.lst (refs L)) ∧ Ls rI H'' lf Lr ∧ H'' fo = some (.lst []) ∧
          Form rs (Lr ++ (i4, i5, i6) :: rs.drop (i + 1)) ∧ i ≤ Lr.length ∧ Lr.length ≤ 5 * i + j ∧ i6 ≤ 1000000000) ?_ ?_ ?_
      · exact ⟨Lr, e.2.1, e.2.2.1, e.2.2.2, y7, y8, rfl, bu.trans bu3, hS3, bu3 _ _ hl' nla, hlf.but bu3 nalf.symm hxs' (lst_tup _), bu3 _ _ hfo nafo.symm, fm, k1, k2, cb⟩
      · clear hlf hfo hS3 bu3 fm k1 k2 hxs' hS' hl' bu tL'
        rintro j σ H4 hj ⟨Lr, i4, i5, i6, y7, y8, rfl, bu, hS', hl', hlf, hfo, fm, k1, k2, k3⟩
        refine ⟨_, rfl, _, _, rfl, rfl, _, rfl, ?_⟩
        refine ite2 (fun z => ?_) fun z => ?_
        · have z : 1 < i6 := of_decide_eq_true z
          obtain ⟨xs', hxs'⟩ := hS'.lst
          refine ⟨_, rfl, _, rfl, _, _, rfl, rfl, a, _, rfl, hS', by omega, by omega, fun H5 d bu5 hS5 d0 d1 => ⟨_, _, rfl, rfl, ?_⟩⟩
          have b5 := bu.trans bu5
          have l5 := bu5 _ _ hl' nla
          have lf5 := hlf.but bu5 nalf.symm hxs' (lst_tup _)
          have fo5 := bu5 _ _ hfo nafo.symm
          obtain ⟨xs5, lst5, len5⟩ := lf5.lst
          refine ⟨_, rfl, .inl ⟨rfl, _, SqL.of lst5⟩, _, rfl, _, rfl, _, rfl, by show 3 ≤ sizeLine; decide, fun t nt => ?_⟩
          obtain ⟨acc, c1, c2, c3, c4, c5⟩ := push_but (g := rI) (i4, i5, 1 + d) nlf b5 lf5 nt
          refine ⟨lf, acc, _, rfl, rfl, c1, by rw [c2]; exact slen (by omega), ?_⟩
          refine ⟨_, rfl, _, rfl, _, _, rfl, rfl, _, rfl, _, rfl, _, _, rfl, rfl, _, _, rfl, ?_⟩
          refine ⟨_, rfl, _, rfl, _, _, rfl, rfl, ?_⟩
          refine ⟨Lr ++ [(i4, i5, 1 + d)], i4 + (1 + d), i5 + (1 + d), i6 - (1 + d), _, _, rfl, c3, (hS5.new nt).at nalf, c5 _ _ l5 nllf, c4, c5 _ _ fo5 nlffo.symm, fm.cut (by omega) (by omega), ?_, ?_, by omega⟩
          · rw [List.length_append]; omega
          · rw [List.length_append, List.length_singleton]; omega
        · exact ⟨Lr, i4, i5, i6, _, y8, rfl, bu, hS', hl', hlf, hfo, fm, k1, by omega, k3⟩
      · clear hlf hfo hS3 bu3 fm k1 k2 hxs' hS' hl' bu tL'
        rintro σ H4 ⟨Lr, i4, i5, i6, y7, y8, rfl, bu, hS', hl', hlf, hfo, fm, k1, k2, k3⟩
        obtain ⟨xs5, lst5, len5⟩ := hlf.lst
        refine ⟨_, rfl, .inl ⟨rfl, _, SqL.of lst5⟩, _, rfl, _, rfl, _, rfl, by show 3 ≤ sizeLine; decide, fun t nt => ?_⟩
        obtain ⟨acc, c1, c2, c3, c4, c5⟩ := push_but (g := rI) (i4, i5, i6) nlf bu hlf nt
        refine ⟨lf, acc, _, rfl, rfl, c1, by rw [c2]; exact slen (by omega), Lr ++ [(i4, i5, i6)], _, _, _, _, _, rfl, c3, (hS'.new nt).at nalf, c5 _ _ hl' nllf, c4, c5 _ _ hfo nlffo.symm, ?_, ?_, ?_⟩
        · rw [List.append_assoc]
          exact fm
        · rw [List.length_append, List.length_singleton]; omega
        · rw [List.length_append, List.length_singleton]; omega
    · rintro σ H3 ⟨Lr, y4, y5, y6, y7, y8, rfl, bu, hS', hl', hlf, hfo, fm, k1, k2⟩
      rw [refs_len] at fm k1 k2
      rw [List.drop_of_length_le (by omega), List.append_nil] at fm
      refine while_by (fun σ H' => ∃ (left d3 : List Row), σ = [some (.ref a), some (.ref l), some (.ref lf), some (.ref fo), y4, y5, y6, y7, y8] ∧ But a H H' ∧ StA H' a ∧ Ls rI H' lf left ∧ Ls rI H' fo d3 ∧ (d3 ++ left).Perm Lr)
        (fun _ H' => match H' lf with | some (.lst xs) => xs.length | _ => 0) ?_ ?_ ?_
      · exact ⟨Lr, [], rfl, bu, hS', hlf, Ls.nil hfo, List.Perm.refl _⟩
      · clear hlf hfo hS' bu hl'
        rintro σ H' ⟨left, d3, rfl, bu, hS', hlf, hfo, pm⟩
        have pml := pm.length_eq
        rw [List.length_append] at pml
        refine ⟨_, rfl, Nat.zero_le _, fun e ne => ⟨_, _, dp_ls (hlf.same (Same.upd ne)), dp_il (ns := []) upd_same, lD_shaped _, iD_shaped _, _, rfl, ?_⟩⟩
        have ev : PyData.eqv (lD (left.map rI)) (iD []) = decide (left = []) := by
          rw [show iD [] = lD (([] : List Row).map rI) from rfl]
          exact lD_inj rI_inj _ _
        rw [ev]
        obtain ⟨xl, hxl, lxl⟩ := hlf.lst
        have mu0 : (match H' lf with | some (.lst xs) => xs.length | _ => 0) = left.length := by rw [hxl]; exact lxl
        rw [mu0]
        have bu := bu.new (u := .lst []) ne
        have hS' := hS'.new (u := .lst []) ne
        have hlf := hlf.same (Same.upd (o := .lst []) ne)
        have hfo := hfo.same (Same.upd (o := .lst []) ne)
        clear mu0 hxl lxl
        revert bu hS' hlf hfo
        generalize upd H' e (.lst []) = H4
        intro bu hS' hlf hfo
        cases left with
        | nil =>
          refine iteF ?_
          have pm' : d3.Perm Lr := by simpa using pm
          have e1 := pm'.length_eq
          exact ⟨_, rfl, q _ fo d3 bu hS' nfoH hfo (fm.perm pm'.symm) (by omega) (by omega)⟩
        | cons k0 lr =>
          refine iteT ?_
          obtain ⟨M, eM, lM, tM⟩ := hlf
          obtain ⟨N, eN, lN, tN⟩ := hfo
          have lenM : M.length = (k0 :: lr).length := by rw [← eM, List.length_map]
          have lenN : N.length = d3.length := by rw [← eN, List.length_map]
          obtain ⟨xs', hxs'⟩ := hS'.lst
          refine ⟨_, rfl, .inl ⟨rfl, _, SqL.of lN⟩, _, rfl, .inl ⟨rfl, _, SqL.of lM⟩, _, rfl, _, rfl, lf, _, rfl, .inl (SqL.of lM), a, _, rfl, hS', ?_, ?_, fun H5 r bu5 hS5 r0 r1 => ?_⟩
          · rw [refs_len, lenM, List.length_cons]; omega
          · rw [refs_len, lenM]; omega
          rw [refs_len, lenM] at r1
          obtain ⟨vn, rfl⟩ : ∃ vn : Nat, r = (vn : Int) := ⟨r.toNat, by omega⟩
          have hvn : vn < M.length := by omega
          have ek : M[vn]? = some M[vn] := List.getElem?_eq_getElem hvn
          have ek' : (k0 :: lr)[vn]? = some M[vn].2 := by rw [← eM, List.getElem?_map, ek]; rfl
          have lM5 := bu5 _ _ lM nalf.symm
          have lN5 := bu5 _ _ lN nafo.symm
          have tM5 := tM.but bu5 hxs' (lst_tup _)
          have tN5 := tN.but bu5 hxs' (lst_tup _)
          refine ⟨lf, _, _, vn, _, rfl, rfl, lM5, by omega, by omega, by rw [refs_len]; exact seqIx hvn, by rw [List.getElem?_map, ek]; rfl, ?_⟩
          rw [refs_erase]
          have b6 : But a H (upd H5 lf (.lst (refs (M.eraseIdx vn)))) := (bu.trans bu5).at nlf
          have s6 : StA (upd H5 lf (.lst (refs (M.eraseIdx vn)))) a := hS5.at nalf
          have l6 : (upd H5 lf (.lst (refs (M.eraseIdx vn)))) lf = some (.lst (refs (M.eraseIdx vn))) := upd_same
          have f6 : (upd H5 lf (.lst (refs (M.eraseIdx vn)))) fo = some (.lst (refs N)) := by rw [upd_ne nlffo.symm]; exact lN5
          have tM6 : Tups rI (upd H5 lf (.lst (refs (M.eraseIdx vn)))) M := tM5.but But.upd lM5 (lst_tup _)
          have tN6 : Tups rI (upd H5 lf (.lst (refs (M.eraseIdx vn)))) N := tN5.but But.upd lM5 (lst_tup _)
          revert b6 s6 l6 f6 tM6 tN6
          generalize upd H5 lf (.lst (refs (M.eraseIdx vn))) = H6
          intro b6 s6 l6 f6 tM6 tN6
          have l7 := Ls.push (g := rI) f6 tN6 (r := M[vn].2) (t := M[vn].1) (tM6 _ (List.getElem_mem hvn))
          have fin : (upd H6 fo (.lst (refs N ++ [V.ref M[vn].1]))) lf = some (.lst (refs (M.eraseIdx vn))) := by rw [upd_ne nlffo]; exact l6
          refine ⟨fo, refs N, _, rfl, rfl, f6, by rw [refs_len]; exact slen (by omega), ⟨(k0 :: lr).eraseIdx vn, d3 ++ [M[vn].2], rfl, b6.at nfoH, s6.at nafo, ?_, ?_, ?_⟩, ?_⟩
          · refine ⟨M.eraseIdx vn, ?_, fin, Tups.but (fun x hx => tM6 x (erase_mem hx)) But.upd f6 (lst_tup _)⟩
            rw [← eM, erase_map]
          · rw [← eN]
            exact l7
          · refine List.Perm.trans ?_ pm
            rw [List.append_assoc]
            refine List.Perm.append_left _ ?_
            exact (List.perm_append_comm (l₁ := [M[vn].2])).trans (erase_perm ek').symm
          · show (match (upd H6 fo (.lst (refs N ++ [V.ref M[vn].1]))) lf with | some (.lst xs) => xs.length | _ => 0) < _
            rw [fin]
            show (refs (M.eraseIdx vn)).length < _
            rw [refs_len, List.length_eraseIdx_of_lt hvn]
            rw [lenM]
            rw [List.length_cons]
            omega
      · rintro σ H' Q1 Q2 hq ⟨v, e1, h1, h2⟩
        exact ⟨v, e1, h1, fun p np => let ⟨d, e, a1, a2, a3, a4, k, ek, q⟩ := h2 p np; ⟨d, e, a1, a2, a3, a4, k, ek, hq _ _ q⟩⟩
end
end K14
namespace K14
open PySem L2
open C8 (InsC call_isC pe_gc pss_cut)
section
variable (P : Program) (w : World) (K : PySem.W.Frag) (mg : Str → Option Value) (base : Heap)
/-- a def of the module, by its promise -/
def HasFn (x : Str) (k : Nat) (ps : List Str) (sp : Sp) : Prop := ∃ f fd, mg x = some (.ref f) ∧ PySem.W.keepIn K (.ref f) = true ∧ Binds K fd ps [] ∧ FnOk P w K mg base CX0 k f fd ps sp
/-- a method -/
def HasM (C : Addr) (m : Str) (k : Nat) (ps : List Str) (sp : Sp) : Prop := ∃ f fd, Meth K C m f ∧ Binds K fd ps [] ∧ FnOk P w K mg base CX0 k f fd ps sp
def HasMk (C : Addr) (k : Nat) (ps : List Str) (sp : Sp) : Prop := ∃ f fd, Mk K C f ∧ Binds K fd ps [] ∧ FnOk P w K mg base CX0 k f fd ps sp
def HasEq (C : Addr) (k : Nat) (ps : List Str) (sp : Sp) : Prop := ∃ f fd, EqCls K C f ∧ Binds K fd ps [] ∧ FnOk P w K mg base CX0 k f fd ps sp
structure Api (R S : Addr) : Prop where
  txt : Txt K mg R S
  make : HasMk P w K mg base R 6 ["self", "ranges"] (spInitR R)
  eqR : HasEq P w K mg base R 1 ["self", "other"] (spEq rI R)
  eqS : HasEq P w K mg base S 1 ["self", "other"] (spEq pI S)
  ranges : HasM P w K mg base R "ranges" 1 ["self"] (spRanges R)
  value : HasM P w K mg base R "value" 4 ["self", "number"] (spValue R)
  ins : HasM P w K mg base R "insides" 5 ["self"] (spIns R S insP)
  outs : HasM P w K mg base R "outsides" 5 ["self"] (spIns R S outP)
  size : HasM P w K mg base R "size" 1 ["self"] (spSize R)
  cell : HasFn P w K mg base "_law_cell_at" 1 ["_law_script", "_law_k"] (spCell K)
  digit : HasFn P w K mg base "_law_digit" 1 ["_law_state", "_law_base"] spDigit
  draw : HasFn P w K mg base "_law_ranges" 3 ["_law_state", "_law_low", "_law_high"] spDraw
  pieces : HasFn P w K mg base "_law_pieces" 2 ["_law_state", "_law_ranges_here"] spPieces
  least : HasFn P w K mg base "_law_is_least" 1 ["_law_rows_here"] spLeast
end
theorem filter_snoc {α : Type} {L : List α} {i : Nat} {e : α} (p : α → Bool) (h : L[i]? = some e) : (L.take (i + 1)).filter p = (L.take i).filter p ++ (if p e = true then [e] else []) := by
  rw [take_snoc h, List.filter_append]
  congr 1
  cases hp : p e <;> simp [hp]
theorem filter_refs {α : Type} (p : α → Bool) (L : List (Addr × α)) : (L.filter fun e => p e.2).map (·.2) = (L.map (·.2)).filter p := by
  rw [List.filter_map]
  rfl
section
variable {P : Program} {w : World} {K : PySem.W.Frag} {mg : Str → Option Value} {base : Heap} {R S : Addr}
theorem mk_same {H : Hp} {x dx C : Addr} (nx : H x = none) (nd : H dx = none) : Same H (upd (upd H dx (.own x)) x (.ins C dx [])) := fun b o e => by
  rw [upd_ne (ne_of_none e nx), upd_ne (ne_of_none e nd)]
  exact e
theorem mk_but {H H' : Hp} {x dx C : Addr} (nx : H x = none) (nd : H dx = none) (b : But x (upd (upd H dx (.own x)) x (.ins C dx [])) H') : Same H H' := fun c o e => b _ _ (mk_same nx nd _ _ e) (ne_of_none e nx)
abbrev nTurned : List Str := ["_law_pieces_here", "_law_some", "_law_one_here", "_law_other", "_law_rest", "_law_told", "_law_whole", "_law_row"]
theorem scTurned : FnScope nTurned ["_law_pieces_here"] (defScope sTurned) := ⟨rfl, rfl, rfl, by decide +kernel, rfl, by decide +kernel, by decide +kernel⟩
def spTurned : Sp := fun vs H Q _ => ∃ (l : Addr) (ps : List Row), vs = [.ref l] ∧ Ls rI H l ps ∧ VM ps ∧ 0 < ps.length ∧ ps.length ≤ 45 ∧ ∀ H', Same H H' → Q (.bl true) H'
theorem ok_turned {f : Addr} {fd : FuncData} (F : Fun K "_law_turned_right" "_law_turned_right" sTurned f fd) (A_ : Api P w K mg base R S) : FnOk P w K mg base CX0 8 f fd ["_law_pieces_here"] spTurned := by
  have T := A_.txt
  obtain ⟨fM, fdM, MR, bM, GM⟩ := A_.make
  obtain ⟨fE, fdE, cE, bE, GE⟩ := A_.eqR
  obtain ⟨fE2, fdE2, cE2, bE2, GE2⟩ := A_.eqS
  obtain ⟨fR, fdR, mR, bR, GR⟩ := A_.ranges
  obtain ⟨fV, fdV, mV, bV, GV⟩ := A_.value
  obtain ⟨fI, fdI, mI, bI, GI⟩ := A_.ins
  obtain ⟨fO, fdO, mO, bO, GO⟩ := A_.outs
  obtain ⟨fL, fdL, gL, kL, bL, GL⟩ := A_.least
  refine F.ok scTurned (fun vs H Q E h => ?_) (fun cdv A outer s H vs Q E hr h => ?_)
  · obtain ⟨l, ps, rfl, _⟩ := h
    rfl
  · obtain ⟨l, ps, rfl, hL, hv, h0, hlen, q⟩ := h
    have hr1 : Room 1 _ := hr.mono (by decide)
    have hr2 : Room 2 _ := hr.mono (by decide)
    have hr4 : Room 4 _ := hr.mono (by decide)
    have hr5 : Room 5 _ := hr.mono (by decide)
    have hu65 : (A.deeper (PyProof.Rows.envOfC "_law_turned_right" (defScope sTurned) s.heap.objs.size f cdv)).units + 65 < cLine := by have := hr.un; omega
    refine ⟨_, pss_cons (ps_setLc (i := 1) (own := [("_law_row", 7)]) (g := gName 7) (tt := tTest (tOp rEq (tOp (rIxT K) (tVar 7) (tC (.int 2))) (tOp (rIxT K) (tOp (rIxL K) (tVar 0) (tC (.int 0))) (tC (.int 2))))) rfl scTurned.nd rfl rfl (sw_true rfl rfl rfl (by decide +kernel)) (pi_list (pv 0))
        (blkOk_by (own := [("_law_row", 7)]) (N := nTurned) (sc := defScope sTurned) (by decide +kernel)) (fun _ _ _ _ _ => pg_name (i := 7) scTurned.nd rfl (Or.inl rfl))
        (fun _ _ _ _ _ => pts_one (pt_cmpR op_eq (pe_ix ix_tup (pv 7) pe_int (fun _ _ => rfl)) (pe_ix ix_tup (pe_ix ix_list (pv 0) pe_int (fun _ _ => rfl)) pe_int (fun _ _ => rfl)) (nomark _)))
        (fun _ _ _ _ _ => pv 7))
      (pss_cons (ps_asg (pe_tup (pa_cons (pe_ix ix_list (pv 1) pe_int (fun _ _ => rfl)) (pa_cons (pe_ix ix_list (pv 1) (pe_un un_neg pe_int) (fun _ _ => rfl)) pa_nil))) (pg_tup rfl (pgs_cons (pg_name (i := 2) scTurned.nd rfl (.inr rfl)) (pgs_cons (pg_name (i := 3) scTurned.nd rfl (.inr rfl)) pgs_nil))))
      (pss_cons (ps_setLc (i := 4) (own := [("_law_row", 7)]) (g := gName 7) (tt := tTest (tOp (rNotInT K) (tVar 7) (tTup (tCons (tVar 2) (tCons (tVar 3) tNil))))) rfl scTurned.nd rfl rfl (sw_true rfl rfl rfl (by decide +kernel)) (pi_list (pv 0))
        (blkOk_by (own := [("_law_row", 7)]) (N := nTurned) (sc := defScope sTurned) (by decide +kernel)) (fun _ _ _ _ _ => pg_name (i := 7) scTurned.nd rfl (Or.inl rfl))
        (fun _ _ _ _ _ => pts_one (pt_cmpR (op_notInT hu65) (pv 7) (pe_tup (pa_cons (pv 2) (pa_cons (pv 3) pa_nil))) rfl))
        (fun _ _ _ _ _ => pv 7))
      (pss_cons (ps_set (i := 4) scTurned.nd rfl (.inl rfl) (pe_op op_cat (pe_op op_cat (pv 4) (pe_lst (pa_cons (pe_tup (pa_cons (pe_ix ix_tup (pv 2) pe_int (fun _ _ => rfl)) (pa_cons (pe_ix ix_tup (pv 3) pe_int (fun _ _ => rfl)) (pa_cons (pe_ix ix_tup (pv 2) pe_int (fun _ _ => rfl)) pa_nil)))) pa_nil)))
          (pe_op op_rep (pe_lst (pa_cons (pe_tup (pa_cons (pe_ix ix_tup (pv 3) pe_int (fun _ _ => rfl)) (pa_cons (pe_ix ix_tup (pv 2) pe_int (fun _ _ => rfl)) (pa_cons (pe_ix ix_tup (pv 2) pe_int (fun _ _ => rfl)) pa_nil)))) pa_nil)) (pe_callTy call_int1 (by rfl) T.int (by decide +kernel) (pa_cons (pe_cmpR (op_neD hr.units) (pv 2) (pv 3) (nomark _)) pa_nil)))))
      (pss_cons (ps_par (i := 5) (j := 6) (by rfl) scTurned.nd rfl rfl (by decide) rfl rfl (pa_cons (pe_make MR GM hr (by rfl) T.mgR bM .nil pass0 (pa_cons (pv 4) pa_nil)) (pa_cons (pe_make MR GM hr (by rfl) T.mgR bM .nil pass0 (pa_cons (pv 0) pa_nil)) pa_nil)) (by rfl))
      (pss_cons (ps_if (PW.pt (pw_or (pt_cmpR op_ne (pe_cmpR (op_eqO cE GE bE hr1 pass0) (pv 5) (pv 6) (nomark _)) (pe_cmpR (op_eqD hr.units) (pv 2) (pv 3) (nomark _)) (nomark _))
          (pw_or1 (pt_cmpR (op_neO cE2 GE2 bE2 hr2 pass0) (pe_meth0 (pv 5) T.icR.cl mI GI hr5 bI .nil pass0) (pe_meth0 (pv 6) T.icR.cl mI GI hr5 bI .nil pass0) (nomark _))))) (pss_one (ps_ret pe_bl)) pss_nil)
      (pss_cons (ps_if (pt_cmpR (op_neO cE2 GE2 bE2 hr2 pass0) (pe_meth0 (pv 5) T.icR.cl mO GO hr5 bO .nil pass0) (pe_meth0 (pv 6) T.icR.cl mO GO hr5 bO .nil pass0) (nomark _)) (pss_one (ps_ret pe_bl)) pss_nil)
      (pss_one (ps_ret (pe_and (pe_cmpR op_eq (pe_meth (pv 5) T.icR.cl mV GV hr4 bV .nil pass0 (pa_cons (pe_ix ix_tup (pv 2) pe_int (fun _ _ => rfl)) pa_nil)) (pe_ix ix_tup (pv 3) pe_int (fun _ _ => rfl)) (nomark _))
        (pe_and (pe_cmpR op_eq (pe_meth (pv 5) T.icR.cl mV GV hr4 bV .nil pass0 (pa_cons (pe_ix ix_tup (pv 3) pe_int (fun _ _ => rfl)) pa_nil)) (pe_ix ix_tup (pv 2) pe_int (fun _ _ => rfl)) (nomark _))
          (pe_one (pe_call GL hr1 (by rfl) gL kL bL .nil pass0 (pa_cons (pe_meth0 (pv 5) T.icR.cl mR GR hr1 bR .nil pass0) pa_nil))))))))))))), ?_⟩
    obtain ⟨L, eL, hl, hT, ll, at_⟩ := hL.at
    obtain ⟨e0, L', eq0⟩ : ∃ e0 L', L = e0 :: L' := by
      cases L with
      | nil => rw [List.length_nil] at ll; omega
      | cons e0 L' => exact ⟨e0, L', rfl⟩
    have m0 : e0 ∈ L := by rw [eq0]; exact List.mem_cons_self
    have pm0 : e0.2 ∈ ps := by rw [← eL]; exact List.mem_map_of_mem m0
    have at0 : atI (refs L) 0 = some (V.ref e0.1) := by rw [eq0]; exact at_of (j := 0) rfl rfl
    -- some
    refine ⟨_, rfl, l, rfl, ⟨_, SqL.of hl⟩, fun D1 nD1 => lc_list (K := K) (a := l) (xs := refs L) (fun i H' => Same H H' ∧ H' D1 = some (.lst (refs ((L.take i).filter fun e => decide (e.2.2.2 = e0.2.2.2))))) ⟨Same.upd nD1, upd_same⟩ (fun i H' _ h => SqL.of (h.1 _ _ hl)) ?_ ?_⟩
    · rintro i x H' hi ⟨sm, hD⟩
      obtain ⟨e, he, rfl⟩ := refs_at hi
      have me := List.mem_of_getElem? he
      have hi45 : i < 45 := by
        have := (List.getElem?_eq_some_iff.mp he).1
        omega
      refine ⟨rfl, ?_⟩
      refine ⟨_, rfl, e.1, _, _, _, rfl, rfl, SqT.of (sm _ _ (hT e me)), rfl, _, rfl, l, _, _, _, rfl, rfl, SqL.of (sm _ _ hl), at0, e0.1, _, _, _, rfl, rfl, SqT.of (sm _ _ (hT e0 m0)), rfl, rfl, _, rfl, ?_⟩
      have fs := filter_snoc (fun e : Addr × Row => decide (e.2.2.2 = e0.2.2.2)) he
      refine ite2 (fun z => ?_) fun z => ?_
      · have z : e.2.2.2 = e0.2.2.2 := V.int.inj (of_decide_eq_true z)
        refine ⟨_, rfl, _, hD, ?_, fun b o eb => ?_, ?_⟩
        · rw [refs_len]
          refine slen (Nat.le_trans (List.length_filter_le _ _) ?_)
          rw [List.length_take]
          exact Nat.le_trans (Nat.min_le_left _ _) (by omega)
        · rw [upd_ne (ne_of_none eb nD1)]
          exact sm _ _ eb
        · rw [upd_same, fs, if_pos (decide_eq_true z), refs_snoc]
      · have z : ¬ e.2.2.2 = e0.2.2.2 := fun q => z (decide_eq_true (by rw [q]))
        refine ⟨sm, ?_⟩
        rw [fs, if_neg (by rw [decide_eq_false z]; exact Bool.false_ne_true), List.append_nil]
        exact hD
    rintro H2 ⟨sm2, hD1⟩
    rw [List.take_of_length_le (by rw [refs_len]; exact Nat.le_refl _)] at hD1
    obtain ⟨ini, eb, eF⟩ : ∃ ini eb, (L.filter fun e => decide (e.2.2.2 = e0.2.2.2)) = ini ++ [eb] := by
      rcases snoc_cases (L.filter fun e => decide (e.2.2.2 = e0.2.2.2)) with z | z
      · have : e0 ∈ (L.filter fun e => decide (e.2.2.2 = e0.2.2.2)) := List.mem_filter.mpr ⟨m0, by simp⟩
        rw [z] at this
        exact (List.not_mem_nil this).elim
      · exact z
    have mbF : eb ∈ (L.filter fun e => decide (e.2.2.2 = e0.2.2.2)) := by rw [eF]; simp
    have mb : eb ∈ L := (List.mem_filter.mp mbF).1
    have cb : eb.2.2.2 = e0.2.2.2 := of_decide_eq_true (List.mem_filter.mp mbF).2
    have pmb : eb.2 ∈ ps := by rw [← eL]; exact List.mem_map_of_mem mb
    have atF0 : atI (refs (L.filter fun e => decide (e.2.2.2 = e0.2.2.2))) 0 = some (V.ref e0.1) := by
      rw [eq0, List.filter_cons_of_pos (by simp)]
      exact at_of (j := 0) rfl rfl
    have atF1 : atI (refs (L.filter fun e => decide (e.2.2.2 = e0.2.2.2))) (-1) = some (V.ref eb.1) := by
      rw [eF, refs_snoc]
      exact atI_last _ _
    -- one, other
    refine ⟨_, rfl, D1, _, _, _, rfl, rfl, SqL.of hD1, atF0, _, rfl, 1, rfl, D1, _, _, _, rfl, rfl, SqL.of hD1, atF1, by show 2 ≤ sizeLine; decide, fun t nt => ⟨t, _, rfl, SqT.of upd_same, rfl, _, _, rfl, _, _, rfl, rfl, ?_⟩⟩
    have sm3 : Same H (upd H2 t (.tup [.ref e0.1, .ref eb.1])) := sm2.then nt
    clear nt hD1
    revert sm3
    generalize upd H2 t (.tup [.ref e0.1, .ref eb.1]) = H3
    intro sm3
    -- rest
    refine ⟨_, rfl, l, rfl, ⟨_, SqL.of (sm3 _ _ hl)⟩, fun D2 nD2 => lc_list (K := K) (a := l) (xs := refs L) (fun i H' => Same H3 H' ∧ H' D2 = some (.lst (refs ((L.take i).filter fun e => !(decide (e.2 = e0.2) || decide (e.2 = eb.2)))))) ⟨Same.upd nD2, upd_same⟩ (fun i H' _ h => SqL.of (h.1 _ _ (sm3 _ _ hl))) ?_ ?_⟩
    · rintro i x H' hi ⟨sm', hD⟩
      obtain ⟨e, he, rfl⟩ := refs_at hi
      have me := List.mem_of_getElem? he
      have sm := sm3.trans sm'
      have hi45 : i < 45 := by
        have := (List.getElem?_eq_some_iff.mp he).1
        omega
      refine ⟨rfl, ?_⟩
      refine ⟨_, rfl, _, rfl, _, rfl, by show 2 ≤ sizeLine; decide, fun t nt => ⟨tD (rI e.2), [rI e0.2, rI eb.2].map tD, dp_tup (Same.upd nt _ _ (sm _ _ (hT e me))), .tup (SqT.of upd_same) (.cons (dp_tup (Same.upd nt _ _ (sm _ _ (hT e0 m0)))) (.cons (dp_tup (Same.upd nt _ _ (sm _ _ (hT eb mb)))) .nil)), tD_shaped _, lT_shaped _, _, rfl, ?_⟩⟩
      have fs := filter_snoc (fun e : Addr × Row => !(decide (e.2 = e0.2) || decide (e.2 = eb.2))) he
      have ev : (!([rI e0.2, rI eb.2].map tD).any fun z => PyData.eqv z (tD (rI e.2))) = !(decide (e.2 = e0.2) || decide (e.2 = eb.2)) := by
        show (!(PyData.eqv (tD (rI e0.2)) (tD (rI e.2)) || (PyData.eqv (tD (rI eb.2)) (tD (rI e.2)) || false))) = _
        rw [tD_inj rI_inj, tD_inj rI_inj, Bool.or_false]
        congr 2
        · exact decide_eq_decide.mpr ⟨Eq.symm, Eq.symm⟩
        · exact decide_eq_decide.mpr ⟨Eq.symm, Eq.symm⟩
      rw [ev]
      have hDt := Same.upd (o := .tup [.ref e0.1, .ref eb.1]) nt _ _ hD
      have smt : Same H3 (upd H' t (.tup [.ref e0.1, .ref eb.1])) := sm'.then nt
      by_cases z : (!(decide (e.2 = e0.2) || decide (e.2 = eb.2))) = true
      · rw [z]
        refine ⟨_, rfl, _, hDt, ?_, fun b o eb => ?_, ?_⟩
        · rw [refs_len]
          refine slen (Nat.le_trans (List.length_filter_le _ _) ?_)
          rw [List.length_take]
          exact Nat.le_trans (Nat.min_le_left _ _) (by omega)
        · rw [upd_ne (ne_of_none eb nD2)]
          exact smt _ _ eb
        · rw [upd_same, fs, if_pos z, refs_snoc]
      · rw [Bool.eq_false_iff.mpr z]
        refine ⟨smt, ?_⟩
        rw [fs, if_neg z, List.append_nil]
        exact hDt
    rintro H4 ⟨sm4, hD2⟩
    rw [List.take_of_length_le (by rw [refs_len]; exact Nat.le_refl _)] at hD2
    have sH4 : Same H H4 := sm3.trans sm4
    have h0t := sH4 _ _ (hT e0 m0)
    have hbt := sH4 _ _ (hT eb mb)
    have lenR : (refs (L.filter fun e => !(decide (e.2 = e0.2) || decide (e.2 = eb.2)))).length ≤ 45 := by
      rw [refs_len]
      exact Nat.le_trans (List.length_filter_le _ _) (by omega)
    have lR4 : H4 D2 = some (.lst (refs (L.filter fun e => !(decide (e.2 = e0.2) || decide (e.2 = eb.2))))) := hD2
    have eR : (L.filter fun e => !(decide (e.2 = e0.2) || decide (e.2 = eb.2))).map (·.2) = restOf ps e0.2 eb.2 := by
      rw [← eL]
      exact filter_refs (fun r => !(decide (r = e0.2) || decide (r = eb.2))) L
    have tR : Tups rI H4 (L.filter fun e => !(decide (e.2 = e0.2) || decide (e.2 = eb.2))) := fun x hx => sH4 _ _ (hT x (List.mem_filter.mp hx).1)
    revert lR4 lenR eR tR
    generalize (L.filter fun e => !(decide (e.2 = e0.2) || decide (e.2 = eb.2))) = M
    intro lenR lR4 eR tR
    clear hD2 nD2 sm4 sm3 nD1 sm2
    -- rest + [..]
    refine ⟨_, rfl, _, rfl, e0.1, _, _, _, rfl, rfl, SqT.of h0t, rfl, _, rfl, eb.1, _, _, _, rfl, rfl, SqT.of hbt, rfl, _, rfl, e0.1, _, _, _, rfl, rfl, SqT.of h0t, rfl, by show 3 ≤ sizeLine; decide, fun t1 nt1 => ⟨by show 1 ≤ sizeLine; decide, fun m1 nm1 => ?_⟩⟩
    have u1 := Same.upd (o := .tup [.int e0.2.1, .int eb.2.2.1, .int e0.2.2.2]) nt1
    have u2 := Same.upd (o := .lst [.ref t1]) nm1
    have ht1 := u2 _ _ (upd_same (H := H4) (a := t1) (o := .tup [.int e0.2.1, .int eb.2.2.1, .int e0.2.2.2]))
    have hm1 := upd_same (H := upd H4 t1 (.tup [.int e0.2.1, .int eb.2.2.1, .int e0.2.2.2])) (a := m1) (o := .lst [.ref t1])
    have s5 : Same H4 _ := u1.trans u2
    revert ht1 hm1 s5
    clear u2 u1 nm1
    generalize upd (upd H4 t1 (.tup [.int e0.2.1, .int eb.2.2.1, .int e0.2.2.2])) m1 (.lst [.ref t1]) = H5
    intro ht1 hm1 s5
    refine ⟨D2, m1, _, _, rfl, rfl, s5 _ _ lR4, hm1, ?_, fun p1 np1 => ?_⟩
    · exact Nat.le_of_lt (slen (by rw [List.length_singleton]; omega))
    have hp1 := upd_same (H := H5) (a := p1) (o := .lst (refs M ++ [.ref t1]))
    have s6 : Same H4 _ := s5.then (o := .lst (refs M ++ [.ref t1])) np1
    have ht1' := Same.upd (o := .lst (refs M ++ [.ref t1])) np1 _ _ ht1
    revert hp1 s6 ht1'
    clear np1 s5 hm1 ht1
    generalize upd H5 p1 (.lst (refs M ++ [.ref t1])) = H6
    intro hp1 s6 ht1
    -- .. + [..] * int(..)
    refine ⟨_, rfl, eb.1, _, _, _, rfl, rfl, SqT.of (s6 _ _ hbt), rfl, _, rfl, e0.1, _, _, _, rfl, rfl, SqT.of (s6 _ _ h0t), rfl, _, rfl, e0.1, _, _, _, rfl, rfl, SqT.of (s6 _ _ h0t), rfl, by show 3 ≤ sizeLine; decide, fun t2 nt2 => ⟨by show 1 ≤ sizeLine; decide, fun m2 nm2 => ?_⟩⟩
    have u1 := Same.upd (o := .tup [.int eb.2.1, .int e0.2.2.1, .int e0.2.2.2]) nt2
    have u2 := Same.upd (o := .lst [.ref t2]) nm2
    have ht2 := u2 _ _ (upd_same (H := H6) (a := t2) (o := .tup [.int eb.2.1, .int e0.2.2.1, .int e0.2.2.2]))
    have hm2 := upd_same (H := upd H6 t2 (.tup [.int eb.2.1, .int e0.2.2.1, .int e0.2.2.2])) (a := m2) (o := .lst [.ref t2])
    have s7 : Same H4 _ := s6.trans (u1.trans u2)
    have ht1' := u2 _ _ (u1 _ _ ht1)
    have hp1' := u2 _ _ (u1 _ _ hp1)
    revert ht2 hm2 s7 ht1' hp1'
    clear u2 u1 nm2 s6 ht1 hp1
    generalize upd (upd H6 t2 (.tup [.int eb.2.1, .int e0.2.2.1, .int e0.2.2.2])) m2 (.lst [.ref t2]) = H7
    intro ht2 hm2 s7 ht1 hp1
    refine ⟨_, rfl, _, rfl, tD (rI e0.2), tD (rI eb.2), dp_tup (s7 _ _ h0t), dp_tup (s7 _ _ hbt), tD_shaped _, tD_shaped _, .inr ⟨_, rfl, ?_⟩⟩
    rw [tD_inj rI_inj]
    have kv : (if (!decide (e0.2 = eb.2)) = true then (1 : Int) else 0) = ((if e0.2 = eb.2 then 0 else 1 : Nat) : Int) := by
      by_cases z : e0.2 = eb.2
      · rw [decide_eq_true z, if_pos z]; rfl
      · rw [decide_eq_false z, if_neg z]; rfl
    have lz : ((List.replicate (if (!decide (e0.2 = eb.2)) = true then (1 : Int) else 0).toNat [V.ref t2]).flatten : List V) = if e0.2 = eb.2 then [] else [V.ref t2] := by
      by_cases z : e0.2 = eb.2
      · rw [decide_eq_true z, if_pos z]; rfl
      · rw [decide_eq_false z, if_neg z]; rfl
    refine ⟨m2, _, _, rfl, rfl, hm2, ?_, ?_, ?_, fun p2 np2 => ?_⟩
    · split <;> decide
    · split <;> decide
    · split
      · show 1 * Int.toNat 1 ≤ sizeLine
        decide
      · show 1 * Int.toNat 0 ≤ sizeLine
        decide
    rw [lz]
    have hp2 := upd_same (H := H7) (a := p2) (o := .lst (if e0.2 = eb.2 then [] else [V.ref t2]))
    have u1 := Same.upd (o := .lst (if e0.2 = eb.2 then [] else [V.ref t2])) np2
    have s8 : Same H4 _ := s7.trans u1
    have ht1' := u1 _ _ ht1
    have ht2' := u1 _ _ ht2
    have hp1' := u1 _ _ hp1
    revert hp2 s8 ht1' ht2' hp1'
    clear u1 np2 s7 ht1 ht2 hp1 hm2 lz kv
    generalize upd H7 p2 (.lst (if e0.2 = eb.2 then [] else [V.ref t2])) = H8
    intro hp2 s8 ht1 ht2 hp1
    refine ⟨p1, p2, _, _, rfl, rfl, hp1, hp2, ?_, fun p3 np3 => ?_⟩
    · refine Nat.le_of_lt (slen ?_)
      rw [List.length_append, List.length_singleton]
      split
      · rw [List.length_nil]; omega
      · rw [List.length_singleton]; omega
    have lT : Ls rI (upd H8 p3 (.lst (refs M ++ [.ref t1] ++ if e0.2 = eb.2 then [] else [V.ref t2]))) p3 (told ps e0.2 eb.2) := by
      have tA : Tups rI H8 (M ++ [(t1, (e0.2.1, eb.2.2.1, e0.2.2.2))] ++ (if e0.2 = eb.2 then [] else [(t2, (eb.2.1, e0.2.2.1, e0.2.2.2))])) := fun x hx => by
        rcases List.mem_append.mp hx with hx | hx
        · rcases List.mem_append.mp hx with hx | hx
          · exact s8 _ _ (tR x hx)
          · rw [List.mem_singleton] at hx
            subst hx
            exact ht1
        · by_cases z : e0.2 = eb.2
          · rw [if_pos z] at hx
            exact (List.not_mem_nil hx).elim
          · rw [if_neg z, List.mem_singleton] at hx
            subst hx
            exact ht2
      have n := Ls.new (g := rI) np3 tA
      have e1 : refs (M ++ [(t1, (e0.2.1, eb.2.2.1, e0.2.2.2))] ++ (if e0.2 = eb.2 then [] else [(t2, (eb.2.1, e0.2.2.1, e0.2.2.2))])) = refs M ++ [.ref t1] ++ if e0.2 = eb.2 then [] else [V.ref t2] := by
        by_cases z : e0.2 = eb.2
        · rw [if_pos z, if_pos z, List.append_nil, List.append_nil, refs_snoc]
        · rw [if_neg z, if_neg z, refs_snoc, refs_snoc]
      have e2 : (M ++ [(t1, (e0.2.1, eb.2.2.1, e0.2.2.2))] ++ (if e0.2 = eb.2 then [] else [(t2, (eb.2.1, e0.2.2.1, e0.2.2.2))])).map (·.2) = told ps e0.2 eb.2 := by
        unfold told
        rw [← eR]
        by_cases z : e0.2 = eb.2
        · rw [if_pos z, if_pos z]
          simp
        · rw [if_neg z, if_neg z]
          simp
      rw [e1, e2] at n
      exact n
    have s9 : Same H4 _ := s8.then (o := .lst (refs M ++ [.ref t1] ++ if e0.2 = eb.2 then [] else [V.ref t2])) np3
    revert lT s9
    clear np3 s8 hp2 ht1 ht2 hp1 tR eR lR4 lenR
    generalize upd H8 p3 (.lst (refs M ++ [.ref t1] ++ if e0.2 = eb.2 then [] else [V.ref t2])) = H9
    intro lT s9
    have sH9 : Same H H9 := sH4.trans s9
    have h09 := s9 _ _ h0t
    have hb9 := s9 _ _ hbt
    clear s9 h0t hbt sH4
    have tlen : (told ps e0.2 eb.2).length < 64 := by
      have := told_len (ps := ps) (a := e0.2) (b := eb.2)
      omega
    have vT : VM (told ps e0.2 eb.2) := told_vm hv pm0 pmb cb
    -- the two maps
    refine ⟨_, rfl, ?_⟩
    intro x1 dx1 nx1 nd1 ne1
    refine ⟨x1, dx1, p3, _, rfl, upd_same, lT.same (mk_same nx1 nd1), vT, tlen, fun H10 ts b10 I1 _ n1 => ⟨rfl, ?_⟩⟩
    have s10 : Same H9 H10 := mk_but nx1 nd1 b10
    refine ⟨_, rfl, ?_⟩
    intro x2 dx2 nx2 nd2 ne2
    refine ⟨x2, dx2, l, _, rfl, upd_same, (hL.same (sH9.trans s10)).same (mk_same nx2 nd2), hv, by omega, fun H11 qs b11 I2 _ n2 => ⟨rfl, _, _, rfl, ?_⟩⟩
    have s11 : Same H10 H11 := mk_but nx2 nd2 b11
    have sH11 : Same H H11 := (sH9.trans s10).trans s11
    have I1 := I1.same s11
    have h0z := s11 _ _ (s10 _ _ h09)
    have hbz := s11 _ _ (s10 _ _ hb9)
    clear sH9 h09 hb9 s10 s11 lT nx1 nx2 b10 b11 nd1 nd2 ne1 ne2
    obtain ⟨dx1, r1, hx1, _⟩ := id I1
    obtain ⟨dx2, r2, hx2, _⟩ := id I2
    have iff := told_iff hv pm0 pmb cb n2 n1
    have vts := vT.nf n1
    have vqs := hv.nf n2
    have lts : ts.length < 64 := Nat.lt_of_le_of_lt n1.len tlen
    have lqs : qs.length < 64 := Nat.lt_of_le_of_lt n2.len (by omega)
    refine ⟨_, rfl, _, rfl, x1, dx1, _, x2, dx2, _, rfl, rfl, hx1, hx2, x1, x2, ts, qs, rfl, I1, I2, _, rfl, ?_⟩
    refine ⟨_, rfl, _, rfl, tD (rI e0.2), tD (rI eb.2), dp_tup h0z, dp_tup hbz, tD_shaped _, tD_shaped _, rfl, _, rfl, ?_⟩
    refine iteNS (by rw [tD_inj rI_inj]; exact congrArg V.bl (decide_eq_decide.mpr iff)) ?_
    -- insides
    refine ⟨_, rfl, x1, dx1, _, rfl, hx1, rowsN r1 (by decide +kernel), x1, ts, rfl, I1, vts, lts, fun H12 y1 us s12 ny1 J1 k1 => ?_⟩
    refine ⟨_, rfl, x2, dx2, _, rfl, s12 _ _ hx2, rowsN r2 (by decide +kernel), x2, qs, rfl, I2.same s12, vqs, lqs, fun H13 y2 vs s13 ny2 J2 k2 => ?_⟩
    have J1 := J1.same s13
    obtain ⟨dy1, z1, hy1, _⟩ := id J1
    obtain ⟨dy2, z2, hy2, _⟩ := id J2
    refine ⟨y1, dy1, _, y2, dy2, _, rfl, rfl, hy1, hy2, y1, y2, us, vs, rfl, J1, J2, _, rfl, _, rfl, ?_⟩
    refine iteNS (told_insides hv pm0 pmb cb n2 n1 k2 k1) ?_
    have s13 := s12.trans s13
    have I1 := I1.same s13
    have I2 := I2.same s13
    have hx1 := s13 _ _ hx1
    have hx2 := s13 _ _ hx2
    have h0z := s13 _ _ h0z
    have hbz := s13 _ _ hbz
    have sH13 := sH11.trans s13
    clear s12 s13 J1 J2 k1 k2 hy1 hy2 ny1 ny2 sH11
    -- outsides
    refine ⟨_, rfl, x1, dx1, _, rfl, hx1, rowsN r1 (by decide +kernel), x1, ts, rfl, I1, vts, lts, fun H14 y3 us3 s14 ny3 J3 k3 => ?_⟩
    refine ⟨_, rfl, x2, dx2, _, rfl, s14 _ _ hx2, rowsN r2 (by decide +kernel), x2, qs, rfl, I2.same s14, vqs, lqs, fun H15 y4 us4 s15 ny4 J4 k4 => ?_⟩
    have J3 := J3.same s15
    obtain ⟨dy3, z3, hy3, _⟩ := id J3
    obtain ⟨dy4, z4, hy4, _⟩ := id J4
    refine ⟨y3, dy3, _, y4, dy4, _, rfl, rfl, hy3, hy4, y3, y4, us3, us4, rfl, J3, J4, _, rfl, _, rfl, ?_⟩
    refine iteNS (told_outsides hv pm0 pmb cb n2 n1 k4 k3) ?_
    have s15 := s14.trans s15
    have I1 := I1.same s15
    have hx1 := s15 _ _ hx1
    have h0z := s15 _ _ h0z
    have hbz := s15 _ _ hbz
    have sH15 := sH13.trans s15
    clear s14 s15 J3 J4 k3 k4 hy3 hy4 ny3 ny4 sH13
    have run0 : RunOk e0.2.1 1 := by
      obtain ⟨⟨a1, a2, _, _⟩, _⟩ := hv.ok _ pm0
      exact ⟨a1, a2, by omega, by omega⟩
    have runb : RunOk eb.2.1 1 := by
      obtain ⟨⟨a1, a2, _, _⟩, _⟩ := hv.ok _ pmb
      exact ⟨a1, a2, by omega, by omega⟩
    have p0 := hv.pos pm0
    have ld1 : Leads ts e0.2.1 eb.2.2.1 := (n1.ld _ _).mpr (told_one p0)
    have ld2 : Leads ts eb.2.1 e0.2.2.1 := (n1.ld _ _).mpr (told_other p0)
    -- the values
    refine ⟨_, rfl, x1, dx1, _, rfl, hx1, rowsN r1 (by decide +kernel), _, rfl, e0.1, _, _, _, rfl, rfl, SqT.of h0z, rfl, x1, e0.2.1, ts, rfl, I1, n1.nf, lts, run0, fun y hy => ?_, fun no => (no _ ld1).elim⟩
    have ey := nf_fun n1.nf hy ld1
    subst ey
    refine ⟨_, rfl, eb.1, _, _, _, rfl, rfl, SqT.of hbz, rfl, rfl, true, congrArg V.bl (decide_eq_true rfl), ?_⟩
    refine iteT ?_
    refine ⟨_, rfl, x1, dx1, _, rfl, hx1, rowsN r1 (by decide +kernel), _, rfl, eb.1, _, _, _, rfl, rfl, SqT.of hbz, rfl, x1, eb.2.1, ts, rfl, I1, n1.nf, lts, runb, fun y hy => ?_, fun no => (no _ ld2).elim⟩
    have ey := nf_fun n1.nf hy ld2
    subst ey
    refine ⟨_, rfl, e0.1, _, _, _, rfl, rfl, SqT.of h0z, rfl, rfl, true, congrArg V.bl (decide_eq_true rfl), ?_⟩
    refine iteT ?_
    -- the rows
    refine ⟨_, rfl, x1, dx1, _, rfl, hx1, rowsN r1 (by decide +kernel), x1, ts, rfl, I1, fun H16 z s16 nz lz => ⟨z, ts, rfl, lz, n1.nf, by omega, fun H17 s17 => q _ ((sH15.trans s16).trans s17)⟩⟩
end
end K14
namespace K14
open PySem L2
open C8 (InsC call_isC pe_gc pss_cut)
theorem cut_lo (xs : List V) (k : Nat) (h : k ≤ xs.length) : cutV xs none (some (k : Int)) = xs.take k := by
  unfold cutV
  rw [HT.sIx_none, show HT.sIx xs.length xs.length (some (k : Int)) = min k xs.length from HT.sIx_nat xs.length xs.length k]
  rw [Nat.min_eq_left h]
  rfl
theorem cut_hi (xs : List V) (k : Nat) (h : k ≤ xs.length) : cutV xs (some (k : Int)) none = xs.drop k := by
  unfold cutV
  rw [show HT.sIx xs.length 0 (some (k : Int)) = min k xs.length from HT.sIx_nat xs.length 0 k, HT.sIx_none, Nat.min_eq_left h]
  exact List.take_of_length_le (by rw [List.length_drop]; exact Nat.le_refl _)
section
variable {P : Program} {w : World} {K : PySem.W.Frag} {mg : Str → Option Value} {base : Heap} {R S : Addr}
theorem scLaw : FnScope ["_law_script", "_law_cell", "_law_state", "_law_turn", "_law_great", "_law_ranges_here", "_law_whole", "_law_pieces_here", "_law_at", "_law_inside", "_law_outside", "_law_count", "_law_less"] ["_law_script"] (defScope sLaw) := ⟨rfl, rfl, rfl, by decide +kernel, rfl, by decide +kernel, by decide +kernel⟩
def spLaw (K : PySem.W.Frag) : Sp := fun vs H Q _ => ∃ (a : Addr) (ns : List Int), vs = [.ref a] ∧ SqL K H a (ns.map V.int) ∧ ns.length ≤ 63 ∧ ∀ H', Q (.bl true) H'
theorem ok_law {f : Addr} {fd : FuncData} (F : Fun K "law" "law" sLaw f fd) (A_ : Api P w K mg base R S) (HT : HasFn P w K mg base "_law_turned_right" 8 ["_law_pieces_here"] spTurned) : FnOk P w K mg base CX0 9 f fd ["_law_script"] (spLaw K) := by
  have T := A_.txt
  obtain ⟨fM, fdM, MR, bM, GM⟩ := A_.make
  obtain ⟨fE, fdE, cE, bE, GE⟩ := A_.eqR
  obtain ⟨fR, fdR, mR, bR, GR⟩ := A_.ranges
  obtain ⟨fV, fdV, mV, bV, GV⟩ := A_.value
  obtain ⟨fZ, fdZ, mZ, bZ, GZ⟩ := A_.size
  obtain ⟨fC, fdC, gC, kC, bC, GC⟩ := A_.cell
  obtain ⟨fD, fdD, gD, kD, bD, GD⟩ := A_.digit
  obtain ⟨fW, fdW, gW, kW, bW, GW⟩ := A_.draw
  obtain ⟨fP, fdP, gP, kP, bP, GP⟩ := A_.pieces
  obtain ⟨fL, fdL, gL, kL, bL, GL⟩ := A_.least
  obtain ⟨fT, fdT, gT, kT, bT, GT⟩ := HT
  refine F.ok scLaw (fun vs H Q E h => ?_) (fun cdv A outer s H vs Q E hr h => ?_)
  · obtain ⟨l, ps, rfl, _⟩ := h
    rfl
  · obtain ⟨sc, ns, rfl, hsc, hlen, q⟩ := h
    have hr1 : Room 1 _ := hr.mono (by decide)
    have hr2 : Room 2 _ := hr.mono (by decide)
    have hr3 : Room 3 _ := hr.mono (by decide)
    have hr4 : Room 4 _ := hr.mono (by decide)
    have hr7 : Room 7 _ := hr.mono (by decide)
    refine ⟨_, pss_cons (ps_for PassesOwn.never rfl (pi_list (pe_op op_cat (pe_lst (pa_cons (pe_call GC hr1 (by rfl) gC kC bC .nil pass0 (pa_cons (pv 0) (pa_cons pe_int pa_nil))) pa_nil)) (pe_slice sl_list (pv 0) (po_some pe_int) (po_some pe_int)))) (pg_name (i := 1) scLaw.nd rfl (.inl rfl))
        (pss_cons (ps_set (i := 2) scLaw.nd rfl (.inl rfl) (pe_lst (pa_cons (pv 1) pa_nil)))
        (pss_one (ps_for PassesOwn.never rfl (pi_range1 (by rfl) T.range (pa_cons pe_int pa_nil)) (pg_name (i := 3) scLaw.nd rfl (.inl rfl))
          (pss_cons (ps_set (i := 4) scLaw.nd rfl (.inl rfl) (pe_lst (pa_cons (pe_tup (pa_cons pe_int (pa_cons pe_int (pa_cons (pe_op op_add pe_int (pe_call GD hr1 (by rfl) gD kD bD .nil pass0 (pa_cons (pv 2) (pa_cons (pe_op op_pow pe_int pe_int) pa_nil)))) pa_nil)))) (pa_cons (pe_tup (pa_cons pe_int (pa_cons pe_int (pa_cons (pe_op op_pow pe_int pe_int) pa_nil)))) pa_nil))))
          (pss_cons (ps_set (i := 5) scLaw.nd rfl (.inl rfl) (pe_op op_cat (pe_call GW hr3 (by rfl) gW kW bW .nil pass0 (pa_cons (pv 2) (pa_cons pe_int (pa_cons pe_int pa_nil)))) (pv 4)))
          (pss_cons (ps_par (i := 6) (j := 7) (by rfl) scLaw.nd rfl rfl (by decide) rfl rfl (pa_cons (pe_make MR GM hr7 (by rfl) T.mgR bM .nil pass0 (pa_cons (pv 5) pa_nil)) (pa_cons (pe_call GP hr2 (by rfl) gP kP bP .nil pass0 (pa_cons (pv 2) (pa_cons (pv 5) pa_nil))) pa_nil)) (by rfl))
          (pss_cons (ps_if (PW.pt (pw_or (pt_cmpR (op_neO cE GE bE hr2 pass0) (pe_make MR GM hr7 (by rfl) T.mgR bM .nil pass0 (pa_cons (pv 7) pa_nil)) (pv 6) (nomark _))
              (pw_or1 (pt_cmpR (op_neD hr.units) (pe_meth0 (pe_make MR GM hr7 (by rfl) T.mgR bM .nil pass0 (pa_cons (pv 7) pa_nil)) T.icR.cl mR GR hr1 bR .nil pass0) (pe_meth0 (pv 6) T.icR.cl mR GR hr1 bR .nil pass0) (nomark _))))) (pss_one (ps_ret pe_bl)) pss_nil)
          (pss_cons (ps_if (PW.pt (pw_or (pt_not (pt_val (pe_call GL hr1 (by rfl) gL kL bL .nil pass0 (pa_cons (pe_meth0 (pv 6) T.icR.cl mR GR hr1 bR .nil pass0) pa_nil))))
              (pw_or1 (pt_not (pt_val (pe_call GT hr (by rfl) gT kT bT .nil pass0 (pa_cons (pv 7) pa_nil))))))) (pss_one (ps_ret pe_bl)) pss_nil)
          (pss_cons (ps_set (i := 8) scLaw.nd rfl (.inl rfl) (pe_call GD hr1 (by rfl) gD kD bD .nil pass0 (pa_cons (pv 2) (pa_cons (pe_callB call_len_seq (by rfl) T.len PySem.boot_len (pa_cons (pv 7) pa_nil)) pa_nil))))
          (pss_cons (ps_asg (pe_ix ix_list (pv 7) (pv 8) (fun _ _ => rfl)) (pg_tup rfl (pgs_cons (pg_name (i := 9) scLaw.nd rfl (.inl rfl)) (pgs_cons (pg_name (i := 10) scLaw.nd rfl (.inl rfl)) (pgs_cons (pg_name (i := 11) scLaw.nd rfl (.inl rfl)) pgs_nil)))))
          (pss_cons (ps_set (i := 12) scLaw.nd rfl (.inl rfl) (pe_op op_cat (pe_slice sl_list (pv 7) po_none (po_some (pv 8))) (pe_slice sl_list (pv 7) (po_some (pe_op op_add (pv 8) pe_int)) po_none)))
          (pss_cons (ps_if (PW.pt (pw_or (pt_cmpR (op_eqO cE GE bE hr1 pass0) (pe_make MR GM hr7 (by rfl) T.mgR bM .nil pass0 (pa_cons (pv 12) pa_nil)) (pv 6) (nomark _))
              (pw_or1 (pt_cmpR op_notN (pe_meth (pe_make MR GM hr7 (by rfl) T.mgR bM .nil pass0 (pa_cons (pv 12) pa_nil)) T.icR.cl mV GV hr4 bV .nil pass0 (pa_cons (pv 9) pa_nil)) pe_non (nomark _))))) (pss_one (ps_ret pe_bl)) pss_nil)
          (pss_one (ps_if (PW.pt (pw_or (pt_cmpR op_ne (pe_meth0 (pe_make MR GM hr7 (by rfl) T.mgR bM .nil pass0 (pa_cons (pv 12) pa_nil)) T.icR.cl mZ GZ hr1 bZ .nil pass0) (pe_op op_sub (pe_meth0 (pv 6) T.icR.cl mZ GZ hr1 bZ .nil pass0) (pv 11)) (nomark _))
              (pw_or1 (pt_cmpR (op_neO cE GE bE hr2 pass0) (pe_make MR GM hr7 (by rfl) T.mgR bM .nil pass0 (pa_cons (pe_op op_cat (pv 12) (pe_lst (pa_cons (pe_ix ix_list (pv 7) (pv 8) (fun _ _ => rfl)) pa_nil))) pa_nil)) (pv 6) (nomark _))))) (pss_one (ps_ret pe_bl)) pss_nil)))))))))))))))
      (pss_one (ps_ret (pe_cmpR (op_eqD hr.units) (pe_meth0 (pe_make MR GM hr7 (by rfl) T.mgR bM .nil pass0 (pa_cons (pe_lst (pa_cons (pe_tup (pa_cons pe_int (pa_cons pe_int (pa_cons pe_int pa_nil)))) (pa_cons (pe_tup (pa_cons pe_int (pa_cons pe_int (pa_cons pe_int pa_nil)))) pa_nil))) pa_nil)) T.icR.cl mR GR hr1 bR .nil pass0)
        (pe_lst (pa_cons (pe_tup (pa_cons pe_int (pa_cons pe_int (pa_cons pe_int pa_nil)))) (pa_cons (pe_tup (pa_cons pe_int (pa_cons pe_int (pa_cons pe_int pa_nil)))) pa_nil))) (nomark _)))), ?_⟩
    -- the cells
    refine ⟨_, rfl, sc, ns, rfl, hsc, fun n0 => ⟨by show 1 ≤ sizeLine; decide, fun c1 nc1 => ?_⟩⟩
    have u1 := Same.upd (o := .lst [.int n0]) nc1
    refine ⟨_, rfl, 1, rfl, 3, rfl, sc, _, rfl, u1.seq hsc, fun c2 nc2 => ?_⟩
    have u2 := Same.upd (o := .lst (cutV (ns.map V.int) (some 1) (some 3))) nc2
    have lcut : (cutV (ns.map V.int) (some 1) (some 3)).length ≤ 63 := by
      unfold cutV
      rw [List.length_take, List.length_drop, List.length_map]
      exact Nat.le_trans (Nat.min_le_right _ _) (by omega)
    have icut : ∀ x ∈ cutV (ns.map V.int) (some 1) (some 3), ∃ u, x = V.int u := fun x hx => by
      unfold cutV at hx
      obtain ⟨u, _, e⟩ := List.mem_map.mp (List.mem_of_mem_drop (List.mem_of_mem_take hx))
      exact ⟨u, e.symm⟩
    refine ⟨c1, c2, _, _, rfl, rfl, u2 _ _ upd_same, upd_same, ?_, fun c3 nc3 => ?_⟩
    · exact Nat.le_of_lt (slen (by rw [List.length_singleton]; omega))
    have hcs := upd_same (H := upd (upd H c1 (.lst [.int n0])) c2 (.lst (cutV (ns.map V.int) (some 1) (some 3)))) (a := c3) (o := .lst ([.int n0] ++ cutV (ns.map V.int) (some 1) (some 3)))
    have ics : ∀ x ∈ [V.int n0] ++ cutV (ns.map V.int) (some 1) (some 3), ∃ u, x = V.int u := fun x hx => by
      rcases List.mem_append.mp hx with m | m
      · rw [List.mem_singleton] at m
        exact ⟨n0, m⟩
      · exact icut x m
    clear icut lcut u2 u1
    refine ⟨c3, rfl, ⟨_, SqL.of hcs⟩, for_list (K := K) (a := c3) (xs := [V.int n0] ++ cutV (ns.map V.int) (some 1) (some 3)) (fun i σ H' => (∃ y1 y2 y3 y4 y5 y6 y7 y8 y9 y10 y11 y12, σ = [some (.ref sc), y1, y2, y3, y4, y5, y6, y7, y8, y9, y10, y11, y12]) ∧
        Same (upd (upd (upd H c1 (.lst [.int n0])) c2 (.lst (cutV (ns.map V.int) (some 1) (some 3)))) c3 (.lst ([.int n0] ++ cutV (ns.map V.int) (some 1) (some 3)))) H')
      ⟨⟨_, _, _, _, _, _, _, _, _, _, _, _, rfl⟩, Same.refl _⟩ (fun i σ H' _ h => SqL.of (h.2 _ _ hcs)) ?_ ?_⟩
    · rintro i x σ H4 hi ⟨⟨y1, y2, y3, y4, y5, y6, y7, y8, y9, y10, y11, y12, rfl⟩, s4⟩
      obtain ⟨u, rfl⟩ := ics x (List.mem_of_getElem? hi)
      refine ⟨_, rfl, by show 1 ≤ sizeLine; decide, fun st nst => ?_⟩
      have hst0 : StA (upd H4 st (.lst [.int u])) st := .inl ⟨u, upd_same⟩
      have sst := Same.upd (o := .lst [.int u]) nst
      refine ⟨4, rfl, by decide, by decide, ?_⟩
      refine for_range (lo := 0) (n := 4) (fun j σ H' => (∃ y3 y4 y5 y6 y7 y8 y9 y10 y11 y12, σ = [some (.ref sc), some (.int u), some (.ref st), y3, y4, y5, y6, y7, y8, y9, y10, y11, y12]) ∧ Same H4 H' ∧ StA H' st)
        ⟨⟨_, _, _, _, _, _, _, _, _, _, rfl⟩, sst, hst0⟩ ?_ ?_
      · clear hst0 sst
        rintro j σ H5 hj ⟨⟨y3, y4, y5, y6, y7, y8, y9, y10, y11, y12, rfl⟩, s5, hS5⟩
        have e9 : (10 : Int) ^ (9 : Int).toNat = 1000000000 := by decide
        -- great
        refine ⟨_, rfl, 10, 9, rfl, rfl, ⟨by decide, by decide, by decide⟩, st, _, rfl, hS5, by decide, by decide, fun H6 d bu6 hS6 d0 d1 => ⟨_, _, rfl, rfl, by show 3 ≤ sizeLine; decide, fun t1 nt1 => ?_⟩⟩
        have d1 : d < 1000000000 := by
          have z : d < (10 : Int) ^ (9 : Int).toNat := d1
          rw [e9] at z
          exact z
        refine ⟨10, 9, rfl, rfl, ⟨by decide, by decide, by decide⟩, by show 3 ≤ sizeLine; decide, fun t2 nt2 => ⟨by show 2 ≤ sizeLine; decide, fun g ng => ?_⟩⟩
        have v1 := Same.upd (o := tv rI (1000000, 3000000000, 1 + d)) nt1
        have v2 := Same.upd (H := upd H6 t1 (tv rI (1000000, 3000000000, 1 + d))) (o := .tup [.int 2000000000, .int 1000000000, .int ((10 : Int) ^ (9 : Int).toNat)]) nt2
        have v3 := Same.upd (H := upd (upd H6 t1 (tv rI (1000000, 3000000000, 1 + d))) t2 (.tup [.int 2000000000, .int 1000000000, .int ((10 : Int) ^ (9 : Int).toNat)])) (o := .lst [.ref t1, .ref t2]) ng
        have ht1 := v3 _ _ (v2 _ _ (upd_same (H := H6) (a := t1) (o := tv rI (1000000, 3000000000, 1 + d))))
        have ht2 := v3 _ _ (upd_same (H := upd H6 t1 (tv rI (1000000, 3000000000, 1 + d))) (a := t2) (o := .tup [.int 2000000000, .int 1000000000, .int ((10 : Int) ^ (9 : Int).toNat)]))
        have hg := upd_same (H := upd (upd H6 t1 (tv rI (1000000, 3000000000, 1 + d))) t2 (.tup [.int 2000000000, .int 1000000000, .int ((10 : Int) ^ (9 : Int).toNat)])) (a := g) (o := .lst [.ref t1, .ref t2])
        have s7 := (v1.trans v2).trans v3
        have hS7 := hS6.same s7
        have b7 : But st H4 _ := ((But.of s5).trans bu6).trans (But.of s7)
        obtain ⟨xs6, hxs6⟩ := hS6.lst
        have ngst : g ≠ st := (ne_of_none ((v1.trans v2) _ _ hxs6) ng).symm
        have nt1st : t1 ≠ st := (ne_of_none hxs6 nt1).symm
        have nt2st : t2 ≠ st := (ne_of_none (v1 _ _ hxs6) nt2).symm
        -- ranges + great
        refine ⟨_, rfl, st, 100, 5000, rfl, hS7, fun H8 p rs bu8 hS8 np lrs sml => ?_⟩
        have hg8 := bu8 _ _ hg ngst
        have ht18 := bu8 _ _ ht1 nt1st
        have ht28 := bu8 _ _ ht2 nt2st
        rw [e9] at ht28
        have b8 := b7.trans bu8
        obtain ⟨Ld, eLd, lp, tLd⟩ := lrs
        have lenLd : Ld.length ≤ 7 := by
          have := sml.len
          rw [← eLd, List.length_map] at this
          exact this
        clear hg ht1 ht2 v1 v2 v3 s7 hS7 bu8 hS6 b7 bu6 hxs6 nt1st nt2st ngst np hS5
        refine ⟨_, rfl, p, g, _, _, rfl, rfl, lp, hg8, Nat.le_of_lt (slen (by rw [refs_len]; show Ld.length + 2 ≤ 1000; omega)), fun rp nrp => ?_⟩
        have lR : Ls rI (upd H8 rp (.lst (refs Ld ++ [.ref t1, .ref t2]))) rp (rs ++ great d) := by
          have tA : Tups rI H8 (Ld ++ [(t1, (1000000, 3000000000, 1 + d)), (t2, (2000000000, 1000000000, 1000000000))]) := fun x hx => by
            rcases List.mem_append.mp hx with m | m
            · exact tLd x m
            · rcases List.mem_cons.mp m with m | m
              · subst m; exact ht18
              · rw [List.mem_singleton] at m
                subst m; exact ht28
          have n := Ls.new (g := rI) nrp tA
          have e1 : refs (Ld ++ [(t1, ((1000000, 3000000000, 1 + d) : Row)), (t2, (2000000000, 1000000000, 1000000000))]) = refs Ld ++ [.ref t1, .ref t2] := by
            show List.map _ _ = _
            rw [List.map_append]
            rfl
          have e2 : (Ld ++ [(t1, ((1000000, 3000000000, 1 + d) : Row)), (t2, (2000000000, 1000000000, 1000000000))]).map (·.2) = rs ++ great d := by
            rw [List.map_append, eLd]
            rfl
          rw [e1, e2] at n
          exact n
        have s9 := Same.upd (o := .lst (refs Ld ++ [.ref t1, .ref t2])) nrp
        have hS9 := hS8.same s9
        have b9 : But st H4 _ := b8.trans (But.of s9)
        obtain ⟨xs8, hxs8⟩ := hS8.lst
        have nrpst : rp ≠ st := (ne_of_none hxs8 nrp).symm
        have vR : VM (rs ++ great d) := vm_start sml d0 d1
        have lenR : (rs ++ great d).length ≤ 9 := by
          rw [List.length_append]
          have := sml.len
          show rs.length + 2 ≤ 9
          omega
        have bigR : ∀ r ∈ rs ++ great d, r.2.2 ≤ 1000000000 := fun r hr => by
          rcases List.mem_append.mp hr with m | m
          · have := sml.bd r m
            omega
          · unfold great at m
            rcases List.mem_cons.mp m with m | m
            · subst m
              show 1 + d ≤ 1000000000
              omega
            · rw [List.mem_singleton] at m
              subst m
              show (1000000000 : Int) ≤ 1000000000
              omega
        clear tLd lp eLd hg8 ht18 ht28 b8 hS8
        revert lR s9 hS9 b9
        generalize upd H8 rp (.lst (refs Ld ++ [.ref t1, .ref t2])) = H9
        intro lR s9 hS9 b9
        clear s9 hxs8 nrp
        -- whole, pieces
        refine ⟨_, rfl, ?_⟩
        intro xw dxw nxw ndw new_
        refine ⟨xw, dxw, rp, _, rfl, upd_same, lR.same (mk_same nxw ndw), vR, by omega, fun H10 qs b10 I1 fr1 n1 => ⟨rfl, ?_⟩⟩
        have s10 : Same H9 H10 := mk_but nxw ndw b10
        obtain ⟨xs9, hxs9⟩ := hS9.lst
        obtain ⟨dw, lw, hxw, hlw⟩ := I1
        have nlwst : lw ≠ st := (ne_of_none (mk_same nxw ndw _ _ hxs9) (fr1 _ _ _ hxw)).symm
        have nxwst : xw ≠ st := (ne_of_none hxs9 nxw).symm
        have hS10 := hS9.same s10
        have lR10 := lR.same s10
        have b10' : But st H4 H10 := b9.trans (But.of s10)
        clear lR hS9 b9 b10 fr1 nxw ndw new_ hxs9 s10
        refine ⟨_, rfl, _, rfl, st, rp, _, rfl, hS10, nrpst, lR10, vR, lenR, bigR, fun H11 pp ps b11 hS11 npp lps form len45 lenge => ⟨_, _, rfl, ?_⟩⟩
        obtain ⟨xs10, hxs10⟩ := hS10.lst
        have nppst : pp ≠ st := (ne_of_none hxs10 npp).symm
        have hxw := b11 _ _ hxw nxwst
        have hlw := hlw.but b11 nlwst hxs10 (lst_tup _)
        have bb : But st H4 H11 := b10'.trans b11
        have vP := form.vm
        have e1 : ∀ {q2 : List Row}, IsNF ps q2 → q2 = qs := fun k => k.same n1 form.ld
        have lqs : qs.length < 64 := Nat.lt_of_le_of_lt n1.len (by omega)
        clear hS10 lR10 b10' hxs10 b11 npp
        -- the pieces make the same map
        refine ⟨_, rfl, ?_⟩
        intro xa dxa nxa nda nea
        refine ⟨xa, dxa, pp, _, rfl, upd_same, lps.same (mk_same nxa nda), vP, by omega, fun H12 qa ba Ia _ na => ⟨rfl, ?_⟩⟩
        have s12 := mk_but nxa nda ba
        obtain ⟨da, la, hxa, hla⟩ := Ia
        have hxw := s12 _ _ hxw
        have hlw := hlw.same s12
        have lps := lps.same s12
        have hS12 := hS11.same s12
        have bb := bb.trans (But.of s12)
        clear hS11 s12 ba nxa nda nea
        have ea := e1 na
        subst ea
        refine ⟨_, rfl, xa, da, _, xw, dw, _, rfl, rfl, hxa, hxw, xa, xw, qa, qa, rfl, ⟨da, la, hxa, hla⟩, ⟨dw, lw, hxw, hlw⟩, _, rfl, _, rfl, ?_⟩
        refine iteNS rfl ?_
        clear hxa hla
        -- with the same ranges
        refine ⟨_, rfl, ?_⟩
        intro xb dxb nxb ndb neb
        refine ⟨xb, dxb, pp, _, rfl, upd_same, lps.same (mk_same nxb ndb), vP, by omega, fun H13 qb bb13 Ib _ nb => ⟨rfl, ?_⟩⟩
        have s13 := mk_but nxb ndb bb13
        have eb := e1 nb
        subst eb
        obtain ⟨db, lb, hxb, hlb⟩ := Ib
        refine ⟨xb, db, _, rfl, hxb, rowsN lb (by decide +kernel), xb, qb, rfl, ⟨db, lb, hxb, hlb⟩, fun H14 z3 s14 nz3 lz3 => ?_⟩
        have s13 := s13.trans s14
        have hxw := s13 _ _ hxw
        have hlw := hlw.same s13
        refine ⟨_, rfl, xw, dw, _, rfl, hxw, rowsN lw (by decide +kernel), xw, qb, rfl, ⟨dw, lw, hxw, hlw⟩, fun H15 z4 s15 nz4 lz4 => ?_⟩
        refine ⟨_, _, dp_ls (lz3.same s15), dp_ls lz4, lD_shaped _, lD_shaped _, _, rfl, ?_⟩
        rw [lD_inj rI_inj, decide_eq_true rfl]
        refine iteF ?_
        have s13 := s13.trans s15
        have hxw := s15 _ _ hxw
        have hlw := hlw.same s15
        have lps := lps.same s13
        have hS15 := hS12.same s13
        have bb := bb.trans (But.of s13)
        clear lz3 lz4 s14 s15 hS12 bb13 nxb ndb neb hxb hlb s13 nz3 nz4
        -- least, turned right
        refine ⟨_, rfl, xw, dw, _, rfl, hxw, rowsN lw (by decide +kernel), xw, qb, rfl, ⟨dw, lw, hxw, hlw⟩, fun H16 z5 s16 nz5 lz5 => ⟨z5, qb, rfl, lz5, n1.nf, by omega, fun H17 s17 => ⟨true, rfl, ?_⟩⟩⟩
        refine iteF ?_
        have s17 := s16.trans s17
        refine ⟨_, rfl, pp, ps, rfl, lps.same s17, vP, ?_, len45, fun H18 s18 => ⟨true, rfl, ?_⟩⟩
        · have : (rs ++ great d).length = rs.length + 2 := by rw [List.length_append]; rfl
          omega
        refine iteF ?_
        have s18 := s17.trans s18
        have hxw := s18 _ _ hxw
        have hlw := hlw.same s18
        have lps := lps.same s18
        have hS18 := hS15.same s18
        have bb := bb.trans (But.of s18)
        clear s16 s17 s18 lz5 nz5 hS15
        -- a place
        obtain ⟨L, eL, lp, tL, ll, atL⟩ := lps.at
        have lenR2 : (rs ++ great d).length = rs.length + 2 := by rw [List.length_append]; rfl
        refine ⟨_, rfl, _, rfl, pp, _, rfl, .inl (SqL.of lp), st, _, rfl, hS18, ?_, ?_, fun H19 r b19 hS19 r0 r1 => ?_⟩
        · rw [refs_len, ll]; omega
        · rw [refs_len, ll]; omega
        rw [refs_len, ll] at r1
        obtain ⟨k, rfl⟩ : ∃ k : Nat, r = (k : Int) := ⟨r.toNat, by omega⟩
        have hk : k < ps.length := by omega
        have hkL : k < L.length := by omega
        have ek : ps[k]? = some ps[k] := List.getElem?_eq_getElem hk
        obtain ⟨xs18, hxs18⟩ := hS18.lst
        have hxw := b19 _ _ hxw nxwst
        have hlw := hlw.but b19 nlwst hxs18 (lst_tup _)
        have lp := b19 _ _ lp nppst
        have tL := tL.but b19 hxs18 (lst_tup _)
        have bb := bb.trans b19
        clear atL lps hS18 b19 hxs18
        have eKL : L[k]? = some L[k] := List.getElem?_eq_getElem hkL
        have ekp : L[k].2 = ps[k] := by
          have z : ps[k]? = some L[k].2 := by rw [← eL, List.getElem?_map, eKL]; rfl
          rw [ek] at z
          exact (Option.some.inj z).symm
        have htk : H19 L[k].1 = some (tv rI ps[k]) := by rw [← ekp]; exact tL _ (List.getElem_mem hkL)
        have atk : atI (refs L) (k : Int) = some (V.ref L[k].1) := at_of (j := k) rfl (by rw [List.getElem?_map, eKL]; rfl)
        refine ⟨_, rfl, _, rfl, pp, _, _, _, rfl, rfl, SqL.of lp, atk, L[k].1, _, rfl, SqT.of htk, rfl, _, _, rfl, _, _, rfl, _, _, rfl, rfl, ?_⟩
        -- less
        refine ⟨_, rfl, _, rfl, k, rfl, pp, _, rfl, SqL.of lp, fun a1 na1 => ?_⟩
        have w1 := Same.upd (o := .lst (cutV (refs L) none (some (k : Int)))) na1
        refine ⟨_, rfl, _, rfl, _, _, rfl, rfl, _, rfl, pp, _, rfl, SqL.of (w1 _ _ lp), fun a2 na2 => ?_⟩
        have w2 := Same.upd (o := .lst (cutV (refs L) (some ((k : Int) + 1)) none)) na2
        have cl := cut_lo (refs L) k (by rw [refs_len]; omega)
        have ch : cutV (refs L) (some ((k : Int) + 1)) none = (refs L).drop (k + 1) := cut_hi (refs L) (k + 1) (by rw [refs_len]; omega)
        have ecut : cutV (refs L) none (some (k : Int)) ++ cutV (refs L) (some ((k : Int) + 1)) none = refs (L.eraseIdx k) := by
          rw [cl, ch, ← List.eraseIdx_eq_take_drop_succ, refs_erase]
        refine ⟨a1, a2, _, _, rfl, rfl, w2 _ _ upd_same, upd_same, ?_, fun lq nlq => ?_⟩
        · rw [← List.length_append, ecut, refs_len]
          refine Nat.le_of_lt (slen ?_)
          have := List.length_eraseIdx_le L k
          omega
        have w3 := Same.upd (o := .lst (cutV (refs L) none (some (k : Int)) ++ cutV (refs L) (some ((k : Int) + 1)) none)) nlq
        have w := (w1.trans w2).trans w3
        have el : (L.eraseIdx k).map (·.2) = ps.eraseIdx k := by rw [← eL, erase_map]
        have hlq := upd_same (H := upd (upd H19 a1 (.lst (cutV (refs L) none (some (k : Int))))) a2 (.lst (cutV (refs L) (some ((k : Int) + 1)) none))) (a := lq) (o := .lst (cutV (refs L) none (some (k : Int)) ++ cutV (refs L) (some ((k : Int) + 1)) none))
        have hlq2 : (upd (upd (upd H19 a1 (.lst (cutV (refs L) none (some (k : Int))))) a2 (.lst (cutV (refs L) (some ((k : Int) + 1)) none))) lq (.lst (cutV (refs L) none (some (k : Int)) ++ cutV (refs L) (some ((k : Int) + 1)) none))) lq = some (.lst (refs (L.eraseIdx k))) := by rw [hlq, ecut]
        have lps := Ls.same (g := rI) ⟨L, eL, lp, tL⟩ w
        have lls : Ls rI (upd (upd (upd H19 a1 (.lst (cutV (refs L) none (some (k : Int))))) a2 (.lst (cutV (refs L) (some ((k : Int) + 1)) none))) lq (.lst (cutV (refs L) none (some (k : Int)) ++ cutV (refs L) (some ((k : Int) + 1)) none))) lq (ps.eraseIdx k) :=
          ⟨L.eraseIdx k, el, by rw [hlq, ecut], fun x hx => w _ _ (tL x (erase_mem hx))⟩
        have hxw := w _ _ hxw
        have hlw := hlw.same w
        have lp := w _ _ lp
        have htk := w _ _ htk
        have tL := tL.same w
        have hS20 := hS19.same w
        have bb := bb.trans (But.of w)
        clear w1 w2 w3 w cl ch hlq
        revert hlq2 lls hxw hlw lp htk tL hS20 bb lps
        clear nlq na2 na1 hS19
        generalize upd (upd (upd H19 a1 (.lst (cutV (refs L) none (some (k : Int))))) a2 (.lst (cutV (refs L) (some ((k : Int) + 1)) none))) lq (.lst (cutV (refs L) none (some (k : Int)) ++ cutV (refs L) (some ((k : Int) + 1)) none)) = H20
        intro hlq lps lls hxw hlw lp htk tL hS20 bb
        have vL : VM (ps.eraseIdx k) := vP.sub (List.eraseIdx_sublist _ _)
        have lenE : (ps.eraseIdx k).length ≤ 45 := Nat.le_trans (List.length_eraseIdx_le _ _) len45
        have rk : RowOk ps[k] := vP.ok _ (List.getElem_mem hk)
        -- another map
        refine ⟨_, rfl, ?_⟩
        intro xc dxc nxc ndc nec
        refine ⟨xc, dxc, lq, _, rfl, upd_same, lls.same (mk_same nxc ndc), vL, by omega, fun H21 qc b21 Ic _ nc => ⟨rfl, ?_⟩⟩
        have s21 := mk_but nxc ndc b21
        obtain ⟨dc, lc, hxc, hlc⟩ := Ic
        have hxw := s21 _ _ hxw
        have hlw := hlw.same s21
        have nne : qc ≠ qb := less_ne vP ek nb nc
        refine ⟨_, rfl, xc, dc, _, xw, dw, _, rfl, rfl, hxc, hxw, xc, xw, qc, qb, rfl, ⟨dc, lc, hxc, hlc⟩, ⟨dw, lw, hxw, hlw⟩, _, rfl, _, rfl, ?_⟩
        rw [decide_eq_false nne]
        refine iteF ?_
        have lls := lls.same s21
        have lp := s21 _ _ lp
        have htk := s21 _ _ htk
        have tL := tL.same s21
        have hlq := s21 _ _ hlq
        have hS21 := hS20.same s21
        have bb := bb.trans (But.of s21)
        clear hxc hlc b21 nxc ndc nec s21 hS20 lps
        -- that leads nowhere there
        refine ⟨_, rfl, ?_⟩
        intro xd dxd nxd ndd ned
        refine ⟨xd, dxd, lq, _, rfl, upd_same, lls.same (mk_same nxd ndd), vL, by omega, fun H22 qd b22 Id _ nd => ⟨rfl, ?_⟩⟩
        have s22 := mk_but nxd ndd b22
        obtain ⟨dd, ld, hxd, hld⟩ := Id
        have run : RunOk ps[k].1 1 := by
          obtain ⟨⟨z1, z2, _, _⟩, _⟩ := rk
          exact ⟨z1, z2, by omega, by omega⟩
        have lqd : qd.length < 64 := Nat.lt_of_le_of_lt nd.len (by omega)
        refine ⟨xd, dd, _, rfl, hxd, rowsN ld (by decide +kernel), _, rfl, xd, ps[k].1, qd, rfl, ⟨dd, ld, hxd, hld⟩, nd.nf, lqd, run, fun y hy => (less_none vP ek y ((nd.ld _ _).mp hy)).elim, fun _ => ⟨rfl, _, rfl, ?_⟩⟩
        refine iteF ?_
        have hxw := s22 _ _ hxw
        have hlw := hlw.same s22
        have lls := lls.same s22
        have lp := s22 _ _ lp
        have htk := s22 _ _ htk
        have tL := tL.same s22
        have hlq := s22 _ _ hlq
        have hS22 := hS21.same s22
        have bb := bb.trans (But.of s22)
        clear hxd hld b22 nxd ndd ned s22 hS21
        -- and has as many numbers less
        refine ⟨_, rfl, ?_⟩
        intro xe dxe nxe nde nee
        refine ⟨xe, dxe, lq, _, rfl, upd_same, lls.same (mk_same nxe nde), vL, by omega, fun H23 qe b23 Ie _ ne' => ⟨rfl, ?_⟩⟩
        have s23 := mk_but nxe nde b23
        obtain ⟨de, le, hxe, hle⟩ := Ie
        have lqe : qe.length < 64 := Nat.lt_of_le_of_lt ne'.len (by omega)
        refine ⟨xe, de, _, rfl, hxe, rowsN le (by decide +kernel), xe, qe, rfl, ⟨de, le, hxe, hle⟩, lqe, fun H24 s24 => ?_⟩
        have s24 := s23.trans s24
        have hxw := s24 _ _ hxw
        have hlw := hlw.same s24
        refine ⟨_, rfl, xw, dw, _, rfl, hxw, rowsN lw (by decide +kernel), xw, qb, rfl, ⟨dw, lw, hxw, hlw⟩, lqs, fun H25 s25 => ⟨_, rfl, _, _, rfl, rfl, rfl, _, rfl, ?_⟩⟩
        refine iteNS (congrArg V.int (less_tot ek nb ne')) ?_
        have hxw := s25 _ _ hxw
        have hlw := hlw.same s25
        have s25 := s24.trans s25
        have lp := s25 _ _ lp
        have tL := tL.same s25
        have htk := s25 _ _ htk
        have hlq := s25 _ _ hlq
        have hS25 := hS22.same s25
        have bb := bb.trans (But.of s25)
        clear hxe hle b23 nxe nde nee s23 s24 s25 hS22 lls
        -- and is the same again with it
        refine ⟨_, rfl, _, rfl, _, rfl, pp, _, _, _, rfl, rfl, SqL.of lp, atk, by show 1 ≤ sizeLine; decide, fun l1 nl1 => ?_⟩
        have w1 := Same.upd (o := .lst [.ref L[k].1]) nl1
        refine ⟨lq, l1, _, _, rfl, rfl, w1 _ _ hlq, upd_same, ?_, fun l2 nl2 => ?_⟩
        · rw [refs_len, List.length_singleton]
          refine Nat.le_of_lt (slen ?_)
          have := List.length_eraseIdx_le L k
          omega
        have w2 := Same.upd (o := .lst (refs (L.eraseIdx k) ++ [.ref L[k].1])) nl2
        have lz : Ls rI (upd (upd H25 l1 (.lst [.ref L[k].1])) l2 (.lst (refs (L.eraseIdx k) ++ [.ref L[k].1]))) l2 (ps.eraseIdx k ++ [ps[k]]) := by
          refine ⟨L.eraseIdx k ++ [(L[k].1, ps[k])], by rw [List.map_append, el]; rfl, by rw [upd_same, refs_snoc], fun x hx => ?_⟩
          rcases List.mem_append.mp hx with m | m
          · exact w2 _ _ (w1 _ _ (tL x (erase_mem m)))
          · rw [List.mem_singleton] at m
            subst m
            exact w2 _ _ (w1 _ _ htk)
        have w := w1.trans w2
        have pk := erase_perm ek
        intro xf dxf nxf ndf nef
        refine ⟨xf, dxf, l2, _, rfl, upd_same, lz.same (mk_same nxf ndf), vP.perm pk, ?_, fun H26 qf b26 If _ nf => ⟨rfl, ?_⟩⟩
        · rw [List.length_append, List.length_singleton]
          omega
        have s26 := w.trans (mk_but nxf ndf b26)
        obtain ⟨df, lf, hxf, hlf⟩ := If
        have ef : qf = qb := e1 (nf.perm pk.symm)
        subst ef
        refine ⟨_, rfl, xf, df, _, xw, dw, _, rfl, rfl, hxf, s26 _ _ hxw, xf, xw, qf, qf, rfl, ⟨df, lf, hxf, hlf⟩, ⟨dw, lw, s26 _ _ hxw, hlw.same s26⟩, _, rfl, _, rfl, ?_⟩
        refine iteNS rfl ?_
        exact ⟨⟨_, _, _, _, _, _, _, _, _, _, rfl⟩, Same.but (bb.trans (But.of s26)) nst, hS25.same s26⟩
      · rintro σ H5 ⟨⟨y3, y4, y5, y6, y7, y8, y9, y10, y11, y12, rfl⟩, s5, _⟩
        exact ⟨⟨_, _, _, _, _, _, _, _, _, _, _, _, rfl⟩, s4.trans s5⟩
    · rintro σ H4 ⟨⟨y1, y2, y3, y4, y5, y6, y7, y8, y9, y10, y11, y12, rfl⟩, s4⟩
      refine ⟨by show 3 ≤ sizeLine; decide, fun t1 nt1 => ⟨by show 3 ≤ sizeLine; decide, fun t2 nt2 => ⟨by show 2 ≤ sizeLine; decide, fun l nl_ => ?_⟩⟩⟩
      have v1 := Same.upd (o := tv rI (0, 2, 2)) nt1
      have v2 := Same.upd (H := upd H4 t1 (tv rI (0, 2, 2))) (o := tv rI (2, 0, 2)) nt2
      have v3 := Same.upd (H := upd (upd H4 t1 (tv rI (0, 2, 2))) t2 (tv rI (2, 0, 2))) (o := .lst [.ref t1, .ref t2]) nl_
      have hL : Ls rI (upd (upd (upd H4 t1 (tv rI (0, 2, 2))) t2 (tv rI (2, 0, 2))) l (.lst [.ref t1, .ref t2])) l [(0, 2, 2), (2, 0, 2)] :=
        ⟨[(t1, (0, 2, 2)), (t2, (2, 0, 2))], rfl, upd_same, fun x hx => by
          rcases List.mem_cons.mp hx with m | m
          · subst m; exact v3 _ _ (v2 _ _ upd_same)
          · rw [List.mem_singleton] at m
            subst m; exact v3 _ _ upd_same⟩
      intro x dx nx nd ne
      refine ⟨x, dx, l, _, rfl, upd_same, hL.same (mk_same nx nd), vm_last, by decide, fun H5 qs b5 I5 _ n5 => ⟨rfl, ?_⟩⟩
      obtain ⟨dx5, l5, hx5, hl5⟩ := I5
      refine ⟨x, dx5, _, rfl, hx5, rowsN l5 (by decide +kernel), x, qs, rfl, ⟨dx5, l5, hx5, hl5⟩, fun H6 z s6 nz lz => ?_⟩
      refine ⟨by show 3 ≤ sizeLine; decide, fun t3 nt3 => ⟨by show 3 ≤ sizeLine; decide, fun t4 nt4 => ⟨by show 2 ≤ sizeLine; decide, fun m nm => ?_⟩⟩⟩
      have v1 := Same.upd (o := tv rI (0, 2, 2)) nt3
      have v2 := Same.upd (H := upd H6 t3 (tv rI (0, 2, 2))) (o := tv rI (2, 0, 2)) nt4
      have v3 := Same.upd (H := upd (upd H6 t3 (tv rI (0, 2, 2))) t4 (tv rI (2, 0, 2))) (o := .lst [.ref t3, .ref t4]) nm
      have hM : Ls rI (upd (upd (upd H6 t3 (tv rI (0, 2, 2))) t4 (tv rI (2, 0, 2))) m (.lst [.ref t3, .ref t4])) m [(0, 2, 2), (2, 0, 2)] :=
        ⟨[(t3, (0, 2, 2)), (t4, (2, 0, 2))], rfl, upd_same, fun x hx => by
          rcases List.mem_cons.mp hx with q | q
          · subst q; exact v3 _ _ (v2 _ _ upd_same)
          · rw [List.mem_singleton] at q
            subst q; exact v3 _ _ upd_same⟩
      refine ⟨_, _, dp_ls (lz.same ((v1.trans v2).trans v3)), dp_ls hM, lD_shaped _, lD_shaped _, ?_⟩
      rw [lD_inj rI_inj, nf_last n5, decide_eq_true rfl]
      exact q _
end
end K14
namespace K14
open PySem L2
open C8 (InsC call_isC pe_gc pss_cut)
theorem kitSelf (K : PySem.W.Frag) (C : Addr) : PySem.W.kitOne K (.ref C) (.ref C) = some true := by
  unfold PySem.W.kitOne
  rw [if_pos (beq_self_eq_true _)]
theorem all_mk {l : PySem.W.OpenLaw} {w : World} {K : PySem.W.Frag} {h : Heap} {mg : Str → Option Value} {fa R S : Addr} (X : K.In h) (G : h.Ns mainGlobals mg) (hfa : mg "law" = some (.ref fa))
    {fF0 fF1 fF2 fF3 fF4 fF5 fF6 fF7 fF8 fF9 fF10 fF11 fF12 fF13 fF14 fF15 fF16 fM0 fM1 fM2 fM3 fM4 fM5 fM6 fM7 fM8 : Addr} {odF0 : Option Addr} {anF0 : Option Addr} {slF0 : Array (Option Value)} {ocF0 kVF0 dcF0 pmF0 cdF0 ctF0 : Value} {odF1 : Option Addr} {anF1 : Option Addr} {slF1 : Array (Option Value)} {ocF1 kVF1 dcF1 pmF1 cdF1 ctF1 : Value} {odF2 : Option Addr} {anF2 : Option Addr} {slF2 : Array (Option Value)} {ocF2 kVF2 dcF2 pmF2 cdF2 ctF2 : Value} {odF3 : Option Addr} {anF3 : Option Addr} {slF3 : Array (Option Value)} {ocF3 kVF3 dcF3 pmF3 cdF3 ctF3 : Value} {odF4 : Option Addr} {anF4 : Option Addr} {slF4 : Array (Option Value)} {ocF4 kVF4 dcF4 pmF4 cdF4 ctF4 : Value} {odF5 : Option Addr} {anF5 : Option Addr} {slF5 : Array (Option Value)} {ocF5 kVF5 dcF5 pmF5 cdF5 ctF5 : Value} {odF6 : Option Addr} {anF6 : Option Addr} {slF6 : Array (Option Value)} {ocF6 kVF6 dcF6 pmF6 cdF6 ctF6 : Value} {odF7 : Option Addr} {anF7 : Option Addr} {slF7 : Array (Option Value)} {ocF7 kVF7 dcF7 pmF7 cdF7 ctF7 : Value} {odF8 : Option Addr} {anF8 : Option Addr} {slF8 : Array (Option Value)} {ocF8 kVF8 dcF8 pmF8 cdF8 ctF8 : Value} {odF9 : Option Addr} {anF9 : Option Addr} {slF9 : Array (Option Value)} {ocF9 kVF9 dcF9 pmF9 cdF9 ctF9 : Value} {odF10 : Option Addr} {anF10 : Option Addr} {slF10 : Array (Option Value)} {ocF10 kVF10 dcF10 pmF10 cdF10 ctF10 : Value} {odF11 : Option Addr} {anF11 : Option Addr} {slF11 : Array (Option Value)} {ocF11 kVF11 dcF11 pmF11 cdF11 ctF11 : Value} {odF12 : Option Addr} {anF12 : Option Addr} {slF12 : Array (Option Value)} {ocF12 kVF12 dcF12 pmF12 cdF12 ctF12 : Value} {odF13 : Option Addr} {anF13 : Option Addr} {slF13 : Array (Option Value)} {ocF13 kVF13 dcF13 pmF13 cdF13 ctF13 : Value} {odF14 : Option Addr} {anF14 : Option Addr} {slF14 : Array (Option Value)} {ocF14 kVF14 dcF14 pmF14 cdF14 ctF14 : Value} {odF15 : Option Addr} {anF15 : Option Addr} {slF15 : Array (Option Value)} {ocF15 kVF15 dcF15 pmF15 cdF15 ctF15 : Value} {odF16 : Option Addr} {anF16 : Option Addr} {slF16 : Array (Option Value)} {ocF16 kVF16 dcF16 pmF16 cdF16 ctF16 : Value} {odM0 : Option Addr} {anM0 : Option Addr} {slM0 : Array (Option Value)} {ocM0 kVM0 dcM0 pmM0 cdM0 ctM0 : Value} {odM1 : Option Addr} {anM1 : Option Addr} {slM1 : Array (Option Value)} {ocM1 kVM1 dcM1 pmM1 cdM1 ctM1 : Value} {odM2 : Option Addr} {anM2 : Option Addr} {slM2 : Array (Option Value)} {ocM2 kVM2 dcM2 pmM2 cdM2 ctM2 : Value} {odM3 : Option Addr} {anM3 : Option Addr} {slM3 : Array (Option Value)} {ocM3 kVM3 dcM3 pmM3 cdM3 ctM3 : Value} {odM4 : Option Addr} {anM4 : Option Addr} {slM4 : Array (Option Value)} {ocM4 kVM4 dcM4 pmM4 cdM4 ctM4 : Value} {odM5 : Option Addr} {anM5 : Option Addr} {slM5 : Array (Option Value)} {ocM5 kVM5 dcM5 pmM5 cdM5 ctM5 : Value} {odM6 : Option Addr} {anM6 : Option Addr} {slM6 : Array (Option Value)} {ocM6 kVM6 dcM6 pmM6 cdM6 ctM6 : Value} {odM7 : Option Addr} {anM7 : Option Addr} {slM7 : Array (Option Value)} {ocM7 kVM7 dcM7 pmM7 cdM7 ctM7 : Value} {odM8 : Option Addr} {anM8 : Option Addr} {slM8 : Array (Option Value)} {ocM8 kVM8 dcM8 pmM8 cdM8 ctM8 : Value} {tT tM : Tok}
    (aR : PySem.W.nsIn K mainGlobals "RangeMap" = some (some (.ref R)))
    (aS : PySem.W.nsIn K mainGlobals "NumberSet" = some (some (.ref S)))
    (aF0 : PySem.W.nsIn K mainGlobals "is_whole" = some (some (.ref fF0)))
    (lF0 : K.lookup fF0 = some ⟨ocF0, odF0, .func (PySem.W.fnOf "is_whole" "is_whole" (defArgs sWhole) (defBody sWhole) (defScope sWhole) .none kVF0 dcF0 pmF0 anF0 cdF0 ctF0), slF0⟩)
    (cF0 : PySem.W.codeIn K cdF0 "is_whole" = true)
    (kF0 : PySem.W.keepIn K (.ref fF0) = true)
    (aF1 : PySem.W.nsIn K mainGlobals "is_number" = some (some (.ref fF1)))
    (lF1 : K.lookup fF1 = some ⟨ocF1, odF1, .func (PySem.W.fnOf "is_number" "is_number" (defArgs sNumber) (defBody sNumber) (defScope sNumber) .none kVF1 dcF1 pmF1 anF1 cdF1 ctF1), slF1⟩)
    (cF1 : PySem.W.codeIn K cdF1 "is_number" = true)
    (kF1 : PySem.W.keepIn K (.ref fF1) = true)
    (aF2 : PySem.W.nsIn K mainGlobals "is_run" = some (some (.ref fF2)))
    (lF2 : K.lookup fF2 = some ⟨ocF2, odF2, .func (PySem.W.fnOf "is_run" "is_run" (defArgs sRun) (defBody sRun) (defScope sRun) .none kVF2 dcF2 pmF2 anF2 cdF2 ctF2), slF2⟩)
    (cF2 : PySem.W.codeIn K cdF2 "is_run" = true)
    (kF2 : PySem.W.keepIn K (.ref fF2) = true)
    (aF3 : PySem.W.nsIn K mainGlobals "joined" = some (some (.ref fF3)))
    (lF3 : K.lookup fF3 = some ⟨ocF3, odF3, .func (PySem.W.fnOf "joined" "joined" (defArgs sJoined) (defBody sJoined) (defScope sJoined) .none kVF3 dcF3 pmF3 anF3 cdF3 ctF3), slF3⟩)
    (cF3 : PySem.W.codeIn K cdF3 "joined" = true)
    (kF3 : PySem.W.keepIn K (.ref fF3) = true)
    (aF4 : PySem.W.nsIn K mainGlobals "set_of" = some (some (.ref fF4)))
    (lF4 : K.lookup fF4 = some ⟨ocF4, odF4, .func (PySem.W.fnOf "set_of" "set_of" (defArgs sSetOf) (defBody sSetOf) (defScope sSetOf) .none kVF4 dcF4 pmF4 anF4 cdF4 ctF4), slF4⟩)
    (cF4 : PySem.W.codeIn K cdF4 "set_of" = true)
    (kF4 : PySem.W.keepIn K (.ref fF4) = true)
    (aF5 : PySem.W.nsIn K mainGlobals "is_range" = some (some (.ref fF5)))
    (lF5 : K.lookup fF5 = some ⟨ocF5, odF5, .func (PySem.W.fnOf "is_range" "is_range" (defArgs sRange) (defBody sRange) (defScope sRange) .none kVF5 dcF5 pmF5 anF5 cdF5 ctF5), slF5⟩)
    (cF5 : PySem.W.codeIn K cdF5 "is_range" = true)
    (kF5 : PySem.W.keepIn K (.ref fF5) = true)
    (aF6 : PySem.W.nsIn K mainGlobals "are_apart" = some (some (.ref fF6)))
    (lF6 : K.lookup fF6 = some ⟨ocF6, odF6, .func (PySem.W.fnOf "are_apart" "are_apart" (defArgs sApart) (defBody sApart) (defScope sApart) .none kVF6 dcF6 pmF6 anF6 cdF6 ctF6), slF6⟩)
    (cF6 : PySem.W.codeIn K cdF6 "are_apart" = true)
    (kF6 : PySem.W.keepIn K (.ref fF6) = true)
    (aF7 : PySem.W.nsIn K mainGlobals "is_map" = some (some (.ref fF7)))
    (lF7 : K.lookup fF7 = some ⟨ocF7, odF7, .func (PySem.W.fnOf "is_map" "is_map" (defArgs sIsMap) (defBody sIsMap) (defScope sIsMap) .none kVF7 dcF7 pmF7 anF7 cdF7 ctF7), slF7⟩)
    (cF7 : PySem.W.codeIn K cdF7 "is_map" = true)
    (kF7 : PySem.W.keepIn K (.ref fF7) = true)
    (aF8 : PySem.W.nsIn K mainGlobals "in_order" = some (some (.ref fF8)))
    (lF8 : K.lookup fF8 = some ⟨ocF8, odF8, .func (PySem.W.fnOf "in_order" "in_order" (defArgs sOrder) (defBody sOrder) (defScope sOrder) .none kVF8 dcF8 pmF8 anF8 cdF8 ctF8), slF8⟩)
    (cF8 : PySem.W.codeIn K cdF8 "in_order" = true)
    (kF8 : PySem.W.keepIn K (.ref fF8) = true)
    (aF9 : PySem.W.nsIn K mainGlobals "_law_cell_at" = some (some (.ref fF9)))
    (lF9 : K.lookup fF9 = some ⟨ocF9, odF9, .func (PySem.W.fnOf "_law_cell_at" "_law_cell_at" (defArgs sCell) (defBody sCell) (defScope sCell) .none kVF9 dcF9 pmF9 anF9 cdF9 ctF9), slF9⟩)
    (cF9 : PySem.W.codeIn K cdF9 "_law_cell_at" = true)
    (kF9 : PySem.W.keepIn K (.ref fF9) = true)
    (aF10 : PySem.W.nsIn K mainGlobals "_law_digit" = some (some (.ref fF10)))
    (lF10 : K.lookup fF10 = some ⟨ocF10, odF10, .func (PySem.W.fnOf "_law_digit" "_law_digit" (defArgs sDigit) (defBody sDigit) (defScope sDigit) .none kVF10 dcF10 pmF10 anF10 cdF10 ctF10), slF10⟩)
    (cF10 : PySem.W.codeIn K cdF10 "_law_digit" = true)
    (kF10 : PySem.W.keepIn K (.ref fF10) = true)
    (aF11 : PySem.W.nsIn K mainGlobals "_law_one" = some (some (.ref fF11)))
    (lF11 : K.lookup fF11 = some ⟨ocF11, odF11, .func (PySem.W.fnOf "_law_one" "_law_one" (defArgs sOne) (defBody sOne) (defScope sOne) .none kVF11 dcF11 pmF11 anF11 cdF11 ctF11), slF11⟩)
    (cF11 : PySem.W.codeIn K cdF11 "_law_one" = true)
    (kF11 : PySem.W.keepIn K (.ref fF11) = true)
    (aF12 : PySem.W.nsIn K mainGlobals "_law_ranges" = some (some (.ref fF12)))
    (lF12 : K.lookup fF12 = some ⟨ocF12, odF12, .func (PySem.W.fnOf "_law_ranges" "_law_ranges" (defArgs sDraw) (defBody sDraw) (defScope sDraw) .none kVF12 dcF12 pmF12 anF12 cdF12 ctF12), slF12⟩)
    (cF12 : PySem.W.codeIn K cdF12 "_law_ranges" = true)
    (kF12 : PySem.W.keepIn K (.ref fF12) = true)
    (aF13 : PySem.W.nsIn K mainGlobals "_law_pieces" = some (some (.ref fF13)))
    (lF13 : K.lookup fF13 = some ⟨ocF13, odF13, .func (PySem.W.fnOf "_law_pieces" "_law_pieces" (defArgs sPieces) (defBody sPieces) (defScope sPieces) .none kVF13 dcF13 pmF13 anF13 cdF13 ctF13), slF13⟩)
    (cF13 : PySem.W.codeIn K cdF13 "_law_pieces" = true)
    (kF13 : PySem.W.keepIn K (.ref fF13) = true)
    (aF14 : PySem.W.nsIn K mainGlobals "_law_is_least" = some (some (.ref fF14)))
    (lF14 : K.lookup fF14 = some ⟨ocF14, odF14, .func (PySem.W.fnOf "_law_is_least" "_law_is_least" (defArgs sLeast) (defBody sLeast) (defScope sLeast) .none kVF14 dcF14 pmF14 anF14 cdF14 ctF14), slF14⟩)
    (cF14 : PySem.W.codeIn K cdF14 "_law_is_least" = true)
    (kF14 : PySem.W.keepIn K (.ref fF14) = true)
    (aF15 : PySem.W.nsIn K mainGlobals "_law_turned_right" = some (some (.ref fF15)))
    (lF15 : K.lookup fF15 = some ⟨ocF15, odF15, .func (PySem.W.fnOf "_law_turned_right" "_law_turned_right" (defArgs sTurned) (defBody sTurned) (defScope sTurned) .none kVF15 dcF15 pmF15 anF15 cdF15 ctF15), slF15⟩)
    (cF15 : PySem.W.codeIn K cdF15 "_law_turned_right" = true)
    (kF15 : PySem.W.keepIn K (.ref fF15) = true)
    (aF16 : PySem.W.nsIn K mainGlobals "law" = some (some (.ref fF16)))
    (lF16 : K.lookup fF16 = some ⟨ocF16, odF16, .func (PySem.W.fnOf "law" "law" (defArgs sLaw) (defBody sLaw) (defScope sLaw) .none kVF16 dcF16 pmF16 anF16 cdF16 ctF16), slF16⟩)
    (cF16 : PySem.W.codeIn K cdF16 "law" = true)
    (kF16 : PySem.W.keepIn K (.ref fF16) = true)
    (aM0 : PySem.W.findIn K (.ref R) "__init__" = some (some (.ref fM0)))
    (iM0 : PySem.W.isFn K (.ref fM0) = true)
    (lM0 : K.lookup fM0 = some ⟨ocM0, odM0, .func (PySem.W.fnOf "__init__" "RangeMap.__init__" (defArgs sInitR) (defBody sInitR) (defScope sInitR) .none kVM0 dcM0 pmM0 anM0 cdM0 ctM0), slM0⟩)
    (cM0 : PySem.W.codeIn K cdM0 "RangeMap.__init__" = true)
    (kM0 : PySem.W.keepIn K (.ref fM0) = true)
    (aM1 : PySem.W.findIn K (.ref R) "__eq__" = some (some (.ref fM1)))
    (iM1 : PySem.W.isFn K (.ref fM1) = true)
    (lM1 : K.lookup fM1 = some ⟨ocM1, odM1, .func (PySem.W.fnOf "__eq__" "RangeMap.__eq__" (defArgs sEqR) (defBody sEqR) (defScope sEqR) .none kVM1 dcM1 pmM1 anM1 cdM1 ctM1), slM1⟩)
    (cM1 : PySem.W.codeIn K cdM1 "RangeMap.__eq__" = true)
    (kM1 : PySem.W.keepIn K (.ref fM1) = true)
    (aM2 : PySem.W.findIn K (.ref R) "ranges" = some (some (.ref fM2)))
    (iM2 : PySem.W.isFn K (.ref fM2) = true)
    (lM2 : K.lookup fM2 = some ⟨ocM2, odM2, .func (PySem.W.fnOf "ranges" "RangeMap.ranges" (defArgs sRanges) (defBody sRanges) (defScope sRanges) .none kVM2 dcM2 pmM2 anM2 cdM2 ctM2), slM2⟩)
    (cM2 : PySem.W.codeIn K cdM2 "RangeMap.ranges" = true)
    (kM2 : PySem.W.keepIn K (.ref fM2) = true)
    (aM3 : PySem.W.findIn K (.ref R) "value" = some (some (.ref fM3)))
    (iM3 : PySem.W.isFn K (.ref fM3) = true)
    (lM3 : K.lookup fM3 = some ⟨ocM3, odM3, .func (PySem.W.fnOf "value" "RangeMap.value" (defArgs sValue) (defBody sValue) (defScope sValue) .none kVM3 dcM3 pmM3 anM3 cdM3 ctM3), slM3⟩)
    (cM3 : PySem.W.codeIn K cdM3 "RangeMap.value" = true)
    (kM3 : PySem.W.keepIn K (.ref fM3) = true)
    (aM4 : PySem.W.findIn K (.ref R) "insides" = some (some (.ref fM4)))
    (iM4 : PySem.W.isFn K (.ref fM4) = true)
    (lM4 : K.lookup fM4 = some ⟨ocM4, odM4, .func (PySem.W.fnOf "insides" "RangeMap.insides" (defArgs sIns) (defBody sIns) (defScope sIns) .none kVM4 dcM4 pmM4 anM4 cdM4 ctM4), slM4⟩)
    (cM4 : PySem.W.codeIn K cdM4 "RangeMap.insides" = true)
    (kM4 : PySem.W.keepIn K (.ref fM4) = true)
    (aM5 : PySem.W.findIn K (.ref R) "outsides" = some (some (.ref fM5)))
    (iM5 : PySem.W.isFn K (.ref fM5) = true)
    (lM5 : K.lookup fM5 = some ⟨ocM5, odM5, .func (PySem.W.fnOf "outsides" "RangeMap.outsides" (defArgs sOuts) (defBody sOuts) (defScope sOuts) .none kVM5 dcM5 pmM5 anM5 cdM5 ctM5), slM5⟩)
    (cM5 : PySem.W.codeIn K cdM5 "RangeMap.outsides" = true)
    (kM5 : PySem.W.keepIn K (.ref fM5) = true)
    (aM6 : PySem.W.findIn K (.ref R) "size" = some (some (.ref fM6)))
    (iM6 : PySem.W.isFn K (.ref fM6) = true)
    (lM6 : K.lookup fM6 = some ⟨ocM6, odM6, .func (PySem.W.fnOf "size" "RangeMap.size" (defArgs sSize) (defBody sSize) (defScope sSize) .none kVM6 dcM6 pmM6 anM6 cdM6 ctM6), slM6⟩)
    (cM6 : PySem.W.codeIn K cdM6 "RangeMap.size" = true)
    (kM6 : PySem.W.keepIn K (.ref fM6) = true)
    (aM7 : PySem.W.findIn K (.ref S) "__init__" = some (some (.ref fM7)))
    (iM7 : PySem.W.isFn K (.ref fM7) = true)
    (lM7 : K.lookup fM7 = some ⟨ocM7, odM7, .func (PySem.W.fnOf "__init__" "NumberSet.__init__" (defArgs sInitS) (defBody sInitS) (defScope sInitS) .none kVM7 dcM7 pmM7 anM7 cdM7 ctM7), slM7⟩)
    (cM7 : PySem.W.codeIn K cdM7 "NumberSet.__init__" = true)
    (kM7 : PySem.W.keepIn K (.ref fM7) = true)
    (aM8 : PySem.W.findIn K (.ref S) "__eq__" = some (some (.ref fM8)))
    (iM8 : PySem.W.isFn K (.ref fM8) = true)
    (lM8 : K.lookup fM8 = some ⟨ocM8, odM8, .func (PySem.W.fnOf "__eq__" "NumberSet.__eq__" (defArgs sEqS) (defBody sEqS) (defScope sEqS) .none kVM8 dcM8 pmM8 anM8 cdM8 ctM8), slM8⟩)
    (cM8 : PySem.W.codeIn K cdM8 "NumberSet.__eq__" = true)
    (kM8 : PySem.W.keepIn K (.ref fM8) = true)
    (pgR : PySem.W.plainGet K R Str.empty = true)
    (hdR : PySem.W.hasDictIn K R = true)
    (poR : PySem.W.plainOver K R = true)
    (saR : PySem.W.findIn K (.ref R) "__setattr__" = some (some (.builtin "object.__setattr__")))
    (mkR : PySem.W.makesIn K R = true)
    (kcR : PySem.W.keepIn K (.ref R) = true)
    (nrR : PySem.W.findIn K (.ref R) "rows" = some none)
    (haR : PySem.W.findIn K (.ref R) "__class__" = some (some (.builtin "object.__class__")))
    (hmR : PySem.W.mroIn K R (.type "object") = some true)
    (neR : PySem.W.findIn K (.ref R) "__ne__" = some (some (.builtin "object.__ne__")))
    (pgS : PySem.W.plainGet K S Str.empty = true)
    (hdS : PySem.W.hasDictIn K S = true)
    (poS : PySem.W.plainOver K S = true)
    (saS : PySem.W.findIn K (.ref S) "__setattr__" = some (some (.builtin "object.__setattr__")))
    (mkS : PySem.W.makesIn K S = true)
    (kcS : PySem.W.keepIn K (.ref S) = true)
    (nrS : PySem.W.findIn K (.ref S) "rows" = some none)
    (haS : PySem.W.findIn K (.ref S) "__class__" = some (some (.builtin "object.__class__")))
    (hmS : PySem.W.mroIn K S (.type "object") = some true)
    (neS : PySem.W.findIn K (.ref S) "__ne__" = some (some (.builtin "object.__ne__")))
    (hn : PySem.W.specialIn K (.builtin "object.__class__") "__get__" = some (some (.builtin "getset_descriptor.__get__")))
    (ht : PySem.W.takesIn K (.builtin "object.__class__") = some true)
    (aTop : PySem.W.nsIn K mainGlobals "TOP" = some (some (.int 4294967295 tT)))
    (aMost : PySem.W.nsIn K mainGlobals "MOST_ROWS" = some (some (.int 2000 tM)))
    (z_len : PySem.W.nsIn K mainGlobals "len" = some none)
    (z_sorted : PySem.W.nsIn K mainGlobals "sorted" = some none)
    (z_isinstance : PySem.W.nsIn K mainGlobals "isinstance" = some none)
    (z_int : PySem.W.nsIn K mainGlobals "int" = some none)
    (z_bool : PySem.W.nsIn K mainGlobals "bool" = some none)
    (z_list : PySem.W.nsIn K mainGlobals "list" = some none)
    (z_tuple : PySem.W.nsIn K mainGlobals "tuple" = some none)
    (z_range : PySem.W.nsIn K mainGlobals "range" = some none)
    (z_max : PySem.W.nsIn K mainGlobals "max" = some none)
    (z_sum : PySem.W.nsIn K mainGlobals "sum" = some none)
    : ∃ fd : FuncData, (∀ (s : Shared) (v : Value), BindsTo s fd ⟨[v], []⟩ [("_law_script", v)]) ∧ ∀ base : Heap, K.In base → base.Ns mainGlobals mg → FnOk l.prog w K mg base CX0 9 fa fd ["_law_script"] (spLaw K) := by
  have e := hfa.symm.trans (PySem.W.mg_of X G aF16)
  cases e
  have T : Txt K mg R S := ⟨PySem.W.mg_none_of X G z_len, PySem.W.mg_none_of X G z_sorted, PySem.W.mg_none_of X G z_isinstance, PySem.W.mg_none_of X G z_int, PySem.W.mg_none_of X G z_bool, PySem.W.mg_none_of X G z_list, PySem.W.mg_none_of X G z_tuple, PySem.W.mg_none_of X G z_range, PySem.W.mg_none_of X G z_max, PySem.W.mg_none_of X G z_sum, ⟨_, PySem.W.mg_of X G aTop, ⟨_, rfl⟩⟩, ⟨_, PySem.W.mg_of X G aMost, ⟨_, rfl⟩⟩, PySem.W.mg_of X G aR, PySem.W.mg_of X G aS,
    ⟨⟨pgR, hdR, poR, saR⟩, haR, hn, ht, hmR, kitSelf K R⟩, ⟨⟨pgS, hdS, poS, saS⟩, haS, hn, ht, hmS, kitSelf K S⟩, nrR, nrS⟩
  have FF0 := fun_mk (st := sWhole) lF0 cF0 kF0
  have FF1 := fun_mk (st := sNumber) lF1 cF1 kF1
  have FF2 := fun_mk (st := sRun) lF2 cF2 kF2
  have FF3 := fun_mk (st := sJoined) lF3 cF3 kF3
  have FF4 := fun_mk (st := sSetOf) lF4 cF4 kF4
  have FF5 := fun_mk (st := sRange) lF5 cF5 kF5
  have FF6 := fun_mk (st := sApart) lF6 cF6 kF6
  have FF7 := fun_mk (st := sIsMap) lF7 cF7 kF7
  have FF8 := fun_mk (st := sOrder) lF8 cF8 kF8
  have FF9 := fun_mk (st := sCell) lF9 cF9 kF9
  have FF10 := fun_mk (st := sDigit) lF10 cF10 kF10
  have FF11 := fun_mk (st := sOne) lF11 cF11 kF11
  have FF12 := fun_mk (st := sDraw) lF12 cF12 kF12
  have FF13 := fun_mk (st := sPieces) lF13 cF13 kF13
  have FF14 := fun_mk (st := sLeast) lF14 cF14 kF14
  have FF15 := fun_mk (st := sTurned) lF15 cF15 kF15
  have FF16 := fun_mk (st := sLaw) lF16 cF16 kF16
  have FM0 := fun_mk (st := sInitR) lM0 cM0 kM0
  have FM1 := fun_mk (st := sEqR) lM1 cM1 kM1
  have FM2 := fun_mk (st := sRanges) lM2 cM2 kM2
  have FM3 := fun_mk (st := sValue) lM3 cM3 kM3
  have FM4 := fun_mk (st := sIns) lM4 cM4 kM4
  have FM5 := fun_mk (st := sOuts) lM5 cM5 kM5
  have FM6 := fun_mk (st := sSize) lM6 cM6 kM6
  have FM7 := fun_mk (st := sInitS) lM7 cM7 kM7
  have FM8 := fun_mk (st := sEqS) lM8 cM8 kM8
  have bF0 := FF0.binds (ps := ["value"]) fun _ _ _ _ _ _ us hl => match us, hl with | [_], _ => rfl
  have bF1 := FF1.binds (ps := ["value"]) fun _ _ _ _ _ _ us hl => match us, hl with | [_], _ => rfl
  have bF2 := FF2.binds (ps := ["first", "count"]) fun _ _ _ _ _ _ us hl => match us, hl with | [_, _], _ => rfl
  have bF3 := FF3.binds (ps := ["parts"]) fun _ _ _ _ _ _ us hl => match us, hl with | [_], _ => rfl
  have bF4 := FF4.binds (ps := ["parts"]) fun _ _ _ _ _ _ us hl => match us, hl with | [_], _ => rfl
  have bF5 := FF5.binds (ps := ["value"]) fun _ _ _ _ _ _ us hl => match us, hl with | [_], _ => rfl
  have bF6 := FF6.binds (ps := ["rows"]) fun _ _ _ _ _ _ us hl => match us, hl with | [_], _ => rfl
  have bF7 := FF7.binds (ps := ["value"]) fun _ _ _ _ _ _ us hl => match us, hl with | [_], _ => rfl
  have bF8 := FF8.binds (ps := ["ranges"]) fun _ _ _ _ _ _ us hl => match us, hl with | [_], _ => rfl
  have bF9 := FF9.binds (ps := ["_law_script", "_law_k"]) fun _ _ _ _ _ _ us hl => match us, hl with | [_, _], _ => rfl
  have bF10 := FF10.binds (ps := ["_law_state", "_law_base"]) fun _ _ _ _ _ _ us hl => match us, hl with | [_, _], _ => rfl
  have bF11 := FF11.binds (ps := ["_law_state", "_law_some"]) fun _ _ _ _ _ _ us hl => match us, hl with | [_, _], _ => rfl
  have bF12 := FF12.binds (ps := ["_law_state", "_law_low", "_law_high"]) fun _ _ _ _ _ _ us hl => match us, hl with | [_, _, _], _ => rfl
  have bF13 := FF13.binds (ps := ["_law_state", "_law_ranges_here"]) fun _ _ _ _ _ _ us hl => match us, hl with | [_, _], _ => rfl
  have bF14 := FF14.binds (ps := ["_law_rows_here"]) fun _ _ _ _ _ _ us hl => match us, hl with | [_], _ => rfl
  have bF15 := FF15.binds (ps := ["_law_pieces_here"]) fun _ _ _ _ _ _ us hl => match us, hl with | [_], _ => rfl
  have bF16 := FF16.binds (ps := ["_law_script"]) fun _ _ _ _ _ _ us hl => match us, hl with | [_], _ => rfl
  have bM0 := FM0.binds (ps := ["self", "ranges"]) fun _ _ _ _ _ _ us hl => match us, hl with | [_, _], _ => rfl
  have bM1 := FM1.binds (ps := ["self", "other"]) fun _ _ _ _ _ _ us hl => match us, hl with | [_, _], _ => rfl
  have bM2 := FM2.binds (ps := ["self"]) fun _ _ _ _ _ _ us hl => match us, hl with | [_], _ => rfl
  have bM3 := FM3.binds (ps := ["self", "number"]) fun _ _ _ _ _ _ us hl => match us, hl with | [_, _], _ => rfl
  have bM4 := FM4.binds (ps := ["self"]) fun _ _ _ _ _ _ us hl => match us, hl with | [_], _ => rfl
  have bM5 := FM5.binds (ps := ["self"]) fun _ _ _ _ _ _ us hl => match us, hl with | [_], _ => rfl
  have bM6 := FM6.binds (ps := ["self"]) fun _ _ _ _ _ _ us hl => match us, hl with | [_], _ => rfl
  have bM7 := FM7.binds (ps := ["self", "parts"]) fun _ _ _ _ _ _ us hl => match us, hl with | [_, _], _ => rfl
  have bM8 := FM8.binds (ps := ["self", "other"]) fun _ _ _ _ _ _ us hl => match us, hl with | [_, _], _ => rfl
  have gF0 := PySem.W.mg_of X G aF0
  have gF1 := PySem.W.mg_of X G aF1
  have gF2 := PySem.W.mg_of X G aF2
  have gF3 := PySem.W.mg_of X G aF3
  have gF4 := PySem.W.mg_of X G aF4
  have gF5 := PySem.W.mg_of X G aF5
  have gF6 := PySem.W.mg_of X G aF6
  have gF7 := PySem.W.mg_of X G aF7
  have gF8 := PySem.W.mg_of X G aF8
  have gF9 := PySem.W.mg_of X G aF9
  have gF10 := PySem.W.mg_of X G aF10
  have gF11 := PySem.W.mg_of X G aF11
  have gF12 := PySem.W.mg_of X G aF12
  have gF13 := PySem.W.mg_of X G aF13
  have gF14 := PySem.W.mg_of X G aF14
  have gF15 := PySem.W.mg_of X G aF15
  have gF16 := PySem.W.mg_of X G aF16
  refine ⟨PySem.W.fnOf "law" "law" (defArgs sLaw) (defBody sLaw) (defScope sLaw) .none kVF16 dcF16 pmF16 anF16 cdF16 ctF16, fun s v => .of_eq rfl, fun base _ _ => ?_⟩
  have GF2 : FnOk l.prog w K mg base CX0 3 fF2 _ ["first", "count"] spRun := ok_run FF2 T FF0 bF0 gF0 FF1 bF1 gF1
  have GF5 : FnOk l.prog w K mg base CX0 4 fF5 _ ["value"] spRange := ok_range FF5 T FF2 bF2 gF2 GF2
  have GF6 : FnOk l.prog w K mg base CX0 1 fF6 _ ["rows"] spApart := ok_apart FF6 T
  have GF8 : FnOk l.prog w K mg base CX0 1 fF8 _ ["ranges"] spOrder := ok_order FF8 T
  have GF3 : FnOk l.prog w K mg base CX0 1 fF3 _ ["parts"] spJoined := ok_joined FF3 T
  have GF7 : FnOk l.prog w K mg base CX0 5 fF7 _ ["value"] spIsMap := ok_isMap FF7 T FF5 bF5 gF5 GF5 FF6 bF6 gF6 GF6
  have GM0 : FnOk l.prog w K mg base CX0 6 fM0 _ ["self", "ranges"] (spInitR R) := ok_initR FM0 T FF7 bF7 gF7 GF7 FF8 bF8 gF8 GF8
  have GM7 : FnOk l.prog w K mg base CX0 2 fM7 _ ["self", "parts"] (spInitS S) := ok_initS FM7 T FF3 bF3 gF3 GF3
  have GF4 : FnOk l.prog w K mg base CX0 4 fF4 _ ["parts"] (spSetOf S) := ok_setOf FF4 T FF3 bF3 gF3 GF3 ⟨mkS, aM7, iM7, kcS⟩ FM7 bM7 GM7
  have GM1 : FnOk l.prog w K mg base CX0 1 fM1 _ ["self", "other"] (spEq rI R) := ok_eqR FM1 T
  have GM8 : FnOk l.prog w K mg base CX0 1 fM8 _ ["self", "other"] (spEq pI S) := ok_eqS FM8 T
  have GM2 : FnOk l.prog w K mg base CX0 1 fM2 _ ["self"] (spRanges R) := ok_ranges FM2 T
  have GM3 : FnOk l.prog w K mg base CX0 4 fM3 _ ["self", "number"] (spValue R) := ok_value FM3 T FF2 bF2 gF2 GF2
  have GM4 : FnOk l.prog w K mg base CX0 5 fM4 _ ["self"] (spIns R S insP) := ok_ins FM4 T FF4 bF4 gF4 GF4
  have GM5 : FnOk l.prog w K mg base CX0 5 fM5 _ ["self"] (spIns R S outP) := ok_outs FM5 T FF4 bF4 gF4 GF4
  have GM6 : FnOk l.prog w K mg base CX0 1 fM6 _ ["self"] (spSize R) := ok_size FM6 T
  have GF9 : FnOk l.prog w K mg base CX0 1 fF9 _ ["_law_script", "_law_k"] (spCell K) := ok_cell FF9 T
  have GF10 : FnOk l.prog w K mg base CX0 1 fF10 _ ["_law_state", "_law_base"] spDigit := ok_digit FF10 T
  have GF11 : FnOk l.prog w K mg base CX0 2 fF11 _ ["_law_state", "_law_some"] spOne := ok_one FF11 T FF10 bF10 gF10 GF10
  have GF12 : FnOk l.prog w K mg base CX0 3 fF12 _ ["_law_state", "_law_low", "_law_high"] spDraw := ok_draw FF12 T FF10 bF10 gF10 GF10 FF11 bF11 gF11 GF11
  have GF13 : FnOk l.prog w K mg base CX0 2 fF13 _ ["_law_state", "_law_ranges_here"] spPieces := ok_pieces FF13 T FF10 bF10 gF10 GF10
  have GF14 : FnOk l.prog w K mg base CX0 1 fF14 _ ["_law_rows_here"] spLeast := ok_least FF14 T
  have A : Api l.prog w K mg base R S := ⟨T, ⟨_, _, ⟨mkR, aM0, iM0, kcR⟩, bM0, GM0⟩, ⟨_, _, ⟨aM1, iM1, neR, hmR⟩, bM1, GM1⟩, ⟨_, _, ⟨aM8, iM8, neS, hmS⟩, bM8, GM8⟩,
    ⟨_, _, ⟨aM2, iM2, kM2⟩, bM2, GM2⟩, ⟨_, _, ⟨aM3, iM3, kM3⟩, bM3, GM3⟩, ⟨_, _, ⟨aM4, iM4, kM4⟩, bM4, GM4⟩, ⟨_, _, ⟨aM5, iM5, kM5⟩, bM5, GM5⟩, ⟨_, _, ⟨aM6, iM6, kM6⟩, bM6, GM6⟩,
    ⟨_, _, gF9, kF9, bF9, GF9⟩, ⟨_, _, gF10, kF10, bF10, GF10⟩, ⟨_, _, gF12, kF12, bF12, GF12⟩, ⟨_, _, gF13, kF13, bF13, GF13⟩, ⟨_, _, gF14, kF14, bF14, GF14⟩⟩
  have GF15 : FnOk l.prog w K mg base CX0 8 fF15 _ ["_law_pieces_here"] spTurned := ok_turned FF15 A
  exact ok_law FF16 A ⟨_, _, gF15, kF15, bF15, GF15⟩
theorem walk {l : PySem.W.OpenLaw} {q : Program} {loose : List Str} {XP : (Str → Option Value) → Heap → Prop} {YP : World → Heap → Prop} {d : DefRec} {K : Params → PySem.W.Frag} (hn : l.most = some 63) (hdf : d.params.defaults = [])
    (hY : ∀ (w : World) (h : Heap), YP w h → (K w.params).In h)
    (F : ∀ (w : World) (mg : Str → Option Value) (fa : Addr) (h : Heap), (K w.params).In h → h.Ns mainGlobals mg → mg d.name = some (.ref fa) →
      ∃ fd : FuncData, (∀ (s : Shared) (u : Value), BindsTo s fd ⟨[u], []⟩ [("_law_script", u)]) ∧ ∀ base : Heap, (K w.params).In base → base.Ns mainGlobals mg → FnOk l.prog w (K w.params) mg base CX0 9 fa fd ["_law_script"] (spLaw (K w.params))) :
    PySem.W.WalkO q loose XP YP l.row.toRowW d [] (fun f vs => PySem.call f vs) :=
  L2.walk_of (n := 63) (k := 9) (x := "_law_script") (CX := fun _ => CX0) (sp := fun w => spLaw (K w.params)) hn (by decide) hdf ⟨rfl, by decide, by decide⟩ hY F (fun _ _ a ns hl _ hS => ⟨a, ns, rfl, hS, hl, fun _ => rfl⟩) fun _ _ _ _ _ z => z
end K14

open PySem PySem.W PyProof.Rows in
set_option maxRecDepth 100000 in
set_option maxHeartbeats 0 in
theorem PySem.Challenge.cw_mappedselves_k14_whole_maps_in_pieces_holds : PySem.Challenge.rw_mappedselves_k14_whole_maps_in_pieces.Holds := by
  w_on; o_law; k_head; (case hw => w_witness2)
  k_fill
  refine K14.walk (l := PySem.Challenge.rw_mappedselves_k14_whole_maps_in_pieces) rfl rfl (fun w h Y => PySem.W.kIn_of Y) ?F
  case F =>
    intro w mg fa h KX G hmg
    refine' K14.all_mk KX G hmg ?aR ?aS ?aF0 ?lF0 ?cF0 ?kF0 ?aF1 ?lF1 ?cF1 ?kF1 ?aF2 ?lF2 ?cF2 ?kF2 ?aF3 ?lF3 ?cF3 ?kF3 ?aF4 ?lF4 ?cF4 ?kF4 ?aF5 ?lF5 ?cF5 ?kF5 ?aF6 ?lF6 ?cF6 ?kF6 ?aF7 ?lF7 ?cF7 ?kF7 ?aF8 ?lF8 ?cF8 ?kF8 ?aF9 ?lF9 ?cF9 ?kF9 ?aF10 ?lF10 ?cF10 ?kF10 ?aF11 ?lF11 ?cF11 ?kF11 ?aF12 ?lF12 ?cF12 ?kF12 ?aF13 ?lF13 ?cF13 ?kF13 ?aF14 ?lF14 ?cF14 ?kF14 ?aF15 ?lF15 ?cF15 ?kF15 ?aF16 ?lF16 ?cF16 ?kF16 ?aM0 ?iM0 ?lM0 ?cM0 ?kM0 ?aM1 ?iM1 ?lM1 ?cM1 ?kM1 ?aM2 ?iM2 ?lM2 ?cM2 ?kM2 ?aM3 ?iM3 ?lM3 ?cM3 ?kM3 ?aM4 ?iM4 ?lM4 ?cM4 ?kM4 ?aM5 ?iM5 ?lM5 ?cM5 ?kM5 ?aM6 ?iM6 ?lM6 ?cM6 ?kM6 ?aM7 ?iM7 ?lM7 ?cM7 ?kM7 ?aM8 ?iM8 ?lM8 ?cM8 ?kM8 ?pgR ?hdR ?poR ?saR ?mkR ?kcR ?nrR ?haR ?hmR ?neR ?pgS ?hdS ?poS ?saS ?mkS ?kcS ?nrS ?haS ?hmS ?neS ?hn ?ht ?aTop ?aMost ?z_len ?z_sorted ?z_isinstance ?z_int ?z_bool ?z_list ?z_tuple ?z_range ?z_max ?z_sum
    (case aR => k_is)
    (case aS => k_is)
    (case aF0 => k_is)
    (case lF0 => k_is)
    (case cF0 => k_is)
    (case kF0 => k_is)
    (case aF1 => k_is)
    (case lF1 => k_is)
    (case cF1 => k_is)
    (case kF1 => k_is)
    (case aF2 => k_is)
    (case lF2 => k_is)
    (case cF2 => k_is)
    (case kF2 => k_is)
    (case aF3 => k_is)
    (case lF3 => k_is)
    (case cF3 => k_is)
    (case kF3 => k_is)
    (case aF4 => k_is)
    (case lF4 => k_is)
    (case cF4 => k_is)
    (case kF4 => k_is)
    (case aF5 => k_is)
    (case lF5 => k_is)
    (case cF5 => k_is)
    (case kF5 => k_is)
    (case aF6 => k_is)
    (case lF6 => k_is)
    (case cF6 => k_is)
    (case kF6 => k_is)
    (case aF7 => k_is)
    (case lF7 => k_is)
    (case cF7 => k_is)
    (case kF7 => k_is)
    (case aF8 => k_is)
    (case lF8 => k_is)
    (case cF8 => k_is)
    (case kF8 => k_is)
    (case aF9 => k_is)
    (case lF9 => k_is)
    (case cF9 => k_is)
    (case kF9 => k_is)
    (case aF10 => k_is)
    (case lF10 => k_is)
    (case cF10 => k_is)
    (case kF10 => k_is)
    (case aF11 => k_is)
    (case lF11 => k_is)
    (case cF11 => k_is)
    (case kF11 => k_is)
    (case aF12 => k_is)
    (case lF12 => k_is)
    (case cF12 => k_is)
    (case kF12 => k_is)
    (case aF13 => k_is)
    (case lF13 => k_is)
    (case cF13 => k_is)
    (case kF13 => k_is)
    (case aF14 => k_is)
    (case lF14 => k_is)
    (case cF14 => k_is)
    (case kF14 => k_is)
    (case aF15 => k_is)
    (case lF15 => k_is)
    (case cF15 => k_is)
    (case kF15 => k_is)
    (case aF16 => k_is)
    (case lF16 => k_is)
    (case cF16 => k_is)
    (case kF16 => k_is)
    (case aM0 => k_is)
    (case iM0 => k_is)
    (case lM0 => k_is)
    (case cM0 => k_is)
    (case kM0 => k_is)
    (case aM1 => k_is)
    (case iM1 => k_is)
    (case lM1 => k_is)
    (case cM1 => k_is)
    (case kM1 => k_is)
    (case aM2 => k_is)
    (case iM2 => k_is)
    (case lM2 => k_is)
    (case cM2 => k_is)
    (case kM2 => k_is)
    (case aM3 => k_is)
    (case iM3 => k_is)
    (case lM3 => k_is)
    (case cM3 => k_is)
    (case kM3 => k_is)
    (case aM4 => k_is)
    (case iM4 => k_is)
    (case lM4 => k_is)
    (case cM4 => k_is)
    (case kM4 => k_is)
    (case aM5 => k_is)
    (case iM5 => k_is)
    (case lM5 => k_is)
    (case cM5 => k_is)
    (case kM5 => k_is)
    (case aM6 => k_is)
    (case iM6 => k_is)
    (case lM6 => k_is)
    (case cM6 => k_is)
    (case kM6 => k_is)
    (case aM7 => k_is)
    (case iM7 => k_is)
    (case lM7 => k_is)
    (case cM7 => k_is)
    (case kM7 => k_is)
    (case aM8 => k_is)
    (case iM8 => k_is)
    (case lM8 => k_is)
    (case cM8 => k_is)
    (case kM8 => k_is)
    (case pgR => k_is)
    (case hdR => k_is)
    (case poR => k_is)
    (case saR => k_is)
    (case mkR => k_is)
    (case kcR => k_is)
    (case nrR => k_is)
    (case haR => k_is)
    (case hmR => k_is)
    (case neR => k_is)
    (case pgS => k_is)
    (case hdS => k_is)
    (case poS => k_is)
    (case saS => k_is)
    (case mkS => k_is)
    (case kcS => k_is)
    (case nrS => k_is)
    (case haS => k_is)
    (case hmS => k_is)
    (case neS => k_is)
    (case hn => k_is)
    (case ht => k_is)
    (case aTop => k_is)
    (case aMost => k_is)
    (case z_len => k_is)
    (case z_sorted => k_is)
    (case z_isinstance => k_is)
    (case z_int => k_is)
    (case z_bool => k_is)
    (case z_list => k_is)
    (case z_tuple => k_is)
    (case z_range => k_is)
    (case z_max => k_is)
    (case z_sum => k_is)
