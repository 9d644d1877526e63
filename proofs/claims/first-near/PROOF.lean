import PyProof.Rows.All
import Wide.All
import OpenK.AllK
import Wide.FinOn
import HandS.ForMost
import HandS.Evl
import HandS.IsInst
import HandS.Style
import HandS.Exc
import HandS.Flow
import PyProof.DictCompW
import PyProof.TupleOfSeq
import KE.KDictCopyH
import KE.KDictWalk
import KE.KDictSum
import KE.KDictPairs
import KE.SortData
import KE.GoesMore
import PyProof.EnumMake
import PyProof.Draws
import HandS.Strs
import HandS.SetFor
import HandS.DictComp
import PySem.Challenge.RW_fateboards_k06_whole_first_near
import HandS.TupLe
import HandS.Wide
set_option Elab.async false
set_option linter.all false
set_option maxRecDepth 100000
set_option maxHeartbeats 4000000
/-! Plain mathematics: boards of living cells, a step, pieces and their first nearness. No program in sight. -/
namespace Fb
abbrev P2 := Int × Int
abbrev Board := List P2

def ltP (a b : P2) : Prop := a.1 < b.1 ∨ (a.1 = b.1 ∧ a.2 < b.2)
instance (a b : P2) : Decidable (ltP a b) := inferInstanceAs (Decidable (_ ∨ _))
theorem ltP_irrefl (a : P2) : ¬ ltP a a := by
  unfold ltP; omega
theorem ltP_trans {a b c : P2} (h : ltP a b) (k : ltP b c) : ltP a c := by
  unfold ltP at *; omega
theorem ltP_total (a b : P2) : ltP a b ∨ a = b ∨ ltP b a := by
  rcases a with ⟨x, y⟩
  rcases b with ⟨u, v⟩
  have h : ((x, y) : P2) = (u, v) ↔ x = u ∧ y = v := Prod.mk.injEq x y u v ▸ Iff.rfl
  rw [h]
  unfold ltP
  simp only
  omega
def Srt (b : Board) : Prop := b.Pairwise ltP
instance (b : Board) : Decidable (Srt b) := inferInstanceAs (Decidable (b.Pairwise ltP))

theorem srt_head {p q : P2} {r : Board} (h : Srt (p :: r)) (m : q ∈ r) : ltP p q := (List.pairwise_cons.mp h).1 q m
theorem srt_tail {p : P2} {r : Board} (h : Srt (p :: r)) : Srt r := (List.pairwise_cons.mp h).2
theorem srt_nodup : ∀ {b : Board}, Srt b → b.Nodup
  | [], _ => List.nodup_nil
  | p :: r, h => List.nodup_cons.mpr ⟨fun m => ltP_irrefl p (srt_head h m), srt_nodup (srt_tail h)⟩
theorem srt_ext : ∀ {a b : Board}, Srt a → Srt b → (∀ p, p ∈ a ↔ p ∈ b) → a = b
  | [], [], _, _, _ => rfl
  | [], q :: s, _, _, h => nomatch (h q).mpr (List.mem_cons_self ..)
  | p :: r, [], _, _, h => nomatch (h p).mp (List.mem_cons_self ..)
  | p :: r, q :: s, ha, hb, h => by
    have e : p = q := by
      rcases List.mem_cons.mp ((h p).mp (List.mem_cons_self ..)) with e | m
      · exact e
      · rcases List.mem_cons.mp ((h q).mpr (List.mem_cons_self ..)) with e | n
        · exact e.symm
        · exact absurd (ltP_trans (srt_head ha n) (srt_head hb m)) (ltP_irrefl p)
    subst e
    rw [srt_ext (srt_tail ha) (srt_tail hb) fun x => ?_]
    constructor
    · intro m
      rcases List.mem_cons.mp ((h x).mp (List.mem_cons_of_mem _ m)) with e | n
      · subst e; exact absurd (srt_head ha m) (ltP_irrefl x)
      · exact n
    · intro m
      rcases List.mem_cons.mp ((h x).mpr (List.mem_cons_of_mem _ m)) with e | n
      · subst e; exact absurd (srt_head hb m) (ltP_irrefl x)
      · exact n

def ins (p : P2) : Board → Board
  | [] => [p]
  | q :: r => if ltP p q then p :: q :: r else if p = q then q :: r else q :: ins p r
theorem mem_ins {p x : P2} : ∀ {b : Board}, x ∈ ins p b ↔ x = p ∨ x ∈ b
  | [] => by simp [ins]
  | q :: r => by
    unfold ins
    split
    · simp
    · split
      · rename_i e
        subst e
        simp
      · rw [List.mem_cons, mem_ins (b := r), List.mem_cons]
        constructor
        · rintro (h | h | h)
          · exact .inr (.inl h)
          · exact .inl h
          · exact .inr (.inr h)
        · rintro (h | h | h)
          · exact .inr (.inl h)
          · exact .inl h
          · exact .inr (.inr h)
theorem srt_ins {p : P2} : ∀ {b : Board}, Srt b → Srt (ins p b)
  | [], _ => List.pairwise_singleton _ _
  | q :: r, h => by
    unfold ins
    split
    · rename_i l
      refine List.pairwise_cons.mpr ⟨fun x m => ?_, h⟩
      rcases List.mem_cons.mp m with e | n
      · subst e; exact l
      · exact ltP_trans l (srt_head h n)
    · split
      · exact h
      · rename_i l e
        have lq : ltP q p := (ltP_total p q).elim (fun z => absurd z l) fun z => z.elim (fun z => absurd z e) id
        refine List.pairwise_cons.mpr ⟨fun x m => ?_, srt_ins (srt_tail h)⟩
        rcases mem_ins.mp m with e | n
        · subst e; exact lq
        · exact srt_head h n
def sortU (l : Board) : Board := l.foldr ins []
theorem mem_sortU {x : P2} : ∀ {l : Board}, x ∈ sortU l ↔ x ∈ l
  | [] => Iff.rfl
  | p :: r => by
    show x ∈ ins p (sortU r) ↔ _
    rw [mem_ins, mem_sortU (l := r), List.mem_cons]
theorem srt_sortU : ∀ (l : Board), Srt (sortU l)
  | [] => List.Pairwise.nil
  | p :: r => srt_ins (srt_sortU r)

/-! ### neighbours, a step -/
def plus (p o : P2) : P2 := (p.1 + o.1, p.2 + o.2)
def offs : List P2 := [(-1, -1), (-1, 0), (-1, 1), (0, -1), (0, 1), (1, -1), (1, 0), (1, 1)]
def around (p : P2) : List P2 := offs.map (plus p)
def nb (b : Board) (p : P2) : Nat := (around p).countP fun q => decide (q ∈ b)
def Nx (b : Board) (p : P2) : Bool := if p ∈ b then nb b p == 2 || nb b p == 3 else nb b p == 3
def stepM (b : Board) : Board := sortU ((b ++ b.flatMap around).filter (Nx b))

theorem mem_around {p q : P2} : q ∈ around p ↔ ∃ o ∈ offs, q = plus p o := by
  unfold around
  rw [List.mem_map]
  constructor
  · rintro ⟨o, h, e⟩; exact ⟨o, h, e.symm⟩
  · rintro ⟨o, h, e⟩; exact ⟨o, h, e.symm⟩
theorem around_iff {p q : P2} : q ∈ around p ↔ (-1 ≤ q.1 - p.1 ∧ q.1 - p.1 ≤ 1 ∧ -1 ≤ q.2 - p.2 ∧ q.2 - p.2 ≤ 1 ∧ ¬ (q.1 = p.1 ∧ q.2 = p.2)) := by
  rcases p with ⟨x, y⟩
  rcases q with ⟨u, v⟩
  simp only [around, offs, plus, List.map_cons, List.map_nil, List.mem_cons, List.not_mem_nil, or_false, Prod.mk.injEq]
  omega
theorem around_symm {p q : P2} : q ∈ around p ↔ p ∈ around q := by
  rw [around_iff, around_iff]; omega
theorem around_nodup (p : P2) : (around p).Nodup := by
  rcases p with ⟨x, y⟩
  simp only [around, offs, plus, List.map_cons, List.map_nil, List.nodup_cons, List.mem_cons, List.not_mem_nil, or_false, Prod.mk.injEq, not_false_eq_true, List.nodup_nil, and_true]
  omega
theorem around_self (p : P2) : p ∉ around p := by
  rw [around_iff]; omega

theorem countP_pos_mem {b : Board} {p : P2} (h : 0 < nb b p) : ∃ q ∈ b, p ∈ around q := by
  obtain ⟨q, m, hq⟩ := List.countP_pos_iff.mp h
  exact ⟨q, of_decide_eq_true hq, around_symm.mp m⟩
theorem mem_stepM {b : Board} {p : P2} : p ∈ stepM b ↔ Nx b p = true := by
  unfold stepM
  rw [mem_sortU, List.mem_filter]
  refine ⟨fun h => h.2, fun h => ⟨?_, h⟩⟩
  rw [List.mem_append]
  by_cases m : p ∈ b
  · exact .inl m
  · refine .inr ?_
    have h3 : nb b p = 3 := by
      unfold Nx at h
      rw [if_neg m] at h
      simpa using h
    obtain ⟨q, hq, ha⟩ := countP_pos_mem (b := b) (p := p) (by omega)
    exact List.mem_flatMap.mpr ⟨q, hq, ha⟩
theorem srt_stepM (b : Board) : Srt (stepM b) := srt_sortU _

/-- a list with these cells, in order, is the next board -/
theorem stepM_of {b l : Board} (hs : Srt l) (h : ∀ p, p ∈ l ↔ Nx b p = true) : l = stepM b :=
  srt_ext hs (srt_stepM b) fun p => (h p).trans mem_stepM.symm

/-! ### the count by what each cell gives -/
theorem count_map_one {p c : P2} : (around c).count p = if p ∈ around c then 1 else 0 := by
  split
  · rename_i h
    exact Nat.le_antisymm (List.nodup_iff_count.mp (around_nodup c) p) (List.count_pos_iff.mpr h)
  · rename_i h
    exact List.count_eq_zero_of_not_mem h
theorem countP_split {c : P2} {b : Board} (hc : c ∉ b) : ∀ l : List P2, l.countP (fun q => decide (q ∈ c :: b)) = l.count c + l.countP (fun q => decide (q ∈ b))
  | [] => rfl
  | q :: r => by
    rw [List.countP_cons, List.countP_cons, List.count_cons, countP_split hc r]
    by_cases e : q = c
    · subst e
      simp [hc]
      omega
    · by_cases m : q ∈ b
      · simp [e, m]
        omega
      · simp [e, m]
theorem count_given : ∀ {b : Board} {p : P2}, b.Nodup → (b.flatMap around).count p = nb b p
  | [], p, _ => by
    show 0 = (around p).countP fun q => decide (q ∈ ([] : Board))
    symm
    rw [List.countP_eq_zero]
    intro q _
    simp
  | c :: r, p, h => by
    obtain ⟨hc, hr⟩ := List.nodup_cons.mp h
    rw [List.flatMap_cons, List.count_append, count_given hr, count_map_one]
    unfold nb
    rw [countP_split hc]
    have e : (if p ∈ around c then 1 else 0) = (around p).count c := by
      rw [count_map_one]
      by_cases m : p ∈ around c
      · rw [if_pos m, if_pos (around_symm.mp m)]
      · rw [if_neg m, if_neg fun z => m (around_symm.mp z)]
    rw [e]

/-! ### moved boards -/
def mv (d : P2) (b : Board) : Board := b.map fun p => plus p d
theorem mem_mv {d p : P2} {b : Board} : p ∈ mv d b ↔ (p.1 - d.1, p.2 - d.2) ∈ b := by
  unfold mv
  rw [List.mem_map]
  constructor
  · rintro ⟨q, m, rfl⟩
    have e : ((plus q d).1 - d.1, (plus q d).2 - d.2) = q := by
      rcases q with ⟨x, y⟩
      simp only [plus, Prod.mk.injEq]
      omega
    rw [e]; exact m
  · intro m
    refine ⟨_, m, ?_⟩
    rcases p with ⟨x, y⟩
    simp only [plus, Prod.mk.injEq]
    omega
theorem plus_mem_mv {d p : P2} {b : Board} : plus p d ∈ mv d b ↔ p ∈ b := by
  rw [mem_mv]
  have e : ((plus p d).1 - d.1, (plus p d).2 - d.2) = p := by
    rcases p with ⟨x, y⟩
    simp only [plus, Prod.mk.injEq]
    omega
  rw [e]
theorem mv_length (d : P2) (b : Board) : (mv d b).length = b.length := List.length_map ..
theorem mv_zero (b : Board) : mv (0, 0) b = b := by
  unfold mv
  have e : (fun p : P2 => plus p (0, 0)) = id := by
    funext p
    rcases p with ⟨x, y⟩
    simp [plus]
  rw [e, List.map_id]
theorem mv_mv (d e : P2) (b : Board) : mv d (mv e b) = mv (plus e d) b := by
  unfold mv
  rw [List.map_map]
  congr 1
  funext p
  simp only [Function.comp, plus, Prod.mk.injEq]
  omega
theorem srt_mv {d : P2} {b : Board} (h : Srt b) : Srt (mv d b) := by
  unfold Srt mv
  rw [List.pairwise_map]
  refine List.Pairwise.imp ?_ h
  intro p q l
  unfold ltP plus at *
  omega
theorem around_mv {d p : P2} : around (plus p d) = (around p).map fun q => plus q d := by
  unfold around
  rw [List.map_map]
  congr 1
  funext o
  simp only [Function.comp, plus, Prod.mk.injEq]
  omega
theorem nb_mv {d p : P2} {b : Board} : nb (mv d b) (plus p d) = nb b p := by
  unfold nb
  rw [around_mv, List.countP_map]
  congr 1
  funext q
  simp only [Function.comp, plus_mem_mv]
theorem Nx_mv {d p : P2} {b : Board} : Nx (mv d b) (plus p d) = Nx b p := by
  unfold Nx
  rw [nb_mv]
  by_cases m : p ∈ b
  · rw [if_pos m, if_pos (plus_mem_mv.mpr m)]
  · rw [if_neg m, if_neg fun z => m (plus_mem_mv.mp z)]
theorem plus_back (d p : P2) : plus (p.1 - d.1, p.2 - d.2) d = p := by
  rcases p with ⟨x, y⟩
  simp only [plus, Prod.mk.injEq]
  omega
theorem stepM_mv (d : P2) (b : Board) : stepM (mv d b) = mv d (stepM b) := by
  symm
  refine stepM_of (srt_mv (srt_stepM b)) fun p => ?_
  rw [mem_mv, mem_stepM]
  have e := Nx_mv (d := d) (p := (p.1 - d.1, p.2 - d.2)) (b := b)
  rw [plus_back] at e
  rw [e]

def stepN : Nat → Board → Board
  | 0, b => b
  | n + 1, b => stepM (stepN n b)
theorem stepN_mv (d : P2) : ∀ (n : Nat) (b : Board), stepN n (mv d b) = mv d (stepN n b)
  | 0, _ => rfl
  | n + 1, b => by
    show stepM (stepN n (mv d b)) = mv d (stepM (stepN n b))
    rw [stepN_mv d n b, stepM_mv]
theorem stepN_add : ∀ (n m : Nat) (b : Board), stepN (n + m) b = stepN n (stepN m b)
  | 0, m, b => by rw [Nat.zero_add]; rfl
  | n + 1, m, b => by
    rw [Nat.succ_add]
    show stepM (stepN (n + m) b) = stepM (stepN n (stepN m b))
    rw [stepN_add n m b]
theorem srt_stepN {b : Board} (h : Srt b) : ∀ n, Srt (stepN n b)
  | 0 => h
  | n + 1 => srt_stepM _

/-! ### pieces -/
structure Pc where
  b : Board
  per : Nat
  m : P2
def sc (k : Nat) (m : P2) : P2 := ((k : Int) * m.1, (k : Int) * m.2)
def pos (P : Pc) (g : Nat) : Board := mv (sc (g / P.per) P.m) (stepN (g % P.per) P.b)
theorem sc_zero (m : P2) : sc 0 m = (0, 0) := by simp [sc]
theorem sc_add (j k : Nat) (m : P2) : sc (j + k) m = plus (sc j m) (sc k m) := by
  simp only [sc, plus, Prod.mk.injEq]
  rw [Int.natCast_add, Int.add_mul, Int.add_mul]
  exact ⟨rfl, rfl⟩
theorem plus_comm (a b : P2) : plus a b = plus b a := by
  simp only [plus, Prod.mk.injEq]; omega
theorem plus_assoc (a b c : P2) : plus (plus a b) c = plus a (plus b c) := by
  simp only [plus, Prod.mk.injEq]; omega
def Rounds (P : Pc) : Prop := 0 < P.per ∧ stepN P.per P.b = mv P.m P.b
theorem pos_small {P : Pc} {g : Nat} (h : g < P.per) : pos P g = stepN g P.b := by
  unfold pos
  rw [Nat.mod_eq_of_lt h, Nat.div_eq_of_lt h, sc_zero, mv_zero]
theorem pos_turn {P : Pc} (h : 0 < P.per) (g k : Nat) : pos P (g + k * P.per) = mv (sc k P.m) (pos P g) := by
  unfold pos
  rw [Nat.add_mul_mod_self_right, Nat.add_mul_div_right _ _ h, mv_mv, sc_add]
/-- a piece is where its steps lead -/
theorem pos_eq {P : Pc} (h : Rounds P) (g : Nat) : pos P g = stepN g P.b := by
  have key : ∀ k r : Nat, stepN (r + k * P.per) P.b = mv (sc k P.m) (stepN r P.b) := by
    intro k
    induction k with
    | zero =>
      intro r
      rw [Nat.zero_mul, Nat.add_zero, sc_zero, mv_zero]
    | succ k ih =>
      intro r
      have e : r + (k + 1) * P.per = (r + k * P.per) + P.per := by rw [Nat.succ_mul]; omega
      rw [e, stepN_add, h.2, stepN_mv, ih r, mv_mv, sc_add]
      congr 1
      have e1 : sc 1 P.m = P.m := by simp [sc]
      rw [e1]
  unfold pos
  rw [← key, Nat.mul_comm, Nat.mod_add_div]
theorem pos_turns {P : Pc} (h : 0 < P.per) {T : Nat} (hd : P.per ∣ T) (r k : Nat) : pos P (r + k * T) = mv (sc (k * (T / P.per)) P.m) (pos P r) := by
  obtain ⟨q, rfl⟩ := hd
  have e : k * (P.per * q) = (k * q) * P.per := by rw [Nat.mul_comm P.per q, Nat.mul_assoc]
  rw [Nat.mul_div_cancel_left q h, e, pos_turn h]

/-! ### nearness -/
def In2 (x : Int) : Prop := -2 ≤ x ∧ x ≤ 2
instance (x : Int) : Decidable (In2 x) := inferInstanceAs (Decidable (_ ∧ _))
def Nr (a c : P2) : Prop := In2 (a.1 - c.1) ∧ In2 (a.2 - c.2)
instance (a c : P2) : Decidable (Nr a c) := inferInstanceAs (Decidable (_ ∧ _))
def Near (A C : Board) : Prop := ∃ a ∈ A, ∃ c ∈ C, Nr a c
instance (A C : Board) : Decidable (Near A C) := inferInstanceAs (Decidable (∃ a ∈ A, ∃ c ∈ C, Nr a c))
theorem Near.symm {A C : Board} (h : Near A C) : Near C A := by
  obtain ⟨a, ha, c, hc, n⟩ := h
  refine ⟨c, hc, a, ha, ?_⟩
  unfold Nr In2 at *
  omega
def NearAt (P Q : Pc) (g : Nat) : Prop := Near (pos P g) (pos Q g)
def IsFirst (N : Nat → Prop) : Option Int → Prop
  | none => ∀ k, ¬ N k
  | some z => ∃ n : Nat, z = (n : Int) ∧ N n ∧ ∀ k, N k → n ≤ k
theorem IsFirst.uniq {N : Nat → Prop} : ∀ {r r' : Option Int}, IsFirst N r → IsFirst N r' → r = r'
  | none, none, _, _ => rfl
  | none, some _, h, ⟨n, _, k, _⟩ => absurd k (h n)
  | some _, none, ⟨n, _, k, _⟩, h => absurd k (h n)
  | some _, some _, ⟨n, e, a, b⟩, ⟨m, f, c, d⟩ => by
    have := b m c
    have := d n a
    rw [e, f]
    congr 2
    omega
theorem IsFirst.iff {N M : Nat → Prop} (h : ∀ k, N k ↔ M k) : ∀ {r : Option Int}, IsFirst N r → IsFirst M r
  | none, f => fun k z => f k ((h k).mpr z)
  | some _, ⟨n, e, a, b⟩ => ⟨n, e, (h n).mp a, fun k z => b k ((h k).mpr z)⟩
theorem nearAt_symm {P Q : Pc} {g : Nat} : NearAt P Q g ↔ NearAt Q P g := ⟨Near.symm, Near.symm⟩

/-- the better one of the best so far and a first one's generation -/
def better (rest T : Int) (r w : Option Int) : Option Int := match w with
  | none => r
  | some k => match r with
    | none => some (rest + k * T)
    | some f => if rest + k * T < f then some (rest + k * T) else some f
theorem IsFirst.join {E W F : Nat → Prop} {r w : Option Int} {rest T : Nat} (h : IsFirst E r) (hw : IsFirst W w) (hT : 0 < T) (hF : ∀ g, F g ↔ E g ∨ ∃ k, g = rest + k * T ∧ W k) : IsFirst F (better rest T r w) := by
  cases w with
  | none =>
    refine h.iff fun g => ?_
    rw [hF]
    refine ⟨.inl, fun z => z.elim id ?_⟩
    rintro ⟨k, _, wk⟩
    exact absurd wk (hw k)
  | some k =>
    obtain ⟨n, rfl, wn, least⟩ := hw
    have lo : ∀ j, W j → rest + n * T ≤ rest + j * T := fun j wj => Nat.add_le_add_left (Nat.mul_le_mul_right T (least j wj)) rest
    have ce : ((rest : Int) + (n : Int) * (T : Int)) = ((rest + n * T : Nat) : Int) := by
      rw [Int.natCast_add, Int.natCast_mul]
    cases r with
    | none =>
      refine ⟨rest + n * T, ?_, (hF _).mpr (.inr ⟨n, rfl, wn⟩), fun g hg => ?_⟩
      · show (rest : Int) + n * T = _
        rw [ce]
      · rcases (hF g).mp hg with z | ⟨j, rfl, wj⟩
        · exact absurd z (h g)
        · exact lo j wj
    | some f =>
      obtain ⟨m, rfl, em, lm⟩ := h
      show IsFirst F (if (rest : Int) + n * T < m then some ((rest : Int) + n * T) else some (m : Int))
      rw [ce]
      split
      · rename_i l
        refine ⟨rest + n * T, rfl, (hF _).mpr (.inr ⟨n, rfl, wn⟩), fun g hg => ?_⟩
        rcases (hF g).mp hg with z | ⟨j, rfl, wj⟩
        · have := lm g z
          omega
        · exact lo j wj
      · rename_i l
        refine ⟨m, rfl, (hF _).mpr (.inl em), fun g hg => ?_⟩
        rcases (hF g).mp hg with z | ⟨j, rfl, wj⟩
        · exact lm g z
        · have := lo j wj
          omega

/-! ### first_in -/
def Win (s m : Int) (k : Nat) : Prop := In2 (s + (k : Int) * m)
/-- what times_within tells -/
def Tells (s m : Int) : Option (Int × Option Int) → Prop
  | none => ∀ k, ¬ Win s m k
  | some (f, none) => 0 ≤ f ∧ ∀ k : Nat, Win s m k ↔ f ≤ k
  | some (f, some l) => 0 ≤ f ∧ f ≤ l ∧ ∀ k : Nat, Win s m k ↔ (f ≤ k ∧ (k : Int) ≤ l)
def times (s m : Int) : Option (Int × Option Int) :=
  if m = 0 then (if -2 ≤ s ∧ s ≤ 2 then some (0, none) else none)
  else
    let s' := if m < 0 then -s else s
    let m' := if m < 0 then -m else m
    let f := if -((s' + 2) / m') > 0 then -((s' + 2) / m') else 0
    let l := (2 - s') / m'
    if f ≤ l then some (f, some l) else none
theorem win_pos {s m : Int} (hm : 0 < m) (k : Nat) : Win s m k ↔ -((s + 2) / m) ≤ k ∧ (k : Int) ≤ (2 - s) / m := by
  unfold Win In2
  rw [Int.le_ediv_iff_mul_le hm]
  have h1 : -((s + 2) / m) ≤ (k : Int) ↔ -2 ≤ s + (k : Int) * m := by
    have e : -((s + 2) / m) ≤ (k : Int) ↔ -(k : Int) ≤ (s + 2) / m := by omega
    rw [e, Int.le_ediv_iff_mul_le hm, Int.neg_mul]
    omega
  rw [h1]
  omega
theorem tells_times (s m : Int) : Tells s m (times s m) := by
  unfold times
  split
  · rename_i h
    subst h
    split
    · rename_i h
      refine ⟨Int.le_refl 0, fun k => ?_⟩
      unfold Win In2
      rw [Int.mul_zero]
      omega
    · rename_i h
      intro k
      unfold Win In2
      rw [Int.mul_zero]
      omega
  · rename_i h0
    have key : ∀ s' m' : Int, 0 < m' → (∀ k, Win s m k ↔ Win s' m' k) → Tells s m (if (if -((s' + 2) / m') > 0 then -((s' + 2) / m') else 0) ≤ (2 - s') / m' then some ((if -((s' + 2) / m') > 0 then -((s' + 2) / m') else 0), some ((2 - s') / m')) else none) := by
      intro s' m' hm hw
      generalize ha : -((s' + 2) / m') = a
      generalize hl : (2 - s') / m' = l
      have hk : ∀ k, Win s m k ↔ a ≤ k ∧ (k : Int) ≤ l := fun k => by rw [hw, win_pos hm, ha, hl]
      generalize hb : (if a > 0 then a else 0) = b
      have hb2 : 0 ≤ b ∧ ∀ k : Nat, b ≤ (k : Int) ↔ a ≤ (k : Int) := by
        rw [← hb]
        refine ⟨by split <;> omega, fun k => by split <;> omega⟩
      by_cases hle : b ≤ l
      · rw [if_pos hle]
        refine ⟨hb2.1, hle, fun k => ?_⟩
        rw [hk, hb2.2]
      · rw [if_neg hle]
        intro k z
        have h1 := (hk k).mp z
        have h2 := (hb2.2 k).mpr h1.1
        omega
    show Tells s m (if (if -(((if m < 0 then -s else s) + 2) / (if m < 0 then -m else m)) > 0 then -(((if m < 0 then -s else s) + 2) / (if m < 0 then -m else m)) else 0) ≤ (2 - (if m < 0 then -s else s)) / (if m < 0 then -m else m) then some ((if -(((if m < 0 then -s else s) + 2) / (if m < 0 then -m else m)) > 0 then -(((if m < 0 then -s else s) + 2) / (if m < 0 then -m else m)) else 0), some ((2 - (if m < 0 then -s else s)) / (if m < 0 then -m else m))) else none)
    refine key _ _ (by split <;> omega) fun k => ?_
    unfold Win In2
    split
    · rw [Int.mul_neg]
      omega
    · exact Iff.rfl
/-- what first_in makes of both -/
def firstOf : Option (Int × Option Int) → Option (Int × Option Int) → Option Int
  | some (f, a), some (g, c) =>
    let h := if g > f then g else f
    match a, c with
    | none, none => some h
    | some l, none => if h ≤ l then some h else none
    | none, some l => if h ≤ l then some h else none
    | some l, some l' => if h ≤ (if l' < l then l' else l) then some h else none
  | _, _ => none
theorem first_of {s m t n : Int} {a c : Option (Int × Option Int)} (ha : Tells s m a) (hc : Tells t n c) : IsFirst (fun k => Win s m k ∧ Win t n k) (firstOf a c) := by
  match a, c with
  | none, _ =>
    exact fun k z => ha k z.1
  | some (f, none), none => exact fun k z => hc k z.2
  | some (f, some _), none => exact fun k z => hc k z.2
  | some (f, a), some (g, c) =>
    have fin : ∀ (h : Int) (up : Int → Prop) [DecidablePred up], (∀ i j, up j → i ≤ j → up i) → 0 ≤ h → (∀ k : Nat, (Win s m k ∧ Win t n k) ↔ (h ≤ k ∧ up k)) → IsFirst (fun k => Win s m k ∧ Win t n k) (if up h then some h else none) := by
      intro h up _ mono h0 hk
      split
      · rename_i u
        refine ⟨h.toNat, by omega, (hk _).mpr ⟨by omega, mono _ h u (by omega)⟩, fun k z => ?_⟩
        have := ((hk k).mp z).1
        omega
      · rename_i u
        intro k z
        have w := (hk k).mp z
        exact u (mono _ _ w.2 w.1)
    have mx : ∀ k : Int, ((if g > f then g else f) ≤ k ↔ f ≤ k ∧ g ≤ k) := fun k => by split <;> omega
    have m0 : 0 ≤ f → 0 ≤ (if g > f then g else f) := fun z => by split <;> omega
    cases a with
    | none => cases c with
      | none =>
        have z := fin (if g > f then g else f) (fun _ => True) (fun _ _ _ _ => trivial) (m0 ha.1) fun k => by rw [ha.2 k, hc.2 k, mx, and_true]
        rw [if_pos trivial] at z
        exact z
      | some l =>
        exact fin (if g > f then g else f) (fun i => i ≤ l) (fun i j u v => by omega) (m0 ha.1) fun k => by rw [ha.2 k, hc.2.2 k, mx]; omega
    | some l => cases c with
      | none =>
        exact fin (if g > f then g else f) (fun i => i ≤ l) (fun i j u v => by omega) (m0 ha.1) fun k => by rw [ha.2.2 k, hc.2 k, mx]; omega
      | some l' =>
        exact fin (if g > f then g else f) (fun i => i ≤ (if l' < l then l' else l)) (fun i j u v => by omega) (m0 ha.1) fun k => by
          rw [ha.2.2 k, hc.2.2 k, mx]
          split <;> omega
end Fb
/-! A calculus over the hand layer: what an expression or a statement gives, told by data (ints, tuples, lists) in the slots alone. -/
namespace Fb
open PySem PySem.Spec PyProof.Rows L2
open Evl (Ex)

/-! ### data in the heap -/
def kP (p : P2) : List Key := [Sum.inl p.1, Sum.inl p.2]
def pD (p : P2) : PyData := .tuple [.int p.1, .int p.2]
/-- a dict whose keys are places -/
def kv (m : List (P2 × V)) : List (List Key × V) := m.map fun e => (kP e.1, e.2)
/-- a scalar's value -/
def vV : PyData → V
  | .int i => .int i
  | .bool b => .bl b
  | _ => .non
def scD : PyData → Bool
  | .int _ => true
  | .bool _ => true
  | .none => true
  | _ => false
def vals (m : List (P2 × PyData)) : List (P2 × V) := m.map fun e => (e.1, vV e.2)
def dkL (m : List (P2 × PyData)) : List (PyData × PyData) := m.map fun e => (pD e.1, e.2)
/-- a dict that is read; one that is not locked -/
def dkD (m : List (P2 × PyData)) : PyData := .dict (dkL m)
def dxD (m : List (P2 × PyData)) : PyData := .dict ((.none, .none) :: dkL m)
/-- just that address -/
def rawD (a : Addr) : PyData := .dict [(.none, .int (a : Int))]
theorem rd_ex {H H' : Hp} {a : Addr} {u : HO} (e : Ex H H') (h : Rd H a u) : Rd H' a u := Evl.ex_rd e h
mutual
def Dd (H : Hp) : PyData → V → Prop
  | .none, v => v = V.non
  | .bool b, v => v = V.bl b
  | .int i, v => v = V.int i
  | .str _, _ => False
  | .list ds, v => ∃ a xs, v = V.ref a ∧ H a = some (HO.lst xs) ∧ DdL H ds xs
  | .tuple ds, v => ∃ a xs, v = V.ref a ∧ H a = some (HO.tup xs) ∧ DdL H ds xs
  | .dict kvs, v => ∃ a m, v = V.ref a ∧ (∀ e ∈ m, scD e.2 = true) ∧ ((Rd H a (HO.dT (kv (vals m))) ∧ kvs = dkL m) ∨ (H a = some (HO.dT (kv (vals m))) ∧ kvs = (.none, .none) :: dkL m) ∨ kvs = [(.none, .int (a : Int))])
def DdL (H : Hp) : List PyData → List V → Prop
  | [], xs => xs = []
  | d :: ds, xs => ∃ x ys, xs = x :: ys ∧ Dd H d x ∧ DdL H ds ys
end
mutual
/-- no list within -/
def Fl0 : PyData → Bool
  | .none => true
  | .bool _ => true
  | .int _ => true
  | .str _ => false
  | .list _ => false
  | .tuple ds => FlL ds
  | .dict _ => false
def FlL : List PyData → Bool
  | [] => true
  | d :: ds => Fl0 d && FlL ds
end
/-- tuples stay -/
def TX (H H' : Hp) : Prop := ∀ a xs, H a = some (HO.tup xs) → H' a = some (HO.tup xs)
theorem TX.of {H H' : Hp} (e : Ex H H') : TX H H' := fun a xs h => e a _ h
theorem TX.refl (H : Hp) : TX H H := fun _ _ h => h
theorem TX.trans {H H1 H2 : Hp} (a : TX H H1) (b : TX H1 H2) : TX H H2 := fun x o h => b x o (a x o h)
theorem TX.upd {H H' : Hp} {p : Addr} {o : HO} (e : TX H H') (h : ∀ xs, H' p ≠ some (HO.tup xs)) : TX H (L2.upd H' p o) := fun a xs ha => by
  have h1 := e a xs ha
  by_cases z : a = p
  · subst z
    exact absurd h1 (h xs)
  · rw [upd_ne z]
    exact h1
mutual
theorem Dd.ex {H H' : Hp} (e : Ex H H') : ∀ (d : PyData) (v : V), Dd H d v → Dd H' d v
  | .none, _, h => h
  | .bool _, _, h => h
  | .int _, _, h => h
  | .str _, _, h => h
  | .list ds, _, ⟨a, xs, h1, h2, h3⟩ => ⟨a, xs, h1, e a _ h2, DdL.ex e ds xs h3⟩
  | .tuple ds, _, ⟨a, xs, h1, h2, h3⟩ => ⟨a, xs, h1, e a _ h2, DdL.ex e ds xs h3⟩
  | .dict _, _, ⟨a, m, h1, h2, h3⟩ => ⟨a, m, h1, h2, h3.imp (fun z => ⟨rd_ex e z.1, z.2⟩) fun z => z.imp (fun z => ⟨e a _ z.1, z.2⟩) id⟩
theorem DdL.ex {H H' : Hp} (e : Ex H H') : ∀ (ds : List PyData) (xs : List V), DdL H ds xs → DdL H' ds xs
  | [], _, h => h
  | d :: ds, _, ⟨x, ys, h1, h2, h3⟩ => ⟨x, ys, h1, Dd.ex e d x h2, DdL.ex e ds ys h3⟩
end
mutual
theorem Dd.tx {H H' : Hp} (e : TX H H') : ∀ (d : PyData) (v : V), Fl0 d = true → Dd H d v → Dd H' d v
  | .none, _, _, h => h
  | .bool _, _, _, h => h
  | .int _, _, _, h => h
  | .str _, _, t, _ => nomatch t
  | .list ds, _, t, _ => nomatch t
  | .tuple ds, _, t, ⟨a, xs, h1, h2, h3⟩ => ⟨a, xs, h1, e a _ h2, DdL.tx e ds xs t h3⟩
  | .dict _, _, t, _ => nomatch t
theorem DdL.tx {H H' : Hp} (e : TX H H') : ∀ (ds : List PyData) (xs : List V), FlL ds = true → DdL H ds xs → DdL H' ds xs
  | [], _, _, h => h
  | d :: ds, _, t, ⟨x, ys, h1, h2, h3⟩ =>
    have t' : Fl0 d = true ∧ FlL ds = true := by
      have z : (Fl0 d && FlL ds) = true := t
      simpa using z
    ⟨x, ys, h1, Dd.tx e d x t'.1 h2, DdL.tx e ds ys t'.2 h3⟩
end
mutual
theorem Dd.dp {K : PySem.W.Frag} {H : Hp} : ∀ (d : PyData) (v : V), d.canLay0 = true → Dd H d v → Dp K H v d
  | .none, _, _, h => by cases (show _ = V.non from h); exact .non
  | .bool b, _, _, h => by cases (show _ = V.bl b from h); exact .bl b
  | .int i, _, _, h => by cases (show _ = V.int i from h); exact .int i
  | .str _, _, _, h => h.elim
  | .list ds, _, t, ⟨a, xs, h1, h2, h3⟩ => by subst h1; exact .lst (SqL.of h2) (DdL.dp ds xs t h3)
  | .tuple ds, _, t, ⟨a, xs, h1, h2, h3⟩ => by subst h1; exact .tup (SqT.of h2) (DdL.dp ds xs t h3)
  | .dict _, _, t, _ => nomatch t
theorem DdL.dp {K : PySem.W.Frag} {H : Hp} : ∀ (ds : List PyData) (xs : List V), PyData.canLayAll0 ds = true → DdL H ds xs → DpAll K H xs ds
  | [], _, _, h => by cases (show _ = [] from h); exact .nil
  | d :: ds, _, t, ⟨x, ys, h1, h2, h3⟩ => by
    have t' : d.canLay0 = true ∧ PyData.canLayAll0 ds = true := by
      have z : (d.canLay0 && PyData.canLayAll0 ds) = true := t
      simpa using z
    subst h1
    exact .cons (Dd.dp d x t'.1 h2) (DdL.dp ds ys t'.2 h3)
end
mutual
theorem fl_lay : ∀ (d : PyData), Fl0 d = true → d.canLay0 = true
  | .none, _ => rfl
  | .bool _, _ => rfl
  | .int _, _ => rfl
  | .str _, t => nomatch t
  | .list _, t => nomatch t
  | .tuple ds, t => fll_lay ds t
  | .dict _, t => nomatch t
theorem fll_lay : ∀ (ds : List PyData), FlL ds = true → PyData.canLayAll0 ds = true
  | [], _ => rfl
  | d :: ds, t => by
    have t' : Fl0 d = true ∧ FlL ds = true := by
      have z : (Fl0 d && FlL ds) = true := t
      simpa using z
    show (d.canLay0 && PyData.canLayAll0 ds) = true
    rw [fl_lay d t'.1, fll_lay ds t'.2]
    rfl
end
theorem shaped_lay {d : PyData} (h : SeqAt.shaped d = true) : d.canLay0 = true := by
  have z : (d.canLay0 && decide (d.depth ≤ 64)) = true := h
  exact (Bool.and_eq_true_iff.mp z).1
theorem DdL.len {H : Hp} : ∀ {ds : List PyData} {xs : List V}, DdL H ds xs → xs.length = ds.length
  | [], _, h => by cases (show _ = [] from h); rfl
  | d :: ds, _, ⟨x, ys, h1, h2, h3⟩ => by subst h1; rw [List.length_cons, List.length_cons, DdL.len h3]
theorem DdL.get {H : Hp} : ∀ {ds : List PyData} {xs : List V} {i : Nat} {d : PyData}, DdL H ds xs → ds[i]? = some d → ∃ x, xs[i]? = some x ∧ Dd H d x
  | [], _, i, d, _, e => by simp at e
  | d :: ds, _, 0, _, ⟨x, ys, h1, h2, h3⟩, e => by cases e; subst h1; exact ⟨x, rfl, h2⟩
  | d :: ds, _, i + 1, _, ⟨x, ys, h1, h2, h3⟩, e => by
    subst h1
    obtain ⟨y, e1, e2⟩ := DdL.get h3 (show ds[i]? = _ from e)
    exact ⟨y, e1, e2⟩
theorem DdL.get' {H : Hp} : ∀ {ds : List PyData} {xs : List V} {i : Nat} {x : V}, DdL H ds xs → xs[i]? = some x → ∃ d, ds[i]? = some d ∧ Dd H d x
  | [], _, i, x, h, e => by cases (show _ = [] from h); simp at e
  | d :: ds, _, 0, _, ⟨x, ys, h1, h2, h3⟩, e => by subst h1; cases e; exact ⟨d, rfl, h2⟩
  | d :: ds, _, i + 1, _, ⟨x, ys, h1, h2, h3⟩, e => by
    subst h1
    obtain ⟨y, e1, e2⟩ := DdL.get' h3 (show ys[i]? = _ from e)
    exact ⟨y, e1, e2⟩
theorem DdL.append {H : Hp} : ∀ {ds es : List PyData} {xs ys : List V}, DdL H ds xs → DdL H es ys → DdL H (ds ++ es) (xs ++ ys)
  | [], _, _, _, h, k => by cases (show _ = [] from h); exact k
  | d :: ds, _, _, _, ⟨x, zs, h1, h2, h3⟩, k => by subst h1; exact ⟨x, _, rfl, h2, DdL.append h3 k⟩
theorem DdL.one {H : Hp} {d : PyData} {x : V} (h : Dd H d x) : DdL H [d] [x] := ⟨x, [], rfl, h, rfl⟩
theorem DdL.take {H : Hp} : ∀ (n : Nat) {ds : List PyData} {xs : List V}, DdL H ds xs → DdL H (ds.take n) (xs.take n)
  | 0, _, _, _ => rfl
  | n + 1, [], _, h => by cases (show _ = [] from h); rfl
  | n + 1, d :: ds, _, ⟨x, ys, h1, h2, h3⟩ => by subst h1; exact ⟨x, _, rfl, h2, DdL.take n h3⟩
theorem DdL.of_all {H : Hp} : ∀ {ds : List PyData} {xs : List V}, xs.length = ds.length → (∀ (i : Nat) (d : PyData) (x : V), ds[i]? = some d → xs[i]? = some x → Dd H d x) → DdL H ds xs
  | [], [], _, _ => rfl
  | d :: ds, x :: xs, l, h => ⟨x, xs, rfl, h 0 d x rfl rfl, DdL.of_all (by simpa using l) fun i e y h1 h2 => h (i + 1) e y h1 h2⟩
  | [], _ :: _, l, _ => by simp at l
  | _ :: _, [], l, _ => by simp at l
theorem DdL.atI {H : Hp} {ds : List PyData} {xs : List V} {i : Int} {d : PyData} (h : DdL H ds xs) (e : L2.atI ds i = some d) : ∃ x, L2.atI xs i = some x ∧ Dd H d x := by
  unfold L2.atI at *
  rw [h.len]
  cases q : ixN ds.length i with
  | none => rw [q] at e; cases e
  | some j =>
    rw [q] at e
    exact h.get e

/-! ### the slots' data -/
abbrev Gm := List (Option PyData)
structure Sl (H : Hp) (σ : L2.St) (Γ : Gm) : Prop where
  len : σ.length = Γ.length
  at_ : ∀ (i : Nat) (d : PyData), Γ[i]? = some (some d) → ∃ v, σ[i]? = some (some v) ∧ Dd H d v
theorem Sl.ex {H H' : Hp} {σ : L2.St} {Γ : Gm} (s : Sl H σ Γ) (e : Ex H H') : Sl H' σ Γ := ⟨s.len, fun i d h => let ⟨v, a, b⟩ := s.at_ i d h; ⟨v, a, Dd.ex e d v b⟩⟩
theorem Sl.set {H : Hp} {σ : L2.St} {Γ : Gm} {d : PyData} {v : V} (s : Sl H σ Γ) (i : Nat) (h : Dd H d v) : Sl H (σ.set i (some v)) (Γ.set i (some d)) := by
  refine ⟨by rw [List.length_set, List.length_set, s.len], fun j e he => ?_⟩
  by_cases z : i = j
  · subst z
    by_cases l : i < Γ.length
    · rw [List.getElem?_set_self l] at he
      cases he
      exact ⟨v, List.getElem?_set_self (by rw [s.len]; exact l), h⟩
    · rw [List.getElem?_eq_none (by rw [List.length_set]; omega)] at he
      cases he
  · rw [List.getElem?_set_ne z] at he
    obtain ⟨u, a, b⟩ := s.at_ j e he
    exact ⟨u, by rw [List.getElem?_set_ne z]; exact a, b⟩
theorem Sl.unset {H : Hp} {σ : L2.St} {Γ : Gm} (s : Sl H σ Γ) (i : Nat) (x : Option V) : Sl H (σ.set i x) (Γ.set i none) := by
  refine ⟨by rw [List.length_set, List.length_set, s.len], fun j e he => ?_⟩
  by_cases z : i = j
  · subst z
    by_cases l : i < Γ.length
    · rw [List.getElem?_set_self l] at he
      cases he
    · rw [List.getElem?_eq_none (by rw [List.length_set]; omega)] at he
      cases he
  · rw [List.getElem?_set_ne z] at he
    obtain ⟨u, a, b⟩ := s.at_ j e he
    exact ⟨u, by rw [List.getElem?_set_ne z]; exact a, b⟩
theorem Sl.forget {H : Hp} {σ : L2.St} {Γ Δ : Gm} (s : Sl H σ Γ) (l : Δ.length = Γ.length) (h : ∀ (i : Nat) (d : PyData), Δ[i]? = some (some d) → Γ[i]? = some (some d)) : Sl H σ Δ := ⟨by rw [s.len, l], fun i d e => s.at_ i d (h i d e)⟩
def wipeG (Γ : Gm) : List Nat → Gm
  | [] => Γ
  | v :: vs => (wipeG Γ vs).set v none
theorem Sl.wipe {H : Hp} {σ : L2.St} {Γ : Gm} (s : Sl H σ Γ) : ∀ vs : List Nat, Sl H (L2.wipe σ vs) (wipeG Γ vs)
  | [] => s
  | v :: vs => by
    unfold L2.wipe wipeG
    exact (Sl.wipe s vs).unset v none
theorem Sl.tx {H H' : Hp} {σ : L2.St} {Γ : Gm} (s : Sl H σ Γ) (e : TX H H') (t : ∀ (i : Nat) (d : PyData), Γ[i]? = some (some d) → Fl0 d = true) : Sl H' σ Γ := ⟨s.len, fun i d h => let ⟨v, a, b⟩ := s.at_ i d h; ⟨v, a, Dd.tx e d v (t i d h) b⟩⟩
theorem Sl.get {H : Hp} {σ : L2.St} {Γ : Gm} {i : Nat} {d : PyData} (s : Sl H σ Γ) (h : Γ[i]? = some (some d)) : ∃ v, σ[i]? = some (some v) ∧ Dd H d v := s.at_ i d h

/-! ### what evaluates to what -/
def Ed (te : TE) (Γ : Gm) (d : PyData) : Prop := ∀ σ H, Sl H σ Γ → ∀ Q : VK, (∀ v H', Ex H H' → Dd H' d v → Q v H') → te σ H Q
def Et (tt : TT) (Γ : Gm) (b : Bool) : Prop := ∀ σ H, Sl H σ Γ → ∀ Q : Bool → Hp → Prop, (∀ H', Ex H H' → Q b H') → tt σ H Q
def Ea (ta : TA) (Γ : Gm) (ds : List PyData) : Prop := ∀ σ H, Sl H σ Γ → ∀ Q : List V → Hp → Prop, (∀ vs H', Ex H H' → DdL H' ds vs → Q vs H') → ta σ H Q

section
variable {K : PySem.W.Frag} {Γ : Gm} {ta tb te tc : TE} {t u : TT} {d e : PyData} {ds : List PyData} {b c : Bool} {i j : Int}
theorem ed_var {k : Nat} (h : Γ[k]? = some (some d)) : Ed (tVar k) Γ d := fun σ H s Q q =>
  let ⟨v, a, z⟩ := s.at_ k d h
  ⟨v, a, q v H (Ex.refl H) z⟩
theorem ed_int : Ed (tC (.int i)) Γ (.int i) := fun σ H s Q q => q _ H (Ex.refl H) rfl
theorem ed_bl : Ed (tC (.bl b)) Γ (.bool b) := fun σ H s Q q => q _ H (Ex.refl H) rfl
theorem ed_non : Ed (tC .non) Γ .none := fun σ H s Q q => q _ H (Ex.refl H) rfl
theorem Ed.to (h : Ed te Γ d) (z : d = e) : Ed te Γ e := z ▸ h
theorem Et.to (h : Et t Γ b) (z : b = c) : Et t Γ c := z ▸ h
/-- two parts, then what the values give -/
theorem ed_two {r : R2} {d1 d2 : PyData} (ha : Ed ta Γ d1) (hb : Ed tb Γ d2) (hr : ∀ x y H, Dd H d1 x → Dd H d2 y → ∀ Q : VK, (∀ v H', Ex H H' → Dd H' d v → Q v H') → r x y H Q) : Ed (tOp r ta tb) Γ d := fun σ H s Q q =>
  ha σ H s _ fun x H1 e1 dx => hb σ H1 (s.ex e1) _ fun y H2 e2 dy => hr x y H2 (Dd.ex e2 _ _ dx) dy Q fun v H' e3 dv => q v H' ((e1.trans e2).trans e3) dv
theorem ed_opI {g : Int → Int → Int} (ha : Ed ta Γ (.int i)) (hb : Ed tb Γ (.int j)) : Ed (tOp (rI0 fun i j => .int (g i j)) ta tb) Γ (.int (g i j)) :=
  ed_two ha hb fun x y H hx hy Q q => ⟨i, j, hx, hy, q _ H (Ex.refl H) rfl⟩
theorem ed_opB {g : Int → Int → Bool} (ha : Ed ta Γ (.int i)) (hb : Ed tb Γ (.int j)) : Ed (tOp (rI0 fun i j => .bl (g i j)) ta tb) Γ (.bool (g i j)) :=
  ed_two ha hb fun x y H hx hy Q q => ⟨i, j, hx, hy, q _ H (Ex.refl H) rfl⟩
theorem ed_opC {C : Int → Int → Prop} {g : Int → Int → Int} (ha : Ed ta Γ (.int i)) (hb : Ed tb Γ (.int j)) (hc : C i j) : Ed (tOp (rI C fun i j => .int (g i j)) ta tb) Γ (.int (g i j)) :=
  ed_two ha hb fun x y H hx hy Q q => ⟨i, j, hx, hy, hc, q _ H (Ex.refl H) rfl⟩
theorem ed_neg (ha : Ed ta Γ (.int i)) : Ed (tUn (rU fun i => .int (-i)) ta) Γ (.int (-i)) := fun σ H s Q q =>
  ha σ H s _ fun x H1 e1 dx => ⟨i, dx, q _ H1 e1 rfl⟩
theorem ea_nil : Ea tNil Γ [] := fun σ H s Q q => q [] H (Ex.refl H) rfl
theorem ea_cons {tr : TA} (h : Ed ta Γ d) (hr : Ea tr Γ ds) : Ea (tCons ta tr) Γ (d :: ds) := fun σ H s Q q =>
  h σ H s _ fun x H1 e1 dx => hr σ H1 (s.ex e1) _ fun vs H2 e2 dvs => q _ H2 (e1.trans e2) ⟨x, vs, rfl, Dd.ex e2 _ _ dx, dvs⟩
theorem ed_tup {ta : TA} (h : Ea ta Γ ds) (hl : ds.length ≤ 100000 := by exact Nat.le_of_ble_eq_true rfl) : Ed (tTup ta) Γ (.tuple ds) := fun σ H s Q q =>
  h σ H s _ fun vs H1 e1 dvs => ⟨by rw [dvs.len]; exact Evl.sz_of hl, fun p hp => q _ _ (e1.trans (Ex.new hp)) ⟨p, vs, rfl, upd_same, DdL.ex (Ex.new hp) _ _ dvs⟩⟩
theorem ed_lst {ta : TA} (h : Ea ta Γ ds) (hl : ds.length ≤ 100000 := by exact Nat.le_of_ble_eq_true rfl) : Ed (tLst ta) Γ (.list ds) := fun σ H s Q q =>
  h σ H s _ fun vs H1 e1 dvs => ⟨by rw [dvs.len]; exact Evl.sz_of hl, fun p hp => q _ _ (e1.trans (Ex.new hp)) ⟨p, vs, rfl, upd_same, DdL.ex (Ex.new hp) _ _ dvs⟩⟩
theorem ed_ixT (ha : Ed ta Γ (.tuple ds)) (hb : Ed tb Γ (.int i)) (h : atI ds i = some d) : Ed (tOp (rIxT K) ta tb) Γ d :=
  ed_two ha hb fun x y H ⟨a, xs, h1, h2, h3⟩ hy Q q =>
    let ⟨v, e1, e2⟩ := DdL.atI h3 h
    ⟨a, xs, i, v, h1, hy, SqT.of h2, e1, q _ H (Ex.refl H) e2⟩
theorem ed_ixL (ha : Ed ta Γ (.list ds)) (hb : Ed tb Γ (.int i)) (h : atI ds i = some d) : Ed (tOp (rIxL K) ta tb) Γ d :=
  ed_two ha hb fun x y H ⟨a, xs, h1, h2, h3⟩ hy Q q =>
    let ⟨v, e1, e2⟩ := DdL.atI h3 h
    ⟨a, xs, i, v, h1, hy, SqL.of h2, e1, q _ H (Ex.refl H) e2⟩
theorem ed_eqD (ha : Ed ta Γ d) (hb : Ed tb Γ e) (h1 : SeqAt.shaped d = true) (h2 : SeqAt.shaped e = true) : Ed (tOp (rEqD K) ta tb) Γ (.bool (PyData.eqv d e)) :=
  ed_two ha hb fun x y H hx hy Q q => ⟨d, e, Dd.dp _ _ (shaped_lay h1) hx, Dd.dp _ _ (shaped_lay h2) hy, h1, h2, q _ H (Ex.refl H) rfl⟩
theorem ed_neD (ha : Ed ta Γ d) (hb : Ed tb Γ e) (h1 : SeqAt.shaped d = true) (h2 : SeqAt.shaped e = true) : Ed (tOp (rNeD K) ta tb) Γ (.bool (!PyData.eqv d e)) :=
  ed_two ha hb fun x y H hx hy Q q => ⟨d, e, Dd.dp _ _ (shaped_lay h1) hx, Dd.dp _ _ (shaped_lay h2) hy, h1, h2, q _ H (Ex.refl H) rfl⟩
theorem ed_eqI (ha : Ed ta Γ (.int i)) (hb : Ed tb Γ (.int j)) : Ed (tOp rEq ta tb) Γ (.bool (decide (i = j))) :=
  ed_two ha hb fun x y H hx hy Q q => by
    cases (show x = V.int i from hx)
    cases (show y = V.int j from hy)
    refine ⟨rfl, q _ H (Ex.refl H) ?_⟩
    show V.bl _ = V.bl _
    rw [dec_int]
    rfl
theorem ed_neI (ha : Ed ta Γ (.int i)) (hb : Ed tb Γ (.int j)) : Ed (tOp rNe ta tb) Γ (.bool (!decide (i = j))) :=
  ed_two ha hb fun x y H hx hy Q q => by
    cases (show x = V.int i from hx)
    cases (show y = V.int j from hy)
    refine ⟨rfl, q _ H (Ex.refl H) ?_⟩
    show V.bl _ = V.bl _
    rw [dec_int]
    rfl
theorem ed_eqB (ha : Ed ta Γ (.bool b)) (hb : Ed tb Γ (.bool c)) : Ed (tOp rEq ta tb) Γ (.bool (b == c)) :=
  ed_two ha hb fun x y H hx hy Q q => by
    cases (show x = V.bl b from hx)
    cases (show y = V.bl c from hy)
    refine ⟨rfl, q _ H (Ex.refl H) ?_⟩
    show V.bl _ = V.bl _
    rw [dec_bl]
abbrev isNon : PyData → Bool
  | .none => true
  | _ => false
theorem dd_non {H : Hp} : ∀ {d : PyData} {v : V}, Dd H d v → decide (v = V.non) = isNon d
  | .none, v, h => by cases (show v = V.non from h); rfl
  | .bool b, v, h => by cases (show v = V.bl b from h); rfl
  | .int i, v, h => by cases (show v = V.int i from h); rfl
  | .str _, v, h => h.elim
  | .list ds, v, ⟨a, xs, h1, _⟩ => by subst h1; rfl
  | .tuple ds, v, ⟨a, xs, h1, _⟩ => by subst h1; rfl
  | .dict _, v, ⟨a, m, h1, _⟩ => by subst h1; rfl
theorem ed_isN (ha : Ed ta Γ d) : Ed (tIsN ta) Γ (.bool (isNon d)) := fun σ H s Q q => ha σ H s _ fun x H1 e1 dx => q _ H1 e1 (by show V.bl _ = V.bl _; rw [dd_non dx])
theorem ed_notN (ha : Ed ta Γ d) : Ed (tNotN ta) Γ (.bool (!isNon d)) := fun σ H s Q q => ha σ H s _ fun x H1 e1 dx => q _ H1 e1 (by show V.bl _ = V.bl _; rw [dd_non dx])
theorem ed_ifExp (h : Et t Γ b) (h1 : b = true → Ed ta Γ d) (h2 : b = false → Ed tb Γ d) : Ed (tIf t ta tb) Γ d := fun σ H s Q q => h σ H s _ fun H1 e1 => by
  cases b with
  | true => exact h1 rfl σ H1 (s.ex e1) Q fun v H2 e2 => q v H2 (e1.trans e2)
  | false => exact h2 rfl σ H1 (s.ex e1) Q fun v H2 e2 => q v H2 (e1.trans e2)
theorem ed_and (h1 : Ed ta Γ (.bool b)) (h2 : b = true → Ed tb Γ (.bool c)) : Ed (tAndV ta tb) Γ (.bool (b && c)) := fun σ H s Q q => h1 σ H s _ fun x H1 e1 dx => ⟨b, dx, by
  cases b with
  | true => exact h2 rfl σ H1 (s.ex e1) Q fun v H2 e2 => q v H2 (e1.trans e2)
  | false => exact q _ H1 e1 rfl⟩
theorem ed_or (h1 : Ed ta Γ (.bool b)) (h2 : b = false → Ed tb Γ (.bool c)) : Ed (tOrV ta tb) Γ (.bool (b || c)) := fun σ H s Q q => h1 σ H s _ fun x H1 e1 dx => ⟨b, dx, by
  cases b with
  | true => exact q _ H1 e1 rfl
  | false => exact h2 rfl σ H1 (s.ex e1) Q fun v H2 e2 => q v H2 (e1.trans e2)⟩
theorem ed_not (h1 : Ed ta Γ (.bool b)) : Ed (tNotV ta) Γ (.bool (!b)) := fun σ H s Q q => h1 σ H s _ fun x H1 e1 dx => ⟨b, dx, q _ H1 e1 rfl⟩
theorem et_B (h : Ed te Γ (.bool b)) : Et (tB te) Γ b := fun σ H s Q q => h σ H s _ fun x H1 e1 dx => ⟨b, dx, q H1 e1⟩
theorem et_T (h : Ed te Γ (.bool b)) : Et (tTest te) Γ b := fun σ H s Q q => h σ H s _ fun x H1 e1 dx => ⟨b, dx, q H1 e1⟩
theorem et_and (h1 : Et t Γ b) (h2 : b = true → Et u Γ c) : Et (tAnd t u) Γ (b && c) := fun σ H s Q q => h1 σ H s _ fun H1 e1 => by
  cases b with
  | true => exact h2 rfl σ H1 (s.ex e1) Q fun H2 e2 => q H2 (e1.trans e2)
  | false => exact q H1 e1
theorem et_or (h1 : Et t Γ b) (h2 : b = false → Et u Γ c) : Et (tOr t u) Γ (b || c) := fun σ H s Q q => h1 σ H s _ fun H1 e1 => by
  cases b with
  | true => exact q H1 e1
  | false => exact h2 rfl σ H1 (s.ex e1) Q fun H2 e2 => q H2 (e1.trans e2)
theorem et_not (h1 : Et t Γ b) : Et (tNot t) Γ (!b) := fun σ H s Q q => h1 σ H s _ fun H1 e1 => q H1 e1
theorem et_yes : Et tYes Γ true := fun σ H s Q q => q H (Ex.refl H)
/-- x <= y <= z on ints -/
theorem ed_chain {g h : Int → Int → Bool} {k : Int} (ha : Ed ta Γ (.int i)) (hb : Ed tb Γ (.int j)) (hc : Ed tc Γ (.int k)) :
    Ed (tChain (rI0 fun i j => .bl (g i j)) (rI0 fun i j => .bl (h i j)) ta tb tc) Γ (.bool (g i j && h j k)) := fun σ H s Q q =>
  ha σ H s _ fun x H1 e1 dx => hb σ H1 (s.ex e1) _ fun y H2 e2 dy => ⟨i, j, dx, dy, g i j, rfl, by
    cases z : g i j with
    | true =>
      exact hc σ H2 (s.ex (e1.trans e2)) _ fun w H3 e3 dw => ⟨j, k, dy, dw, q _ H3 ((e1.trans e2).trans e3) (by rw [z]; rfl)⟩
    | false => exact q _ H2 (e1.trans e2) (by rw [z]; rfl)⟩
/-- a part of a tuple from its beginning, not the whole -/
theorem ed_take {n : Nat} (ha : Ed ta Γ (.tuple ds)) (hb : Ed tb Γ (.int (n : Int))) (hn : n < ds.length) : Ed (tSl (rSlT K) ta tNoPart (tPart tb)) Γ (.tuple (ds.take n)) := fun σ H s Q q =>
  ha σ H s _ fun x H1 e1 ⟨a, xs, h1, h2, h3⟩ => hb σ H1 (s.ex e1) _ fun y H2 e2 dy => ⟨(n : Int), dy, by
    have l : xs.length = ds.length := h3.len
    have e : HT.sIx xs.length xs.length (some (n : Int)) = n := by rw [HT.sIx_nat]; omega
    have z : cutV xs none (some (n : Int)) = xs.take n := by
      unfold cutV
      rw [e, HT.sIx_none, List.drop_zero, Nat.sub_zero]
    refine ⟨a, xs, h1, SqT.of (e2 a _ h2), fun w => ?_, fun p hp => ?_⟩
    · have w2 := w.2
      rw [e] at w2
      omega
    · rw [z]
      exact q _ _ ((e1.trans e2).trans (Ex.new hp)) ⟨p, _, rfl, upd_same, DdL.take n (DdL.ex (e2.trans (Ex.new hp)) _ _ h3)⟩⟩

/-! ### built-ins -/
theorem ed_cb {r : List V → Hp → VK → Prop} {ta : TA} (h : Ea ta Γ ds) (hr : ∀ vs H, DdL H ds vs → ∀ Q : VK, (∀ v H', Ex H H' → Dd H' d v → Q v H') → r vs H Q) : Ed (tCB r ta) Γ d := fun σ H s Q q =>
  h σ H s _ fun vs H1 e1 dvs => hr vs H1 dvs Q fun v H2 e2 => q v H2 (e1.trans e2)
theorem dd1 {H : Hp} {vs : List V} {d : PyData} (h : DdL H [d] vs) : ∃ x, vs = [x] ∧ Dd H d x := by
  obtain ⟨x, ys, h1, h2, h3⟩ := h
  cases (show ys = [] from h3)
  exact ⟨x, h1, h2⟩
theorem dd2 {H : Hp} {vs : List V} {d e : PyData} (h : DdL H [d, e] vs) : ∃ x y, vs = [x, y] ∧ Dd H d x ∧ Dd H e y := by
  obtain ⟨x, ys, h1, h2, h3⟩ := h
  obtain ⟨y, rfl, h4⟩ := dd1 h3
  exact ⟨x, y, h1, h2, h4⟩
abbrev rAbs : List V → Hp → VK → Prop := fun xs H Q => ∃ i, xs = [.int i] ∧ Q (.int (if i < 0 then -i else i)) H
theorem ed_abs (h : Ed ta Γ (.int i)) : Ed (tCB rAbs (tCons ta tNil)) Γ (.int (if i < 0 then -i else i)) := ed_cb (ea_cons h ea_nil) fun vs H dv Q q => by
  obtain ⟨x, rfl, hx⟩ := dd1 dv
  cases (show x = V.int i from hx)
  exact ⟨i, rfl, q _ H (Ex.refl H) rfl⟩
abbrev rMax2 : List V → Hp → VK → Prop := fun xs H Q => ∃ i j, xs = [.int i, .int j] ∧ Q (.int (if j > i then j else i)) H
theorem ed_max2 (h : Ed ta Γ (.int i)) (h' : Ed tb Γ (.int j)) : Ed (tCB rMax2 (tCons ta (tCons tb tNil))) Γ (.int (if j > i then j else i)) := ed_cb (ea_cons h (ea_cons h' ea_nil)) fun vs H dv Q q => by
  obtain ⟨x, y, rfl, hx, hy⟩ := dd2 dv
  cases (show x = V.int i from hx)
  cases (show y = V.int j from hy)
  exact ⟨i, j, rfl, q _ H (Ex.refl H) rfl⟩
abbrev rInt1 : List V → Hp → VK → Prop := fun xs H Q => (∃ i, xs = [.int i] ∧ Q (.int i) H) ∨ ∃ k, xs = [.bl k] ∧ Q (.int (if k then 1 else 0)) H
theorem ed_int1 (h : Ed ta Γ (.int i)) : Ed (tCB rInt1 (tCons ta tNil)) Γ (.int i) := ed_cb (ea_cons h ea_nil) fun vs H dv Q q => by
  obtain ⟨x, rfl, hx⟩ := dd1 dv
  cases (show x = V.int i from hx)
  exact .inl ⟨i, rfl, q _ H (Ex.refl H) rfl⟩
abbrev rLen (K : PySem.W.Frag) : List V → Hp → VK → Prop := fun xs H Q => ∃ p ys, xs = [.ref p] ∧ (SqL K H p ys ∨ SqT K H p ys) ∧ Q (.int ys.length) H
theorem ed_lenT (h : Ed ta Γ (.tuple ds)) : Ed (tCB (rLen K) (tCons ta tNil)) Γ (.int ds.length) := ed_cb (ea_cons h ea_nil) fun vs H dv Q q => by
  obtain ⟨x, rfl, a, xs, rfl, h2, h3⟩ := dd1 dv
  exact ⟨a, xs, rfl, .inr (SqT.of h2), q _ H (Ex.refl H) (by rw [h3.len]; rfl)⟩
theorem ed_lenL (h : Ed ta Γ (.list ds)) : Ed (tCB (rLen K) (tCons ta tNil)) Γ (.int ds.length) := ed_cb (ea_cons h ea_nil) fun vs H dv Q q => by
  obtain ⟨x, rfl, a, xs, rfl, h2, h3⟩ := dd1 dv
  exact ⟨a, xs, rfl, .inl (SqL.of h2), q _ H (Ex.refl H) (by rw [h3.len]; rfl)⟩
abbrev rTupOf (K : PySem.W.Frag) : List V → Hp → VK → Prop := fun xs H Q => ∃ p ys, xs = [.ref p] ∧ ((SqL K H p ys ∧ ∀ l, H l = none → Q (.ref l) (upd H l (.tup ys))) ∨ (SqT K H p ys ∧ Q (.ref p) H))
theorem ed_tupL (h : Ed ta Γ (.list ds)) : Ed (tCB (rTupOf K) (tCons ta tNil)) Γ (.tuple ds) := ed_cb (ea_cons h ea_nil) fun vs H dv Q q => by
  obtain ⟨x, rfl, a, xs, rfl, h2, h3⟩ := dd1 dv
  exact ⟨a, xs, rfl, .inl ⟨SqL.of h2, fun l hl => q _ _ (Ex.new hl) ⟨l, xs, rfl, upd_same, DdL.ex (Ex.new hl) _ _ h3⟩⟩⟩
abbrev rLstOf (K : PySem.W.Frag) : List V → Hp → VK → Prop := fun xs H Q => ∃ p ys, xs = [.ref p] ∧ (SqL K H p ys ∨ SqT K H p ys) ∧ ∀ l, H l = none → Q (.ref l) (upd H l (.lst ys))
theorem ed_lstT (h : Ed ta Γ (.tuple ds)) : Ed (tCB (rLstOf K) (tCons ta tNil)) Γ (.list ds) := ed_cb (ea_cons h ea_nil) fun vs H dv Q q => by
  obtain ⟨x, rfl, a, xs, rfl, h2, h3⟩ := dd1 dv
  exact ⟨a, xs, rfl, .inr (SqT.of h2), fun l hl => q _ _ (Ex.new hl) ⟨l, xs, rfl, upd_same, DdL.ex (Ex.new hl) _ _ h3⟩⟩
/-- the type of data -/
def tyD : PyData → String
  | .none => "NoneType"
  | .bool _ => "bool"
  | .int _ => "int"
  | .str _ => "str"
  | .list _ => "list"
  | .tuple _ => "tuple"
  | .dict _ => "dict"
theorem tyx_of {H : Hp} : ∀ {d : PyData} {v : V}, d.canLay0 = true → Dd H d v → TyX K H v (.type (tyD d))
  | .none, v, _, h => by cases (show v = V.non from h); exact .base .non
  | .bool b, v, _, h => by cases (show v = V.bl b from h); exact .base (.bl b)
  | .int i, v, _, h => by cases (show v = V.int i from h); exact .base (.int i)
  | .str _, v, _, h => h.elim
  | .list ds, v, _, ⟨a, xs, h1, h2, _⟩ => by subst h1; exact .base (.lst h2)
  | .tuple ds, v, _, ⟨a, xs, h1, h2, _⟩ => by subst h1; exact .base (.tup h2)
  | .dict _, v, t, _ => nomatch t
theorem ed_isi {T : String} (h : Ed ta Γ d) (hd : d.canLay0 = true) (hb : kitB (tyD d) T = some b) : Ed (tCB (rIsi K) (tCons ta (tCons (tC (.ty T)) tNil))) Γ (.bool b) := fun σ H s Q q =>
  h σ H s _ fun x H1 e1 dx => ⟨x, .ty T, _, _, b, rfl, .ty T, tyx_of hd dx, kit_ty hb, q _ H1 e1 rfl⟩
/-- isinstance(x, (S, T)) -/
theorem ed_isi2 {S T : String} (h : Ed ta Γ d) (hd : d.canLay0 = true) (h1 : kitB (tyD d) S = some b) (h2 : kitB (tyD d) T = some c) : Ed (tCB (rIsiT K) (tCons ta (tCons (tTup (tCons (tC (.ty S)) (tCons (tC (.ty T)) tNil))) tNil))) Γ (.bool (b || c)) := fun σ H s Q q =>
  h σ H s _ fun x H1 e1 dx => ⟨by show 2 ≤ sizeLine; decide, fun p hp => ⟨x, p, [.ty S, .ty T], _, [.type S, .type T], b || c, rfl, upd_same, .cons (.ty S) (.cons (.ty T) .nil), tyx_of hd (Dd.ex (Ex.new hp) _ _ dx),
    kitAny_cons (kit_ty h1) (fun z => kitAny_cons (kit_ty h2) (fun w => by subst z w; rfl) (fun w => by subst z w; rfl)) (fun z => by subst z; rfl), q _ _ (e1.trans (Ex.new hp)) rfl⟩⟩

/-! ### calls of pure defs -/
/-- a def that gives d from ds where rel ds d, and leaves what stood -/
def spD (rel : List PyData → PyData → Prop) : Sp := fun vs H Q _ => ∃ ds d, rel ds d ∧ DdL H ds vs ∧ ∀ v H', Ex H H' → Dd H' d v → Q v H'
theorem ed_call {rel : List PyData → PyData → Prop} {E : XK} {ta : TA} (h : Ea ta Γ ds) (hr : rel ds d) : Ed (tCall (spD rel) [] E ta) Γ d := fun σ H s Q q =>
  h σ H s _ fun vs H1 e1 dvs => ⟨ds, d, hr, by rw [List.append_nil]; exact dvs, fun v H2 e2 => q v H2 (e1.trans e2)⟩

/-! ### comprehensions over data -/
def TgOk (g : TG) (Γ : Gm) (vs : List Nat) (d : PyData) (Γ' : Gm) : Prop := ∀ σ H x, Sl H σ Γ → Dd H d x → ∀ Q : L2.St → Hp → Prop, (∀ σ', Sl H σ' Γ' → L2.wipe σ' vs = L2.wipe σ vs → Q σ' H) → g x σ H Q
theorem set_back {σ : L2.St} : ∀ {j : Nat} {x : V} {vs : List Nat}, j ∈ vs → L2.wipe (σ.set j (some x)) vs = L2.wipe σ vs
  | j, x, [], h => nomatch h
  | j, x, v :: vs, h => by
    unfold L2.wipe
    by_cases z : v = j
    · subst z
      have e : ∀ (us : List Nat), (L2.wipe (σ.set v (some x)) us).set v none = (L2.wipe σ us).set v none := by
        intro us
        induction us with
        | nil => show (σ.set v (some x)).set v none = σ.set v none; rw [List.set_set]
        | cons u us ih =>
          unfold L2.wipe
          by_cases w : u = v
          · subst w; rw [List.set_set, List.set_set]; exact ih
          · rw [List.set_comm _ _ w, List.set_comm _ _ w, ih]
      exact e vs
    · rw [set_back ((List.mem_cons.mp h).resolve_left fun e => z e.symm)]
theorem tg_name {k : Nat} {vs : List Nat} (hk : k ∈ vs) : TgOk (gName k) Γ vs d (Γ.set k (some d)) := fun σ H x s dx Q q => q _ (s.set k dx) (set_back hk)
/-- several names -/
def gNames : List Nat → TGs
  | [] => gNil
  | k :: ks => gCons (gName k) (gNames ks)
def setsG : Gm → List Nat → List PyData → Gm
  | Γ, k :: ks, d :: ds => setsG (Γ.set k (some d)) ks ds
  | Γ, _, _ => Γ
theorem gNames_run {H : Hp} : ∀ {ks : List Nat} {ds : List PyData} {xs : List V} {σ : L2.St} {Γ : Gm} {vs : List Nat}, ks.length = ds.length → Sl H σ Γ → DdL H ds xs → (∀ k ∈ ks, k ∈ vs) → ∀ Q : L2.St → Hp → Prop, (∀ σ', Sl H σ' (setsG Γ ks ds) → L2.wipe σ' vs = L2.wipe σ vs → Q σ' H) → gNames ks xs σ H Q
  | [], [], xs, σ, Γ, vs, _, s, h, hk, Q, q => ⟨h, q σ s rfl⟩
  | k :: ks, d :: ds, xs, σ, Γ, vs, l, s, ⟨x, ys, h1, h2, h3⟩, hk, Q, q => ⟨x, ys, h1, gNames_run (vs := vs) (by simpa using l) (s.set k h2) h3 (fun z hz => hk z (List.mem_cons_of_mem _ hz)) Q fun σ' s' w => q σ' s' (w.trans (set_back (hk k (List.mem_cons_self ..))))⟩
  | [], _ :: _, _, _, _, _, l, _, _, _, _, _ => by simp at l
  | _ :: _, [], _, _, _, _, l, _, _, _, _, _ => by simp at l
theorem tg_tup {ks : List Nat} {vs : List Nat} (l : ks.length = ds.length) (hk : ∀ k ∈ ks, k ∈ vs) : TgOk (gTup K ks.length (gNames ks)) Γ vs (.tuple ds) (setsG Γ ks ds) := fun σ H x s ⟨a, xs, h1, h2, h3⟩ Q q =>
  ⟨a, xs, h1, SqT.of h2, by rw [h3.len, l], gNames_run l s h3 hk Q q⟩
/-- what a comprehension gives -/
def given (f : PyData → Option PyData) (ds : List PyData) : List PyData := ds.filterMap f
theorem wipe_idem {σ : L2.St} : ∀ vs : List Nat, L2.wipe (L2.wipe σ vs) vs = L2.wipe σ vs := by
  have set_none : ∀ (us : List Nat) (v : Nat) (σ : L2.St), L2.wipe (σ.set v none) us = (L2.wipe σ us).set v none := by
    intro us
    induction us with
    | nil => intro v σ; rfl
    | cons u us ih =>
      intro v σ
      unfold L2.wipe
      rw [ih]
      by_cases w : u = v
      · subst w; rfl
      · rw [List.set_comm _ _ w]
  intro vs
  induction vs with
  | nil => rfl
  | cons v vs ih =>
    show (L2.wipe ((L2.wipe σ vs).set v none) vs).set v none = (L2.wipe σ vs).set v none
    rw [set_none, List.set_set, ih]
/-- the turn of a comprehension, told by data -/
structure CompOk (g : TG) (tt : TT) (te : TE) (Γ : Gm) (vs : List Nat) (ds : List PyData) (f : PyData → Option PyData) : Prop where
  turn : ∀ (d : PyData), d ∈ ds → ∃ Γ', TgOk g (wipeG Γ vs) vs d Γ' ∧ Et tt Γ' (f d).isSome ∧ ∀ e, f d = some e → Ed te Γ' e
def CompW (H0 : Hp) (ds : List PyData) (f : PyData → Option PyData) (D : Addr) (i : Nat) (H : Hp) : Prop := H0 D = none ∧ Ex H0 H ∧ ∃ acc, H D = some (.lst acc) ∧ DdL H (given f (ds.take i)) acc
end
section
variable {K : PySem.W.Frag} {Γ : Gm} {ds : List PyData}
theorem given_len (f : PyData → Option PyData) (ds : List PyData) : (given f ds).length ≤ ds.length := List.length_filterMap_le ..
theorem take_one {α : Type} {l : List α} {i : Nat} {x : α} (h : l[i]? = some x) : l.take (i + 1) = l.take i ++ [x] := by
  rw [List.take_add_one, h]
  rfl
theorem given_turn {f : PyData → Option PyData} {i : Nat} {d : PyData} (h : ds[i]? = some d) : given f (ds.take (i + 1)) = given f (ds.take i) ++ (f d).toList := by
  unfold given
  rw [take_one h, List.filterMap_append]
  have e : List.filterMap f [d] = (f d).toList := by
    rw [List.filterMap_cons]
    cases f d <;> rfl
  rw [e]
theorem DdL.but {H : Hp} {D : Addr} {xs ys : List V} : ∀ {ds : List PyData} {vs : List V}, FlL ds = true → H D = some (.lst xs) → DdL H ds vs → DdL (upd H D (.lst ys)) ds vs := fun t h k => DdL.tx ((TX.refl H).upd fun xs z => by rw [h] at z; cases z) _ _ t k
theorem tol_mem : ∀ {l : List PyData}, (∀ d ∈ l, Fl0 d = true) → FlL l = true
  | [], _ => rfl
  | d :: l, h => by
    show (Fl0 d && FlL l) = true
    rw [h d (List.mem_cons_self ..), tol_mem fun e m => h e (List.mem_cons_of_mem _ m)]
    rfl
theorem comp_turn {g : TG} {tt : TT} {te : TE} {vs : List Nat} {f : PyData → Option PyData} {σ : L2.St} {H0 H : Hp} {D : Addr} {i : Nat} {d : PyData} {x : V}
    (C : CompOk g tt te Γ vs ds f) (t : ∀ d ∈ ds, ∀ e, f d = some e → Fl0 e = true) (hz : ds.length ≤ 40000) (s : Sl H0 σ Γ) (hd : ds[i]? = some d) (hx : Dd H d x) (p : CompW H0 ds f D i H) :
    g x (L2.wipe σ vs) H fun σ2 H2 => L2.wipe σ2 vs = L2.wipe σ vs ∧ tt σ2 H2 fun b H3 =>
      if b = true then te σ2 H3 fun y H4 => ∃ acc, H4 D = some (.lst acc) ∧ acc.length < sizeLine ∧ CompW H0 ds f D (i + 1) (upd H4 D (.lst (acc ++ [y]))) else CompW H0 ds f D (i + 1) H3 := by
  obtain ⟨Γ', h1, h2, h3⟩ := C.turn d (List.mem_of_getElem? hd)
  obtain ⟨p1, p2, acc, p3, p4⟩ := p
  refine h1 _ H x ((s.ex p2).wipe vs) hx _ fun σ' s' w => ⟨w.trans (wipe_idem vs), ?_⟩
  refine h2 σ' H s' _ fun H3 e3 => ?_
  have gl : (given f (ds.take i)).length ≤ 40000 := Nat.le_trans (given_len f _) (Nat.le_trans (List.length_take_le' ..) hz)
  have tall : ∀ j, FlL (given f (ds.take j)) = true := fun j => tol_mem fun e m => by
    obtain ⟨d', m', e'⟩ := List.mem_filterMap.mp m
    exact t d' (List.mem_of_mem_take m') e e'
  cases z : f d with
  | none =>
    show CompW H0 ds f D (i + 1) H3
    refine ⟨p1, p2.trans e3, acc, e3 D _ p3, ?_⟩
    rw [given_turn hd, z]
    show DdL H3 (given f (ds.take i) ++ []) acc
    rw [List.append_nil]
    exact DdL.ex e3 _ _ p4
  | some e =>
    show te σ' H3 _
    refine h3 e z σ' H3 (s'.ex e3) _ fun y H4 e4 dy => ⟨acc, e4 D _ (e3 D _ p3), ?_, p1, Ex.mut ((p2.trans e3).trans e4) p1, _, upd_same, ?_⟩
    · rw [p4.len]
      exact Evl.sz_lt (by omega)
    · have q4 : H4 D = some (.lst acc) := e4 D _ (e3 D _ p3)
      have k := DdL.append (DdL.ex (e3.trans e4) _ _ p4) (DdL.one dy)
      have ge : given f (ds.take (i + 1)) = given f (ds.take i) ++ [e] := by rw [given_turn hd, z]; rfl
      have k' : DdL H4 (given f (ds.take (i + 1))) (acc ++ [y]) := by rw [ge]; exact k
      exact DdL.but (tall (i + 1)) q4 k'
theorem ed_lcT {tl : TE} {g : TG} {tt : TT} {te : TE} {vs : List Nat} {f : PyData → Option PyData} (h : Ed tl Γ (.tuple ds)) (C : CompOk g tt te Γ vs ds f) (t : ∀ d ∈ ds, ∀ e, f d = some e → Fl0 e = true) (hz : ds.length ≤ 40000) :
    Ed (tLc (iTup K tl) g tt te vs) Γ (.list (given f ds)) := fun σ H s Q q =>
  h σ H s _ fun v H1 e1 ⟨a, xs, h1, h2, h3⟩ => ⟨a, h1, ⟨xs, SqT.of h2⟩, fun D hD => by
    have z0 : CompW H1 ds f D 0 (upd H1 D (.lst [])) := ⟨hD, Ex.new hD, [], upd_same, rfl⟩
    refine lc_tup (K := K) (a := a) (xs := xs) (CompW H1 ds f D) z0 (fun i H' _ p => SqT.of (p.2.1 a _ h2)) (fun i x H' hx p => ?_) fun H' p => ?_
    · obtain ⟨d, hd, dx⟩ := DdL.get' h3 hx
      exact comp_turn C t hz (s.ex e1) hd (Dd.ex p.2.1 _ _ dx) p
    · obtain ⟨p1, p2, acc, p3, p4⟩ := p
      have el : ds.take xs.length = ds := by rw [h3.len, List.take_length]
      rw [el] at p4
      exact q _ H' (e1.trans p2) ⟨D, acc, rfl, p3, p4⟩⟩
theorem ed_lcL {tl : TE} {g : TG} {tt : TT} {te : TE} {vs : List Nat} {f : PyData → Option PyData} (h : Ed tl Γ (.list ds)) (C : CompOk g tt te Γ vs ds f) (t : ∀ d ∈ ds, ∀ e, f d = some e → Fl0 e = true) (hz : ds.length ≤ 40000) :
    Ed (tLc (iList K tl) g tt te vs) Γ (.list (given f ds)) := fun σ H s Q q =>
  h σ H s _ fun v H1 e1 ⟨a, xs, h1, h2, h3⟩ => ⟨a, h1, ⟨xs, SqL.of h2⟩, fun D hD => by
    have z0 : CompW H1 ds f D 0 (upd H1 D (.lst [])) := ⟨hD, Ex.new hD, [], upd_same, rfl⟩
    refine lc_list (K := K) (a := a) (xs := xs) (CompW H1 ds f D) z0 (fun i H' _ p => SqL.of (p.2.1 a _ h2)) (fun i x H' hx p => ?_) fun H' p => ?_
    · obtain ⟨d, hd, dx⟩ := DdL.get' h3 hx
      exact comp_turn C t hz (s.ex e1) hd (Dd.ex p.2.1 _ _ dx) p
    · obtain ⟨p1, p2, acc, p3, p4⟩ := p
      have el : ds.take xs.length = ds := by rw [h3.len, List.take_length]
      rw [el] at p4
      exact q _ H' (e1.trans p2) ⟨D, acc, rfl, p3, p4⟩⟩

/-! ### statements: the next slots' data, or what is returned -/
def Fin (D : Ends) (H : Hp) : Gm ⊕ PyData → Prop
  | .inl Γ' => ∀ σ' H', Ex H H' → Sl H' σ' Γ' → D.nx σ' H'
  | .inr d => ∀ v H', Ex H H' → Dd H' d v → D.rt v H'
theorem Fin.ex {D : Ends} {H H' : Hp} (e : Ex H H') : ∀ {o : Gm ⊕ PyData}, Fin D H o → Fin D H' o
  | .inl _, f => fun σ' H2 e2 => f σ' H2 (e.trans e2)
  | .inr _, f => fun v H2 e2 => f v H2 (e.trans e2)
def S (t : TS) (Γ : Gm) (o : Gm ⊕ PyData) : Prop := ∀ (D : Ends) σ H, Sl H σ Γ → Fin D H o → t D σ H
variable {te ta tb : TE} {t u w : TS} {c : TT} {d : PyData} {b : Bool} {o : Gm ⊕ PyData} {Γ' : Gm}
theorem s_asg {k : Nat} (h : Ed te Γ d) : S (tAsg te (gName k)) Γ (.inl (Γ.set k (some d))) := fun D σ H s f => h σ H s _ fun v H1 e1 dv => f _ H1 e1 ((s.ex e1).set k dv)
theorem s_asgT {ks : List Nat} {ds : List PyData} (h : Ed te Γ (.tuple ds)) (l : ks.length = ds.length) : S (tAsg te (gTup K ks.length (gNames ks))) Γ (.inl (setsG Γ ks ds)) := fun D σ H s f => h σ H s _ fun v H1 e1 ⟨a, xs, h1, h2, h3⟩ =>
  ⟨a, xs, h1, SqT.of h2, by rw [h3.len, l], gNames_run (vs := ks) l (s.ex e1) h3 (fun _ m => m) _ fun σ' s' _ => f σ' H1 e1 s'⟩
theorem s_par {i j : Nat} {d e : PyData} (h1 : Ed ta Γ d) (h2 : Ed tb Γ e) : S (tPar i j (tCons ta (tCons tb tNil))) Γ (.inl ((Γ.set i (some d)).set j (some e))) := fun D σ H s f =>
  h1 σ H s _ fun x H1 e1 dx => h2 σ H1 (s.ex e1) _ fun y H2 e2 dy => ⟨x, y, rfl, f _ H2 (e1.trans e2) (((s.ex (e1.trans e2)).set i (Dd.ex e2 _ _ dx)).set j dy)⟩
theorem s_par3 {i j l : Nat} {tc : TE} {d e g : PyData} (h1 : Ed ta Γ d) (h2 : Ed tb Γ e) (h3 : Ed tc Γ g) : S (tPar3 i j l (tCons ta (tCons tb (tCons tc tNil)))) Γ (.inl (((Γ.set i (some d)).set j (some e)).set l (some g))) := fun D σ H s f =>
  h1 σ H s _ fun x H1 e1 dx => h2 σ H1 (s.ex e1) _ fun y H2 e2 dy => h3 σ H2 (s.ex (e1.trans e2)) _ fun z H3 e3 dz => ⟨x, y, z, rfl, f _ H3 ((e1.trans e2).trans e3) ((((s.ex ((e1.trans e2).trans e3)).set i (Dd.ex (e2.trans e3) _ _ dx)).set j (Dd.ex e3 _ _ dy)).set l dz)⟩
theorem s_ret (h : Ed te Γ d) : S (tRet te) Γ (.inr d) := fun D σ H s f => h σ H s _ fun v H1 e1 dv => f v H1 e1 dv
theorem s_next : S tNext Γ (.inl Γ) := fun D σ H s f => f σ H (Ex.refl H) s
theorem s_drop (h : Ed te Γ d) : S (tDrop te) Γ (.inl Γ) := fun D σ H s f => h σ H s _ fun v H1 e1 dv => f σ H1 e1 (s.ex e1)
theorem s_seq (h1 : S t Γ (.inl Γ')) (h2 : S u Γ' o) : S (tSeq t u) Γ o := fun D σ H s f => h1 { D with nx := u D } σ H s fun σ' H' e s' => h2 D σ' H' s' (f.ex e)
theorem s_ends {d : PyData} (h1 : S t Γ (.inr d)) : S (tSeq t u) Γ (.inr d) := fun D σ H s f => h1 { D with nx := u D } σ H s f
theorem s_if (h : Et c Γ b) (h1 : b = true → S t Γ o) (h2 : b = false → S u Γ o) : S (tIfS c t u) Γ o := fun D σ H s f => h σ H s _ fun H1 e1 => by
  cases b with
  | true => exact h1 rfl D σ H1 (s.ex e1) (f.ex e1)
  | false => exact h2 rfl D σ H1 (s.ex e1) (f.ex e1)
/-- if c: (leaves) behind it the rest -/
theorem s_ifr (h : Et c Γ b) (h1 : b = true → S t Γ (.inr d)) (h2 : b = false → S w Γ (.inr d)) : S (tSeq (tIfS c t tNext) w) Γ (.inr d) := fun D σ H s f => h σ H s _ fun H1 e1 => by
  cases b with
  | true => exact h1 rfl { D with nx := w D } σ H1 (s.ex e1) (f.ex e1)
  | false => exact h2 rfl D σ H1 (s.ex e1) (f.ex e1)
/-- if c: (never) behind it the rest -/
theorem s_ifn (h : Et c Γ false) (h2 : S w Γ o) : S (tSeq (tIfS c t tNext) w) Γ o := fun D σ H s f => h σ H s _ fun H1 e1 => h2 D σ H1 (s.ex e1) (f.ex e1)
theorem s_ifn1 (h : Et c Γ false) : S (tIfS c t tNext) Γ (.inl Γ) := fun D σ H s f => h σ H s _ fun H1 e1 => f σ H1 e1 (s.ex e1)
theorem S.forget {Δ : Gm} (h : S t Γ (.inl Γ')) (l : Δ.length = Γ'.length) (hf : ∀ (i : Nat) (d : PyData), Δ[i]? = some (some d) → Γ'[i]? = some (some d)) : S t Γ (.inl Δ) := fun D σ H s f => h D σ H s fun σ' H' e s' => f σ' H' e (s'.forget l hf)
theorem S.weak {Δ : Gm} (h : S t Δ o) (l : Δ.length = Γ.length) (hf : ∀ (i : Nat) (d : PyData), Δ[i]? = some (some d) → Γ[i]? = some (some d)) : S t Γ o := fun D σ H s f => h D σ H (s.forget l hf) f

/-! ### loops over data: the slots' data by the turn -/
def TgN (g : TG) (Γ : Gm) (d : PyData) (Γ' : Gm) : Prop := ∀ σ H x, Sl H σ Γ → Dd H d x → ∀ Q : L2.St → Hp → Prop, (∀ σ', Sl H σ' Γ' → Q σ' H) → g x σ H Q
theorem tn_name {k : Nat} : TgN (gName k) Γ d (Γ.set k (some d)) := fun σ H x s dx Q q => q _ (s.set k dx)
theorem tn_tup {ks : List Nat} {ds : List PyData} (l : ks.length = ds.length) : TgN (gTup K ks.length (gNames ks)) Γ (.tuple ds) (setsG Γ ks ds) := fun σ H x s ⟨a, xs, h1, h2, h3⟩ Q q =>
  ⟨a, xs, h1, SqT.of h2, by rw [h3.len, l], gNames_run (vs := ks) l s h3 (fun _ m => m) Q fun σ' s' _ => q σ' s'⟩
/-- where the loop leads: to G n, or out at the first turn that returns -/
theorem s_forT {tl : TE} {g : TG} {tb : TS} (G : Nat → Gm) (h : Ed tl (G 0) (.tuple ds)) (hs : ∀ (i : Nat) (d : PyData), ds[i]? = some d → ∃ Γ', TgN g (G i) d Γ' ∧ S tb Γ' (.inl (G (i + 1)))) : S (tFor (iTup K tl) g tb) (G 0) (.inl (G ds.length)) := fun D σ H s f =>
  h σ H s _ fun v H1 e1 ⟨a, xs, h1, h2, h3⟩ => ⟨a, h1, ⟨xs, SqT.of h2⟩, for_tup (K := K) (xs := xs) (fun i σ' H' => Ex H1 H' ∧ Sl H' σ' (G i)) ⟨Ex.refl H1, s.ex e1⟩ (fun i σ' H' _ p => SqT.of (p.1 a _ h2))
    (fun i x σ' H' hx p => by
      obtain ⟨d, hd, dx⟩ := DdL.get' h3 hx
      obtain ⟨Γ', t1, t2⟩ := hs i d hd
      exact t1 σ' H' x p.2 (Dd.ex p.1 _ _ dx) _ fun σ2 s2 => t2 _ σ2 H' s2 fun σ3 H3 e3 s3 => ⟨p.1.trans e3, s3⟩)
    fun σ' H' p => f σ' H' (e1.trans p.1) (by have z := p.2; rw [h3.len] at z; exact z)⟩
theorem s_forL {tl : TE} {g : TG} {tb : TS} (G : Nat → Gm) (h : Ed tl (G 0) (.list ds)) (hs : ∀ (i : Nat) (d : PyData), ds[i]? = some d → ∃ Γ', TgN g (G i) d Γ' ∧ S tb Γ' (.inl (G (i + 1)))) : S (tFor (iList K tl) g tb) (G 0) (.inl (G ds.length)) := fun D σ H s f =>
  h σ H s _ fun v H1 e1 ⟨a, xs, h1, h2, h3⟩ => ⟨a, h1, ⟨xs, SqL.of h2⟩, for_list (K := K) (xs := xs) (fun i σ' H' => Ex H1 H' ∧ Sl H' σ' (G i)) ⟨Ex.refl H1, s.ex e1⟩ (fun i σ' H' _ p => SqL.of (p.1 a _ h2))
    (fun i x σ' H' hx p => by
      obtain ⟨d, hd, dx⟩ := DdL.get' h3 hx
      obtain ⟨Γ', t1, t2⟩ := hs i d hd
      exact t1 σ' H' x p.2 (Dd.ex p.1 _ _ dx) _ fun σ2 s2 => t2 _ σ2 H' s2 fun σ3 H3 e3 s3 => ⟨p.1.trans e3, s3⟩)
    fun σ' H' p => f σ' H' (e1.trans p.1) (by have z := p.2; rw [h3.len] at z; exact z)⟩
theorem s_forR {ta : TA} {tb : TS} {k : Nat} {n : Nat} (G : Nat → Gm) (h : Ea ta (G 0) [.int (n : Int)]) (hn : n ≤ 100000) (hs : ∀ (i : Nat), i < n → S tb ((G i).set k (some (.int (i : Int)))) (.inl (G (i + 1)))) : S (tFor (iRng1 ta) (gName k) tb) (G 0) (.inl (G n)) := fun D σ H s f =>
  h σ H s _ fun vs H1 e1 dv => by
    obtain ⟨x, rfl, hx⟩ := dd1 dv
    cases (show x = V.int (n : Int) from hx)
    refine ⟨(n : Int), rfl, by omega, by omega, ?_⟩
    rw [Int.toNat_natCast]
    refine for_range (lo := 0) (n := n) (fun i σ' H' => Ex H1 H' ∧ Sl H' σ' (G i)) ⟨Ex.refl H1, s.ex e1⟩ (fun i σ' H' hi p => ?_) fun σ' H' p => f σ' H' (e1.trans p.1) p.2
    refine hs i hi _ _ H' (p.2.set k (by show V.int _ = V.int _; rw [Int.zero_add])) fun σ3 H3 e3 s3 => ⟨p.1.trans e3, s3⟩

/-! ### a pure def by its body -/
theorem sl_start {H : Hp} {N : List Str} {ds : List PyData} {vs : List V} (h : DdL H ds vs) : Sl H (L2.start N vs) (ds.map some ++ List.replicate (N.length - ds.length) none) := by
  unfold L2.start
  refine ⟨by simp [h.len], fun i d e => ?_⟩
  by_cases hi : i < ds.length
  · rw [List.getElem?_append_left (by simpa using hi), List.getElem?_map] at e
    cases z : ds[i]? with
    | none => rw [z] at e; cases e
    | some d' =>
      rw [z] at e
      cases e
      obtain ⟨x, e1, e2⟩ := h.get z
      refine ⟨x, ?_, e2⟩
      rw [List.getElem?_append_left (by simp [h.len]; exact hi), List.getElem?_map, e1]
      rfl
  · rw [List.getElem?_append_right (by simpa using hi), List.getElem?_replicate] at e
    split at e <;> cases e
/-- .. that ends with a return of d, or runs out where d is None -/
theorem fin_top {H : Hp} {Q : VK} {d : PyData} (q : ∀ v H', Ex H H' → Dd H' d v → Q v H') : Fin { nx := fun _ H' => Q .non H', rt := Q } H (.inr d) := q
variable {P : Program} {w' : World} {mg : Str → Option Value} {base : Heap}
theorem pure_ok {x qual : Str} {st : Stmt} {f : Addr} {fd : FuncData} {N ps : List Str} {k : Nat} {rel : List PyData → PyData → Prop} (F : Fun K x qual st f fd) (S0 : FnScope N ps (defScope st)) (len : ∀ ds d, rel ds d → ds.length = ps.length)
    (hbody : ∀ (cdv : Value) (A : Around) (outer : List Env) (s : Shared) (H : Hp) (E : XK), Room k (A.deeper (envOfC qual (defScope st) s.heap.objs.size f cdv)) →
      ∃ t, PSs (cxOf CX0 P w' K mg base N qual (defScope st) f cdv A outer s H E).nox (defBody st) t ∧ ∀ ds d, rel ds d → S t (ds.map some ++ List.replicate (N.length - ds.length) none) (.inr d)) : FnOk P w' K mg base CX0 (k + 1) f fd ps (spD rel) := by
  refine F.ok S0 (fun vs H Q E h => ?_) (fun cdv A outer s H vs Q E hr h => ?_)
  · obtain ⟨ds, d, h1, h2, _⟩ := h
    rw [h2.len]
    exact len ds d h1
  · obtain ⟨t, h1, h2⟩ := hbody cdv A outer s H E hr
    obtain ⟨ds, d, r, hd, q⟩ := h
    exact ⟨t, h1, h2 ds d r _ _ H (sl_start hd) (fin_top q)⟩
/-- .. of a def that runs out: it gives None -/
theorem pure_none {x qual : Str} {st : Stmt} {f : Addr} {fd : FuncData} {N ps : List Str} {k : Nat} {rel : List PyData → Prop} (F : Fun K x qual st f fd) (S0 : FnScope N ps (defScope st)) (len : ∀ ds, rel ds → ds.length = ps.length)
    (hbody : ∀ (cdv : Value) (A : Around) (outer : List Env) (s : Shared) (H : Hp) (E : XK), Room k (A.deeper (envOfC qual (defScope st) s.heap.objs.size f cdv)) →
      ∃ t, PSs (cxOf CX0 P w' K mg base N qual (defScope st) f cdv A outer s H E).nox (defBody st) t ∧ ∀ ds, rel ds → ∃ Γ', S t (ds.map some ++ List.replicate (N.length - ds.length) none) (.inl Γ')) : FnOk P w' K mg base CX0 (k + 1) f fd ps (spD fun ds d => rel ds ∧ d = .none) := by
  refine F.ok S0 (fun vs H Q E h => ?_) (fun cdv A outer s H vs Q E hr h => ?_)
  · obtain ⟨ds, d, h1, h2, _⟩ := h
    rw [h2.len]
    exact len ds h1.1
  · obtain ⟨t, h1, h2⟩ := hbody cdv A outer s H E hr
    obtain ⟨ds, d, r, hd, q⟩ := h
    obtain ⟨Γ', h3⟩ := h2 ds r.1
    refine ⟨t, h1, h3 _ _ H (sl_start hd) fun σ' H' e _ => ?_⟩
    rw [r.2] at q
    exact q .non H' e rfl
end
end Fb
/-! Rules that this proof needs beside the layer's: dicts with tuple keys walked by keys(), sorted, made of pairs, made by a comprehension; enumerate, set and sorted of a tuple. -/
namespace Fb
open PySem PySem.Spec PyProof.Rows L2
open Evl (Ex)

section
variable {X : Cx} {tg e : Expr} {td : TE} {apos cpos : Pos}
/-! ### for k in d.keys(), the keys tuples -/
def iKeysMT (td : TE) : TI := fun σ H R => td σ H fun x H1 => ∃ d o kvs, x = V.ref d ∧ H1 d = some (HO.frz o (HO.dT kvs)) ∧ R (Itkt d o kvs) H1
theorem pi_keysMT (he : PE X e td) (hbase : attributeBase e "keys" X.env (eval e X.env) = eval e X.env := by rfl) (hline : (apos.endLine == cpos.line) = true := by rfl) :
    PI X tg (.Call (.Attribute e "keys" apos) [] [] cpos) (iKeysMT td) := by
  refine ⟨fun pins s σ H R I h => ?_⟩
  refine wpAny_Call_method (T := "dict") (id := "dict.keys") hbase rfl hline F.plainAttrs_dict F.slot_dict_keys F.type_dict_keys (thn (he.run pins s σ H _ I h) fun u s1 hu => ?_)
  obtain ⟨x, H1, I1, rx, d, o, kvs, ex, hd, q⟩ := hu
  subst ex
  cases (show u = Value.ref d from rx)
  obtain ⟨hs, hgd, hx, es, ep, hdt, hsz, ent⟩ := I1.frzT hd
  have raw : s1.heap.DictRaw d es ep := ⟨o, hgd, hx, hdt⟩
  refine ⟨raw.typeIs, fun a ea => (by cases ea; exact ⟨o, hgd, hx.2.1⟩), ?_⟩
  have I2 : Inv X pins σ H1 { s1 with heap := s1.heap.push { cls := .type "dict_keys", data := .fields #[.ref d] } } := I1.kept (t' := s1.toks) fun b ob z => Heap.get?_push_of_some _ z
  have fin : wpAny (model X.prog X.w) X.A (pyIter (.ref s1.heap.objs.size)) (PIE X pins σ tg R) X.xe { s1 with heap := s1.heap.push { cls := .type "dict_keys", data := .fields #[.ref d] } } := by
    refine wpAny_pyIter_keys_raw (d := d) ⟨_, Heap.get?_push_size _ rfl, rfl, rfl⟩ (raw.push _) (pi_one (tk := s1.toks) I2 _ (turn_keysT _ hdt) ⟨_, Heap.get?_push_size _ rfl, rfl, ?_⟩ q)
    rw [hsz] <;> rfl
  show wpAny _ _ (callWith cpos (.builtin "dict.keys") [.ref d] [] []) _ X.xe s1
  exact method_meetsIn F.slot_dict_keys F.entry_dict_keys rfl (PySem.evalArgs_none ⟨rfl, raw.typeIs, F.args_dict_keys_1 _, _, meets_dict_keys_raw d hs, ⟨es, ep, raw⟩, fin⟩)
/-- over the locked dict's keys -/
theorem for_keysT {d : Addr} {od : Obj} {kvs : List (List Key × V)} {g : TG} {tb : TS} {D : Ends} {σ : L2.St} {H : Hp} (Pv : Nat → L2.St → Hp → Prop) (h0 : Pv 0 σ H) (hl : ∀ i σ H, Pv i σ H → H d = some (.frz od (.dT kvs)))
    (hs : ∀ (i : Nat) (k : List Key) (v : V) (q : Addr) σ H, kvs[i]? = some (k, v) → H q = some (.tup (k.map kV)) → Pv i σ H → g (.ref q) σ H fun σ2 H2 => tb { D with nx := Pv (i + 1), ct := Pv (i + 1), bk := D.nx } σ2 H2)
    (hd : ∀ σ H, Pv kvs.length σ H → D.nx σ H) :
    ∃ W : Nat → Nat → L2.St → Hp → Prop, (∃ m, W 0 m σ H) ∧ ∀ i m σ H, W i m σ H → ((Itkt d od kvs).stop i H ∧ D.nx σ H) ∨ ((Itkt d od kvs).go i H ∧ ∃ N : L2.St → Hp → Prop, (∀ σ' H', N σ' H' → ∃ m', m' < m ∧ W (i + 1) m' σ' H') ∧
      ∀ x H', (Itkt d od kvs).yld i H x H' → g x σ H' fun σ2 H2 => tb { D with nx := N, ct := N, bk := D.nx } σ2 H2) := by
  refine ⟨fun i m σ H => m = kvs.length - i ∧ i ≤ kvs.length ∧ Pv i σ H, ⟨kvs.length, rfl, Nat.zero_le _, h0⟩, fun i m σ H w => ?_⟩
  obtain ⟨rfl, hi, p⟩ := w
  rcases Nat.lt_or_ge i kvs.length with l | l
  · refine .inr ⟨⟨hl i σ H p, l⟩, Pv (i + 1), fun σ' H' p' => ⟨kvs.length - (i + 1), by omega, rfl, l, p'⟩, fun x H' y => ?_⟩
    obtain ⟨rfl, k, v, q, h1, rfl, h3⟩ := y
    exact hs i k v q σ H' h1 h3 p
  · have ei : i = kvs.length := Nat.le_antisymm hi l
    subst ei
    exact .inl ⟨⟨hl _ σ H p, Nat.le_refl _⟩, hd σ H p⟩
end

/-! ### sorted of what is collected -/
section
variable {P : Program} {w : World} {A : Around} {E : Value → Shared → Prop} {s : Shared} {β : Type} {bs : List β} {enc : β → PyData} {Rr : Value → β → Prop} {r : Value} {Q : Value → Shared → Prop}
theorem sorted_col (hal : PySem.W.AllAlike (bs.map enc)) (hk : PySem.W.Sortable (bs.map enc)) (hL : bs.length ≤ sizeLine) (hu : ∀ b, b ∈ bs → A.units + 2 + (enc b).depth < cLine)
    (col : ∀ R : List Value → Shared → Prop, (∀ (h' : Heap) (tk : Nat) (vs : List Value), (∀ b o, s.heap.get? b = some o → h'.get? b = some o) → PySem.W.EachIs Rr vs bs → PySem.W.EachIs (fun v b => ∃ as, Reads h' v (enc b) as ∧ ∀ a ∈ as, a < h'.objs.size) vs bs → R vs { s with heap := h', toks := tk }) → wpAny (model P w) A.in1 (collect r) R E s)
    (h : ∀ (h1 h2 : Heap) (tk : Nat) (out : List Value) (c : Nat), (∀ b o, s.heap.get? b = some o → h1.get? b = some o) → (∀ b o, h1.get? b = some o → h2.get? b = some o) → h2.get? h1.objs.size = some { cls := .type "list", data := .seq out.toArray c } → PySem.W.EachIs Rr out (bs.mergeSort (PySem.W.dataLe false enc)) → Q (.ref h1.objs.size) { s with heap := h2, toks := tk }) :
    wpAny (model P w) A (call (.builtin "sorted") [r]) Q E s := by
  refine PySem.Calls.call_function_entry kind_sorted plain_sorted entry_sorted (args_sorted1 _) ?_
  unfold Builtin.«sorted»
  refine wpAny_bind (m := checkCount "sorted" 1 1 _) (wpAny_pure ?_)
  refine wpAny_bind (col _ fun h' tk vs kp e1 e2 => ?_)
  have lv : vs.length = bs.length := e1.length
  refine wpAny_bind (wpAny_newList ?_ (by rw [lv]; exact hL))
  have at0 : (h'.push { cls := .type "list", data := .seq vs.toArray }).get? h'.objs.size = some (seqObj "list" vs.toArray 0) := Heap.get?_push_size _ rfl
  have kp1 : ∀ b o, h'.get? b = some o → (h'.push { cls := .type "list", data := .seq vs.toArray }).get? b = some o := fun b o e => Heap.get?_push_of_some _ e
  have e3 : PySem.W.EachIs (fun v b => ∃ as, Reads (h'.push { cls := .type "list", data := .seq vs.toArray }) v (enc b) as ∧ h'.objs.size ∉ as) vs bs :=
    e2.mono fun v b ⟨as, h1, h2⟩ => ⟨as, Reads.keeps kp1 h1, fun m => Nat.lt_irrefl _ (h2 _ m)⟩
  refine wpAny_bind (wpAny_holding ?_)
  refine PySem.W.list_sort_data (R := Rr) (bs := bs) (enc := enc) (vs := vs) at0 e1 e3 hal hk hL (fun b hb => ?_) fun out ho eo => ?_
  · have := hu b hb
    show A.in1.units + 1 + _ < _
    have e : A.in1.units = A.units + 1 := rfl
    omega
  · refine wpAny_pure ⟨_, rfl, ?_⟩
    obtain ⟨c, hc⟩ := sortedHeap_at (out := out.toArray) at0
    exact h h' _ tk out c kp (fun b o e => by
      have hlt : b < h'.objs.size := Heap.lt_size e
      have hlt2 : b < (h'.push { cls := .type "list", data := .seq vs.toArray }).objs.size := by
        rw [Heap.size_push]
        exact Nat.lt_succ_of_lt hlt
      rw [sortedHeap_old (Nat.ne_of_lt hlt) hlt2]
      exact kp1 b o e) hc eo
end
/-- data that are read -/
theorem reads_of {X : Cx} {pins : List (Addr × Obj)} {σ : L2.St} {H : Hp} {s : Shared} (I : Inv X pins σ H s) : ∀ {ds : List PyData} {xs : List V} {us : List Value}, FlL ds = true → DdL H ds xs → Vals xs us → PySem.W.EachIs (fun u d => (∃ x, RelV x u ∧ Dd H d x) ∧ ∃ as, Reads s.heap u d as) us ds
  | [], _, _, _, h, r => by
    cases (show _ = [] from h)
    cases r
    exact .nil
  | d :: ds, _, _, t, ⟨x, ys, h1, h2, h3⟩, r => by
    have t' : Fl0 d = true ∧ FlL ds = true := by
      have z : (Fl0 d && FlL ds) = true := t
      simpa using z
    subst h1
    cases r with
    | cons r1 r2 => exact .cons ⟨⟨x, r1, h2⟩, Dp.reads I d x _ (Dd.dp d x (fl_lay d t'.1) h2) r1⟩ (reads_of I t'.2 h3 r2)
theorem vals_of {H : Hp} : ∀ {us : List Value} {ds : List PyData}, PySem.W.EachIs (fun u d => ∃ x, RelV x u ∧ Dd H d x) us ds → ∃ xs, Vals xs us ∧ DdL H ds xs
  | _, _, .nil => ⟨[], .nil, rfl⟩
  | _, _, .cons ⟨x, r, h⟩ t => by
    obtain ⟨xs, r2, h2⟩ := vals_of t
    exact ⟨x :: xs, .cons r r2, x, xs, rfl, h, h2⟩
mutual
theorem reads_flat {h : Heap} : ∀ {d : PyData} {v : Value} {as : List Addr}, Fl0 d = true → Reads h v d as → as = []
  | .none, _, _, _, r => by cases r; rfl
  | .bool _, _, _, _, r => by cases r; rfl
  | .int _, _, _, _, r => by cases r; rfl
  | .str _, _, _, t, _ => nomatch t
  | .list _, _, _, t, _ => nomatch t
  | .tuple ds, _, _, t, r => by
    cases r with
    | tuple h1 h2 h3 h4 => exact readsAll_flat (ds := ds) t h4
  | .dict _, _, _, t, _ => nomatch t
theorem readsAll_flat {h : Heap} : ∀ {ds : List PyData} {vs : List Value} {as : List Addr}, FlL ds = true → ReadsAll h vs ds as → as = []
  | [], _, _, _, r => by cases r; rfl
  | d :: ds, _, _, t, r => by
    have t' : Fl0 d = true ∧ FlL ds = true := by
      have z : (Fl0 d && FlL ds) = true := t
      simpa using z
    cases r with
    | cons h1 h2 => rw [reads_flat t'.1 h1, readsAll_flat t'.2 h2]; rfl
end
section
variable {X : Cx}
/-- sorted(t), t a tuple of data that compare; the same of d.keys() -/
structure SortsD (ds : List PyData) : Prop where
  al : PySem.W.AllAlike ds
  ok : PySem.W.Sortable ds
  fl : FlL ds = true
  few : ds.length ≤ 100000
  deep : ∀ d ∈ ds, d.depth ≤ 8
def sortD (ds : List PyData) : List PyData := ds.mergeSort (PySem.W.dataLe false id)
def rSortedTup : List V → Hp → VK → Prop := fun vs H Q => ∃ (a : Addr) (xs : List V) (ds : List PyData), vs = [V.ref a] ∧ H a = some (HO.tup xs) ∧ DdL H ds xs ∧ SortsD ds ∧ ∀ ys p, DdL H (sortD ds) ys → H p = none → Q (.ref p) (upd H p (.lst ys))
theorem cr_sortedTup (hu : X.A.units + 64 < cLine) : CallR X (.builtin "sorted") rSortedTup := by
  intro pins s σ H vs us Q I r h
  obtain ⟨a, xs, ds, rfl, ha, hd, hs, q⟩ := h
  rw [Vals.ref1 r]
  obtain ⟨z, its, rv, o, ho, hc, n, hdat⟩ := I.hok a _ ha
  have each := reads_of I hs.fl hd rv
  have fall : ∀ d ∈ ds, Fl0 d = true := by
    have key : ∀ l : List PyData, FlL l = true → ∀ d ∈ l, Fl0 d = true := by
      intro l
      induction l with
      | nil => intro _ d m; exact nomatch m
      | cons e l ih =>
        intro t d m
        have t' : Fl0 e = true ∧ FlL l = true := by
          have z : (Fl0 e && FlL l) = true := t
          simpa using z
        rcases List.mem_cons.mp m with rfl | m
        · exact t'.1
        · exact ih t'.2 d m
    exact key ds hs.fl
  have hmap : ds.map id = ds := List.map_id ds
  refine sorted_col (bs := ds) (enc := id) (Rr := fun u d => ∃ x, RelV x u ∧ Dd H d x) (by rw [hmap]; exact hs.al) (by rw [hmap]; exact hs.ok) (Evl.sz_of hs.few) (fun d m => ?_) (fun R hR => ?_) fun h1 h2 tk out c k1 k2 hp eo => ?_
  · have := hs.deep d m
    show X.A.units + 2 + d.depth < cLine
    omega
  · refine wpAny_collect_seq a (.inr rfl) ho hc hdat (fun h' k => ?_) (by simpa [← rv.length] using z)
    refine hR h' s.toks its.toArray.toList k ?_ ?_
    · exact each.mono fun u d x => x.1
    · refine (PySem.W.each_mem each).mono fun u d x => ?_
      obtain ⟨⟨_, as, rd⟩, m⟩ := x
      exact ⟨as, Reads.keeps k rd, fun b hb => by rw [reads_flat (fall d m) rd] at hb; exact nomatch hb⟩
  · obtain ⟨ys, ry, dy⟩ := vals_of eo
    have I1 : Inv X pins σ H { s with heap := h1, toks := tk } := I.kept k1
    have lz : ys.length ≤ sizeLine := by
      rw [dy.len, List.length_mergeSort]
      exact Evl.sz_of hs.few
    have I2 : Inv X pins σ (upd H h1.objs.size (.lst ys)) { s with heap := h2, toks := tk } := I1.laid (s := { s with heap := h1, toks := tk }) (t' := tk) k2 (Nat.le_refl _) ⟨lz, out, c, ry, hp⟩
    exact ⟨.ref h1.objs.size, _, I2, rfl, q ys _ dy (I1.hok.fresh (Nat.le_refl _))⟩
end

/-! ### d.keys() as a value, sorted -/
theorem kP_inj {p q : P2} (h : kP p = kP q) : p = q := by
  rcases p with ⟨x, y⟩
  rcases q with ⟨u, v⟩
  simp only [kP, List.cons.injEq, Sum.inl.injEq, and_true] at h
  rw [h.1, h.2]
theorem dd_pD {H : Hp} {p : P2} {v : V} : Dd H (pD p) v ↔ ∃ a, v = V.ref a ∧ H a = some (HO.tup ((kP p).map kV)) := by
  constructor
  · rintro ⟨a, xs, h1, h2, x, ys, rfl, h3, y, zs, rfl, h4, h5⟩
    cases (show x = V.int p.1 from h3)
    cases (show y = V.int p.2 from h4)
    cases (show zs = [] from h5)
    exact ⟨a, h1, h2⟩
  · rintro ⟨a, h1, h2⟩
    exact ⟨a, _, h1, h2, _, _, rfl, rfl, _, _, rfl, rfl, rfl⟩
theorem kv_get {m : List (P2 × V)} {i : Nat} {k : List Key} {v : V} (h : (kv m)[i]? = some (k, v)) : ∃ p, m[i]? = some (p, v) ∧ k = kP p := by
  unfold kv at h
  rw [List.getElem?_map] at h
  cases e : m[i]? with
  | none => rw [e] at h; cases h
  | some q => rw [e] at h; cases h; exact ⟨q.1, rfl, rfl⟩
theorem valV_kv (m : List (P2 × V)) (p : P2) : valV (kv m) (kP p) = valV m p := by
  induction m with
  | nil => rfl
  | cons e m ih =>
    show valV ((kP e.1, e.2) :: kv m) (kP p) = _
    by_cases z : e.1 = p
    · rw [valV_pos (by show kP e.1 = kP p; rw [z]), valV_pos z]
    · rw [valV_neg (fun w => z (kP_inj w)), valV_neg z, ih]
theorem putK_kv (m : List (P2 × V)) (p : P2) (v : V) : putK (kv m) (kP p) v = kv (putK m p v) := by
  have e1 : ((kv m).any fun q => decide (q.1 = kP p)) = m.any fun q => decide (q.1 = p) := by
    rw [valV_any, valV_any, valV_kv]
  unfold putK
  rw [e1]
  split
  · unfold kv
    rw [List.map_map, List.map_map]
    refine List.map_congr_left fun q _ => ?_
    show (if kP q.1 = kP p then (kP q.1, v) else (kP q.1, q.2)) = _
    by_cases z : q.1 = p
    · rw [if_pos (by rw [z])]
      show _ = (kP (if q.1 = p then (q.1, v) else q).1, (if q.1 = p then (q.1, v) else q).2)
      rw [if_pos z]
    · rw [if_neg fun w => z (kP_inj w)]
      show _ = (kP (if q.1 = p then (q.1, v) else q).1, (if q.1 = p then (q.1, v) else q).2)
      rw [if_neg z]
  · unfold kv
    rw [List.map_append]
    rfl
theorem kv_length (m : List (P2 × V)) : (kv m).length = m.length := List.length_map ..

def keysO (p d : Addr) : HO := .ext fun h => PySem.W.KdlKeysView h p d
theorem keysO_ok {P : Program} {w : World} {H : Hp} {h : Heap} {p d : Addr} (e : h.get? p = some { cls := .type "dict_keys", data := .fields #[.ref d] }) : ObjOk P w H h p (keysO p d) :=
  ⟨⟨_, e, rfl, rfl⟩, ⟨_, e⟩, fun h1 h2 x k => let ⟨o, ho, r1, r2⟩ := x; ⟨o, k o ho, r1, r2⟩⟩
theorem raw_of {X : Cx} {pins : List (Addr × Obj)} {σ : L2.St} {H : Hp} {s : Shared} {a : Addr} {m : List (P2 × V)} (I : Inv X pins σ H s) (h : H a = some (HO.dT (kv m))) :
    (a == sysModules) = false ∧ ∃ es ep, s.heap.DictRaw a es ep ∧ es.size = m.length ∧ ∀ (i : Nat) (e : P2 × V), m[i]? = some e → ∃ en q, es[i]? = some en ∧ en.key = Value.ref q ∧ H q = some (HO.tup ((kP e.1).map kV)) := by
  obtain ⟨z, hs, xs, pr, o, es, ep, ho, hx, hdt, he, hn⟩ := I.hok a _ h
  refine ⟨hs, es, ep, ⟨o, ho, hx, hdt⟩, ?_, fun i e hi => ?_⟩
  · rw [size_of_entries he, ← Paired.length pr, kv_length]
  · obtain ⟨b, hb, e1, e2, _⟩ := paired_get pr (show (kv m)[i]? = some (kP e.1, e.2) by unfold kv; rw [List.getElem?_map, hi]; rfl)
    have q := entry_at he i
    rw [hb] at q
    exact ⟨_, b.2.1, q, rfl, e2⟩
section
variable {X : Cx}
def rKeysT : V → List V → Hp → VK → Prop := fun x xs H Q => ∃ (a : Addr) (m : List (P2 × V)), x = .ref a ∧ xs = [] ∧ H a = some (HO.dT (kv m)) ∧ ∀ p, H p = none → Q (.ref p) (upd H p (keysO p a))
theorem mt_keysT : MtR X "dict.keys" rKeysT := by
  intro pins s σ H x xs v us Q I rx rxs h
  obtain ⟨a, m, rfl, rfl, ha, q⟩ := h
  cases rx
  cases rxs
  obtain ⟨hs, es, ep, raw, _⟩ := raw_of I ha
  have fr : H s.heap.objs.size = none := I.hok.fresh (Nat.le_refl _)
  refine call_meetsIn PySem.F.slot_dict_keys raw.typeIs PySem.F.entry_dict_keys (PySem.F.args_dict_keys_1 _) (meets_dict_keys_raw a hs) ⟨⟨es, ep, raw⟩, ?_⟩
  exact ⟨.ref s.heap.objs.size, upd H s.heap.objs.size (keysO s.heap.objs.size a), I.laid (t' := s.toks) (fun b u e => Heap.get?_push_of_some _ e) (Nat.le_refl _) (keysO_ok (Heap.get?_push_size _ rfl)), rfl, q _ fr⟩
theorem pD_sorts {l : List P2} (h : l.length ≤ 100000) : SortsD (l.map pD) where
  al := by
    refine PySem.W.AllAlike.of (enc := pD) fun p q => ?_
    exact (PySem.W.alike_ints [p.1, p.2] [q.1, q.2])
  ok := PySem.W.Sortable.tuples (enc := pD) fun p => ⟨_, _, rfl⟩
  fl := tol_mem fun d m => by
    obtain ⟨p, _, rfl⟩ := List.mem_map.mp m
    rfl
  few := by rw [List.length_map]; exact h
  deep := fun d m => by
    obtain ⟨p, _, rfl⟩ := List.mem_map.mp m
    show PyData.depth (.tuple [.int p.1, .int p.2]) ≤ 8
    have e : PyData.depthAll ([p.1, p.2].map PyData.int) = 0 := PySem.W.depth_ints [p.1, p.2]
    have e2 : PyData.depthAll [.int p.1, .int p.2] = 0 := e
    simp only [PyData.depth, e2]
    omega
def rSortedKeys : List V → Hp → VK → Prop := fun vs H Q => ∃ (p a : Addr) (m : List (P2 × V)), vs = [V.ref p] ∧ H p = some (keysO p a) ∧ H a = some (HO.dT (kv m)) ∧ m.length ≤ 100000 ∧ ∀ ys q, DdL H (sortD (m.map fun e => pD e.1)) ys → H q = none → Q (.ref q) (upd H q (.lst ys))
theorem cr_sortedKeys (hc : X.calm = true) (hu : X.A.units + 64 < cLine) : CallR X (.builtin "sorted") rSortedKeys := by
  intro pins s σ H vs us Q I r h
  obtain ⟨p, a, m, rfl, hp, ha, hm, q⟩ := h
  rw [Vals.ref1 r]
  obtain ⟨hs, es, ep, raw, hsz, ent⟩ := raw_of I ha
  have view : PySem.W.KdlKeysView s.heap p a := (I.hok p _ hp).1
  have emap : (m.map fun e => pD e.1) = (m.map (·.1)).map pD := by rw [List.map_map]; rfl
  have so := pD_sorts (l := m.map (·.1)) (by rw [List.length_map]; exact hm)
  rw [← emap] at so
  have hmap : (m.map fun e => pD e.1).map id = m.map fun e => pD e.1 := List.map_id _
  have line : es.size ≤ sizeLine := by rw [hsz]; exact Evl.sz_of hm
  refine sorted_col (bs := m.map fun e => pD e.1) (enc := id) (Rr := fun u d => ∃ x, RelV x u ∧ Dd H d x) (by rw [hmap]; exact so.al) (by rw [hmap]; exact so.ok) (Evl.sz_of so.few) (fun d md => ?_) (fun R hR => ?_) fun h1 h2 tk out c k1 k2 hq eo => ?_
  · have := so.deep d md
    show X.A.units + 2 + d.depth < cLine
    omega
  · refine PySem.W.kdu_collect PySem.KdlSrc.rawKeys (show X.A.in1.handled = none from I.ok.hd hc) (⟨view, raw⟩ : _ ∧ _) line fun h' tk acc k items => ?_
    have J : Inv X pins σ H { s with heap := h', toks := tk } := I.kept k
    obtain ⟨n1, n2⟩ := items
    have key : ∀ (l : List Value) (m' : List (P2 × V)), l.length = m'.length → (∀ (i : Nat) (v : Value) (e : P2 × V), l[i]? = some v → m'[i]? = some e → ∃ q, v = Value.ref q ∧ H q = some (HO.tup ((kP e.1).map kV))) → PySem.W.EachIs (fun v d => ∃ x, RelV x v ∧ Dd H d x) l (m'.map fun e => pD e.1) := by
      intro l
      induction l with
      | nil =>
        intro m' l1 _
        cases m' with
        | nil => exact .nil
        | cons e m' => simp at l1
      | cons v l ih =>
        intro m' l1 hh
        cases m' with
        | nil => simp at l1
        | cons e m' =>
          obtain ⟨q, e1, e2⟩ := hh 0 v e rfl rfl
          exact .cons ⟨V.ref q, e1, dd_pD.mpr ⟨q, rfl, e2⟩⟩ (ih m' (by simpa using l1) fun i v' e' h1 h2 => hh (i + 1) v' e' h1 h2)
    have E1 := key acc.toList m (by rw [Array.length_toList, n1, hsz]) fun i v e h1 h2 => by
      obtain ⟨hi, e1⟩ := n2 i v (by rw [← Array.getElem?_toList]; exact h1)
      obtain ⟨en, q, e2, e3, e4⟩ := ent i e h2
      rw [Array.getElem?_eq_getElem hi] at e2
      cases e2
      exact ⟨q, e1.trans e3, e4⟩
    refine hR h' tk acc.toList k E1 ((PySem.W.each_mem E1).mono fun u d x => ?_)
    obtain ⟨⟨x, rx, dx⟩, md⟩ := x
    obtain ⟨as, rd⟩ := Dp.reads J d x u (Dd.dp d x (by obtain ⟨e, _, rfl⟩ := List.mem_map.mp md; rfl) dx) rx
    refine ⟨as, rd, fun b hb => ?_⟩
    obtain ⟨e, _, rfl⟩ := List.mem_map.mp md
    rw [reads_flat (d := pD e.1) rfl rd] at hb
    exact nomatch hb
  · obtain ⟨ys, ry, dy⟩ := vals_of eo
    have I1 : Inv X pins σ H { s with heap := h1, toks := tk } := I.kept k1
    have lz : ys.length ≤ sizeLine := by
      rw [dy.len, List.length_mergeSort]
      exact Evl.sz_of so.few
    have I2 : Inv X pins σ (upd H h1.objs.size (.lst ys)) { s with heap := h2, toks := tk } := I1.laid (s := { s with heap := h1, toks := tk }) (t' := tk) k2 (Nat.le_refl _) ⟨lz, out, c, ry, hq⟩
    exact ⟨.ref h1.objs.size, _, I2, rfl, q ys _ dy (I1.hok.fresh (Nat.le_refl _))⟩

/-! ### set(t), t a tuple of ints -/
def rSetTup (w : World) : List V → Hp → VK → Prop := fun vs H Q => ∃ (a : Addr) (ns : List Int), vs = [V.ref a] ∧ H a = some (HO.tup (ns.map V.int)) ∧ ns.length ≤ 50 ∧ ∀ p c, H p = none → c ≤ ns.length → Q (.ref p) (upd H p (SetO w p (fun j => decide (j ∈ ns)) c))
theorem cr_setTup (hc : X.calm = true) : CallR X (.type "set") (rSetTup X.w) := by
  intro pins s σ H vs us Q I r h
  obtain ⟨a, ns, rfl, ha, hl, q⟩ := h
  rw [Vals.ref1 r]
  obtain ⟨its, rv, pt, hz⟩ := I.tuple (SqT.of ha)
  have hi : IntsAre its.toArray.toList ns := by rw [List.toList_toArray]; exact Vals.ints rv
  refine call_set_tupI ns (I.ok.hd hc) (show s.heap.IsTuple a its.toArray from pt) hi (by unfold scanBound; omega) fun h' tk c R1 hcn k => ?_
  refine ⟨.ref s.heap.objs.size, _, I.laid (t' := tk) k (Nat.le_refl _) (setO_new R1), rfl, q _ c (I.hok.fresh (Nat.le_refl _)) hcn⟩
end

/-! ### dict(pairs), the keys places -/
theorem vV_of {H : Hp} : ∀ {d : PyData} {v : V}, scD d = true → Dd H d v → v = vV d
  | .none, _, _, h => h
  | .int _, _, _, h => h
  | .bool _, _, _, h => h
  | .str _, _, t, _ => nomatch t
  | .list _, _, t, _ => nomatch t
  | .tuple _, _, t, _ => nomatch t
  | .dict _, _, t, _ => nomatch t
def pairD (e : P2 × PyData) : PyData := .tuple [pD e.1, e.2]
def putAll (m : List (P2 × PyData)) (acc : List (P2 × V)) : List (P2 × V) := m.foldl (fun acc e => putK acc e.1 (vV e.2)) acc
theorem putAll_nodup : ∀ {m : List (P2 × PyData)} {acc : List (P2 × V)}, (m.map (·.1)).Nodup → (∀ e ∈ m, e.1 ∉ acc.map (·.1)) → putAll m acc = acc ++ m.map fun e => (e.1, vV e.2)
  | [], acc, _, _ => by show acc = acc ++ []; rw [List.append_nil]
  | e :: m, acc, h, k => by
    obtain ⟨h1, h2⟩ := List.nodup_cons.mp h
    show putAll m (putK acc e.1 (vV e.2)) = _
    have n : valV acc e.1 = none := by
      cases z : valV acc e.1 with
      | none => rfl
      | some v => exact absurd (valV_in z) (k e (List.mem_cons_self ..))
    rw [putK_new _ n, putAll_nodup h2 fun x hx => ?_, List.append_assoc]
    · rfl
    · rw [List.map_append, List.mem_append]
      rintro (z | z)
      · exact k x (List.mem_cons_of_mem _ hx) z
      · have z' : x.1 = e.1 := by simpa using z
        exact h1 (List.mem_map.mpr ⟨x, hx, z'⟩)
theorem putAll_len : ∀ (m : List (P2 × PyData)) (acc : List (P2 × V)), (putAll m acc).length ≤ acc.length + m.length
  | [], acc => Nat.le_refl _
  | e :: m, acc => by
    show (putAll m (putK acc e.1 (vV e.2))).length ≤ _
    have h1 := putAll_len m (putK acc e.1 (vV e.2))
    have h2 := length_putK acc e.1 (vV e.2)
    rw [List.length_cons]
    omega
theorem kt_putAll {H : Hp} : ∀ {m : List (P2 × PyData)} {ps : List (List Key × Addr × Value)} {acc : List (P2 × V)} {xs : List (List Key × Addr × Value)}, Paired (fun (e : P2 × PyData) (p : List Key × Addr × Value) => p.1 = kP e.1 ∧ H p.2.1 = some (HO.tup ((kP e.1).map kV)) ∧ RelV (vV e.2) p.2.2) m ps →
    KT H (kv acc) xs → KT H (kv (putAll m acc)) (storedAllH xs ps)
  | [], _, acc, xs, .nil, k => k
  | e :: m, p :: ps, acc, xs, .cons ⟨h1, h2, h3⟩ t, k => by
    show KT H (kv (putAll m (putK acc e.1 (vV e.2)))) (storedAllH (storedH xs p.1 p.2.1 p.2.2) ps)
    refine kt_putAll t ?_
    rw [← putK_kv, h1]
    exact KT.put k (kP e.1) h2 h3
section
variable {X : Cx}
theorem pairs_raw {pins : List (Addr × Obj)} {σ : L2.St} {H : Hp} {s : Shared} (I : Inv X pins σ H s) : ∀ {m : List (P2 × PyData)} {xs : List V} {us : List Value}, (∀ e ∈ m, scD e.2 = true) → DdL H (m.map pairD) xs → Vals xs us →
    ∃ (Ts : List Addr) (ps : List (List Key × Addr × Value)), us = Ts.map Value.ref ∧ Ts.length = ps.length ∧ (∀ (j : Nat) p T, ps[j]? = some p → Ts[j]? = some T → PairAt s.heap T (.ref p.2.1) p.2.2) ∧
      Paired (fun (e : P2 × PyData) (p : List Key × Addr × Value) => p.1 = kP e.1 ∧ H p.2.1 = some (HO.tup ((kP e.1).map kV)) ∧ RelV (vV e.2) p.2.2) m ps
  | [], _, _, _, h, r => by
    cases (show _ = [] from h)
    cases r
    exact ⟨[], [], rfl, rfl, fun j p T h => by simp at h, .nil⟩
  | e :: m, _, _, hsc, ⟨x, ys, h1, h2, h3⟩, r => by
    subst h1
    cases r with
    | @cons _ u _ us r1 r2 =>
      obtain ⟨Ts, ps, rfl, hl, hp, hk⟩ := pairs_raw I (fun e' he => hsc e' (List.mem_cons_of_mem _ he)) h3 r2
      obtain ⟨t, zs, rfl, ht, kx, z1, rfl, hkx, vx, z2, rfl, hvx, z3⟩ := h2
      cases (show z2 = [] from z3)
      obtain ⟨q, rfl, hq⟩ := dd_pD.mp hkx
      have ev := vV_of (hsc e (List.mem_cons_self ..)) hvx
      subst ev
      cases (show u = Value.ref t from r1)
      obtain ⟨zz, its, rv, pt⟩ := I.hok t _ ht
      cases rv with
      | @cons _ uq _ _ rq rv2 =>
        cases rv2 with
        | @cons _ uv _ _ rvv rv3 =>
          cases rv3
          cases (show uq = Value.ref q from rq)
          refine ⟨t :: Ts, (kP e.1, q, uv) :: ps, rfl, by rw [List.length_cons, List.length_cons, hl], fun j p T hj hT => ?_, .cons ⟨rfl, hq, rvv⟩ hk⟩
          cases j with
          | zero =>
            cases hj
            cases hT
            exact .inl (show s.heap.IsTuple t #[Value.ref q, uv] from pt)
          | succ j => exact hp j p T hj hT
theorem paired_at {α β : Type} {G : α → β → Prop} : ∀ {l₁ : List α} {l₂ : List β} {i : Nat} {b : β}, Paired G l₁ l₂ → l₂[i]? = some b → ∃ a, l₁[i]? = some a ∧ G a b
  | _, _, _, _, .nil, h => by simp at h
  | _, _, 0, _, .cons r _, h => by cases h; exact ⟨_, rfl, r⟩
  | _, _, i + 1, _, .cons _ t, h => paired_at (i := i) t h
def rDictPT : List V → Hp → VK → Prop := fun vs H Q => ∃ (l : Addr) (xs : List V) (m : List (P2 × PyData)), vs = [V.ref l] ∧ H l = some (HO.lst xs) ∧ DdL H (m.map pairD) xs ∧ (∀ e ∈ m, scD e.2 = true) ∧ m.length ≤ 100000 ∧ ∀ p, H p = none → Q (.ref p) (upd H p (.dT (kv (putAll m []))))
theorem cr_dictPT (hc : X.calm = true) (hu : X.A.units + 64 < cLine) : CallR X (.type "dict") rDictPT := by
  intro pins s σ H vs us Q I r h
  obtain ⟨l, xs, m, rfl, hl, hd, hsc, hm, q⟩ := h
  rw [Vals.ref1 r]
  obtain ⟨z, its, n, rv, ho⟩ := I.hok l _ hl
  obtain ⟨Ts, ps, rfl, e2, e3, e4⟩ := pairs_raw I hsc hd rv
  have lps : m.length = ps.length := Paired.length e4
  have fr : H s.heap.objs.size = none := I.hok.fresh (Nat.le_refl _)
  have hi : (s.heap.objs.size == sysModules) = false := beq_eq_false_iff_ne.mpr (Nat.ne_of_gt I.big)
  refine call_dict_pairsH (knd := tupleKind (mixKind X.prog X.w)) (ps := ps) (PairArg.list l (Ts.map Value.ref).toArray (fun j => Ts.getD j 0) (ps.map fun p => (Value.ref p.2.1, p.2.2))) (I.ok.hd hc) (by show X.A.in1.in1.units < cLine; have e : X.A.in1.in1.units = X.A.units + 1 + 1 := rfl; omega)
    ⟨⟨_, n, ho, rfl, rfl, rfl⟩, by simp [e2], fun j k v hj => ?_⟩ ⟨by simp, fun i key v hi => ?_⟩ (fun h' kh x hx => ?_) (by rw [List.length_map, ← lps]; exact Evl.sz_of hm) fun h' tk dd kp => ?_
  · rw [List.getElem?_map] at hj
    cases ep : ps[j]? with
    | none => rw [ep] at hj; cases hj
    | some p =>
      rw [ep] at hj
      cases hj
      have jl : j < Ts.length := by rw [e2]; exact (List.getElem?_eq_some_iff.mp ep).1
      have eT : Ts[j]? = some Ts[j] := List.getElem?_eq_getElem jl
      have eD : Ts.getD j 0 = Ts[j] := by rw [List.getD_eq_getElem?_getD, eT]; rfl
      show (Ts.map Value.ref).toArray[j]? = some (Value.ref (Ts.getD j 0)) ∧ PairAt s.heap (Ts.getD j 0) _ _
      rw [eD]
      refine ⟨by simp [eT], e3 j p _ ep eT⟩
  · have hi' : (ps.map fun p => (Value.ref p.2.1, p.2.2))[i]? = some (key, v) := hi
    rw [List.getElem?_map] at hi'
    cases ep : ps[i]? with
    | none => rw [ep] at hi'; cases hi'
    | some p => rw [ep] at hi'; cases hi'; exact ⟨p.1, p.2.1, rfl, rfl⟩
  · obtain ⟨i, hx'⟩ := List.getElem?_of_mem hx
    obtain ⟨e, _, k1, k2, _⟩ := paired_at e4 hx'
    rw [k1]
    refine key_of (P := X.prog) (w := X.w) (H := H) (I.hok.kept fun b o eb => kh b o (Nat.ne_of_lt (Heap.lt_size eb)) (by simp) eb) k2
  · have kp' : ∀ b o, s.heap.get? b = some o → h'.get? b = some o := fun b o eb => kp b o (by simp) eb
    have kt : KT H (kv (putAll m [])) (storedAllH [] ps) := kt_putAll e4 .nil
    obtain ⟨o, es, ep, h1, h2, h3, h4, _, h5⟩ := dd
    have new : ObjOk X.prog X.w (upd H s.heap.objs.size (.dT (kv (putAll m [])))) h' s.heap.objs.size (.dT (kv (putAll m []))) := by
      refine ⟨?_, hi, _, kt.keeps fun b ys eb => ?_, o, es, ep, h1, h2, h3, h4, h5⟩
      rotate_left
      · rw [upd_ne (ne_of_none eb fr)]
        exact eb
      rw [kv_length]
      have := putAll_len m []
      exact Evl.sz_of (by simp at this; omega)
    exact ⟨.ref s.heap.objs.size, _, I.laid (t' := tk) kp' (Nat.le_refl _) new, rfl, q _ fr⟩
end

/-! ### for i, x in enumerate(t), t a tuple -/
set_option maxHeartbeats 4000000 in
theorem enum_new1 {v : Value} {o : Obj} {G : Heap → Prop} (B : Begins v o G) :
    Meets (Builtin.«enumerate.__new__» ⟨[.type "enumerate", v], []⟩) (fun _ R s => G s.heap ∧
      R (.ok (.ret (.ref (s.heap.push o).objs.size))) { s with heap := (s.heap.push o).push { cls := .type "enumerate", data := .fields #[.none, .bool false, .ref s.heap.objs.size, rawInt 0, .none, .none] } }) :=
  .of_wp fun prog w A R s h => by
    obtain ⟨hp, g, d, tk, os⟩ := s
    obtain ⟨h1, h2⟩ := h
    have hsub := sub_enumerate
    have it : ∀ {A' : Around} {E : Value → Shared → Prop} {Q : Value → Shared → Prop}, Q (.ref hp.objs.size) ⟨hp.push o, g, d, tk, os⟩ → wpAny (model prog w) A' (pyIter v) Q E ⟨hp, g, d, tk, os⟩ :=
      fun q => B.iter prog w _ _ ⟨hp, g, d, tk, os⟩ _ h1 q
    wp_walk using it
    refine wpAny_stack_any fun st => wpAny_pure ?_
    split
    · rename_i c _ _ _ _ _
      cases (c == Value.type "enumerate") <;> (wp_walk using it; exact ⟨_, rfl, h2⟩)
    · wp_walk using it
      exact ⟨_, rfl, h2⟩
section
variable {prog : Program} {w : World} {A : Around} {E : Value → Shared → Prop} {s : Shared}
theorem enum_call1 {v : Value} {o : Obj} {G : Heap → Prop} {Q : Value → Shared → Prop} (B : Begins v o G) (h1 : G s.heap)
    (h : ∀ h', IsEnum h' (s.heap.objs.size + 1) s.heap.objs.size 0 .none → h'.get? s.heap.objs.size = some o → (∀ b o, s.heap.get? b = some o → h'.get? b = some o) → Q (.ref (s.heap.objs.size + 1)) { s with heap := h' }) :
    wpAny (model prog w) A (call (.type "enumerate") [v]) Q E s := by
  refine callType_new F.called_enumerate (by decide) (F.typeCall_enumerate_1 _) (F.newCall_enumerate_1 _) (fun obj => F.args_object_init_2 obj _) F.entry_enumerate_new (enum_new1 B) ⟨h1, ?_⟩
  have sz : (s.heap.push o).objs.size = s.heap.objs.size + 1 := Heap.size_push ..
  have he := Heap.get?_push_size (s.heap.push o) (o := { cls := .type "enumerate", data := .fields #[.none, .bool false, .ref s.heap.objs.size, rawInt 0, .none, .none] }) rfl
  rw [sz] at he
  show _ ∧ _
  rw [sz]
  exact ⟨⟨_, he, rfl⟩, h _ he (Heap.get?_push_of_some _ (Heap.get?_push_size _ B.free)) fun b o x => Heap.get?_push_of_some _ (Heap.get?_push_of_some _ x)⟩
end
/-- the tuple at a, each item in a new pair -/
def ItE (a : Addr) : It :=
  ⟨fun i H => ∃ (xs : List V) (x : V), H a = some (HO.tup xs) ∧ xs[i]? = some x,
   fun i H v H' => ∃ T x, v = V.ref T ∧ H T = none ∧ H' = upd H T (.tup [.int (i : Nat), x]) ∧ ∀ xs, H a = some (HO.tup xs) → xs[i]? = some x,
   fun i H => ∃ xs : List V, H a = some (HO.tup xs) ∧ xs.length = i⟩
theorem turn_enumT {P : Program} {w : World} {K : PySem.W.Frag} {elts : List Expr} {kk : Nat} {tpos : Pos} (a e it : Addr) :
    Turn P w K (.Tuple elts kk tpos) (ItE a) [e, it] e (fun i h => (∃ old, IsEnum h e it ((i : Nat) : Int) old) ∧ h.IsTupleIter it a i ∧ e ≠ it ∧ a ≠ it ∧ e ≠ a) where
  mem := List.mem_cons_self ..
  obj := fun i h st b hb => by
    obtain ⟨⟨old, he⟩, ⟨o, ho, hc, hd⟩, _⟩ := st
    rcases List.mem_cons.mp hb with z | z
    · rw [z]
      exact ⟨_, he, fun v q => nomatch q⟩
    · exact ⟨o, by rw [List.mem_singleton.mp z]; exact ho, fun v q => by rw [hd] at q; cases q⟩
  keep := fun i h h' st k => by
    obtain ⟨⟨old, he⟩, hi, r⟩ := st
    exact ⟨⟨old, k e (List.mem_cons_self ..) _ he⟩, hi.at fun o q => k it (List.mem_cons_of_mem _ (List.mem_singleton.mpr rfl)) o q, r⟩
  item := fun X hP hw hK hc i pins s σ H E I hf st hg => by
    subst hP hw hK
    obtain ⟨⟨old, he⟩, hit, hne, hai, hea⟩ := st
    obtain ⟨xs, x, hq, hx⟩ := hg
    obtain ⟨its, rv, pt, hz⟩ := I.tuple (SqT.of hq)
    have le := Heap.lt_size he
    have li : it < s.heap.objs.size := by obtain ⟨_, q, _⟩ := hit; exact Heap.lt_size q
    have hlen : i < its.toArray.size := by
      rw [List.size_toArray, ← rv.length]
      exact (List.getElem?_eq_some_iff.mp hx).1
    have D := Draws.tuple (prog := X.prog) (w := X.w) (A := X.A.in1) (show X.A.in1.handled = none from I.ok.hd hc) it a hai its.toArray
    refine wpAny_pyNext_enum_itemD D he ⟨hit, (show s.heap.IsTuple a its.toArray from pt)⟩ hlen hne (by simp [hne, hea]) fun u h' tk hu ho st' hT hsz hk => ⟨_, rfl, ?_⟩
    refine wpAny_letOwnedTupleGo_enum (s := { s with heap := h', toks := tk + 1 }) ho fun h2 he2 sb => ?_
    obtain ⟨u', hu', ru⟩ := rv.get hx
    have eu : u = u' := by
      have q : its.toArray[i]? = some u := hu
      rw [List.getElem?_toArray, hu'] at q
      exact (Option.some.inj q).symm
    subst eu
    have t2 : h2.get? s.heap.objs.size = some { cls := .type "tuple", data := .seq #[.int i tk, u] } := (sb.2 _ (Nat.ne_of_gt le)).trans hT
    have new : ObjOk X.prog X.w (upd H s.heap.objs.size (.tup [.int (i : Nat), x])) h2 s.heap.objs.size (.tup [.int (i : Nat), x]) :=
      ⟨by show 2 ≤ sizeLine; decide, [.int i tk, u], .cons ⟨_, rfl⟩ (.cons ru .nil), ⟨_, t2, rfl, _, rfl⟩⟩
    have kept : ∀ b ob, b ∉ [e, it] → s.heap.get? b = some ob → h2.get? b = some ob := fun b ob hb q => by
      have b1 : b ≠ e := fun z => hb (by simp [z])
      have b2 : b ≠ it := fun z => hb (by simp [z])
      exact (sb.2 b b1).trans (hk b ob b1 b2 q)
    have J := I.turnedNew (t' := tk + 1) (ch := [e, it]) kept hf (Nat.le_refl _) new
    have fr : H s.heap.objs.size = none := I.hok.fresh (Nat.le_refl _)
    refine ⟨.ref s.heap.objs.size, _, J, rfl, ⟨_, x, rfl, fr, rfl, fun ys hy => ?_⟩, ⟨⟨u, ?_⟩, st'.1.at fun o q => (sb.2 it (Ne.symm hne)).trans q, hne, hai, hea⟩, fun b hb => ?_⟩
    · rw [hq] at hy
      cases hy
      exact hx
    · have ei : ((i + 1 : Nat) : Int) = (i : Int) + 1 := rfl
      rw [ei]
      exact he2
    · have lb : b < s.heap.objs.size := by
        rcases List.mem_cons.mp hb with z | z
        · rw [z]; exact le
        · rw [List.mem_singleton.mp z]; exact li
      rw [upd_ne (Nat.ne_of_lt lb)]
      exact (hf b hb).1
  done := fun X hP hw hK hc i pins s σ H E I hf st hg => by
    subst hP hw hK
    obtain ⟨⟨old, he⟩, hit, hne, hai, hea⟩ := st
    obtain ⟨xs, hq, hx⟩ := hg
    obtain ⟨its, rv, pt, hz⟩ := I.tuple (SqT.of hq)
    obtain ⟨f0, f1, f2, f3, f4, f5⟩ := hf it (List.mem_cons_of_mem _ (List.mem_singleton.mpr rfl))
    have l2 : its.toArray.size = i := by rw [List.size_toArray, ← rv.length]; exact hx
    have D := Draws.tuple (prog := X.prog) (w := X.w) (A := X.A.in1) (show X.A.in1.handled = none from I.ok.hd hc) it a hai its.toArray
    rw [← l2] at hit
    exact wpAny_pyNext_enum_endD D he ⟨hit, (show s.heap.IsTuple a its.toArray from pt)⟩ fun h' eb => ⟨rfl, I.turned (t' := s.toks) (fun b o hb q => eb b o hb q) f0 f1 f3 f4 f5⟩
  self := fun A i s Q E st h => by
    obtain ⟨⟨_, he⟩, _⟩ := st
    exact wpAny_pyIter_enum he h

def iEnumT (ta : TA) : TI := fun σ H R => ta σ H fun vs H1 => ∃ a xs, vs = [V.ref a] ∧ H1 a = some (HO.tup xs) ∧ R (ItE a) H1
theorem pi_enumT {X : Cx} {e : Expr} {ta : TA} {p pos tpos : Pos} {elts : List Expr} {kk : Nat} (hg : Gl X "enumerate") (hm : X.mg "enumerate" = none) (ha : PA X [e] ta) (hs : starEach [e] X.env = [(false, eval e X.env)] := by rfl) :
    PI X (.Tuple elts kk tpos) (.Call (.Name "enumerate" p) [e] [] pos) (iEnumT ta) := by
  refine ⟨fun pins s σ H R I h => ?_⟩
  refine Call_ (ld_blt I hg hm boot_enumerate (PyProof.Rows.callWith_type1 (thn (ha.run pos pins s σ H _ I h) fun us s1 hu => ?_) hs rfl))
  obtain ⟨vs, H1, I1, r1, a, xs, rfl, hq, q⟩ := hu
  rw [Vals.ref1 r1]
  obtain ⟨its, rv, pt, hz⟩ := I1.tuple (SqT.of hq)
  have al : a < s1.heap.objs.size := pt.lt
  refine enum_call1 (begins_tuple a its.toArray) (show s1.heap.IsTuple a its.toArray from pt) fun h' he hit hk => wpAny_pyIter_enum he ?_
  have I2 : Inv X pins σ H1 { s1 with heap := h' } := I1.kept (t' := s1.toks) hk
  refine ⟨s1.heap.objs.size + 1, [s1.heap.objs.size + 1, s1.heap.objs.size], _, _, H1, rfl, I2, turn_enumT a (s1.heap.objs.size + 1) s1.heap.objs.size, ⟨⟨.none, he⟩, ⟨_, hit, rfl, rfl⟩, Nat.succ_ne_self _, Nat.ne_of_lt al, Nat.ne_of_gt (Nat.lt_succ_of_lt al)⟩, fun b hb => ?_, q⟩
  have hle : s1.heap.objs.size ≤ b := by
    rcases List.mem_cons.mp hb with z | z
    · rw [z]; exact Nat.le_succ _
    · rw [List.mem_singleton.mp z]; exact Nat.le_refl _
  exact I1.fpOk hle (I1.hok.fresh hle)
/-- over a tuple that stands still -/
theorem for_enumT {a : Addr} {xs : List V} {g : TG} {tb : TS} {D : Ends} {σ : L2.St} {H : Hp} (Pv : Nat → L2.St → Hp → Prop) (h0 : Pv 0 σ H) (hl : ∀ i σ H, Pv i σ H → H a = some (.tup xs))
    (hs : ∀ (i : Nat) (x : V) (T : Addr) σ H, xs[i]? = some x → H T = none → Pv i σ H → g (.ref T) σ (upd H T (.tup [.int (i : Nat), x])) fun σ2 H2 => tb { D with nx := Pv (i + 1), ct := Pv (i + 1), bk := D.nx } σ2 H2)
    (hd : ∀ σ H, Pv xs.length σ H → D.nx σ H) :
    ∃ W : Nat → Nat → L2.St → Hp → Prop, (∃ m, W 0 m σ H) ∧ ∀ i m σ H, W i m σ H → ((ItE a).stop i H ∧ D.nx σ H) ∨ ((ItE a).go i H ∧ ∃ N : L2.St → Hp → Prop, (∀ σ' H', N σ' H' → ∃ m', m' < m ∧ W (i + 1) m' σ' H') ∧
      ∀ x H', (ItE a).yld i H x H' → g x σ H' fun σ2 H2 => tb { D with nx := N, ct := N, bk := D.nx } σ2 H2) := by
  refine ⟨fun i m σ H => m = xs.length - i ∧ i ≤ xs.length ∧ Pv i σ H, ⟨xs.length, rfl, Nat.zero_le _, h0⟩, fun i m σ H w => ?_⟩
  obtain ⟨rfl, hi, p⟩ := w
  rcases Nat.lt_or_ge i xs.length with l | l
  · refine .inr ⟨⟨xs, xs[i], hl i σ H p, List.getElem?_eq_getElem l⟩, Pv (i + 1), fun σ' H' p' => ⟨xs.length - (i + 1), by omega, rfl, l, p'⟩, fun x H' y => ?_⟩
    obtain ⟨T, x, rfl, fr, rfl, hx⟩ := y
    exact hs i x T σ H (hx xs (hl i σ H p)) fr p
  · have ei : i = xs.length := Nat.le_antisymm hi l
    subst ei
    exact .inl ⟨⟨xs, hl _ σ H p, rfl⟩, hd σ H p⟩

/-! ### {key: value for target in iter}, the keys tuples -/
theorem put_tup {X : Cx} {pins : List (Addr × Obj)} {σ : L2.St} {H : Hp} {s : Shared} {E : Value → Shared → Prop} {D b : Addr} {kvs : List (List Key × V)} {k : List Key} {v : V} {r : Value} {Q : Unit → Shared → Prop} (hu : X.A.units < cLine) (I : Inv X pins σ H s)
    (hD : H D = some (.dT kvs)) (hb : H b = some (.tup (k.map kV))) (hz : kvs.length < sizeLine) (rv : RelV v r) (h : ∀ s', Inv X pins σ (upd H D (.dT (putK kvs k v))) s' → Q () s') : wpAny (model X.prog X.w) X.A (dictSet D (.ref b) r) Q E s := by
  obtain ⟨z, low, xs, kt, dd⟩ := dt_of I.hok hD
  have zx : xs.length ≤ sizeLine := Nat.le_trans (Nat.le_of_eq (Paired.length kt).symm) z
  have zl : (putK kvs k v).length ≤ sizeLine := Nat.le_trans (length_putK kvs k v) hz
  refine wpAny_dictSet_heap (knd := tupleKind (mixKind X.prog X.w)) (hsz := zx) hu (key_of I.hok hb) dd fun h' dd' same => h _ ?_
  obtain ⟨o, es, ep, o1, o2, o3, o4, _, o6⟩ := dd'
  have new : ObjOk X.prog X.w (upd H D (.dT (putK kvs k v))) h' D (.dT (putK kvs k v)) := by
    refine ⟨zl, low, _, (KT.put kt k hb rv).keeps fun c ys ec => ?_, o, es, ep, o1, o2, o3, o4, o6⟩
    have cd : c ≠ D := ne_of ec hD fun z => nomatch z
    rw [upd_ne cd]
    exact ec
  exact d_write I (by rw [hD]; exact True.intro) same ⟨o, o1⟩ new
section
variable {X : Cx}
def tDcT (wi : TI) (g : TG) (tk tv : TE) (vs : List Nat) : TE := fun σ H Q => wi σ H fun J H1 => ∀ D, H1 D = none → ∃ W : Nat → Nat → Hp → Prop, (∃ m, W 0 m (upd H1 D (.dT []))) ∧ ∀ i m H, W i m H →
  (J.stop i H ∧ Q (.ref D) H) ∨
  (J.go i H ∧ ∃ N : Hp → Prop, (∀ H', N H' → ∃ m', m' < m ∧ W (i + 1) m' H') ∧ ∀ x H', J.yld i H x H' → g x (L2.wipe σ vs) H' fun σ2 H2 => L2.wipe σ2 vs = L2.wipe σ vs ∧
    tk σ2 H2 fun y H3 => tv σ2 H3 fun z H4 => ∃ b kvs k, y = V.ref b ∧ H4 b = some (.tup (k.map kV)) ∧ H4 D = some (.dT kvs) ∧ kvs.length < sizeLine ∧ N (upd H4 D (.dT (putK kvs k z))))
theorem pe_dcT {kx vx tg iter : Expr} {scope : Scope} {own : List (Str × Nat)} {pos : Pos} {wi : TI} {g : TG} {tk tv : TE} (hc : X.calm = true) (hu : X.A.units < cLine) (hN : X.N.Nodup) (hi : PI X tg iter wi) (ok : BlkOk X.N X.env.scope scope own)
    (hg : ∀ (s : Shared) (H : Hp) (C : Addr) (cl : List (Str × Addr)) (fp : List Addr), PG (X.blk s H scope (compEnvC scope cl C X.env) fp) tg g)
    (hk : ∀ (s : Shared) (H : Hp) (C : Addr) (cl : List (Str × Addr)) (fp : List Addr), PE (X.blk s H scope (compEnvC scope cl C X.env) fp) kx tk)
    (hv : ∀ (s : Shared) (H : Hp) (C : Addr) (cl : List (Str × Addr)) (fp : List Addr), PE (X.blk s H scope (compEnvC scope cl C X.env) fp) vx tv) (hs : ∀ x, foldedSetIterable iter X.env x = pure x := by intro _; rfl) :
    PE X (.DictComp kx vx [⟨tg, iter, [], 0⟩] scope pos) (tDcT wi g tk tv (own.map (·.2))) := by
  refine ⟨fun pins s σ H Q I h => ?_⟩
  have closes : ∀ y ∈ scope.names, y.2 = .free → ∃ c, X.env.cells.lookup y.1 = some c := fun y hy e => (ok.free y hy e).elim (fun z => I.ok.has _ (.inl z)) fun z => I.ok.has _ (.inr z)
  rw [arm_eval_DictComp]
  refine wpAny_comprehension_free rfl hs (closure_ok closes) ok.kind (fun y hy e => by rw [ok.uniq y hy, e]) (thn (hi.run pins s σ H _ I h) fun xv s1 hx => thn hx fun itv s2 h2 => ?_)
  obtain ⟨it, fp, tn, J, H2, rfl, I2, T, st2, f2, q⟩ := h2
  refine wpAny_newObj_type (newEnv_comp ?_)
  -- the new dict at D
  obtain ⟨D, hD⟩ : ∃ D, D = s2.heap.objs.size := ⟨_, rfl⟩
  have hDn : H2 D = none := I2.hok.fresh (Nat.le_of_eq hD.symm)
  obtain ⟨W, ⟨m0, w0⟩, turn⟩ := q D hDn
  rw [← hD]
  have old : ∀ b ∈ fp, b < D := fun b hb => by
    obtain ⟨o, e, _⟩ := T.obj _ _ st2 b hb
    rw [hD]
    exact Heap.lt_size e
  obtain ⟨s3, hs3⟩ : ∃ s3 : Shared, s3 = { s2 with heap := s2.heap.push { cls := .type "dict", data := .dict #[] } } := ⟨_, rfl⟩
  have k3 : ∀ b o, s2.heap.get? b = some o → s3.heap.get? b = some o := fun b o e => by
    rw [hs3]
    exact Heap.get?_push_of_some _ e
  have I3 : Inv X pins σ (upd H2 D (.dT [])) s3 := by
    rw [hs3, hD]
    exact I2.laid (t' := s2.toks) (fun b o e => Heap.get?_push_of_some _ e) (Nat.le_refl _) (dt_empty s2.heap I2.big)
  have sz3 : s3.heap.objs.size = D + 1 := by rw [hs3, hD]; exact Heap.size_push ..
  have fp3 : ∀ b ∈ fp, FpOk X pins (upd H2 D (.dT [])) b ∧ b < s3.heap.objs.size := fun b hb => by
    have l := old b hb
    refine ⟨⟨?_, (f2 b hb).2⟩, by rw [sz3]; exact Nat.lt_succ_of_lt l⟩
    rw [upd_ne (Nat.ne_of_lt l)]
    exact (f2 b hb).1
  have st3 : tn 0 s3.heap := T.keep _ _ _ st2 fun b _ o e => k3 b o e
  have I4 := block_start I3 ok hN fp3
  obtain ⟨cl, hcl⟩ : ∃ cl, cl = cellsFrom (s3.heap.objs.size + 1) scope.names (cloFrom X.env.cells scope.names []) := ⟨_, rfl⟩
  obtain ⟨H3, hH3⟩ : ∃ H3, H3 = upd H2 D (.dT []) := ⟨_, rfl⟩
  rw [← hcl, ← hH3] at I4
  rw [← hH3] at I3 fp3 w0
  have pg := hg s3 H3 s3.heap.objs.size cl fp
  have pk := hk s3 H3 s3.heap.objs.size cl fp
  have pv := hv s3 H3 s3.heap.objs.size cl fp
  obtain ⟨s4, hs4⟩ : ∃ s4 : Shared, s4 = { s3 with heap := pushCells (s3.heap.push { cls := .type "dict", data := .dict #[] }) scope.names } := ⟨_, rfl⟩
  rw [← hs4] at I4
  have st4 : tn 0 s4.heap := T.keep _ _ _ st3 fun b _ o e => by
    rw [hs4]
    exact pushCells_keeps _ _ _ _ (Heap.get?_push_of_some _ e)
  have n3 : ∀ b ∈ fp, H3 b = none := fun b hb => (fp3 b hb).1.1
  have mine : ∀ {σ' : L2.St} {H' : Hp} {s' : Shared}, Inv (X.blk s3 H3 scope (compEnvC scope cl s3.heap.objs.size X.env) fp) [] σ' H' s' → (∀ b ∈ fp, H' b = none) → ∀ b ∈ fp, FpOk (X.blk s3 H3 scope (compEnvC scope cl s3.heap.objs.size X.env) fp) [] H' b :=
    fun {σ' H' s'} I' hn b hb => ⟨hn b hb, (I'.ok.exf b hb).1, I'.ok.exfs b hb, .inl hb, (I'.ok.exf b hb).2, fun p hp => by
      have z : p ∈ ([] : List (Addr × Obj)) ++ [] := hp
      simp at z⟩
  have loop : codeAny (model X.prog X.w) X.A (.compLoop (.DictComp kx vx [⟨tg, iter, [], 0⟩] scope pos) 0 (.ref it) (.ref D) (compEnvC scope cl s3.heap.objs.size X.env)) (compPost (model X.prog X.w) X.A X.xe none (EP X pins σ Q) (.ref D) s3.heap.objs.size) s4 := by
    refine compLoop_anyD (fun n s' => ∃ i H', Inv (X.blk s3 H3 scope (compEnvC scope cl s3.heap.objs.size X.env) fp) [] (L2.wipe σ (own.map (·.2))) H' s' ∧ tn i s'.heap ∧ (∀ b ∈ fp, H' b = none) ∧ W i n H') (fun n s5 w5 => ?_) m0 ⟨0, H3, I4, st4, n3, w0⟩
    obtain ⟨i, H5, I5, st5, n5, w5⟩ := w5
    rcases turn i n H5 w5 with ⟨stop, qq⟩ | ⟨go, N, hN, step⟩
    · refine thnF (T.done (X.blk s3 H3 scope (compEnvC scope cl s3.heap.objs.size X.env) fp) rfl rfl rfl hc i [] s5 _ H5 (fun _ _ => False) I5 (mine I5 n5) st5 stop) fun r s6 z => ?_
      obtain ⟨rfl, I6⟩ := z
      have back : Inv X pins σ H5 s6 := I3.call' (ch := fp) I6.os I6.base I6.hok I6.bare fun b hb => ⟨(fp3 b hb).1.2.2.2.1, (fp3 b hb).1.2.1, (fp3 b hb).1.2.2.2.2.1, (fp3 b hb).1.2.2.2.2.2⟩
      have nC : H5 s3.heap.objs.size = none := I6.free
      obtain ⟨m, hn, _⟩ := I6.loc
      obtain ⟨g0, g1, g2, g3, g4, g5⟩ := I3.fpOk (Nat.le_refl s3.heap.objs.size) nC
      refine ⟨m, hn, fun h'' sb => ?_⟩
      exact ⟨.ref D, H5, back.turned (t' := s6.toks) (fun b o hb e => (sb.2 b hb).trans e) g0 g1 g3 g4 g5, rfl, qq⟩
    · refine thnF (T.item (X.blk s3 H3 scope (compEnvC scope cl s3.heap.objs.size X.env) fp) rfl rfl rfl hc i [] s5 _ H5 (fun _ _ => False) I5 (mine I5 n5) st5 go) fun r s6 z => ?_
      obtain ⟨u, rfl, h6⟩ := z
      refine thnF h6 fun _ s7 z => ?_
      obtain ⟨x, H7, I7, r7, y7, st7, n7⟩ := z
      have I7p := I7.pinned (mine I7 n7) (T.obj _ _ st7)
      refine thnF (pg.run _ s7 _ H7 x u _ I7p r7 (step x H7 y7)) fun _ s8 z => ?_
      obtain ⟨σ8, H8, I8, hw8, q8⟩ := z
      refine wpAny_tests_nil ?_
      rw [if_pos rfl]
      refine thnF (pk.run _ s8 σ8 H8 _ I8 q8) fun ky s9 z => ?_
      obtain ⟨y, H9, I9, ry, q9⟩ := z
      refine thnF (pv.run _ s9 σ8 H9 _ I9 q9) fun vy s10 z => ?_
      obtain ⟨zz, H10, I10, rz, b, kvs, k, rfl, hb, hD10, hz, nx⟩ := z
      cases (show ky = Value.ref b from ry)
      refine put_tup (X := X.blk s3 H3 scope (compEnvC scope cl s3.heap.objs.size X.env) fp) hu I10 hD10 hb hz rz fun s11 I11 => ?_
      obtain ⟨m', hm, w'⟩ := hN _ nx
      have held : ∀ b' ∈ fp, ∀ o, s7.heap.get? b' = some o → s11.heap.get? b' = some o ∧ upd H10 D (.dT (putK kvs k zz)) b' = none := fun b' hb' o e =>
        let z := I11.pin (b', o) (List.mem_append_right _ (List.mem_append_right _ (mem_pinsAt hb' e)))
        ⟨z.1, z.2.1⟩
      have len : (L2.wipe σ (own.map (·.2))).length = σ8.length := by rw [← hw8, wipe_length]
      refine ⟨m', hm, i + 1, _, (I11.unpinned (pins := [])).weak len (fun j v e => ?_), T.keep _ _ _ st7 fun b' hb' o e => (held b' hb' o e).1, fun b' hb' => ?_, w'⟩
      · rw [← hw8] at e
        exact (wipe_some e).1
      · obtain ⟨o, e, _⟩ := T.obj _ _ st7 b' hb'
        exact (held b' hb' o e).2
  subst hcl hs4
  rw [← hs3]
  exact codeAny_compStart_dict loop (T.self X.A 0 _ _ _ st4 loop)
end
end Fb
/-! Where each def stands in the linked text, its names by slots (printed by gen_text.py). -/
namespace Fb
open PySem PySem.Spec PyProof.Rows L2
def topS (i : Nat) : Stmt := PySem.Challenge.pw_fateboards_k06_whole_first_near.main.body.getD i (.Pass ⟨0, 0, 0, 0⟩)
abbrev s_is_in : Stmt := topS 9
abbrev N_is_in : List Str := ["value", "least", "most"]
theorem sc_is_in : FnScope N_is_in ["value", "least", "most"] (defScope s_is_in) := ⟨rfl, rfl, rfl, by decide +kernel, rfl, by decide +kernel, by decide +kernel⟩
abbrev s_are_counts : Stmt := topS 10
abbrev N_are_counts : List Str := ["value", "least", "one"]
theorem sc_are_counts : FnScope N_are_counts ["value", "least"] (defScope s_are_counts) := ⟨rfl, rfl, rfl, by decide +kernel, rfl, by decide +kernel, by decide +kernel⟩
abbrev s_is_rule : Stmt := topS 11
abbrev N_is_rule : List Str := ["rule"]
theorem sc_is_rule : FnScope N_is_rule ["rule"] (defScope s_is_rule) := ⟨rfl, rfl, rfl, by decide +kernel, rfl, by decide +kernel, by decide +kernel⟩
abbrev s_need_rule : Stmt := topS 12
abbrev N_need_rule : List Str := ["rule"]
theorem sc_need_rule : FnScope N_need_rule ["rule"] (defScope s_need_rule) := ⟨rfl, rfl, rfl, by decide +kernel, rfl, by decide +kernel, by decide +kernel⟩
abbrev s_is_move : Stmt := topS 16
abbrev N_is_move : List Str := ["value"]
theorem sc_is_move : FnScope N_is_move ["value"] (defScope s_is_move) := ⟨rfl, rfl, rfl, by decide +kernel, rfl, by decide +kernel, by decide +kernel⟩
abbrev s_is_cell : Stmt := topS 17
abbrev N_is_cell : List Str := ["cell"]
theorem sc_is_cell : FnScope N_is_cell ["cell"] (defScope s_is_cell) := ⟨rfl, rfl, rfl, by decide +kernel, rfl, by decide +kernel, by decide +kernel⟩
abbrev s_need_board : Stmt := topS 18
abbrev N_need_board : List Str := ["board", "index", "cell"]
theorem sc_need_board : FnScope N_need_board ["board"] (defScope s_need_board) := ⟨rfl, rfl, rfl, by decide +kernel, rfl, by decide +kernel, by decide +kernel⟩
abbrev s_board_of : Stmt := topS 19
abbrev N_board_of : List Str := ["cells", "place"]
theorem sc_board_of : FnScope N_board_of ["cells"] (defScope s_board_of) := ⟨rfl, rfl, rfl, by decide +kernel, rfl, by decide +kernel, by decide +kernel⟩
abbrev s_cells_of : Stmt := topS 20
abbrev N_cells_of : List Str := ["board", "cell"]
theorem sc_cells_of : FnScope N_cells_of ["board"] (defScope s_cells_of) := ⟨rfl, rfl, rfl, by decide +kernel, rfl, by decide +kernel, by decide +kernel⟩
abbrev s_shifted_in : Stmt := topS 21
abbrev N_shifted_in : List Str := ["board", "move", "x", "y", "state"]
theorem sc_shifted_in : FnScope N_shifted_in ["board", "move"] (defScope s_shifted_in) := ⟨rfl, rfl, rfl, by decide +kernel, rfl, by decide +kernel, by decide +kernel⟩
abbrev s_times_within : Stmt := topS 23
abbrev N_times_within : List Str := ["start", "move", "first", "last"]
theorem sc_times_within : FnScope N_times_within ["start", "move"] (defScope s_times_within) := ⟨rfl, rfl, rfl, by decide +kernel, rfl, by decide +kernel, by decide +kernel⟩
abbrev s_first_in : Stmt := topS 24
abbrev N_first_in : List Str := ["start", "move", "one", "two", "first", "ends", "end"]
theorem sc_first_in : FnScope N_first_in ["start", "move"] (defScope s_first_in) := ⟨rfl, rfl, rfl, by decide +kernel, rfl, by decide +kernel, by decide +kernel⟩
abbrev s_common : Stmt := topS 25
abbrev N_common : List Str := ["one", "two"]
theorem sc_common : FnScope N_common ["one", "two"] (defScope s_common) := ⟨rfl, rfl, rfl, by decide +kernel, rfl, by decide +kernel, by decide +kernel⟩
abbrev s_neighbours : Stmt := topS 28
abbrev N_neighbours : List Str := ["cells", "found", "x", "y", "step", "more", "place"]
theorem sc_neighbours : FnScope N_neighbours ["cells"] (defScope s_neighbours) := ⟨rfl, rfl, rfl, by decide +kernel, rfl, by decide +kernel, by decide +kernel⟩
abbrev s_next_cells : Stmt := topS 29
abbrev N_next_cells : List Str := ["rule", "cells", "births", "stays", "states", "counts", "found", "place", "state"]
theorem sc_next_cells : FnScope N_next_cells ["rule", "cells"] (defScope s_next_cells) := ⟨rfl, rfl, rfl, by decide +kernel, rfl, by decide +kernel, by decide +kernel⟩
abbrev s_need_small : Stmt := topS 30
abbrev N_need_small : List Str := ["board"]
theorem sc_need_small : FnScope N_need_small ["board"] (defScope s_need_small) := ⟨rfl, rfl, rfl, by decide +kernel, rfl, by decide +kernel, by decide +kernel⟩
abbrev s_need_states : Stmt := topS 31
abbrev N_need_states : List Str := ["rule", "board", "cell"]
theorem sc_need_states : FnScope N_need_states ["rule", "board"] (defScope s_need_states) := ⟨rfl, rfl, rfl, by decide +kernel, rfl, by decide +kernel, by decide +kernel⟩
abbrev s_step_in : Stmt := topS 32
abbrev N_step_in : List Str := ["rule", "board", "found"]
theorem sc_step_in : FnScope N_step_in ["rule", "board"] (defScope s_step_in) := ⟨rfl, rfl, rfl, by decide +kernel, rfl, by decide +kernel, by decide +kernel⟩
abbrev s_is_beyond : Stmt := topS 33
abbrev N_is_beyond : List Str := ["board", "rows", "cell"]
theorem sc_is_beyond : FnScope N_is_beyond ["board"] (defScope s_is_beyond) := ⟨rfl, rfl, rfl, by decide +kernel, rfl, by decide +kernel, by decide +kernel⟩
abbrev s_phases_in : Stmt := topS 38
abbrev N_phases_in : List Str := ["rule", "board", "period", "found", "turn"]
theorem sc_phases_in : FnScope N_phases_in ["rule", "board", "period"] (defScope s_phases_in) := ⟨rfl, rfl, rfl, by decide +kernel, rfl, by decide +kernel, by decide +kernel⟩
abbrev s_is_piece_shape : Stmt := topS 39
abbrev N_is_piece_shape : List Str := ["piece"]
theorem sc_is_piece_shape : FnScope N_is_piece_shape ["piece"] (defScope s_is_piece_shape) := ⟨rfl, rfl, rfl, by decide +kernel, rfl, by decide +kernel, by decide +kernel⟩
abbrev s_is_piece : Stmt := topS 40
abbrev N_is_piece : List Str := ["rule", "piece", "last"]
theorem sc_is_piece : FnScope N_is_piece ["rule", "piece"] (defScope s_is_piece) := ⟨rfl, rfl, rfl, by decide +kernel, rfl, by decide +kernel, by decide +kernel⟩
abbrev s_need_piece : Stmt := topS 41
abbrev N_need_piece : List Str := ["rule", "piece"]
theorem sc_need_piece : FnScope N_need_piece ["rule", "piece"] (defScope s_need_piece) := ⟨rfl, rfl, rfl, by decide +kernel, rfl, by decide +kernel, by decide +kernel⟩
abbrev s_moved_by : Stmt := topS 42
abbrev N_moved_by : List Str := ["move", "many"]
theorem sc_moved_by : FnScope N_moved_by ["move", "many"] (defScope s_moved_by) := ⟨rfl, rfl, rfl, by decide +kernel, rfl, by decide +kernel, by decide +kernel⟩
abbrev s_piece_at : Stmt := topS 43
abbrev N_piece_at : List Str := ["rule", "piece", "generation"]
theorem sc_piece_at : FnScope N_piece_at ["rule", "piece", "generation"] (defScope s_piece_at) := ⟨rfl, rfl, rfl, by decide +kernel, rfl, by decide +kernel, by decide +kernel⟩
abbrev s_place_in : Stmt := topS 44
abbrev N_place_in : List Str := ["rule", "piece", "generation", "board"]
theorem sc_place_in : FnScope N_place_in ["rule", "piece", "generation"] (defScope s_place_in) := ⟨rfl, rfl, rfl, by decide +kernel, rfl, by decide +kernel, by decide +kernel⟩
abbrev s_least_common : Stmt := topS 45
abbrev N_least_common : List Str := ["one", "two"]
theorem sc_least_common : FnScope N_least_common ["one", "two"] (defScope s_least_common) := ⟨rfl, rfl, rfl, by decide +kernel, rfl, by decide +kernel, by decide +kernel⟩
abbrev s_first_near_in : Stmt := topS 46
abbrev N_first_near_in : List Str := ["rule", "piece", "other", "turn", "ones", "twos", "one", "two", "move", "found", "rest", "mine", "theirs", "x", "y", "state", "far", "down", "more", "many"]
theorem sc_first_near_in : FnScope N_first_near_in ["rule", "piece", "other"] (defScope s_first_near_in) := ⟨rfl, rfl, rfl, by decide +kernel, rfl, by decide +kernel, by decide +kernel⟩
abbrev s_first_near : Stmt := topS 47
abbrev N_first_near : List Str := ["rule", "piece", "other"]
theorem sc_first_near : FnScope N_first_near ["rule", "piece", "other"] (defScope s_first_near) := ⟨rfl, rfl, rfl, by decide +kernel, rfl, by decide +kernel, by decide +kernel⟩
abbrev s__law_turned_piece : Stmt := topS 49
abbrev N__law_turned_piece : List Str := ["_law_piece", "_law_turn", "_law_board", "_law_period", "_law_move", "_law_moves", "_law_quarter", "_law_cell"]
theorem sc__law_turned_piece : FnScope N__law_turned_piece ["_law_piece", "_law_turn"] (defScope s__law_turned_piece) := ⟨rfl, rfl, rfl, by decide +kernel, rfl, by decide +kernel, by decide +kernel⟩
abbrev s__law_taken : Stmt := topS 50
abbrev N__law_taken : List Str := ["_law_row", "_law_many", "_law_found", "_law_cell"]
theorem sc__law_taken : FnScope N__law_taken ["_law_row", "_law_many"] (defScope s__law_taken) := ⟨rfl, rfl, rfl, by decide +kernel, rfl, by decide +kernel, by decide +kernel⟩
abbrev s__law_pick : Stmt := topS 51
abbrev N__law_pick : List Str := ["_law_row", "_law_things"]
theorem sc__law_pick : FnScope N__law_pick ["_law_row", "_law_things"] (defScope s__law_pick) := ⟨rfl, rfl, rfl, by decide +kernel, rfl, by decide +kernel, by decide +kernel⟩
abbrev s__law_kit : Stmt := topS 52
abbrev N__law_kit : List Str := ["_law_ship", "_law_row", "_law_square", "_law_long"]
theorem sc__law_kit : FnScope N__law_kit [] (defScope s__law_kit) := ⟨rfl, rfl, rfl, by decide +kernel, rfl, by decide +kernel, by decide +kernel⟩
abbrev s__law_moved : Stmt := topS 53
abbrev N__law_moved : List Str := ["_law_board", "_law_x", "_law_y", "_law_cell"]
theorem sc__law_moved : FnScope N__law_moved ["_law_board", "_law_x", "_law_y"] (defScope s__law_moved) := ⟨rfl, rfl, rfl, by decide +kernel, rfl, by decide +kernel, by decide +kernel⟩
abbrev s__law_signed : Stmt := topS 54
abbrev N__law_signed : List Str := ["_law_row", "_law_most"]
theorem sc__law_signed : FnScope N__law_signed ["_law_row", "_law_most"] (defScope s__law_signed) := ⟨rfl, rfl, rfl, by decide +kernel, rfl, by decide +kernel, by decide +kernel⟩
abbrev s__law_some_piece : Stmt := topS 55
abbrev N__law_some_piece : List Str := ["_law_row", "_law_far", "_law_piece", "_law_many", "_law_board"]
theorem sc__law_some_piece : FnScope N__law_some_piece ["_law_row", "_law_far"] (defScope s__law_some_piece) := ⟨rfl, rfl, rfl, by decide +kernel, rfl, by decide +kernel, by decide +kernel⟩
abbrev s__law_around : Stmt := topS 56
abbrev N__law_around : List Str := ["_law_place", "_law_found", "_law_a", "_law_b"]
theorem sc__law_around : FnScope N__law_around ["_law_place"] (defScope s__law_around) := ⟨rfl, rfl, rfl, by decide +kernel, rfl, by decide +kernel, by decide +kernel⟩
abbrev s__law_step : Stmt := topS 57
abbrev N__law_step : List Str := ["_law_rule", "_law_board", "_law_cell", "_law_cells", "_law_places", "_law_found", "_law_place", "_law_near", "_law_state", "_law_new", "_law_one"]
theorem sc__law_step : FnScope N__law_step ["_law_rule", "_law_board"] (defScope s__law_step) := ⟨rfl, rfl, rfl, by decide +kernel, rfl, by decide +kernel, by decide +kernel⟩
abbrev s__law_steps : Stmt := topS 58
abbrev N__law_steps : List Str := ["_law_rule", "_law_board", "_law_many", "_law_turn"]
theorem sc__law_steps : FnScope N__law_steps ["_law_rule", "_law_board", "_law_many"] (defScope s__law_steps) := ⟨rfl, rfl, rfl, by decide +kernel, rfl, by decide +kernel, by decide +kernel⟩
abbrev s__law_piece_at : Stmt := topS 59
abbrev N__law_piece_at : List Str := ["_law_piece", "_law_generation", "_law_rest", "_law_many"]
theorem sc__law_piece_at : FnScope N__law_piece_at ["_law_piece", "_law_generation"] (defScope s__law_piece_at) := ⟨rfl, rfl, rfl, by decide +kernel, rfl, by decide +kernel, by decide +kernel⟩
abbrev s__law_are_near : Stmt := topS 60
abbrev N__law_are_near : List Str := ["_law_board", "_law_other", "_law_cells", "_law_x", "_law_y", "_law_state", "_law_a", "_law_b", "_law_cell"]
theorem sc__law_are_near : FnScope N__law_are_near ["_law_board", "_law_other"] (defScope s__law_are_near) := ⟨rfl, rfl, rfl, by decide +kernel, rfl, by decide +kernel, by decide +kernel⟩
abbrev s__law_alike : Stmt := topS 61
abbrev N__law_alike : List Str := ["_law_found", "_law_due", "_law_k"]
theorem sc__law_alike : FnScope N__law_alike ["_law_found", "_law_due"] (defScope s__law_alike) := ⟨rfl, rfl, rfl, by decide +kernel, rfl, by decide +kernel, by decide +kernel⟩
abbrev s_law : Stmt := topS 62
abbrev N_law : List Str := ["_law_script", "_law_row", "_law_rule", "_law_one", "_law_two", "_law_told", "_law_due", "_law_ones", "_law_twos", "_law_rest", "_law_generation", "_law_many", "_law_x", "_law_y", "_law_far", "_law_ship", "_law_shut", "_law_found", "_law_aside"]
theorem sc_law : FnScope N_law ["_law_script"] (defScope s_law) := ⟨rfl, rfl, rfl, by decide +kernel, rfl, by decide +kernel, by decide +kernel⟩
end Fb
/-! What the top has left (printed by gen_top.py). -/
namespace Fb
open PySem PySem.Spec PyProof.Rows L2
/-- a def of the top: where it stands -/
structure Df (K : PySem.W.Frag) (mg : Str → Option Value) (x : Str) (st : Stmt) where
  f : Addr
  fd : FuncData
  F : Fun K x x st f fd
  g : mg x = some (.ref f)
structure Tp (K : PySem.W.Frag) (mg : Str → Option Value) where
  is_in : Df K mg "is_in" s_is_in
  are_counts : Df K mg "are_counts" s_are_counts
  is_rule : Df K mg "is_rule" s_is_rule
  need_rule : Df K mg "need_rule" s_need_rule
  is_move : Df K mg "is_move" s_is_move
  is_cell : Df K mg "is_cell" s_is_cell
  need_board : Df K mg "need_board" s_need_board
  board_of : Df K mg "board_of" s_board_of
  cells_of : Df K mg "cells_of" s_cells_of
  shifted_in : Df K mg "shifted_in" s_shifted_in
  times_within : Df K mg "times_within" s_times_within
  first_in : Df K mg "first_in" s_first_in
  common : Df K mg "common" s_common
  neighbours : Df K mg "neighbours" s_neighbours
  next_cells : Df K mg "next_cells" s_next_cells
  need_small : Df K mg "need_small" s_need_small
  need_states : Df K mg "need_states" s_need_states
  step_in : Df K mg "step_in" s_step_in
  is_beyond : Df K mg "is_beyond" s_is_beyond
  phases_in : Df K mg "phases_in" s_phases_in
  is_piece_shape : Df K mg "is_piece_shape" s_is_piece_shape
  is_piece : Df K mg "is_piece" s_is_piece
  need_piece : Df K mg "need_piece" s_need_piece
  moved_by : Df K mg "moved_by" s_moved_by
  piece_at : Df K mg "piece_at" s_piece_at
  place_in : Df K mg "place_in" s_place_in
  least_common : Df K mg "least_common" s_least_common
  first_near_in : Df K mg "first_near_in" s_first_near_in
  first_near : Df K mg "first_near" s_first_near
  _law_turned_piece : Df K mg "_law_turned_piece" s__law_turned_piece
  _law_taken : Df K mg "_law_taken" s__law_taken
  _law_pick : Df K mg "_law_pick" s__law_pick
  _law_kit : Df K mg "_law_kit" s__law_kit
  _law_moved : Df K mg "_law_moved" s__law_moved
  _law_signed : Df K mg "_law_signed" s__law_signed
  _law_some_piece : Df K mg "_law_some_piece" s__law_some_piece
  _law_around : Df K mg "_law_around" s__law_around
  _law_step : Df K mg "_law_step" s__law_step
  _law_steps : Df K mg "_law_steps" s__law_steps
  _law_piece_at : Df K mg "_law_piece_at" s__law_piece_at
  _law_are_near : Df K mg "_law_are_near" s__law_are_near
  _law_alike : Df K mg "_law_alike" s__law_alike
  law : Df K mg "law" s_law
  t_MOST_STATES : Tok
  MOST_STATES : mg "MOST_STATES" = some (.int (6) t_MOST_STATES)
  t_FAR : Tok
  FAR : mg "FAR" = some (.int (10 ^ 60) t_FAR)
  t_NEAR : Tok
  NEAR : mg "NEAR" = some (.int (2) t_NEAR)
  t_MOST_CELLS : Tok
  MOST_CELLS : mg "MOST_CELLS" = some (.int (3000) t_MOST_CELLS)
  t_MOST_PERIOD : Tok
  MOST_PERIOD : mg "MOST_PERIOD" = some (.int (240) t_MOST_PERIOD)
  t_MOST_SIZE : Tok
  MOST_SIZE : mg "MOST_SIZE" = some (.int (300) t_MOST_SIZE)
  t_MOST_TURN : Tok
  MOST_TURN : mg "MOST_TURN" = some (.int (6000) t_MOST_TURN)
  n_isinstance : mg "isinstance" = none
  n_int : mg "int" = none
  n_bool : mg "bool" = none
  n_tuple : mg "tuple" = none
  n_list : mg "list" = none
  n_sorted : mg "sorted" = none
  n_set : mg "set" = none
  n_len : mg "len" = none
  n_enumerate : mg "enumerate" = none
  n_max : mg "max" = none
  n_min : mg "min" = none
  n_abs : mg "abs" = none
  n_range : mg "range" = none
  n_dict : mg "dict" = none
  n_str : mg "str" = none
section
variable {K : PySem.W.Frag} {mg : Str → Option Value} (T : Tp K mg)
theorem Tp.b_is_in : Binds K T.is_in.fd ["value", "least", "most"] [] := T.is_in.F.binds (ps := ["value", "least", "most"]) fun _ _ _ _ _ _ us hl => match us, hl with | [_, _, _], _ => rfl
theorem Tp.b_are_counts : Binds K T.are_counts.fd ["value", "least"] [] := T.are_counts.F.binds (ps := ["value", "least"]) fun _ _ _ _ _ _ us hl => match us, hl with | [_, _], _ => rfl
theorem Tp.b_is_rule : Binds K T.is_rule.fd ["rule"] [] := T.is_rule.F.binds (ps := ["rule"]) fun _ _ _ _ _ _ us hl => match us, hl with | [_], _ => rfl
theorem Tp.b_need_rule : Binds K T.need_rule.fd ["rule"] [] := T.need_rule.F.binds (ps := ["rule"]) fun _ _ _ _ _ _ us hl => match us, hl with | [_], _ => rfl
theorem Tp.b_is_move : Binds K T.is_move.fd ["value"] [] := T.is_move.F.binds (ps := ["value"]) fun _ _ _ _ _ _ us hl => match us, hl with | [_], _ => rfl
theorem Tp.b_is_cell : Binds K T.is_cell.fd ["cell"] [] := T.is_cell.F.binds (ps := ["cell"]) fun _ _ _ _ _ _ us hl => match us, hl with | [_], _ => rfl
theorem Tp.b_need_board : Binds K T.need_board.fd ["board"] [] := T.need_board.F.binds (ps := ["board"]) fun _ _ _ _ _ _ us hl => match us, hl with | [_], _ => rfl
theorem Tp.b_board_of : Binds K T.board_of.fd ["cells"] [] := T.board_of.F.binds (ps := ["cells"]) fun _ _ _ _ _ _ us hl => match us, hl with | [_], _ => rfl
theorem Tp.b_cells_of : Binds K T.cells_of.fd ["board"] [] := T.cells_of.F.binds (ps := ["board"]) fun _ _ _ _ _ _ us hl => match us, hl with | [_], _ => rfl
theorem Tp.b_shifted_in : Binds K T.shifted_in.fd ["board", "move"] [] := T.shifted_in.F.binds (ps := ["board", "move"]) fun _ _ _ _ _ _ us hl => match us, hl with | [_, _], _ => rfl
theorem Tp.b_times_within : Binds K T.times_within.fd ["start", "move"] [] := T.times_within.F.binds (ps := ["start", "move"]) fun _ _ _ _ _ _ us hl => match us, hl with | [_, _], _ => rfl
theorem Tp.b_first_in : Binds K T.first_in.fd ["start", "move"] [] := T.first_in.F.binds (ps := ["start", "move"]) fun _ _ _ _ _ _ us hl => match us, hl with | [_, _], _ => rfl
theorem Tp.b_common : Binds K T.common.fd ["one", "two"] [] := T.common.F.binds (ps := ["one", "two"]) fun _ _ _ _ _ _ us hl => match us, hl with | [_, _], _ => rfl
theorem Tp.b_neighbours : Binds K T.neighbours.fd ["cells"] [] := T.neighbours.F.binds (ps := ["cells"]) fun _ _ _ _ _ _ us hl => match us, hl with | [_], _ => rfl
theorem Tp.b_next_cells : Binds K T.next_cells.fd ["rule", "cells"] [] := T.next_cells.F.binds (ps := ["rule", "cells"]) fun _ _ _ _ _ _ us hl => match us, hl with | [_, _], _ => rfl
theorem Tp.b_need_small : Binds K T.need_small.fd ["board"] [] := T.need_small.F.binds (ps := ["board"]) fun _ _ _ _ _ _ us hl => match us, hl with | [_], _ => rfl
theorem Tp.b_need_states : Binds K T.need_states.fd ["rule", "board"] [] := T.need_states.F.binds (ps := ["rule", "board"]) fun _ _ _ _ _ _ us hl => match us, hl with | [_, _], _ => rfl
theorem Tp.b_step_in : Binds K T.step_in.fd ["rule", "board"] [] := T.step_in.F.binds (ps := ["rule", "board"]) fun _ _ _ _ _ _ us hl => match us, hl with | [_, _], _ => rfl
theorem Tp.b_is_beyond : Binds K T.is_beyond.fd ["board"] [] := T.is_beyond.F.binds (ps := ["board"]) fun _ _ _ _ _ _ us hl => match us, hl with | [_], _ => rfl
theorem Tp.b_phases_in : Binds K T.phases_in.fd ["rule", "board", "period"] [] := T.phases_in.F.binds (ps := ["rule", "board", "period"]) fun _ _ _ _ _ _ us hl => match us, hl with | [_, _, _], _ => rfl
theorem Tp.b_is_piece_shape : Binds K T.is_piece_shape.fd ["piece"] [] := T.is_piece_shape.F.binds (ps := ["piece"]) fun _ _ _ _ _ _ us hl => match us, hl with | [_], _ => rfl
theorem Tp.b_is_piece : Binds K T.is_piece.fd ["rule", "piece"] [] := T.is_piece.F.binds (ps := ["rule", "piece"]) fun _ _ _ _ _ _ us hl => match us, hl with | [_, _], _ => rfl
theorem Tp.b_need_piece : Binds K T.need_piece.fd ["rule", "piece"] [] := T.need_piece.F.binds (ps := ["rule", "piece"]) fun _ _ _ _ _ _ us hl => match us, hl with | [_, _], _ => rfl
theorem Tp.b_moved_by : Binds K T.moved_by.fd ["move", "many"] [] := T.moved_by.F.binds (ps := ["move", "many"]) fun _ _ _ _ _ _ us hl => match us, hl with | [_, _], _ => rfl
theorem Tp.b_piece_at : Binds K T.piece_at.fd ["rule", "piece", "generation"] [] := T.piece_at.F.binds (ps := ["rule", "piece", "generation"]) fun _ _ _ _ _ _ us hl => match us, hl with | [_, _, _], _ => rfl
theorem Tp.b_place_in : Binds K T.place_in.fd ["rule", "piece", "generation"] [] := T.place_in.F.binds (ps := ["rule", "piece", "generation"]) fun _ _ _ _ _ _ us hl => match us, hl with | [_, _, _], _ => rfl
theorem Tp.b_least_common : Binds K T.least_common.fd ["one", "two"] [] := T.least_common.F.binds (ps := ["one", "two"]) fun _ _ _ _ _ _ us hl => match us, hl with | [_, _], _ => rfl
theorem Tp.b_first_near_in : Binds K T.first_near_in.fd ["rule", "piece", "other"] [] := T.first_near_in.F.binds (ps := ["rule", "piece", "other"]) fun _ _ _ _ _ _ us hl => match us, hl with | [_, _, _], _ => rfl
theorem Tp.b_first_near : Binds K T.first_near.fd ["rule", "piece", "other"] [] := T.first_near.F.binds (ps := ["rule", "piece", "other"]) fun _ _ _ _ _ _ us hl => match us, hl with | [_, _, _], _ => rfl
theorem Tp.b__law_turned_piece : Binds K T._law_turned_piece.fd ["_law_piece", "_law_turn"] [] := T._law_turned_piece.F.binds (ps := ["_law_piece", "_law_turn"]) fun _ _ _ _ _ _ us hl => match us, hl with | [_, _], _ => rfl
theorem Tp.b__law_taken : Binds K T._law_taken.fd ["_law_row", "_law_many"] [] := T._law_taken.F.binds (ps := ["_law_row", "_law_many"]) fun _ _ _ _ _ _ us hl => match us, hl with | [_, _], _ => rfl
theorem Tp.b__law_pick : Binds K T._law_pick.fd ["_law_row", "_law_things"] [] := T._law_pick.F.binds (ps := ["_law_row", "_law_things"]) fun _ _ _ _ _ _ us hl => match us, hl with | [_, _], _ => rfl
theorem Tp.b__law_kit : Binds K T._law_kit.fd [] [] := T._law_kit.F.binds (ps := []) fun _ _ _ _ _ _ us hl => match us, hl with | [], _ => rfl
theorem Tp.b__law_moved : Binds K T._law_moved.fd ["_law_board", "_law_x", "_law_y"] [] := T._law_moved.F.binds (ps := ["_law_board", "_law_x", "_law_y"]) fun _ _ _ _ _ _ us hl => match us, hl with | [_, _, _], _ => rfl
theorem Tp.b__law_signed : Binds K T._law_signed.fd ["_law_row", "_law_most"] [] := T._law_signed.F.binds (ps := ["_law_row", "_law_most"]) fun _ _ _ _ _ _ us hl => match us, hl with | [_, _], _ => rfl
theorem Tp.b__law_some_piece : Binds K T._law_some_piece.fd ["_law_row", "_law_far"] [] := T._law_some_piece.F.binds (ps := ["_law_row", "_law_far"]) fun _ _ _ _ _ _ us hl => match us, hl with | [_, _], _ => rfl
theorem Tp.b__law_around : Binds K T._law_around.fd ["_law_place"] [] := T._law_around.F.binds (ps := ["_law_place"]) fun _ _ _ _ _ _ us hl => match us, hl with | [_], _ => rfl
theorem Tp.b__law_step : Binds K T._law_step.fd ["_law_rule", "_law_board"] [] := T._law_step.F.binds (ps := ["_law_rule", "_law_board"]) fun _ _ _ _ _ _ us hl => match us, hl with | [_, _], _ => rfl
theorem Tp.b__law_steps : Binds K T._law_steps.fd ["_law_rule", "_law_board", "_law_many"] [] := T._law_steps.F.binds (ps := ["_law_rule", "_law_board", "_law_many"]) fun _ _ _ _ _ _ us hl => match us, hl with | [_, _, _], _ => rfl
theorem Tp.b__law_piece_at : Binds K T._law_piece_at.fd ["_law_piece", "_law_generation"] [] := T._law_piece_at.F.binds (ps := ["_law_piece", "_law_generation"]) fun _ _ _ _ _ _ us hl => match us, hl with | [_, _], _ => rfl
theorem Tp.b__law_are_near : Binds K T._law_are_near.fd ["_law_board", "_law_other"] [] := T._law_are_near.F.binds (ps := ["_law_board", "_law_other"]) fun _ _ _ _ _ _ us hl => match us, hl with | [_, _], _ => rfl
theorem Tp.b__law_alike : Binds K T._law_alike.fd ["_law_found", "_law_due"] [] := T._law_alike.F.binds (ps := ["_law_found", "_law_due"]) fun _ _ _ _ _ _ us hl => match us, hl with | [_, _], _ => rfl
theorem Tp.b_law : Binds K T.law.fd ["_law_script"] [] := T.law.F.binds (ps := ["_law_script"]) fun _ _ _ _ _ _ us hl => match us, hl with | [_], _ => rfl
end
end Fb
/-! Boards, moves, pieces as data; more of the calculus. -/
namespace Fb
open PySem PySem.Spec PyProof.Rows L2
open Evl (Ex)

def cD (p : P2) : PyData := .tuple [.int p.1, .int p.2, .int 1]
def bD (b : Board) : PyData := .tuple (b.map cD)
def RD : PyData := .tuple [.tuple [.int 3], .tuple [.int 2, .int 3], .int 2]
def pcD (P : Pc) : PyData := .tuple [bD P.b, .int P.per, pD P.m]
def oD : Option Int → PyData
  | none => .none
  | some k => .int k
def FAR : Int := 10 ^ 60
theorem fl_c (p : P2) : Fl0 (cD p) = true := rfl
theorem fl_b (b : Board) : Fl0 (bD b) = true := tol_mem fun d m => by
  obtain ⟨p, _, rfl⟩ := List.mem_map.mp m
  rfl
theorem fl_p (m : P2) : Fl0 (pD m) = true := rfl
theorem fl_pc (P : Pc) : Fl0 (pcD P) = true := by
  show (Fl0 (bD P.b) && (true && (Fl0 (pD P.m) && true))) = true
  rw [fl_b]
  rfl
theorem fl_o (o : Option Int) : Fl0 (oD o) = true := by cases o <;> rfl
theorem lay_all {l : List PyData} : (∀ d ∈ l, d.canLay0 = true) → PyData.canLayAll0 l = true := by
  induction l with
  | nil => intro _; rfl
  | cons d l ih =>
    intro h
    show (d.canLay0 && PyData.canLayAll0 l) = true
    rw [h d (List.mem_cons_self ..), ih fun e m => h e (List.mem_cons_of_mem _ m)]
    rfl
theorem depth_all {l : List PyData} {n : Nat} : (∀ d ∈ l, d.depth ≤ n) → PyData.depthAll l ≤ n := by
  induction l with
  | nil => intro _; exact Nat.zero_le _
  | cons d l ih =>
    intro h
    show max d.depth (PyData.depthAll l) ≤ n
    have h1 := h d (List.mem_cons_self ..)
    have h2 := ih fun e m => h e (List.mem_cons_of_mem _ m)
    omega
theorem shaped_b (b : Board) : SeqAt.shaped (bD b) = true := by
  show (PyData.canLayAll0 (b.map cD) && decide (PyData.depthAll (b.map cD) + 1 ≤ 64)) = true
  have h1 : PyData.canLayAll0 (b.map cD) = true := lay_all fun d m => by
    obtain ⟨p, _, rfl⟩ := List.mem_map.mp m
    rfl
  have h2 : PyData.depthAll (b.map cD) ≤ 1 := depth_all fun d m => by
    obtain ⟨p, _, rfl⟩ := List.mem_map.mp m
    exact Nat.le_refl 1
  rw [h1, Bool.true_and, decide_eq_true_eq]
  omega
theorem eqv_b (b : Board) : PyData.eqv (bD b) (bD b) = true := by
  refine SeqAt.eqv_refl _ ?_
  exact lay_all fun d m => by
    obtain ⟨p, _, rfl⟩ := List.mem_map.mp m
    rfl
theorem eqv_b_nil {b : Board} (h : b ≠ []) : PyData.eqv (bD b) (.tuple []) = false := by
  cases b with
  | nil => exact absurd rfl h
  | cons p b => rfl
theorem shaped_ints (ns : List Int) : SeqAt.shaped (.list (ns.map PyData.int)) = true := by
  show (PyData.canLayAll0 (ns.map PyData.int) && decide (PyData.depthAll (ns.map PyData.int) + 1 ≤ 64)) = true
  have h1 : PyData.canLayAll0 (ns.map PyData.int) = true := lay_all fun d m => by
    obtain ⟨p, _, rfl⟩ := List.mem_map.mp m
    rfl
  have h2 : PyData.depthAll (ns.map PyData.int) ≤ 0 := depth_all fun d m => by
    obtain ⟨p, _, rfl⟩ := List.mem_map.mp m
    exact Nat.le_refl 0
  rw [h1, Bool.true_and, decide_eq_true_eq]
  omega
theorem eqv_ints (ns : List Int) : PyData.eqv (.list (ns.map PyData.int)) (.list (ns.map PyData.int)) = true := by
  refine SeqAt.eqv_refl _ ?_
  exact lay_all fun d m => by
    obtain ⟨p, _, rfl⟩ := List.mem_map.mp m
    rfl
theorem dd_ints {H : Hp} : ∀ {ns : List Int} {xs : List V}, DdL H (ns.map PyData.int) xs → xs = ns.map V.int
  | [], _, h => h
  | n :: ns, _, ⟨x, ys, h1, h2, h3⟩ => by
    cases (show x = V.int n from h2)
    rw [h1, dd_ints h3]
    rfl
theorem ints_dd {H : Hp} : ∀ {ns : List Int}, DdL H (ns.map PyData.int) (ns.map V.int)
  | [] => rfl
  | n :: ns => ⟨V.int n, ns.map V.int, rfl, rfl, ints_dd⟩
theorem asc_uniq : ∀ {a b : List Int}, a.Pairwise (· < ·) → b.Pairwise (· < ·) → (∀ k, k ∈ a ↔ k ∈ b) → a = b
  | [], [], _, _, _ => rfl
  | [], y :: b, _, _, h => nomatch (h y).mpr (List.mem_cons_self ..)
  | x :: a, [], _, _, h => nomatch (h x).mp (List.mem_cons_self ..)
  | x :: a, y :: b, ha, hb, h => by
    obtain ⟨h1, h2⟩ := List.pairwise_cons.mp ha
    obtain ⟨h3, h4⟩ := List.pairwise_cons.mp hb
    have e : x = y := by
      rcases List.mem_cons.mp ((h x).mp (List.mem_cons_self ..)) with e | m
      · exact e
      · rcases List.mem_cons.mp ((h y).mpr (List.mem_cons_self ..)) with e | n
        · exact e.symm
        · have := h1 y n
          have := h3 x m
          omega
    subst e
    rw [asc_uniq h2 h4 fun k => ?_]
    constructor
    · intro m
      rcases List.mem_cons.mp ((h k).mp (List.mem_cons_of_mem _ m)) with e | n
      · subst e
        exact absurd (h1 k m) (Int.lt_irrefl k)
      · exact n
    · intro m
      rcases List.mem_cons.mp ((h k).mpr (List.mem_cons_of_mem _ m)) with e | n
      · subst e
        exact absurd (h3 k m) (Int.lt_irrefl k)
      · exact n

section
variable {K : PySem.W.Frag} {w : World} {Γ : Gm} {ta tb te tc : TE} {t u : TT} {d e : PyData} {ds : List PyData} {b c : Bool} {i j : Int}
/-- isinstance(x, T) -/
theorem ed_ist {S T : String} (h : Ed ta Γ d) (hd : d.canLay0 = true) (hS : tyD d = S := by rfl) (hb : kitB S T = some b := by decide +kernel) : Ed (tCB (rIsi K) (tCons ta (tCons (tC (.ty T)) tNil))) Γ (.bool b) := ed_isi h hd (by rw [hS]; exact hb)
theorem ed_ist2 {R S T : String} (h : Ed ta Γ d) (hd : d.canLay0 = true) (hR : tyD d = R := by rfl) (h1 : kitB R S = some b := by decide +kernel) (h2 : kitB R T = some c := by decide +kernel) : Ed (tCB (rIsiT K) (tCons ta (tCons (tTup (tCons (tC (.ty S)) (tCons (tC (.ty T)) tNil))) tNil))) Γ (.bool (b || c)) := ed_isi2 h hd (by rw [hR]; exact h1) (by rw [hR]; exact h2)
theorem ed_ii {T : String} (h : Ed ta Γ (.int i)) (hb : kitB "int" T = some b := by decide +kernel) : Ed (tCB (rIsi K) (tCons ta (tCons (tC (.ty T)) tNil))) Γ (.bool b) := ed_isi h rfl hb
theorem ed_it {T : String} (h : Ed ta Γ (.tuple ds)) (hb : kitB "tuple" T = some b := by decide +kernel) : Ed (tCB (rIsi K) (tCons ta (tCons (tC (.ty T)) tNil))) Γ (.bool b) := fun σ H s Q q =>
  h σ H s _ fun x H1 e1 dx => by
    obtain ⟨a, xs, rfl, h2, h3⟩ := dx
    exact ⟨.ref a, .ty T, _, _, b, rfl, .ty T, .base (.tup h2), kit_ty hb, q _ H1 e1 rfl⟩
/-- sorted(set(t)), t an ascending tuple of ints -/
theorem ed_sortedSet {ns : List Int} (h : Ed ta Γ (.tuple (ns.map PyData.int))) (ho : ns.Pairwise (· < ·)) (hl : ns.length ≤ 50) : Ed (tCB (rSortedSet w) (tCons (tCB (rSetTup w) (tCons ta tNil)) tNil)) Γ (.list (ns.map PyData.int)) := fun σ H s Q q =>
  h σ H s _ fun x H1 e1 ⟨a, xs, h1, h2, h3⟩ => ⟨a, ns, by rw [h1], by rw [h2, dd_ints h3], hl, fun p c hp hc => ⟨p, _, c, rfl, upd_same, by omega, fun ms q2 hm hmem _ hq => by
    have em : ms = ns := asc_uniq hm ho fun k => by rw [hmem k, decide_eq_true_eq]
    subst em
    exact q _ _ ((e1.trans (Ex.new hp)).trans (Ex.new hq)) ⟨q2, _, rfl, upd_same, ints_dd⟩⟩⟩
theorem ed_sortedTup (h : Ed ta Γ (.tuple ds)) (hs : SortsD ds) : Ed (tCB rSortedTup (tCons ta tNil)) Γ (.list (sortD ds)) := ed_cb (ea_cons h ea_nil) fun vs H dv Q q => by
  obtain ⟨x, rfl, a, xs, rfl, h2, h3⟩ := dd1 dv
  refine ⟨a, xs, ds, rfl, h2, h3, hs, fun ys p hy hp => q _ _ (Ex.new hp) ⟨p, ys, rfl, upd_same, DdL.ex (Ex.new hp) _ _ hy⟩⟩
theorem ed_maxL {ns : List Int} {m : Int} (h : Ed ta Γ (.list (ns.map PyData.int))) (hm : m ∈ ns) (hle : ∀ y ∈ ns, y ≤ m) : Ed (tCB (rMax K) (tCons ta tNil)) Γ (.int m) := ed_cb (ea_cons h ea_nil) fun vs H dv Q q => by
  obtain ⟨x, rfl, a, xs, rfl, h2, h3⟩ := dd1 dv
  have e := dd_ints h3
  subst e
  refine ⟨a, ns, rfl, SqL.of h2, List.length_pos_of_mem hm, fun z hz hle2 => ?_⟩
  have ez : z = m := Int.le_antisymm (hle z hz) (hle2 m hm)
  subst ez
  exact q _ H (Ex.refl H) rfl
theorem ed_minL {ns : List Int} {m : Int} (h : Ed ta Γ (.list (ns.map PyData.int))) (hm : m ∈ ns) (hle : ∀ y ∈ ns, m ≤ y) : Ed (tCB (rMin K) (tCons ta tNil)) Γ (.int m) := ed_cb (ea_cons h ea_nil) fun vs H dv Q q => by
  obtain ⟨x, rfl, a, xs, rfl, h2, h3⟩ := dd1 dv
  have e := dd_ints h3
  subst e
  refine ⟨a, ns, rfl, SqL.of h2, List.length_pos_of_mem hm, fun z hz hle2 => ?_⟩
  have ez : z = m := Int.le_antisymm (hle2 m hm) (hle z hz)
  subst ez
  exact q _ H (Ex.refl H) rfl
/-- t + (..), tuples that are not empty -/
theorem ed_catT {es : List PyData} (ha : Ed ta Γ (.tuple ds)) (hb : Ed tb Γ (.tuple es)) (h1 : ds ≠ []) (h2 : es ≠ []) (hl : ds.length + es.length ≤ 1000) : Ed (tOp (rCatT K) ta tb) Γ (.tuple (ds ++ es)) :=
  ed_two ha hb fun x y H ⟨a, xs, ex, ha1, ha2⟩ ⟨c, ys, ey, hc1, hc2⟩ Q q => by
    refine ⟨a, c, xs, ys, ex, ey, SqT.of ha1, SqT.of hc1, fun z => ?_, ?_, fun z => ?_, fun z p hp => ?_⟩
    · have l := ha2.len
      rw [z] at l
      exact h1 (List.length_eq_zero_iff.mp l.symm)
    · rw [ha2.len, hc2.len]
      exact Evl.sz_of (by omega)
    · have l := hc2.len
      rw [z] at l
      exact absurd (List.length_eq_zero_iff.mp l.symm) h2
    · exact q _ _ (Ex.new hp) ⟨p, _, rfl, upd_same, DdL.ex (Ex.new hp) _ _ (ha2.append hc2)⟩
/-- t <= u on pairs -/
def leP (p q : P2) : Bool := decide (p.1 < q.1 ∨ (p.1 = q.1 ∧ p.2 ≤ q.2))
theorem ed_leT {p q : P2} (ha : Ed ta Γ (pD p)) (hb : Ed tb Γ (pD q)) : Ed (tOp (rLeT K) ta tb) Γ (.bool (leP p q)) :=
  ed_two ha hb fun x y H hx hy Q k => by
    obtain ⟨a, rfl, ha1⟩ := dd_pD.mp hx
    obtain ⟨c, rfl, hc1⟩ := dd_pD.mp hy
    refine ⟨a, c, [p.1, p.2], [q.1, q.2], rfl, rfl, SqT.of ha1, SqT.of hc1, k _ H (Ex.refl H) ?_⟩
    show V.bl (Ob.lexAt _ _ _ 0 2) = V.bl _
    congr 1
    show (if decide (p.1 = q.1) = true then (if decide (p.2 = q.2) = true then true else decide (p.2 ≤ q.2)) else decide (p.1 ≤ q.1)) = leP p q
    unfold leP
    by_cases h1 : p.1 = q.1
    · rw [if_pos (decide_eq_true h1)]
      by_cases h2 : p.2 = q.2
      · rw [if_pos (decide_eq_true h2)]
        symm
        rw [decide_eq_true_eq]
        omega
      · rw [if_neg (by rw [decide_eq_true_eq]; exact h2)]
        rw [decide_eq_decide]
        omega
    · rw [if_neg (by rw [decide_eq_true_eq]; exact h1)]
      rw [decide_eq_decide]
      omega
end
end Fb
/-! Promises: rules, moves, boards. -/
namespace Fb
open PySem PySem.Spec PyProof.Rows L2
open Evl (Ex)
section
variable {P : Program} {w : World} {K : PySem.W.Frag} {mg : Str → Option Value} {base : Heap}

def R_is_in (ds : List PyData) (d : PyData) : Prop := ∃ v a b, ds = [.int v, .int a, .int b] ∧ d = .bool (decide (a ≤ v) && decide (v ≤ b))
theorem ok_is_in (T : Tp K mg) : FnOk P w K mg base CX0 1 T.is_in.f T.is_in.fd ["value", "least", "most"] (spD R_is_in) := by
  refine pure_ok T.is_in.F sc_is_in (fun ds d h => ?_) (fun cdv A outer s H E hr => ⟨_, (pss_one (ps_ret (pe_and (pe_callB call_isi (by rfl) T.n_isinstance (by decide +kernel) (pa_cons (pv 0) (pa_cons (pe_bltn (v := .ty "int") (by rfl) T.n_int (by decide +kernel) rfl) pa_nil))) (pe_and (pe_not (pe_callB call_isi (by rfl) T.n_isinstance (by decide +kernel) (pa_cons (pv 0) (pa_cons (pe_bltn (v := .ty "bool") (by rfl) T.n_bool (by decide +kernel) rfl) pa_nil)))) (pe_one (pe_chain op_le op_le (pv 1) (pv 0) (pv 2))))))), fun ds d h => ?_⟩)
  · obtain ⟨v, a, b, rfl, rfl⟩ := h
    rfl
  · obtain ⟨v, a, b, rfl, rfl⟩ := h
    exact s_ret (Ed.to (ed_and (ed_ii (b := true) (ed_var rfl)) fun _ => ed_and (ed_not (ed_ii (b := false) (ed_var rfl))) fun _ => ed_chain (ed_var rfl) (ed_var rfl) (ed_var rfl)) rfl)

def R_are_counts (ds : List PyData) (d : PyData) : Prop := ∃ (ns : List Int) (least : Int), ds = [.tuple (ns.map PyData.int), .int least] ∧ ns.Pairwise (· < ·) ∧ ns.length ≤ 9 ∧ (∀ n ∈ ns, least ≤ n ∧ n ≤ 8) ∧ d = .bool true
theorem ok_are_counts (T : Tp K mg) : FnOk P w K mg base CX0 2 T.are_counts.f T.are_counts.fd ["value", "least"] (spD R_are_counts) := by
  refine pure_ok T.are_counts.F sc_are_counts (fun ds d h => ?_) (fun cdv A outer s H E hr => ⟨_, (pss_cons (ps_if (pw_or (pt_not (pt_val (pe_callB call_isi (by rfl) T.n_isinstance (by decide +kernel) (pa_cons (pv 0) (pa_cons (pe_bltn (v := .ty "tuple") (by rfl) T.n_tuple (by decide +kernel) rfl) pa_nil))))) (pw_or1 (pt_cmpR (op_neD hr.units) (pe_lc (own := [("one", 2)]) rfl sc_are_counts.nd (pi_tup (pv 0)) (blkOk_by (N := N_are_counts) (sc := defScope s_are_counts) (by decide +kernel)) (fun _ _ _ _ _ => (pg_name (i := 2) sc_are_counts.nd rfl (.inl rfl))) (fun _ _ _ _ _ => (pts_one (pt_not (pt_val (pe_call (ok_is_in T) (hr.mono (by decide)) (by rfl) T.is_in.g T.is_in.F.kp T.b_is_in .nil pass0 (pa_cons (pv 2) (pa_cons (pv 1) (pa_cons pe_int pa_nil)))))))) (fun _ _ _ _ _ => (pv 2))) (pe_lst pa_nil) (nomark _)))).pt (pss_one (ps_ret pe_bl)) pss_nil)
      (pss_one (ps_ret (pe_cmpR (op_eqD hr.units) (pe_callTy call_list_of (by rfl) T.n_list (by decide +kernel) (pa_cons (pv 0) pa_nil)) (pe_callB (cr_sortedSet rfl) (by rfl) T.n_sorted (by decide +kernel) (pa_cons (pe_callTy (cr_setTup rfl) (by rfl) T.n_set (by decide +kernel) (pa_cons (pv 0) pa_nil)) pa_nil)) (nomark _))))), fun ds d h => ?_⟩)
  · obtain ⟨ns, l, rfl, _⟩ := h
    rfl
  · obtain ⟨ns, l, rfl, ho, hl, hb, rfl⟩ := h
    have C : CompOk (gName 2) (tNot (tB (tCall (spD R_is_in) [] E0 (tCons (tVar 2) (tCons (tVar 1) (tCons (tC (.int 8)) tNil)))))) (tVar 2) [some (.tuple (ns.map PyData.int)), some (.int l), none] [2] (ns.map PyData.int) (fun _ => none) := ⟨fun d m => by
      obtain ⟨n, hn, rfl⟩ := List.mem_map.mp m
      have := hb n hn
      refine ⟨_, tg_name (by simp), Et.to (et_not (et_B (ed_call (ea_cons (ed_var rfl) (ea_cons (ed_var rfl) (ea_cons ed_int ea_nil))) ⟨n, l, 8, rfl, rfl⟩))) ?_, fun e z => nomatch z⟩
      simp [this.1, this.2]⟩
    have hcomp : given (fun _ => none) (ns.map PyData.int) = [] := by
      unfold given
      rw [List.filterMap_eq_nil_iff]
      intro _ _
      rfl
    have hc := ed_lcT (K := K) (tl := tVar 0) (ed_var rfl) C (fun _ _ e z => nomatch z) (by rw [List.length_map]; omega)
    rw [hcomp] at hc
    refine s_ifr (b := false) (Et.to (et_or (et_not (et_B (ed_it (b := true) (ed_var rfl)))) fun _ => et_T (ed_neD hc (ed_lst ea_nil) rfl rfl)) rfl) (fun h => nomatch h) fun _ => ?_
    refine s_ret (Ed.to (ed_eqD (ed_lstT (ed_var rfl)) (ed_sortedSet (ns := ns) (ed_var rfl) ho (by omega)) (shaped_ints ns) (shaped_ints ns)) ?_)
    rw [eqv_ints]

def R_is_rule (ds : List PyData) (d : PyData) : Prop := ds = [RD] ∧ d = .bool true
theorem ok_is_rule (T : Tp K mg) : FnOk P w K mg base CX0 3 T.is_rule.f T.is_rule.fd ["rule"] (spD R_is_rule) := by
  refine pure_ok T.is_rule.F sc_is_rule (fun ds d h => ?_) (fun cdv A outer s H E hr => ⟨_, (pss_cons (ps_if (pw_or (pt_not (pt_val (pe_callB call_isi (by rfl) T.n_isinstance (by decide +kernel) (pa_cons (pv 0) (pa_cons (pe_bltn (v := .ty "tuple") (by rfl) T.n_tuple (by decide +kernel) rfl) pa_nil))))) (pw_or1 (pt_cmpR op_ne (pe_callB call_len_seq (by rfl) T.n_len PySem.boot_len (pa_cons (pv 0) pa_nil)) pe_int (nomark _)))).pt (pss_one (ps_ret pe_bl)) pss_nil)
      (pss_one (ps_ret (pe_and (pe_call (ok_are_counts T) (hr.mono (by decide)) (by rfl) T.are_counts.g T.are_counts.F.kp T.b_are_counts .nil pass0 (pa_cons (pe_ix ix_tup (pv 0) pe_int (fun _ _ => rfl)) (pa_cons pe_int pa_nil))) (pe_and (pe_call (ok_are_counts T) (hr.mono (by decide)) (by rfl) T.are_counts.g T.are_counts.F.kp T.b_are_counts .nil pass0 (pa_cons (pe_ix ix_tup (pv 0) pe_int (fun _ _ => rfl)) (pa_cons pe_int pa_nil))) (pe_one (pe_call (ok_is_in T) (hr.mono (by decide)) (by rfl) T.is_in.g T.is_in.F.kp T.b_is_in .nil pass0 (pa_cons (pe_ix ix_tup (pv 0) pe_int (fun _ _ => rfl)) (pa_cons pe_int (pa_cons (pe_glob (v := .int (6)) (by rfl) T.MOST_STATES ⟨_, rfl⟩) pa_nil)))))))))), fun ds d h => ?_⟩)
  · obtain ⟨rfl, rfl⟩ := h
    rfl
  · obtain ⟨rfl, rfl⟩ := h
    refine s_ifr (b := false) (Et.to (et_or (et_not (et_B (ed_it (b := true) (ed_var rfl)))) fun _ => et_T (ed_neI (ed_lenT (ed_var rfl)) ed_int)) rfl) (fun h => nomatch h) fun _ => ?_
    refine s_ret (Ed.to (ed_and (b := true) (ed_call (ea_cons (ed_ixT (ed_var rfl) ed_int rfl) (ea_cons ed_int ea_nil)) ⟨[3], 1, rfl, by decide, by decide, by decide, rfl⟩) fun _ => ed_and (b := true) (ed_call (ea_cons (ed_ixT (ed_var rfl) ed_int rfl) (ea_cons ed_int ea_nil)) ⟨[2, 3], 0, rfl, by decide, by decide, by decide, rfl⟩) fun _ =>
      ed_call (ea_cons (ed_ixT (ed_var rfl) ed_int rfl) (ea_cons ed_int (ea_cons ed_int ea_nil))) ⟨2, 2, 6, rfl, rfl⟩) rfl)

theorem ok_need_rule (T : Tp K mg) : FnOk P w K mg base CX0 4 T.need_rule.f T.need_rule.fd ["rule"] (spD fun ds d => ds = [RD] ∧ d = .none) := by
  refine pure_none (rel := fun ds => ds = [RD]) T.need_rule.F sc_need_rule (fun ds h => ?_) (fun cdv A outer s H E hr => ⟨_, (pss_one (ps_if (pt_not (pt_val (pe_call (ok_is_rule T) (hr.mono (by decide)) (by rfl) T.is_rule.g T.is_rule.F.kp T.b_is_rule .nil pass0 (pa_cons (pv 0) pa_nil)))) (pss_one ps_never) pss_nil)), fun ds h => ?_⟩)
  · cases h
    rfl
  · cases h
    exact ⟨_, s_ifn1 (Et.to (et_not (et_B (ed_call (ea_cons (ed_var rfl) ea_nil) ⟨rfl, rfl⟩))) rfl)⟩

def far (x : Int) : Prop := -FAR ≤ x ∧ x ≤ FAR
def R_is_move (ds : List PyData) (d : PyData) : Prop := ∃ m : P2, ds = [pD m] ∧ far m.1 ∧ far m.2 ∧ d = .bool true
theorem ok_is_move (T : Tp K mg) : FnOk P w K mg base CX0 2 T.is_move.f T.is_move.fd ["value"] (spD R_is_move) := by
  refine pure_ok T.is_move.F sc_is_move (fun ds d h => ?_) (fun cdv A outer s H E hr => ⟨_, (pss_cons (ps_if (pw_or (pt_not (pt_val (pe_callB call_isi (by rfl) T.n_isinstance (by decide +kernel) (pa_cons (pv 0) (pa_cons (pe_bltn (v := .ty "tuple") (by rfl) T.n_tuple (by decide +kernel) rfl) pa_nil))))) (pw_or1 (pt_cmpR op_ne (pe_callB call_len_seq (by rfl) T.n_len PySem.boot_len (pa_cons (pv 0) pa_nil)) pe_int (nomark _)))).pt (pss_one (ps_ret pe_bl)) pss_nil)
      (pss_one (ps_ret (pe_and (pe_call (ok_is_in T) (hr.mono (by decide)) (by rfl) T.is_in.g T.is_in.F.kp T.b_is_in .nil pass0 (pa_cons (pe_ix ix_tup (pv 0) pe_int (fun _ _ => rfl)) (pa_cons (pe_un un_neg (pe_glob (v := .int (10 ^ 60)) (by rfl) T.FAR ⟨_, rfl⟩)) (pa_cons (pe_glob (v := .int (10 ^ 60)) (by rfl) T.FAR ⟨_, rfl⟩) pa_nil)))) (pe_one (pe_call (ok_is_in T) (hr.mono (by decide)) (by rfl) T.is_in.g T.is_in.F.kp T.b_is_in .nil pass0 (pa_cons (pe_ix ix_tup (pv 0) pe_int (fun _ _ => rfl)) (pa_cons (pe_un un_neg (pe_glob (v := .int (10 ^ 60)) (by rfl) T.FAR ⟨_, rfl⟩)) (pa_cons (pe_glob (v := .int (10 ^ 60)) (by rfl) T.FAR ⟨_, rfl⟩) pa_nil))))))))), fun ds d h => ?_⟩)
  · obtain ⟨m, rfl, _⟩ := h
    rfl
  · obtain ⟨m, rfl, ⟨h1, h2⟩, ⟨h3, h4⟩, rfl⟩ := h
    refine s_ifr (b := false) (Et.to (et_or (et_not (et_B (ed_it (b := true) (ed_var rfl)))) fun _ => et_T (ed_neI (ed_lenT (ed_var rfl)) ed_int)) rfl) (fun h => nomatch h) fun _ => ?_
    refine s_ret (Ed.to (ed_and (ed_call (ea_cons (ed_ixT (ed_var rfl) ed_int rfl) (ea_cons (ed_neg ed_int) (ea_cons ed_int ea_nil))) ⟨m.1, _, _, rfl, rfl⟩) fun _ => ed_call (ea_cons (ed_ixT (ed_var rfl) ed_int rfl) (ea_cons (ed_neg ed_int) (ea_cons ed_int ea_nil))) ⟨m.2, _, _, rfl, rfl⟩) ?_)
    rw [decide_eq_true (show -(10 ^ 60 : Int) ≤ m.1 from h1), decide_eq_true (show m.1 ≤ (10 ^ 60 : Int) from h2), decide_eq_true (show -(10 ^ 60 : Int) ≤ m.2 from h3), decide_eq_true (show m.2 ≤ (10 ^ 60 : Int) from h4)]
    rfl

def R_is_cell (ds : List PyData) (d : PyData) : Prop := ∃ m : P2, ds = [cD m] ∧ far m.1 ∧ far m.2 ∧ d = .bool true
theorem ok_is_cell (T : Tp K mg) : FnOk P w K mg base CX0 3 T.is_cell.f T.is_cell.fd ["cell"] (spD R_is_cell) := by
  refine pure_ok T.is_cell.F sc_is_cell (fun ds d h => ?_) (fun cdv A outer s H E hr => ⟨_, (pss_cons (ps_if (pw_or (pt_not (pt_val (pe_callB call_isi (by rfl) T.n_isinstance (by decide +kernel) (pa_cons (pv 0) (pa_cons (pe_bltn (v := .ty "tuple") (by rfl) T.n_tuple (by decide +kernel) rfl) pa_nil))))) (pw_or1 (pt_cmpR op_ne (pe_callB call_len_seq (by rfl) T.n_len PySem.boot_len (pa_cons (pv 0) pa_nil)) pe_int (nomark _)))).pt (pss_one (ps_ret pe_bl)) pss_nil)
      (pss_one (ps_ret (pe_and (pe_call (ok_is_move T) (hr.mono (by decide)) (by rfl) T.is_move.g T.is_move.F.kp T.b_is_move .nil pass0 (pa_cons (pe_slice sl_tup (pv 0) po_none (po_some pe_int)) pa_nil)) (pe_one (pe_call (ok_is_in T) (hr.mono (by decide)) (by rfl) T.is_in.g T.is_in.F.kp T.b_is_in .nil pass0 (pa_cons (pe_ix ix_tup (pv 0) pe_int (fun _ _ => rfl)) (pa_cons pe_int (pa_cons (pe_op op_sub (pe_glob (v := .int (6)) (by rfl) T.MOST_STATES ⟨_, rfl⟩) pe_int) pa_nil))))))))), fun ds d h => ?_⟩)
  · obtain ⟨m, rfl, _⟩ := h
    rfl
  · obtain ⟨m, rfl, h1, h2, rfl⟩ := h
    refine s_ifr (b := false) (Et.to (et_or (et_not (et_B (ed_it (b := true) (ed_var rfl)))) fun _ => et_T (ed_neI (ed_lenT (ed_var rfl)) ed_int)) rfl) (fun h => nomatch h) fun _ => ?_
    exact s_ret (Ed.to (ed_and (ed_call (ea_cons (ed_take (n := 2) (ed_var rfl) ed_int (Nat.lt_succ_self 2)) ea_nil) ⟨m, rfl, h1, h2, rfl⟩) fun _ => ed_call (ea_cons (ed_ixT (ed_var rfl) ed_int rfl) (ea_cons ed_int (ea_cons (ed_opI ed_int ed_int) ea_nil))) ⟨1, 1, _, rfl, rfl⟩) rfl)
end
end Fb
/-! More of the calculus: loops that may return, enumerate, while; dicts that are read; one list or dict that is written. -/
namespace Fb
open PySem PySem.Spec PyProof.Rows L2
open Evl (Ex)

/-! ### tables -/
section
variable {α β : Type} [DecidableEq α]
def lo (m : List (α × β)) (k : α) : Option β := match m with
  | [] => none
  | e :: r => if e.1 = k then some e.2 else lo r k
def pu (m : List (α × β)) (k : α) (v : β) : List (α × β) := match m with
  | [] => [(k, v)]
  | e :: r => if e.1 = k then (k, v) :: r else e :: pu r k v
theorem lo_pu {k j : α} {v : β} : ∀ {m : List (α × β)}, lo (pu m k v) j = if k = j then some v else lo m j
  | [] => by
    show (if k = j then some v else lo [] j) = _
    rfl
  | e :: r => by
    unfold pu
    by_cases h : e.1 = k
    · rw [if_pos h]
      show (if k = j then some v else lo r j) = if k = j then some v else (if e.1 = j then some e.2 else lo r j)
      by_cases z : k = j
      · rw [if_pos z, if_pos z]
      · rw [if_neg z, if_neg z, if_neg fun w => z (h.symm.trans w)]
    · rw [if_neg h]
      show (if e.1 = j then some e.2 else lo (pu r k v) j) = if k = j then some v else (if e.1 = j then some e.2 else lo r j)
      rw [lo_pu]
      by_cases z : k = j
      · rw [if_pos z, if_pos z, if_neg fun w => h (w.trans z.symm)]
      · rw [if_neg z, if_neg z]
theorem keys_pu {k : α} {v : β} : ∀ {m : List (α × β)}, (pu m k v).map (·.1) = if k ∈ m.map (·.1) then m.map (·.1) else m.map (·.1) ++ [k]
  | [] => by simp [pu]
  | e :: r => by
    unfold pu
    by_cases h : e.1 = k
    · rw [if_pos h, List.map_cons, List.map_cons, if_pos (by rw [h]; exact List.mem_cons_self ..), h]
    · rw [if_neg h, List.map_cons, List.map_cons, keys_pu]
      by_cases z : k ∈ r.map (·.1)
      · rw [if_pos z, if_pos (List.mem_cons_of_mem _ z)]
      · rw [if_neg z, if_neg (fun w => (List.mem_cons.mp w).elim (fun q => h q.symm) z), List.cons_append]
theorem nodup_pu {m : List (α × β)} {k : α} {v : β} (h : (m.map (·.1)).Nodup) : ((pu m k v).map (·.1)).Nodup := by
  rw [keys_pu]
  by_cases z : k ∈ m.map (·.1)
  · rw [if_pos z]; exact h
  · rw [if_neg z, List.nodup_append]
    exact ⟨h, List.nodup_cons.mpr ⟨fun w => (nomatch w), List.nodup_nil⟩, fun a ha b hb e => z (by rw [List.mem_singleton] at hb; rw [← hb, ← e]; exact ha)⟩
theorem length_pu (m : List (α × β)) (k : α) (v : β) : (pu m k v).length ≤ m.length + 1 := by
  have e : (pu m k v).length = ((pu m k v).map (·.1)).length := (List.length_map ..).symm
  rw [e, keys_pu]
  split
  · rw [List.length_map]; omega
  · rw [List.length_append, List.length_map]; exact Nat.le_refl _
theorem lo_none {m : List (α × β)} {k : α} : lo m k = none ↔ k ∉ m.map (·.1) := by
  induction m with
  | nil => simp [lo]
  | cons e r ih =>
    show (if e.1 = k then some e.2 else lo r k) = none ↔ _
    by_cases h : e.1 = k
    · rw [if_pos h]
      simp [h]
    · rw [if_neg h, ih, List.map_cons, List.mem_cons]
      exact ⟨fun z w => w.elim (fun q => h q.symm) z, fun z w => z (.inr w)⟩
theorem pu_new {m : List (α × β)} {k : α} {v : β} (h : k ∉ m.map (·.1)) : pu m k v = m ++ [(k, v)] := by
  induction m with
  | nil => rfl
  | cons e r ih =>
    unfold pu
    rw [if_neg (fun z => h (by rw [← z]; exact List.mem_cons_self ..)), ih fun z => h (List.mem_cons_of_mem _ z)]
    rfl
end
theorem valV_lo {m : List (P2 × PyData)} {k : P2} : valV (vals m) k = (lo m k).map vV := by
  induction m with
  | nil => rfl
  | cons e r ih =>
    show valV ((e.1, vV e.2) :: vals r) k = (if e.1 = k then some e.2 else lo r k).map vV
    by_cases h : e.1 = k
    · rw [valV_pos h, if_pos h]; rfl
    · rw [valV_neg h, if_neg h, ih]
theorem putK_pu {m : List (P2 × PyData)} {k : P2} {d : PyData} (h : (m.map (·.1)).Nodup) : putK (vals m) k (vV d) = vals (pu m k d) := by
  unfold putK
  have ea : ((vals m).any fun kv => decide (kv.1 = k)) = decide (k ∈ m.map (·.1)) := by
    rw [valV_any, valV_lo]
    cases z : lo m k with
    | none => rw [decide_eq_false (lo_none.mp z)]; rfl
    | some d' =>
      by_cases w : k ∈ m.map (·.1)
      · rw [decide_eq_true w]; rfl
      · rw [lo_none.mpr w] at z; cases z
  rw [ea]
  by_cases w : k ∈ m.map (·.1)
  · rw [if_pos (decide_eq_true w)]
    clear ea
    induction m with
    | nil => exact nomatch w
    | cons e r ih =>
      obtain ⟨h1, h2⟩ := List.nodup_cons.mp h
      unfold vals pu
      rw [List.map_map, List.map_cons]
      show (if e.1 = k then (e.1, vV d) else (e.1, vV e.2)) :: _ = _
      by_cases z : e.1 = k
      · rw [if_pos z, if_pos z, List.map_cons, z]
        congr 1
        refine List.map_congr_left fun x hx => ?_
        show (if x.1 = k then (x.1, vV d) else (x.1, vV x.2)) = _
        rw [if_neg fun q => h1 (List.mem_map.mpr ⟨x, hx, q.trans z.symm⟩)]
      · rw [if_neg z, if_neg z, List.map_cons]
        congr 1
        have i2 := ih h2 ((List.mem_cons.mp w).resolve_left fun q => z q.symm)
        unfold vals at i2
        rw [List.map_map] at i2
        exact i2
  · rw [if_neg (by rw [decide_eq_true_eq]; exact w), pu_new w]
    unfold vals
    rw [List.map_append]
    rfl
theorem kv_vals_len (m : List (P2 × PyData)) : (kv (vals m)).length = m.length := by
  unfold kv vals
  rw [List.length_map, List.length_map]
theorem dd_sc {H : Hp} : ∀ {d : PyData}, scD d = true → Dd H d (vV d)
  | .none, _ => rfl
  | .int _, _ => rfl
  | .bool _, _ => rfl
  | .str _, t => nomatch t
  | .list _, t => nomatch t
  | .tuple _, t => nomatch t
theorem lo_mem {m : List (P2 × PyData)} {k : P2} {d : PyData} (h : lo m k = some d) : (k, d) ∈ m := by
  induction m with
  | nil => cases h
  | cons e r ih =>
    have h' : (if e.1 = k then some e.2 else lo r k) = some d := h
    by_cases z : e.1 = k
    · rw [if_pos z] at h'
      cases h'
      rw [← z]
      exact List.mem_cons_self ..
    · rw [if_neg z] at h'
      exact List.mem_cons_of_mem _ (ih h')
theorem dkL_inj {m n : List (P2 × PyData)} (h : dkL m = dkL n) : m = n := by
  induction m generalizing n with
  | nil =>
    cases n with
    | nil => rfl
    | cons e n => cases h
  | cons e m ih =>
    cases n with
    | nil => cases h
    | cons e' n =>
      obtain ⟨h1, h2⟩ := List.cons.inj h
      rw [ih h2]
      rcases e with ⟨⟨x, y⟩, d⟩
      rcases e' with ⟨⟨u, v⟩, d'⟩
      simp only [pD, Prod.mk.injEq, PyData.tuple.injEq, List.cons.injEq, PyData.int.injEq, and_true] at h1
      obtain ⟨⟨a, b⟩, c⟩ := h1
      rw [a, b, c]
theorem dkL_ne {m n : List (P2 × PyData)} (h : dkL m = (.none, .none) :: dkL n) : False := by
  cases m with
  | nil => cases h
  | cons e m =>
    have z := (List.cons.inj h).1
    cases z
theorem dkL_nr {m : List (P2 × PyData)} {a : Int} (h : dkL m = [(.none, .int a)]) : False := by
  cases m with
  | nil => cases h
  | cons e m =>
    have z := (List.cons.inj h).1
    cases z
theorem dd_dk {H : Hp} {m : List (P2 × PyData)} {v : V} (h : Dd H (dkD m) v) : ∃ a, v = V.ref a ∧ Rd H a (HO.dT (kv (vals m))) ∧ ∀ e ∈ m, scD e.2 = true := by
  obtain ⟨a, n, h1, h2, h3⟩ := h
  rcases h3 with ⟨h3, h4⟩ | ⟨h3, h4⟩ | h4
  · cases dkL_inj h4
    exact ⟨a, h1, h3, h2⟩
  · exact (dkL_ne h4).elim
  · exact (dkL_nr h4).elim
theorem dd_dx {H : Hp} {m : List (P2 × PyData)} {v : V} (h : Dd H (dxD m) v) : ∃ a, v = V.ref a ∧ H a = some (HO.dT (kv (vals m))) ∧ ∀ e ∈ m, scD e.2 = true := by
  obtain ⟨a, n, h1, h2, h3⟩ := h
  rcases h3 with ⟨h3, h4⟩ | ⟨h3, h4⟩ | h4
  · exact (dkL_ne h4.symm).elim
  · cases dkL_inj (List.cons.inj h4).2
    exact ⟨a, h1, h3, h2⟩
  · cases h4
theorem dd_raw {H : Hp} {a : Addr} {v : V} : Dd H (rawD a) v ↔ v = V.ref a := by
  constructor
  · rintro ⟨c, n, h1, h2, h3⟩
    rcases h3 with ⟨h3, h4⟩ | ⟨h3, h4⟩ | h4
    · exact (dkL_nr h4.symm).elim
    · cases h4
    · have e := (List.cons.inj h4).1
      have e2 : ((a : Nat) : Int) = ((c : Nat) : Int) := by
        injection e with _ e
        injection e
      have e3 : a = c := Int.ofNat.inj e2
      rw [e3]
      exact h1
  · rintro rfl
    exact ⟨a, [], rfl, fun e h => (List.not_mem_nil h).elim, .inr (.inr rfl)⟩
theorem dx_of {H : Hp} {m : List (P2 × PyData)} {a : Addr} (h : H a = some (HO.dT (kv (vals m)))) (hs : ∀ e ∈ m, scD e.2 = true) : Dd H (dxD m) (V.ref a) := ⟨a, m, rfl, hs, .inr (.inl ⟨h, rfl⟩)⟩
theorem dk_of {H : Hp} {m : List (P2 × PyData)} {a : Addr} (h : Rd H a (HO.dT (kv (vals m)))) (hs : ∀ e ∈ m, scD e.2 = true) : Dd H (dkD m) (V.ref a) := ⟨a, m, rfl, hs, .inl ⟨h, rfl⟩⟩
theorem dx_dk {H : Hp} {m : List (P2 × PyData)} {v : V} (h : Dd H (dxD m) v) : Dd H (dkD m) v := by
  obtain ⟨a, rfl, h1, h2⟩ := dd_dx h
  exact dk_of (.inl h1) h2

section
variable {K : PySem.W.Frag} {w : World} {Γ : Gm} {ta tb tc te : TE} {t u : TT} {d e : PyData} {ds : List PyData} {b c : Bool} {i j : Int} {m : List (P2 × PyData)} {p : P2}
theorem Ed.dk (h : Ed ta Γ (dxD m)) : Ed ta Γ (dkD m) := fun σ H s Q q => h σ H s Q fun v H1 e1 dv => q v H1 e1 (dx_dk dv)
theorem dget_of {H : Hp} {a q : Addr} (h : Rd H a (HO.dT (kv (vals m)))) (hq : H q = some (HO.tup ((kP p).map kV))) : DGet H a (.ref q) ((lo m p).map vV) := .inr ⟨_, kP p, q, h, rfl, hq, by rw [valV_kv, valV_lo]⟩
theorem ed_dget (ha : Ed ta Γ (dkD m)) (hb : Ed tb Γ (pD p)) (h : lo m p = some d) : Ed (tDGet ta tb) Γ d := fun σ H s Q q =>
  ha σ H s _ fun x H1 e1 dx => hb σ H1 (s.ex e1) _ fun y H2 e2 dy => by
    obtain ⟨a, rfl, hr, hs⟩ := dd_dk (Dd.ex e2 _ _ dx)
    obtain ⟨r, rfl, hy⟩ := dd_pD.mp dy
    refine ⟨a, vV d, rfl, ?_, q _ H2 (e1.trans e2) (dd_sc (hs _ (lo_mem h)))⟩
    have z := dget_of (p := p) hr hy
    rw [h] at z
    exact z
/-- d.get(k, i) -/
theorem ed_dget2 (ha : Ed ta Γ (dkD m)) (hb : Ed tb Γ (pD p)) (hc : Ed tc Γ e) (he : scD e = true) : Ed (tDGet2 ta tb tc) Γ ((lo m p).getD e) := fun σ H s Q q =>
  ha σ H s _ fun x H1 e1 dx => by
    obtain ⟨a, rfl, hr, hs⟩ := dd_dk dx
    refine ⟨a, rfl, .inr ⟨_, hr⟩, hb σ H1 (s.ex e1) _ fun y H2 e2 dy => hc σ H2 (s.ex (e1.trans e2)) _ fun z H3 e3 dz => ?_⟩
    obtain ⟨r, rfl, hy⟩ := dd_pD.mp (Dd.ex e3 _ _ dy)
    refine ⟨_, dget_of (p := p) (rd_ex (e2.trans e3) hr) hy, q _ H3 ((e1.trans e2).trans e3) ?_⟩
    cases z : lo m p with
    | none =>
      exact dz
    | some d => exact dd_sc (hs _ (lo_mem z))
theorem ed_din (hb : Ed tb Γ (pD p)) (ha : Ed ta Γ (dkD m)) : Ed (tDIn tb ta) Γ (.bool (decide (p ∈ m.map (·.1)))) := fun σ H s Q q =>
  hb σ H s _ fun y H1 e1 dy => ha σ H1 (s.ex e1) _ fun x H2 e2 dx => by
    obtain ⟨a, rfl, hr, hs⟩ := dd_dk dx
    obtain ⟨r, rfl, hy⟩ := dd_pD.mp (Dd.ex e2 _ _ dy)
    refine ⟨a, _, rfl, dget_of (p := p) hr hy, q _ H2 (e1.trans e2) ?_⟩
    show V.bl _ = V.bl _
    congr 1
    cases z : lo m p with
    | none => rw [decide_eq_false (lo_none.mp z)]; rfl
    | some d' =>
      by_cases w : p ∈ m.map (·.1)
      · rw [decide_eq_true w]; rfl
      · rw [lo_none.mpr w] at z; cases z
theorem ed_dnotin (hb : Ed tb Γ (pD p)) (ha : Ed ta Γ (dkD m)) : Ed (tDNotIn tb ta) Γ (.bool (!decide (p ∈ m.map (·.1)))) := fun σ H s Q q =>
  hb σ H s _ fun y H1 e1 dy => ha σ H1 (s.ex e1) _ fun x H2 e2 dx => by
    obtain ⟨a, rfl, hr, hs⟩ := dd_dk dx
    obtain ⟨r, rfl, hy⟩ := dd_pD.mp (Dd.ex e2 _ _ dy)
    refine ⟨a, _, rfl, dget_of (p := p) hr hy, q _ H2 (e1.trans e2) ?_⟩
    show V.bl _ = V.bl _
    congr 1
    cases z : lo m p with
    | none => rw [decide_eq_false (lo_none.mp z)]; rfl
    | some d' =>
      by_cases w : p ∈ m.map (·.1)
      · rw [decide_eq_true w]; rfl
      · rw [lo_none.mpr w] at z; cases z
/-- i in t, ints -/
theorem ed_in {ns : List Int} (ha : Ed ta Γ (.int i)) (hb : Ed tb Γ (.tuple (ns.map PyData.int))) : Ed (tOp (rIn K false) ta tb) Γ (.bool (decide (i ∈ ns))) :=
  ed_two ha hb fun x y H hx hy Q q => by
    cases (show x = V.int i from hx)
    obtain ⟨a, xs, rfl, h2, h3⟩ := hy
    have e := dd_ints h3
    subst e
    have hf : ((ns.map V.int).all flatV) = true := by
      rw [List.all_map, List.all_eq_true]
      intro _ _
      rfl
    refine ⟨a, _, rfl, .inr (SqT.of h2), rfl, hf, q _ H (Ex.refl H) ?_⟩
    show V.bl _ = V.bl _
    congr 1
    show inV (.int i) (ns.map V.int) = _
    clear hf h2 h3 q hb
    induction ns with
    | nil => rfl
    | cons n ns ih =>
      have e1 : inV (.int i) ((n :: ns).map V.int) = (eqV (.int n) (.int i) || inV (.int i) (ns.map V.int)) := rfl
      rw [e1, ih]
      have e2 : eqV (.int n) (.int i) = decide (n = i) := by rfl
      rw [e2]
      by_cases z : n = i
      · subst z; simp
      · have z' : i ≠ n := fun w => z w.symm
        simp [z, z']

/-! ### loops that may return -/
variable {tbd : TS} {g : TG}
/-- the body returns r at the first turn that hits -/
theorem s_forT' {tl : TE} {n : Nat} {r : PyData} {o : Gm ⊕ PyData} (G : Nat → Gm) (hit : Nat → Bool) (h : Ed tl (G 0) (.tuple ds)) (hn : n = ds.length)
    (hs : ∀ (i : Nat) (d : PyData), ds[i]? = some d → ∃ Γ', TgN g (G i) d Γ' ∧ (hit i = false → S tbd Γ' (.inl (G (i + 1)))) ∧ (hit i = true → S tbd Γ' (.inr r)))
    (h1 : (∀ i, i < n → hit i = false) → o = .inl (G n)) (h2 : (∃ i, i < n ∧ hit i = true) → o = .inr r) : S (tFor (iTup K tl) g tbd) (G 0) o := fun D σ H s f =>
  h σ H s _ fun v H1 e1 ⟨a, xs, ha1, ha2, ha3⟩ => ⟨a, ha1, ⟨xs, SqT.of ha2⟩, for_tup (K := K) (xs := xs) (fun i σ' H' => Ex H1 H' ∧ Sl H' σ' (G i) ∧ ∀ k, k < i → hit k = false) ⟨Ex.refl H1, s.ex e1, fun k hk => (by omega)⟩ (fun i σ' H' _ p => SqT.of (p.1 a _ ha2))
    (fun i x σ' H' hx p => by
      obtain ⟨d, hd, dx⟩ := DdL.get' ha3 hx
      obtain ⟨Γ', t1, t2, t3⟩ := hs i d hd
      refine t1 σ' H' x p.2.1 (Dd.ex p.1 _ _ dx) _ fun σ2 s2 => ?_
      have hi : i < n := by rw [hn]; exact (List.getElem?_eq_some_iff.mp hd).1
      cases z : hit i with
      | false => exact t2 z _ σ2 H' s2 fun σ3 H3 e3 s3 => ⟨p.1.trans e3, s3, fun k hk => by
          rcases Nat.lt_or_ge k i with l | l
          · exact p.2.2 k l
          · have ek : k = i := by omega
            rw [ek]; exact z⟩
      | true =>
        have eo := h2 ⟨i, hi, z⟩
        subst eo
        exact t3 z _ σ2 H' s2 fun v H2 e2 => f v H2 ((e1.trans p.1).trans e2))
    fun σ' H' p => by
      have l := ha3.len
      rw [l, ← hn] at p
      have eo := h1 p.2.2
      subst eo
      exact f σ' H' (e1.trans p.1) p.2.1⟩
theorem s_forL' {tl : TE} {n : Nat} {r : PyData} {o : Gm ⊕ PyData} (G : Nat → Gm) (hit : Nat → Bool) (h : Ed tl (G 0) (.list ds)) (hn : n = ds.length)
    (hs : ∀ (i : Nat) (d : PyData), ds[i]? = some d → ∃ Γ', TgN g (G i) d Γ' ∧ (hit i = false → S tbd Γ' (.inl (G (i + 1)))) ∧ (hit i = true → S tbd Γ' (.inr r)))
    (h1 : (∀ i, i < n → hit i = false) → o = .inl (G n)) (h2 : (∃ i, i < n ∧ hit i = true) → o = .inr r) : S (tFor (iList K tl) g tbd) (G 0) o := fun D σ H s f =>
  h σ H s _ fun v H1 e1 ⟨a, xs, ha1, ha2, ha3⟩ => ⟨a, ha1, ⟨xs, SqL.of ha2⟩, for_list (K := K) (xs := xs) (fun i σ' H' => Ex H1 H' ∧ Sl H' σ' (G i) ∧ ∀ k, k < i → hit k = false) ⟨Ex.refl H1, s.ex e1, fun k hk => (by omega)⟩ (fun i σ' H' _ p => SqL.of (p.1 a _ ha2))
    (fun i x σ' H' hx p => by
      obtain ⟨d, hd, dx⟩ := DdL.get' ha3 hx
      obtain ⟨Γ', t1, t2, t3⟩ := hs i d hd
      refine t1 σ' H' x p.2.1 (Dd.ex p.1 _ _ dx) _ fun σ2 s2 => ?_
      have hi : i < n := by rw [hn]; exact (List.getElem?_eq_some_iff.mp hd).1
      cases z : hit i with
      | false => exact t2 z _ σ2 H' s2 fun σ3 H3 e3 s3 => ⟨p.1.trans e3, s3, fun k hk => by
          rcases Nat.lt_or_ge k i with l | l
          · exact p.2.2 k l
          · have ek : k = i := by omega
            rw [ek]; exact z⟩
      | true =>
        have eo := h2 ⟨i, hi, z⟩
        subst eo
        exact t3 z _ σ2 H' s2 fun v H2 e2 => f v H2 ((e1.trans p.1).trans e2))
    fun σ' H' p => by
      have l := ha3.len
      rw [l, ← hn] at p
      have eo := h1 p.2.2
      subst eo
      exact f σ' H' (e1.trans p.1) p.2.1⟩
/-- while c: .. -/
theorem s_while {c : TT} (G : Nat → Gm) (b : Nat → Bool) (n : Nat) (hc : ∀ i, i ≤ n → Et c (G i) (b i)) (hb : ∀ i, i < n → b i = true) (hn : b n = false) (hs : ∀ i, i < n → S tbd (G i) (.inl (G (i + 1)))) : S (tWhile c tbd) (G 0) (.inl (G n)) := fun D σ H s f =>
  ⟨fun k σ' H' => ∃ i, i ≤ n ∧ k = n - i ∧ Ex H H' ∧ Sl H' σ' (G i), ⟨n, 0, Nat.zero_le _, rfl, Ex.refl H, s⟩, fun k σ1 H1 ⟨i, hi, hk, e1, s1⟩ => hc i hi σ1 H1 s1 _ fun H2 e2 => by
    rcases Nat.lt_or_ge i n with l | l
    · rw [if_pos (hb i l)]
      refine ⟨fun σ' H' => Ex H H' ∧ Sl H' σ' (G (i + 1)), fun σ' H' p => ⟨n - (i + 1), by omega, i + 1, l, rfl, p⟩, ?_⟩
      exact hs i l _ σ1 H2 (s1.ex e2) fun σ3 H3 e3 s3 => ⟨(e1.trans e2).trans e3, s3⟩
    · have ei : i = n := by omega
      subst ei
      rw [if_neg (by rw [hn]; decide)]
      exact f σ1 H2 (e1.trans e2) (s1.ex e2)⟩
/-- for i, x in enumerate(t) -/
theorem s_forE {ta : TA} (G : Nat → Gm) (h : Ea ta (G 0) [.tuple ds]) (hs : ∀ (i : Nat) (d : PyData), ds[i]? = some d → ∃ Γ', TgN g (G i) (.tuple [.int (i : Nat), d]) Γ' ∧ S tbd Γ' (.inl (G (i + 1)))) :
    S (tFor (iEnumT ta) g tbd) (G 0) (.inl (G ds.length)) := fun D σ H s f =>
  h σ H s _ fun vs H1 e1 dv => by
    obtain ⟨x0, rfl, a, xs, rfl, ha2, ha3⟩ := dd1 dv
    refine ⟨a, xs, rfl, ha2, for_enumT (a := a) (xs := xs) (fun i σ' H' => Ex H1 H' ∧ Sl H' σ' (G i)) ⟨Ex.refl H1, s.ex e1⟩ (fun i σ' H' p => p.1 a _ ha2)
      (fun i x T σ' H' hx fr p => ?_) fun σ' H' p => f σ' H' (e1.trans p.1) (by have z := p.2; rw [ha3.len] at z; exact z)⟩
    obtain ⟨d, hd, dx⟩ := DdL.get' ha3 hx
    obtain ⟨Γ', t1, t2⟩ := hs i d hd
    have e2 : Ex H' (upd H' T (.tup [.int (i : Nat), x])) := Ex.new fr
    refine t1 σ' _ (.ref T) (p.2.ex e2) ⟨T, _, rfl, upd_same, .int (i : Nat), [x], rfl, rfl, x, [], rfl, Dd.ex e2 _ _ (Dd.ex p.1 _ _ dx), rfl⟩ _ fun σ2 s2 => ?_
    exact t2 _ σ2 _ s2 fun σ3 H3 e3 s3 => ⟨p.1.trans (e2.trans e3), s3⟩
end
end Fb
/-! Promises: boards, windows of time, numbers. -/
namespace Fb
open PySem PySem.Spec PyProof.Rows L2
open Evl (Ex)
section
variable {P : Program} {w : World} {K : PySem.W.Frag} {mg : Str → Option Value} {base : Heap}

theorem ltP_le {p q : P2} (h : ltP p q) : leP q p = false := by
  unfold leP
  unfold ltP at h
  rw [decide_eq_false_iff_not]
  omega
def Fars (b : Board) : Prop := ∀ p ∈ b, far p.1 ∧ far p.2
def R_need_board (ds : List PyData) : Prop := ∃ b : Board, ds = [bD b] ∧ Srt b ∧ Fars b
theorem ok_need_board (T : Tp K mg) : FnOk P w K mg base CX0 4 T.need_board.f T.need_board.fd ["board"] (spD fun ds d => R_need_board ds ∧ d = .none) := by
  refine pure_none (rel := R_need_board) T.need_board.F sc_need_board (fun ds h => ?_) (fun cdv A outer s H E hr => ⟨_, (pss_cons (ps_if (pt_not (pt_val (pe_callB call_isi (by rfl) T.n_isinstance (by decide +kernel) (pa_cons (pv 0) (pa_cons (pe_bltn (v := .ty "tuple") (by rfl) T.n_tuple (by decide +kernel) rfl) pa_nil))))) (pss_one ps_never) pss_nil)
      (pss_one (ps_for PassesOwn.never rfl (pi_enumT (by rfl) T.n_enumerate (pa_cons (pv 0) pa_nil)) (pg_tup rfl (pgs_cons (pg_name (i := 1) sc_need_board.nd rfl (.inl rfl)) (pgs_cons (pg_name (i := 2) sc_need_board.nd rfl (.inl rfl)) pgs_nil))) (pss_one (ps_if (pw_or (pt_not (pt_val (pe_call (ok_is_cell T) (hr.mono (by decide)) (by rfl) T.is_cell.g T.is_cell.F.kp T.b_is_cell .nil pass0 (pa_cons (pv 2) pa_nil)))) (pw_or1 (pw_and (pt_cmpR op_gt (pv 1) pe_int (nomark _)) (pw_and1 (pt_cmpR (op_leT hr.units0) (pe_slice sl_tup (pv 2) po_none (po_some pe_int)) (pe_slice sl_tup (pe_ix ix_tup (pv 0) (pe_op op_sub (pv 1) pe_int) (fun _ _ => rfl)) po_none (po_some pe_int)) (nomark _)))).pt)).pt (pss_one ps_never) pss_nil))))), fun ds h => ?_⟩)
  · obtain ⟨b, rfl, _⟩ := h
    rfl
  · obtain ⟨b, rfl, hs, hf⟩ := h
    refine ⟨_, s_ifn (Et.to (et_not (et_B (ed_it (b := true) (ed_var rfl)))) rfl) (s_forE (ds := b.map cD) (fun _ => [some (bD b), none, none]) (ea_cons (ed_var rfl) ea_nil) fun i d hd => ?_)⟩
    rw [List.getElem?_map] at hd
    cases hb : b[i]? with
    | none => rw [hb] at hd; cases hd
    | some p =>
      rw [hb] at hd
      cases hd
      have hp := hf p (List.mem_of_getElem? hb)
      refine ⟨_, tn_tup (ks := [1, 2]) rfl, ?_⟩
      have hw : ∀ {c : Bool} {u : TT}, (0 < i → Et u [some (bD b), some (.int (i : Nat)), some (cD p)] false) → Et (tOr (tNot (tB (tCall (spD R_is_cell) [] E0 (tCons (tVar 2) tNil)))) (tAnd (tTest (tOp (rI0 fun i j => .bl (decide (i > j))) (tVar 1) (tC (.int 0)))) u)) [some (bD b), some (.int (i : Nat)), some (cD p)] false := fun {c u} hu =>
        Et.to (et_or (et_not (et_B (ed_call (ea_cons (ed_var rfl) ea_nil) ⟨p, rfl, hp.1, hp.2, rfl⟩))) fun _ => et_and (et_T (ed_opB (g := fun i j => decide (i > j)) (ed_var rfl) ed_int)) fun z => hu (by have := of_decide_eq_true z; omega)) (by simp)
      refine (s_ifn1 (hw (c := true) fun h0 => ?_)).forget rfl fun k d e => ?_
      · have hq : ∃ q, b[i - 1]? = some q := ⟨_, List.getElem?_eq_getElem (by have := (List.getElem?_eq_some_iff.mp hb).1; omega)⟩
        obtain ⟨q, hq⟩ := hq
        have lt : ltP q p := by
          have l1 := (List.getElem?_eq_some_iff.mp hb).1
          have l2 := (List.getElem?_eq_some_iff.mp hq).1
          have z := List.pairwise_iff_getElem.mp hs (i - 1) i l2 l1 (by omega)
          rw [(List.getElem?_eq_some_iff.mp hb).2, (List.getElem?_eq_some_iff.mp hq).2] at z
          exact z
        have ix : atI (b.map cD) ((i : Int) - 1) = some (cD q) := by
          have e : (i : Int) - 1 = ((i - 1 : Nat) : Int) := by omega
          rw [e]
          exact atI_nat (by rw [List.getElem?_map, hq]; rfl)
        exact Et.to (et_T (ed_leT (p := p) (q := q) (ed_take (n := 2) (ds := [.int p.1, .int p.2, .int 1]) (ed_var rfl) ed_int (Nat.lt_succ_self 2)) (ed_take (n := 2) (ds := [.int q.1, .int q.2, .int 1]) (ed_ixT (ed_var rfl) (ed_opI (g := fun i j => i - j) (ed_var rfl) ed_int) ix) ed_int (Nat.lt_succ_self 2)))) (ltP_le lt)
      · match k, e with
        | 0, e => exact e
        | 1, e => cases e
        | 2, e => cases e

theorem given_map {f : PyData → Option PyData} {g : P2 → P2} (hg : ∀ p, f (cD p) = some (cD (g p))) (b : Board) : given f (b.map cD) = (b.map g).map cD := by
  unfold given
  induction b with
  | nil => rfl
  | cons p b ih => rw [List.map_cons, List.filterMap_cons, hg, ih]; rfl
/-- what moves a cell's data -/
def mvD (m : P2) : PyData → Option PyData
  | .tuple [.int x, .int y, s] => some (.tuple [.int (x + m.1), .int (y + m.2), s])
  | _ => none
def R_shifted_in (ds : List PyData) (d : PyData) : Prop := ∃ (b : Board) (m : P2), ds = [bD b, pD m] ∧ b.length ≤ 40000 ∧ d = bD (mv m b)
theorem ok_shifted_in (T : Tp K mg) : FnOk P w K mg base CX0 1 T.shifted_in.f T.shifted_in.fd ["board", "move"] (spD R_shifted_in) := by
  refine pure_ok T.shifted_in.F sc_shifted_in (fun ds d h => ?_) (fun cdv A outer s H E hr => ⟨_, (pss_one (ps_ret (pe_callTy call_tuple_of (by rfl) T.n_tuple (by decide +kernel) (pa_cons (pe_lc (own := [("x", 2), ("y", 3), ("state", 4)]) rfl sc_shifted_in.nd (pi_tup (pv 0)) (blkOk_by (N := N_shifted_in) (sc := defScope s_shifted_in) (by decide +kernel)) (fun _ _ _ _ _ => (show PG _ _ (gTup K 3 (gNames [2, 3, 4])) from (pg_tup rfl (pgs_cons (pg_name (i := 2) sc_shifted_in.nd rfl (.inl rfl)) (pgs_cons (pg_name (i := 3) sc_shifted_in.nd rfl (.inl rfl)) (pgs_cons (pg_name (i := 4) sc_shifted_in.nd rfl (.inl rfl)) pgs_nil)))))) (fun _ _ _ _ _ => pts_nil) (fun _ _ _ _ _ => (pe_tup (pa_cons (pe_op op_add (pv 2) (pe_ix (show IxR _ (rIxT K) from ix_tup) (pv 1) pe_int (fun _ _ => rfl))) (pa_cons (pe_op op_add (pv 3) (pe_ix (show IxR _ (rIxT K) from ix_tup) (pv 1) pe_int (fun _ _ => rfl))) (pa_cons (pv 4) pa_nil)))))) pa_nil)))), fun ds d h => ?_⟩)
  · obtain ⟨b, m, rfl, _⟩ := h
    rfl
  · obtain ⟨b, m, rfl, hl, rfl⟩ := h
    refine s_ret (ed_tupL ?_)
    have e : (mv m b).map cD = given (mvD m) (b.map cD) := (given_map (g := fun p => plus p m) (fun p => rfl) b).symm
    rw [e]
    refine ed_lcT (ed_var rfl) ⟨fun d hd => ?_⟩ (fun d hd e he => ?_) (by rw [List.length_map]; exact hl)
    · obtain ⟨p, _, rfl⟩ := List.mem_map.mp hd
      refine ⟨_, tg_tup (ks := [2, 3, 4]) rfl (by decide), et_yes, fun e he => ?_⟩
      cases he
      exact ed_tup (ea_cons (ed_opI (g := fun i j => i + j) (ed_var rfl) (ed_ixT (ed_var rfl) ed_int rfl)) (ea_cons (ed_opI (g := fun i j => i + j) (ed_var rfl) (ed_ixT (ed_var rfl) ed_int rfl)) (ea_cons (ed_var rfl) ea_nil)))
    · obtain ⟨p, _, rfl⟩ := List.mem_map.mp hd
      cases he
      rfl

/-- a window of time as data -/
def wD : Option (Int × Option Int) → PyData
  | none => .none
  | some (f, l) => .tuple [.int f, oD l]
def R_times (ds : List PyData) (d : PyData) : Prop := ∃ s m : Int, ds = [.int s, .int m] ∧ -1000000 < m ∧ m < 1000000 ∧ d = wD (times s m)
theorem ok_times_within (T : Tp K mg) : FnOk P w K mg base CX0 1 T.times_within.f T.times_within.fd ["start", "move"] (spD R_times) := by
  refine pure_ok T.times_within.F sc_times_within (fun ds d h => ?_) (fun cdv A outer s H E hr => ⟨_, (pss_cons (ps_if (pt_cmpR op_eq (pv 1) pe_int (nomark _)) (pss_one (ps_ret (pe_ifExp (pt_chain op_le op_le (pe_un un_neg (pe_glob (v := .int (2)) (by rfl) T.NEAR ⟨_, rfl⟩)) (pv 0) (pe_glob (v := .int (2)) (by rfl) T.NEAR ⟨_, rfl⟩)) (pe_tup (pa_cons pe_int (pa_cons pe_non pa_nil))) pe_non))) pss_nil)
      (pss_cons (ps_if (pt_cmpR op_lt (pv 1) pe_int (nomark _)) (pss_one (ps_par (i := 0) (j := 1) (by rfl) sc_times_within.nd rfl rfl (by decide) rfl rfl (pa_cons (pe_un un_neg (pv 0)) (pa_cons (pe_un un_neg (pv 1)) pa_nil)) (by rfl))) pss_nil)
      (pss_cons (ps_par (i := 2) (j := 3) (by rfl) sc_times_within.nd rfl rfl (by decide) rfl rfl (pa_cons (pe_un un_neg (pe_op op_fdiv (pe_op op_add (pv 0) (pe_glob (v := .int (2)) (by rfl) T.NEAR ⟨_, rfl⟩)) (pv 1))) (pa_cons (pe_op op_fdiv (pe_op op_sub (pe_glob (v := .int (2)) (by rfl) T.NEAR ⟨_, rfl⟩) (pv 0)) (pv 1)) pa_nil)) (by rfl))
      (pss_cons (ps_set (i := 2) sc_times_within.nd rfl (.inl rfl) (pe_callB (call_max2 rfl) (by rfl) T.n_max (by decide +kernel) (pa_cons pe_int (pa_cons (pv 2) pa_nil))))
      (pss_one (ps_ret (pe_ifExp (pt_cmpR op_le (pv 2) (pv 3) (nomark _)) (pe_tup (pa_cons (pv 2) (pa_cons (pv 3) pa_nil))) pe_non))))))), fun ds d h => ?_⟩)
  · obtain ⟨s, m, rfl, _⟩ := h
    rfl
  · obtain ⟨s, m, rfl, h1, h2, rfl⟩ := h
    have c0 := et_T (ed_eqI (Γ := [some (.int s), some (.int m), none, none]) (i := m) (j := 0) (ed_var (k := 1) rfl) ed_int)
    refine s_ifr c0 (fun z => ?_) (fun z => ?_)
    · have z := of_decide_eq_true z
      refine s_ret (ed_ifExp (et_T (ed_chain (g := fun i j => decide (i ≤ j)) (h := fun i j => decide (i ≤ j)) (ed_neg ed_int) (ed_var rfl) ed_int)) (fun u => ?_) fun u => ?_)
      · have e : times s m = some (0, none) := by
          unfold times
          rw [if_pos z, if_pos (by simpa using u)]
        rw [e]
        exact ed_tup (ea_cons ed_int (ea_cons ed_non ea_nil))
      · have e : times s m = none := by
          unfold times
          rw [if_pos z, if_neg (by
            intro w
            rw [decide_eq_true (show (-2 : Int) ≤ s from w.1), decide_eq_true (show s ≤ (2 : Int) from w.2)] at u
            cases u)]
        rw [e]
        exact ed_non
    · have z := of_decide_eq_false z
      obtain ⟨s', hs'⟩ : ∃ s', s' = if m < 0 then -s else s := ⟨_, rfl⟩
      obtain ⟨m', hm'⟩ : ∃ m', m' = if m < 0 then -m else m := ⟨_, rfl⟩
      have m0 : 0 < m' ∧ m' < 1000000 := by rw [hm']; split <;> omega
      have e : times s m = if (if -((s' + 2) / m') > 0 then -((s' + 2) / m') else 0) ≤ (2 - s') / m' then some ((if -((s' + 2) / m') > 0 then -((s' + 2) / m') else 0), some ((2 - s') / m')) else none := by
        unfold times
        rw [if_neg z, hs', hm']
      rw [e]
      refine s_seq (Γ' := [some (.int s'), some (.int m'), none, none]) (s_if (et_T (ed_opB (g := fun i j => decide (i < j)) (ed_var rfl) ed_int)) (fun u => ?_) fun u => ?_) ?_
      · have u := of_decide_eq_true u
        rw [hs', hm', if_pos u, if_pos u]
        exact s_par (ed_neg (ed_var rfl)) (ed_neg (ed_var rfl))
      · have u := of_decide_eq_false u
        rw [hs', hm', if_neg u, if_neg u]
        exact s_next
      · refine s_seq (s_par (ed_neg (ed_opC (g := fun i j => i / j) (ed_opI (g := fun i j => i + j) (ed_var rfl) ed_int) (ed_var rfl) ⟨m0.1, by omega⟩)) (ed_opC (g := fun i j => i / j) (ed_opI (g := fun i j => i - j) ed_int (ed_var rfl)) (ed_var rfl) ⟨m0.1, by omega⟩)) ?_
        refine s_seq (s_asg (ed_max2 ed_int (ed_var rfl))) ?_
        refine s_ret (ed_ifExp (et_T (ed_opB (g := fun i j => decide (i ≤ j)) (ed_var rfl) (ed_var rfl))) (fun u => ?_) fun u => ?_)
        · rw [if_pos (of_decide_eq_true u)]
          exact ed_tup (ea_cons (ed_var rfl) (ea_cons (ed_var rfl) ea_nil))
        · rw [if_neg (of_decide_eq_false u)]
          exact ed_non

theorem isNon_w (o : Option (Int × Option Int)) : isNon (wD o) = o.isNone := by
  cases o with
  | none => rfl
  | some q => cases q; rfl
def R_first_in (ds : List PyData) (d : PyData) : Prop := ∃ s m : P2, ds = [pD s, pD m] ∧ -1000000 < m.1 ∧ m.1 < 1000000 ∧ -1000000 < m.2 ∧ m.2 < 1000000 ∧ d = oD (firstOf (times s.1 m.1) (times s.2 m.2))
theorem ed_min1 {Γ : Gm} {ta : TE} {m : Int} (h : Ed ta Γ (.list [.int m])) : Ed (tCB (rMin K) (tCons ta tNil)) Γ (.int m) := ed_minL (ns := [m]) h (List.mem_singleton.mpr rfl) fun y hy => by rw [List.mem_singleton.mp hy]; exact Int.le_refl m
theorem ed_min2 {Γ : Gm} {ta : TE} {m n : Int} (h : Ed ta Γ (.list [.int m, .int n])) : Ed (tCB (rMin K) (tCons ta tNil)) Γ (.int (if n < m then n else m)) := ed_minL (ns := [m, n]) h (by split <;> simp) fun y hy => by
  rcases List.mem_cons.mp hy with rfl | hy
  · split <;> omega
  · rw [List.mem_singleton.mp hy]
    split <;> omega
theorem ok_first_in (T : Tp K mg) : FnOk P w K mg base CX0 2 T.first_in.f T.first_in.fd ["start", "move"] (spD R_first_in) := by
  refine pure_ok T.first_in.F sc_first_in (fun ds d h => ?_) (fun cdv A outer s H E hr => ⟨_, (pss_cons (ps_par (i := 2) (j := 3) (by rfl) sc_first_in.nd rfl rfl (by decide) rfl rfl (pa_cons (pe_call (ok_times_within T) (hr.mono (by decide)) (by rfl) T.times_within.g T.times_within.F.kp T.b_times_within .nil pass0 (pa_cons (pe_ix ix_tup (pv 0) pe_int (fun _ _ => rfl)) (pa_cons (pe_ix ix_tup (pv 1) pe_int (fun _ _ => rfl)) pa_nil))) (pa_cons (pe_call (ok_times_within T) (hr.mono (by decide)) (by rfl) T.times_within.g T.times_within.F.kp T.b_times_within .nil pass0 (pa_cons (pe_ix ix_tup (pv 0) pe_int (fun _ _ => rfl)) (pa_cons (pe_ix ix_tup (pv 1) pe_int (fun _ _ => rfl)) pa_nil))) pa_nil)) (by rfl))
      (pss_cons (ps_if (pw_or (pt_cmp (pc_isN (pv 2)) rfl) (pw_or1 (pt_cmp (pc_isN (pv 3)) rfl))).pt (pss_one (ps_ret pe_non)) pss_nil)
      (pss_cons (ps_set (i := 4) sc_first_in.nd rfl (.inl rfl) (pe_callB (call_max2 rfl) (by rfl) T.n_max (by decide +kernel) (pa_cons (pe_ix ix_tup (pv 2) pe_int (fun _ _ => rfl)) (pa_cons (pe_ix ix_tup (pv 3) pe_int (fun _ _ => rfl)) pa_nil))))
      (pss_cons (ps_setLc (i := 5) (own := [("end", 6)]) rfl sc_first_in.nd rfl rfl (sw_true rfl rfl rfl (by decide +kernel)) (pi_tup (pe_tup (pa_cons (pe_ix ix_tup (pv 2) pe_int (fun _ _ => rfl)) (pa_cons (pe_ix ix_tup (pv 3) pe_int (fun _ _ => rfl)) pa_nil)))) (blkOk_by (N := N_first_in) (sc := defScope s_first_in) (by decide +kernel)) (fun _ _ _ _ _ => (pg_name (i := 6) sc_first_in.nd rfl (.inl rfl))) (fun _ _ _ _ _ => (pts_one (pt_cmp (pc_notN (pv 6)) rfl))) (fun _ _ _ _ _ => (pv 6)))
      (pss_one (ps_ret (pe_ifExp (pw_or (pt_cmpR (op_eqD hr.units) (pv 5) (pe_lst pa_nil) (nomark _)) (pw_or1 (pt_cmpR op_le (pv 4) (pe_callB (cr_min rfl) (by rfl) T.n_min (by decide +kernel) (pa_cons (pv 5) pa_nil)) (nomark _)))).pt (pv 4) pe_non))))))), fun ds d h => ?_⟩)
  · obtain ⟨s, m, rfl, _⟩ := h
    rfl
  · obtain ⟨s, m, rfl, h1, h2, h3, h4, rfl⟩ := h
    refine s_seq (s_par (ed_call (ea_cons (ed_ixT (ed_var rfl) ed_int rfl) (ea_cons (ed_ixT (ed_var rfl) ed_int rfl) ea_nil)) ⟨s.1, m.1, rfl, h1, h2, rfl⟩) (ed_call (ea_cons (ed_ixT (ed_var rfl) ed_int rfl) (ea_cons (ed_ixT (ed_var rfl) ed_int rfl) ea_nil)) ⟨s.2, m.2, rfl, h3, h4, rfl⟩)) ?_
    generalize times s.1 m.1 = a
    generalize times s.2 m.2 = c
    have c0 := et_or (et_B (ed_isN (Γ := [some (pD s), some (pD m), some (wD a), some (wD c), none, none, none]) (ed_var (k := 2) rfl))) fun _ => et_B (ed_isN (Γ := [some (pD s), some (pD m), some (wD a), some (wD c), none, none, none]) (ed_var (k := 3) rfl))
    rw [isNon_w, isNon_w] at c0
    refine s_ifr c0 (fun z => ?_) (fun z => ?_)
    · have e : firstOf a c = none := by
        cases a with
        | none => rfl
        | some a => cases c with
          | none => cases a with | mk f l => rfl
          | some c => cases z
      rw [e]
      exact s_ret ed_non
    · obtain ⟨⟨f, l⟩, rfl⟩ : ∃ q, a = some q := by cases a with
        | none => cases z
        | some q => exact ⟨q, rfl⟩
      obtain ⟨⟨g, l'⟩, rfl⟩ : ∃ q, c = some q := by cases c with
        | none => cases z
        | some q => exact ⟨q, rfl⟩
      refine s_seq (s_asg (ed_max2 (i := f) (j := g) (ed_ixT (ed_var rfl) ed_int rfl) (ed_ixT (ed_var rfl) ed_int rfl))) ?_
      have C : ∀ x : PyData, CompOk (gName 6) (tB (tNotN (tVar 6))) (tVar 6) [some (pD s), some (pD m), some (wD (some (f, l))), some (wD (some (g, l'))), some (.int (if g > f then g else f)), none, none] [6] [oD l, oD l'] (fun d => if isNon d then none else some d) := fun x => ⟨fun d hd => by
        refine ⟨_, tg_name (by simp), Et.to (et_B (ed_notN (ed_var rfl))) ?_, fun e he => ?_⟩
        · cases isNon d <;> rfl
        · cases z : isNon d with
          | true => rw [z] at he; cases he
          | false => rw [z] at he; cases he; exact ed_var rfl⟩
      have lc := ed_lcT (K := K) (ed_tup (ea_cons (ed_ixT (ta := tVar 2) (tb := tC (.int 1)) (i := 1) (d := oD l) (K := K) (ed_var rfl) ed_int rfl) (ea_cons (ed_ixT (ta := tVar 3) (tb := tC (.int 1)) (i := 1) (d := oD l') (K := K) (ed_var rfl) ed_int rfl) ea_nil))) (C .none) (fun d hd e he => by
        have e2 : e = d := by
          cases z : isNon d with
          | true => rw [z] at he; cases he
          | false => rw [z] at he; cases he; rfl
        subst e2
        rcases List.mem_cons.mp hd with z | hd
        · rw [z]; exact fl_o l
        · rw [List.mem_singleton.mp hd]; exact fl_o l') (Nat.le_of_ble_eq_true rfl)
      refine s_seq (s_asg lc) ?_
      have ev : ∀ (k : Int), isNon (.int k) = false := fun _ => rfl
      cases l with
      | none => cases l' with
        | none =>
          exact s_ret (ed_ifExp (b := true) (et_or (b := true) (c := false) (et_T (Ed.to (ed_eqD (d := .list []) (ed_var rfl) (ed_lst ea_nil) rfl rfl) rfl)) fun z => nomatch z) (fun _ => ed_var rfl) fun z => nomatch z)
        | some l' =>
          refine s_ret (ed_ifExp (et_or (b := false) (et_T (Ed.to (ed_eqD (d := .list [.int l']) (ed_var rfl) (ed_lst ea_nil) rfl rfl) rfl)) fun _ => et_T (ed_opB (g := fun i j => decide (i ≤ j)) (ed_var rfl) (ed_min1 (m := l') (ed_var rfl)))) (fun u => ?_) fun u => ?_)
          · show Ed _ _ (oD (if (if g > f then g else f) ≤ l' then some (if g > f then g else f) else none))
            rw [if_pos (c := (if g > f then g else f) ≤ l') (of_decide_eq_true (by rw [Bool.false_or] at u; exact u))]
            exact ed_var rfl
          · show Ed _ _ (oD (if (if g > f then g else f) ≤ l' then some (if g > f then g else f) else none))
            rw [if_neg (c := (if g > f then g else f) ≤ l') (of_decide_eq_false (by rw [Bool.false_or] at u; exact u))]
            exact ed_non
      | some l => cases l' with
        | none =>
          refine s_ret (ed_ifExp (et_or (b := false) (et_T (Ed.to (ed_eqD (d := .list [.int l]) (ed_var rfl) (ed_lst ea_nil) rfl rfl) rfl)) fun _ => et_T (ed_opB (g := fun i j => decide (i ≤ j)) (ed_var rfl) (ed_min1 (m := l) (ed_var rfl)))) (fun u => ?_) fun u => ?_)
          · show Ed _ _ (oD (if (if g > f then g else f) ≤ l then some (if g > f then g else f) else none))
            rw [if_pos (c := (if g > f then g else f) ≤ l) (of_decide_eq_true (by rw [Bool.false_or] at u; exact u))]
            exact ed_var rfl
          · show Ed _ _ (oD (if (if g > f then g else f) ≤ l then some (if g > f then g else f) else none))
            rw [if_neg (c := (if g > f then g else f) ≤ l) (of_decide_eq_false (by rw [Bool.false_or] at u; exact u))]
            exact ed_non
        | some l' =>
          refine s_ret (ed_ifExp (et_or (b := false) (et_T (Ed.to (ed_eqD (d := .list [.int l, .int l']) (ed_var rfl) (ed_lst ea_nil) rfl rfl) rfl)) fun _ => et_T (ed_opB (g := fun i j => decide (i ≤ j)) (ed_var rfl) (ed_min2 (m := l) (n := l') (ed_var rfl)))) (fun u => ?_) fun u => ?_)
          · show Ed _ _ (oD (if (if g > f then g else f) ≤ (if l' < l then l' else l) then some (if g > f then g else f) else none))
            rw [if_pos (c := (if g > f then g else f) ≤ (if l' < l then l' else l)) (of_decide_eq_true (by rw [Bool.false_or] at u; exact u))]
            exact ed_var rfl
          · show Ed _ _ (oD (if (if g > f then g else f) ≤ (if l' < l then l' else l) then some (if g > f then g else f) else none))
            rw [if_neg (c := (if g > f then g else f) ≤ (if l' < l then l' else l)) (of_decide_eq_false (by rw [Bool.false_or] at u; exact u))]
            exact ed_non

def R_moved_by (ds : List PyData) (d : PyData) : Prop := ∃ (m : P2) (k : Nat), ds = [pD m, .int k] ∧ -1000000 < m.1 ∧ m.1 < 1000000 ∧ -1000000 < m.2 ∧ m.2 < 1000000 ∧ d = pD (sc k m)
theorem ok_moved_by (T : Tp K mg) : FnOk P w K mg base CX0 1 T.moved_by.f T.moved_by.fd ["move", "many"] (spD R_moved_by) := by
  refine pure_ok T.moved_by.F sc_moved_by (fun ds d h => ?_) (fun cdv A outer s H E hr => ⟨_, (pss_one (ps_ret (pe_tup (pa_cons (pe_op op_mul (pe_ix ix_tup (pv 0) pe_int (fun _ _ => rfl)) (pv 1)) (pa_cons (pe_op op_mul (pe_ix ix_tup (pv 0) pe_int (fun _ _ => rfl)) (pv 1)) pa_nil))))), fun ds d h => ?_⟩)
  · obtain ⟨m, k, rfl, _⟩ := h
    rfl
  · obtain ⟨m, k, rfl, h1, h2, h3, h4, rfl⟩ := h
    have e : pD (sc k m) = .tuple [.int (m.1 * k), .int (m.2 * k)] := by
      unfold pD sc
      rw [Int.mul_comm, Int.mul_comm (k : Int)]
    rw [e]
    exact s_ret (ed_tup (ea_cons (ed_opC (g := fun i j => i * j) (ed_ixT (ed_var rfl) ed_int rfl) (ed_var rfl) (.inl ⟨by omega, by omega⟩)) (ea_cons (ed_opC (g := fun i j => i * j) (ed_ixT (ed_var rfl) ed_int rfl) (ed_var rfl) (.inl ⟨by omega, by omega⟩)) ea_nil)))

def R_need_small (ds : List PyData) : Prop := ∃ b : Board, ds = [bD b] ∧ b.length ≤ 3000
theorem ok_need_small (T : Tp K mg) : FnOk P w K mg base CX0 1 T.need_small.f T.need_small.fd ["board"] (spD fun ds d => R_need_small ds ∧ d = .none) := by
  refine pure_none (rel := R_need_small) T.need_small.F sc_need_small (fun ds h => ?_) (fun cdv A outer s H E hr => ⟨_, (pss_one (ps_if (pt_cmpR op_gt (pe_callB call_len_seq (by rfl) T.n_len PySem.boot_len (pa_cons (pv 0) pa_nil)) (pe_glob (v := .int (3000)) (by rfl) T.MOST_CELLS ⟨_, rfl⟩) (nomark _)) (pss_one ps_never) pss_nil)), fun ds h => ?_⟩)
  · obtain ⟨b, rfl, _⟩ := h
    rfl
  · obtain ⟨b, rfl, hl⟩ := h
    refine ⟨_, s_ifn1 (Et.to (et_T (ed_opB (g := fun i j => decide (i > j)) (ed_lenT (ed_var rfl)) ed_int)) ?_)⟩
    rw [List.length_map]
    exact decide_eq_false (by omega)

def R_need_states (ds : List PyData) (d : PyData) : Prop := ∃ b : Board, ds = [RD, bD b] ∧ b.length ≤ 40000 ∧ d = .bool true
theorem ok_need_states (T : Tp K mg) : FnOk P w K mg base CX0 1 T.need_states.f T.need_states.fd ["rule", "board"] (spD R_need_states) := by
  refine pure_ok T.need_states.F sc_need_states (fun ds d h => ?_) (fun cdv A outer s H E hr => ⟨_, (pss_one (ps_ret (pe_cmpR (op_eqD hr.units) (pe_lc (own := [("cell", 2)]) rfl sc_need_states.nd (pi_tup (pv 1)) (blkOk_by (N := N_need_states) (sc := defScope s_need_states) (by decide +kernel)) (fun _ _ _ _ _ => (pg_name (i := 2) sc_need_states.nd rfl (.inl rfl))) (fun _ _ _ _ _ => (pts_one (pt_cmpR op_ge (pe_ix (show IxR _ (rIxT K) from ix_tup) (pv 2) pe_int (fun _ _ => rfl)) (pe_ix (show IxR _ (rIxT K) from ix_tup) (pv 0) pe_int (fun _ _ => rfl)) (nomark _)))) (fun _ _ _ _ _ => (pv 2))) (pe_lst pa_nil) (nomark _)))), fun ds d h => ?_⟩)
  · obtain ⟨b, rfl, _⟩ := h
    rfl
  · obtain ⟨b, rfl, hl, rfl⟩ := h
    have hcomp : given (fun _ => none) (b.map cD) = [] := by
      unfold given
      rw [List.filterMap_eq_nil_iff]
      intro _ _
      rfl
    have C : CompOk (gName 2) (tTest (tOp (rI0 fun i j => .bl (decide (i ≥ j))) (tOp (rIxT K) (tVar 2) (tC (.int 2))) (tOp (rIxT K) (tVar 0) (tC (.int 2))))) (tVar 2) [some RD, some (bD b), none] [2] (b.map cD) (fun _ => none) := ⟨fun d m => by
      obtain ⟨p, hp, rfl⟩ := List.mem_map.mp m
      exact ⟨_, tg_name (by simp), Et.to (et_T (ed_opB (g := fun i j => decide (i ≥ j)) (ed_ixT (ed_var rfl) ed_int rfl) (ed_ixT (ed_var rfl) ed_int rfl))) rfl, fun e z => nomatch z⟩⟩
    have hc := ed_lcT (K := K) (tl := tVar 1) (ed_var rfl) C (fun _ _ e z => nomatch z) (by rw [List.length_map]; exact hl)
    rw [hcomp] at hc
    exact s_ret (Ed.to (ed_eqD hc (ed_lst ea_nil) rfl rfl) rfl)

theorem far_max (l : List Int) (h : l ≠ []) : (∃ m ∈ l, ∀ y ∈ l, y ≤ m) ∧ ∃ m ∈ l, ∀ y ∈ l, m ≤ y := by
  induction l with
  | nil => exact absurd rfl h
  | cons a l ih =>
    cases l with
    | nil => exact ⟨⟨a, by simp, fun y hy => by simp at hy; omega⟩, a, by simp, fun y hy => by simp at hy; omega⟩
    | cons c l =>
      obtain ⟨⟨m, hm, h1⟩, n, hn, h2⟩ := ih (by simp)
      refine ⟨?_, ?_⟩
      · by_cases z : a ≤ m
        · exact ⟨m, List.mem_cons_of_mem _ hm, fun y hy => (List.mem_cons.mp hy).elim (fun e => by omega) fun e => h1 y e⟩
        · exact ⟨a, List.mem_cons_self .., fun y hy => (List.mem_cons.mp hy).elim (fun e => by omega) fun e => by have := h1 y e; omega⟩
      · by_cases z : n ≤ a
        · exact ⟨n, List.mem_cons_of_mem _ hn, fun y hy => (List.mem_cons.mp hy).elim (fun e => by omega) fun e => h2 y e⟩
        · exact ⟨a, List.mem_cons_self .., fun y hy => (List.mem_cons.mp hy).elim (fun e => by omega) fun e => by have := h2 y e; omega⟩
def rowD : PyData → Option PyData
  | .tuple [_, y, _] => some y
  | _ => none
def R_is_beyond (ds : List PyData) (d : PyData) : Prop := ∃ b : Board, ds = [bD b] ∧ b ≠ [] ∧ b.length ≤ 40000 ∧ Fars b ∧ d = .bool false
theorem ok_is_beyond (T : Tp K mg) : FnOk P w K mg base CX0 1 T.is_beyond.f T.is_beyond.fd ["board"] (spD R_is_beyond) := by
  refine pure_ok T.is_beyond.F sc_is_beyond (fun ds d h => ?_) (fun cdv A outer s H E hr => ⟨_, (pss_cons (ps_setLc (i := 1) (own := [("cell", 2)]) rfl sc_is_beyond.nd rfl rfl (sw_true rfl rfl rfl (by decide +kernel)) (pi_tup (pv 0)) (blkOk_by (N := N_is_beyond) (sc := defScope s_is_beyond) (by decide +kernel)) (fun _ _ _ _ _ => (pg_name (i := 2) sc_is_beyond.nd rfl (.inl rfl))) (fun _ _ _ _ _ => pts_nil) (fun _ _ _ _ _ => (pe_ix (show IxR _ (rIxT K) from ix_tup) (pv 2) pe_int (fun _ _ => rfl))))
      (pss_one (ps_ret (pe_or (pe_cmpR op_lt (pe_ix ix_tup (pe_ix ix_tup (pv 0) pe_int (fun _ _ => rfl)) pe_int (fun _ _ => rfl)) (pe_un un_neg (pe_glob (v := .int (10 ^ 60)) (by rfl) T.FAR ⟨_, rfl⟩)) (nomark _)) (pe_or (pe_cmpR op_gt (pe_ix ix_tup (pe_ix ix_tup (pv 0) (pe_un un_neg pe_int) (fun _ _ => rfl)) pe_int (fun _ _ => rfl)) (pe_glob (v := .int (10 ^ 60)) (by rfl) T.FAR ⟨_, rfl⟩) (nomark _)) (pe_or (pe_cmpR op_lt (pe_callB (cr_min rfl) (by rfl) T.n_min (by decide +kernel) (pa_cons (pv 1) pa_nil)) (pe_un un_neg (pe_glob (v := .int (10 ^ 60)) (by rfl) T.FAR ⟨_, rfl⟩)) (nomark _)) (pe_one (pe_cmpR op_gt (pe_callB (cr_max rfl) (by rfl) T.n_max (by decide +kernel) (pa_cons (pv 1) pa_nil)) (pe_glob (v := .int (10 ^ 60)) (by rfl) T.FAR ⟨_, rfl⟩) (nomark _))))))))), fun ds d h => ?_⟩)
  · obtain ⟨b, rfl, _⟩ := h
    rfl
  · obtain ⟨b, rfl, hb, hl, hf, rfl⟩ := h
    have eg : given rowD (b.map cD) = (b.map (·.2)).map PyData.int := by
      unfold given
      clear hb hl hf
      induction b with
      | nil => rfl
      | cons p b ih => rw [List.map_cons, List.filterMap_cons]; show PyData.int p.2 :: _ = _; rw [ih]; rfl
    have C : CompOk (gName 2) tYes (tOp (rIxT K) (tVar 2) (tC (.int 1))) [some (bD b), none, none] [2] (b.map cD) rowD := ⟨fun d m => by
      obtain ⟨p, hp, rfl⟩ := List.mem_map.mp m
      refine ⟨_, tg_name (by simp), et_yes, fun e z => ?_⟩
      cases z
      exact ed_ixT (ed_var rfl) ed_int rfl⟩
    have hc := ed_lcT (K := K) (tl := tVar 0) (ed_var rfl) C (fun d hd e he => by
      obtain ⟨p, hp, rfl⟩ := List.mem_map.mp hd
      cases he
      rfl) (by rw [List.length_map]; exact hl)
    rw [eg] at hc
    refine s_seq (s_asg hc) ?_
    have nn : b.map (·.2) ≠ [] := fun z => hb (List.map_eq_nil_iff.mp z)
    obtain ⟨⟨mx, mx1, mx2⟩, mn, mn1, mn2⟩ := far_max _ nn
    have f1 : ∀ y ∈ b.map (·.2), far y := fun y hy => by
      obtain ⟨p, hp, rfl⟩ := List.mem_map.mp hy
      exact (hf p hp).2
    obtain ⟨p0, hp0⟩ : ∃ p, b[0]? = some p := ⟨_, List.getElem?_eq_getElem (List.length_pos_iff.mpr hb)⟩
    have q0 := (hf p0 (List.mem_of_getElem? hp0)).1
    have hlast : b = b.dropLast ++ [b.getLast hb] := (List.dropLast_concat_getLast hb).symm
    have q1 := (hf (b.getLast hb) (List.getLast_mem hb)).1
    have i0 : atI (b.map cD) 0 = some (cD p0) := atI_nat (j := 0) (by rw [List.getElem?_map, hp0]; rfl)
    have i1 : atI (b.map cD) (-1) = some (cD (b.getLast hb)) := by
      have e : b.map cD = b.dropLast.map cD ++ [cD (b.getLast hb)] := by
        have z := congrArg (List.map cD) hlast
        rw [List.map_append] at z
        exact z
      rw [e]
      exact atI_last _ _
    unfold far FAR at q0 q1 f1
    have k1 := f1 _ mx1
    have k2 := f1 _ mn1
    refine s_ret (Ed.to (ed_or (ed_opB (g := fun i j => decide (i < j)) (ed_ixT (ed_ixT (ed_var rfl) ed_int i0) ed_int rfl) (ed_neg ed_int)) fun _ => ed_or (ed_opB (g := fun i j => decide (i > j)) (ed_ixT (ed_ixT (ed_var rfl) (ed_neg ed_int) i1) ed_int rfl) ed_int) fun _ =>
      ed_or (ed_opB (g := fun i j => decide (i < j)) (ed_minL (ed_var rfl) mn1 mn2) (ed_neg ed_int)) fun _ => ed_opB (g := fun i j => decide (i > j)) (ed_maxL (ed_var rfl) mx1 mx2) ed_int) ?_)
    congr 1
    rw [decide_eq_false (show ¬ p0.1 < -(10 ^ 60 : Int) by omega), decide_eq_false (show ¬ (b.getLast hb).1 > (10 ^ 60 : Int) by omega), decide_eq_false (show ¬ mn < -(10 ^ 60 : Int) by omega), decide_eq_false (show ¬ mx > (10 ^ 60 : Int) by omega)]
    rfl
end
end Fb
/-! Statements that write: what holds of the heap before and behind, beside the slots' data. -/
namespace Fb
open PySem PySem.Spec PyProof.Rows L2
open Evl (Ex)

/-- what stood and may not be written stands -/
def Xa (A : Addr → Prop) (H H' : Hp) : Prop := ∀ b o, ¬ A b → H b = some o → H' b = some o
theorem Xa.of {A : Addr → Prop} {H H' : Hp} (e : Ex H H') : Xa A H H' := fun b o _ h => e b o h
theorem Xa.refl {A : Addr → Prop} (H : Hp) : Xa A H H := fun _ _ _ h => h
theorem Xa.trans {A : Addr → Prop} {H H1 H2 : Hp} (a : Xa A H H1) (b : Xa A H1 H2) : Xa A H H2 := fun x o n h => b x o n (a x o n h)
theorem Xa.upd {A : Addr → Prop} {H : Hp} {p : Addr} {o : HO} (h : A p) : Xa A H (upd H p o) := fun b u n e => by
  rw [upd_ne fun z => n (by rw [z]; exact h)]
  exact e
theorem Xa.new {A : Addr → Prop} {H : Hp} {p : Addr} {o : HO} (h : H p = none) : Xa A H (L2.upd H p o) := Xa.of (Ex.new h)
/-- stays where more is laid -/
def Stb (I : Hp → Prop) : Prop := ∀ H H', I H → Ex H H' → I H'
/-- flat data, addresses: told by tuples alone -/
def Ts0 : PyData → Bool
  | .dict [(.none, .int _)] => true
  | d => Fl0 d
theorem ts_fl {d : PyData} (h : Fl0 d = true) : Ts0 d = true := by
  unfold Ts0
  split
  · rfl
  · exact h
theorem ts_raw (a : Addr) : Ts0 (rawD a) = true := rfl
theorem Dd.ts {H H' : Hp} (e : TX H H') {d : PyData} {v : V} (t : Ts0 d = true) (h : Dd H d v) : Dd H' d v := by
  unfold Ts0 at t
  split at t
  · obtain ⟨c, n, h1, h2, h3⟩ := h
    rcases h3 with ⟨h3, h4⟩ | ⟨h3, h4⟩ | h4
    · exact (dkL_nr h4.symm).elim
    · cases h4
    · exact ⟨c, [], h1, fun e h => (List.not_mem_nil h).elim, .inr (.inr h4)⟩
  · exact Dd.tx e d v t h
def TsG (Γ : Gm) : Prop := ∀ d, some d ∈ Γ → Ts0 d = true
theorem Sl.ts {H H' : Hp} {σ : L2.St} {Γ : Gm} (s : Sl H σ Γ) (t : TsG Γ) (e : TX H H') : Sl H' σ Γ := ⟨s.len, fun i d h => let ⟨v, a, b⟩ := s.at_ i d h; ⟨v, a, Dd.ts e (t d (List.mem_of_getElem? h)) b⟩⟩
theorem tx_upd {H : Hp} {p : Addr} {o : HO} (h : ∀ xs, H p ≠ some (.tup xs)) : TX H (upd H p o) := (TX.refl H).upd h

/-- from slots' data Γ and a heap with I: to Γ' and I', or a return with R; only what A says is written -/
def MJ (A : Addr → Prop) (t : TS) (Γ : Gm) (I : Hp → Prop) (Γ' : Gm) (I' : Hp → Prop) (R : V → Hp → Prop) : Prop :=
  ∀ (D : Ends) σ H, Sl H σ Γ → I H → (∀ σ' H', Xa A H H' → Sl H' σ' Γ' → I' H' → D.nx σ' H') → (∀ v H', Xa A H H' → R v H' → D.rt v H') → t D σ H
section
variable {K : PySem.W.Frag} {A B : Addr → Prop} {t u w : TS} {te ta tb tk tv : TE} {c : TT} {g : TG} {Γ Γ' Γ1 Γm : Gm} {I I' I1 : Hp → Prop} {R : V → Hp → Prop} {d e : PyData} {b : Bool} {m : List (P2 × PyData)} {p : Addr}
theorem mj_S (h : S t Γ (.inl Γ')) (st : Stb I) : MJ A t Γ I Γ' I R := fun D σ H s i n r => h D σ H s fun σ' H' e s' => n σ' H' (.of e) s' (st _ _ i e)
theorem mj_next : MJ A tNext Γ I Γ I R := fun D σ H s i n r => n σ H (Xa.refl H) s i
theorem mj_seq (h1 : MJ A t Γ I Γ1 I1 R) (h2 : MJ A u Γ1 I1 Γ' I' R) : MJ A (tSeq t u) Γ I Γ' I' R := fun D σ H s i n r =>
  h1 { D with nx := u D } σ H s i (fun σ1 H1 x1 s1 i1 => h2 D σ1 H1 s1 i1 (fun σ2 H2 x2 => n σ2 H2 (x1.trans x2)) fun v H2 x2 => r v H2 (x1.trans x2)) r
/-- the data as they are seen while I holds -/
def View (I : Hp → Prop) (Γ Γm : Gm) : Prop := ∀ σ H, Sl H σ Γ → I H → Sl H σ Γm
theorem view_refl : View I Γ Γ := fun _ _ s _ => s
theorem mj_ret (vw : View I Γ Γm) (st : Stb I) (h : Ed te Γm d) (hr : ∀ v H, I H → Dd H d v → R v H) : MJ A (tRet te) Γ I Γ' I' R := fun D σ H s i n r =>
  h σ H (vw σ H s i) _ fun v H1 e1 dv => r v H1 (.of e1) (hr v H1 (st _ _ i e1) dv)
theorem mj_if (vw : View I Γ Γm) (st : Stb I) (h : Et c Γm b) (h1 : b = true → MJ A t Γ I Γ' I' R) (h2 : b = false → MJ A u Γ I Γ' I' R) : MJ A (tIfS c t u) Γ I Γ' I' R := fun D σ H s i n r =>
  h σ H (vw σ H s i) _ fun H1 e1 => by
    have n' : ∀ σ' H', Xa A H1 H' → Sl H' σ' Γ' → I' H' → D.nx σ' H' := fun σ' H' x => n σ' H' ((Xa.of e1).trans x)
    have r' : ∀ v H', Xa A H1 H' → R v H' → D.rt v H' := fun v H' x => r v H' ((Xa.of e1).trans x)
    cases b with
    | true => exact h1 rfl D σ H1 (s.ex e1) (st _ _ i e1) n' r'
    | false => exact h2 rfl D σ H1 (s.ex e1) (st _ _ i e1) n' r'
theorem MJ.forget (h : MJ A t Γ I Γ1 I' R) (l : Γ'.length = Γ1.length) (hf : ∀ (i : Nat) (d : PyData), Γ'[i]? = some (some d) → Γ1[i]? = some (some d)) : MJ A t Γ I Γ' I' R := fun D σ H s i n r => h D σ H s i (fun σ' H' x s' => n σ' H' x (s'.forget l hf)) r
theorem MJ.post (h : MJ A t Γ I Γ' I1 R) (hi : ∀ H, I1 H → I' H) : MJ A t Γ I Γ' I' R := fun D σ H s i n r => h D σ H s i (fun σ' H' x s' i' => n σ' H' x s' (hi _ i')) r
theorem MJ.pre (h : MJ A t Γ I1 Γ' I' R) (hi : ∀ H, I H → I1 H) : MJ A t Γ I Γ' I' R := fun D σ H s i n r => h D σ H s (hi _ i) n r

/-! ### the dict at p -/
structure OkD (H : Hp) (p : Addr) (m : List (P2 × PyData)) : Prop where
  at_ : H p = some (HO.dT (kv (vals m)))
  sc : ∀ e ∈ m, scD e.2 = true
  nd : (m.map (·.1)).Nodup
  few : m.length ≤ 100000
theorem OkD.ex {H H' : Hp} (h : OkD H p m) (e : Ex H H') : OkD H' p m := ⟨e _ _ h.at_, h.sc, h.nd, h.few⟩
theorem OkD.nt {H : Hp} (h : OkD H p m) (xs : List V) : H p ≠ some (.tup xs) := fun z => by rw [h.at_] at z; cases z
/-- slot k holds p: seen as the dict -/
theorem view_dict {k : Nat} (hk : Γ[k]? = some (some (rawD p))) (h : ∀ H, I H → OkD H p m) : View I Γ (Γ.set k (some (dxD m))) := fun σ H s i => by
  refine ⟨by rw [List.length_set, s.len], fun j e he => ?_⟩
  by_cases z : k = j
  · subst z
    by_cases l : k < Γ.length
    · rw [List.getElem?_set_self l] at he
      cases he
      obtain ⟨v, a, b⟩ := s.at_ k _ hk
      exact ⟨v, a, by rw [dd_raw.mp b]; exact dx_of (h H i).at_ (h H i).sc⟩
    · rw [List.getElem?_eq_none (by rw [List.length_set]; omega)] at he
      cases he
  · rw [List.getElem?_set_ne z] at he
    exact s.at_ j e he
theorem sc_pu {q : P2} {x : PyData} (h : ∀ e ∈ m, scD e.2 = true) (hx : scD x = true) : ∀ e ∈ pu m q x, scD e.2 = true := by
  induction m with
  | nil =>
    intro e he
    rw [List.mem_singleton.mp he]
    exact hx
  | cons a r ih =>
    intro e he
    unfold pu at he
    by_cases z : a.1 = q
    · rw [if_pos z] at he
      rcases List.mem_cons.mp he with y | y
      · rw [y]; exact hx
      · exact h e (List.mem_cons_of_mem _ y)
    · rw [if_neg z] at he
      rcases List.mem_cons.mp he with y | y
      · rw [y]; exact h a (List.mem_cons_self ..)
      · exact ih (fun e' h' => h e' (List.mem_cons_of_mem _ h')) e y
theorem mj_dput {k : Nat} {q : P2} {x : PyData} (vw : View I Γ Γm) (st : Stb I) (ts : TsG Γ) (hk : Γ[k]? = some (some (rawD p))) (hp : ∀ H, I H → OkD H p m) (hA : A p) (hkey : Ed tk Γm (pD q)) (hval : Ed tv Γm x) (hx : scD x = true) (hl : m.length < 100000)
    (hi : ∀ H, I H → OkD (upd H p (.dT (kv (vals (pu m q x))))) p (pu m q x) → I' (upd H p (.dT (kv (vals (pu m q x)))))) : MJ A (sDPut (tVar k) tk tv) Γ I Γ I' R := fun D σ H s i n r =>
  hval σ H (vw σ H s i) _ fun v H1 e1 dv => by
    obtain ⟨y, hy, dy⟩ := s.at_ k _ hk
    have ey := dd_raw.mp dy
    subst ey
    refine ⟨_, hy, ?_⟩
    have i1 := st _ _ i e1
    have s1 := s.ex e1
    refine hkey σ H1 (vw σ H1 s1 i1) _ fun y H2 e2 dy2 => ?_
    obtain ⟨q', rfl, hq⟩ := dd_pD.mp dy2
    have i2 := st _ _ i1 e2
    have o2 := hp H2 i2
    have ev := vV_of hx dv
    subst ev
    have hput := DPut.t (v := vV x) o2.at_ hq (by rw [kv_vals_len]; exact Evl.sz_lt hl)
    rw [putK_kv, putK_pu o2.nd] at hput
    refine ⟨p, _, rfl, hput, n σ _ (((Xa.of e1).trans (Xa.of e2)).trans (Xa.upd hA)) ((s1.ex e2).ts ts (tx_upd o2.nt)) (hi H2 i2 ⟨upd_same, sc_pu o2.sc hx, nodup_pu o2.nd, Nat.le_trans (length_pu m q x) hl⟩)⟩

/-! ### loops -/
theorem mj_forT {tl : TE} {ds : List PyData} (G : Nat → Gm) (J : Nat → Hp → Prop) (hJ : ∀ i, Stb (J i)) (h : Ed tl (G 0) (.tuple ds)) (hA : ∀ i H, J i H → ∀ a xs, A a → H a ≠ some (.tup xs))
    (hs : ∀ (i : Nat) (d : PyData), ds[i]? = some d → Ts0 d = true ∧ ∃ Γ', TgN g (G i) d Γ' ∧ MJ A t Γ' (J i) (G (i + 1)) (J (i + 1)) R) : MJ A (tFor (iTup K tl) g t) (G 0) (J 0) (G ds.length) (J ds.length) R := fun D σ H s i0 n r =>
  h σ H s _ fun v H1 e1 ⟨a, xs, h1, h2, h3⟩ => by
    have notA : ¬ A a := fun z => hA 0 H1 (hJ 0 _ _ i0 e1) a xs z h2
    refine ⟨a, h1, ⟨xs, SqT.of h2⟩, for_tup (K := K) (xs := xs) (fun i σ' H' => Xa A H1 H' ∧ TX H1 H' ∧ Sl H' σ' (G i) ∧ J i H') ⟨Xa.refl H1, TX.refl H1, s.ex e1, hJ 0 _ _ i0 e1⟩ (fun i σ' H' _ p => SqT.of (p.1 a _ notA h2))
      (fun i x σ' H' hx p => ?_) fun σ' H' p => n σ' H' ((Xa.of e1).trans p.1) (by have z := p.2.2.1; rw [h3.len] at z; exact z) (by have z := p.2.2.2; rw [h3.len] at z; exact z)⟩
    obtain ⟨d, hd, dx⟩ := DdL.get' h3 hx
    obtain ⟨td, Γ', t1, t2⟩ := hs i d hd
    refine t1 σ' H' x p.2.2.1 (Dd.ts p.2.1 td dx) _ fun σ2 s2 => ?_
    refine t2 _ σ2 H' s2 p.2.2.2 (fun σ3 H3 x3 s3 i3 => ⟨p.1.trans x3, fun b ys hb => ?_, s3, i3⟩) fun v H3 x3 => r v H3 (((Xa.of e1).trans p.1).trans x3)
    refine x3 b _ (fun z => hA i H' p.2.2.2 b ys z ?_) (p.2.1 b ys hb)
    exact p.2.1 b ys hb
theorem mj_forR {ta : TA} {k : Nat} {n : Nat} (G : Nat → Gm) (J : Nat → Hp → Prop) (hJ : ∀ i, Stb (J i)) (h : Ea ta (G 0) [.int (n : Int)]) (hn : n ≤ 100000) (hs : ∀ (i : Nat), i < n → MJ A t ((G i).set k (some (.int (i : Int)))) (J i) (G (i + 1)) (J (i + 1)) R) :
    MJ A (tFor (iRng1 ta) (gName k) t) (G 0) (J 0) (G n) (J n) R := fun D σ H s i0 nn r =>
  h σ H s _ fun vs H1 e1 dv => by
    obtain ⟨x, rfl, hx⟩ := dd1 dv
    cases (show x = V.int (n : Int) from hx)
    refine ⟨(n : Int), rfl, by omega, by omega, ?_⟩
    rw [Int.toNat_natCast]
    refine for_range (lo := 0) (n := n) (fun i σ' H' => Xa A H1 H' ∧ Sl H' σ' (G i) ∧ J i H') ⟨Xa.refl H1, s.ex e1, hJ 0 _ _ i0 e1⟩ (fun i σ' H' hi p => ?_) fun σ' H' p => nn σ' H' ((Xa.of e1).trans p.1) p.2.1 p.2.2
    refine hs i hi _ _ H' (p.2.1.set k (by show V.int _ = V.int _; rw [Int.zero_add])) p.2.2 (fun σ3 H3 e3 s3 i3 => ⟨p.1.trans e3, s3, i3⟩) fun v H3 x3 => r v H3 (((Xa.of e1).trans p.1).trans x3)
/-- over a list that may not be written -/
theorem mj_forL {tl : TE} {ds : List PyData} (G : Nat → Gm) (J : Nat → Hp → Prop) (hJ : ∀ i, Stb (J i)) (h : Ed tl (G 0) (.list ds)) (hA : ∀ i H, J i H → ∀ a xs, A a → H a ≠ some (.tup xs)) (hA2 : ∀ H a xs, J 0 H → A a → DdL H ds xs → H a ≠ some (.lst xs))
    (hs : ∀ (i : Nat) (d : PyData), ds[i]? = some d → Ts0 d = true ∧ ∃ Γ', TgN g (G i) d Γ' ∧ MJ A t Γ' (J i) (G (i + 1)) (J (i + 1)) R) : MJ A (tFor (iList K tl) g t) (G 0) (J 0) (G ds.length) (J ds.length) R := fun D σ H s i0 n r =>
  h σ H s _ fun v H1 e1 ⟨a, xs, h1, h2, h3⟩ => by
    have notA : ¬ A a := fun z => hA2 H1 a xs (hJ 0 _ _ i0 e1) z h3 h2
    refine ⟨a, h1, ⟨xs, SqL.of h2⟩, for_list (K := K) (xs := xs) (fun i σ' H' => Xa A H1 H' ∧ TX H1 H' ∧ Sl H' σ' (G i) ∧ J i H') ⟨Xa.refl H1, TX.refl H1, s.ex e1, hJ 0 _ _ i0 e1⟩ (fun i σ' H' _ p => SqL.of (p.1 a _ notA h2))
      (fun i x σ' H' hx p => ?_) fun σ' H' p => n σ' H' ((Xa.of e1).trans p.1) (by have z := p.2.2.1; rw [h3.len] at z; exact z) (by have z := p.2.2.2; rw [h3.len] at z; exact z)⟩
    obtain ⟨d, hd, dx⟩ := DdL.get' h3 hx
    obtain ⟨td, Γ', t1, t2⟩ := hs i d hd
    refine t1 σ' H' x p.2.2.1 (Dd.ts p.2.1 td dx) _ fun σ2 s2 => ?_
    refine t2 _ σ2 H' s2 p.2.2.2 (fun σ3 H3 x3 s3 i3 => ⟨p.1.trans x3, fun b ys hb => ?_, s3, i3⟩) fun v H3 x3 => r v H3 (((Xa.of e1).trans p.1).trans x3)
    refine x3 b _ (fun z => hA i H' p.2.2.2 b ys z ?_) (p.2.1 b ys hb)
    exact p.2.1 b ys hb

/-! ### a dict that is locked -/
/-- what H0 holds stands, the dict at c locked -/
structure Lk (H0 : Hp) (c : Addr) (od : Obj) (m : List (P2 × PyData)) (H : Hp) : Prop where
  old : ∀ b o, b ≠ c → H0 b = some o → H b = some o
  lck : H c = some (.frz od (HO.dT (kv (vals m))))
theorem Lk.ex {H0 H H' : Hp} {c : Addr} {od : Obj} (h : Lk H0 c od m H) (e : Ex H H') : Lk H0 c od m H' := ⟨fun b o n z => e b o (h.old b o n z), e _ _ h.lck⟩
theorem Lk.rd {H0 H : Hp} {c a : Addr} {od : Obj} {n : List (P2 × PyData)} (h : Lk H0 c od m H) (hc : H0 c = some (HO.dT (kv (vals m)))) (ha : H0 a = some (HO.dT (kv (vals n)))) : Rd H a (HO.dT (kv (vals n))) := by
  by_cases z : a = c
  · subst z
    rw [hc] at ha
    rw [← Option.some.inj ha]
    exact .inr ⟨od, h.lck⟩
  · exact .inl (h.old a _ z ha)
/-- the state of the loop -/
def LkI (H0 : Hp) (c : Addr) (od : Obj) (m : List (P2 × PyData)) (p : Addr) (f : List (P2 × PyData)) (H : Hp) : Prop := Lk H0 c od m H ∧ OkD H p f
def ExI (H0 : Hp) (p : Addr) (f : List (P2 × PyData)) (H : Hp) : Prop := Ex H0 H ∧ OkD H p f
theorem lkI_stb {H0 : Hp} {c : Addr} {od : Obj} {f : List (P2 × PyData)} : Stb (LkI H0 c od m p f) := fun H H' i e => ⟨i.1.ex e, i.2.ex e⟩
theorem exI_stb {H0 : Hp} {f : List (P2 × PyData)} : Stb (ExI H0 p f) := fun H H' i e => ⟨i.1.trans e, i.2.ex e⟩
theorem lkI_put {H0 : Hp} {c : Addr} {od : Obj} {f f' : List (P2 × PyData)} {o : HO} (hp : H0 p = none) (hc : H0 c = some (HO.dT (kv (vals m)))) {H : Hp} (i : LkI H0 c od m p f H) (h : OkD (upd H p o) p f') : LkI H0 c od m p f' (upd H p o) := by
  have cp : c ≠ p := ne_of_none hc hp
  refine ⟨⟨fun b u n z => ?_, ?_⟩, h⟩
  · rw [upd_ne (ne_of_none z hp)]
    exact i.1.old b u n z
  · rw [upd_ne cp]
    exact i.1.lck
theorem exI_put {H0 : Hp} {f f' : List (P2 × PyData)} {o : HO} (hp : H0 p = none) {H : Hp} (i : ExI H0 p f H) (h : OkD (upd H p o) p f') : ExI H0 p f' (upd H p o) :=
  ⟨fun b u z => by rw [upd_ne (ne_of_none z hp)]; exact i.1 b u z, h⟩
theorem mj_lockK {H0 : Hp} {c : Addr} {j : Nat} (hc : H0 c = some (HO.dT (kv (vals m)))) (hp : H0 p = none) (G : Nat → Gm) (M : Nat → List (P2 × PyData)) (ts : ∀ i, TsG (G i)) (hj : (G 0)[j]? = some (some (rawD c)))
    (hs : ∀ (i : Nat) (e : P2 × PyData) (od : Obj), m[i]? = some e → ∃ Γ', TgN g (G i) (pD e.1) Γ' ∧ MJ (fun a => a = p) t Γ' (LkI H0 c od m p (M i)) (G (i + 1)) (LkI H0 c od m p (M (i + 1))) (fun _ _ => False)) :
    MJ (fun a => a = p) (tLock (tFor (iKeysMT (tVar j)) g t)) (G 0) (ExI H0 p (M 0)) (G m.length) (ExI H0 p (M m.length)) R := fun D σ H s i0 n r => by
  have cp : c ≠ p := ne_of_none hc hp
  have hHc : H c = some (HO.dT (kv (vals m))) := i0.1 _ _ hc
  refine ⟨c, _, hHc, True.intro, fun od => ?_⟩
  obtain ⟨y, hy, dy⟩ := s.at_ j _ hj
  have ey := dd_raw.mp dy
  subst ey
  have nt : ∀ xs, H c ≠ some (.tup xs) := fun xs z => by rw [hHc] at z; cases z
  have s1 : Sl (upd H c (.frz od (HO.dT (kv (vals m))))) σ (G 0) := s.ts (ts 0) (tx_upd nt)
  have l1 : LkI H0 c od m p (M 0) (upd H c (.frz od (HO.dT (kv (vals m))))) := ⟨⟨fun b o nb z => by rw [upd_ne nb]; exact i0.1 b o z, upd_same⟩, ⟨by rw [upd_ne cp.symm]; exact i0.2.at_, i0.2.sc, i0.2.nd, i0.2.few⟩⟩
  refine ⟨_, hy, c, od, kv (vals m), rfl, upd_same, for_keysT (d := c) (od := od) (kvs := kv (vals m)) (fun i σ' H' => Xa (fun a => a = p) (upd H c (.frz od (HO.dT (kv (vals m))))) H' ∧ Sl H' σ' (G i) ∧ LkI H0 c od m p (M i) H') ⟨Xa.refl _, s1, l1⟩ (fun i σ' H' q => q.2.2.1.lck)
    (fun i k v q σ' H' hi hq p' => ?_) fun σ' H' p' => ?_⟩
  · obtain ⟨e0, he0, rfl⟩ := kv_get hi
    have he1 : ∃ e, m[i]? = some e ∧ e.1 = e0 := by
      unfold vals at he0
      rw [List.getElem?_map] at he0
      cases z : m[i]? with
      | none => rw [z] at he0; cases he0
      | some e => rw [z] at he0; cases he0; exact ⟨e, rfl, rfl⟩
    obtain ⟨e, he, rfl⟩ := he1
    obtain ⟨Γ', t1, t2⟩ := hs i e od he
    refine t1 σ' H' (.ref q) p'.2.1 (dd_pD.mpr ⟨q, rfl, hq⟩) _ fun σ2 s2 => ?_
    exact t2 _ σ2 H' s2 p'.2.2 (fun σ3 H3 x3 s3 i3 => ⟨p'.1.trans x3, s3, i3⟩) fun v H3 x3 rr => rr.elim
  · rw [kv_vals_len] at p'
    refine ⟨p'.2.2.1.lck, n σ' _ (fun b o nb z => ?_) ?_ ⟨fun b o z => ?_, ⟨?_, p'.2.2.2.sc, p'.2.2.2.nd, p'.2.2.2.few⟩⟩⟩
    · by_cases w : b = c
      · subst w
        rw [hHc] at z
        cases z
        exact upd_same
      · rw [upd_ne w]
        exact p'.1 b o nb (by rw [upd_ne w]; exact z)
    · exact p'.2.1.ts (ts _) (tx_upd fun xs z => by rw [p'.2.2.1.lck] at z; cases z)
    · by_cases w : b = c
      · subst w
        rw [hc] at z
        cases z
        exact upd_same
      · rw [upd_ne w]
        exact p'.2.2.1.old b o w z
    · rw [upd_ne cp.symm]
      exact p'.2.2.2.at_
end
end Fb
/-! Counting by a dict; a dict comprehension; a def that makes a dict. -/
namespace Fb
open PySem PySem.Spec PyProof.Rows L2
open Evl (Ex)

/-! ### counts -/
def numD : Option PyData → Int
  | some (.int i) => i
  | _ => 0
def tick (m : List (P2 × PyData)) (p : P2) : List (P2 × PyData) := pu m p (.int (numD (lo m p) + 1))
def cntL (l : List P2) : List (P2 × PyData) := l.foldl tick []
theorem cntL_snoc (l : List P2) (p : P2) : cntL (l ++ [p]) = tick (cntL l) p := by
  unfold cntL
  rw [List.foldl_append]
  rfl
theorem rev_ind {α : Type} {C : List α → Prop} (h0 : C []) (hs : ∀ l a, C l → C (l ++ [a])) : ∀ l, C l := by
  intro l
  have e : ∀ r : List α, C r.reverse := by
    intro r
    induction r with
    | nil => exact h0
    | cons a r ih => rw [List.reverse_cons]; exact hs _ _ ih
  have z := e l.reverse
  rw [List.reverse_reverse] at z
  exact z
theorem lo_cntL : ∀ (l : List P2) (p : P2), lo (cntL l) p = if l.count p = 0 then none else some (.int (l.count p : Nat)) := by
  refine rev_ind (fun p => rfl) fun l a ih p => ?_
  rw [cntL_snoc]
  unfold tick
  rw [lo_pu, List.count_append, ih a]
  by_cases h : a = p
  · subst h
    rw [if_pos rfl]
    have e : [a].count a = 1 := by simp
    rw [e, if_neg (show ¬ l.count a + 1 = 0 by omega)]
    by_cases z : l.count a = 0
    · rw [if_pos z, z]; rfl
    · rw [if_neg z]
      rfl
  · rw [if_neg h, ih p]
    have e : [a].count p = 0 := by simp [h]
    rw [e, Nat.add_zero]
theorem nd_cntL : ∀ l : List P2, ((cntL l).map (·.1)).Nodup := by
  refine rev_ind List.nodup_nil fun l a ih => ?_
  rw [cntL_snoc]
  exact nodup_pu ih
theorem len_cntL : ∀ l : List P2, (cntL l).length ≤ l.length := by
  refine rev_ind (Nat.le_refl _) fun l a ih => ?_
  rw [cntL_snoc, List.length_append]
  exact Nat.le_trans (length_pu _ _ _) (Nat.succ_le_succ ih)
theorem sc_cntL : ∀ l : List P2, ∀ e ∈ cntL l, scD e.2 = true := by
  refine rev_ind (fun e h => (List.not_mem_nil h).elim) fun l a ih => ?_
  rw [cntL_snoc]
  exact sc_pu ih rfl
theorem mem_cntL {l : List P2} {p : P2} : p ∈ (cntL l).map (·.1) ↔ p ∈ l := by
  have e := lo_cntL l p
  constructor
  · intro h
    by_cases z : l.count p = 0
    · rw [if_pos z] at e
      exact absurd h (lo_none.mp e)
    · exact List.count_pos_iff.mp (by omega)
  · intro h
    by_cases w : p ∈ (cntL l).map (·.1)
    · exact w
    · rw [lo_none.mpr w, if_neg (by have := List.count_pos_iff.mpr h; omega)] at e
      cases e
/-- all of them with the value 1 -/
def ones (b : List P2) : List (P2 × PyData) := b.map fun p => (p, .int 1)
theorem keys_ones (b : List P2) : (ones b).map (·.1) = b := by
  unfold ones
  rw [List.map_map]
  exact List.map_id b
theorem sc_ones (b : List P2) : ∀ e ∈ ones b, scD e.2 = true := fun e h => by
  obtain ⟨p, _, rfl⟩ := List.mem_map.mp h
  rfl
theorem lo_ones {b : List P2} {p : P2} (h : p ∈ b) : lo (ones b) p = some (.int 1) := by
  induction b with
  | nil => exact nomatch h
  | cons q b ih =>
    show (if q = p then some (PyData.int 1) else lo (ones b) p) = _
    by_cases z : q = p
    · rw [if_pos z]
    · rw [if_neg z]
      exact ih ((List.mem_cons.mp h).resolve_left fun e => z e.symm)

section
variable {K : PySem.W.Frag} {A : Addr → Prop} {t : TS} {te tl tk tv : TE} {g : TG} {Γ Γ' Γ1 Γ2 : Gm} {I : Hp → Prop} {R : V → Hp → Prop} {d : PyData} {ds : List PyData} {m n : List (P2 × PyData)} {p a : Addr}
theorem View.trans (h : View I Γ Γ1) (k : View I Γ1 Γ2) : View I Γ Γ2 := fun σ H s i => k σ H (h σ H s i) i
/-- slot k holds a: seen as a dict that is read -/
theorem view_dk {k : Nat} (hk : Γ[k]? = some (some (rawD a))) (h : ∀ H, I H → Rd H a (HO.dT (kv (vals m)))) (hs : ∀ e ∈ m, scD e.2 = true) : View I Γ (Γ.set k (some (dkD m))) := fun σ H s i => by
  refine ⟨by rw [List.length_set, s.len], fun j e he => ?_⟩
  by_cases z : k = j
  · subst z
    by_cases l : k < Γ.length
    · rw [List.getElem?_set_self l] at he
      cases he
      obtain ⟨v, a, b⟩ := s.at_ k _ hk
      exact ⟨v, a, by rw [dd_raw.mp b]; exact dk_of (h H i) hs⟩
    · rw [List.getElem?_eq_none (by rw [List.length_set]; omega)] at he
      cases he
  · rw [List.getElem?_set_ne z] at he
    exact s.at_ j e he
/-- {key: value for .. in a tuple}, the keys are all different -/
theorem ed_dcT {vs : List Nat} {es : List (P2 × PyData)} (h : Ed tl Γ (.tuple ds)) (hl : es.length = ds.length) (hn : (es.map (·.1)).Nodup) (hz : es.length ≤ 40000) (hsc : ∀ e ∈ es, scD e.2 = true)
    (C : ∀ (i : Nat) (d : PyData) (e : P2 × PyData), ds[i]? = some d → es[i]? = some e → ∃ Γ', TgOk g (wipeG Γ vs) vs d Γ' ∧ Ed tk Γ' (pD e.1) ∧ Ed tv Γ' e.2) : Ed (tDcT (iTup K tl) g tk tv vs) Γ (dxD es) := fun σ H s Q q =>
  h σ H s _ fun v H1 e1 ⟨a, xs, h1, h2, h3⟩ => ⟨a, h1, ⟨xs, SqT.of h2⟩, fun D hD => by
    have lx : xs.length = es.length := by rw [h3.len, hl]
    refine ⟨fun i k H' => k = es.length - i ∧ i ≤ es.length ∧ Ex H1 H' ∧ H' D = some (.dT (kv (vals (es.take i)))), ⟨es.length, rfl, Nat.zero_le _, Ex.new hD, upd_same⟩, fun i k H' w => ?_⟩
    obtain ⟨rfl, hi, hex, hD'⟩ := w
    have q2 : SqT K H' a xs := SqT.of (hex a _ h2)
    rcases Nat.lt_or_ge i es.length with l | l
    · refine .inr ⟨⟨xs, xs[i]'(by omega), q2, List.getElem?_eq_getElem (by omega)⟩, fun H'' => i + 1 ≤ es.length ∧ Ex H1 H'' ∧ H'' D = some (.dT (kv (vals (es.take (i + 1))))), fun H'' p => ⟨es.length - (i + 1), by omega, rfl, p⟩, fun x H'' y => ?_⟩
      obtain ⟨rfl, y⟩ := y
      have hx := y xs q2
      obtain ⟨d, hd, dx⟩ := DdL.get' h3 hx
      obtain ⟨e, he⟩ : ∃ e, es[i]? = some e := ⟨_, List.getElem?_eq_getElem l⟩
      obtain ⟨Γ', c1, c2, c3⟩ := C i d e hd he
      refine c1 _ H'' x (((s.ex e1).ex hex).wipe vs) (Dd.ex hex _ _ dx) _ fun σ' s' wi => ⟨wi.trans (wipe_idem vs), ?_⟩
      refine c2 σ' H'' s' _ fun y H3 e3 dy => c3 σ' H3 (s'.ex e3) _ fun z H4 e4 dz => ?_
      obtain ⟨b, rfl, hb⟩ := dd_pD.mp (Dd.ex e4 _ _ dy)
      have ev := vV_of (hsc e (List.mem_of_getElem? he)) dz
      subst ev
      have D4 : H4 D = some (.dT (kv (vals (es.take i)))) := e4 _ _ (e3 _ _ hD')
      have tk1 : es.take (i + 1) = es.take i ++ [e] := by
        rw [List.take_add_one, he]
        rfl
      have nin : e.1 ∉ (es.take i).map (·.1) := fun z => by
        have n2 := hn
        rw [← List.take_append_drop (i + 1) es, tk1, List.map_append, List.map_append] at n2
        have n3 := (List.nodup_append.mp (List.nodup_append.mp n2).1).2.2
        exact n3 _ z _ (List.mem_singleton.mpr rfl) rfl
      have nd : ((es.take i).map (·.1)).Nodup := by
        have z : (es.take i).map (·.1) = (es.map (·.1)).take i := List.map_take
        rw [z]
        exact List.Nodup.sublist (List.take_sublist ..) hn
      refine ⟨b, _, _, rfl, hb, D4, ?_, l, Ex.mut ((hex.trans e3).trans e4) hD, ?_⟩
      · rw [kv_vals_len]
        exact Evl.sz_lt (by have := List.length_take_le i es; omega)
      · rw [upd_same, putK_kv, putK_pu nd, pu_new nin, tk1]
    · have ei : i = es.length := by omega
      subst ei
      refine .inl ⟨⟨xs, q2, by omega⟩, q _ H' (e1.trans hex) ?_⟩
      rw [List.take_length] at hD'
      exact dx_of hD' hsc⟩
/-- a def that reads the dict in slot j -/
theorem s_open {j : Nat} (hj : Γ[j]? = some (some (dxD m))) (h : ∀ (H0 : Hp) (c : Addr), H0 c = some (HO.dT (kv (vals m))) → (∀ e ∈ m, scD e.2 = true) → MJ (fun _ => False) t (Γ.set j (some (rawD c))) (Ex H0) Γ' (fun _ => False) (fun v H' => Ex H0 H' ∧ Dd H' d v)) : S t Γ (.inr d) := fun D σ H s f => by
  obtain ⟨v, hv, dv⟩ := s.at_ j _ hj
  obtain ⟨c, rfl, hc, sc⟩ := dd_dx dv
  refine h H c hc sc D σ H ?_ (Ex.refl H) (fun σ' H' _ _ z => z.elim) fun v H' _ r => f v H' r.1 r.2
  have z := s.set j (dd_raw (H := H) (a := c) (v := V.ref c) |>.mpr rfl)
  have e : σ.set j (some (V.ref c)) = σ := by
    refine List.ext_getElem? fun i => ?_
    by_cases w : j = i
    · subst w
      rw [List.getElem?_set_self (List.getElem?_eq_some_iff.mp hv).1, hv]
    · rw [List.getElem?_set_ne w]
  rw [e] at z
  exact z
/-- .. and makes one -/
theorem mj_made {H0 : Hp} {k : Nat} (h : ∀ (H1 : Hp) (p : Addr), Ex H0 H1 → H1 p = none → MJ (fun a => a = p) t (Γ.set k (some (rawD p))) (ExI H1 p []) Γ' (fun _ => False) R) : MJ (fun _ => False) (tSeq (tAsg tDNewT (gName k)) t) Γ (Ex H0) Γ' (fun _ => False) R := fun D σ H s i n r => by
  intro p hp
  refine h H p i hp D _ _ ((s.ex (Ex.new hp)).set k (dd_raw.mpr rfl)) ⟨Ex.new hp, ⟨upd_same, fun e h => (List.not_mem_nil h).elim, List.nodup_nil, Nat.zero_le _⟩⟩ (fun σ' H' _ _ z => z.elim) fun v H' x rr => r v H' (fun b o _ z => ?_) rr
  exact x b o (fun w => by rw [w] at z; rw [hp] at z; cases z) (Ex.new hp b o z)
/-- .. beside what another def gives -/
theorem mj_made2 {H0 : Hp} {i k : Nat} {n : List (P2 × PyData)} (he : Ed te Γ (dxD n)) (h : ∀ (H1 : Hp) (p c : Addr), Ex H0 H1 → H1 p = none → H1 c = some (HO.dT (kv (vals n))) → (∀ e ∈ n, scD e.2 = true) → MJ (fun a => a = p) t ((Γ.set i (some (rawD c))).set k (some (rawD p))) (ExI H1 p []) Γ' (fun _ => False) R) :
    MJ (fun _ => False) (tSeq (tPar i k (tCons te (tCons tDNewT tNil))) t) Γ (Ex H0) Γ' (fun _ => False) R := fun D σ H s i0 n r =>
  he σ H s _ fun v H1 e1 dv => by
    intro p hp
    obtain ⟨c, rfl, hc, sc⟩ := dd_dx dv
    refine ⟨_, _, rfl, ?_⟩
    refine h H1 p c (i0.trans e1) hp hc sc D _ _ ((((s.ex e1).ex (Ex.new hp)).set i (dd_raw.mpr rfl)).set k (dd_raw.mpr rfl)) ⟨Ex.new hp, ⟨upd_same, fun e h => (List.not_mem_nil h).elim, List.nodup_nil, Nat.zero_le _⟩⟩ (fun σ' H' _ _ z => z.elim) fun v H' x rr => r v H' (fun b o _ z => ?_) rr
    exact x b o (fun w => by have z2 := e1 b o z; rw [w, hp] at z2; cases z2) (Ex.new hp b o (e1 b o z))
end
end Fb
/-! Promises: a step. -/
namespace Fb
open PySem PySem.Spec PyProof.Rows L2
open Evl (Ex)
section
variable {P : Program} {w : World} {K : PySem.W.Frag} {mg : Str → Option Value} {base : Heap}

def R_cells_of (ds : List PyData) (d : PyData) : Prop := ∃ b : Board, ds = [bD b] ∧ b.Nodup ∧ b.length ≤ 40000 ∧ d = dxD (ones b)
theorem ok_cells_of (T : Tp K mg) : FnOk P w K mg base CX0 1 T.cells_of.f T.cells_of.fd ["board"] (spD R_cells_of) := by
  refine pure_ok T.cells_of.F sc_cells_of (fun ds d h => ?_) (fun cdv A outer s H E hr => ⟨_, (pss_one (ps_ret (pe_dcT (own := [("cell", 1)]) rfl hr.units0 sc_cells_of.nd (pi_tup (pv 0)) (blkOk_by (N := N_cells_of) (sc := defScope s_cells_of) (by decide +kernel)) (fun _ _ _ _ _ => (pg_name (i := 1) sc_cells_of.nd rfl (.inl rfl))) (fun _ _ _ _ _ => (pe_slice (show SlR _ (rSlT K) from sl_tup) (pv 1) po_none (po_some pe_int))) (fun _ _ _ _ _ => (pe_ix (show IxR _ (rIxT K) from ix_tup) (pv 1) pe_int (fun _ _ => rfl)))))), fun ds d h => ?_⟩)
  · obtain ⟨b, rfl, _⟩ := h
    rfl
  · obtain ⟨b, rfl, hn, hl, rfl⟩ := h
    refine s_ret (ed_dcT (es := ones b) (ed_var rfl) (by unfold ones; rw [List.length_map, List.length_map]) (by rw [keys_ones]; exact hn) (by unfold ones; rw [List.length_map]; exact hl) (sc_ones b) fun i d e hd he => ?_)
    rw [List.getElem?_map] at hd
    unfold ones at he
    rw [List.getElem?_map] at he
    cases hb : b[i]? with
    | none => rw [hb] at hd; cases hd
    | some p =>
      rw [hb] at hd he
      cases hd
      cases he
      exact ⟨_, tg_name (by simp), ed_take (n := 2) (ds := [.int p.1, .int p.2, .int 1]) (ed_var rfl) ed_int (Nat.lt_succ_self 2), ed_ixT (ed_var rfl) ed_int rfl⟩

/-- from a place to the cell -/
def liveD : PyData → Option PyData
  | .tuple [x, y] => some (.tuple [x, y, .int 1])
  | _ => none
theorem given_live (b : List P2) : given liveD (b.map pD) = b.map cD := by
  unfold given
  induction b with
  | nil => rfl
  | cons p b ih => rw [List.map_cons, List.filterMap_cons]; show cD p :: _ = _; rw [ih]; rfl
theorem nlt_leP (p q : P2) : (!decide (q.1 < p.1 ∨ (q.1 = p.1 ∧ q.2 < p.2))) = leP p q := by
  unfold leP
  by_cases h : q.1 < p.1 ∨ (q.1 = p.1 ∧ q.2 < p.2)
  · rw [decide_eq_true h, decide_eq_false (by omega)]
    rfl
  · rw [decide_eq_false h, decide_eq_true (by omega)]
    rfl
theorem le_pD (p q : P2) : PySem.W.dataLe false id (pD p) (pD q) = leP p q := by
  show (!PySem.W.dataLt (pD q) (pD p)) = leP p q
  have e : PySem.W.dataLt (pD q) (pD p) = _ := PySem.W.dataLt_ii q.1 q.2 p.1 p.2
  rw [e, nlt_leP]
theorem le_cD (p q : P2) : PySem.W.dataLe false id (cD p) (cD q) = leP p q := by
  show (!PySem.W.dataLt (cD q) (cD p)) = leP p q
  have e : PySem.W.dataLt (cD q) (cD p) = decide (q.1 < p.1 ∨ (q.1 = p.1 ∧ q.2 < p.2)) := by
    unfold cD
    have z : PyProof.Rows.lexLt PyProof.Rows.itemOrd (PySem.W.keyToksAll []) (PySem.W.keyToksAll []) = false := PyProof.Rows.lex_irrefl _
    rw [PySem.W.dataLt_tuple, PySem.W.dataLt_cons (by simp [PySem.W.alike]), PySem.W.dataLt_cons (by simp [PySem.W.alike]), PySem.W.dataLt_cons (by simp [PySem.W.alike]), PySem.W.dataLt_int, PySem.W.dataLt_int, z]
    simp only [PyData.eqv, beq_iff_eq]
    by_cases h1 : q.1 = p.1 <;> by_cases h2 : q.2 = p.2 <;> simp [h1, h2, PySem.W.dataLt_int]
  rw [e, nlt_leP]
theorem sort_leP {l : List P2} (h : l.Nodup) : l.mergeSort leP = sortU l := by
  have tr : ∀ a b c : P2, leP a b = true → leP b c = true → leP a c = true := fun a b c h1 h2 => by
    unfold leP at *
    rw [decide_eq_true_eq] at *
    omega
  have tt : ∀ a b : P2, (leP a b || leP b a) = true := fun a b => by
    unfold leP
    rw [Bool.or_eq_true, decide_eq_true_eq, decide_eq_true_eq]
    omega
  have so := List.pairwise_mergeSort tr tt l
  have nd : (l.mergeSort leP).Nodup := (List.mergeSort_perm l leP).nodup_iff.mpr h
  refine srt_ext ?_ (srt_sortU l) fun p => by rw [List.mem_mergeSort, mem_sortU]
  unfold Srt
  refine (List.pairwise_and_iff.mpr ⟨so, nd⟩).imp ?_
  rintro ⟨x, y⟩ ⟨u, v⟩ ⟨h1, h2⟩
  unfold leP at h1
  rw [decide_eq_true_eq] at h1
  unfold ltP
  have h3 : ¬ (x = u ∧ y = v) := fun z => h2 (by rw [z.1, z.2])
  simp only at *
  omega
theorem sort_enc {enc : P2 → PyData} (he : ∀ p q, PySem.W.dataLe false id (enc p) (enc q) = leP p q) {l : List P2} (h : l.Nodup) : sortD (l.map enc) = (sortU l).map enc := by
  unfold sortD
  rw [← sort_leP h]
  exact (List.map_mergeSort (fun a _ b _ => (he a b).symm)).symm
def R_board_of (ds : List PyData) (d : PyData) : Prop := ∃ b : List P2, ds = [dxD (ones b)] ∧ b.Nodup ∧ b.length ≤ 40000 ∧ d = bD (sortU b)
/-- sorted(d.keys()) -/
theorem ed_sortedKeys {Γ : Gm} {ta : TE} {m : List (P2 × PyData)} (h : Ed ta Γ (dxD m)) (hl : m.length ≤ 100000) : Ed (tCB rSortedKeys (tCons (tBM0 K "dict" rKeysT ta) tNil)) Γ (.list (sortD (m.map fun e => pD e.1))) := fun σ H s Q q =>
  h σ H s _ fun x H1 e1 dx => by
    obtain ⟨a, rfl, ha, sc⟩ := dd_dx dx
    refine ⟨.inr (.inr (.inl ⟨rfl, .inr ⟨_, ha⟩⟩)), a, vals m, rfl, rfl, ha, fun p hp => ?_⟩
    have ap : a ≠ p := ne_of_none ha hp
    have hk : (vals m).map (fun e => pD e.1) = m.map fun e => pD e.1 := by
      unfold vals
      rw [List.map_map]
      rfl
    refine ⟨p, a, vals m, rfl, upd_same, by rw [upd_ne ap]; exact ha, by unfold vals; rw [List.length_map]; exact hl, fun ys r hy hr => ?_⟩
    rw [hk] at hy
    exact q _ _ ((e1.trans (Ex.new hp)).trans (Ex.new hr)) ⟨r, ys, rfl, upd_same, DdL.ex (Ex.new hr) _ _ hy⟩
theorem ok_board_of (T : Tp K mg) : FnOk P w K mg base CX0 1 T.board_of.f T.board_of.fd ["cells"] (spD R_board_of) := by
  refine pure_ok T.board_of.F sc_board_of (fun ds d h => ?_) (fun cdv A outer s H E hr => ⟨_, (pss_one (ps_ret (pe_callTy call_tuple_of (by rfl) T.n_tuple (by decide +kernel) (pa_cons (pe_lc (own := [("place", 1)]) rfl sc_board_of.nd (pi_list (pe_callB (cr_sortedKeys rfl hr.units) (by rfl) T.n_sorted (by decide +kernel) (pa_cons (pe_bm0 PySem.F.plainAttrs_dict PySem.F.slot_dict_keys PySem.F.type_dict_keys mt_keysT (pv 0)) pa_nil))) (blkOk_by (N := N_board_of) (sc := defScope s_board_of) (by decide +kernel)) (fun _ _ _ _ _ => (pg_name (i := 1) sc_board_of.nd rfl (.inl rfl))) (fun _ _ _ _ _ => pts_nil) (fun _ _ _ _ _ => (pe_op (show OpR _ _ (rCatT K) from op_catT) (pv 1) (pe_tup (pa_cons (pe_dget (hu_of hr) (pv 0) (pv 1) (fun _ _ => rfl)) pa_nil))))) pa_nil)))), fun ds d h => ?_⟩)
  · obtain ⟨b, rfl, _⟩ := h
    rfl
  · obtain ⟨b, rfl, hn, hl, rfl⟩ := h
    refine s_ret (ed_tupL ?_)
    have lo1 : (ones b).length ≤ 100000 := by unfold ones; rw [List.length_map]; omega
    have hk : (ones b).map (fun e => pD e.1) = b.map pD := by unfold ones; rw [List.map_map]; rfl
    have hs := ed_sortedKeys (K := K) (ta := tVar 0) (Γ := [some (dxD (ones b)), none]) (ed_var rfl) lo1
    rw [hk, sort_enc le_pD hn] at hs
    rw [← given_live]
    have lu : (sortU b).length = b.length := by
      rw [← sort_leP hn, List.length_mergeSort]
    refine ed_lcL hs ⟨fun d hd => ?_⟩ (fun d hd e he => ?_) (by rw [List.length_map, lu]; exact hl)
    · obtain ⟨p, hp, rfl⟩ := List.mem_map.mp hd
      refine ⟨_, tg_name (by simp), et_yes, fun e he => ?_⟩
      cases he
      exact ed_catT (ds := [.int p.1, .int p.2]) (es := [.int 1]) (ed_var rfl) (ed_tup (ea_cons (ed_dget (p := p) (m := ones b) (Ed.dk (ed_var rfl)) (ed_var rfl) (lo_ones (mem_sortU.mp hp))) ea_nil)) (by simp) (by simp) (by simp)
    · obtain ⟨p, hp, rfl⟩ := List.mem_map.mp hd
      cases he
      rfl
end
end Fb
/-! A list that grows; more of the statements that write. -/
namespace Fb
open PySem PySem.Spec PyProof.Rows L2
open Evl (Ex)
/-- less told -/
def LeG : Gm → Gm → Prop
  | [], [] => True
  | none :: a, _ :: b => LeG a b
  | some d :: a, o :: b => o = some d ∧ LeG a b
  | _, _ => False
theorem leG_len : ∀ {Δ Γ : Gm}, LeG Δ Γ → Δ.length = Γ.length
  | [], [], _ => rfl
  | none :: a, _ :: b, h => by rw [List.length_cons, List.length_cons, leG_len (show LeG a b from h)]
  | some d :: a, o :: b, h => by rw [List.length_cons, List.length_cons, leG_len (show LeG a b from h.2)]
  | [], _ :: _, h => h.elim
  | none :: _, [], h => h.elim
  | some _ :: _, [], h => h.elim
theorem leG_at : ∀ {Δ Γ : Gm}, LeG Δ Γ → ∀ (i : Nat) (d : PyData), Δ[i]? = some (some d) → Γ[i]? = some (some d)
  | [], [], _, i, d, e => by simp at e
  | none :: a, _ :: b, h, 0, d, e => by cases e
  | none :: a, _ :: b, h, i + 1, d, e => leG_at (show LeG a b from h) i d e
  | some d :: a, o :: b, h, 0, _, e => by cases e; rw [h.1]; rfl
  | some d :: a, o :: b, h, i + 1, d', e => leG_at (show LeG a b from h.2) i d' e
  | [], _ :: _, h, _, _, _ => h.elim
  | none :: _, [], h, _, _, _ => h.elim
  | some _ :: _, [], h, _, _, _ => h.elim
theorem MJ.le {A : Addr → Prop} {t : TS} {Γ Γ' Γ1 : Gm} {I I' : Hp → Prop} {R : V → Hp → Prop} (h : MJ A t Γ I Γ1 I' R) (l : LeG Γ' Γ1) : MJ A t Γ I Γ' I' R := h.forget (leG_len l) (leG_at l)
theorem S.le {t : TS} {Γ Γ' Γ1 : Gm} (h : S t Γ (.inl Γ1)) (l : LeG Γ' Γ1) : S t Γ (.inl Γ') := h.forget (leG_len l) (leG_at l)
section
variable {K : PySem.W.Frag} {A : Addr → Prop} {t : TS} {te tl tk tv : TE} {ta : TA} {g : TG} {Γ Γ' Γ1 Γ2 Γm : Gm} {I I' : Hp → Prop} {R : V → Hp → Prop} {d : PyData} {ds : List PyData} {m n : List (P2 × PyData)} {p a : Addr}
theorem ex_stb {H0 : Hp} : Stb (Ex H0) := fun H H' i e => i.trans e
theorem mj_asg {k : Nat} (vw : View I Γ Γm) (st : Stb I) (h : Ed te Γm d) : MJ A (tAsg te (gName k)) Γ I (Γ.set k (some d)) I R := fun D σ H s i n r =>
  h σ H (vw σ H s i) _ fun v H1 e1 dv => n _ H1 (.of e1) ((s.ex e1).set k dv) (st _ _ i e1)
theorem view_at {k : Nat} (hk : Γ[k]? = some (some (rawD a))) (h : ∀ H, I H → Dd H d (V.ref a)) : View I Γ (Γ.set k (some d)) := fun σ H s i => by
  refine ⟨by rw [List.length_set, s.len], fun j e he => ?_⟩
  by_cases z : k = j
  · subst z
    by_cases l : k < Γ.length
    · rw [List.getElem?_set_self l] at he
      cases he
      obtain ⟨v, a, b⟩ := s.at_ k _ hk
      exact ⟨v, a, by rw [dd_raw.mp b]; exact h H i⟩
    · rw [List.getElem?_eq_none (by rw [List.length_set]; omega)] at he
      cases he
  · rw [List.getElem?_set_ne z] at he
    exact s.at_ j e he
theorem mj_made2' {H0 : Hp} {i k : Nat} {n : List (P2 × PyData)} (vw : View (Ex H0) Γ Γm) (he : Ed te Γm (dxD n)) (h : ∀ (H1 : Hp) (p c : Addr), Ex H0 H1 → H1 p = none → H1 c = some (HO.dT (kv (vals n))) → (∀ e ∈ n, scD e.2 = true) → MJ (fun a => a = p) t ((Γ.set i (some (rawD c))).set k (some (rawD p))) (ExI H1 p []) Γ' (fun _ => False) R) :
    MJ (fun _ => False) (tSeq (tPar i k (tCons te (tCons tDNewT tNil))) t) Γ (Ex H0) Γ' (fun _ => False) R := fun D σ H s i0 n r =>
  he σ H (vw σ H s i0) _ fun v H1 e1 dv => by
    intro p hp
    obtain ⟨c, rfl, hc, sc⟩ := dd_dx dv
    refine ⟨_, _, rfl, ?_⟩
    refine h H1 p c (i0.trans e1) hp hc sc D _ _ ((((s.ex e1).ex (Ex.new hp)).set i (dd_raw.mpr rfl)).set k (dd_raw.mpr rfl)) ⟨Ex.new hp, ⟨upd_same, fun e h => (List.not_mem_nil h).elim, List.nodup_nil, Nat.zero_le _⟩⟩ (fun σ' H' _ _ z => z.elim) fun v H' x rr => r v H' (fun b o _ z => ?_) rr
    exact x b o (fun w => by have z2 := e1 b o z; rw [w, hp] at z2; cases z2) (Ex.new hp b o (e1 b o z))

/-! ### the list at p -/
structure OkL (H : Hp) (p : Addr) (ds : List PyData) : Prop where
  at_ : ∃ xs, H p = some (HO.lst xs) ∧ DdL H ds xs
  fl : FlL ds = true
  few : ds.length ≤ 100000
theorem OkL.ex {H H' : Hp} (h : OkL H p ds) (e : Ex H H') : OkL H' p ds := ⟨let ⟨xs, a, b⟩ := h.at_; ⟨xs, e _ _ a, DdL.ex e _ _ b⟩, h.fl, h.few⟩
theorem OkL.nt {H : Hp} (h : OkL H p ds) (xs : List V) : H p ≠ some (.tup xs) := fun z => by obtain ⟨ys, a, _⟩ := h.at_; rw [a] at z; cases z
theorem OkL.dd {H : Hp} (h : OkL H p ds) : Dd H (.list ds) (V.ref p) := let ⟨xs, a, b⟩ := h.at_; ⟨p, xs, rfl, a, b⟩
def ExL (H0 : Hp) (p : Addr) (ds : List PyData) (H : Hp) : Prop := Ex H0 H ∧ OkL H p ds
theorem exL_stb {H0 : Hp} : Stb (ExL H0 p ds) := fun H H' i e => ⟨i.1.trans e, i.2.ex e⟩
theorem exL_put {H0 : Hp} {ds ds' : List PyData} {o : HO} (hp : H0 p = none) {H : Hp} (i : ExL H0 p ds H) (h : OkL (upd H p o) p ds') : ExL H0 p ds' (upd H p o) :=
  ⟨fun b u z => by rw [upd_ne (ne_of_none z hp)]; exact i.1 b u z, h⟩
theorem fll_snoc {d : PyData} (h : FlL ds = true) (hd : Fl0 d = true) : FlL (ds ++ [d]) = true := by
  induction ds with
  | nil =>
    show (Fl0 d && true) = true
    rw [hd]
    rfl
  | cons e ds ih =>
    have t' : Fl0 e = true ∧ FlL ds = true := by
      have z : (Fl0 e && FlL ds) = true := h
      simpa using z
    show (Fl0 e && FlL (ds ++ [d])) = true
    rw [t'.1, ih t'.2]
    rfl
/-- xs.append(e) -/
theorem mj_append {k : Nat} (vw : View I Γ Γm) (st : Stb I) (ts : TsG Γ) (hk : Γ[k]? = some (some (rawD p))) (hp : ∀ H, I H → OkL H p ds) (hA : A p) (he : Ed te Γm d) (hd : Fl0 d = true) (hl : ds.length < 100000)
    (hi : ∀ H ys, I H → OkL (upd H p (.lst ys)) p (ds ++ [d]) → I' (upd H p (.lst ys))) : MJ A (tDrop (tBM K "list" rAppend (tVar k) (tCons te tNil))) Γ I Γ I' R := fun D σ H s i n r => by
  obtain ⟨y, hy, dy⟩ := s.at_ k _ hk
  have ey := dd_raw.mp dy
  subst ey
  obtain ⟨xs0, hx0, _⟩ := (hp H i).at_
  refine ⟨_, hy, .inl ⟨rfl, xs0, SqL.of hx0⟩, ?_⟩
  refine he σ H (vw σ H s i) _ fun v H1 e1 dv => ?_
  have i1 := st _ _ i e1
  obtain ⟨xs, hx, dx⟩ := (hp H1 i1).at_
  have nt := (hp H1 i1).nt
  have tx : TX H1 (upd H1 p (.lst (xs ++ [v]))) := tx_upd nt
  refine ⟨p, xs, v, rfl, rfl, hx, Evl.sz_lt (by rw [dx.len]; omega), n σ _ ((Xa.of e1).trans (Xa.upd hA)) ((s.ex e1).ts ts tx) (hi H1 _ i1 ⟨⟨_, upd_same, ?_⟩, fll_snoc (hp H1 i1).fl hd, by rw [List.length_append]; exact hl⟩)⟩
  exact DdL.append (DdL.tx tx _ _ (hp H1 i1).fl dx) (DdL.one (Dd.tx tx _ _ hd dv))
/-- xs = [..], to be written -/
theorem mj_madeL {H0 : Hp} {k : Nat} (he : Ea ta Γ ds) (fl : FlL ds = true) (hl : ds.length ≤ 100000) (h : ∀ (H1 : Hp) (p : Addr), Ex H0 H1 → H1 p = none → MJ (fun a => a = p) t (Γ.set k (some (rawD p))) (ExL H1 p ds) Γ' (fun _ => False) R) :
    MJ (fun _ => False) (tSeq (tAsg (tLst ta) (gName k)) t) Γ (Ex H0) Γ' (fun _ => False) R := fun D σ H s i0 n r =>
  he σ H s _ fun vs H1 e1 dv => by
    refine ⟨by rw [dv.len]; exact Evl.sz_of hl, fun p hp => ?_⟩
    refine h H1 p (i0.trans e1) hp D _ _ (((s.ex e1).ex (Ex.new hp)).set k (dd_raw.mpr rfl)) ⟨Ex.new hp, ⟨⟨vs, upd_same, DdL.ex (Ex.new hp) _ _ dv⟩, fl, hl⟩⟩ (fun σ' H' _ _ z => z.elim) fun v H' x rr => r v H' (fun b o _ z => ?_) rr
    exact x b o (fun w => by have z2 := e1 b o z; rw [w, hp] at z2; cases z2) (Ex.new hp b o (e1 b o z))
theorem s_of_mj {t : TS} (h : ∀ H0 : Hp, MJ (fun _ => False) t Γ (Ex H0) Γ' (fun _ => False) (fun v H' => Ex H0 H' ∧ Dd H' d v)) : S t Γ (.inr d) := fun D σ H s f =>
  h H D σ H s (Ex.refl H) (fun σ' H' _ _ z => z.elim) fun v H' _ r => f v H' r.1 r.2
end
end Fb
/-! Promises: neighbours. -/
namespace Fb
open PySem PySem.Spec PyProof.Rows L2
open Evl (Ex)

def offs9 : List P2 := [(-1, -1), (-1, 0), (-1, 1), (0, -1), (0, 0), (0, 1), (1, -1), (1, 0), (1, 1)]
def preA (q : P2) (n : Nat) : List P2 := ((offs9.take n).filter fun o => !decide (o = (0, 0))).map (plus q)
theorem preA_all (q : P2) : preA q 9 = around q := rfl
theorem preA_succ {q o : P2} {n : Nat} (h : offs9[n]? = some o) : preA q (n + 1) = preA q n ++ if o = (0, 0) then [] else [plus q o] := by
  unfold preA
  rw [List.take_add_one, h, List.filter_append, List.map_append]
  congr 1
  by_cases z : o = (0, 0)
  · rw [if_pos z]
    simp [z]
  · rw [if_neg z]
    simp [z]
theorem preA_len (q : P2) (n : Nat) : (preA q n).length ≤ 9 := by
  unfold preA
  rw [List.length_map]
  refine Nat.le_trans (List.length_filter_le ..) ?_
  rw [List.length_take]
  exact Nat.min_le_right ..
theorem three {i : Nat} {d : PyData} {a b c : PyData} (h : [a, b, c][i]? = some d) : (i = 0 ∧ d = a) ∨ (i = 1 ∧ d = b) ∨ (i = 2 ∧ d = c) := by
  match i, h with
  | 0, h => cases h; exact .inl ⟨rfl, rfl⟩
  | 1, h => cases h; exact .inr (.inl ⟨rfl, rfl⟩)
  | 2, h => cases h; exact .inr (.inr ⟨rfl, rfl⟩)
abbrev gA (c p : Addr) : Gm := [some (rawD c), some (rawD p), none, none, none, none, none]
abbrev gB (c p : Addr) (q : P2) : Gm := [some (rawD c), some (rawD p), some (.int q.1), some (.int q.2), none, none, none]
abbrev gC (c p : Addr) (q : P2) (s : Int) : Gm := [some (rawD c), some (rawD p), some (.int q.1), some (.int q.2), some (.int s), none, none]
abbrev gD (c p : Addr) (q : P2) (s m : Int) : Gm := [some (rawD c), some (rawD p), some (.int q.1), some (.int q.2), some (.int s), some (.int m), none]
abbrev gE (c p : Addr) (q : P2) (s m : Int) (x : P2) : Gm := [some (rawD c), some (rawD p), some (.int q.1), some (.int q.2), some (.int s), some (.int m), some (pD x)]
theorem tsG_of {Γ : Gm} (h : ∀ o ∈ Γ, match o with | none => True | some d => Ts0 d = true) : TsG Γ := fun d m => h _ m

section
variable {P : Program} {w : World} {K : PySem.W.Frag} {mg : Str → Option Value} {base : Heap}

def R_neighbours (ds : List PyData) (d : PyData) : Prop := ∃ b : Board, ds = [dxD (ones b)] ∧ b.length ≤ 3000 ∧ d = dxD (cntL (b.flatMap around))
theorem nine {j : Nat} {d : PyData} (hd : [PyData.int (-1), .int 0, .int 1][j]? = some d) : ∃ s1 : Int, d = .int s1 ∧ ∀ k, k < 3 → ∃ m1 : Int, offs9[3 * j + k]? = some (s1, m1) ∧ [PyData.int (-1), .int 0, .int 1][k]? = some (.int m1) ∧ PyData.eqv (.tuple [.int s1, .int m1]) (.tuple [.int 0, .int 0]) = decide ((s1, m1) = ((0, 0) : P2)) := by
  have two : ∀ k, k < 3 → k = 0 ∨ k = 1 ∨ k = 2 := fun k h => by omega
  rcases three hd with ⟨rfl, rfl⟩ | ⟨rfl, rfl⟩ | ⟨rfl, rfl⟩
  · refine ⟨-1, rfl, fun k hk => ?_⟩
    rcases two k hk with rfl | rfl | rfl
    · exact ⟨-1, rfl, rfl, rfl⟩
    · exact ⟨0, rfl, rfl, rfl⟩
    · exact ⟨1, rfl, rfl, rfl⟩
  · refine ⟨0, rfl, fun k hk => ?_⟩
    rcases two k hk with rfl | rfl | rfl
    · exact ⟨-1, rfl, rfl, rfl⟩
    · exact ⟨0, rfl, rfl, rfl⟩
    · exact ⟨1, rfl, rfl, rfl⟩
  · refine ⟨1, rfl, fun k hk => ?_⟩
    rcases two k hk with rfl | rfl | rfl
    · exact ⟨-1, rfl, rfl, rfl⟩
    · exact ⟨0, rfl, rfl, rfl⟩
    · exact ⟨1, rfl, rfl, rfl⟩
theorem flat_len (b : Board) : (b.flatMap around).length ≤ 8 * b.length := by
  induction b with
  | nil => exact Nat.zero_le _
  | cons p b ih =>
    rw [List.flatMap_cons, List.length_append, List.length_cons]
    have e : (around p).length = 8 := rfl
    omega
abbrev nbPut : TS := sDPut (tVar 1) (tVar 6) (tOp (rI0 fun i j => .int (i + j)) (tDGet2 (tVar 1) (tVar 6) (tC (.int 0))) (tC (.int 1)))
abbrev nbIf (K : PySem.W.Frag) : TS := tIfS (tTest (tOp (rNeD K) (tTup (tCons (tVar 4) (tCons (tVar 5) tNil))) (tTup (tCons (tC (.int 0)) (tCons (tC (.int 0)) tNil))))) (tSeq (tAsg (tTup (tCons (tOp (rI0 fun i j => .int (i + j)) (tVar 2) (tVar 4)) (tCons (tOp (rI0 fun i j => .int (i + j)) (tVar 3) (tVar 5)) tNil))) (gName 6)) nbPut) tNext
abbrev nbT : TE := tTup (tCons (tUn (rU fun i => .int (-i)) (tC (.int 1))) (tCons (tC (.int 0)) (tCons (tC (.int 1)) tNil)))
theorem nb_put {H1 : Hp} {c p : Addr} {od : Obj} {cm : List (P2 × PyData)} {q x : P2} {s1 m1 : Int} {l : List P2} (hc1 : H1 c = some (HO.dT (kv (vals cm)))) (hp : H1 p = none) (hl : l.length < 100000) :
    MJ (fun a => a = p) nbPut (gE c p q s1 m1 x) (LkI H1 c od cm p (cntL l)) (gE c p q s1 m1 x) (LkI H1 c od cm p (cntL (l ++ [x]))) (fun _ _ => False) := by
  rw [cntL_snoc]
  refine mj_dput (p := p) (q := x) (x := .int (numD (lo (cntL l) x) + 1)) (m := cntL l) (Γm := (gE c p q s1 m1 x).set 1 (some (dxD (cntL l)))) (view_dict (k := 1) rfl fun H i => i.2) lkI_stb (tsG_of (by simp [ts_raw]; exact ⟨rfl, rfl, rfl, rfl, rfl⟩)) rfl (fun H i => i.2) rfl (ed_var rfl) ?_ rfl (Nat.lt_of_le_of_lt (len_cntL l) hl) fun H i o => lkI_put hp hc1 i o
  have gd := ed_dget2 (ta := tVar 1) (tb := tVar 6) (tc := tC (.int 0)) (Γ := (gE c p q s1 m1 x).set 1 (some (dxD (cntL l)))) (m := cntL l) (p := x) (e := .int 0) (Ed.dk (ed_var rfl)) (ed_var rfl) ed_int rfl
  have e1 : (lo (cntL l) x).getD (.int 0) = .int (numD (lo (cntL l) x)) := by
    rw [lo_cntL]
    split
    · rfl
    · rfl
  rw [e1] at gd
  exact ed_opI (g := fun i j => i + j) gd ed_int
theorem nb_if {H1 : Hp} {c p : Addr} {od : Obj} {cm : List (P2 × PyData)} {q : P2} {s1 m1 : Int} {l : List P2} (hc1 : H1 c = some (HO.dT (kv (vals cm)))) (hp : H1 p = none) (hl : l.length < 100000)
    (heq : PyData.eqv (.tuple [.int s1, .int m1]) (.tuple [.int 0, .int 0]) = decide ((s1, m1) = ((0, 0) : P2))) :
    MJ (fun a => a = p) (nbIf K) (gD c p q s1 m1) (LkI H1 c od cm p (cntL l)) (gD c p q s1 m1) (LkI H1 c od cm p (cntL (l ++ if (s1, m1) = ((0, 0) : P2) then [] else [plus q (s1, m1)]))) (fun _ _ => False) := by
  refine mj_if view_refl lkI_stb (et_T (ed_neD (d := .tuple [.int s1, .int m1]) (e := .tuple [.int 0, .int 0]) (ed_tup (ea_cons (ed_var rfl) (ea_cons (ed_var rfl) ea_nil))) (ed_tup (ea_cons ed_int (ea_cons ed_int ea_nil))) rfl rfl)) (fun u => ?_) fun u => ?_
  · rw [heq] at u
    have u2 : ¬ ((s1, m1) = ((0, 0) : P2)) := by
      intro z
      rw [decide_eq_true z] at u
      cases u
    rw [if_neg u2]
    refine mj_seq (Γ1 := gE c p q s1 m1 (plus q (s1, m1))) (mj_S (s_asg (k := 6) (d := pD (plus q (s1, m1))) (ed_tup (ea_cons (ed_opI (g := fun i j => i + j) (ed_var rfl) (ed_var rfl)) (ea_cons (ed_opI (g := fun i j => i + j) (ed_var rfl) (ed_var rfl)) ea_nil)))) lkI_stb) ?_
    exact (nb_put hc1 hp hl).le (by simp [LeG])
  · rw [heq] at u
    have u2 : (s1, m1) = ((0, 0) : P2) := by
      by_cases z : (s1, m1) = ((0, 0) : P2)
      · exact z
      · rw [decide_eq_false z] at u
        cases u
    rw [if_pos u2, List.append_nil]
    exact mj_next
theorem nb_row {H1 : Hp} {c p : Addr} {od : Obj} {cm : List (P2 × PyData)} {q : P2} {s1 : Int} {j : Nat} {l : List P2} (hc1 : H1 c = some (HO.dT (kv (vals cm)))) (hp : H1 p = none) (hl : l.length ≤ 30000)
    (h9 : ∀ k, k < 3 → ∃ m1 : Int, offs9[3 * j + k]? = some (s1, m1) ∧ [PyData.int (-1), .int 0, .int 1][k]? = some (.int m1) ∧ PyData.eqv (.tuple [.int s1, .int m1]) (.tuple [.int 0, .int 0]) = decide ((s1, m1) = ((0, 0) : P2))) :
    MJ (fun a => a = p) (tFor (iTup K nbT) (gName 5) (nbIf K)) (gC c p q s1) (LkI H1 c od cm p (cntL (l ++ preA q (3 * j)))) (gC c p q s1) (LkI H1 c od cm p (cntL (l ++ preA q (3 * (j + 1))))) (fun _ _ => False) := by
  refine mj_forT (K := K) (ds := [.int (-1), .int 0, .int 1]) (fun _ => gC c p q s1) (fun k => LkI H1 c od cm p (cntL (l ++ preA q (3 * j + k)))) (fun _ => lkI_stb) (ed_tup (ea_cons (ed_neg ed_int) (ea_cons ed_int (ea_cons ed_int ea_nil)))) (fun k H i a xs ea => by rw [ea]; exact i.2.nt xs) fun k d hd => ?_
  have hk : k < 3 := (List.getElem?_eq_some_iff.mp hd).1
  obtain ⟨m1, ho, hm1, heq⟩ := h9 k hk
  rw [hm1] at hd
  cases hd
  refine ⟨rfl, gD c p q s1 m1, tn_name, ?_⟩
  have sx := preA_succ (q := q) ho
  have sidx : 3 * j + (k + 1) = 3 * j + k + 1 := rfl
  rw [sidx, sx, ← List.append_assoc]
  have pl := preA_len q (3 * j + k)
  exact (nb_if hc1 hp (by rw [List.length_append]; omega) heq).le (by simp [LeG])
theorem nb_rows {H1 : Hp} {c p : Addr} {od : Obj} {cm : List (P2 × PyData)} {q : P2} {l : List P2} (hc1 : H1 c = some (HO.dT (kv (vals cm)))) (hp : H1 p = none) (hl : l.length ≤ 30000) :
    MJ (fun a => a = p) (tFor (iTup K nbT) (gName 4) (tFor (iTup K nbT) (gName 5) (nbIf K))) (gB c p q) (LkI H1 c od cm p (cntL l)) (gB c p q) (LkI H1 c od cm p (cntL (l ++ around q))) (fun _ _ => False) := by
  have z := mj_forT (K := K) (A := fun a => a = p) (R := fun _ _ => False) (t := tFor (iTup K nbT) (gName 5) (nbIf K)) (g := gName 4) (tl := nbT) (ds := [.int (-1), .int 0, .int 1]) (fun _ => gB c p q) (fun j => LkI H1 c od cm p (cntL (l ++ preA q (3 * j)))) (fun _ => lkI_stb) (ed_tup (ea_cons (ed_neg ed_int) (ea_cons ed_int (ea_cons ed_int ea_nil)))) (fun k H i a xs ea => by rw [ea]; exact i.2.nt xs) fun j d hd => by
    obtain ⟨s1, rfl, h9⟩ := nine hd
    exact ⟨rfl, gC c p q s1, tn_name, (nb_row hc1 hp hl h9).le (by simp [LeG])⟩
  refine (z.pre fun H i => ?_).post fun H i => i
  show LkI H1 c od cm p (cntL (l ++ preA q 0)) H
  have e0 : preA q 0 = [] := rfl
  rw [e0, List.append_nil]
  exact i
theorem ok_neighbours (T : Tp K mg) : FnOk P w K mg base CX0 1 T.neighbours.f T.neighbours.fd ["cells"] (spD R_neighbours) := by
  refine pure_ok T.neighbours.F sc_neighbours (fun ds d h => ?_) (fun cdv A outer s H E hr => ⟨_, (pss_cons (ps_set (i := 1) sc_neighbours.nd rfl (.inl rfl) pe_dnewT)
      (pss_cons (ps_lock (ps_for PassesOwn.never rfl (pi_keysMT (pv 0)) (pg_tup rfl (pgs_cons (pg_name (i := 2) sc_neighbours.nd rfl (.inl rfl)) (pgs_cons (pg_name (i := 3) sc_neighbours.nd rfl (.inl rfl)) pgs_nil))) (pss_one (ps_if (pt_cmpR op_eq (pe_dget (hu_of hr) (pv 0) (pe_tup (pa_cons (pv 2) (pa_cons (pv 3) pa_nil))) (fun _ _ => rfl)) pe_int (nomark _)) (pss_one (ps_for PassesOwn.never rfl (pi_tup (pe_tup (pa_cons (pe_un un_neg pe_int) (pa_cons pe_int (pa_cons pe_int pa_nil))))) (pg_name (i := 4) sc_neighbours.nd rfl (.inl rfl)) (pss_one (ps_for PassesOwn.never rfl (pi_tup (pe_tup (pa_cons (pe_un un_neg pe_int) (pa_cons pe_int (pa_cons pe_int pa_nil))))) (pg_name (i := 5) sc_neighbours.nd rfl (.inl rfl)) (pss_one (ps_if (pt_cmpR (op_neD hr.units) (pe_tup (pa_cons (pv 4) (pa_cons (pv 5) pa_nil))) (pe_tup (pa_cons pe_int (pa_cons pe_int pa_nil))) (nomark _)) (pss_cons (ps_set (i := 6) sc_neighbours.nd rfl (.inl rfl) (pe_tup (pa_cons (pe_op op_add (pv 2) (pv 4)) (pa_cons (pe_op op_add (pv 3) (pv 5)) pa_nil))))
      (pss_one (ps_dput (hu_of hr) (pv 1) (pv 6) (pe_op op_add (pe_dget2 (hu_of hr) (pv 1) (pv 6) pe_int ⟨rfl, rfl, rfl, rfl⟩) pe_int) rfl))) pss_nil)))))) pss_nil))))
      (pss_one (ps_ret (pv 1))))), fun ds d h => ?_⟩)
  · obtain ⟨b, rfl, _⟩ := h
    rfl
  · obtain ⟨b, rfl, hl, rfl⟩ := h
    refine s_open (j := 0) (m := ones b) (Γ' := []) rfl fun H0 c hc sc => ?_
    refine mj_made fun H1 p e1 hp => ?_
    have hc1 : H1 c = some (HO.dT (kv (vals (ones b)))) := e1 _ _ hc
    have lb : (ones b).length = b.length := by unfold ones; rw [List.length_map]
    refine mj_seq (mj_lockK hc1 hp (fun _ => gA c p) (fun i => cntL ((b.take i).flatMap around)) (fun _ => tsG_of (by simp [ts_raw])) rfl fun i e od he => ?_) ?_
    · obtain ⟨q, hq, rfl⟩ : ∃ q, b[i]? = some q ∧ e = (q, .int 1) := by
        unfold ones at he
        rw [List.getElem?_map] at he
        cases z : b[i]? with
        | none => rw [z] at he; cases he
        | some q => rw [z] at he; cases he; exact ⟨q, rfl, rfl⟩
      have tk1 : (b.take (i + 1)).flatMap around = (b.take i).flatMap around ++ around q := by
        rw [List.take_add_one, hq, List.flatMap_append]
        simp
      have ll : ((b.take i).flatMap around).length ≤ 30000 := by
        have z := flat_len (b.take i)
        have z2 := List.length_take_le' i b
        omega
      refine ⟨gB c p q, tn_tup (ks := [2, 3]) rfl, ?_⟩
      rw [tk1]
      refine (mj_if (b := true) (Γm := (gB c p q).set 0 (some (dkD (ones b)))) (view_dk (k := 0) rfl (fun H i => i.1.rd hc1 hc1) sc) lkI_stb (et_T (ed_eqI (i := 1) (j := 1) (ed_dget (m := ones b) (p := q) (ed_var rfl) (ed_tup (ea_cons (ed_var rfl) (ea_cons (ed_var rfl) ea_nil))) (lo_ones (List.mem_of_getElem? hq))) ed_int)) (fun _ => ?_) fun z => nomatch z)
      exact (nb_rows (q := q) hc1 hp ll).le (by simp [LeG])
    · have el : b.take (ones b).length = b := by rw [lb, List.take_length]
      rw [el]
      exact mj_ret view_refl exI_stb (d := rawD p) (ed_var rfl) fun v H i dv => ⟨e1.trans i.1, by rw [dd_raw.mp dv]; exact dx_of i.2.at_ i.2.sc⟩
end
end Fb
/-! Promises: next_cells, step_in, phases_in. -/
namespace Fb
open PySem PySem.Spec PyProof.Rows L2
open Evl (Ex)

def f1 (b : Board) (q : P2) : Bool := !decide (q ∈ b) && decide (nb b q = 3)
def f2 (b : Board) (q : P2) : Bool := decide (nb b q = 2) || decide (nb b q = 3)
def F1 (b : Board) (i : Nat) : List P2 := (((cntL (b.flatMap around)).map (·.1)).take i).filter (f1 b)
def nxtL (b : Board) : List P2 := F1 b (cntL (b.flatMap around)).length ++ b.filter (f2 b)
theorem F1_nd (b : Board) (i : Nat) : (F1 b i).Nodup := List.Nodup.sublist ((List.filter_sublist ..).trans (List.take_sublist ..)) (nd_cntL _)
theorem F1_mem {b : Board} {i : Nat} {q : P2} (h : q ∈ F1 b i) : f1 b q = true ∧ q ∉ b := by
  have z := (List.mem_filter.mp h).2
  refine ⟨z, fun m => ?_⟩
  unfold f1 at z
  rw [decide_eq_true m] at z
  cases z
theorem nxt_nd {b : Board} (h : b.Nodup) : (nxtL b).Nodup := by
  unfold nxtL
  rw [List.nodup_append]
  refine ⟨F1_nd _ _, List.Nodup.sublist (List.filter_sublist ..) h, fun a ha c hc e => ?_⟩
  rw [← e] at hc
  exact (F1_mem ha).2 (List.mem_filter.mp hc).1
theorem nxt_len (b : Board) : (nxtL b).length ≤ 9 * b.length := by
  unfold nxtL F1
  rw [List.length_append]
  have h1 := List.length_filter_le (f1 b) (((cntL (b.flatMap around)).map (·.1)).take (cntL (b.flatMap around)).length)
  have h2 := List.length_filter_le (f2 b) b
  have h3 := len_cntL (b.flatMap around)
  have h4 := flat_len b
  have h5 := List.length_take_le (cntL (b.flatMap around)).length ((cntL (b.flatMap around)).map (·.1))
  omega
theorem nxt_mem {b : Board} {q : P2} : q ∈ nxtL b ↔ Nx b q = true := by
  unfold nxtL F1
  have e : ((cntL (b.flatMap around)).map (·.1)).take (cntL (b.flatMap around)).length = (cntL (b.flatMap around)).map (·.1) := by
    have z : (cntL (b.flatMap around)).length = ((cntL (b.flatMap around)).map (·.1)).length := by rw [List.length_map]
    rw [z, List.take_length]
  rw [e, List.mem_append, List.mem_filter, List.mem_filter, mem_cntL]
  unfold f1 f2 Nx
  by_cases m : q ∈ b
  · rw [if_pos m, decide_eq_true m]
    simp [m]
  · rw [if_neg m, decide_eq_false m]
    simp only [Bool.not_false, Bool.true_and, decide_eq_true_eq, m, false_and, or_false, beq_iff_eq]
    refine ⟨fun h => h.2, fun h => ⟨?_, h⟩⟩
    obtain ⟨c, hc, ha⟩ := countP_pos_mem (b := b) (p := q) (by omega)
    exact List.mem_flatMap.mpr ⟨c, hc, ha⟩
theorem sortU_nxt {b : Board} : sortU (nxtL b) = stepM b := stepM_of (srt_sortU _) fun p => by rw [mem_sortU, nxt_mem]
theorem lo_of {m : List (P2 × PyData)} {e : P2 × PyData} (h : e ∈ m) (hn : (m.map (·.1)).Nodup) : lo m e.1 = some e.2 := by
  induction m with
  | nil => exact nomatch h
  | cons a r ih =>
    obtain ⟨h1, h2⟩ := List.nodup_cons.mp hn
    show (if a.1 = e.1 then some a.2 else lo r e.1) = some e.2
    rcases List.mem_cons.mp h with z | z
    · rw [z, if_pos rfl]
    · rw [if_neg fun w => h1 (List.mem_map.mpr ⟨e, z, w.symm⟩)]
      exact ih z h2
theorem pu_ones {l : List P2} {q : P2} (h : q ∉ l) : pu (ones l) q (.int 1) = ones (l ++ [q]) := by
  rw [pu_new (by rw [keys_ones]; exact h)]
  unfold ones
  rw [List.map_append]
  rfl

section
variable {P : Program} {w : World} {K : PySem.W.Frag} {mg : Str → Option Value} {base : Heap}
abbrev bS : PyData := .tuple ([3].map PyData.int)
abbrev sS : PyData := .tuple ([2, 3].map PyData.int)
abbrev nA (a c p : Addr) : Gm := [some RD, some (rawD a), some bS, some sS, some (.int 2), some (rawD c), some (rawD p), none, none]
abbrev nB (a c p : Addr) (q : P2) : Gm := [some RD, some (rawD a), some bS, some sS, some (.int 2), some (rawD c), some (rawD p), some (pD q), none]
abbrev nC (a c p : Addr) (q : P2) (s : Int) : Gm := [some RD, some (rawD a), some bS, some sS, some (.int 2), some (rawD c), some (rawD p), some (pD q), some (.int s)]
def R_next_cells (ds : List PyData) (d : PyData) : Prop := ∃ b : Board, ds = [RD, dxD (ones b)] ∧ b.Nodup ∧ b.length ≤ 3000 ∧ d = dxD (ones (nxtL b))
theorem nx_put {I I' : Hp → Prop} {Γ : Gm} {p : Addr} {l : List P2} {q : P2} (st : Stb I) (ts : TsG Γ) (h6 : Γ[6]? = some (some (rawD p))) (h7 : Γ[7]? = some (some (pD q))) (hp : ∀ H, I H → OkD H p (ones l)) (hq : q ∉ l) (hl : l.length ≤ 50000)
    (hi : ∀ H o, I H → OkD (upd H p o) p (ones (l ++ [q])) → I' (upd H p o)) : MJ (fun a => a = p) (sDPut (tVar 6) (tVar 7) (tC (.int 1))) Γ I Γ I' (fun _ _ => False) := by
  refine mj_dput (p := p) (q := q) (x := .int 1) (m := ones l) view_refl st ts h6 hp rfl (ed_var h7) ed_int rfl (by unfold ones; rw [List.length_map]; omega) fun H i o => ?_
  rw [pu_ones hq] at o ⊢
  exact hi H _ i o
theorem nx_turn1 {H1 : Hp} {a c p : Addr} {od : Obj} {b : Board} {i : Nat} {q : P2} {v : PyData} (hn : b.Nodup) (hl : b.length ≤ 3000) (ha : H1 a = some (HO.dT (kv (vals (ones b))))) (hc : H1 c = some (HO.dT (kv (vals (cntL (b.flatMap around)))))) (hp : H1 p = none) (he : (cntL (b.flatMap around))[i]? = some (q, v)) :
    MJ (fun a => a = p) (tIfS (tAnd (tB (tDNotIn (tVar 7) (tVar 1))) (tTest (tOp (rIn K false) (tDGet (tVar 5) (tVar 7)) (tVar 2)))) (sDPut (tVar 6) (tVar 7) (tC (.int 1))) tNext) (nB a c p q) (LkI H1 c od (cntL (b.flatMap around)) p (ones (F1 b i))) (nB a c p q) (LkI H1 c od (cntL (b.flatMap around)) p (ones (F1 b (i + 1)))) (fun _ _ => False) := by
  have hk : ((cntL (b.flatMap around)).map (·.1))[i]? = some q := by rw [List.getElem?_map, he]; rfl
  have hlo := lo_of (List.mem_of_getElem? he) (nd_cntL (b.flatMap around))
  have hlo' : lo (cntL (b.flatMap around)) q = some (.int (nb b q : Nat)) := by
    have z := lo_cntL (b.flatMap around) q
    rw [count_given hn] at z
    by_cases w : nb b q = 0
    · rw [if_pos w] at z
      rw [show lo (cntL (b.flatMap around)) q = some v from hlo] at z
      cases z
    · rw [if_neg w] at z
      exact z
  have vw : View (LkI H1 c od (cntL (b.flatMap around)) p (ones (F1 b i))) (nB a c p q) (((nB a c p q).set 1 (some (dkD (ones b)))).set 5 (some (dkD (cntL (b.flatMap around))))) :=
    (view_dk (k := 1) rfl (fun H i => i.1.rd hc ha) (sc_ones b)).trans (view_dk (k := 5) rfl (fun H i => i.1.rd hc hc) (sc_cntL _))
  have hF : F1 b (i + 1) = F1 b i ++ if f1 b q = true then [q] else [] := by
    unfold F1
    rw [List.take_add_one, hk, List.filter_append]
    congr 1
    by_cases z : f1 b q = true
    · rw [if_pos z]; simp [z]
    · rw [if_neg z]; simp [z]
  have nin : q ∉ F1 b i := fun m => by
    have n1 := nd_cntL (b.flatMap around)
    have m1 := (List.mem_filter.mp m).1
    rw [← List.take_append_drop i ((cntL (b.flatMap around)).map (·.1))] at n1
    have hd : q ∈ ((cntL (b.flatMap around)).map (·.1)).drop i := by
      have z : (((cntL (b.flatMap around)).map (·.1)).drop i)[0]? = some q := by rw [List.getElem?_drop, Nat.add_zero, hk]
      exact List.mem_of_getElem? z
    exact (List.nodup_append.mp n1).2.2 q m1 q hd rfl
  have fl : (F1 b i).length ≤ 50000 := by
    have h1 : (F1 b i).length ≤ _ := List.length_filter_le ..
    have h2 := List.length_take_le' i ((cntL (b.flatMap around)).map (·.1))
    have h3 := len_cntL (b.flatMap around)
    have h4 := flat_len b
    rw [List.length_map] at h2
    omega
  have ts : TsG (nB a c p q) := tsG_of (by simp [ts_raw]; exact ⟨rfl, rfl, rfl, rfl, rfl⟩)
  have ec : ((!decide (q ∈ (ones b).map (·.1))) && decide ((nb b q : Int) ∈ [(3 : Int)])) = f1 b q := by
    rw [keys_ones]
    unfold f1
    congr 1
    rw [decide_eq_decide, List.mem_singleton]
    omega
  refine mj_if vw lkI_stb (Et.to (et_and (et_B (ed_dnotin (p := q) (m := ones b) (ed_var rfl) (ed_var rfl))) fun _ => et_T (ed_in (ns := [3]) (ed_dget (p := q) (m := cntL (b.flatMap around)) (ed_var rfl) (ed_var rfl) hlo') (ed_var rfl))) ec) (fun u => ?_) fun u => ?_
  · rw [hF, if_pos u]
    exact nx_put lkI_stb ts rfl rfl (fun H i => i.2) nin fl fun H o i k => lkI_put hp hc i k
  · rw [hF, if_neg (by rw [u]; decide), List.append_nil]
    exact mj_next
theorem nx_turn2 {H1 : Hp} {a c p : Addr} {od : Obj} {b : Board} {i : Nat} {q : P2} {L : List P2} (hn : b.Nodup) (hl : b.length ≤ 3000) (hL : ∀ x ∈ L, x ∉ b) (hL2 : L.length ≤ 40000) (ha : H1 a = some (HO.dT (kv (vals (ones b))))) (hc : H1 c = some (HO.dT (kv (vals (cntL (b.flatMap around)))))) (hp : H1 p = none) (he : b[i]? = some q) :
    MJ (fun a => a = p) (tSeq (tAsg (tDGet (tVar 1) (tVar 7)) (gName 8)) (tIfS (tAnd (tTest (tOp rEq (tVar 8) (tC (.int 1)))) (tTest (tOp (rIn K false) (tDGet2 (tVar 5) (tVar 7) (tC (.int 0))) (tVar 3)))) (sDPut (tVar 6) (tVar 7) (tC (.int 1)))
      (tIfS (tTest (tOp (rI0 fun i j => .bl (decide (i < j))) (tOp (rI0 fun i j => .int (i + j)) (tVar 8) (tC (.int 1))) (tVar 4))) (sDPut (tVar 6) (tVar 7) (tOp (rI0 fun i j => .int (i + j)) (tVar 8) (tC (.int 1)))) tNext)))
      (nB a c p q) (LkI H1 a od (ones b) p (ones (L ++ (b.take i).filter (f2 b)))) (nC a c p q 1) (LkI H1 a od (ones b) p (ones (L ++ (b.take (i + 1)).filter (f2 b)))) (fun _ _ => False) := by
  have hcnt : (lo (cntL (b.flatMap around)) q).getD (.int 0) = .int (nb b q : Nat) := by
    rw [lo_cntL, count_given hn]
    by_cases w : nb b q = 0
    · rw [if_pos w, w]; rfl
    · rw [if_neg w]; rfl
  have vw0 : View (LkI H1 a od (ones b) p (ones (L ++ (b.take i).filter (f2 b)))) (nB a c p q) ((nB a c p q).set 1 (some (dkD (ones b)))) := view_dk (k := 1) rfl (fun H i => i.1.rd ha ha) (sc_ones b)
  have vw : View (LkI H1 a od (ones b) p (ones (L ++ (b.take i).filter (f2 b)))) (nC a c p q 1) ((nC a c p q 1).set 5 (some (dkD (cntL (b.flatMap around))))) := view_dk (k := 5) rfl (fun H i => i.1.rd ha hc) (sc_cntL _)
  have hF : (b.take (i + 1)).filter (f2 b) = (b.take i).filter (f2 b) ++ if f2 b q = true then [q] else [] := by
    rw [List.take_add_one, he, List.filter_append]
    congr 1
    by_cases z : f2 b q = true
    · rw [if_pos z]; simp [z]
    · rw [if_neg z]; simp [z]
  have nin : q ∉ L ++ (b.take i).filter (f2 b) := fun m => by
    rcases List.mem_append.mp m with m | m
    · exact hL q m (List.mem_of_getElem? he)
    · have m1 := (List.mem_filter.mp m).1
      have n1 := hn
      rw [← List.take_append_drop i b] at n1
      have hd : q ∈ b.drop i := by
        have z : (b.drop i)[0]? = some q := by rw [List.getElem?_drop, Nat.add_zero, he]
        exact List.mem_of_getElem? z
      exact (List.nodup_append.mp n1).2.2 q m1 q hd rfl
  have fl : (L ++ (b.take i).filter (f2 b)).length ≤ 50000 := by
    rw [List.length_append]
    have h1 := List.length_filter_le (f2 b) (b.take i)
    have h2 := List.length_take_le' i b
    omega
  have ts : TsG (nC a c p q 1) := tsG_of (by simp [ts_raw]; exact ⟨rfl, rfl, rfl, rfl, rfl, rfl⟩)
  have ec : (true && decide ((nb b q : Int) ∈ [(2 : Int), 3])) = f2 b q := by
    rw [Bool.true_and]
    unfold f2
    rw [← Bool.decide_or, decide_eq_decide, List.mem_cons, List.mem_singleton]
    omega
  refine mj_seq (mj_asg vw0 lkI_stb (ed_dget (m := ones b) (p := q) (ed_var rfl) (ed_var rfl) (lo_ones (List.mem_of_getElem? he)))) ?_
  refine mj_if vw lkI_stb (Et.to (et_and (b := true) (et_T (ed_eqI (i := 1) (j := 1) (ed_var rfl) ed_int)) fun _ => et_T (ed_in (ns := [2, 3]) (Ed.to (ed_dget2 (p := q) (m := cntL (b.flatMap around)) (e := .int 0) (ed_var rfl) (ed_var rfl) ed_int rfl) hcnt) (ed_var rfl))) ec) (fun u => ?_) fun u => ?_
  · rw [hF, if_pos u, ← List.append_assoc]
    exact nx_put lkI_stb ts rfl rfl (fun H i => i.2) nin fl fun H o i k => lkI_put hp ha i k
  · rw [hF, if_neg (by rw [u]; decide), List.append_nil]
    exact mj_if (b := false) view_refl lkI_stb (et_T (Ed.to (ed_opB (i := 1 + 1) (j := 2) (g := fun i j => decide (i < j)) (ed_opI (i := 1) (j := 1) (g := fun i j => i + j) (ed_var rfl) ed_int) (ed_var rfl)) rfl)) (fun z => nomatch z) fun _ => mj_next
theorem ok_next_cells (T : Tp K mg) : FnOk P w K mg base CX0 2 T.next_cells.f T.next_cells.fd ["rule", "cells"] (spD R_next_cells) := by
  refine pure_ok T.next_cells.F sc_next_cells (fun ds d h => ?_) (fun cdv A outer s H E hr => ⟨_, (pss_cons (ps_asg (pv 0) (pg_tup rfl (pgs_cons (pg_name (i := 2) sc_next_cells.nd rfl (.inl rfl)) (pgs_cons (pg_name (i := 3) sc_next_cells.nd rfl (.inl rfl)) (pgs_cons (pg_name (i := 4) sc_next_cells.nd rfl (.inl rfl)) pgs_nil)))))
      (pss_cons (ps_par (i := 5) (j := 6) (by rfl) sc_next_cells.nd rfl rfl (by decide) rfl rfl (pa_cons (pe_call (ok_neighbours T) (hr.mono (by decide)) (by rfl) T.neighbours.g T.neighbours.F.kp T.b_neighbours .nil pass0 (pa_cons (pv 1) pa_nil)) (pa_cons pe_dnewT pa_nil)) (by rfl))
      (pss_cons (ps_lock (ps_for PassesOwn.never rfl (pi_keysMT (pv 5)) (pg_name (i := 7) sc_next_cells.nd rfl (.inl rfl)) (pss_one (ps_if (pw_and (pt_cmp (pc_dnotin (hu_of hr) (pv 7) (pv 1)) rfl) (pw_and1 (pt_cmpR op_in_seq (pe_dget (hu_of hr) (pv 5) (pv 7) (fun _ _ => rfl)) (pv 2) (by rfl)))).pt (pss_one (ps_dput (hu_of hr) (pv 6) (pv 7) pe_int rfl)) pss_nil))))
      (pss_cons (ps_lock (ps_for PassesOwn.never rfl (pi_keysMT (pv 1)) (pg_name (i := 7) sc_next_cells.nd rfl (.inl rfl)) (pss_cons (ps_set (i := 8) sc_next_cells.nd rfl (.inl rfl) (pe_dget (hu_of hr) (pv 1) (pv 7) (fun _ _ => rfl)))
      (pss_one (ps_if (pw_and (pt_cmpR op_eq (pv 8) pe_int (nomark _)) (pw_and1 (pt_cmpR op_in_seq (pe_dget2 (hu_of hr) (pv 5) (pv 7) pe_int ⟨rfl, rfl, rfl, rfl⟩) (pv 3) (by rfl)))).pt (pss_one (ps_dput (hu_of hr) (pv 6) (pv 7) pe_int rfl)) (pss_one (ps_if (pt_cmpR op_lt (pe_op op_add (pv 8) pe_int) (pv 4) (nomark _)) (pss_one (ps_dput (hu_of hr) (pv 6) (pv 7) (pe_op op_add (pv 8) pe_int) rfl)) pss_nil)))))))
      (pss_one (ps_ret (pv 6))))))), fun ds d h => ?_⟩)
  · obtain ⟨b, rfl, _⟩ := h
    rfl
  · obtain ⟨b, rfl, hn, hl, rfl⟩ := h
    refine s_open (j := 1) (m := ones b) (Γ' := []) rfl fun H0 a ha0 sc => ?_
    refine mj_seq (Γ1 := [some RD, some (rawD a), some bS, some sS, some (.int 2), none, none, none, none]) (mj_S (s_asgT (ks := [2, 3, 4]) (ds := [bS, sS, .int 2]) (ed_var rfl) rfl) ex_stb) ?_
    refine mj_made2' (n := cntL (b.flatMap around)) (Γm := [some RD, some (dxD (ones b)), some bS, some sS, some (.int 2), none, none, none, none]) (view_at (k := 1) rfl fun H i => dx_of (i _ _ ha0) sc) (ed_call (ea_cons (ed_var rfl) ea_nil) ⟨b, rfl, hl, rfl⟩) fun H1 p c e1 hp hc sc2 => ?_
    have ha := e1 _ _ ha0
    have tsA : TsG (nA a c p) := tsG_of (by simp [ts_raw]; exact ⟨rfl, rfl, rfl, rfl⟩)
    refine mj_seq (mj_lockK hc hp (fun _ => nA a c p) (fun i => ones (F1 b i)) (fun _ => tsA) rfl fun i e od he => ?_) ?_
    · obtain ⟨q, v⟩ := e
      exact ⟨nB a c p q, tn_name, (nx_turn1 hn hl ha hc hp he).le (by simp [LeG])⟩
    have hL : ∀ x ∈ F1 b (cntL (b.flatMap around)).length, x ∉ b := fun x h => (F1_mem h).2
    have hL2 : (F1 b (cntL (b.flatMap around)).length).length ≤ 40000 := by
      have h1 : (F1 b (cntL (b.flatMap around)).length).length ≤ _ := List.length_filter_le ..
      have h2 := List.length_take_le (cntL (b.flatMap around)).length ((cntL (b.flatMap around)).map (·.1))
      have h3 := len_cntL (b.flatMap around)
      have h4 := flat_len b
      omega
    have lb : (ones b).length = b.length := by unfold ones; rw [List.length_map]
    have z := mj_lockK (R := fun v H' => Ex H0 H' ∧ Dd H' (dxD (ones (nxtL b))) v) (m := ones b) (j := 1) (g := gName 7) ha hp (fun _ => nA a c p) (fun i => ones (F1 b (cntL (b.flatMap around)).length ++ (b.take i).filter (f2 b))) (fun _ => tsA) rfl fun i e od he => by
      obtain ⟨q, hq, rfl⟩ : ∃ q, b[i]? = some q ∧ e = (q, .int 1) := by
        unfold ones at he
        rw [List.getElem?_map] at he
        cases z : b[i]? with
        | none => rw [z] at he; cases he
        | some q => rw [z] at he; cases he; exact ⟨q, rfl, rfl⟩
      exact ⟨nB a c p q, tn_name, (nx_turn2 (K := K) hn hl hL hL2 ha hc hp hq).le (by simp [LeG])⟩
    refine mj_seq (z.pre fun H i => ?_) ?_
    · show ExI H1 p (ones (_ ++ [])) H
      rw [List.append_nil]
      exact i
    · rw [lb, List.take_length]
      exact mj_ret view_refl exI_stb (d := rawD p) (ed_var rfl) fun v H i dv => ⟨e1.trans i.1, by rw [dd_raw.mp dv]; exact dx_of i.2.at_ i.2.sc⟩
end
end Fb
/-! Promises: a step, phases, pieces. -/
namespace Fb
open PySem PySem.Spec PyProof.Rows L2
open Evl (Ex)

def PhOk (b : Board) (k : Nat) : Prop := ∀ i, i ≤ k → (stepN i b).Nodup ∧ (stepN i b).length ≤ 3000 ∧ Fars (stepN i b)
theorem PhOk.mono {b : Board} {k j : Nat} (h : PhOk b k) (l : j ≤ k) : PhOk b j := fun i hi => h i (Nat.le_trans hi l)
def phL (b : Board) (n : Nat) : List PyData := (List.range n).map fun i => bD (stepN i b)
theorem phL_succ (b : Board) (n : Nat) : phL b (n + 1) = phL b n ++ [bD (stepN n b)] := by
  unfold phL
  rw [List.range_succ, List.map_append]
  rfl
theorem phL_len (b : Board) (n : Nat) : (phL b n).length = n := by
  unfold phL
  rw [List.length_map, List.length_range]
theorem phL_fl (b : Board) (n : Nat) : FlL (phL b n) = true := tol_mem fun d m => by
  obtain ⟨i, _, rfl⟩ := List.mem_map.mp m
  exact fl_b _
theorem phL_last (b : Board) (n : Nat) : atI (phL b (n + 1)) (-1) = some (bD (stepN n b)) := by
  rw [phL_succ]
  exact atI_last _ _
theorem phL_at {b : Board} {n i : Nat} (h : i < n) : atI (phL b n) (i : Int) = some (bD (stepN i b)) := atI_nat (by
  unfold phL
  rw [List.getElem?_map, List.getElem?_range h]
  rfl)
/-- what need_piece asks -/
structure PcOk (P : Pc) : Prop where
  p1 : 1 ≤ P.per
  p2 : P.per ≤ 240
  m1 : -1000000 < P.m.1 ∧ P.m.1 < 1000000
  m2 : -1000000 < P.m.2 ∧ P.m.2 < 1000000
  s : Srt P.b
  ne : P.b ≠ []
  len : P.b.length ≤ 300
  ph : PhOk P.b P.per
  rd : stepN P.per P.b = mv P.m P.b
theorem PcOk.rounds {P : Pc} (h : PcOk P) : Rounds P := ⟨h.p1, h.rd⟩
theorem far_small {x : Int} (h : -1000000 < x ∧ x < 1000000) : far x := by
  unfold far FAR
  omega

section
variable {P : Program} {w : World} {K : PySem.W.Frag} {mg : Str → Option Value} {base : Heap}
def R_step_in (ds : List PyData) (d : PyData) : Prop := ∃ b : Board, ds = [RD, bD b] ∧ b.Nodup ∧ b.length ≤ 3000 ∧ Fars (stepM b) ∧ d = bD (stepM b)
theorem ok_step_in (T : Tp K mg) : FnOk P w K mg base CX0 3 T.step_in.f T.step_in.fd ["rule", "board"] (spD R_step_in) := by
  refine pure_ok T.step_in.F sc_step_in (fun ds d h => ?_) (fun cdv A outer s H E hr => ⟨_, (pss_cons (ps_expr (pe_call (ok_need_small T) (hr.mono (by decide)) (by rfl) T.need_small.g T.need_small.F.kp T.b_need_small .nil pass0 (pa_cons (pv 1) pa_nil)))
      (pss_cons (ps_set (i := 2) sc_step_in.nd rfl (.inl rfl) (pe_call (ok_board_of T) (hr.mono (by decide)) (by rfl) T.board_of.g T.board_of.F.kp T.b_board_of .nil pass0 (pa_cons (pe_call (ok_next_cells T) (hr.mono (by decide)) (by rfl) T.next_cells.g T.next_cells.F.kp T.b_next_cells .nil pass0 (pa_cons (pv 0) (pa_cons (pe_call (ok_cells_of T) (hr.mono (by decide)) (by rfl) T.cells_of.g T.cells_of.F.kp T.b_cells_of .nil pass0 (pa_cons (pv 1) pa_nil)) pa_nil))) pa_nil)))
      (pss_cons (ps_if (pw_and (pt_cmpR (op_neD hr.units) (pv 2) (pe_tup pa_nil) (nomark _)) (pw_and1 (pt_val (pe_call (ok_is_beyond T) (hr.mono (by decide)) (by rfl) T.is_beyond.g T.is_beyond.F.kp T.b_is_beyond .nil pass0 (pa_cons (pv 2) pa_nil))))).pt (pss_one ps_never) pss_nil)
      (pss_one (ps_ret (pv 2)))))), fun ds d h => ?_⟩)
  · obtain ⟨b, rfl, _⟩ := h
    rfl
  · obtain ⟨b, rfl, hn, hl, hf, rfl⟩ := h
    have ln := nxt_len b
    have ls : (stepM b).length = (nxtL b).length := by rw [← sortU_nxt, ← sort_leP (nxt_nd hn), List.length_mergeSort]
    refine s_seq (s_drop (ed_call (ea_cons (ed_var rfl) ea_nil) ⟨⟨b, rfl, hl⟩, rfl⟩)) ?_
    refine s_seq (s_asg (ed_call (ea_cons (ed_call (ea_cons (ed_var rfl) (ea_cons (ed_call (ea_cons (ed_var rfl) ea_nil) ⟨b, rfl, hn, by omega, rfl⟩) ea_nil)) ⟨b, rfl, hn, hl, rfl⟩) ea_nil) ⟨nxtL b, rfl, nxt_nd hn, by omega, rfl⟩)) ?_
    rw [sortU_nxt]
    by_cases z : stepM b = []
    · rw [z]
      exact s_ifn (Et.to (et_and (b := false) (c := false) (et_T (ed_neD (ed_var rfl) (ed_tup ea_nil) (shaped_b []) rfl)) fun u => nomatch u) rfl) (s_ret (ed_var rfl))
    · have hne : (!PyData.eqv (bD (stepM b)) (.tuple [])) = true := by rw [eqv_b_nil z]; rfl
      exact s_ifn (Et.to (et_and (b := true) (c := false) (et_T (Ed.to (ed_neD (ed_var rfl) (ed_tup ea_nil) (shaped_b _) rfl) (by rw [hne]))) fun u => et_B (ed_call (ea_cons (ed_var rfl) ea_nil) ⟨stepM b, rfl, z, by omega, hf, rfl⟩)) rfl) (s_ret (ed_var rfl))

def R_phases (ds : List PyData) (d : PyData) : Prop := ∃ (b : Board) (k : Nat), ds = [RD, bD b, .int ((k + 1 : Nat) : Int)] ∧ k ≤ 6000 ∧ PhOk b k ∧ d = .list (phL b (k + 1))
theorem ok_phases_in (T : Tp K mg) : FnOk P w K mg base CX0 4 T.phases_in.f T.phases_in.fd ["rule", "board", "period"] (spD R_phases) := by
  refine pure_ok T.phases_in.F sc_phases_in (fun ds d h => ?_) (fun cdv A outer s H E hr => ⟨_, (pss_cons (ps_set (i := 3) sc_phases_in.nd rfl (.inl rfl) (pe_lst (pa_cons (pv 1) pa_nil)))
      (pss_cons (ps_for PassesOwn.never rfl (pi_range1 (by rfl) T.n_range (pa_cons (pe_op op_sub (pv 2) pe_int) pa_nil)) (pg_name (i := 4) sc_phases_in.nd rfl (.inl rfl)) (pss_one (ps_expr (pe_bm PySem.F.plainAttrs_list PySem.F.slot_list_append PySem.F.type_list_append mt_append (pv 3) (pa_cons (pe_call (ok_step_in T) (hr.mono (by decide)) (by rfl) T.step_in.g T.step_in.F.kp T.b_step_in .nil pass0 (pa_cons (pv 0) (pa_cons (pe_ix ix_list (pv 3) (pe_un un_neg pe_int) (fun _ _ => rfl)) pa_nil))) pa_nil)))))
      (pss_one (ps_ret (pv 3))))), fun ds d h => ?_⟩)
  · obtain ⟨b, k, rfl, _⟩ := h
    rfl
  · obtain ⟨b, k, rfl, hk, hp, rfl⟩ := h
    refine s_of_mj (Γ' := []) fun H0 => ?_
    refine mj_madeL (ds := phL b 1) (ea_cons (ed_var rfl) ea_nil) (phL_fl b 1) (by rw [phL_len]; decide) fun H1 p e1 hpn => ?_
    have loop := mj_forR (A := fun a => a = p) (R := fun v H' => Ex H0 H' ∧ Dd H' (.list (phL b (k + 1))) v) (t := tDrop (tBM K "list" rAppend (tVar 3) (tCons (tCall (spD R_step_in) [] E0 (tCons (tVar 0) (tCons (tOp (rIxL K) (tVar 3) (tUn (rU fun i => .int (-i)) (tC (.int 1)))) tNil))) tNil))) (ta := tCons (tOp (rI0 fun i j => .int (i - j)) (tVar 2) (tC (.int 1))) tNil) (k := 4) (n := k)
      (fun _ => [some RD, some (bD b), some (.int ((k + 1 : Nat) : Int)), some (rawD p), none]) (fun i => ExL H1 p (phL b (i + 1))) (fun _ => exL_stb) (ea_cons (Ed.to (ed_opI (g := fun i j => i - j) (ed_var rfl) ed_int) (by congr 1; omega)) ea_nil) (by omega) fun i hi => ?_
    · exact mj_seq loop (mj_ret (view_at (k := 3) (d := .list (phL b (k + 1))) rfl fun H i => i.2.dd) exL_stb (ed_var rfl) fun v H i dv => ⟨e1.trans i.1, dv⟩)
    · have st := hp i (by omega)
      have st1 := hp (i + 1) (by omega)
      have ap := mj_append (A := fun a => a = p) (R := fun v H' => Ex H0 H' ∧ Dd H' (.list (phL b (k + 1))) v) (K := K) (k := 3) (p := p) (I := ExL H1 p (phL b (i + 1))) (I' := ExL H1 p (phL b (i + 1 + 1))) (Γ := [some RD, some (bD b), some (.int ((k + 1 : Nat) : Int)), some (rawD p), some (.int (i : Int))]) (ds := phL b (i + 1)) (d := bD (stepN (i + 1) b)) (te := tCall (spD R_step_in) [] E0 (tCons (tVar 0) (tCons (tOp (rIxL K) (tVar 3) (tUn (rU fun i => .int (-i)) (tC (.int 1)))) tNil)))
        (view_at (k := 3) (d := .list (phL b (i + 1))) rfl fun H i => i.2.dd) exL_stb (tsG_of (by simp [ts_raw]; exact ⟨rfl, ts_fl (fl_b b), rfl, rfl⟩)) rfl (fun H i => i.2) rfl
        (ed_call (ea_cons (ed_var rfl) (ea_cons (ed_ixL (ds := phL b (i + 1)) (ed_var rfl) (ed_neg ed_int) (phL_last b i)) ea_nil)) ⟨stepN i b, rfl, st.1, st.2.1, st1.2.2, rfl⟩) (fl_b _) (by rw [phL_len]; omega) fun H ys i o => exL_put hpn i (by rw [phL_succ]; exact o)
      exact ap.le (by simp [LeG])

def R_shape (ds : List PyData) (d : PyData) : Prop := ∃ P : Pc, ds = [pcD P] ∧ PcOk P ∧ d = .bool true
theorem ok_is_piece_shape (T : Tp K mg) : FnOk P w K mg base CX0 5 T.is_piece_shape.f T.is_piece_shape.fd ["piece"] (spD R_shape) := by
  refine pure_ok T.is_piece_shape.F sc_is_piece_shape (fun ds d h => ?_) (fun cdv A outer s H E hr => ⟨_, (pss_cons (ps_if (pw_or (pt_not (pt_val (pe_callB call_isi (by rfl) T.n_isinstance (by decide +kernel) (pa_cons (pv 0) (pa_cons (pe_bltn (v := .ty "tuple") (by rfl) T.n_tuple (by decide +kernel) rfl) pa_nil))))) (pw_or (pt_cmpR op_ne (pe_callB call_len_seq (by rfl) T.n_len PySem.boot_len (pa_cons (pv 0) pa_nil)) pe_int (nomark _)) (pw_or1 (pt_not (pt_val (pe_call (ok_is_in T) (hr.mono (by decide)) (by rfl) T.is_in.g T.is_in.F.kp T.b_is_in .nil pass0 (pa_cons (pe_ix ix_tup (pv 0) pe_int (fun _ _ => rfl)) (pa_cons pe_int (pa_cons (pe_glob (v := .int (240)) (by rfl) T.MOST_PERIOD ⟨_, rfl⟩) pa_nil))))))))).pt (pss_one (ps_ret pe_bl)) pss_nil)
      (pss_cons (ps_if (pw_or (pt_not (pt_val (pe_call (ok_is_move T) (hr.mono (by decide)) (by rfl) T.is_move.g T.is_move.F.kp T.b_is_move .nil pass0 (pa_cons (pe_ix ix_tup (pv 0) pe_int (fun _ _ => rfl)) pa_nil)))) (pw_or (pt_not (pt_val (pe_callB call_isi (by rfl) T.n_isinstance (by decide +kernel) (pa_cons (pe_ix ix_tup (pv 0) pe_int (fun _ _ => rfl)) (pa_cons (pe_bltn (v := .ty "tuple") (by rfl) T.n_tuple (by decide +kernel) rfl) pa_nil))))) (pw_or1 (pt_not (pt_chain op_le op_le pe_int (pe_callB call_len_seq (by rfl) T.n_len PySem.boot_len (pa_cons (pe_ix ix_tup (pv 0) pe_int (fun _ _ => rfl)) pa_nil)) (pe_glob (v := .int (300)) (by rfl) T.MOST_SIZE ⟨_, rfl⟩)))))).pt (pss_one (ps_ret pe_bl)) pss_nil)
      (pss_cons (ps_try_thru0 (pss_one (ps_expr (pe_call (ok_need_board T) (hr.mono (by decide)) (by rfl) T.need_board.g T.need_board.F.kp T.b_need_board .nil pass0 (pa_cons (pe_ix ix_tup (pv 0) pe_int (fun _ _ => rfl)) pa_nil)))))
      (pss_one (ps_ret pe_bl))))), fun ds d h => ?_⟩)
  · obtain ⟨b, rfl, _⟩ := h
    rfl
  · obtain ⟨P, rfl, hP, rfl⟩ := h
    have g1 := hP.p1
    have g2 := hP.p2
    have e1 : (decide ((1 : Int) ≤ (P.per : Int)) && decide ((P.per : Int) ≤ 240)) = true := by
      rw [decide_eq_true (by omega), decide_eq_true (by omega)]; rfl
    have l1 := List.length_pos_iff.mpr hP.ne
    have l2 := hP.len
    have e2 : (decide ((1 : Int) ≤ ((P.b.map cD).length : Int)) && decide (((P.b.map cD).length : Int) ≤ 300)) = true := by
      rw [List.length_map, decide_eq_true (by omega), decide_eq_true (by omega)]; rfl
    refine s_ifr (b := false) (Et.to (et_or (et_not (et_B (ed_it (b := true) (ed_var rfl)))) fun _ => et_or (b := false) (et_T (ed_neI (i := 3) (j := 3) (ed_lenT (ds := [bD P.b, .int P.per, pD P.m]) (ed_var rfl)) ed_int)) fun _ => et_not (b := true) (et_B (Ed.to (ed_call (ea_cons (ed_ixT (ed_var rfl) ed_int rfl) (ea_cons ed_int (ea_cons ed_int ea_nil))) ⟨(P.per : Int), 1, 240, rfl, rfl⟩) (by rw [e1])))) rfl) (fun h => nomatch h) fun _ => ?_
    refine s_ifr (b := false) (Et.to (et_or (et_not (b := true) (et_B (ed_call (ea_cons (ed_ixT (ed_var rfl) ed_int rfl) ea_nil) ⟨P.m, rfl, far_small hP.m1, far_small hP.m2, rfl⟩))) fun _ => et_or (et_not (b := true) (et_B (ed_it (b := true) (ds := P.b.map cD) (ed_ixT (ed_var rfl) ed_int rfl)))) fun _ => et_not (b := true) (et_T (Ed.to (ed_chain (g := fun i j => decide (i ≤ j)) (h := fun i j => decide (i ≤ j)) ed_int (ed_lenT (ds := P.b.map cD) (ed_ixT (ed_var rfl) ed_int rfl)) ed_int) (by rw [e2])))) rfl) (fun h => nomatch h) fun _ => ?_
    exact s_seq (s_drop (ed_call (ea_cons (ed_ixT (ed_var rfl) ed_int rfl) ea_nil) ⟨⟨P.b, rfl, hP.s, (hP.ph 0 (Nat.zero_le _)).2.2⟩, rfl⟩)) (s_ret ed_bl)

def R_is_piece (ds : List PyData) (d : PyData) : Prop := ∃ P : Pc, ds = [RD, pcD P] ∧ PcOk P ∧ d = .bool true
theorem ok_is_piece (T : Tp K mg) : FnOk P w K mg base CX0 6 T.is_piece.f T.is_piece.fd ["rule", "piece"] (spD R_is_piece) := by
  refine pure_ok T.is_piece.F sc_is_piece (fun ds d h => ?_) (fun cdv A outer s H E hr => ⟨_, (pss_cons (ps_if (pw_or (pt_not (pt_val (pe_call (ok_is_piece_shape T) (hr.mono (by decide)) (by rfl) T.is_piece_shape.g T.is_piece_shape.F.kp T.b_is_piece_shape .nil pass0 (pa_cons (pv 1) pa_nil)))) (pw_or1 (pt_not (pt_val (pe_call (ok_need_states T) (hr.mono (by decide)) (by rfl) T.need_states.g T.need_states.F.kp T.b_need_states .nil pass0 (pa_cons (pv 0) (pa_cons (pe_ix ix_tup (pv 1) pe_int (fun _ _ => rfl)) pa_nil))))))).pt (pss_one (ps_ret pe_bl)) pss_nil)
      (pss_cons (ps_set (i := 2) sc_is_piece.nd rfl (.inl rfl) (pe_ix ix_list (pe_call (ok_phases_in T) (hr.mono (by decide)) (by rfl) T.phases_in.g T.phases_in.F.kp T.b_phases_in .nil pass0 (pa_cons (pv 0) (pa_cons (pe_ix ix_tup (pv 1) pe_int (fun _ _ => rfl)) (pa_cons (pe_op op_add (pe_ix ix_tup (pv 1) pe_int (fun _ _ => rfl)) pe_int) pa_nil)))) (pe_un un_neg pe_int) (fun _ _ => rfl)))
      (pss_one (ps_ret (pe_cmpR (op_eqD hr.units) (pv 2) (pe_call (ok_shifted_in T) (hr.mono (by decide)) (by rfl) T.shifted_in.g T.shifted_in.F.kp T.b_shifted_in .nil pass0 (pa_cons (pe_ix ix_tup (pv 1) pe_int (fun _ _ => rfl)) (pa_cons (pe_ix ix_tup (pv 1) pe_int (fun _ _ => rfl)) pa_nil))) (nomark _)))))), fun ds d h => ?_⟩)
  · obtain ⟨b, rfl, _⟩ := h
    rfl
  · obtain ⟨P, rfl, hP, rfl⟩ := h
    have g1 := hP.p1
    have g2 := hP.p2
    have l2 := hP.len
    refine s_ifr (b := false) (Et.to (et_or (et_not (b := true) (et_B (ed_call (ea_cons (ed_var rfl) ea_nil) ⟨P, rfl, hP, rfl⟩))) fun _ => et_not (b := true) (et_B (ed_call (ea_cons (ed_var rfl) (ea_cons (ed_ixT (ed_var rfl) ed_int rfl) ea_nil)) ⟨P.b, rfl, by omega, rfl⟩))) rfl) (fun h => nomatch h) fun _ => ?_
    refine s_seq (s_asg (ed_ixL (ds := phL P.b (P.per + 1)) (ed_call (ea_cons (ed_var rfl) (ea_cons (ed_ixT (ed_var rfl) ed_int rfl) (ea_cons (ed_opI (i := P.per) (j := 1) (g := fun i j => i + j) (ed_ixT (ed_var rfl) ed_int rfl) ed_int) ea_nil))) ⟨P.b, P.per, rfl, by omega, hP.ph, rfl⟩) (ed_neg ed_int) (phL_last P.b P.per))) ?_
    refine s_ret (Ed.to (ed_eqD (ed_var rfl) (ed_call (ea_cons (ed_ixT (ed_var rfl) ed_int rfl) (ea_cons (ed_ixT (ed_var rfl) ed_int rfl) ea_nil)) ⟨P.b, P.m, rfl, by omega, rfl⟩) (shaped_b _) (shaped_b _)) ?_)
    rw [hP.rd, eqv_b]

theorem ok_need_piece (T : Tp K mg) : FnOk P w K mg base CX0 7 T.need_piece.f T.need_piece.fd ["rule", "piece"] (spD fun ds d => (∃ P : Pc, ds = [RD, pcD P] ∧ PcOk P) ∧ d = .none) := by
  refine pure_none (rel := fun ds => ∃ P : Pc, ds = [RD, pcD P] ∧ PcOk P) T.need_piece.F sc_need_piece (fun ds h => ?_) (fun cdv A outer s H E hr => ⟨_, (pss_one (ps_if (pt_not (pt_val (pe_call (ok_is_piece T) (hr.mono (by decide)) (by rfl) T.is_piece.g T.is_piece.F.kp T.b_is_piece .nil pass0 (pa_cons (pv 0) (pa_cons (pv 1) pa_nil))))) (pss_one ps_never) pss_nil)), fun ds h => ?_⟩)
  · obtain ⟨P, rfl, _⟩ := h
    rfl
  · obtain ⟨P, rfl, hP⟩ := h
    exact ⟨_, s_ifn1 (Et.to (et_not (et_B (ed_call (ea_cons (ed_var rfl) (ea_cons (ed_var rfl) ea_nil)) ⟨P, rfl, hP, rfl⟩))) rfl)⟩

def R_place_in (ds : List PyData) (d : PyData) : Prop := ∃ (P : Pc) (g : Nat), ds = [RD, pcD P, .int (g : Int)] ∧ PcOk P ∧ d = bD (pos P g)
theorem ok_place_in (T : Tp K mg) : FnOk P w K mg base CX0 5 T.place_in.f T.place_in.fd ["rule", "piece", "generation"] (spD R_place_in) := by
  refine pure_ok T.place_in.F sc_place_in (fun ds d h => ?_) (fun cdv A outer s H E hr => ⟨_, (pss_cons (ps_set (i := 3) sc_place_in.nd rfl (.inl rfl) (pe_ix ix_list (pe_call (ok_phases_in T) (hr.mono (by decide)) (by rfl) T.phases_in.g T.phases_in.F.kp T.b_phases_in .nil pass0 (pa_cons (pv 0) (pa_cons (pe_ix ix_tup (pv 1) pe_int (fun _ _ => rfl)) (pa_cons (pe_op op_add (pe_op op_mod (pv 2) (pe_ix ix_tup (pv 1) pe_int (fun _ _ => rfl))) pe_int) pa_nil)))) (pe_un un_neg pe_int) (fun _ _ => rfl)))
      (pss_one (ps_ret (pe_call (ok_shifted_in T) (hr.mono (by decide)) (by rfl) T.shifted_in.g T.shifted_in.F.kp T.b_shifted_in .nil pass0 (pa_cons (pv 3) (pa_cons (pe_call (ok_moved_by T) (hr.mono (by decide)) (by rfl) T.moved_by.g T.moved_by.F.kp T.b_moved_by .nil pass0 (pa_cons (pe_ix ix_tup (pv 1) pe_int (fun _ _ => rfl)) (pa_cons (pe_op op_fdiv (pv 2) (pe_ix ix_tup (pv 1) pe_int (fun _ _ => rfl))) pa_nil))) pa_nil)))))), fun ds d h => ?_⟩)
  · obtain ⟨P, g, rfl, _⟩ := h
    rfl
  · obtain ⟨P, g, rfl, hP, rfl⟩ := h
    have g1 := hP.p1
    have g2 := hP.p2
    have lt : g % P.per < P.per := Nat.mod_lt _ g1
    have ph := hP.ph.mono (Nat.le_of_lt lt)
    refine s_seq (s_asg (ed_ixL (ds := phL P.b (g % P.per + 1)) (ed_call (ea_cons (ed_var rfl) (ea_cons (ed_ixT (ed_var rfl) ed_int rfl) (ea_cons (ed_opI (i := ((g % P.per : Nat) : Int)) (j := 1) (g := fun i j => i + j) (ed_opC (g := fun i j => i % j) (i := (g : Int)) (j := (P.per : Int)) (ed_var rfl) (ed_ixT (ed_var rfl) ed_int rfl) (by omega)) ed_int) ea_nil))) ⟨P.b, g % P.per, rfl, by omega, ph, rfl⟩) (ed_neg ed_int) (phL_last P.b _))) ?_
    have l3 := (ph _ (Nat.le_refl _)).2.1
    exact s_ret (ed_call (ea_cons (ed_var rfl) (ea_cons (ed_call (ea_cons (ed_ixT (ed_var rfl) ed_int rfl) (ea_cons (ed_opC (g := fun i j => i / j) (i := (g : Int)) (j := (P.per : Int)) (ed_var rfl) (ed_ixT (ed_var rfl) ed_int rfl) ⟨by omega, by omega⟩) ea_nil)) ⟨P.m, g / P.per, rfl, hP.m1.1, hP.m1.2, hP.m2.1, hP.m2.2, rfl⟩) ea_nil)) ⟨stepN (g % P.per) P.b, sc (g / P.per) P.m, rfl, by omega, rfl⟩)

def R_piece_at (ds : List PyData) (d : PyData) : Prop := ∃ (P : Pc) (g : Nat), ds = [RD, pcD P, .int (g : Int)] ∧ PcOk P ∧ (g : Int) ≤ FAR ∧ d = bD (pos P g)
theorem ok_piece_at (T : Tp K mg) : FnOk P w K mg base CX0 8 T.piece_at.f T.piece_at.fd ["rule", "piece", "generation"] (spD R_piece_at) := by
  refine pure_ok T.piece_at.F sc_piece_at (fun ds d h => ?_) (fun cdv A outer s H E hr => ⟨_, (pss_cons (ps_expr (pe_call (ok_need_rule T) (hr.mono (by decide)) (by rfl) T.need_rule.g T.need_rule.F.kp T.b_need_rule .nil pass0 (pa_cons (pv 0) pa_nil)))
      (pss_cons (ps_expr (pe_call (ok_need_piece T) (hr.mono (by decide)) (by rfl) T.need_piece.g T.need_piece.F.kp T.b_need_piece .nil pass0 (pa_cons (pv 0) (pa_cons (pv 1) pa_nil))))
      (pss_cons (ps_if (pt_not (pt_val (pe_call (ok_is_in T) (hr.mono (by decide)) (by rfl) T.is_in.g T.is_in.F.kp T.b_is_in .nil pass0 (pa_cons (pv 2) (pa_cons pe_int (pa_cons (pe_glob (v := .int (10 ^ 60)) (by rfl) T.FAR ⟨_, rfl⟩) pa_nil)))))) (pss_one ps_never) pss_nil)
      (pss_one (ps_ret (pe_call (ok_place_in T) (hr.mono (by decide)) (by rfl) T.place_in.g T.place_in.F.kp T.b_place_in .nil pass0 (pa_cons (pv 0) (pa_cons (pv 1) (pa_cons (pv 2) pa_nil))))))))), fun ds d h => ?_⟩)
  · obtain ⟨P, g, rfl, _⟩ := h
    rfl
  · obtain ⟨P, g, rfl, hP, hg, rfl⟩ := h
    have e1 : (decide ((0 : Int) ≤ (g : Int)) && decide ((g : Int) ≤ 10 ^ 60)) = true := by
      rw [decide_eq_true (by omega), decide_eq_true (show (g : Int) ≤ 10 ^ 60 from hg)]; rfl
    refine s_seq (s_drop (ed_call (ea_cons (ed_var rfl) ea_nil) ⟨rfl, rfl⟩)) ?_
    refine s_seq (s_drop (ed_call (ea_cons (ed_var rfl) (ea_cons (ed_var rfl) ea_nil)) ⟨⟨P, rfl, hP⟩, rfl⟩)) ?_
    refine s_ifn (Et.to (et_not (b := true) (et_B (Ed.to (ed_call (ea_cons (ed_var rfl) (ea_cons ed_int (ea_cons ed_int ea_nil))) ⟨(g : Int), 0, 10 ^ 60, rfl, rfl⟩) (by rw [e1])))) rfl) ?_
    exact s_ret (ed_call (ea_cons (ed_var rfl) (ea_cons (ed_var rfl) (ea_cons (ed_var rfl) ea_nil))) ⟨P, g, rfl, hP, rfl⟩)
end
end Fb
/-! Promises: first_near. -/
namespace Fb
open PySem PySem.Spec PyProof.Rows L2
open Evl (Ex)

theorem first_ex (N : Nat → Prop) : ∃ r, IsFirst N r := by
  by_cases h : ∃ n, N n
  · obtain ⟨n, hn⟩ := h
    have key : ∀ m, (∃ j, j ≤ m ∧ N j) → ∃ j, N j ∧ ∀ k, N k → j ≤ k := by
      intro m
      induction m with
      | zero =>
        rintro ⟨j, hj, nj⟩
        exact ⟨j, nj, fun k _ => by omega⟩
      | succ m ih =>
        intro hm
        by_cases z : ∃ j, j ≤ m ∧ N j
        · exact ih z
        · obtain ⟨j, hj, nj⟩ := hm
          refine ⟨j, nj, fun k nk => ?_⟩
          rcases Nat.lt_or_ge k j with l | l
          · exact absurd ⟨k, by omega, nk⟩ z
          · exact l
    obtain ⟨j, nj, lj⟩ := key n ⟨n, Nat.le_refl _, hn⟩
    exact ⟨some j, j, rfl, nj, lj⟩
  · exact ⟨none, fun k nk => h ⟨k, nk⟩⟩
noncomputable def fstN (N : Nat → Prop) : Option Int := Classical.choose (first_ex N)
theorem fstN_is (N : Nat → Prop) : IsFirst N (fstN N) := Classical.choose_spec (first_ex N)
theorem fstN_eq {N : Nat → Prop} {r : Option Int} (h : IsFirst N r) : fstN N = r := (fstN_is N).uniq h
theorem fstN_congr {N M : Nat → Prop} (h : ∀ k, N k ↔ M k) : fstN N = fstN M := fstN_eq ((fstN_is M).iff fun k => (h k).symm)

/-! ### the greatest common divisor -/
theorem euclid : ∀ (b a : Nat), ∃ (n : Nat) (f : Nat → Nat × Nat), f 0 = (a, b) ∧ (∀ i, i < n → 0 < (f i).2 ∧ f (i + 1) = ((f i).2, (f i).1 % (f i).2)) ∧ (f n).2 = 0 ∧ (f n).1 = Nat.gcd a b := by
  intro b
  induction b using Nat.strongRecOn with
  | _ b ih =>
    intro a
    by_cases h : b = 0
    · subst h
      exact ⟨0, fun _ => (a, 0), rfl, fun i hi => absurd hi (Nat.not_lt_zero i), rfl, (Nat.gcd_zero_right a).symm⟩
    · obtain ⟨n, f, f0, fs, fn, fg⟩ := ih (a % b) (Nat.mod_lt a (Nat.pos_of_ne_zero h)) b
      refine ⟨n + 1, fun i => match i with | 0 => (a, b) | i + 1 => f i, rfl, fun i hi => ?_, fn, ?_⟩
      · match i with
        | 0 => exact ⟨Nat.pos_of_ne_zero h, f0⟩
        | i + 1 => exact fs i (by omega)
      · show (f n).1 = _
        rw [fg, Nat.gcd_comm a b, Nat.gcd_rec b a]
        exact Nat.gcd_comm b (a % b)

section
variable {P : Program} {w : World} {K : PySem.W.Frag} {mg : Str → Option Value} {base : Heap}
def R_common (ds : List PyData) (d : PyData) : Prop := ∃ a b : Nat, ds = [.int (a : Int), .int (b : Int)] ∧ d = .int ((Nat.gcd a b : Nat) : Int)
theorem ok_common (T : Tp K mg) : FnOk P w K mg base CX0 1 T.common.f T.common.fd ["one", "two"] (spD R_common) := by
  refine pure_ok T.common.F sc_common (fun ds d h => ?_) (fun cdv A outer s H E hr => ⟨_, (pss_cons (ps_par (i := 0) (j := 1) (by rfl) sc_common.nd rfl rfl (by decide) rfl rfl (pa_cons (pe_callB call_abs (by rfl) T.n_abs (by decide +kernel) (pa_cons (pv 0) pa_nil)) (pa_cons (pe_callB call_abs (by rfl) T.n_abs (by decide +kernel) (pa_cons (pv 1) pa_nil)) pa_nil)) (by rfl))
      (pss_cons (ps_while PassesOwn.never (pt_cmpR op_gt (pv 1) pe_int (nomark _)) (pss_one (ps_par (i := 0) (j := 1) (by rfl) sc_common.nd rfl rfl (by decide) rfl rfl (pa_cons (pv 1) (pa_cons (pe_op op_mod (pv 0) (pv 1)) pa_nil)) (by rfl))))
      (pss_one (ps_ret (pv 0))))), fun ds d h => ?_⟩)
  · obtain ⟨a, b, rfl, _⟩ := h
    rfl
  · obtain ⟨a, b, rfl, rfl⟩ := h
    obtain ⟨n, f, f0, fs, fn, fg⟩ := euclid b a
    have ab : ∀ x : Nat, (if (x : Int) < 0 then -(x : Int) else (x : Int)) = (x : Int) := fun x => if_neg (by omega)
    refine s_seq (Γ' := [some (.int (a : Int)), some (.int (b : Int))]) (s_par (Ed.to (ed_abs (i := (a : Int)) (ed_var rfl)) (by rw [ab])) (Ed.to (ed_abs (i := (b : Int)) (ed_var rfl)) (by rw [ab]))) ?_
    have lp := s_while (tbd := tPar 0 1 (tCons (tVar 1) (tCons (tOp (rI (fun _ j => 0 < j) fun i j => .int (i % j)) (tVar 0) (tVar 1)) tNil))) (c := tTest (tOp (rI0 fun i j => .bl (decide (i > j))) (tVar 1) (tC (.int 0)))) (fun i => [some (.int ((f i).1 : Int)), some (.int ((f i).2 : Int))]) (fun i => decide (((f i).2 : Int) > 0)) n (fun i hi => et_T (ed_opB (g := fun i j => decide (i > j)) (ed_var rfl) ed_int)) (fun i hi => decide_eq_true (by have := (fs i hi).1; omega)) (decide_eq_false (by rw [fn]; omega)) fun i hi => by
      obtain ⟨h1, h2⟩ := fs i hi
      rw [h2]
      exact s_par (ed_var rfl) (ed_opC (g := fun i j => i % j) (i := ((f i).1 : Int)) (j := ((f i).2 : Int)) (ed_var rfl) (ed_var rfl) (by omega))
    simp only [f0] at lp
    refine s_seq lp ?_
    rw [← fg]
    exact s_ret (ed_var rfl)

def R_least (ds : List PyData) (d : PyData) : Prop := ∃ a b : Nat, ds = [.int (a : Int), .int (b : Int)] ∧ 0 < a ∧ a ≤ 240 ∧ b ≤ 240 ∧ d = .int ((Nat.lcm a b : Nat) : Int)
theorem ok_least_common (T : Tp K mg) : FnOk P w K mg base CX0 2 T.least_common.f T.least_common.fd ["one", "two"] (spD R_least) := by
  refine pure_ok T.least_common.F sc_least_common (fun ds d h => ?_) (fun cdv A outer s H E hr => ⟨_, (pss_one (ps_ret (pe_op op_fdiv (pe_op op_mul (pv 0) (pv 1)) (pe_call (ok_common T) (hr.mono (by decide)) (by rfl) T.common.g T.common.F.kp T.b_common .nil pass0 (pa_cons (pv 0) (pa_cons (pv 1) pa_nil)))))), fun ds d h => ?_⟩)
  · obtain ⟨a, b, rfl, _⟩ := h
    rfl
  · obtain ⟨a, b, rfl, ha, ha2, hb2, rfl⟩ := h
    have g0 : 0 < Nat.gcd a b := Nat.gcd_pos_of_pos_left b ha
    have g1 : Nat.gcd a b ≤ a := Nat.le_of_dvd ha (Nat.gcd_dvd_left a b)
    have e : ((Nat.lcm a b : Nat) : Int) = ((a : Int) * (b : Int)) / ((Nat.gcd a b : Nat) : Int) := by
      unfold Nat.lcm
      rw [Int.natCast_ediv, Int.natCast_mul]
    rw [e]
    exact s_ret (ed_opC (g := fun i j => i / j) (ed_opC (g := fun i j => i * j) (ed_var rfl) (ed_var rfl) (.inl ⟨by omega, by omega⟩)) (ed_call (ea_cons (ed_var rfl) (ea_cons (ed_var rfl) ea_nil)) ⟨a, b, rfl, rfl⟩) ⟨by omega, by omega⟩)

/-! ### first_near_in -/
def WinM (M : P2) (a c : P2) (k : Nat) : Prop := Win (a.1 - c.1) M.1 k ∧ Win (a.2 - c.2) M.2 k
def firstM (M : P2) (a c : P2) : Option Int := firstOf (times (a.1 - c.1) M.1) (times (a.2 - c.2) M.2)
theorem firstM_is (M a c : P2) : IsFirst (WinM M a c) (firstM M a c) := first_of (tells_times _ _) (tells_times _ _)
abbrev fG (P Q : Pc) (T : Nat) (o t M : P2) (r : Option Int) (l : List (Option PyData)) : Gm := some RD :: some (pcD P) :: some (pcD Q) :: some (.int (T : Int)) :: some (.list (phL P.b P.per)) :: some (.list (phL Q.b Q.per)) :: some (pD o) :: some (pD t) :: some (pD M) :: some (oD r) :: l
theorem fn_turn {P Q : Pc} {T rest : Nat} {o t M a c : P2} {r : Option Int} {A C : PyData} (hT : T ≤ 6000) (hM1 : -1000000 < M.1 ∧ M.1 < 1000000) (hM2 : -1000000 < M.2 ∧ M.2 < 1000000) :
    S (tSeq (tAsg (tCall (spD R_first_in) [] E0 (tCons (tTup (tCons (tOp (rI0 fun i j => .int (i - j)) (tVar 13) (tVar 16)) (tCons (tOp (rI0 fun i j => .int (i - j)) (tVar 14) (tVar 17)) tNil))) (tCons (tVar 8) tNil))) (gName 19))
      (tIfS (tAnd (tB (tNotN (tVar 19))) (tOr (tB (tIsN (tVar 9))) (tTest (tOp (rI0 fun i j => .bl (decide (i < j))) (tOp (rI0 fun i j => .int (i + j)) (tVar 10) (tOp (rI CMul fun i j => .int (i * j)) (tVar 19) (tVar 3))) (tVar 9)))))
        (tAsg (tOp (rI0 fun i j => .int (i + j)) (tVar 10) (tOp (rI CMul fun i j => .int (i * j)) (tVar 19) (tVar 3))) (gName 9)) tNext))
      (fG P Q T o t M r [some (.int (rest : Int)), some A, some C, some (.int a.1), some (.int a.2), some (.int 1), some (.int c.1), some (.int c.2), some (.int 1), none])
      (.inl (fG P Q T o t M (better rest T r (firstM M a c)) [some (.int (rest : Int)), some A, some C, some (.int a.1), some (.int a.2), some (.int 1), some (.int c.1), some (.int c.2), some (.int 1), some (oD (firstM M a c))])) := by
  refine s_seq (s_asg (ed_call (ea_cons (ed_tup (ea_cons (ed_opI (g := fun i j => i - j) (ed_var rfl) (ed_var rfl)) (ea_cons (ed_opI (g := fun i j => i - j) (ed_var rfl) (ed_var rfl)) ea_nil))) (ea_cons (ed_var rfl) ea_nil)) ⟨(a.1 - c.1, a.2 - c.2), M, rfl, hM1.1, hM1.2, hM2.1, hM2.2, rfl⟩)) ?_
  show S _ (fG P Q T o t M r [some (.int (rest : Int)), some A, some C, some (.int a.1), some (.int a.2), some (.int 1), some (.int c.1), some (.int c.2), some (.int 1), some (oD (firstM M a c))]) _
  generalize firstM M a c = w
  cases w with
  | none => exact s_if (b := false) (Et.to (et_and (b := false) (c := false) (et_B (ed_notN (d := .none) (ed_var rfl))) fun z => nomatch z) rfl) (fun z => nomatch z) fun _ => s_next
  | some k =>
    have hk : Ed (tOp (rI0 fun i j => .int (i + j)) (tVar 10) (tOp (rI CMul fun i j => .int (i * j)) (tVar 19) (tVar 3))) (fG P Q T o t M r [some (.int (rest : Int)), some A, some C, some (.int a.1), some (.int a.2), some (.int 1), some (.int c.1), some (.int c.2), some (.int 1), some (oD (some k))]) (.int ((rest : Int) + k * T)) :=
      ed_opI (g := fun i j => i + j) (ed_var rfl) (ed_opC (g := fun i j => i * j) (ed_var rfl) (ed_var rfl) (.inr ⟨by omega, by omega⟩))
    cases r with
    | none => exact s_if (b := true) (Et.to (et_and (b := true) (c := true) (et_B (ed_notN (d := .int k) (ed_var rfl))) fun _ => et_or (b := true) (c := false) (et_B (ed_isN (d := .none) (ed_var rfl))) fun z => nomatch z) rfl) (fun _ => s_asg hk) fun z => nomatch z
    | some f =>
      refine s_if (Et.to (et_and (b := true) (et_B (ed_notN (d := .int k) (ed_var rfl))) fun _ => et_or (b := false) (et_B (ed_isN (d := .int f) (ed_var rfl))) fun _ => et_T (ed_opB (g := fun i j => decide (i < j)) hk (ed_var rfl))) rfl) (fun u => ?_) fun u => ?_
      · have u2 : (rest : Int) + k * T < f := by simpa using u
        show S _ _ (.inl (fG P Q T o t M (if (rest : Int) + k * T < f then some ((rest : Int) + k * T) else some f) _))
        rw [if_pos u2]
        exact s_asg hk
      · have u2 : ¬ (rest : Int) + k * T < f := by simpa using u
        show S _ _ (.inl (fG P Q T o t M (if (rest : Int) + k * T < f then some ((rest : Int) + k * T) else some f) _))
        rw [if_neg u2]
        exact s_next
theorem take_mem_succ {α : Type} {l : List α} {i : Nat} {a : α} (h : l[i]? = some a) {C : α → Prop} : (∃ x ∈ l.take (i + 1), C x) ↔ (∃ x ∈ l.take i, C x) ∨ C a := by
  rw [List.take_add_one, h]
  constructor
  · rintro ⟨x, m, c⟩
    rcases List.mem_append.mp m with m | m
    · exact .inl ⟨x, m, c⟩
    · have e : x = a := by simpa using m
      rw [← e]
      exact .inr c
  · rintro (⟨x, m, c⟩ | c)
    · exact ⟨x, List.mem_append_left _ m, c⟩
    · exact ⟨a, List.mem_append_right _ (by simp), c⟩
/-- near at g, of the generations that are looked at so far -/
def E1 (P Q : Pc) (T rest : Nat) (g : Nat) : Prop := NearAt P Q g ∧ g % T < rest
def E2 (P Q : Pc) (T rest : Nat) (M : P2) (A C : Board) (g : Nat) : Prop := E1 P Q T rest g ∨ ∃ a ∈ A, ∃ k, g = rest + k * T ∧ ∃ c ∈ C, WinM M a c k
def E3 (P Q : Pc) (T rest : Nat) (M : P2) (A C : Board) (a : P2) (C' : Board) (g : Nat) : Prop := E2 P Q T rest M A C g ∨ ∃ c ∈ C', ∃ k, g = rest + k * T ∧ WinM M a c k
theorem near_turn {P Q : Pc} {T rest k : Nat} (hP : 0 < P.per) (hQ : 0 < Q.per) (dP : P.per ∣ T) (dQ : Q.per ∣ T) :
    NearAt P Q (rest + k * T) ↔ ∃ a ∈ pos P rest, ∃ c ∈ pos Q rest, WinM ((sc (T / P.per) P.m).1 - (sc (T / Q.per) Q.m).1, (sc (T / P.per) P.m).2 - (sc (T / Q.per) Q.m).2) a c k := by
  unfold NearAt
  rw [pos_turns hP dP, pos_turns hQ dQ]
  have key : ∀ a c : P2, Nr (plus a (sc (k * (T / P.per)) P.m)) (plus c (sc (k * (T / Q.per)) Q.m)) ↔ WinM ((sc (T / P.per) P.m).1 - (sc (T / Q.per) Q.m).1, (sc (T / P.per) P.m).2 - (sc (T / Q.per) Q.m).2) a c k := by
    intro a c
    unfold WinM Win Nr plus sc
    simp only
    rw [Int.natCast_mul, Int.natCast_mul, Int.mul_sub, Int.mul_sub, ← Int.mul_assoc, ← Int.mul_assoc, ← Int.mul_assoc, ← Int.mul_assoc]
    generalize (k : Int) * ((T / P.per : Nat) : Int) * P.m.1 = x1
    generalize (k : Int) * ((T / P.per : Nat) : Int) * P.m.2 = x2
    generalize (k : Int) * ((T / Q.per : Nat) : Int) * Q.m.1 = y1
    generalize (k : Int) * ((T / Q.per : Nat) : Int) * Q.m.2 = y2
    unfold In2
    omega
  constructor
  · rintro ⟨a, ha, c, hc, n⟩
    obtain ⟨a', ha', rfl⟩ := List.mem_map.mp ha
    obtain ⟨c', hc', rfl⟩ := List.mem_map.mp hc
    exact ⟨a', ha', c', hc', (key a' c').mp n⟩
  · rintro ⟨a, ha, c, hc, n⟩
    exact ⟨_, List.mem_map.mpr ⟨a, ha, rfl⟩, _, List.mem_map.mpr ⟨c, hc, rfl⟩, (key a c).mpr n⟩
def R_first_near_in (ds : List PyData) (d : PyData) : Prop := ∃ P Q : Pc, ds = [RD, pcD P, pcD Q] ∧ PcOk P ∧ PcOk Q ∧ Nat.lcm P.per Q.per ≤ 6000 ∧
  (∀ M : P2, M = ((sc (Nat.lcm P.per Q.per / P.per) P.m).1 - (sc (Nat.lcm P.per Q.per / Q.per) Q.m).1, (sc (Nat.lcm P.per Q.per / P.per) P.m).2 - (sc (Nat.lcm P.per Q.per / Q.per) Q.m).2) → (-1000000 < M.1 ∧ M.1 < 1000000) ∧ -1000000 < M.2 ∧ M.2 < 1000000) ∧ d = oD (fstN (NearAt P Q))
theorem pos_len {P : Pc} (h : PcOk P) (g : Nat) : (pos P g).length ≤ 3000 := by
  unfold pos
  rw [mv_length]
  exact (h.ph _ (Nat.le_of_lt (Nat.mod_lt _ h.p1))).2.1
theorem ok_first_near_in (T : Tp K mg) : FnOk P w K mg base CX0 5 T.first_near_in.f T.first_near_in.fd ["rule", "piece", "other"] (spD R_first_near_in) := by
  refine pure_ok T.first_near_in.F sc_first_near_in (fun ds d h => ?_) (fun cdv A outer s H E hr => ⟨_, (pss_cons (ps_set (i := 3) sc_first_near_in.nd rfl (.inl rfl) (pe_call (ok_least_common T) (hr.mono (by decide)) (by rfl) T.least_common.g T.least_common.F.kp T.b_least_common .nil pass0 (pa_cons (pe_ix ix_tup (pv 1) pe_int (fun _ _ => rfl)) (pa_cons (pe_ix ix_tup (pv 2) pe_int (fun _ _ => rfl)) pa_nil))))
      (pss_cons (ps_if (pt_cmpR op_gt (pv 3) (pe_glob (v := .int (6000)) (by rfl) T.MOST_TURN ⟨_, rfl⟩) (nomark _)) (pss_one ps_never) pss_nil)
      (pss_cons (ps_par (i := 4) (j := 5) (by rfl) sc_first_near_in.nd rfl rfl (by decide) rfl rfl (pa_cons (pe_call (ok_phases_in T) (hr.mono (by decide)) (by rfl) T.phases_in.g T.phases_in.F.kp T.b_phases_in .nil pass0 (pa_cons (pv 0) (pa_cons (pe_ix ix_tup (pv 1) pe_int (fun _ _ => rfl)) (pa_cons (pe_ix ix_tup (pv 1) pe_int (fun _ _ => rfl)) pa_nil)))) (pa_cons (pe_call (ok_phases_in T) (hr.mono (by decide)) (by rfl) T.phases_in.g T.phases_in.F.kp T.b_phases_in .nil pass0 (pa_cons (pv 0) (pa_cons (pe_ix ix_tup (pv 2) pe_int (fun _ _ => rfl)) (pa_cons (pe_ix ix_tup (pv 2) pe_int (fun _ _ => rfl)) pa_nil)))) pa_nil)) (by rfl))
      (pss_cons (ps_par (i := 6) (j := 7) (by rfl) sc_first_near_in.nd rfl rfl (by decide) rfl rfl (pa_cons (pe_call (ok_moved_by T) (hr.mono (by decide)) (by rfl) T.moved_by.g T.moved_by.F.kp T.b_moved_by .nil pass0 (pa_cons (pe_ix ix_tup (pv 1) pe_int (fun _ _ => rfl)) (pa_cons (pe_op op_fdiv (pv 3) (pe_ix ix_tup (pv 1) pe_int (fun _ _ => rfl))) pa_nil))) (pa_cons (pe_call (ok_moved_by T) (hr.mono (by decide)) (by rfl) T.moved_by.g T.moved_by.F.kp T.b_moved_by .nil pass0 (pa_cons (pe_ix ix_tup (pv 2) pe_int (fun _ _ => rfl)) (pa_cons (pe_op op_fdiv (pv 3) (pe_ix ix_tup (pv 2) pe_int (fun _ _ => rfl))) pa_nil))) pa_nil)) (by rfl))
      (pss_cons (ps_par (i := 8) (j := 9) (by rfl) sc_first_near_in.nd rfl rfl (by decide) rfl rfl (pa_cons (pe_tup (pa_cons (pe_op op_sub (pe_ix ix_tup (pv 6) pe_int (fun _ _ => rfl)) (pe_ix ix_tup (pv 7) pe_int (fun _ _ => rfl))) (pa_cons (pe_op op_sub (pe_ix ix_tup (pv 6) pe_int (fun _ _ => rfl)) (pe_ix ix_tup (pv 7) pe_int (fun _ _ => rfl))) pa_nil))) (pa_cons pe_non pa_nil)) (by rfl))
      (pss_cons (ps_for PassesOwn.never rfl (pi_range1 (by rfl) T.n_range (pa_cons (pv 3) pa_nil)) (pg_name (i := 10) sc_first_near_in.nd rfl (.inl rfl)) (pss_cons (ps_set (i := 11) sc_first_near_in.nd rfl (.inl rfl) (pe_call (ok_shifted_in T) (hr.mono (by decide)) (by rfl) T.shifted_in.g T.shifted_in.F.kp T.b_shifted_in .nil pass0 (pa_cons (pe_ix ix_list (pv 4) (pe_op op_mod (pv 10) (pe_ix ix_tup (pv 1) pe_int (fun _ _ => rfl))) (fun _ _ => rfl)) (pa_cons (pe_call (ok_moved_by T) (hr.mono (by decide)) (by rfl) T.moved_by.g T.moved_by.F.kp T.b_moved_by .nil pass0 (pa_cons (pe_ix ix_tup (pv 1) pe_int (fun _ _ => rfl)) (pa_cons (pe_op op_fdiv (pv 10) (pe_ix ix_tup (pv 1) pe_int (fun _ _ => rfl))) pa_nil))) pa_nil))))
      (pss_cons (ps_set (i := 12) sc_first_near_in.nd rfl (.inl rfl) (pe_call (ok_shifted_in T) (hr.mono (by decide)) (by rfl) T.shifted_in.g T.shifted_in.F.kp T.b_shifted_in .nil pass0 (pa_cons (pe_ix ix_list (pv 5) (pe_op op_mod (pv 10) (pe_ix ix_tup (pv 2) pe_int (fun _ _ => rfl))) (fun _ _ => rfl)) (pa_cons (pe_call (ok_moved_by T) (hr.mono (by decide)) (by rfl) T.moved_by.g T.moved_by.F.kp T.b_moved_by .nil pass0 (pa_cons (pe_ix ix_tup (pv 2) pe_int (fun _ _ => rfl)) (pa_cons (pe_op op_fdiv (pv 10) (pe_ix ix_tup (pv 2) pe_int (fun _ _ => rfl))) pa_nil))) pa_nil))))
      (pss_one (ps_for PassesOwn.never rfl (pi_tup (pv 11)) (pg_tup rfl (pgs_cons (pg_name (i := 13) sc_first_near_in.nd rfl (.inl rfl)) (pgs_cons (pg_name (i := 14) sc_first_near_in.nd rfl (.inl rfl)) (pgs_cons (pg_name (i := 15) sc_first_near_in.nd rfl (.inl rfl)) pgs_nil)))) (pss_one (ps_for PassesOwn.never rfl (pi_tup (pv 12)) (pg_tup rfl (pgs_cons (pg_name (i := 16) sc_first_near_in.nd rfl (.inl rfl)) (pgs_cons (pg_name (i := 17) sc_first_near_in.nd rfl (.inl rfl)) (pgs_cons (pg_name (i := 18) sc_first_near_in.nd rfl (.inl rfl)) pgs_nil)))) (pss_cons (ps_set (i := 19) sc_first_near_in.nd rfl (.inl rfl) (pe_call (ok_first_in T) (hr.mono (by decide)) (by rfl) T.first_in.g T.first_in.F.kp T.b_first_in .nil pass0 (pa_cons (pe_tup (pa_cons (pe_op op_sub (pv 13) (pv 16)) (pa_cons (pe_op op_sub (pv 14) (pv 17)) pa_nil))) (pa_cons (pv 8) pa_nil))))
      (pss_one (ps_if (pw_and (pt_cmp (pc_notN (pv 19)) rfl) (pw_and1 (pw_or (pt_cmp (pc_isN (pv 9)) rfl) (pw_or1 (pt_cmpR op_lt (pe_op op_add (pv 10) (pe_op op_mul (pv 19) (pv 3))) (pv 9) (nomark _)))).pt)).pt (pss_one (ps_set (i := 9) sc_first_near_in.nd rfl (.inl rfl) (pe_op op_add (pv 10) (pe_op op_mul (pv 19) (pv 3))))) pss_nil))))))))))
      (pss_one (ps_ret (pv 9))))))))), fun ds d h => ?_⟩)
  · obtain ⟨P, Q, rfl, _⟩ := h
    rfl
  · obtain ⟨P, Q, rfl, hP, hQ, hT, hM, rfl⟩ := h
    have gP := hP.p1
    have gP2 := hP.p2
    have gQ := hQ.p1
    have gQ2 := hQ.p2
    obtain ⟨oP, hoP⟩ : ∃ k, P.per = k + 1 := ⟨P.per - 1, by omega⟩
    obtain ⟨oQ, hoQ⟩ : ∃ k, Q.per = k + 1 := ⟨Q.per - 1, by omega⟩
    have dP : P.per ∣ Nat.lcm P.per Q.per := Nat.dvd_lcm_left ..
    have dQ : Q.per ∣ Nat.lcm P.per Q.per := Nat.dvd_lcm_right ..
    have T0 : 0 < Nat.lcm P.per Q.per := Nat.lcm_pos gP gQ
    have nt := fun rest k => near_turn (P := P) (Q := Q) (T := Nat.lcm P.per Q.per) (rest := rest) (k := k) gP gQ dP dQ
    refine s_seq (s_asg (ed_call (ea_cons (ed_ixT (ed_var rfl) ed_int rfl) (ea_cons (ed_ixT (ed_var rfl) ed_int rfl) ea_nil)) ⟨P.per, Q.per, rfl, gP, gP2, gQ2, rfl⟩)) ?_
    obtain ⟨T, hTe⟩ : ∃ T, T = Nat.lcm P.per Q.per := ⟨_, rfl⟩
    rw [← hTe] at hT hM dP dQ T0 nt ⊢
    have hM := hM _ rfl
    obtain ⟨M, hMe⟩ : ∃ M : P2, M = ((sc (T / P.per) P.m).1 - (sc (T / Q.per) Q.m).1, (sc (T / P.per) P.m).2 - (sc (T / Q.per) Q.m).2) := ⟨_, rfl⟩
    rw [← hMe] at hM nt
    refine s_ifn (Et.to (et_T (ed_opB (g := fun i j => decide (i > j)) (ed_var rfl) ed_int)) (decide_eq_false (by omega))) ?_
    refine s_seq (s_par (d := .list (phL P.b P.per)) (e := .list (phL Q.b Q.per)) (ed_call (ea_cons (ed_var rfl) (ea_cons (ed_ixT (ed_var rfl) ed_int rfl) (ea_cons (ed_ixT (ed_var rfl) ed_int rfl) ea_nil))) ⟨P.b, oP, by rw [hoP], by omega, hP.ph.mono (by omega), by rw [hoP]⟩)
      (ed_call (ea_cons (ed_var rfl) (ea_cons (ed_ixT (ed_var rfl) ed_int rfl) (ea_cons (ed_ixT (ed_var rfl) ed_int rfl) ea_nil))) ⟨Q.b, oQ, by rw [hoQ], by omega, hQ.ph.mono (by omega), by rw [hoQ]⟩)) ?_
    refine s_seq (s_par (ed_call (ea_cons (ed_ixT (ed_var rfl) ed_int rfl) (ea_cons (ed_opC (g := fun i j => i / j) (i := (T : Int)) (j := (P.per : Int)) (ed_var rfl) (ed_ixT (ed_var rfl) ed_int rfl) ⟨by omega, by omega⟩) ea_nil)) ⟨P.m, T / P.per, rfl, hP.m1.1, hP.m1.2, hP.m2.1, hP.m2.2, rfl⟩)
      (ed_call (ea_cons (ed_ixT (ed_var rfl) ed_int rfl) (ea_cons (ed_opC (g := fun i j => i / j) (i := (T : Int)) (j := (Q.per : Int)) (ed_var rfl) (ed_ixT (ed_var rfl) ed_int rfl) ⟨by omega, by omega⟩) ea_nil)) ⟨Q.m, T / Q.per, rfl, hQ.m1.1, hQ.m1.2, hQ.m2.1, hQ.m2.2, rfl⟩)) ?_
    refine s_seq (s_par (d := pD M) (e := oD (fstN (E1 P Q T 0))) (by
      rw [hMe]
      exact ed_tup (ea_cons (ed_opI (g := fun i j => i - j) (ed_ixT (ed_var rfl) ed_int rfl) (ed_ixT (ed_var rfl) ed_int rfl)) (ea_cons (ed_opI (g := fun i j => i - j) (ed_ixT (ed_var rfl) ed_int rfl) (ed_ixT (ed_var rfl) ed_int rfl)) ea_nil))) (by
      rw [fstN_eq (N := E1 P Q T 0) (r := none) fun k h => Nat.not_lt_zero _ h.2]
      exact ed_non)) ?_
    have fin : fstN (NearAt P Q) = fstN (E1 P Q T T) := fstN_congr fun g => ⟨fun h => ⟨h, Nat.mod_lt _ T0⟩, fun h => h.1⟩
    rw [fin]
    refine s_seq (s_forR (k := 10) (n := T) (fun rest => fG P Q T (sc (T / P.per) P.m) (sc (T / Q.per) Q.m) M (fstN (E1 P Q T rest)) [none, none, none, none, none, none, none, none, none, none]) (ea_cons (ed_var rfl) ea_nil) (by omega) fun rest hrest => ?_) (s_ret (ed_var rfl))
    have ltP : rest % P.per < P.per := Nat.mod_lt _ gP
    have ltQ : rest % Q.per < Q.per := Nat.mod_lt _ gQ
    refine s_seq (s_asg (d := bD (pos P rest)) (ed_call (ea_cons (ed_ixL (ds := phL P.b P.per) (ed_var rfl) (ed_opC (g := fun i j => i % j) (i := (rest : Int)) (j := (P.per : Int)) (ed_var rfl) (ed_ixT (ed_var rfl) ed_int rfl) (by omega)) (phL_at ltP)) (ea_cons (ed_call (ea_cons (ed_ixT (ed_var rfl) ed_int rfl) (ea_cons (ed_opC (g := fun i j => i / j) (i := (rest : Int)) (j := (P.per : Int)) (ed_var rfl) (ed_ixT (ed_var rfl) ed_int rfl) ⟨by omega, by omega⟩) ea_nil)) ⟨P.m, rest / P.per, rfl, hP.m1.1, hP.m1.2, hP.m2.1, hP.m2.2, rfl⟩) ea_nil)) ⟨stepN (rest % P.per) P.b, sc (rest / P.per) P.m, rfl, by have := (hP.ph _ (Nat.le_of_lt ltP)).2.1; omega, rfl⟩)) ?_
    refine s_seq (s_asg (d := bD (pos Q rest)) (ed_call (ea_cons (ed_ixL (ds := phL Q.b Q.per) (ed_var rfl) (ed_opC (g := fun i j => i % j) (i := (rest : Int)) (j := (Q.per : Int)) (ed_var rfl) (ed_ixT (ed_var rfl) ed_int rfl) (by omega)) (phL_at ltQ)) (ea_cons (ed_call (ea_cons (ed_ixT (ed_var rfl) ed_int rfl) (ea_cons (ed_opC (g := fun i j => i / j) (i := (rest : Int)) (j := (Q.per : Int)) (ed_var rfl) (ed_ixT (ed_var rfl) ed_int rfl) ⟨by omega, by omega⟩) ea_nil)) ⟨Q.m, rest / Q.per, rfl, hQ.m1.1, hQ.m1.2, hQ.m2.1, hQ.m2.2, rfl⟩) ea_nil)) ⟨stepN (rest % Q.per) Q.b, sc (rest / Q.per) Q.m, rfl, by have := (hQ.ph _ (Nat.le_of_lt ltQ)).2.1; omega, rfl⟩)) ?_
    have nt := nt rest
    generalize pos P rest = A at nt ⊢
    generalize pos Q rest = C at nt ⊢
    obtain ⟨o, ho⟩ : ∃ o, o = sc (T / P.per) P.m := ⟨_, rfl⟩
    obtain ⟨t, ht⟩ : ∃ t, t = sc (T / Q.per) Q.m := ⟨_, rfl⟩
    rw [← ho, ← ht]
    have eA : fstN (E1 P Q T rest) = fstN (E2 P Q T rest M (A.take 0) C) := fstN_congr fun g => ⟨fun h => .inl h, fun h => h.elim id fun ⟨a, m, _⟩ => (List.not_mem_nil m).elim⟩
    have eZ : fstN (E1 P Q T (rest + 1)) = fstN (E2 P Q T rest M (A.take (A.map cD).length) C) := fstN_congr fun g => by
      rw [List.length_map, List.take_length]
      constructor
      · rintro ⟨n, l⟩
        by_cases z : g % T < rest
        · exact .inl ⟨n, z⟩
        · refine .inr ?_
          have eg : g = rest + (g / T) * T := by
            have q := Nat.mod_add_div g T
            rw [Nat.mul_comm] at q
            omega
          rw [eg] at n
          obtain ⟨a, ha, c, hc, wn⟩ := (nt _).mp n
          exact ⟨a, ha, g / T, eg, c, hc, wn⟩
      · rintro (⟨n, l⟩ | ⟨a, ha, k, rfl, c, hc, wn⟩)
        · exact ⟨n, by omega⟩
        · refine ⟨(nt k).mpr ⟨a, ha, c, hc, wn⟩, ?_⟩
          rw [Nat.add_mul_mod_self_right, Nat.mod_eq_of_lt hrest]
          exact Nat.lt_succ_self rest
    rw [eZ, eA]
    have loop := s_forT (K := K) (tl := tVar 11) (ds := A.map cD) (g := gTup K 3 (gNames [13, 14, 15])) (tb := tFor (iTup K (tVar 12)) (gTup K 3 (gNames [16, 17, 18])) (tSeq (tAsg (tCall (spD R_first_in) [] E0 (tCons (tTup (tCons (tOp (rI0 fun i j => .int (i - j)) (tVar 13) (tVar 16)) (tCons (tOp (rI0 fun i j => .int (i - j)) (tVar 14) (tVar 17)) tNil))) (tCons (tVar 8) tNil))) (gName 19))
      (tIfS (tAnd (tB (tNotN (tVar 19))) (tOr (tB (tIsN (tVar 9))) (tTest (tOp (rI0 fun i j => .bl (decide (i < j))) (tOp (rI0 fun i j => .int (i + j)) (tVar 10) (tOp (rI CMul fun i j => .int (i * j)) (tVar 19) (tVar 3))) (tVar 9)))))
        (tAsg (tOp (rI0 fun i j => .int (i + j)) (tVar 10) (tOp (rI CMul fun i j => .int (i * j)) (tVar 19) (tVar 3))) (gName 9)) tNext)))
      (fun i => fG P Q T o t M (fstN (E2 P Q T rest M (A.take i) C)) [some (.int (rest : Int)), some (bD A), some (bD C), none, none, none, none, none, none, none]) (ed_var rfl) fun i d hd => by
      rw [List.getElem?_map] at hd
      obtain ⟨a, ha, rfl⟩ : ∃ a, A[i]? = some a ∧ d = cD a := by
        cases z : A[i]? with
        | none => rw [z] at hd; cases hd
        | some a => rw [z] at hd; cases hd; exact ⟨a, rfl, rfl⟩
      have e0 : fstN (E2 P Q T rest M (A.take i) C) = fstN (E3 P Q T rest M (A.take i) C a (C.take 0)) := fstN_congr fun g => ⟨fun h => .inl h, fun h => h.elim id fun ⟨a, m, _⟩ => (List.not_mem_nil m).elim⟩
      have e1 : fstN (E2 P Q T rest M (A.take (i + 1)) C) = fstN (E3 P Q T rest M (A.take i) C a (C.take (C.map cD).length)) := fstN_congr fun g => by
        rw [List.length_map, List.take_length]
        show E1 P Q T rest g ∨ _ ↔ (E1 P Q T rest g ∨ _) ∨ _
        rw [take_mem_succ ha, or_assoc]
        refine or_congr Iff.rfl (or_congr Iff.rfl ?_)
        exact ⟨fun ⟨k, e, c, hc, wn⟩ => ⟨c, hc, k, e, wn⟩, fun ⟨c, hc, k, e, wn⟩ => ⟨k, e, c, hc, wn⟩⟩
      rw [e0, e1]
      refine ⟨fG P Q T o t M (fstN (E3 P Q T rest M (A.take i) C a (C.take 0))) [some (.int (rest : Int)), some (bD A), some (bD C), some (.int a.1), some (.int a.2), some (.int 1), none, none, none, none], tn_tup (ks := [13, 14, 15]) rfl, ?_⟩
      refine S.le (s_forT (K := K) (ds := C.map cD) (fun j => fG P Q T o t M (fstN (E3 P Q T rest M (A.take i) C a (C.take j))) [some (.int (rest : Int)), some (bD A), some (bD C), some (.int a.1), some (.int a.2), some (.int 1), none, none, none, none]) (ed_var rfl) fun j d hd => ?_) (by simp [LeG])
      rw [List.getElem?_map] at hd
      obtain ⟨c, hc, rfl⟩ : ∃ c, C[j]? = some c ∧ d = cD c := by
        cases z : C[j]? with
        | none => rw [z] at hd; cases hd
        | some a => rw [z] at hd; cases hd; exact ⟨a, rfl, rfl⟩
      refine ⟨fG P Q T o t M (fstN (E3 P Q T rest M (A.take i) C a (C.take j))) [some (.int (rest : Int)), some (bD A), some (bD C), some (.int a.1), some (.int a.2), some (.int 1), some (.int c.1), some (.int c.2), some (.int 1), none], tn_tup (ks := [16, 17, 18]) rfl, ?_⟩
      have ej : fstN (E3 P Q T rest M (A.take i) C a (C.take (j + 1))) = better rest T (fstN (E3 P Q T rest M (A.take i) C a (C.take j))) (firstM M a c) := by
        refine fstN_eq (IsFirst.join (fstN_is _) (firstM_is M a c) T0 fun g => ?_)
        show E2 P Q T rest M (A.take i) C g ∨ _ ↔ (E2 P Q T rest M (A.take i) C g ∨ _) ∨ _
        rw [take_mem_succ hc, or_assoc]
      rw [ej]
      exact S.le (fn_turn hT hM.1 hM.2) (by simp [LeG])
    exact S.le loop (by simp [LeG])

def R_first_near (ds : List PyData) (d : PyData) : Prop := R_first_near_in ds d
theorem ok_first_near (T : Tp K mg) : FnOk P w K mg base CX0 8 T.first_near.f T.first_near.fd ["rule", "piece", "other"] (spD R_first_near) := by
  refine pure_ok T.first_near.F sc_first_near (fun ds d h => ?_) (fun cdv A outer s H E hr => ⟨_, (pss_cons (ps_expr (pe_call (ok_need_rule T) (hr.mono (by decide)) (by rfl) T.need_rule.g T.need_rule.F.kp T.b_need_rule .nil pass0 (pa_cons (pv 0) pa_nil)))
      (pss_cons (ps_expr (pe_call (ok_need_piece T) (hr.mono (by decide)) (by rfl) T.need_piece.g T.need_piece.F.kp T.b_need_piece .nil pass0 (pa_cons (pv 0) (pa_cons (pv 1) pa_nil))))
      (pss_cons (ps_expr (pe_call (ok_need_piece T) (hr.mono (by decide)) (by rfl) T.need_piece.g T.need_piece.F.kp T.b_need_piece .nil pass0 (pa_cons (pv 0) (pa_cons (pv 2) pa_nil))))
      (pss_one (ps_ret (pe_call (ok_first_near_in T) (hr.mono (by decide)) (by rfl) T.first_near_in.g T.first_near_in.F.kp T.b_first_near_in .nil pass0 (pa_cons (pv 0) (pa_cons (pv 1) (pa_cons (pv 2) pa_nil))))))))), fun ds d h => ?_⟩)
  · obtain ⟨P, Q, rfl, _⟩ := h
    rfl
  · obtain ⟨P, Q, rfl, hP, hQ, hr⟩ := h
    refine s_seq (s_drop (ed_call (ea_cons (ed_var rfl) ea_nil) ⟨rfl, rfl⟩)) ?_
    refine s_seq (s_drop (ed_call (ea_cons (ed_var rfl) (ea_cons (ed_var rfl) ea_nil)) ⟨⟨P, rfl, hP⟩, rfl⟩)) ?_
    refine s_seq (s_drop (ed_call (ea_cons (ed_var rfl) (ea_cons (ed_var rfl) ea_nil)) ⟨⟨Q, rfl, hQ⟩, rfl⟩)) ?_
    exact s_ret (ed_call (ea_cons (ed_var rfl) (ea_cons (ed_var rfl) (ea_cons (ed_var rfl) ea_nil))) ⟨P, Q, rfl, hP, hQ, hr⟩)
end
end Fb
/-! The row of draws: a list that the law's helpers write; expressions that draw. -/
namespace Fb
open PySem PySem.Spec PyProof.Rows L2
open Evl (Ex)

/-- the row at r: the script, how many are drawn, the seed, the rest of a great number -/
structure RowAt (K : PySem.W.Frag) (r c : Addr) (ns : List Int) (i s w : Int) (H : Hp) : Prop where
  at_ : H r = some (HO.lst [V.ref c, V.int i, V.int s, V.int w])
  scr : SqL K H c (ns.map V.int)
  i0 : 0 ≤ i
  s0 : 0 ≤ s
  s1 : s < 2147483647
def RowOk (K : PySem.W.Frag) (r : Addr) (H : Hp) : Prop := ∃ c ns i s w, RowAt K r c ns i s w H
section
variable {K : PySem.W.Frag} {r c : Addr} {ns : List Int} {i s w : Int}
theorem sqL_ex {H H' : Hp} {xs : List V} (h : SqL K H c xs) (e : Ex H H') : SqL K H' c xs := h.imp (rd_ex e) id
theorem RowAt.stb : Stb (RowAt K r c ns i s w) := fun H H' h e => ⟨e _ _ h.at_, sqL_ex h.scr e, h.i0, h.s0, h.s1⟩
theorem RowOk.stb : Stb (RowOk K r) := fun H H' ⟨c, ns, i, s, w, h⟩ e => ⟨c, ns, i, s, w, RowAt.stb H H' h e⟩
theorem sqL_xa {H H' : Hp} {l : List V} (h : SqL K H c (ns.map V.int)) (hr : H r = some (HO.lst (V.ref c :: l))) (x : Xa (fun a => a = r) H H') : SqL K H' c (ns.map V.int) := by
  refine h.imp (fun z => ?_) id
  rcases z with z | ⟨o, z⟩
  · refine .inl (x c _ (fun e => ?_) z)
    rw [e, hr] at z
    cases ns with
    | nil => cases z
    | cons n ns => cases z
  · refine .inr ⟨o, x c _ (fun e => ?_) z⟩
    rw [e, hr] at z
    cases z
theorem RowAt.put {H : Hp} {i' s' w' : Int} (h : RowAt K r c ns i s w H) (h0 : 0 ≤ i') (h1 : 0 ≤ s') (h2 : s' < 2147483647) : RowAt K r c ns i' s' w' (upd H r (.lst [V.ref c, V.int i', V.int s', V.int w'])) :=
  ⟨upd_same, sqL_xa h.scr h.at_ (Xa.upd rfl), h0, h1, h2⟩
theorem RowAt.nt {H : Hp} (h : RowAt K r c ns i s w H) (xs : List V) : H r ≠ some (.tup xs) := fun z => by rw [h.at_] at z; cases z
theorem RowOk.nt {H : Hp} (h : RowOk K r H) (xs : List V) : H r ≠ some (.tup xs) := let ⟨_, _, _, _, _, h⟩ := h; h.nt xs
abbrev rwD (c : Addr) (i s w : Int) : PyData := .list [rawD c, .int i, .int s, .int w]
theorem RowAt.dd {H : Hp} (h : RowAt K r c ns i s w H) : Dd H (rwD c i s w) (V.ref r) := ⟨r, _, rfl, h.at_, _, _, rfl, dd_raw.mpr rfl, _, _, rfl, rfl, _, _, rfl, rfl, _, _, rfl, rfl, rfl⟩
end

/-! ### what evaluates while I holds -/
def EI (I : Hp → Prop) (te : TE) (Γ : Gm) (d : PyData) : Prop := ∀ σ H, Sl H σ Γ → I H → ∀ Q : VK, (∀ v H', Ex H H' → Dd H' d v → Q v H') → te σ H Q
section
variable {K : PySem.W.Frag} {A : Addr → Prop} {I I' : Hp → Prop} {R : V → Hp → Prop} {Γ Γ' Γm : Gm} {te ta tb : TE} {t u : TS} {d d1 d2 : PyData} {r c : Addr} {ns : List Int} {i s w : Int} {j k : Nat}
theorem ei_ed (vw : View I Γ Γm) (h : Ed te Γm d) : EI I te Γ d := fun σ H s i => h σ H (vw σ H s i)
theorem ei_two {r2 : R2} (st : Stb I) (ha : EI I ta Γ d1) (hb : EI I tb Γ d2) (hr : ∀ x y H, I H → Dd H d1 x → Dd H d2 y → ∀ Q : VK, (∀ v H', Ex H H' → Dd H' d v → Q v H') → r2 x y H Q) : EI I (tOp r2 ta tb) Γ d := fun σ H s i Q q =>
  ha σ H s i _ fun x H1 e1 dx => hb σ H1 (s.ex e1) (st _ _ i e1) _ fun y H2 e2 dy => hr x y H2 (st _ _ (st _ _ i e1) e2) (Dd.ex e2 _ _ dx) dy Q fun v H' e3 dv => q v H' ((e1.trans e2).trans e3) dv
theorem mj_asgI (st : Stb I) (h : EI I te Γ d) : MJ A (tAsg te (gName k)) Γ I (Γ.set k (some d)) I R := fun D σ H s i n r =>
  h σ H s i _ fun v H1 e1 dv => n _ H1 (.of e1) ((s.ex e1).set k dv) (st _ _ i e1)
/-- row[0][k] -/
theorem ei_script {k : Nat} {z : Int} (ha : EI (RowAt K r c ns i s w) ta Γ (rawD c)) (hb : EI (RowAt K r c ns i s w) tb Γ (.int (k : Int))) (h : ns[k]? = some z) : EI (RowAt K r c ns i s w) (tOp (rIxL K) ta tb) Γ (.int z) :=
  ei_two RowAt.stb ha hb fun x y H iH hx hy Q q => by
    have ex := dd_raw.mp hx
    subst ex
    cases (show y = V.int (k : Int) from hy)
    exact ⟨c, ns.map V.int, (k : Int), V.int z, rfl, rfl, iH.scr, atI_nat (by rw [List.getElem?_map, h]; rfl), q _ H (Ex.refl H) rfl⟩
/-- len(row[0]) -/
theorem ei_len (ha : EI (RowAt K r c ns i s w) ta Γ (rawD c)) : EI (RowAt K r c ns i s w) (tCB (rLen K) (tCons ta tNil)) Γ (.int (ns.length : Nat)) := fun σ H sl iH Q q =>
  ha σ H sl iH _ fun x H1 e1 dx => by
    have ex := dd_raw.mp dx
    subst ex
    exact ⟨c, ns.map V.int, rfl, .inl (RowAt.stb _ _ iH e1).scr, q _ H1 e1 (by rw [List.length_map]; rfl)⟩
theorem mj_ifI {b : Bool} (st : Stb I) (h : EI I te Γ (.bool b)) (h1 : b = true → MJ A t Γ I Γ' I' R) (h2 : b = false → MJ A u Γ I Γ' I' R) : MJ A (tIfS (tTest te) t u) Γ I Γ' I' R := fun D σ H s i n r =>
  h σ H s i _ fun v H1 e1 dv => by
    cases (show v = V.bl b from dv)
    have n' : ∀ σ' H', Xa A H1 H' → Sl H' σ' Γ' → I' H' → D.nx σ' H' := fun σ' H' x => n σ' H' ((Xa.of e1).trans x)
    have r' : ∀ v H', Xa A H1 H' → R v H' → D.rt v H' := fun v H' x => r v H' ((Xa.of e1).trans x)
    refine ⟨b, rfl, ?_⟩
    cases b with
    | true => exact h1 rfl D σ H1 (s.ex e1) (st _ _ i e1) n' r'
    | false => exact h2 rfl D σ H1 (s.ex e1) (st _ _ i e1) n' r'
theorem ei_gt {x y : Int} (st : Stb I) (ha : EI I ta Γ (.int x)) (hb : EI I tb Γ (.int y)) : EI I (tOp (rI0 fun i j => .bl (decide (i > j))) ta tb) Γ (.bool (decide (x > y))) :=
  ei_two st ha hb fun x' y' H _ hx hy Q q => ⟨x, y, hx, hy, q _ H (Ex.refl H) rfl⟩
/-- row[k] = e, k 1, 2 or 3 -/
theorem mj_rowput {x i' s' w' : Int} {m : Nat} (hk : Γ[0]? = some (some (rawD r))) (ts : TsG Γ) (hA : A r) (he : EI (RowAt K r c ns i s w) te Γ (.int x)) (hm : [V.ref c, V.int i, V.int s, V.int w].set m (V.int x) = [V.ref c, V.int i', V.int s', V.int w']) (m4 : m < 4) (h0 : 0 ≤ i') (h1 : 0 ≤ s') (h2 : s' < 2147483647) :
    MJ A (tAsg te (gSub (tVar 0) (tC (.int (m : Int))) rSetL)) Γ (RowAt K r c ns i s w) Γ (RowAt K r c ns i' s' w') R := fun D σ H sl iH n rr =>
  he σ H sl iH _ fun v H1 e1 dv => by
    cases (show v = V.int x from dv)
    obtain ⟨y, hy, dy⟩ := sl.at_ 0 _ hk
    have ey := dd_raw.mp dy
    subst ey
    have i1 := RowAt.stb _ _ iH e1
    have sl1 := sl.ex e1
    refine ⟨_, hy, r, _, (m : Int), m, rfl, rfl, i1.at_, Evl.ixN_nat m4, ?_⟩
    rw [hm]
    exact n σ _ ((Xa.of e1).trans (Xa.upd hA)) (sl1.ts ts (tx_upd i1.nt)) (i1.put h0 h1 h2)
end

/-! ### what draws -/
def Er (K : PySem.W.Frag) (r : Addr) (te : TE) (Γ : Gm) (C : PyData → Prop) : Prop := ∀ σ H, Sl H σ Γ → RowOk K r H → ∀ Q : VK, (∀ v d H', Xa (fun a => a = r) H H' → TX H H' → RowOk K r H' → C d → Dd H' d v → Q v H') → te σ H Q
def Ar (K : PySem.W.Frag) (r : Addr) (ta : TA) (Γ : Gm) (C : List PyData → Prop) : Prop := ∀ σ H, Sl H σ Γ → RowOk K r H → ∀ Q : List V → Hp → Prop, (∀ vs ds H', Xa (fun a => a = r) H H' → TX H H' → RowOk K r H' → C ds → DdL H' ds vs → Q vs H') → ta σ H Q
theorem tx_of {H H' : Hp} {r : Addr} (x : Xa (fun a => a = r) H H') (h : ∀ xs, H r ≠ some (.tup xs)) : TX H H' := fun a xs e => x a _ (fun z => h xs (by rw [← z]; exact e)) e
/-- a def that draws: its first parameter is the row -/
def spR (K : PySem.W.Frag) (rel : List PyData → (PyData → Prop) → Prop) : Sp := fun vs H Q _ => ∃ r ds C, rel ds C ∧ DdL H (rawD r :: ds) vs ∧ RowOk K r H ∧ ∀ v d H', Xa (fun a => a = r) H H' → RowOk K r H' → C d → Dd H' d v → Q v H'
section
variable {K : PySem.W.Frag} {r : Addr} {Γ : Gm} {te tb : TE} {ta : TA} {C C1 : PyData → Prop} {C2 : List PyData → Prop} {d : PyData} {ds : List PyData}
theorem er_ed (h : Ed te Γ d) (hc : C d) : Er K r te Γ C := fun σ H s i Q q => h σ H s _ fun v H1 e dv => q v d H1 (.of e) (.of e) (RowOk.stb _ _ i e) hc dv
theorem ar_nil : Ar K r tNil Γ (fun l => l = []) := fun σ H s i Q q => q [] [] H (Xa.refl H) (TX.refl H) i rfl rfl
theorem ar_cons {tr : TA} (ts : TsG Γ) (h : Er K r te Γ C) (hr : Ar K r tr Γ C2) (hf : ∀ d, C d → Ts0 d = true) : Ar K r (tCons te tr) Γ (fun l => ∃ d ds, l = d :: ds ∧ C d ∧ C2 ds) := fun σ H s i Q q =>
  h σ H s i _ fun x d H1 x1 t1 i1 c1 dx => hr σ H1 (s.ts ts t1) i1 _ fun vs ds H2 x2 t2 i2 c2 dvs => q _ (d :: ds) H2 (x1.trans x2) (t1.trans t2) i2 ⟨d, ds, rfl, c1, c2⟩ ⟨x, vs, rfl, Dd.ts t2 (hf d c1) dx, dvs⟩
/-- a call of a def that draws, the arguments do not -/
theorem er_callR {rel : List PyData → (PyData → Prop) → Prop} {E : XK} (h : Ea ta Γ (rawD r :: ds)) (hr : rel ds C) : Er K r (tCall (spR K rel) [] E ta) Γ C := fun σ H s i Q q =>
  h σ H s _ fun vs H1 e1 dvs => by
    have i1 := RowOk.stb _ _ i e1
    refine ⟨r, ds, C, hr, by rw [List.append_nil]; exact dvs, i1, fun v d H2 x2 i2 c2 dv => q v d H2 ((Xa.of e1).trans x2) ((TX.of e1).trans (tx_of x2 i1.nt)) i2 c2 dv⟩
/-- a call of a pure def, the arguments draw -/
theorem er_callP {rel : List PyData → PyData → Prop} {E : XK} (h : Ar K r ta Γ C2) (hr : ∀ l, C2 l → ∃ d, rel l d ∧ C d) : Er K r (tCall (spD rel) [] E ta) Γ C := fun σ H s i Q q =>
  h σ H s i _ fun vs ds H1 x1 t1 i1 c1 dvs => by
    obtain ⟨d, rd, cd⟩ := hr ds c1
    exact ⟨ds, d, rd, by rw [List.append_nil]; exact dvs, fun v H2 e2 dv => q v d H2 (x1.trans (.of e2)) (t1.trans (.of e2)) (RowOk.stb _ _ i1 e2) cd dv⟩
/-- a drawn int, then an int -/
theorem er_opI {g : Int → Int → Int} {p : Int → Prop} {j : Int} (ts : TsG Γ) (h : Er K r te Γ (fun d => ∃ i, d = .int i ∧ p i)) (hb : Ed tb Γ (.int j)) (hC : ∀ i, p i → C (.int (g i j))) : Er K r (tOp (rI0 fun i j => .int (g i j)) te tb) Γ C := fun σ H s i Q q =>
  h σ H s i _ fun x d H1 x1 t1 i1 c1 dx => hb σ H1 (s.ts ts t1) _ fun y H2 e2 dy => by
    obtain ⟨n, rfl, pn⟩ := c1
    cases (show x = V.int n from dx)
    exact ⟨n, j, rfl, dy, q _ (.int (g n j)) H2 (x1.trans (.of e2)) (t1.trans (.of e2)) (RowOk.stb _ _ i1 e2) (hC n pn) rfl⟩
/-- xs[a drawn int], xs may not be the row -/
theorem er_ixL {p : Int → Prop} {k : Nat} (hk : Γ[k]? = some (some (.list ds))) (h : Er K r tb Γ (fun d => ∃ i, d = .int i ∧ p i)) (hd : ∀ H xs, RowOk K r H → DdL H ds xs → H r ≠ some (.lst xs)) (hfl : FlL ds = true) (hC : ∀ i, p i → ∃ d, atI ds i = some d ∧ C d) : Er K r (tOp (rIxL K) (tVar k) tb) Γ C := fun σ H s i Q q => by
  obtain ⟨v, hv, a, xs, rfl, ha, hx⟩ := s.at_ k _ hk
  refine ⟨_, hv, ?_⟩
  refine h σ H s i _ fun y d H1 x1 t1 i1 c1 dy => ?_
  obtain ⟨n, rfl, pn⟩ := c1
  cases (show y = V.int n from dy)
  obtain ⟨d, hat, cd⟩ := hC n pn
  have ar : ¬ a = r := fun e => hd H xs i hx (by rw [← e]; exact ha)
  obtain ⟨z, hz, dz⟩ := DdL.atI (DdL.tx t1 _ _ hfl hx) hat
  exact ⟨a, xs, n, z, rfl, rfl, SqL.of (x1 a _ ar ha), hz, q _ d H1 x1 t1 i1 cd dz⟩
theorem mj_row {A : Addr → Prop} {Γ' : Gm} {I' : Hp → Prop} {R : V → Hp → Prop} {t : TS} (h : ∀ c ns i s w, 0 ≤ i → 0 ≤ s → s < 2147483647 → MJ A t Γ (RowAt K r c ns i s w) Γ' I' R) : MJ A t Γ (RowOk K r) Γ' I' R := fun D σ H s i n rr => by
  obtain ⟨c, ns, i, s', w, hh⟩ := i
  exact h c ns i s' w hh.i0 hh.s0 hh.s1 D σ H s hh n rr
/-! statements -/
variable {A : Addr → Prop} {Γ' : Gm} {I' : Hp → Prop} {R : V → Hp → Prop} {t : TS}
theorem mjr_asg {k : Nat} (ts : TsG Γ) (h : Er K r te Γ C) (hk : ∀ d, C d → MJ (fun a => a = r) t (Γ.set k (some d)) (RowOk K r) Γ' I' R) : MJ (fun a => a = r) (tSeq (tAsg te (gName k)) t) Γ (RowOk K r) Γ' I' R := fun D σ H s i n rr =>
  h σ H s i _ fun v d H1 x1 t1 i1 c1 dv => hk d c1 D _ H1 ((s.ts ts t1).set k dv) i1 (fun σ' H' x => n σ' H' (x1.trans x)) fun v H' x => rr v H' (x1.trans x)
theorem mjr_ret (h : Er K r te Γ C) (hr : ∀ v d H', RowOk K r H' → C d → Dd H' d v → R v H') : MJ (fun a => a = r) (tRet te) Γ (RowOk K r) Γ' I' R := fun D σ H s i n rr =>
  h σ H s i _ fun v d H1 x1 t1 i1 c1 dv => rr v H1 x1 (hr v d H1 i1 c1 dv)
theorem mjr_par {i j : Nat} {C' : PyData → Prop} (ts : TsG Γ) (h1 : Er K r te Γ C) (h2 : Er K r tb Γ C') (hf : ∀ d, C d → Ts0 d = true) (hk : ∀ d d', C d → C' d' → MJ (fun a => a = r) t ((Γ.set i (some d)).set j (some d')) (RowOk K r) Γ' I' R) : MJ (fun a => a = r) (tSeq (tPar i j (tCons te (tCons tb tNil))) t) Γ (RowOk K r) Γ' I' R := fun D σ H s i0 n rr =>
  h1 σ H s i0 _ fun x d H1 x1 t1 i1 c1 dx => h2 σ H1 (s.ts ts t1) i1 _ fun y d' H2 x2 t2 i2 c2 dy => ⟨x, y, rfl, hk d d' c1 c2 D _ H2 ((((s.ts ts t1).ts ts t2).set i (Dd.ts t2 (hf d c1) dx)).set j dy) i2 (fun σ' H' z => n σ' H' ((x1.trans x2).trans z)) fun v H' z => rr v H' ((x1.trans x2).trans z)⟩
theorem mjr_par3 {i j l : Nat} {tc : TE} {C' C'' : PyData → Prop} (ts : TsG Γ) (h1 : Er K r te Γ C) (h2 : Er K r tb Γ C') (h3 : Er K r tc Γ C'') (hf : ∀ d, C d → Ts0 d = true) (hf' : ∀ d, C' d → Ts0 d = true) (hk : ∀ d d' d'', C d → C' d' → C'' d'' → MJ (fun a => a = r) t (((Γ.set i (some d)).set j (some d')).set l (some d'')) (RowOk K r) Γ' I' R) : MJ (fun a => a = r) (tSeq (tPar3 i j l (tCons te (tCons tb (tCons tc tNil)))) t) Γ (RowOk K r) Γ' I' R := fun D σ H s i0 n rr =>
  h1 σ H s i0 _ fun x d H1 x1 t1 i1 c1 dx => h2 σ H1 (s.ts ts t1) i1 _ fun y d' H2 x2 t2 i2 c2 dy => h3 σ H2 ((s.ts ts t1).ts ts t2) i2 _ fun z d'' H3 x3 t3 i3 c3 dz =>
    ⟨x, y, z, rfl, hk d d' d'' c1 c2 c3 D _ H3 ((((((s.ts ts t1).ts ts t2).ts ts t3).set i (Dd.ts t3 (hf d c1) (Dd.ts t2 (hf d c1) dx))).set j (Dd.ts t3 (hf' d' c2) dy)).set l dz) i3 (fun σ' H' q => n σ' H' (((x1.trans x2).trans x3).trans q)) fun v H' q => rr v H' (((x1.trans x2).trans x3).trans q)⟩
end
/-- a def that draws, by its body -/
theorem row_ok {P : Program} {w' : World} {K : PySem.W.Frag} {mg : Str → Option Value} {base : Heap} {x qual : Str} {st : Stmt} {f : Addr} {fd : FuncData} {N ps : List Str} {k : Nat} {rel : List PyData → (PyData → Prop) → Prop} (F : Fun K x qual st f fd) (S0 : FnScope N ps (defScope st)) (len : ∀ ds C, rel ds C → ds.length + 1 = ps.length)
    (hbody : ∀ (cdv : Value) (A : Around) (outer : List Env) (s : Shared) (H : Hp) (E : XK), Room k (A.deeper (envOfC qual (defScope st) s.heap.objs.size f cdv)) →
      ∃ t, PSs (cxOf CX0 P w' K mg base N qual (defScope st) f cdv A outer s H E).nox (defBody st) t ∧ ∀ r ds C, rel ds C → ∃ Γ', MJ (fun a => a = r) t (some (rawD r) :: (ds.map some ++ List.replicate (N.length - (ds.length + 1)) none)) (RowOk K r) Γ' (fun _ => False) (fun v H' => RowOk K r H' ∧ ∃ d, C d ∧ Dd H' d v)) : FnOk P w' K mg base CX0 (k + 1) f fd ps (spR K rel) := by
  refine F.ok S0 (fun vs H Q E h => ?_) (fun cdv A outer s H vs Q E hr h => ?_)
  · obtain ⟨r, ds, C, h1, h2, _⟩ := h
    rw [h2.len]
    exact len ds C h1
  · obtain ⟨t, h1, h2⟩ := hbody cdv A outer s H E hr
    obtain ⟨r, ds, C, rl, hd, row, q⟩ := h
    obtain ⟨Γ', h3⟩ := h2 r ds C rl
    exact ⟨t, h1, h3 _ _ H (sl_start hd) row (fun σ' H' _ _ z => z.elim) fun v H' x rr => q v rr.2.choose H' x rr.1 rr.2.choose_spec.1 rr.2.choose_spec.2⟩
end Fb
/-! Promises: the law's draws. -/
namespace Fb
open PySem PySem.Spec PyProof.Rows L2
open Evl (Ex)
section
variable {P : Program} {w : World} {K : PySem.W.Frag} {mg : Str → Option Value} {base : Heap}
def Q_taken (ds : List PyData) (C : PyData → Prop) : Prop := ∃ many : Int, ds = [.int many] ∧ 0 < many ∧ many.natAbs < 2 ^ 61 ∧ C = fun d => ∃ v, d = .int v ∧ 0 ≤ v ∧ v < many
theorem ok__law_taken (T : Tp K mg) : FnOk P w K mg base CX0 1 T._law_taken.f T._law_taken.fd ["_law_row", "_law_many"] (spR K Q_taken) := by
  refine row_ok T._law_taken.F sc__law_taken (fun ds C h => ?_) (fun cdv A outer s H E hr => ⟨_, (pss_cons (ps_if (pt_cmpR op_gt (pe_ix ix_list (pv 0) pe_int (fun _ _ => rfl)) pe_int (nomark _)) (pss_cons (ps_set (i := 2) sc__law_taken.nd rfl (.inl rfl) (pe_op op_mod (pe_callTy call_int1 (by rfl) T.n_int (by decide +kernel) (pa_cons (pe_ix ix_list (pv 0) pe_int (fun _ _ => rfl)) pa_nil)) (pv 1)))
      (pss_cons (ps_asg (pe_op op_fdivW (pe_ix ix_list (pv 0) pe_int (fun _ _ => rfl)) (pv 1)) (pg_sub (pv 0) pe_int set_list))
      (pss_one (ps_ret (pv 2))))) pss_nil)
      (pss_cons (ps_asg (pe_op op_add (pe_ix ix_list (pv 0) pe_int (fun _ _ => rfl)) pe_int) (pg_sub (pv 0) pe_int set_list))
      (pss_cons (ps_if (pt_cmpR op_gt (pe_ix ix_list (pv 0) pe_int (fun _ _ => rfl)) (pe_callB call_len_seq (by rfl) T.n_len PySem.boot_len (pa_cons (pe_ix ix_list (pv 0) pe_int (fun _ _ => rfl)) pa_nil)) (nomark _)) (pss_cons (ps_asg (pe_op op_mod (pe_callTy call_int1 (by rfl) T.n_int (by decide +kernel) (pa_cons (pe_op op_add (pe_op op_mul (pe_ix ix_list (pv 0) pe_int (fun _ _ => rfl)) pe_int) pe_int) pa_nil)) pe_int) (pg_sub (pv 0) pe_int set_list))
      (pss_one (ps_ret (pe_op op_mod (pe_callTy call_int1 (by rfl) T.n_int (by decide +kernel) (pa_cons (pe_op op_fdivW (pe_ix ix_list (pv 0) pe_int (fun _ _ => rfl)) pe_int) pa_nil)) (pv 1))))) pss_nil)
      (pss_cons (ps_set (i := 3) sc__law_taken.nd rfl (.inl rfl) (pe_ix ix_list (pe_ix ix_list (pv 0) pe_int (fun _ _ => rfl)) (pe_op op_sub (pe_ix ix_list (pv 0) pe_int (fun _ _ => rfl)) pe_int) (fun _ _ => rfl)))
      (pss_cons (ps_asg (pe_op op_mod (pe_callTy call_int1 (by rfl) T.n_int (by decide +kernel) (pa_cons (pe_op op_add (pe_op op_add (pe_op op_mul (pe_ix ix_list (pv 0) pe_int (fun _ _ => rfl)) pe_int) (pv 3)) pe_int) pa_nil)) pe_int) (pg_sub (pv 0) pe_int set_list))
      (pss_cons (ps_if (pt_cmpR op_ge (pv 3) (pe_op op_pow pe_int pe_int) (nomark _)) (pss_one (ps_asg (pe_op op_fdivW (pv 3) (pv 1)) (pg_sub (pv 0) pe_int set_list))) pss_nil)
      (pss_one (ps_ret (pe_op op_mod (pe_callTy call_int1 (by rfl) T.n_int (by decide +kernel) (pa_cons (pv 3) pa_nil)) (pv 1)))))))))), fun r ds C h => ?_⟩)
  · obtain ⟨many, rfl, _⟩ := h
    rfl
  · obtain ⟨many, rfl, h0, h1, rfl⟩ := h
    refine ⟨[], mj_row fun c ns i s w hi hs hs1 => ?_⟩
    have dv : ∀ x : Int, CDivW x many := fun x => wide_div h0 h1 (by decide) (by decide)
    have ts0 : TsG [some (rawD r), some (.int many), none, none] := tsG_of (by simp [ts_raw]; rfl)
    have vw : ∀ {i s w : Int} {a b : Option PyData}, View (RowAt K r c ns i s w) [some (rawD r), some (.int many), a, b] [some (rwD c i s w), some (.int many), a, b] := fun {i s w a b} => view_at (Γ := [some (rawD r), some (.int many), a, b]) (k := 0) rfl fun H h => h.dd
    have fin : ∀ {Γ Γm Γ' : Gm} {I' : Hp → Prop} {te : TE} {v : Int} {I : Hp → Prop}, View I Γ Γm → Stb I → (∀ H, I H → RowOk K r H) → Ed te Γm (.int v) → 0 ≤ v → v < many → MJ (fun a => a = r) (tRet te) Γ I Γ' I' (fun v H' => RowOk K r H' ∧ ∃ d, (∃ v, d = PyData.int v ∧ 0 ≤ v ∧ v < many) ∧ Dd H' d v) := fun {Γ Γm Γ' I' te v I} vw st hI h g1 g2 => mj_ret vw st h fun v' H' i dv => ⟨hI _ i, _, ⟨v, rfl, g1, g2⟩, dv⟩
    have rok : ∀ {i s w : Int} (H : Hp), RowAt K r c ns i s w H → RowOk K r H := fun {i s w} H h => ⟨c, ns, i, s, w, h⟩
    have md : ∀ x : Int, 0 ≤ x % many ∧ x % many < many := fun x => ⟨Int.emod_nonneg _ (by omega), Int.emod_lt_of_pos _ h0⟩
    have ms : ∀ x : Int, 0 ≤ x % 2147483647 ∧ x % 2147483647 < 2147483647 := fun x => ⟨Int.emod_nonneg _ (by omega), Int.emod_lt_of_pos _ (by omega)⟩
    refine mj_seq (Γ1 := [some (rawD r), some (.int many), none, none]) (I1 := RowAt K r c ns i s w) (mj_if vw RowAt.stb (et_T (ed_opB (g := fun i j => decide (i > j)) (ed_ixL (ds := [rawD c, .int i, .int s, .int w]) (d := .int w) (ed_var rfl) ed_int rfl) ed_int)) (fun u => ?_) fun _ => mj_next) ?_
    · refine mj_seq (mj_asg (d := .int (w % many)) vw RowAt.stb (ed_opC (g := fun i j => i % j) (ed_int1 (ed_ixL (ds := [rawD c, .int i, .int s, .int w]) (d := .int w) (ed_var rfl) ed_int rfl)) (ed_var rfl) h0)) ?_
      refine mj_seq (mj_rowput (m := 3) (x := w / many) (i' := i) (s' := s) (w' := w / many) rfl (tsG_of (by simp [ts_raw]; exact ⟨rfl, rfl⟩)) rfl (ei_ed (vw (a := some (.int (w % many))) (b := none)) (ed_opC (g := fun i j => i / j) (ed_ixL (ds := [rawD c, .int i, .int s, .int w]) (d := .int w) (ed_var rfl) ed_int rfl) (ed_var rfl) (dv w))) rfl (by decide) hi hs hs1) ?_
      exact fin view_refl RowAt.stb rok (ed_var rfl) (md w).1 (md w).2
    refine mj_seq (mj_rowput (m := 1) (x := i + 1) (i' := i + 1) (s' := s) (w' := w) rfl ts0 rfl (ei_ed vw (ed_opI (g := fun i j => i + j) (ed_ixL (ds := [rawD c, .int i, .int s, .int w]) (d := .int i) (ed_var rfl) ed_int rfl) ed_int)) rfl (by decide) (by omega) hs hs1) ?_
    have e_i : ∀ {a b : Option PyData}, Ed (tOp (rIxL K) (tVar 0) (tC (.int 1))) [some (rwD c (i + 1) s w), some (.int many), a, b] (.int (i + 1)) := fun {a b} => ed_ixL (ds := [rawD c, .int (i + 1), .int s, .int w]) (ed_var rfl) ed_int rfl
    have e_c : ∀ {a b : Option PyData}, Ed (tOp (rIxL K) (tVar 0) (tC (.int 0))) [some (rwD c (i + 1) s w), some (.int many), a, b] (rawD c) := fun {a b} => ed_ixL (ds := [rawD c, .int (i + 1), .int s, .int w]) (ed_var rfl) ed_int rfl
    have e_s : ∀ {i s w : Int} {a b : Option PyData}, Ed (tOp (rIxL K) (tVar 0) (tC (.int 2))) [some (rwD c i s w), some (.int many), a, b] (.int s) := fun {i s w a b} => ed_ixL (ds := [rawD c, .int i, .int s, .int w]) (ed_var rfl) ed_int rfl
    refine mj_seq (Γ1 := [some (rawD r), some (.int many), none, none]) (I1 := fun H => RowAt K r c ns (i + 1) s w H ∧ i + 1 ≤ (ns.length : Nat)) ?_ ?_
    · refine mj_ifI RowAt.stb (ei_gt RowAt.stb (ei_ed vw e_i) (ei_len (ei_ed vw e_c))) (fun u => ?_) fun u => MJ.post mj_next fun H h => ⟨h, by have := of_decide_eq_false u; omega⟩
      refine mj_seq (mj_rowput (m := 2) (x := (s * 48271 + 11) % 2147483647) (i' := i + 1) (s' := (s * 48271 + 11) % 2147483647) (w' := w) rfl ts0 rfl (ei_ed vw (ed_opC (g := fun i j => i % j) (ed_int1 (ed_opI (g := fun i j => i + j) (ed_opC (g := fun i j => i * j) e_s ed_int (.inr ⟨by decide, by decide⟩)) ed_int)) ed_int (by decide))) rfl (by decide) (by omega) (ms _).1 (ms _).2) ?_
      exact fin vw RowAt.stb rok (ed_opC (g := fun i j => i % j) (ed_int1 (ed_opC (g := fun i j => i / j) e_s ed_int (wide_div (b := 3) (by decide) (by decide) (by decide) (by decide)))) (ed_var rfl) h0) (md _).1 (md _).2
    · by_cases u : i + 1 > (ns.length : Nat)
      · exact fun D σ H s i n rr => absurd i.2 (by omega)
      · refine MJ.pre (I1 := RowAt K r c ns (i + 1) s w) ?_ fun H h => h.1
        obtain ⟨z, hz⟩ : ∃ z, ns[i.toNat]? = some z := ⟨_, List.getElem?_eq_getElem (by omega)⟩
        refine mj_seq (mj_asgI RowAt.stb (ei_script (k := i.toNat) (ei_ed vw e_c) (ei_ed vw (Ed.to (ed_opI (g := fun i j => i - j) e_i ed_int) (by congr 1; omega))) hz)) ?_
        refine mj_seq (mj_rowput (m := 2) (x := (s * 48271 + z + 11) % 2147483647) (i' := i + 1) (s' := (s * 48271 + z + 11) % 2147483647) (w' := w) rfl (tsG_of (by simp [ts_raw]; exact ⟨rfl, rfl⟩)) rfl (ei_ed (vw (a := none) (b := some (.int z))) (ed_opC (g := fun i j => i % j) (ed_int1 (ed_opI (g := fun i j => i + j) (ed_opI (g := fun i j => i + j) (ed_opC (g := fun i j => i * j) e_s ed_int (.inr ⟨by decide, by decide⟩)) (ed_var rfl)) ed_int)) ed_int (by decide))) rfl (by decide) (by omega) (ms _).1 (ms _).2) ?_
        refine mj_seq (Γ1 := [some (rawD r), some (.int many), none, some (.int z)]) (I1 := RowOk K r) (mj_if view_refl RowAt.stb (et_T (ed_opB (g := fun i j => decide (i ≥ j)) (ed_var rfl) (ed_opC (i := 10) (j := 18) (g := fun i j => i ^ j.toNat) ed_int ed_int ⟨by decide, by decide, by decide⟩))) (fun _ => ?_) fun _ => MJ.post mj_next rok) ?_
        · exact MJ.post (mj_rowput (m := 3) (x := z / many) (i' := i + 1) (s' := (s * 48271 + z + 11) % 2147483647) (w' := z / many) rfl (tsG_of (by simp [ts_raw]; exact ⟨rfl, rfl⟩)) rfl (ei_ed view_refl (ed_opC (g := fun i j => i / j) (ed_var rfl) (ed_var rfl) (dv z))) rfl (by decide) (by omega) (ms _).1 (ms _).2) rok
        · exact fin view_refl RowOk.stb (fun H h => h) (ed_opC (g := fun i j => i % j) (ed_int1 (ed_var rfl)) (ed_var rfl) h0) (md _).1 (md _).2
end
end Fb
/-! Promises: the law's pieces. -/
namespace Fb
open PySem PySem.Spec PyProof.Rows L2
open Evl (Ex)

/-! ### the kit, turned -/
def shipB : Board := [(0, 2), (1, 0), (1, 2), (2, 1), (2, 2)]
def rowB : Board := [(0, 0), (1, 0), (2, 0)]
def squareB : Board := [(0, 0), (0, 1), (1, 0), (1, 1)]
def longB : Board := [(0, 0), (0, 2), (1, 3), (2, 3), (3, 0), (3, 3), (4, 1), (4, 2), (4, 3)]
def kit0 : Pc := ⟨shipB, 4, (1, 1)⟩
def kit1 : Pc := ⟨rowB, 2, (0, 0)⟩
def kit2 : Pc := ⟨squareB, 1, (0, 0)⟩
def kit3 : Pc := ⟨longB, 4, (2, 0)⟩
def kitL : List Pc := [kit0, kit1, kit2, kit3]
def flipP (p : P2) : P2 := (0 - p.1, p.2)
def quarP (p : P2) : P2 := (0 - p.2, p.1)
def qN : Nat → P2 → P2
  | 0, p => p
  | n + 1, p => quarP (qN n p)
def tuP (t : Nat) (p : P2) : P2 := qN (t % 4) (if 4 ≤ t then flipP p else p)
def turnP (P : Pc) (t : Nat) : Pc := ⟨sortU (P.b.map (tuP t)), P.per, tuP t P.m⟩
def bigP (P : Pc) (mu : Nat) (v : P2) : Pc := ⟨mv v P.b, P.per * mu, (P.m.1 * mu, P.m.2 * mu)⟩
def KitP (P : Pc) : Prop := ∃ Q ∈ kitL, ∃ t, t < 8 ∧ P = turnP Q t
def SomePc (far : Int) (R : Pc) : Prop := ∃ P mu v, KitP P ∧ (mu = 1 ∨ mu = 2) ∧ -far ≤ v.1 ∧ v.1 ≤ far ∧ -far ≤ v.2 ∧ v.2 ≤ far ∧ R = bigP P mu v
theorem qN_inj {n : Nat} : ∀ {p q : P2}, qN n p = qN n q → p = q := by
  induction n with
  | zero => exact fun h => h
  | succ n ih =>
    intro p q h
    refine ih ?_
    have h' : quarP (qN n p) = quarP (qN n q) := h
    generalize qN n p = a at h' ⊢
    generalize qN n q = b at h' ⊢
    rcases a with ⟨x, y⟩
    rcases b with ⟨u, v⟩
    simp only [quarP, Prod.mk.injEq] at h' ⊢
    omega
theorem tuP_inj {t : Nat} {p q : P2} (h : tuP t p = tuP t q) : p = q := by
  have z := qN_inj h
  by_cases u : 4 ≤ t
  · rw [if_pos u, if_pos u] at z
    rcases p with ⟨x, y⟩
    rcases q with ⟨a, b⟩
    simp only [flipP, Prod.mk.injEq] at z ⊢
    omega
  · rw [if_neg u, if_neg u] at z
    exact z
theorem nodup_tu {b : Board} (h : b.Nodup) (t : Nat) : (b.map (tuP t)).Nodup := by
  unfold List.Nodup
  rw [List.pairwise_map]
  exact List.Pairwise.imp (fun n e => n (tuP_inj e)) h
def flD : PyData → Option PyData
  | .tuple [.int x, .int y, s] => some (.tuple [.int (0 - x), .int y, s])
  | _ => none
def quD : PyData → Option PyData
  | .tuple [.int x, .int y, s] => some (.tuple [.int (0 - y), .int x, s])
  | _ => none
theorem cD_sorts {l : List P2} (h : l.length ≤ 100000) : SortsD (l.map cD) where
  al := by
    refine PySem.W.AllAlike.of (enc := cD) fun p q => ?_
    exact (PySem.W.alike_ints [p.1, p.2, 1] [q.1, q.2, 1])
  ok := PySem.W.Sortable.tuples (enc := cD) fun p => ⟨_, _, rfl⟩
  fl := tol_mem fun d m => by
    obtain ⟨p, _, rfl⟩ := List.mem_map.mp m
    rfl
  few := by rw [List.length_map]; exact h
  deep := fun d m => by
    obtain ⟨p, _, rfl⟩ := List.mem_map.mp m
    show PyData.depth (.tuple [.int p.1, .int p.2, .int 1]) ≤ 8
    have e2 : PyData.depthAll [.int p.1, .int p.2, .int 1] = 0 := PySem.W.depth_ints [p.1, p.2, 1]
    simp only [PyData.depth, e2]
    omega

section
variable {P : Program} {w : World} {K : PySem.W.Frag} {mg : Str → Option Value} {base : Heap}
/-- things that are not the row -/
def NotRow : List PyData → Prop
  | .int _ :: _ => True
  | _ :: .tuple _ :: _ => True
  | _ => False
theorem notRow {r : Addr} {ds : List PyData} (h : NotRow ds) (H : Hp) (xs : List V) (i : RowOk K r H) (hx : DdL H ds xs) : H r ≠ some (.lst xs) := fun e => by
  obtain ⟨c, ns, a, s, w, i⟩ := i
  rw [i.at_] at e
  cases e
  match ds, h, hx with
  | .int _ :: _, _, hx =>
    obtain ⟨x, ys, e, h1, _⟩ := hx
    cases e
    cases (show V.ref c = V.int _ from h1)
  | _ :: .tuple _ :: _, _, hx =>
    obtain ⟨x, ys, e, _, y, zs, e2, h2, _⟩ := hx
    cases e
    cases e2
    obtain ⟨_, _, e3, _⟩ := h2
    cases e3
def Q_pick (ds : List PyData) (C : PyData → Prop) : Prop := ∃ l : List PyData, ds = [.list l] ∧ FlL l = true ∧ NotRow l ∧ 0 < l.length ∧ l.length ≤ 1000 ∧ C = fun d => d ∈ l
theorem ok__law_pick (T : Tp K mg) : FnOk P w K mg base CX0 2 T._law_pick.f T._law_pick.fd ["_law_row", "_law_things"] (spR K Q_pick) := by
  refine row_ok T._law_pick.F sc__law_pick (fun ds C h => ?_) (fun cdv A outer s H E hr => ⟨_, (pss_one (ps_ret (pe_ix ix_list (pv 1) (pe_call (ok__law_taken T) (hr.mono (by decide)) (by rfl) T._law_taken.g T._law_taken.F.kp T.b__law_taken .nil pass0 (pa_cons (pv 0) (pa_cons (pe_callB call_len_seq (by rfl) T.n_len PySem.boot_len (pa_cons (pv 1) pa_nil)) pa_nil))) (fun _ _ => rfl)))), fun r ds C h => ?_⟩)
  · obtain ⟨l, rfl, _⟩ := h
    rfl
  · obtain ⟨l, rfl, hf, hn, h0, h1, rfl⟩ := h
    refine ⟨[], mjr_ret (C := fun d => d ∈ l) (er_ixL (K := K) (r := r) (ds := l) (p := fun v => 0 ≤ v ∧ v < (l.length : Nat)) (k := 1) rfl (er_callR (ds := [.int (l.length : Nat)]) (ea_cons (ed_var rfl) (ea_cons (ed_lenL (ed_var rfl)) ea_nil)) ⟨_, rfl, by omega, ?_, rfl⟩) (notRow hn) hf fun i hi => ?_) fun v d H' i c dv => ⟨i, d, c, dv⟩⟩
    · show ((l.length : Nat) : Int).natAbs < 2 ^ 61
      rw [Int.natAbs_natCast]
      exact Nat.lt_of_le_of_lt h1 (by decide)
    · have e : ((i.toNat : Nat) : Int) = i := by omega
      have hl : i.toNat < l.length := by omega
      have z := atI_nat (List.getElem?_eq_getElem hl)
      rw [e] at z
      exact ⟨l[i.toNat], z, List.getElem_mem hl⟩

def R_kit (ds : List PyData) (d : PyData) : Prop := ds = [] ∧ d = .list (kitL.map pcD)
theorem ok__law_kit (T : Tp K mg) : FnOk P w K mg base CX0 1 T._law_kit.f T._law_kit.fd [] (spD R_kit) := by
  refine pure_ok T._law_kit.F sc__law_kit (fun ds d h => ?_) (fun cdv A outer s H E hr => ⟨_, (pss_cons (ps_asg (pe_tup (pa_cons (pe_tup (pa_cons (pe_tup (pa_cons pe_int (pa_cons pe_int (pa_cons pe_int pa_nil)))) (pa_cons (pe_tup (pa_cons pe_int (pa_cons pe_int (pa_cons pe_int pa_nil)))) (pa_cons (pe_tup (pa_cons pe_int (pa_cons pe_int (pa_cons pe_int pa_nil)))) (pa_cons (pe_tup (pa_cons pe_int (pa_cons pe_int (pa_cons pe_int pa_nil)))) (pa_cons (pe_tup (pa_cons pe_int (pa_cons pe_int (pa_cons pe_int pa_nil)))) pa_nil)))))) (pa_cons (pe_tup (pa_cons (pe_tup (pa_cons pe_int (pa_cons pe_int (pa_cons pe_int pa_nil)))) (pa_cons (pe_tup (pa_cons pe_int (pa_cons pe_int (pa_cons pe_int pa_nil)))) (pa_cons (pe_tup (pa_cons pe_int (pa_cons pe_int (pa_cons pe_int pa_nil)))) pa_nil)))) pa_nil))) (pg_tup rfl (pgs_cons (pg_name (i := 0) sc__law_kit.nd rfl (.inl rfl)) (pgs_cons (pg_name (i := 1) sc__law_kit.nd rfl (.inl rfl)) pgs_nil))))
      (pss_cons (ps_set (i := 2) sc__law_kit.nd rfl (.inl rfl) (pe_tup (pa_cons (pe_tup (pa_cons pe_int (pa_cons pe_int (pa_cons pe_int pa_nil)))) (pa_cons (pe_tup (pa_cons pe_int (pa_cons pe_int (pa_cons pe_int pa_nil)))) (pa_cons (pe_tup (pa_cons pe_int (pa_cons pe_int (pa_cons pe_int pa_nil)))) (pa_cons (pe_tup (pa_cons pe_int (pa_cons pe_int (pa_cons pe_int pa_nil)))) pa_nil))))))
      (pss_cons (ps_set (i := 3) sc__law_kit.nd rfl (.inl rfl) (pe_tup (pa_cons (pe_tup (pa_cons pe_int (pa_cons pe_int (pa_cons pe_int pa_nil)))) (pa_cons (pe_tup (pa_cons pe_int (pa_cons pe_int (pa_cons pe_int pa_nil)))) (pa_cons (pe_tup (pa_cons pe_int (pa_cons pe_int (pa_cons pe_int pa_nil)))) (pa_cons (pe_tup (pa_cons pe_int (pa_cons pe_int (pa_cons pe_int pa_nil)))) (pa_cons (pe_tup (pa_cons pe_int (pa_cons pe_int (pa_cons pe_int pa_nil)))) (pa_cons (pe_tup (pa_cons pe_int (pa_cons pe_int (pa_cons pe_int pa_nil)))) (pa_cons (pe_tup (pa_cons pe_int (pa_cons pe_int (pa_cons pe_int pa_nil)))) (pa_cons (pe_tup (pa_cons pe_int (pa_cons pe_int (pa_cons pe_int pa_nil)))) (pa_cons (pe_tup (pa_cons pe_int (pa_cons pe_int (pa_cons pe_int pa_nil)))) pa_nil)))))))))))
      (pss_one (ps_ret (pe_lst (pa_cons (pe_tup (pa_cons (pv 0) (pa_cons pe_int (pa_cons (pe_tup (pa_cons pe_int (pa_cons pe_int pa_nil))) pa_nil)))) (pa_cons (pe_tup (pa_cons (pv 1) (pa_cons pe_int (pa_cons (pe_tup (pa_cons pe_int (pa_cons pe_int pa_nil))) pa_nil)))) (pa_cons (pe_tup (pa_cons (pv 2) (pa_cons pe_int (pa_cons (pe_tup (pa_cons pe_int (pa_cons pe_int pa_nil))) pa_nil)))) (pa_cons (pe_tup (pa_cons (pv 3) (pa_cons pe_int (pa_cons (pe_tup (pa_cons pe_int (pa_cons pe_int pa_nil))) pa_nil)))) pa_nil)))))))))), fun ds d h => ?_⟩)
  · obtain ⟨rfl, rfl⟩ := h
    rfl
  · obtain ⟨rfl, rfl⟩ := h
    have c3 : ∀ {Γ : Gm} (a b : Int), Ed (tTup (tCons (tC (.int a)) (tCons (tC (.int b)) (tCons (tC (.int 1)) tNil)))) Γ (cD (a, b)) := fun a b => ed_tup (ea_cons ed_int (ea_cons ed_int (ea_cons ed_int ea_nil)))
    refine s_seq (s_asgT (ks := [0, 1]) (ds := [bD shipB, bD rowB]) (ed_tup (ea_cons (ed_tup (ea_cons (c3 0 2) (ea_cons (c3 1 0) (ea_cons (c3 1 2) (ea_cons (c3 2 1) (ea_cons (c3 2 2) ea_nil)))))) (ea_cons (ed_tup (ea_cons (c3 0 0) (ea_cons (c3 1 0) (ea_cons (c3 2 0) ea_nil)))) ea_nil))) rfl) ?_
    refine s_seq (s_asg (d := bD squareB) (ed_tup (ea_cons (c3 0 0) (ea_cons (c3 0 1) (ea_cons (c3 1 0) (ea_cons (c3 1 1) ea_nil)))))) ?_
    refine s_seq (s_asg (d := bD longB) (ed_tup (ea_cons (c3 0 0) (ea_cons (c3 0 2) (ea_cons (c3 1 3) (ea_cons (c3 2 3) (ea_cons (c3 3 0) (ea_cons (c3 3 3) (ea_cons (c3 4 1) (ea_cons (c3 4 2) (ea_cons (c3 4 3) ea_nil))))))))))) ?_
    have pc : ∀ {Γ : Gm} {k : Nat} (Q : Pc) (p m1 m2 : Int), Γ[k]? = some (some (bD Q.b)) → (Q.per : Int) = p → Q.m = (m1, m2) → Ed (tTup (tCons (tVar k) (tCons (tC (.int p)) (tCons (tTup (tCons (tC (.int m1)) (tCons (tC (.int m2)) tNil))) tNil)))) Γ (pcD Q) := fun Q p m1 m2 h e1 e2 => by
      unfold pcD
      rw [e1, e2]
      exact ed_tup (ea_cons (ed_var h) (ea_cons ed_int (ea_cons (ed_tup (ea_cons ed_int (ea_cons ed_int ea_nil))) ea_nil)))
    exact s_ret (ed_lst (ea_cons (pc kit0 4 1 1 rfl rfl rfl) (ea_cons (pc kit1 2 0 0 rfl rfl rfl) (ea_cons (pc kit2 1 0 0 rfl rfl rfl) (ea_cons (pc kit3 4 2 0 rfl rfl rfl) ea_nil)))))

def R_moved (ds : List PyData) (d : PyData) : Prop := ∃ (b : Board) (x y : Int), ds = [bD b, .int x, .int y] ∧ b.length ≤ 40000 ∧ d = bD (mv (x, y) b)
theorem ok__law_moved (T : Tp K mg) : FnOk P w K mg base CX0 1 T._law_moved.f T._law_moved.fd ["_law_board", "_law_x", "_law_y"] (spD R_moved) := by
  refine pure_ok T._law_moved.F sc__law_moved (fun ds d h => ?_) (fun cdv A outer s H E hr => ⟨_, (pss_one (ps_ret (pe_callTy call_tuple_of (by rfl) T.n_tuple (by decide +kernel) (pa_cons (pe_lc (own := [("_law_cell", 3)]) rfl sc__law_moved.nd (pi_tup (pv 0)) (blkOk_by (N := N__law_moved) (sc := defScope s__law_moved) (by decide +kernel)) (fun _ _ _ _ _ => (pg_name (i := 3) sc__law_moved.nd rfl (.inl rfl))) (fun _ _ _ _ _ => pts_nil) (fun _ _ _ _ _ => (pe_tup (pa_cons (pe_op op_add (pe_ix (show IxR _ (rIxT K) from ix_tup) (pv 3) pe_int (fun _ _ => rfl)) (pv 1)) (pa_cons (pe_op op_add (pe_ix (show IxR _ (rIxT K) from ix_tup) (pv 3) pe_int (fun _ _ => rfl)) (pv 2)) (pa_cons (pe_ix (show IxR _ (rIxT K) from ix_tup) (pv 3) pe_int (fun _ _ => rfl)) pa_nil)))))) pa_nil)))), fun ds d h => ?_⟩)
  · obtain ⟨b, x, y, rfl, _⟩ := h
    rfl
  · obtain ⟨b, x, y, rfl, hl, rfl⟩ := h
    refine s_ret (ed_tupL ?_)
    have e : (mv (x, y) b).map cD = given (mvD (x, y)) (b.map cD) := (given_map (g := fun p => plus p (x, y)) (fun p => rfl) b).symm
    rw [e]
    refine ed_lcT (ed_var rfl) ⟨fun d hd => ?_⟩ (fun d hd e he => ?_) (by rw [List.length_map]; exact hl)
    · obtain ⟨p, _, rfl⟩ := List.mem_map.mp hd
      refine ⟨_, tg_name (by simp), et_yes, fun e he => ?_⟩
      cases he
      exact ed_tup (ea_cons (ed_opI (g := fun i j => i + j) (ed_ixT (ed_var rfl) ed_int rfl) (ed_var rfl)) (ea_cons (ed_opI (g := fun i j => i + j) (ed_ixT (ed_var rfl) ed_int rfl) (ed_var rfl)) (ea_cons (ed_ixT (ed_var rfl) ed_int rfl) ea_nil)))
    · obtain ⟨p, _, rfl⟩ := List.mem_map.mp hd
      cases he
      rfl

def Q_signed (ds : List PyData) (C : PyData → Prop) : Prop := ∃ most : Int, ds = [.int most] ∧ 0 ≤ most ∧ most ≤ 1000 ∧ C = fun d => ∃ v, d = .int v ∧ -most ≤ v ∧ v ≤ most
theorem ok__law_signed (T : Tp K mg) : FnOk P w K mg base CX0 2 T._law_signed.f T._law_signed.fd ["_law_row", "_law_most"] (spR K Q_signed) := by
  refine row_ok T._law_signed.F sc__law_signed (fun ds C h => ?_) (fun cdv A outer s H E hr => ⟨_, (pss_one (ps_ret (pe_op op_sub (pe_call (ok__law_taken T) (hr.mono (by decide)) (by rfl) T._law_taken.g T._law_taken.F.kp T.b__law_taken .nil pass0 (pa_cons (pv 0) (pa_cons (pe_op op_add (pe_op op_mul pe_int (pv 1)) pe_int) pa_nil))) (pv 1)))), fun r ds C h => ?_⟩)
  · obtain ⟨most, rfl, _⟩ := h
    rfl
  · obtain ⟨most, rfl, h0, h1, rfl⟩ := h
    have ts : TsG [some (rawD r), some (.int most)] := tsG_of (by simp [ts_raw]; rfl)
    refine ⟨[], mjr_ret (er_opI (g := fun i j => i - j) (p := fun v => 0 ≤ v ∧ v < 2 * most + 1) ts (er_callR (ds := [.int (2 * most + 1)]) (ea_cons (ed_var rfl) (ea_cons (ed_opI (g := fun i j => i + j) (ed_opC (g := fun i j => i * j) ed_int (ed_var rfl) (.inl ⟨by decide, by decide⟩)) ed_int) ea_nil)) ⟨_, rfl, by omega, by omega, rfl⟩) (ed_var rfl) fun i hi => ?_) fun v d H' i c dv => ⟨i, d, c, dv⟩⟩
    exact ⟨_, rfl, by omega, by omega⟩

def R_turned (ds : List PyData) (d : PyData) : Prop := ∃ (Q : Pc) (t : Nat), ds = [pcD Q, .int (t : Int)] ∧ t < 8 ∧ Q.b.Nodup ∧ Q.b.length ≤ 300 ∧ d = pcD (turnP Q t)
theorem ok__law_turned_piece (T : Tp K mg) : FnOk P w K mg base CX0 1 T._law_turned_piece.f T._law_turned_piece.fd ["_law_piece", "_law_turn"] (spD R_turned) := by
  refine pure_ok T._law_turned_piece.F sc__law_turned_piece (fun ds d h => ?_) (fun cdv A outer s H E hr => ⟨_, (pss_cons (ps_asg (pv 0) (pg_tup rfl (pgs_cons (pg_name (i := 2) sc__law_turned_piece.nd rfl (.inl rfl)) (pgs_cons (pg_name (i := 3) sc__law_turned_piece.nd rfl (.inl rfl)) (pgs_cons (pg_name (i := 4) sc__law_turned_piece.nd rfl (.inl rfl)) pgs_nil)))))
      (pss_cons (ps_set (i := 5) sc__law_turned_piece.nd rfl (.inl rfl) (pe_ifExp (pt_cmpR op_ge (pv 1) pe_int (nomark _)) (pe_tup (pa_cons (pe_op op_sub pe_int (pe_ix ix_tup (pv 4) pe_int (fun _ _ => rfl))) (pa_cons (pe_ix ix_tup (pv 4) pe_int (fun _ _ => rfl)) pa_nil))) (pv 4)))
      (pss_cons (ps_set (i := 2) sc__law_turned_piece.nd rfl (.inl rfl) (pe_ifExp (pt_cmpR op_ge (pv 1) pe_int (nomark _)) (pe_callTy call_tuple_of (by rfl) T.n_tuple (by decide +kernel) (pa_cons (pe_lc (own := [("_law_cell", 7)]) rfl sc__law_turned_piece.nd (pi_tup (pv 2)) (blkOk_by (N := N__law_turned_piece) (sc := defScope s__law_turned_piece) (by decide +kernel)) (fun _ _ _ _ _ => (pg_name (i := 7) sc__law_turned_piece.nd rfl (.inl rfl))) (fun _ _ _ _ _ => pts_nil) (fun _ _ _ _ _ => (pe_tup (pa_cons (pe_op op_sub pe_int (pe_ix (show IxR _ (rIxT K) from ix_tup) (pv 7) pe_int (fun _ _ => rfl))) (pa_cons (pe_ix (show IxR _ (rIxT K) from ix_tup) (pv 7) pe_int (fun _ _ => rfl)) (pa_cons (pe_ix (show IxR _ (rIxT K) from ix_tup) (pv 7) pe_int (fun _ _ => rfl)) pa_nil)))))) pa_nil)) (pv 2)))
      (pss_cons (ps_for PassesOwn.never rfl (pi_range1 (by rfl) T.n_range (pa_cons (pe_op op_mod (pe_callTy call_int1 (by rfl) T.n_int (by decide +kernel) (pa_cons (pv 1) pa_nil)) pe_int) pa_nil)) (pg_name (i := 6) sc__law_turned_piece.nd rfl (.inl rfl)) (pss_cons (ps_set (i := 2) sc__law_turned_piece.nd rfl (.inl rfl) (pe_callTy call_tuple_of (by rfl) T.n_tuple (by decide +kernel) (pa_cons (pe_lc (own := [("_law_cell", 7)]) rfl sc__law_turned_piece.nd (pi_tup (pv 2)) (blkOk_by (N := N__law_turned_piece) (sc := defScope s__law_turned_piece) (by decide +kernel)) (fun _ _ _ _ _ => (pg_name (i := 7) sc__law_turned_piece.nd rfl (.inl rfl))) (fun _ _ _ _ _ => pts_nil) (fun _ _ _ _ _ => (pe_tup (pa_cons (pe_op op_sub pe_int (pe_ix (show IxR _ (rIxT K) from ix_tup) (pv 7) pe_int (fun _ _ => rfl))) (pa_cons (pe_ix (show IxR _ (rIxT K) from ix_tup) (pv 7) pe_int (fun _ _ => rfl)) (pa_cons (pe_ix (show IxR _ (rIxT K) from ix_tup) (pv 7) pe_int (fun _ _ => rfl)) pa_nil)))))) pa_nil)))
      (pss_one (ps_set (i := 5) sc__law_turned_piece.nd rfl (.inl rfl) (pe_tup (pa_cons (pe_op op_sub pe_int (pe_ix ix_tup (pv 5) pe_int (fun _ _ => rfl))) (pa_cons (pe_ix ix_tup (pv 5) pe_int (fun _ _ => rfl)) pa_nil)))))))
      (pss_one (ps_ret (pe_tup (pa_cons (pe_callTy call_tuple_of (by rfl) T.n_tuple (by decide +kernel) (pa_cons (pe_callB (cr_sortedTup hr.units) (by rfl) T.n_sorted (by decide +kernel) (pa_cons (pv 2) pa_nil)) pa_nil)) (pa_cons (pv 3) (pa_cons (pv 5) pa_nil)))))))))), fun ds d h => ?_⟩)
  · obtain ⟨b, x, rfl, _⟩ := h
    rfl
  · obtain ⟨Q, t, rfl, ht, hn, hl, rfl⟩ := h
    refine s_seq (s_asgT (ks := [2, 3, 4]) (ds := [bD Q.b, .int (Q.per : Int), pD Q.m]) (ed_var rfl) rfl) ?_
    obtain ⟨fl, hfl⟩ : ∃ fl : P2 → P2, fl = fun p => if 4 ≤ t then flipP p else p := ⟨_, rfl⟩
    have ec : ∀ {x : Bool}, x = decide ((t : Int) ≥ 4) → (x = true → 4 ≤ t) ∧ (x = false → ¬ 4 ≤ t) := fun {x} e => by
      subst e
      refine ⟨fun h => ?_, fun h => ?_⟩
      · have := of_decide_eq_true h; omega
      · have := of_decide_eq_false h; omega
    refine s_seq (s_asg (d := pD (fl Q.m)) (ed_ifExp (et_T (ed_opB (g := fun i j => decide (i ≥ j)) (ed_var rfl) ed_int)) (fun u => ?_) fun u => ?_)) ?_
    · rw [hfl]
      show Ed _ _ (pD (if 4 ≤ t then flipP Q.m else Q.m))
      rw [if_pos ((ec rfl).1 u)]
      exact ed_tup (ea_cons (ed_opI (g := fun i j => i - j) ed_int (ed_ixT (ed_var rfl) ed_int rfl)) (ea_cons (ed_ixT (ed_var rfl) ed_int rfl) ea_nil))
    · rw [hfl]
      show Ed _ _ (pD (if 4 ≤ t then flipP Q.m else Q.m))
      rw [if_neg ((ec rfl).2 u)]
      exact ed_var rfl
    refine s_seq (s_asg (d := bD (Q.b.map fl)) (ed_ifExp (et_T (ed_opB (g := fun i j => decide (i ≥ j)) (ed_var rfl) ed_int)) (fun u => ?_) fun u => ?_)) ?_
    · refine ed_tupL ?_
      have e : (Q.b.map fl).map cD = given flD (Q.b.map cD) := by
        have e0 : Q.b.map fl = Q.b.map flipP := List.map_congr_left fun p _ => by rw [hfl]; exact if_pos ((ec rfl).1 u)
        rw [e0]
        exact (given_map (g := flipP) (fun p => rfl) Q.b).symm
      rw [e]
      refine ed_lcT (ed_var rfl) ⟨fun d hd => ?_⟩ (fun d hd e he => ?_) (by rw [List.length_map]; omega)
      · obtain ⟨p, _, rfl⟩ := List.mem_map.mp hd
        refine ⟨_, tg_name (by simp), et_yes, fun e he => ?_⟩
        cases he
        exact ed_tup (ea_cons (ed_opI (g := fun i j => i - j) ed_int (ed_ixT (ed_var rfl) ed_int rfl)) (ea_cons (ed_ixT (ed_var rfl) ed_int rfl) (ea_cons (ed_ixT (ed_var rfl) ed_int rfl) ea_nil)))
      · obtain ⟨p, _, rfl⟩ := List.mem_map.mp hd
        cases he
        rfl
    · have e0 : Q.b.map fl = Q.b := by
        rw [hfl]
        have e1 : (fun p : P2 => if 4 ≤ t then flipP p else p) = id := by
          funext p
          exact if_neg ((ec rfl).2 u)
        rw [e1, List.map_id]
      rw [e0]
      exact ed_var rfl
    have e0 : (Q.b.map fl).map (qN 0) = Q.b.map fl := by
      have e1 : qN 0 = id := by funext p; rfl
      rw [e1, List.map_id]
    have loop := s_forR (ta := tCons (tOp (rI (fun _ j => 0 < j) fun i j => .int (i % j)) (tCB rInt1 (tCons (tVar 1) tNil)) (tC (.int 4))) tNil) (k := 6) (n := t % 4) (tb := tSeq (tAsg (tCB (rTupOf K) (tCons (tLc (iTup K (tVar 2)) (gName 7) tYes (tTup (tCons (tOp (rI0 fun i j => .int (i - j)) (tC (.int 0)) (tOp (rIxT K) (tVar 7) (tC (.int 1)))) (tCons (tOp (rIxT K) (tVar 7) (tC (.int 0))) (tCons (tOp (rIxT K) (tVar 7) (tC (.int 2))) tNil)))) [7]) tNil)) (gName 2)) (tAsg (tTup (tCons (tOp (rI0 fun i j => .int (i - j)) (tC (.int 0)) (tOp (rIxT K) (tVar 5) (tC (.int 1)))) (tCons (tOp (rIxT K) (tVar 5) (tC (.int 0))) tNil))) (gName 5)))
      (fun i => [some (pcD Q), some (.int (t : Int)), some (bD ((Q.b.map fl).map (qN i))), some (.int (Q.per : Int)), some (pD Q.m), some (pD (qN i (fl Q.m))), none, none]) (ea_cons (ed_opC (g := fun i j => i % j) (i := (t : Int)) (j := 4) (ed_int1 (ed_var rfl)) ed_int (by decide)) ea_nil) (by omega) fun i hi => ?_
    · rw [e0] at loop
      refine s_seq loop ?_
      have eB : (Q.b.map fl).map (qN (t % 4)) = Q.b.map (tuP t) := by
        rw [List.map_map]
        refine List.map_congr_left fun p _ => ?_
        show qN (t % 4) (fl p) = tuP t p
        rw [hfl]
        rfl
      have eM : qN (t % 4) (fl Q.m) = tuP t Q.m := by
        rw [hfl]
        rfl
      rw [eB, eM]
      have hs := ed_sortedTup (ds := (Q.b.map (tuP t)).map cD) (ta := tVar 2) (Γ := [some (pcD Q), some (.int (t : Int)), some (bD (Q.b.map (tuP t))), some (.int (Q.per : Int)), some (pD Q.m), some (pD (tuP t Q.m)), none, none]) (ed_var rfl) (cD_sorts (by rw [List.length_map]; omega))
      rw [sort_enc le_cD (nodup_tu hn t)] at hs
      exact s_ret (ed_tup (ea_cons (ed_tupL hs) (ea_cons (ed_var rfl) (ea_cons (ed_var rfl) ea_nil))))
    · have en : (Q.b.map fl).map (qN (i + 1)) = ((Q.b.map fl).map (qN i)).map quarP := by
        rw [List.map_map, List.map_map, List.map_map]
        rfl
      rw [en]
      have hB : ((Q.b.map fl).map (qN i)).length ≤ 300 := by rw [List.length_map, List.length_map]; exact hl
      generalize (Q.b.map fl).map (qN i) = B at hB ⊢
      show S _ [some (pcD Q), some (.int (t : Int)), some (bD B), some (.int (Q.per : Int)), some (pD Q.m), some (pD (qN i (fl Q.m))), some (.int (i : Int)), none] (.inl [some (pcD Q), some (.int (t : Int)), some (bD (B.map quarP)), some (.int (Q.per : Int)), some (pD Q.m), some (pD (quarP (qN i (fl Q.m)))), none, none])
      generalize qN i (fl Q.m) = M
      have e : (B.map quarP).map cD = given quD (B.map cD) := (given_map (g := quarP) (fun p => rfl) B).symm
      refine S.le (s_seq (s_asg (d := bD (B.map quarP)) (ed_tupL ?_)) (s_asg (d := pD (quarP M)) (ed_tup (ea_cons (ed_opI (g := fun i j => i - j) ed_int (ed_ixT (ed_var rfl) ed_int rfl)) (ea_cons (ed_ixT (ed_var rfl) ed_int rfl) ea_nil))))) (by simp [LeG])
      rw [e]
      refine ed_lcT (ed_var rfl) ⟨fun d hd => ?_⟩ (fun d hd e he => ?_) (by rw [List.length_map]; omega)
      · obtain ⟨p, _, rfl⟩ := List.mem_map.mp hd
        refine ⟨_, tg_name (by simp), et_yes, fun e he => ?_⟩
        cases he
        exact ed_tup (ea_cons (ed_opI (g := fun i j => i - j) ed_int (ed_ixT (ed_var rfl) ed_int rfl)) (ea_cons (ed_ixT (ed_var rfl) ed_int rfl) (ea_cons (ed_ixT (ed_var rfl) ed_int rfl) ea_nil)))
      · obtain ⟨p, _, rfl⟩ := List.mem_map.mp hd
        cases he
        rfl

theorem kit_small : ∀ Q ∈ kitL, Q.b.Nodup ∧ Q.b.length ≤ 10 ∧ Q.per ≤ 4 ∧ ∀ t, t < 8 → (-2 ≤ (turnP Q t).m.1 ∧ (turnP Q t).m.1 ≤ 2) ∧ -2 ≤ (turnP Q t).m.2 ∧ (turnP Q t).m.2 ≤ 2 := by decide +kernel
theorem pcD_flat (l : List Pc) : FlL (l.map pcD) = true := tol_mem fun d m => by
  obtain ⟨p, _, rfl⟩ := List.mem_map.mp m
  exact fl_pc p
def Q_some (ds : List PyData) (C : PyData → Prop) : Prop := ∃ far : Int, ds = [.int far] ∧ 0 ≤ far ∧ far ≤ 1000 ∧ C = fun d => ∃ R, d = pcD R ∧ SomePc far R
theorem ok__law_some_piece (T : Tp K mg) : FnOk P w K mg base CX0 3 T._law_some_piece.f T._law_some_piece.fd ["_law_row", "_law_far"] (spR K Q_some) := by
  refine row_ok T._law_some_piece.F sc__law_some_piece (fun ds C h => ?_) (fun cdv A outer s H E hr => ⟨_, (pss_cons (ps_par (i := 2) (j := 3) (by rfl) sc__law_some_piece.nd rfl rfl (by decide) rfl rfl (pa_cons (pe_call (ok__law_turned_piece T) (hr.mono (by decide)) (by rfl) T._law_turned_piece.g T._law_turned_piece.F.kp T.b__law_turned_piece .nil pass0 (pa_cons (pe_call (ok__law_pick T) (hr.mono (by decide)) (by rfl) T._law_pick.g T._law_pick.F.kp T.b__law_pick .nil pass0 (pa_cons (pv 0) (pa_cons (pe_call0 (ok__law_kit T) (hr.mono (by decide)) (by rfl) T._law_kit.g T._law_kit.F.kp T.b__law_kit .nil pass0) pa_nil))) (pa_cons (pe_call (ok__law_taken T) (hr.mono (by decide)) (by rfl) T._law_taken.g T._law_taken.F.kp T.b__law_taken .nil pass0 (pa_cons (pv 0) (pa_cons pe_int pa_nil))) pa_nil))) (pa_cons (pe_call (ok__law_pick T) (hr.mono (by decide)) (by rfl) T._law_pick.g T._law_pick.F.kp T.b__law_pick .nil pass0 (pa_cons (pv 0) (pa_cons (pe_lst (pa_cons pe_int (pa_cons pe_int (pa_cons pe_int (pa_cons pe_int pa_nil))))) pa_nil))) pa_nil)) (by rfl))
      (pss_cons (ps_set (i := 4) sc__law_some_piece.nd rfl (.inl rfl) (pe_call (ok__law_moved T) (hr.mono (by decide)) (by rfl) T._law_moved.g T._law_moved.F.kp T.b__law_moved .nil pass0 (pa_cons (pe_ix ix_tup (pv 2) pe_int (fun _ _ => rfl)) (pa_cons (pe_call (ok__law_signed T) (hr.mono (by decide)) (by rfl) T._law_signed.g T._law_signed.F.kp T.b__law_signed .nil pass0 (pa_cons (pv 0) (pa_cons (pv 1) pa_nil))) (pa_cons (pe_call (ok__law_signed T) (hr.mono (by decide)) (by rfl) T._law_signed.g T._law_signed.F.kp T.b__law_signed .nil pass0 (pa_cons (pv 0) (pa_cons (pv 1) pa_nil))) pa_nil)))))
      (pss_one (ps_ret (pe_tup (pa_cons (pv 4) (pa_cons (pe_op op_mul (pe_ix ix_tup (pv 2) pe_int (fun _ _ => rfl)) (pv 3)) (pa_cons (pe_tup (pa_cons (pe_op op_mul (pe_ix ix_tup (pe_ix ix_tup (pv 2) pe_int (fun _ _ => rfl)) pe_int (fun _ _ => rfl)) (pv 3)) (pa_cons (pe_op op_mul (pe_ix ix_tup (pe_ix ix_tup (pv 2) pe_int (fun _ _ => rfl)) pe_int (fun _ _ => rfl)) (pv 3)) pa_nil))) pa_nil)))))))), fun r ds C h => ?_⟩)
  · obtain ⟨most, rfl, _⟩ := h
    rfl
  · obtain ⟨far, rfl, h0, h1, rfl⟩ := h
    have ts : TsG [some (rawD r), some (.int far), none, none, none] := tsG_of (by simp [ts_raw]; rfl)
    refine ⟨[], mjr_par (C := fun d => ∃ R, d = pcD R ∧ KitP R) (C' := fun d => ∃ mu : Nat, d = .int (mu : Int) ∧ (mu = 1 ∨ mu = 2)) ts ?_ ?_ (fun d ⟨R, e, _⟩ => by rw [e]; exact ts_fl (fl_pc R)) fun d d' ⟨R, e, hR⟩ ⟨mu, e', hmu⟩ => ?_⟩
    · refine er_callP (ar_cons (C := fun d => d ∈ kitL.map pcD) ts (er_callR (ds := [.list (kitL.map pcD)]) (ea_cons (ed_var rfl) (ea_cons (ed_call ea_nil ⟨rfl, rfl⟩) ea_nil)) ⟨_, rfl, pcD_flat kitL, trivial, by decide, by decide, rfl⟩)
        (ar_cons (C := fun d => ∃ v, d = .int v ∧ 0 ≤ v ∧ v < 8) ts (er_callR (ds := [.int 8]) (ea_cons (ed_var rfl) (ea_cons ed_int ea_nil)) ⟨8, rfl, by decide, by decide, rfl⟩) ar_nil (fun d ⟨v, e, _⟩ => by rw [e]; rfl)) (fun d hd => ?_)) (fun l hl => ?_)
      · obtain ⟨Q, _, rfl⟩ := List.mem_map.mp hd
        exact ts_fl (fl_pc Q)
      · obtain ⟨d, ds, rfl, hd, d2, ds2, rfl, ⟨v, rfl, v0, v8⟩, rfl⟩ := hl
        obtain ⟨Q, hQ, rfl⟩ := List.mem_map.mp hd
        have ks := kit_small Q hQ
        have ev : ((v.toNat : Nat) : Int) = v := by omega
        exact ⟨_, ⟨Q, v.toNat, by rw [ev], by omega, ks.1, by omega, rfl⟩, _, rfl, Q, hQ, v.toNat, by omega, rfl⟩
    · intro σ H sl i Q q
      refine er_callR (K := K) (r := r) (Γ := [some (rawD r), some (.int far), none, none, none]) (ds := [.list [.int 1, .int 1, .int 1, .int 2]]) (C := fun d => d ∈ [PyData.int 1, .int 1, .int 1, .int 2]) (ea_cons (ed_var rfl) (ea_cons (ed_lst (ea_cons ed_int (ea_cons ed_int (ea_cons ed_int (ea_cons ed_int ea_nil))))) ea_nil)) ⟨_, rfl, rfl, trivial, by decide, by decide, rfl⟩ σ H sl i Q fun v d H' x t i' c dv => q v d H' x t i' ?_ dv
      rcases List.mem_cons.mp c with e | c
      · exact ⟨1, e, .inl rfl⟩
      rcases List.mem_cons.mp c with e | c
      · exact ⟨1, e, .inl rfl⟩
      rcases List.mem_cons.mp c with e | c
      · exact ⟨1, e, .inl rfl⟩
      · exact ⟨2, List.mem_singleton.mp c, .inr rfl⟩
    · subst e e'
      obtain ⟨Q, hQ, t, ht, rfl⟩ := hR
      have ks := kit_small Q hQ
      have km := ks.2.2.2 t ht
      have lb : (turnP Q t).b.length ≤ 40000 := by
        show (sortU (Q.b.map (tuP t))).length ≤ 40000
        rw [← sort_leP (nodup_tu ks.1 t), List.length_mergeSort, List.length_map]
        omega
      have per : (turnP Q t).per ≤ 4 := ks.2.2.1
      have kp : KitP (turnP Q t) := ⟨Q, hQ, t, ht, rfl⟩
      clear hQ ht ks
      generalize turnP Q t = P at km lb per kp ⊢
      have ts2 : TsG [some (rawD r), some (.int far), some (pcD P), some (.int (mu : Int)), none] := tsG_of (by simp [ts_raw]; exact ⟨rfl, ts_fl (fl_pc P), rfl⟩)
      refine mjr_asg (C := fun d => ∃ v : P2, d = bD (mv v P.b) ∧ -far ≤ v.1 ∧ v.1 ≤ far ∧ -far ≤ v.2 ∧ v.2 ≤ far) ts2 (er_callP (ar_cons ts2 (er_ed (C := fun d => d = bD P.b) (ed_ixT (ed_var rfl) ed_int rfl) rfl) (ar_cons ts2 (er_callR (ds := [.int far]) (ea_cons (ed_var rfl) (ea_cons (ed_var rfl) ea_nil)) ⟨far, rfl, h0, h1, rfl⟩) (ar_cons ts2 (er_callR (ds := [.int far]) (ea_cons (ed_var rfl) (ea_cons (ed_var rfl) ea_nil)) ⟨far, rfl, h0, h1, rfl⟩) ar_nil (fun d ⟨v, e, _⟩ => by rw [e]; rfl)) (fun d ⟨v, e, _⟩ => by rw [e]; rfl)) (fun d e => by rw [e]; exact ts_fl (fl_b _))) fun l hl => ?_) fun d hd => ?_
      · obtain ⟨d, ds, rfl, rfl, d2, ds2, rfl, ⟨x, rfl, x0, x1⟩, d3, ds3, rfl, ⟨y, rfl, y0, y1⟩, rfl⟩ := hl
        exact ⟨_, ⟨P.b, x, y, rfl, lb, rfl⟩, (x, y), rfl, x0, x1, y0, y1⟩
      · obtain ⟨v, rfl, hv⟩ := hd
        have m64 : -(2 ^ 64) < (mu : Int) ∧ (mu : Int) < 2 ^ 64 := by rcases hmu with e | e <;> rw [e] <;> decide
        have ep : ((P.per * mu : Nat) : Int) = (P.per : Int) * (mu : Int) := Int.natCast_mul ..
        have ed : Ed (tTup (tCons (tVar 4) (tCons (tOp (rI CMul fun i j => .int (i * j)) (tOp (rIxT K) (tVar 2) (tC (.int 1))) (tVar 3)) (tCons (tTup (tCons (tOp (rI CMul fun i j => .int (i * j)) (tOp (rIxT K) (tOp (rIxT K) (tVar 2) (tC (.int 2))) (tC (.int 0))) (tVar 3)) (tCons (tOp (rI CMul fun i j => .int (i * j)) (tOp (rIxT K) (tOp (rIxT K) (tVar 2) (tC (.int 2))) (tC (.int 1))) (tVar 3)) tNil))) tNil)))) [some (rawD r), some (.int far), some (pcD P), some (.int (mu : Int)), some (bD (mv v P.b))] (pcD (bigP P mu v)) := by
          have e : pcD (bigP P mu v) = .tuple [bD (mv v P.b), .int ((P.per : Int) * (mu : Int)), .tuple [.int (P.m.1 * mu), .int (P.m.2 * mu)]] := by
            rw [← ep]
            rfl
          rw [e]
          exact ed_tup (ea_cons (ed_var rfl) (ea_cons (ed_opC (g := fun i j => i * j) (ed_ixT (ed_var rfl) ed_int rfl) (ed_var rfl) (.inr m64)) (ea_cons (ed_tup (ea_cons (ed_opC (g := fun i j => i * j) (ed_ixT (ed_ixT (ed_var rfl) ed_int rfl) ed_int rfl) (ed_var rfl) (.inr m64)) (ea_cons (ed_opC (g := fun i j => i * j) (ed_ixT (ed_ixT (ed_var rfl) ed_int rfl) ed_int rfl) (ed_var rfl) (.inr m64)) ea_nil))) ea_nil)))
        exact mj_ret view_refl RowOk.stb ed fun v' H' i dv => ⟨i, _, ⟨_, rfl, P, mu, v, kp, hmu, hv.1, hv.2.1, hv.2.2.1, hv.2.2.2, rfl⟩, dv⟩
end
end Fb
/-! Promises: the law's own steps. -/
namespace Fb
open PySem PySem.Spec PyProof.Rows L2
open Evl (Ex)
section
variable {P : Program} {w : World} {K : PySem.W.Frag} {mg : Str → Option Value} {base : Heap}

theorem not_ints {H : Hp} {l : List P2} {n : Int} {ds : List PyData} {xs : List V} (h1 : DdL H (l.map pD) xs) (h2 : DdL H (.int n :: ds) xs) : False := by
  obtain ⟨x, ys, rfl, hx, _⟩ := h2
  cases l with
  | nil => cases (show _ = [] from h1)
  | cons p l =>
    obtain ⟨y, zs, e, hy, _⟩ := h1
    cases e
    obtain ⟨a, rfl, _⟩ := dd_pD.mp hy
    cases (show V.ref a = V.int n from hx)
theorem fl_places (l : List P2) : FlL (l.map pD) = true := tol_mem fun d m => by
  obtain ⟨i, _, rfl⟩ := List.mem_map.mp m
  rfl
def R_around (ds : List PyData) (d : PyData) : Prop := ∃ q : P2, ds = [pD q] ∧ d = .list ((around q).map pD)
abbrev arT : TE := tLst (tCons (tUn (rU fun i => .int (-i)) (tC (.int 1))) (tCons (tC (.int 0)) (tCons (tC (.int 1)) tNil)))
abbrev arIf (K : PySem.W.Frag) : TS := tIfS (tOr (tTest (tOp rNe (tVar 2) (tC (.int 0)))) (tTest (tOp rNe (tVar 3) (tC (.int 0)))))
  (tDrop (tBM K "list" rAppend (tVar 1) (tCons (tTup (tCons (tOp (rI0 fun i j => .int (i + j)) (tOp (rIxT K) (tVar 0) (tC (.int 0))) (tVar 2)) (tCons (tOp (rI0 fun i j => .int (i + j)) (tOp (rIxT K) (tVar 0) (tC (.int 1))) (tVar 3)) tNil))) tNil))) tNext
abbrev aG (q : P2) (p : Addr) (a b : Option PyData) : Gm := [some (pD q), some (rawD p), a, b]
theorem ar_if {H1 : Hp} {p : Addr} {q : P2} {s1 m1 : Int} {l : List P2} (hp : H1 p = none) (hl : l.length < 100000) (heq : PyData.eqv (.tuple [.int s1, .int m1]) (.tuple [.int 0, .int 0]) = decide ((s1, m1) = ((0, 0) : P2))) :
    MJ (fun a => a = p) (arIf K) (aG q p (some (.int s1)) (some (.int m1))) (ExL H1 p (l.map pD)) (aG q p (some (.int s1)) (some (.int m1))) (ExL H1 p ((l ++ if (s1, m1) = ((0, 0) : P2) then [] else [plus q (s1, m1)]).map pD)) (fun _ _ => False) := by
  have e : ((!decide (s1 = 0)) || (!decide (m1 = 0))) = !decide ((s1, m1) = ((0, 0) : P2)) := by
    by_cases h1 : s1 = 0 <;> by_cases h2 : m1 = 0 <;> simp [h1, h2]
  refine mj_if view_refl exL_stb (Et.to (et_or (et_T (ed_neI (i := s1) (j := 0) (ed_var rfl) ed_int)) fun _ => et_T (ed_neI (i := m1) (j := 0) (ed_var rfl) ed_int)) e) (fun u => ?_) fun u => ?_
  · have u2 : ¬ ((s1, m1) = ((0, 0) : P2)) := by
      intro z
      rw [decide_eq_true z] at u
      cases u
    rw [if_neg u2, List.map_append]
    refine mj_append (p := p) (ds := l.map pD) (d := pD (plus q (s1, m1))) view_refl exL_stb (tsG_of (by simp [ts_raw]; exact ⟨rfl, rfl, rfl⟩)) rfl (fun H i => i.2) rfl (ed_tup (ea_cons (ed_opI (g := fun i j => i + j) (ed_ixT (ed_var rfl) ed_int rfl) (ed_var rfl)) (ea_cons (ed_opI (g := fun i j => i + j) (ed_ixT (ed_var rfl) ed_int rfl) (ed_var rfl)) ea_nil))) rfl (by rw [List.length_map]; exact hl) fun H ys i o => exL_put hp i o
  · have u2 : (s1, m1) = ((0, 0) : P2) := by
      by_cases z : (s1, m1) = ((0, 0) : P2)
      · exact z
      · rw [decide_eq_false z] at u
        cases u
    rw [if_pos u2, List.append_nil]
    exact mj_next
theorem ok__law_around (T : Tp K mg) : FnOk P w K mg base CX0 1 T._law_around.f T._law_around.fd ["_law_place"] (spD R_around) := by
  refine pure_ok T._law_around.F sc__law_around (fun ds d h => ?_) (fun cdv A outer s H E hr => ⟨_, (pss_cons (ps_set (i := 1) sc__law_around.nd rfl (.inl rfl) (pe_lst pa_nil))
      (pss_cons (ps_for PassesOwn.never rfl (pi_list (pe_lst (pa_cons (pe_un un_neg pe_int) (pa_cons pe_int (pa_cons pe_int pa_nil))))) (pg_name (i := 2) sc__law_around.nd rfl (.inl rfl)) (pss_one (ps_for PassesOwn.never rfl (pi_list (pe_lst (pa_cons (pe_un un_neg pe_int) (pa_cons pe_int (pa_cons pe_int pa_nil))))) (pg_name (i := 3) sc__law_around.nd rfl (.inl rfl)) (pss_one (ps_if (pw_or (pt_cmpR op_ne (pv 2) pe_int (nomark _)) (pw_or1 (pt_cmpR op_ne (pv 3) pe_int (nomark _)))).pt (pss_one (ps_expr (pe_bm PySem.F.plainAttrs_list PySem.F.slot_list_append PySem.F.type_list_append mt_append (pv 1) (pa_cons (pe_tup (pa_cons (pe_op op_add (pe_ix ix_tup (pv 0) pe_int (fun _ _ => rfl)) (pv 2)) (pa_cons (pe_op op_add (pe_ix ix_tup (pv 0) pe_int (fun _ _ => rfl)) (pv 3)) pa_nil))) pa_nil)))) pss_nil)))))
      (pss_one (ps_ret (pv 1))))), fun ds d h => ?_⟩)
  · obtain ⟨q, rfl, _⟩ := h
    rfl
  · obtain ⟨q, rfl, rfl⟩ := h
    refine s_of_mj (Γ' := []) fun H0 => ?_
    refine mj_madeL (ds := []) ea_nil rfl (by decide) fun H1 p e1 hp => ?_
    have lit : ∀ {Γ : Gm}, Ed arT Γ (.list [.int (-1), .int 0, .int 1]) := fun {Γ} => ed_lst (ea_cons (ed_neg ed_int) (ea_cons ed_int (ea_cons ed_int ea_nil)))
    have z := mj_forL (K := K) (A := fun a => a = p) (R := fun _ _ => False) (t := tFor (iList K arT) (gName 3) (arIf K)) (g := gName 2) (tl := arT) (ds := [.int (-1), .int 0, .int 1]) (fun _ => aG q p none none) (fun j => ExL H1 p ((preA q (3 * j)).map pD)) (fun _ => exL_stb) lit (fun k H i a xs ea => by rw [ea]; exact i.2.nt xs)
      (fun H a xs i ea hx e => by rw [ea] at e; obtain ⟨ys, h1, h2⟩ := i.2.at_; rw [e] at h1; cases h1; exact not_ints h2 hx) fun j d hd => by
      obtain ⟨s1, rfl, h9⟩ := nine hd
      refine ⟨rfl, aG q p (some (.int s1)) none, tn_name, MJ.le (Γ1 := aG q p (some (.int s1)) none) ?_ (by simp [LeG])⟩
      refine mj_forL (K := K) (ds := [.int (-1), .int 0, .int 1]) (fun _ => aG q p (some (.int s1)) none) (fun k => ExL H1 p ((preA q (3 * j + k)).map pD)) (fun _ => exL_stb) lit (fun k H i a xs ea => by rw [ea]; exact i.2.nt xs)
        (fun H a xs i ea hx e => by rw [ea] at e; obtain ⟨ys, h1, h2⟩ := i.2.at_; rw [e] at h1; cases h1; exact not_ints h2 hx) fun k d hd => ?_
      have hk : k < 3 := (List.getElem?_eq_some_iff.mp hd).1
      obtain ⟨m1, ho, hm1, heq⟩ := h9 k hk
      rw [hm1] at hd
      cases hd
      refine ⟨rfl, aG q p (some (.int s1)) (some (.int m1)), tn_name, ?_⟩
      have sx := preA_succ (q := q) ho
      have sidx : 3 * j + (k + 1) = 3 * j + k + 1 := rfl
      rw [sidx, sx]
      exact (ar_if hp (Nat.lt_of_le_of_lt (preA_len q _) (by decide)) heq).le (by simp [LeG])
    refine mj_seq (fun D σ H s i n r => z D σ H s i n fun v H' _ f => f.elim) ?_
    exact mj_ret (view_at (k := 1) (d := .list ((around q).map pD)) rfl fun H i => i.2.dd) exL_stb (ed_var rfl) fun v H i dv => ⟨e1.trans i.1, dv⟩

/-! ### a step -/
theorem ed_dictPT {Γ : Gm} {te : TE} {m : List (P2 × PyData)} (h : Ed te Γ (.list (m.map pairD))) (hn : (m.map (·.1)).Nodup) (hs : ∀ e ∈ m, scD e.2 = true) (hl : m.length ≤ 100000) : Ed (tCB rDictPT (tCons te tNil)) Γ (dxD m) := fun σ H s Q q =>
  h σ H s _ fun x H1 e1 ⟨a, xs, hx, ha, hd⟩ => ⟨a, xs, m, by rw [hx], ha, hd, hs, hl, fun p hp => by
    have e : putAll m [] = vals m := by
      rw [putAll_nodup hn (fun e h => List.not_mem_nil)]
      rfl
    rw [e]
    exact q _ _ (e1.trans (Ex.new hp)) (dx_of upd_same hs)⟩
def prD : PyData → Option PyData
  | .tuple [x, y, s] => some (.tuple [.tuple [x, y], s])
  | _ => none
def prT : PyData → Option PyData
  | .tuple [x, y, _] => some (.tuple [.tuple [x, y], .bool true])
  | _ => none
theorem given_pr (b : Board) : given prD (b.map cD) = (ones b).map pairD := by
  unfold given ones
  induction b with
  | nil => rfl
  | cons p b ih => rw [List.map_cons, List.filterMap_cons]; show pairD (p, .int 1) :: _ = _; rw [ih]; rfl
def trues (b : List P2) : List (P2 × PyData) := b.map fun p => (p, .bool true)
theorem given_prT (b : Board) : given prT (b.map cD) = (trues b).map pairD := by
  unfold given trues
  induction b with
  | nil => rfl
  | cons p b ih => rw [List.map_cons, List.filterMap_cons]; show pairD (p, .bool true) :: _ = _; rw [ih]; rfl
theorem keys_trues (b : List P2) : (trues b).map (·.1) = b := by
  unfold trues
  rw [List.map_map]
  exact List.map_id b
theorem sc_trues (b : List P2) : ∀ e ∈ trues b, scD e.2 = true := fun e h => by
  obtain ⟨p, _, rfl⟩ := List.mem_map.mp h
  rfl
/-- the places that are marked -/
def mark (l : List P2) : List (P2 × PyData) := l.foldl (fun m q => pu m q (.bool true)) []
theorem mark_snoc (l : List P2) (q : P2) : mark (l ++ [q]) = pu (mark l) q (.bool true) := by
  unfold mark
  rw [List.foldl_append]
  rfl
theorem mark_nd : ∀ l, ((mark l).map (·.1)).Nodup := by
  refine rev_ind List.nodup_nil fun l a ih => ?_
  rw [mark_snoc]
  exact nodup_pu ih
theorem mark_len : ∀ l, (mark l).length ≤ l.length := by
  refine rev_ind (Nat.le_refl _) fun l a ih => ?_
  rw [mark_snoc, List.length_append]
  exact Nat.le_trans (length_pu _ _ _) (Nat.succ_le_succ ih)
theorem mark_mem {q : P2} : ∀ l, q ∈ (mark l).map (·.1) ↔ q ∈ l := by
  refine rev_ind Iff.rfl fun l a ih => ?_
  rw [mark_snoc, keys_pu, List.mem_append]
  by_cases z : a ∈ (mark l).map (·.1)
  · rw [if_pos z, ih]
    refine ⟨.inl, fun h => h.elim id fun h => ?_⟩
    have e : q = a := by simpa using h
    rw [e]
    have z2 := z
    rw [e] at ih
    exact ih.mp z2
  · rw [if_neg z, List.mem_append, ih]
theorem mj_mark {I : Hp → Prop} {Γ Γm : Gm} {B : Hp} {p : Addr} {k : Nat} {l : List P2} {q : P2} {tk : TE} {R : V → Hp → Prop} (vw : View (ExI B p (mark l)) Γ Γm) (ts : TsG Γ) (hk : Γ[k]? = some (some (rawD p))) (hB : B p = none) (he : Ed tk Γm (pD q)) (hl : l.length < 100000) :
    MJ (fun a => a = p) (sDPut (tVar k) tk (tC (.bl true))) Γ (ExI B p (mark l)) Γ (ExI B p (mark (l ++ [q]))) R := by
  rw [mark_snoc]
  exact mj_dput (p := p) (q := q) (x := .bool true) (m := mark l) vw exI_stb ts hk (fun H i => i.2) rfl he ed_bl rfl (Nat.lt_of_le_of_lt (mark_len l) hl) fun H i o => exI_put hB i o
abbrev sG (b : Board) (c p l : Addr) (x y : Option PyData) : Gm := [some RD, some (bD b), x, some (rawD c), some (rawD p), some (rawD l), y, none, none, none, none]
def spot (b : Board) : List P2 := b.flatMap fun q => q :: around q
theorem spot_len (b : Board) : (spot b).length ≤ 9 * b.length := by
  induction b with
  | nil => exact Nat.zero_le _
  | cons q b ih =>
    unfold spot at *
    rw [List.flatMap_cons, List.length_append]
    have e : (q :: around q).length = 9 := rfl
    have e1 : (q :: b).length = b.length + 1 := rfl
    omega
theorem st_mark {B : Hp} {c p l : Addr} {b : Board} (hB : B p = none) (hl : b.length ≤ 3000) :
    MJ (fun a => a = p) (tFor (iTup K (tVar 1)) (gName 2) (tSeq (sDPut (tVar 4) (tSl (rSlT K) (tVar 2) tNoPart (tPart (tC (.int 2)))) (tC (.bl true))) (tFor (iList K (tCall (spD R_around) [] E0 (tCons (tSl (rSlT K) (tVar 2) tNoPart (tPart (tC (.int 2)))) tNil))) (gName 6) (sDPut (tVar 4) (tVar 6) (tC (.bl true))))))
      (sG b c p l none none) (ExI B p (mark [])) (sG b c p l none none) (ExI B p (mark (spot b))) (fun _ _ => False) := by
  have z := mj_forT (K := K) (A := fun a => a = p) (R := fun _ _ => False) (t := tSeq (sDPut (tVar 4) (tSl (rSlT K) (tVar 2) tNoPart (tPart (tC (.int 2)))) (tC (.bl true))) (tFor (iList K (tCall (spD R_around) [] E0 (tCons (tSl (rSlT K) (tVar 2) tNoPart (tPart (tC (.int 2)))) tNil))) (gName 6) (sDPut (tVar 4) (tVar 6) (tC (.bl true)))))
    (g := gName 2) (tl := tVar 1) (ds := b.map cD) (fun _ => sG b c p l none none) (fun i => ExI B p (mark (spot (b.take i)))) (fun _ => exI_stb) (ed_var rfl) (fun k H i a xs ea => by rw [ea]; exact i.2.nt xs) fun i d hd => by
    rw [List.getElem?_map] at hd
    obtain ⟨q, hq, rfl⟩ : ∃ a, b[i]? = some a ∧ d = cD a := by
      cases z : b[i]? with
      | none => rw [z] at hd; cases hd
      | some a => rw [z] at hd; cases hd; exact ⟨a, rfl, rfl⟩
    have ll : (spot (b.take i)).length ≤ 27000 := by
      have z := spot_len (b.take i)
      have z2 := List.length_take_le' i b
      omega
    have en : spot (b.take (i + 1)) = spot (b.take i) ++ [q] ++ around q := by
      unfold spot
      rw [List.take_add_one, hq, List.flatMap_append]
      simp
    rw [en]
    generalize spot (b.take i) = L at ll ⊢
    have sl : ∀ {y : Option PyData}, Ed (tSl (rSlT K) (tVar 2) tNoPart (tPart (tC (.int 2)))) (sG b c p l (some (cD q)) y) (pD q) := fun {y} => ed_take (n := 2) (ds := [.int q.1, .int q.2, .int 1]) (ed_var rfl) ed_int (Nat.lt_succ_self 2)
    refine ⟨rfl, sG b c p l (some (cD q)) none, tn_name, ?_⟩
    have ts : ∀ {y : Option PyData}, (match y with | none => True | some d => Ts0 d = true) → TsG (sG b c p l (some (cD q)) y) := fun {y} hy => tsG_of (by simp [ts_raw]; exact ⟨rfl, ts_fl (fl_b b), rfl, hy⟩)
    refine MJ.le (Γ1 := sG b c p l (some (cD q)) none) (mj_seq (mj_mark (I := fun _ => True) view_refl (ts trivial) rfl hB sl (by omega)) ?_) (by simp [LeG])
    have y := mj_forL (K := K) (A := fun a => a = p) (R := fun _ _ => False) (t := sDPut (tVar 4) (tVar 6) (tC (.bl true))) (g := gName 6) (tl := tCall (spD R_around) [] E0 (tCons (tSl (rSlT K) (tVar 2) tNoPart (tPart (tC (.int 2)))) tNil)) (ds := (around q).map pD) (fun _ => sG b c p l (some (cD q)) none) (fun j => ExI B p (mark (L ++ [q] ++ (around q).take j))) (fun _ => exI_stb) (ed_call (ea_cons sl ea_nil) ⟨q, rfl, rfl⟩) (fun k H i a xs ea => by rw [ea]; exact i.2.nt xs)
      (fun H a xs i ea _ e => by rw [ea, i.2.at_] at e; cases e) fun j d hd => by
      rw [List.getElem?_map] at hd
      obtain ⟨x, hx, rfl⟩ : ∃ a, (around q)[j]? = some a ∧ d = pD a := by
        cases z : (around q)[j]? with
        | none => rw [z] at hd; cases hd
        | some a => rw [z] at hd; cases hd; exact ⟨a, rfl, rfl⟩
      refine ⟨rfl, sG b c p l (some (cD q)) (some (pD x)), tn_name, ?_⟩
      have el : ((around q).take j).length ≤ 8 := Nat.le_trans (List.length_take_le' ..) (Nat.le_of_eq rfl)
      have e2 : L ++ [q] ++ (around q).take (j + 1) = (L ++ [q] ++ (around q).take j) ++ [x] := by
        rw [List.take_add_one, hx, List.append_assoc (L ++ [q])]
        rfl
      rw [e2]
      exact MJ.le (mj_mark (I := fun _ => True) view_refl (ts (y := some (pD x)) rfl) rfl hB (ed_var rfl) (by rw [List.length_append, List.length_append, List.length_singleton]; omega)) (by simp [LeG])
    refine (y.pre fun H i => ?_).post fun H i => i
    show ExI B p (mark (L ++ [q] ++ [])) H
    rw [List.append_nil]
    exact i
  refine (z.pre fun H i => i).post fun H i => ?_
  rw [List.length_map, List.take_length] at i
  exact i
end
end Fb
/-! Promises: the law's own steps, nearness. -/
namespace Fb
open PySem PySem.Spec PyProof.Rows L2
open Evl (Ex)
section
variable {P : Program} {w : World} {K : PySem.W.Frag} {mg : Str → Option Value} {base : Heap}

theorem mj_Sr {A : Addr → Prop} {t : TS} {Γ Γm Γ' : Gm} {I I' : Hp → Prop} {R : V → Hp → Prop} {d : PyData} (vw : View I Γ Γm) (st : Stb I) (h : S t Γm (.inr d)) (hr : ∀ v H, I H → Dd H d v → R v H) : MJ A t Γ I Γ' I' R := fun D σ H s i n r =>
  h D σ H (vw σ H s i) fun v H' e dv => r v H' (.of e) (hr v H' (st _ _ i e) dv)
theorem mj_Sv {A : Addr → Prop} {t : TS} {Γ Γm Γ' : Gm} {I : Hp → Prop} {R : V → Hp → Prop} (vw : View I Γ Γm) (st : Stb I) (h : S t Γm (.inl Γ')) : MJ A t Γ I Γ' I R := fun D σ H s i n r =>
  h D σ H (vw σ H s i) fun σ' H' e s' => n σ' H' (.of e) s' (st _ _ i e)
theorem ed_catL {Γ : Gm} {ta tb : TE} {ds es : List PyData} (ha : Ed ta Γ (.list ds)) (hb : Ed tb Γ (.list es)) (hl : ds.length + es.length ≤ 100000) : Ed (tOp rCat ta tb) Γ (.list (ds ++ es)) :=
  ed_two ha hb fun x y H ⟨a, xs, ex, ha1, ha2⟩ ⟨c, ys, ey, hc1, hc2⟩ Q q => ⟨a, c, xs, ys, ex, ey, ha1, hc1, by rw [ha2.len, hc2.len]; exact Evl.sz_of hl, fun p hp => q _ _ (Ex.new hp) ⟨p, _, rfl, upd_same, DdL.ex (Ex.new hp) _ _ (ha2.append hc2)⟩⟩
theorem st_front {te : TE} {t : TS} {b : Board} {d : PyData} {Γ' : Gm} (he : Ed te [some RD, some (bD b), none, none, none, none, none, none, none, none, none] (dxD (ones b)))
    (h : ∀ (B : Hp) (c p l : Addr), B p = none → B c = some (HO.dT (kv (vals (ones b)))) → B l = some (HO.lst []) → MJ (fun a => a = p) t (sG b c p l none none) (ExI B p (mark [])) Γ' (fun _ => False) (fun v H' => Ex B H' ∧ Dd H' d v)) :
    S (tSeq (tAsg (tTup (tCons te (tCons tDNewT (tCons (tLst tNil) tNil)))) (gTup K 3 (gNames [3, 4, 5]))) t) [some RD, some (bD b), none, none, none, none, none, none, none, none, none] (.inr d) := fun D σ H s f =>
  he σ H s _ fun v H1 e1 dv => by
    obtain ⟨c, rfl, hc, sc⟩ := dd_dx dv
    intro p hp
    refine ⟨Nat.zero_le _, fun l hl => ⟨by show 3 ≤ sizeLine; decide, fun t0 ht => ?_⟩⟩
    obtain ⟨H2, hH2⟩ : ∃ H2, H2 = upd H1 p (HO.dT []) := ⟨_, rfl⟩
    rw [← hH2] at hl ht ⊢
    obtain ⟨H3, hH3⟩ : ∃ H3, H3 = upd H2 l (HO.lst []) := ⟨_, rfl⟩
    rw [← hH3] at ht ⊢
    obtain ⟨H4, hH4⟩ : ∃ H4, H4 = upd H3 t0 (HO.tup [V.ref c, V.ref p, V.ref l]) := ⟨_, rfl⟩
    have x12 : Ex H1 H2 := by rw [hH2]; exact Ex.new hp
    have x23 : Ex H2 H3 := by rw [hH3]; exact Ex.new hl
    have x34 : Ex H3 H4 := by rw [hH4]; exact Ex.new ht
    have x14 := (x12.trans x23).trans x34
    have p2 : H2 p = some (HO.dT []) := by rw [hH2]; exact upd_same
    have p4 : H4 p = some (HO.dT []) := x34 _ _ (x23 _ _ p2)
    have l3 : H3 l = some (HO.lst []) := by rw [hH3]; exact upd_same
    have l4 := x34 _ _ l3
    have c4 := x14 _ _ hc
    show gTup K 3 (gNames [3, 4, 5]) (V.ref t0) σ (upd H3 t0 (HO.tup [V.ref c, V.ref p, V.ref l])) _
    rw [← hH4]
    have t4 : H4 t0 = some (HO.tup [V.ref c, V.ref p, V.ref l]) := by rw [hH4]; exact upd_same
    have s4 : Sl H4 σ [some RD, some (bD b), none, none, none, none, none, none, none, none, none] := s.ex (e1.trans x14)
    refine ⟨t0, _, rfl, SqT.of t4, rfl, gNames_run (ks := [3, 4, 5]) (ds := [rawD c, rawD p, rawD l]) (vs := [3, 4, 5]) rfl s4 ⟨_, _, rfl, dd_raw.mpr rfl, _, _, rfl, dd_raw.mpr rfl, _, _, rfl, dd_raw.mpr rfl, rfl⟩ (fun _ m => m) _ fun σ' s' _ => ?_⟩
    have cp : c ≠ p := ne_of_none hc hp
    have lp : l ≠ p := fun e => by rw [e, p2] at hl; cases hl
    refine h (fun x => if x = p then none else H4 x) c p l (if_pos rfl) (by rw [if_neg cp]; exact c4) (by rw [if_neg lp]; exact l4) D σ' H4 s' ⟨fun x o e => ?_, ⟨p4, fun e h => (List.not_mem_nil h).elim, List.nodup_nil, Nat.zero_le _⟩⟩ (fun σ' H' _ _ z => z.elim) fun v H' _ rr => f v H' (fun x o e => rr.1 x o ?_) rr.2
    · have e' : (if x = p then none else H4 x) = some o := e
      by_cases z : x = p
      · rw [if_pos z] at e'; cases e'
      · rw [if_neg z] at e'; exact e'
    · have e2 := e1 _ _ e
      show (if x = p then none else H4 x) = some o
      rw [if_neg (ne_of_none e2 hp)]
      exact x14 _ _ e2

def inD (b : Board) : PyData → Option PyData
  | .tuple [.int x, .int y] => if (x, y) ∈ b then some (.int 1) else none
  | _ => none
theorem given_in (b : Board) (l : List P2) : (given (inD b) (l.map pD)).length = l.countP fun q => decide (q ∈ b) := by
  unfold given
  induction l with
  | nil => rfl
  | cons q l ih =>
    rw [List.map_cons, List.filterMap_cons, List.countP_cons]
    have e : inD b (pD q) = if q ∈ b then some (.int 1) else none := rfl
    rw [e]
    by_cases m : q ∈ b
    · rw [if_pos m, if_pos (decide_eq_true m)]
      show (List.filterMap (inD b) (List.map pD l)).length + 1 = _
      rw [ih]
    · rw [if_neg m, if_neg (by rw [decide_eq_true_eq]; exact m)]
      show (List.filterMap (inD b) (List.map pD l)).length = _
      rw [ih]
      rfl
theorem lo_ones_d {b : Board} {q : P2} : (lo (ones b) q).getD (.int 0) = .int (if q ∈ b then 1 else 0) := by
  by_cases m : q ∈ b
  · rw [lo_ones m, if_pos m]; rfl
  · rw [lo_none.mpr (by rw [keys_ones]; exact m), if_neg m]; rfl
def R_law_step (ds : List PyData) (d : PyData) : Prop := ∃ b : Board, ds = [RD, bD b] ∧ b.Nodup ∧ b.length ≤ 3000 ∧ d = bD (stepM b)
abbrev hG (b : Board) (m : List (P2 × PyData)) (f : List PyData) (x y z u : Option PyData) : Gm := [some RD, some (bD b), none, some (dxD (ones b)), some (dxD m), some (.list f), x, y, z, u, none]
def newI (b : Board) (q : P2) : Int := if Nx b q = true then 1 else 0
theorem st_turn {b : Board} {m : List (P2 × PyData)} {f : List P2} {q : P2} (hf : f.length ≤ 50000) :
    S (tSeq (tAsg (tCB (rLen K) (tCons (tLc (iList K (tCall (spD R_around) [] E0 (tCons (tVar 6) tNil))) (gName 10) (tTest (tOp rEq (tDGet2 (tVar 3) (tVar 10) (tC (.int 0))) (tC (.int 1)))) (tC (.int 1)) [10]) tNil)) (gName 7))
      (tSeq (tAsg (tDGet2 (tVar 3) (tVar 6) (tC (.int 0))) (gName 8))
      (tSeq (tIfS (tTest (tOp rEq (tVar 8) (tC (.int 0)))) (tAsg (tIf (tTest (tOp (rIn K false) (tVar 7) (tOp (rIxT K) (tVar 0) (tC (.int 0))))) (tC (.int 1)) (tC (.int 0))) (gName 9))
        (tIfS (tAnd (tTest (tOp rEq (tVar 8) (tC (.int 1)))) (tTest (tOp (rIn K false) (tVar 7) (tOp (rIxT K) (tVar 0) (tC (.int 1)))))) (tAsg (tC (.int 1)) (gName 9))
          (tAsg (tIf (tTest (tOp (rI0 fun i j => .bl (decide (i < j))) (tOp (rI0 fun i j => .int (i + j)) (tVar 8) (tC (.int 1))) (tOp (rIxT K) (tVar 0) (tC (.int 2))))) (tOp (rI0 fun i j => .int (i + j)) (tVar 8) (tC (.int 1))) (tC (.int 0))) (gName 9))))
      (tAsg (tIf (tTest (tOp (rI0 fun i j => .bl (decide (i > j))) (tVar 9) (tC (.int 0)))) (tOp rCat (tVar 5) (tLst (tCons (tOp (rCatT K) (tVar 6) (tTup (tCons (tVar 9) tNil))) tNil))) (tVar 5)) (gName 5)))))
      (hG b m (f.map cD) (some (pD q)) none none none) (.inl (hG b m ((f ++ if Nx b q = true then [q] else []).map cD) (some (pD q)) (some (.int (nb b q : Nat))) (some (.int (if q ∈ b then 1 else 0))) (some (.int (newI b q))))) := by
  have C : CompOk (gName 10) (tTest (tOp rEq (tDGet2 (tVar 3) (tVar 10) (tC (.int 0))) (tC (.int 1)))) (tC (.int 1)) (hG b m (f.map cD) (some (pD q)) none none none) [10] ((around q).map pD) (inD b) := ⟨fun d hd => by
    obtain ⟨x, _, rfl⟩ := List.mem_map.mp hd
    refine ⟨_, tg_name (by simp), Et.to (et_T (ed_eqI (i := if x ∈ b then 1 else 0) (j := 1) (Ed.to (ed_dget2 (p := x) (m := ones b) (e := .int 0) (Ed.dk (ed_var rfl)) (ed_var rfl) ed_int rfl) lo_ones_d) ed_int)) ?_, fun e he => ?_⟩
    · show _ = (if x ∈ b then some (PyData.int 1) else none).isSome
      by_cases z : x ∈ b
      · rw [if_pos z, if_pos z]; rfl
      · rw [if_neg z, if_neg z]; rfl
    · have he' : (if x ∈ b then some (PyData.int 1) else none) = some e := he
      by_cases z : x ∈ b
      · rw [if_pos z] at he'; cases he'; exact ed_int
      · rw [if_neg z] at he'; cases he'⟩
  have al : ((around q).map pD).length ≤ 40000 := by rw [List.length_map]; exact Nat.le_trans (Nat.le_of_eq (show (around q).length = 8 from rfl)) (by decide)
  have lc := ed_lcL (K := K) (tl := tCall (spD R_around) [] E0 (tCons (tVar 6) tNil)) (ed_call (ea_cons (ed_var rfl) ea_nil) ⟨q, rfl, rfl⟩) C (fun d hd e he => by
    obtain ⟨x, _, rfl⟩ := List.mem_map.mp hd
    have he' : (if x ∈ b then some (PyData.int 1) else none) = some e := he
    by_cases z : x ∈ b
    · rw [if_pos z] at he'; cases he'; rfl
    · rw [if_neg z] at he'; cases he') al
  have ln := ed_lenL (K := K) lc
  rw [given_in] at ln
  refine s_seq (s_asg (d := .int (nb b q : Nat)) ln) ?_
  refine s_seq (s_asg (d := .int (if q ∈ b then 1 else 0)) (Ed.to (ed_dget2 (p := q) (m := ones b) (e := .int 0) (Ed.dk (ed_var rfl)) (ed_var rfl) ed_int rfl) lo_ones_d)) ?_
  obtain ⟨st, hst⟩ : ∃ st : Int, st = if q ∈ b then 1 else 0 := ⟨_, rfl⟩
  rw [← hst]
  obtain ⟨nn, hnn⟩ : ∃ nn : Nat, nn = nb b q := ⟨_, rfl⟩
  show S _ (hG b m (f.map cD) (some (pD q)) (some (.int (nb b q : Nat))) (some (.int st)) none) _
  rw [← hnn]
  refine s_seq (Γ' := hG b m (f.map cD) (some (pD q)) (some (.int (nn : Int))) (some (.int st)) (some (.int (newI b q)))) (s_if (et_T (ed_eqI (i := st) (j := 0) (ed_var rfl) ed_int)) (fun u => ?_) fun u => ?_) ?_
  · have u := of_decide_eq_true u
    have nin : q ∉ b := fun m => by rw [if_pos m] at hst; omega
    refine s_asg (ed_ifExp (et_T (ed_in (ns := [3]) (i := (nn : Int)) (ed_var rfl) (ed_ixT (ed_var rfl) ed_int rfl))) (fun v => ?_) fun v => ?_)
    · have v := of_decide_eq_true v
      rw [List.mem_singleton] at v
      have e : newI b q = 1 := by
        unfold newI Nx
        rw [if_neg nin, ← hnn, if_pos (by simp; omega)]
      rw [e]
      exact ed_int
    · have v := of_decide_eq_false v
      rw [List.mem_singleton] at v
      have e : newI b q = 0 := by
        unfold newI Nx
        rw [if_neg nin, ← hnn, if_neg (by simp; omega)]
      rw [e]
      exact ed_int
  · have u := of_decide_eq_false u
    have hin : q ∈ b := by
      by_cases m : q ∈ b
      · exact m
      · rw [if_neg m] at hst; omega
    have e1 : st = 1 := by rw [hst, if_pos hin]
    subst e1
    refine s_if (et_and (b := true) (et_T (ed_eqI (i := 1) (j := 1) (ed_var rfl) ed_int)) fun _ => et_T (ed_in (ns := [2, 3]) (i := (nn : Int)) (ed_var rfl) (ed_ixT (ed_var rfl) ed_int rfl))) (fun v => ?_) fun v => ?_
    · rw [Bool.true_and] at v
      have v := of_decide_eq_true v
      rw [List.mem_cons, List.mem_singleton] at v
      have e : newI b q = 1 := by
        unfold newI Nx
        rw [if_pos hin, ← hnn, if_pos (by simp; omega)]
      rw [e]
      exact s_asg ed_int
    · rw [Bool.true_and] at v
      have v := of_decide_eq_false v
      rw [List.mem_cons, List.mem_singleton] at v
      have e : newI b q = 0 := by
        unfold newI Nx
        rw [if_pos hin, ← hnn, if_neg (by simp; omega)]
      rw [e]
      exact s_asg (ed_ifExp (b := false) (et_T (Ed.to (ed_opB (i := 1 + 1) (j := 2) (g := fun i j => decide (i < j)) (ed_opI (i := 1) (j := 1) (g := fun i j => i + j) (ed_var rfl) ed_int) (ed_ixT (ed_var rfl) ed_int rfl)) rfl)) (fun z => nomatch z) fun _ => ed_int)
  · refine s_asg (d := .list ((f ++ if Nx b q = true then [q] else []).map cD)) (ed_ifExp (et_T (ed_opB (g := fun i j => decide (i > j)) (i := newI b q) (j := 0) (ed_var rfl) ed_int)) (fun v => ?_) fun v => ?_)
    · have v := of_decide_eq_true v
      have e : Nx b q = true := by
        unfold newI at v
        by_cases z : Nx b q = true
        · exact z
        · rw [if_neg z] at v; omega
      have e2 : newI b q = 1 := if_pos e
      rw [if_pos e, List.map_append, e2]
      exact ed_catL (ed_var rfl) (ed_lst (ea_cons (ed_catT (ds := [.int q.1, .int q.2]) (es := [.int 1]) (ed_var rfl) (ed_tup (ea_cons (ed_var rfl) ea_nil)) (by simp) (by simp) (by simp)) ea_nil)) (by rw [List.length_map]; show f.length + 1 ≤ 100000; omega)
    · have v := of_decide_eq_false v
      have e : ¬ Nx b q = true := fun z => by
        unfold newI at v
        rw [if_pos z] at v
        omega
      rw [if_neg e, List.append_nil]
      exact ed_var rfl
theorem ok__law_step (T : Tp K mg) : FnOk P w K mg base CX0 2 T._law_step.f T._law_step.fd ["_law_rule", "_law_board"] (spD R_law_step) := by
  refine pure_ok T._law_step.F sc__law_step (fun ds d h => ?_) (fun cdv A outer s H E hr => ⟨_, (pss_cons (ps_asg (pe_tup (pa_cons (pe_callTy (cr_dictPT rfl hr.units) (by rfl) T.n_dict (by decide +kernel) (pa_cons (pe_lc (own := [("_law_cell", 2)]) rfl sc__law_step.nd (pi_tup (pv 1)) (blkOk_by (N := N__law_step) (sc := defScope s__law_step) (by decide +kernel)) (fun _ _ _ _ _ => (pg_name (i := 2) sc__law_step.nd rfl (.inl rfl))) (fun _ _ _ _ _ => pts_nil) (fun _ _ _ _ _ => (pe_tup (pa_cons (pe_slice (show SlR _ (rSlT K) from sl_tup) (pv 2) po_none (po_some pe_int)) (pa_cons (pe_ix (show IxR _ (rIxT K) from ix_tup) (pv 2) pe_int (fun _ _ => rfl)) pa_nil))))) pa_nil)) (pa_cons pe_dnewT (pa_cons (pe_lst pa_nil) pa_nil)))) (pg_tup rfl (pgs_cons (pg_name (i := 3) sc__law_step.nd rfl (.inr rfl)) (pgs_cons (pg_name (i := 4) sc__law_step.nd rfl (.inl rfl)) (pgs_cons (pg_name (i := 5) sc__law_step.nd rfl (.inl rfl)) pgs_nil)))))
      (pss_cons (ps_for PassesOwn.never rfl (pi_tup (pv 1)) (pg_name (i := 2) sc__law_step.nd rfl (.inl rfl)) (pss_cons (ps_dput (hu_of hr) (pv 4) (pe_slice sl_tup (pv 2) po_none (po_some pe_int)) pe_bl rfl)
      (pss_one (ps_for PassesOwn.never rfl (pi_list (pe_call (ok__law_around T) (hr.mono (by decide)) (by rfl) T._law_around.g T._law_around.F.kp T.b__law_around .nil pass0 (pa_cons (pe_slice sl_tup (pv 2) po_none (po_some pe_int)) pa_nil))) (pg_name (i := 6) sc__law_step.nd rfl (.inl rfl)) (pss_one (ps_dput (hu_of hr) (pv 4) (pv 6) pe_bl rfl))))))
      (pss_cons (ps_for PassesOwn.never rfl (pi_list (pe_callB (cr_sortedKeys rfl hr.units) (by rfl) T.n_sorted (by decide +kernel) (pa_cons (pe_bm0 PySem.F.plainAttrs_dict PySem.F.slot_dict_keys PySem.F.type_dict_keys mt_keysT (pv 4)) pa_nil))) (pg_name (i := 6) sc__law_step.nd rfl (.inl rfl)) (pss_cons (ps_set (i := 7) sc__law_step.nd rfl (.inl rfl) (pe_callB call_len_seq (by rfl) T.n_len PySem.boot_len (pa_cons (pe_lc (own := [("_law_one", 10)]) rfl sc__law_step.nd (pi_list (pe_call (ok__law_around T) (hr.mono (by decide)) (by rfl) T._law_around.g T._law_around.F.kp T.b__law_around .nil pass0 (pa_cons (pv 6) pa_nil))) (blkOk_by (N := N__law_step) (sc := defScope s__law_step) (by decide +kernel)) (fun _ _ _ _ _ => (pg_name (i := 10) sc__law_step.nd rfl (.inl rfl))) (fun _ _ _ _ _ => (pts_one (pt_cmpR op_eq (pe_dget2 (hu_of hr) (pv 3) (pv 10) pe_int ⟨rfl, rfl, rfl, rfl⟩) pe_int (nomark _)))) (fun _ _ _ _ _ => pe_int)) pa_nil)))
      (pss_cons (ps_set (i := 8) sc__law_step.nd rfl (.inl rfl) (pe_dget2 (hu_of hr) (pv 3) (pv 6) pe_int ⟨rfl, rfl, rfl, rfl⟩))
      (pss_cons (ps_if (pt_cmpR op_eq (pv 8) pe_int (nomark _)) (pss_one (ps_set (i := 9) sc__law_step.nd rfl (.inl rfl) (pe_ifExp (pt_cmpR op_in_seq (pv 7) (pe_ix ix_tup (pv 0) pe_int (fun _ _ => rfl)) (by rfl)) pe_int pe_int))) (pss_one (ps_if (pw_and (pt_cmpR op_eq (pv 8) pe_int (nomark _)) (pw_and1 (pt_cmpR op_in_seq (pv 7) (pe_ix ix_tup (pv 0) pe_int (fun _ _ => rfl)) (by rfl)))).pt (pss_one (ps_set (i := 9) sc__law_step.nd rfl (.inl rfl) pe_int)) (pss_one (ps_set (i := 9) sc__law_step.nd rfl (.inl rfl) (pe_ifExp (pt_cmpR op_lt (pe_op op_add (pv 8) pe_int) (pe_ix ix_tup (pv 0) pe_int (fun _ _ => rfl)) (nomark _)) (pe_op op_add (pv 8) pe_int) pe_int))))))
      (pss_one (ps_set (i := 5) sc__law_step.nd rfl (.inl rfl) (pe_ifExp (pt_cmpR op_gt (pv 9) pe_int (nomark _)) (pe_op op_cat (pv 5) (pe_lst (pa_cons (pe_op op_catT (pv 6) (pe_tup (pa_cons (pv 9) pa_nil))) pa_nil))) (pv 5))))))))
      (pss_one (ps_ret (pe_callTy call_tuple_of (by rfl) T.n_tuple (by decide +kernel) (pa_cons (pv 5) pa_nil))))))), fun ds d h => ?_⟩)
  · obtain ⟨b, rfl, _⟩ := h
    rfl
  · obtain ⟨b, rfl, hn, hl, rfl⟩ := h
    have lc := ed_lcT (K := K) (tl := tVar 1) (g := gName 2) (tt := tYes) (te := tTup (tCons (tSl (rSlT K) (tVar 2) tNoPart (tPart (tC (.int 2)))) (tCons (tOp (rIxT K) (tVar 2) (tC (.int 2))) tNil))) (vs := [2]) (f := prD) (ds := b.map cD) (Γ := [some RD, some (bD b), none, none, none, none, none, none, none, none, none]) (ed_var rfl) ⟨fun d hd => by
        obtain ⟨p, _, rfl⟩ := List.mem_map.mp hd
        refine ⟨_, tg_name (by simp), et_yes, fun e he => ?_⟩
        cases he
        exact ed_tup (ea_cons (ed_take (n := 2) (ds := [.int p.1, .int p.2, .int 1]) (ed_var rfl) ed_int (Nat.lt_succ_self 2)) (ea_cons (ed_ixT (ed_var rfl) ed_int rfl) ea_nil))⟩ (fun d hd e he => by
        obtain ⟨p, _, rfl⟩ := List.mem_map.mp hd
        cases he
        rfl) (by rw [List.length_map]; omega)
    rw [given_pr] at lc
    have dct := ed_dictPT lc (by rw [keys_ones]; exact hn) (sc_ones b) (by unfold ones; rw [List.length_map]; omega)
    refine st_front (K := K) (Γ' := []) dct fun B c p l hB hc hl2 => ?_
    have mk := st_mark (K := K) (B := B) (c := c) (p := p) (l := l) hB hl
    refine mj_seq (fun D σ H s i n r => mk D σ H s i n fun v H' _ f => f.elim) ?_
    have sl := spot_len b
    have ml := mark_len (spot b)
    obtain ⟨S0, hS0⟩ : ∃ S0, S0 = sortU ((mark (spot b)).map (·.1)) := ⟨_, rfl⟩
    have lS : S0.length ≤ 27000 := by
      rw [hS0, ← sort_leP (mark_nd _), List.length_mergeSort, List.length_map]
      omega
    have mS : ∀ q, q ∈ S0 ↔ q ∈ spot b := fun q => by rw [hS0, mem_sortU, mark_mem]
    have sS : Srt S0 := by rw [hS0]; exact srt_sortU _
    have vw : View (ExI B p (mark (spot b))) (sG b c p l none none) (hG b (mark (spot b)) [] none none none none) :=
      ((view_at (k := 3) (d := dxD (ones b)) rfl fun H i => dx_of (i.1 _ _ hc) (sc_ones b)).trans (view_at (k := 4) (d := dxD (mark (spot b))) rfl fun H i => dx_of i.2.at_ i.2.sc)).trans (view_at (k := 5) (d := .list []) rfl fun H i => ⟨l, [], rfl, i.1 _ _ hl2, rfl⟩)
    refine mj_Sr vw exI_stb ?_ fun v H i dv => ⟨i.1, dv⟩
    have fin : (S0.take S0.length).filter (Nx b) = stepM b := by
      rw [List.take_length]
      refine stepM_of (List.Pairwise.sublist (List.filter_sublist ..) sS) fun q => ?_
      rw [List.mem_filter, mS]
      refine ⟨fun h => h.2, fun h => ⟨?_, h⟩⟩
      unfold spot
      rw [List.mem_flatMap]
      by_cases m : q ∈ b
      · exact ⟨q, m, List.mem_cons_self ..⟩
      · unfold Nx at h
        rw [if_neg m] at h
        have h3 : nb b q = 3 := by simpa using h
        obtain ⟨x, hx, ha⟩ := countP_pos_mem (b := b) (p := q) (by omega)
        exact ⟨x, hx, List.mem_cons_of_mem _ ha⟩
    have hk : (mark (spot b)).map (fun e => pD e.1) = ((mark (spot b)).map (·.1)).map pD := by rw [List.map_map]; rfl
    have so := ed_sortedKeys (K := K) (ta := tVar 4) (Γ := hG b (mark (spot b)) [] none none none none) (m := mark (spot b)) (ed_var rfl) (by omega)
    rw [hk, sort_enc le_pD (mark_nd _), ← hS0] at so
    have loop := s_forL (K := K) (ds := S0.map pD) (g := gName 6) (fun i => hG b (mark (spot b)) (((S0.take i).filter (Nx b)).map cD) none none none none) so fun i d hd => by
      rw [List.getElem?_map] at hd
      obtain ⟨q, hq, rfl⟩ : ∃ a, S0[i]? = some a ∧ d = pD a := by
        cases z : S0[i]? with
        | none => rw [z] at hd; cases hd
        | some a => rw [z] at hd; cases hd; exact ⟨a, rfl, rfl⟩
      have lf : ((S0.take i).filter (Nx b)).length ≤ 50000 := by
        have h1 := List.length_filter_le (Nx b) (S0.take i)
        have h2 := List.length_take_le' i S0
        omega
      have en : (S0.take (i + 1)).filter (Nx b) = (S0.take i).filter (Nx b) ++ if Nx b q = true then [q] else [] := by
        rw [List.take_add_one, hq, List.filter_append]
        congr 1
        by_cases z : Nx b q = true
        · rw [if_pos z]; simp [z]
        · rw [if_neg z]; simp [z]
      rw [en]
      exact ⟨hG b (mark (spot b)) (((S0.take i).filter (Nx b)).map cD) (some (pD q)) none none none, tn_name, S.le (st_turn (K := K) lf) (by simp [LeG])⟩
    rw [List.length_map, fin] at loop
    exact s_seq loop (s_ret (ed_tupL (ed_var rfl)))
end
end Fb
/-! Promises: steps, a piece at, nearness, alikeness. -/
namespace Fb
open PySem PySem.Spec PyProof.Rows L2
open Evl (Ex)
section
variable {P : Program} {w : World} {K : PySem.W.Frag} {mg : Str → Option Value} {base : Heap}

def R_law_steps (ds : List PyData) (d : PyData) : Prop := ∃ (b : Board) (n : Nat), ds = [RD, bD b, .int (n : Int)] ∧ n ≤ 6000 ∧ PhOk b n ∧ d = bD (stepN n b)
theorem ok__law_steps (T : Tp K mg) : FnOk P w K mg base CX0 3 T._law_steps.f T._law_steps.fd ["_law_rule", "_law_board", "_law_many"] (spD R_law_steps) := by
  refine pure_ok T._law_steps.F sc__law_steps (fun ds d h => ?_) (fun cdv A outer s H E hr => ⟨_, (pss_cons (ps_for PassesOwn.never rfl (pi_range1 (by rfl) T.n_range (pa_cons (pv 2) pa_nil)) (pg_name (i := 3) sc__law_steps.nd rfl (.inl rfl)) (pss_one (ps_set (i := 1) sc__law_steps.nd rfl (.inl rfl) (pe_call (ok__law_step T) (hr.mono (by decide)) (by rfl) T._law_step.g T._law_step.F.kp T.b__law_step .nil pass0 (pa_cons (pv 0) (pa_cons (pv 1) pa_nil))))))
      (pss_one (ps_ret (pv 1)))), fun ds d h => ?_⟩)
  · obtain ⟨b, n, rfl, _⟩ := h
    rfl
  · obtain ⟨b, n, rfl, hn, hp, rfl⟩ := h
    exact s_seq (s_forR (k := 3) (n := n) (fun i => [some RD, some (bD (stepN i b)), some (.int (n : Int)), none]) (ea_cons (ed_var rfl) ea_nil) (by omega) fun i hi => S.le (s_asg (d := bD (stepN (i + 1) b)) (ed_call (ea_cons (ed_var rfl) (ea_cons (ed_var rfl) ea_nil)) ⟨stepN i b, rfl, (hp i (by omega)).1, (hp i (by omega)).2.1, rfl⟩)) (by simp [LeG])) (s_ret (ed_var rfl))

def R_law_piece_at (ds : List PyData) (d : PyData) : Prop := ∃ (P : Pc) (g : Nat), ds = [pcD P, .int (g : Int)] ∧ PcOk P ∧ d = bD (pos P g)
theorem ok__law_piece_at (T : Tp K mg) : FnOk P w K mg base CX0 4 T._law_piece_at.f T._law_piece_at.fd ["_law_piece", "_law_generation"] (spD R_law_piece_at) := by
  refine pure_ok T._law_piece_at.F sc__law_piece_at (fun ds d h => ?_) (fun cdv A outer s H E hr => ⟨_, (pss_cons (ps_par (i := 2) (j := 3) (by rfl) sc__law_piece_at.nd rfl rfl (by decide) rfl rfl (pa_cons (pe_op op_mod (pe_callTy call_int1 (by rfl) T.n_int (by decide +kernel) (pa_cons (pv 1) pa_nil)) (pe_ix ix_tup (pv 0) pe_int (fun _ _ => rfl))) (pa_cons (pe_op op_fdiv (pv 1) (pe_ix ix_tup (pv 0) pe_int (fun _ _ => rfl))) pa_nil)) (by rfl))
      (pss_one (ps_ret (pe_call (ok__law_moved T) (hr.mono (by decide)) (by rfl) T._law_moved.g T._law_moved.F.kp T.b__law_moved .nil pass0 (pa_cons (pe_call (ok__law_steps T) (hr.mono (by decide)) (by rfl) T._law_steps.g T._law_steps.F.kp T.b__law_steps .nil pass0 (pa_cons (pe_tup (pa_cons (pe_tup (pa_cons pe_int pa_nil)) (pa_cons (pe_tup (pa_cons pe_int (pa_cons pe_int pa_nil))) (pa_cons pe_int pa_nil)))) (pa_cons (pe_ix ix_tup (pv 0) pe_int (fun _ _ => rfl)) (pa_cons (pv 2) pa_nil)))) (pa_cons (pe_op op_mul (pv 3) (pe_ix ix_tup (pe_ix ix_tup (pv 0) pe_int (fun _ _ => rfl)) pe_int (fun _ _ => rfl))) (pa_cons (pe_op op_mul (pv 3) (pe_ix ix_tup (pe_ix ix_tup (pv 0) pe_int (fun _ _ => rfl)) pe_int (fun _ _ => rfl))) pa_nil))))))), fun ds d h => ?_⟩)
  · obtain ⟨P, g, rfl, _⟩ := h
    rfl
  · obtain ⟨P, g, rfl, hP, rfl⟩ := h
    have g1 := hP.p1
    have g2 := hP.p2
    have lt : g % P.per < P.per := Nat.mod_lt _ g1
    have ph := hP.ph.mono (Nat.le_of_lt lt)
    have m1 := hP.m1
    have m2 := hP.m2
    refine s_seq (s_par (d := .int ((g % P.per : Nat) : Int)) (e := .int ((g / P.per : Nat) : Int)) (ed_opC (g := fun i j => i % j) (i := (g : Int)) (j := (P.per : Int)) (ed_int1 (ed_var rfl)) (ed_ixT (ed_var rfl) ed_int rfl) (by omega)) (ed_opC (g := fun i j => i / j) (i := (g : Int)) (j := (P.per : Int)) (ed_var rfl) (ed_ixT (ed_var rfl) ed_int rfl) ⟨by omega, by omega⟩)) ?_
    have l3 := (ph _ (Nat.le_refl _)).2.1
    exact s_ret (ed_call (ea_cons (ed_call (ea_cons (ed_tup (ea_cons (ed_tup (ea_cons ed_int ea_nil)) (ea_cons (ed_tup (ea_cons ed_int (ea_cons ed_int ea_nil))) (ea_cons ed_int ea_nil)))) (ea_cons (ed_ixT (ed_var rfl) ed_int rfl) (ea_cons (ed_var rfl) ea_nil))) ⟨P.b, g % P.per, rfl, by omega, ph, rfl⟩)
      (ea_cons (ed_opC (g := fun i j => i * j) (i := ((g / P.per : Nat) : Int)) (j := P.m.1) (ed_var rfl) (ed_ixT (ed_ixT (ed_var rfl) ed_int rfl) ed_int rfl) (.inr ⟨by omega, by omega⟩)) (ea_cons (ed_opC (g := fun i j => i * j) (i := ((g / P.per : Nat) : Int)) (j := P.m.2) (ed_var rfl) (ed_ixT (ed_ixT (ed_var rfl) ed_int rfl) ed_int rfl) (.inr ⟨by omega, by omega⟩)) ea_nil))) ⟨stepN (g % P.per) P.b, _, _, rfl, by omega, rfl⟩)

/-! ### nearness -/
def fiveI : List Int := [-2, -1, 0, 1, 2]
abbrev five : List PyData := [.int (-2), .int (-1), .int 0, .int 1, .int 2]
theorem five_at {i : Nat} {d : PyData} (h : five[i]? = some d) : ∃ s, d = .int s ∧ fiveI[i]? = some s := by
  match i, h with
  | 0, h => cases h; exact ⟨_, rfl, rfl⟩
  | 1, h => cases h; exact ⟨_, rfl, rfl⟩
  | 2, h => cases h; exact ⟨_, rfl, rfl⟩
  | 3, h => cases h; exact ⟨_, rfl, rfl⟩
  | 4, h => cases h; exact ⟨_, rfl, rfl⟩
theorem five_mem {s : Int} : s ∈ fiveI ↔ In2 s := by
  unfold fiveI In2
  simp only [List.mem_cons, List.not_mem_nil, or_false]
  omega
/-- the hits of the loops -/
def hit2 (C : Board) (a : P2) (s : Int) : Bool := fiveI.any fun m => decide ((a.1 + s, a.2 + m) ∈ C)
def hit1 (C : Board) (a : P2) : Bool := fiveI.any fun s => hit2 C a s
theorem hit1_iff {C : Board} {a : P2} : hit1 C a = true ↔ ∃ c ∈ C, Nr a c := by
  unfold hit1 hit2
  rw [List.any_eq_true]
  constructor
  · rintro ⟨s, hs, h⟩
    obtain ⟨m, hm, h⟩ := List.any_eq_true.mp h
    refine ⟨_, of_decide_eq_true h, ?_⟩
    have h1 := five_mem.mp hs
    have h2 := five_mem.mp hm
    unfold Nr In2 at *
    simp only
    omega
  · rintro ⟨c, hc, n⟩
    refine ⟨c.1 - a.1, five_mem.mpr (by unfold Nr In2 at *; omega), List.any_eq_true.mpr ⟨c.2 - a.2, five_mem.mpr (by unfold Nr In2 at *; omega), ?_⟩⟩
    have e : ((a.1 + (c.1 - a.1), a.2 + (c.2 - a.2)) : P2) = c := by
      rcases c with ⟨x, y⟩
      simp only [Prod.mk.injEq]
      omega
    rw [e]
    exact decide_eq_true hc
theorem any_idx {α : Type} {l : List α} {f : α → Bool} : l.any f = true ↔ ∃ i, i < l.length ∧ (l[i]?.map f).getD false = true := by
  rw [List.any_eq_true]
  constructor
  · rintro ⟨x, hx, h⟩
    obtain ⟨i, hi, e⟩ := List.getElem_of_mem hx
    exact ⟨i, hi, by rw [List.getElem?_eq_getElem hi, e]; exact h⟩
  · rintro ⟨i, hi, h⟩
    rw [List.getElem?_eq_getElem hi] at h
    exact ⟨_, List.getElem_mem hi, h⟩
def R_are_near (ds : List PyData) (d : PyData) : Prop := ∃ A C : Board, ds = [bD A, bD C] ∧ C.Nodup ∧ C.length ≤ 3000 ∧ d = .bool (decide (Near A C))
abbrev nG (A C : Board) (x y s a b : Option PyData) : Gm := [some (bD A), some (bD C), some (dxD (trues C)), x, y, s, a, b, none]
theorem ok__law_are_near (T : Tp K mg) : FnOk P w K mg base CX0 1 T._law_are_near.f T._law_are_near.fd ["_law_board", "_law_other"] (spD R_are_near) := by
  refine pure_ok T._law_are_near.F sc__law_are_near (fun ds d h => ?_) (fun cdv A outer s H E hr => ⟨_, (pss_cons (ps_set (i := 2) sc__law_are_near.nd rfl (.inl rfl) (pe_callTy (cr_dictPT rfl hr.units) (by rfl) T.n_dict (by decide +kernel) (pa_cons (pe_lc (own := [("_law_cell", 8)]) rfl sc__law_are_near.nd (pi_tup (pv 1)) (blkOk_by (N := N__law_are_near) (sc := defScope s__law_are_near) (by decide +kernel)) (fun _ _ _ _ _ => (pg_name (i := 8) sc__law_are_near.nd rfl (.inl rfl))) (fun _ _ _ _ _ => pts_nil) (fun _ _ _ _ _ => (pe_tup (pa_cons (pe_slice (show SlR _ (rSlT K) from sl_tup) (pv 8) po_none (po_some pe_int)) (pa_cons pe_bl pa_nil))))) pa_nil)))
      (pss_cons (ps_for PassesOwn.never rfl (pi_tup (pv 0)) (pg_tup rfl (pgs_cons (pg_name (i := 3) sc__law_are_near.nd rfl (.inl rfl)) (pgs_cons (pg_name (i := 4) sc__law_are_near.nd rfl (.inl rfl)) (pgs_cons (pg_name (i := 5) sc__law_are_near.nd rfl (.inl rfl)) pgs_nil)))) (pss_one (ps_for PassesOwn.never rfl (pi_list (pe_lst (pa_cons (pe_un un_neg pe_int) (pa_cons (pe_un un_neg pe_int) (pa_cons pe_int (pa_cons pe_int (pa_cons pe_int pa_nil))))))) (pg_name (i := 6) sc__law_are_near.nd rfl (.inl rfl)) (pss_one (ps_for PassesOwn.never rfl (pi_list (pe_lst (pa_cons (pe_un un_neg pe_int) (pa_cons (pe_un un_neg pe_int) (pa_cons pe_int (pa_cons pe_int (pa_cons pe_int pa_nil))))))) (pg_name (i := 7) sc__law_are_near.nd rfl (.inl rfl)) (pss_one (ps_if (pt_cmp (pc_din (hu_of hr) (pe_tup (pa_cons (pe_op op_add (pv 3) (pv 6)) (pa_cons (pe_op op_add (pv 4) (pv 7)) pa_nil))) (pv 2)) rfl) (pss_one (ps_ret pe_bl)) pss_nil)))))))
      (pss_one (ps_ret pe_bl)))), fun ds d h => ?_⟩)
  · obtain ⟨A, C, rfl, _⟩ := h
    rfl
  · obtain ⟨A, C, rfl, hn, hl, rfl⟩ := h
    have lc := ed_lcT (K := K) (tl := tVar 1) (g := gName 8) (tt := tYes) (te := tTup (tCons (tSl (rSlT K) (tVar 8) tNoPart (tPart (tC (.int 2)))) (tCons (tC (.bl true)) tNil))) (vs := [8]) (f := prT) (ds := C.map cD) (Γ := [some (bD A), some (bD C), none, none, none, none, none, none, none]) (ed_var rfl) ⟨fun d hd => by
        obtain ⟨p, _, rfl⟩ := List.mem_map.mp hd
        refine ⟨_, tg_name (by simp), et_yes, fun e he => ?_⟩
        cases he
        exact ed_tup (ea_cons (ed_take (n := 2) (ds := [.int p.1, .int p.2, .int 1]) (ed_var rfl) ed_int (Nat.lt_succ_self 2)) (ea_cons ed_bl ea_nil))⟩ (fun d hd e he => by
        obtain ⟨p, _, rfl⟩ := List.mem_map.mp hd
        cases he
        rfl) (by rw [List.length_map]; omega)
    rw [given_prT] at lc
    have dct := ed_dictPT lc (by rw [keys_trues]; exact hn) (sc_trues C) (by unfold trues; rw [List.length_map]; omega)
    refine s_seq (s_asg dct) ?_
    have lit : ∀ {Γ : Gm}, Ed (tLst (tCons (tUn (rU fun i => .int (-i)) (tC (.int 2))) (tCons (tUn (rU fun i => .int (-i)) (tC (.int 1))) (tCons (tC (.int 0)) (tCons (tC (.int 1)) (tCons (tC (.int 2)) tNil)))))) Γ (.list five) := fun {Γ} => ed_lst (ea_cons (ed_neg ed_int) (ea_cons (ed_neg ed_int) (ea_cons ed_int (ea_cons ed_int (ea_cons ed_int ea_nil)))))
    -- one cell, one column
    have in3 : ∀ (a : P2) (s1 : Int) (o : Gm ⊕ PyData), (hit2 C a s1 = false → o = .inl (nG A C (some (.int a.1)) (some (.int a.2)) (some (.int 1)) (some (.int s1)) none)) → (hit2 C a s1 = true → o = .inr (.bool true)) →
        S (tFor (iList K (tLst (tCons (tUn (rU fun i => .int (-i)) (tC (.int 2))) (tCons (tUn (rU fun i => .int (-i)) (tC (.int 1))) (tCons (tC (.int 0)) (tCons (tC (.int 1)) (tCons (tC (.int 2)) tNil))))))) (gName 7) (tIfS (tB (tDIn (tTup (tCons (tOp (rI0 fun i j => .int (i + j)) (tVar 3) (tVar 6)) (tCons (tOp (rI0 fun i j => .int (i + j)) (tVar 4) (tVar 7)) tNil))) (tVar 2))) (tRet (tC (.bl true))) tNext))
          (nG A C (some (.int a.1)) (some (.int a.2)) (some (.int 1)) (some (.int s1)) none) o := fun a s1 o h1 h2 => by
      refine s_forL' (K := K) (ds := five) (n := 5) (r := .bool true) (fun _ => nG A C (some (.int a.1)) (some (.int a.2)) (some (.int 1)) (some (.int s1)) none) (fun k => ((fiveI[k]?).map fun m => decide ((a.1 + s1, a.2 + m) ∈ C)).getD false) lit rfl (fun k d hd => ?_) (fun h => ?_) fun h => ?_
      · obtain ⟨m1, rfl, hm⟩ := five_at hd
        have ec : Et (tB (tDIn (tTup (tCons (tOp (rI0 fun i j => .int (i + j)) (tVar 3) (tVar 6)) (tCons (tOp (rI0 fun i j => .int (i + j)) (tVar 4) (tVar 7)) tNil))) (tVar 2))) (nG A C (some (.int a.1)) (some (.int a.2)) (some (.int 1)) (some (.int s1)) (some (.int m1))) (decide ((a.1 + s1, a.2 + m1) ∈ C)) := by
          have z := ed_din (p := (a.1 + s1, a.2 + m1)) (m := trues C) (Γ := nG A C (some (.int a.1)) (some (.int a.2)) (some (.int 1)) (some (.int s1)) (some (.int m1))) (ta := tVar 2) (tb := tTup (tCons (tOp (rI0 fun i j => .int (i + j)) (tVar 3) (tVar 6)) (tCons (tOp (rI0 fun i j => .int (i + j)) (tVar 4) (tVar 7)) tNil))) (ed_tup (ea_cons (ed_opI (g := fun i j => i + j) (ed_var rfl) (ed_var rfl)) (ea_cons (ed_opI (g := fun i j => i + j) (ed_var rfl) (ed_var rfl)) ea_nil))) (Ed.dk (ed_var rfl))
          rw [keys_trues] at z
          exact et_B z
        refine ⟨_, tn_name, fun u => ?_, fun u => ?_⟩
        · rw [hm] at u
          have u' : decide ((a.1 + s1, a.2 + m1) ∈ C) = false := u
          rw [u'] at ec
          exact S.le (s_ifn1 ec) (by simp [LeG])
        · rw [hm] at u
          have u' : decide ((a.1 + s1, a.2 + m1) ∈ C) = true := u
          rw [u'] at ec
          exact s_if ec (fun _ => s_ret ed_bl) fun z => nomatch z
      · refine h1 ?_
        cases z : hit2 C a s1 with
        | false => rfl
        | true =>
          obtain ⟨i, hi, e⟩ := any_idx.mp z
          rw [h i hi] at e
          cases e
      · obtain ⟨i, hi, e⟩ := h
        exact h2 (any_idx.mpr ⟨i, hi, e⟩)
    have in2 : ∀ (a : P2) (o : Gm ⊕ PyData), (hit1 C a = false → o = .inl (nG A C (some (.int a.1)) (some (.int a.2)) (some (.int 1)) none none)) → (hit1 C a = true → o = .inr (.bool true)) →
        S (tFor (iList K (tLst (tCons (tUn (rU fun i => .int (-i)) (tC (.int 2))) (tCons (tUn (rU fun i => .int (-i)) (tC (.int 1))) (tCons (tC (.int 0)) (tCons (tC (.int 1)) (tCons (tC (.int 2)) tNil))))))) (gName 6) (tFor (iList K (tLst (tCons (tUn (rU fun i => .int (-i)) (tC (.int 2))) (tCons (tUn (rU fun i => .int (-i)) (tC (.int 1))) (tCons (tC (.int 0)) (tCons (tC (.int 1)) (tCons (tC (.int 2)) tNil))))))) (gName 7) (tIfS (tB (tDIn (tTup (tCons (tOp (rI0 fun i j => .int (i + j)) (tVar 3) (tVar 6)) (tCons (tOp (rI0 fun i j => .int (i + j)) (tVar 4) (tVar 7)) tNil))) (tVar 2))) (tRet (tC (.bl true))) tNext)))
          (nG A C (some (.int a.1)) (some (.int a.2)) (some (.int 1)) none none) o := fun a o h1 h2 => by
      refine s_forL' (K := K) (ds := five) (n := 5) (r := .bool true) (fun _ => nG A C (some (.int a.1)) (some (.int a.2)) (some (.int 1)) none none) (fun k => ((fiveI[k]?).map fun s => hit2 C a s).getD false) lit rfl (fun k d hd => ?_) (fun h => ?_) fun h => ?_
      · obtain ⟨s1, rfl, hm⟩ := five_at hd
        refine ⟨nG A C (some (.int a.1)) (some (.int a.2)) (some (.int 1)) (some (.int s1)) none, tn_name, fun u => ?_, fun u => ?_⟩
        · rw [hm] at u
          have u' : hit2 C a s1 = false := u
          exact S.le (in3 a s1 _ (fun _ => rfl) fun z => by rw [u'] at z; cases z) (by simp [LeG])
        · rw [hm] at u
          have u' : hit2 C a s1 = true := u
          exact in3 a s1 _ (fun z => by rw [u'] at z; cases z) fun _ => rfl
      · refine h1 ?_
        cases z : hit1 C a with
        | false => rfl
        | true =>
          obtain ⟨i, hi, e⟩ := any_idx.mp z
          rw [h i hi] at e
          cases e
      · obtain ⟨i, hi, e⟩ := h
        exact h2 (any_idx.mpr ⟨i, hi, e⟩)
    have lp := fun (o : Gm ⊕ PyData) (h1 : ¬ Near A C → o = .inl (nG A C none none none none none)) (h2 : Near A C → o = .inr (.bool true)) => s_forT' (K := K) (tl := tVar 0) (ds := A.map cD) (n := A.length) (r := .bool true) (o := o) (g := gTup K 3 (gNames [3, 4, 5]))
      (tbd := tFor (iList K (tLst (tCons (tUn (rU fun i => .int (-i)) (tC (.int 2))) (tCons (tUn (rU fun i => .int (-i)) (tC (.int 1))) (tCons (tC (.int 0)) (tCons (tC (.int 1)) (tCons (tC (.int 2)) tNil))))))) (gName 6) (tFor (iList K (tLst (tCons (tUn (rU fun i => .int (-i)) (tC (.int 2))) (tCons (tUn (rU fun i => .int (-i)) (tC (.int 1))) (tCons (tC (.int 0)) (tCons (tC (.int 1)) (tCons (tC (.int 2)) tNil))))))) (gName 7) (tIfS (tB (tDIn (tTup (tCons (tOp (rI0 fun i j => .int (i + j)) (tVar 3) (tVar 6)) (tCons (tOp (rI0 fun i j => .int (i + j)) (tVar 4) (tVar 7)) tNil))) (tVar 2))) (tRet (tC (.bl true))) tNext)))
      (fun _ => nG A C none none none none none) (fun i => ((A[i]?).map fun a => hit1 C a).getD false) (ed_var rfl) (by rw [List.length_map]) (fun i d hd => by
        rw [List.getElem?_map] at hd
        obtain ⟨a, ha, rfl⟩ : ∃ a, A[i]? = some a ∧ d = cD a := by
          cases z : A[i]? with
          | none => rw [z] at hd; cases hd
          | some a => rw [z] at hd; cases hd; exact ⟨a, rfl, rfl⟩
        refine ⟨nG A C (some (.int a.1)) (some (.int a.2)) (some (.int 1)) none none, tn_tup (ks := [3, 4, 5]) rfl, fun u => ?_, fun u => ?_⟩
        · rw [ha] at u
          have u' : hit1 C a = false := u
          exact S.le (in2 a _ (fun _ => rfl) fun z => by rw [u'] at z; cases z) (by simp [LeG])
        · rw [ha] at u
          have u' : hit1 C a = true := u
          exact in2 a _ (fun z => by rw [u'] at z; cases z) fun _ => rfl)
      (fun h => h1 fun ⟨a, ha, c, hc, n⟩ => by
        obtain ⟨i, hi, e⟩ := List.getElem_of_mem ha
        have z := h i hi
        rw [List.getElem?_eq_getElem hi, e] at z
        have z' : hit1 C a = false := z
        rw [hit1_iff.mpr ⟨c, hc, n⟩] at z'
        cases z')
      (fun ⟨i, hi, e⟩ => h2 (by
        rw [List.getElem?_eq_getElem hi] at e
        obtain ⟨c, hc, n⟩ := hit1_iff.mp e
        exact ⟨_, List.getElem_mem hi, c, hc, n⟩))
    by_cases hN : Near A C
    · rw [decide_eq_true hN]
      exact s_ends (lp _ (fun z => absurd hN z) fun _ => rfl)
    · rw [decide_eq_false hN]
      exact s_seq (lp _ (fun _ => rfl) fun z => absurd z hN) (s_ret ed_bl)

def R_alike (ds : List PyData) (d : PyData) : Prop := ∃ r r' : Option Int, ds = [oD r, oD r'] ∧ d = .bool (decide (r = r'))
theorem ok__law_alike (T : Tp K mg) : FnOk P w K mg base CX0 1 T._law_alike.f T._law_alike.fd ["_law_found", "_law_due"] (spD R_alike) := by
  refine pure_ok T._law_alike.F sc__law_alike (fun ds d h => ?_) (fun cdv A outer s H E hr => ⟨_, (pss_cons (ps_if (pt_val (pe_callB call_isiT (by rfl) T.n_isinstance (by decide +kernel) (pa_cons (pv 1) (pa_cons (pe_tup (pa_cons (pe_bltn (v := .ty "tuple") (by rfl) T.n_tuple (by decide +kernel) rfl) (pa_cons (pe_bltn (v := .ty "list") (by rfl) T.n_list (by decide +kernel) rfl) pa_nil))) pa_nil)))) pss_never pss_nil)
      (pss_cons (ps_if (pw_or (pt_cmp (pc_isN (pv 1)) rfl) (pw_or1 (pt_val (pe_callB call_isi (by rfl) T.n_isinstance (by decide +kernel) (pa_cons (pv 1) (pa_cons (pe_bltn (v := .ty "str") (by rfl) T.n_str (by decide +kernel) rfl) pa_nil)))))).pt (pss_one (ps_ret (pe_and (pe_cmpR (op_eqD hr.units) (pv 0) (pv 1) (nomark _)) (pe_one (pe_cmpR op_eq (pe_callB call_isi (by rfl) T.n_isinstance (by decide +kernel) (pa_cons (pv 0) (pa_cons (pe_bltn (v := .ty "str") (by rfl) T.n_str (by decide +kernel) rfl) pa_nil))) (pe_callB call_isi (by rfl) T.n_isinstance (by decide +kernel) (pa_cons (pv 1) (pa_cons (pe_bltn (v := .ty "str") (by rfl) T.n_str (by decide +kernel) rfl) pa_nil))) (nomark _)))))) pss_nil)
      (pss_one (ps_ret (pe_and (pe_callB call_isi (by rfl) T.n_isinstance (by decide +kernel) (pa_cons (pv 0) (pa_cons (pe_bltn (v := .ty "int") (by rfl) T.n_int (by decide +kernel) rfl) pa_nil))) (pe_and (pe_cmpR op_eq (pe_callB call_isi (by rfl) T.n_isinstance (by decide +kernel) (pa_cons (pv 0) (pa_cons (pe_bltn (v := .ty "bool") (by rfl) T.n_bool (by decide +kernel) rfl) pa_nil))) (pe_callB call_isi (by rfl) T.n_isinstance (by decide +kernel) (pa_cons (pv 1) (pa_cons (pe_bltn (v := .ty "bool") (by rfl) T.n_bool (by decide +kernel) rfl) pa_nil))) (nomark _)) (pe_one (pe_cmpR (op_eqD hr.units) (pv 0) (pv 1) (nomark _))))))))), fun ds d h => ?_⟩)
  · obtain ⟨r, r', rfl, _⟩ := h
    rfl
  · obtain ⟨r, r', rfl, rfl⟩ := h
    cases r' with
    | none =>
      refine s_ifn (et_B (ed_ist2 (d := .none) (R := "NoneType") (b := false) (c := false) (ed_var rfl) rfl)) ?_
      cases r with
      | none =>
        refine s_ifr (b := true) (Et.to (et_or (b := true) (c := false) (et_B (ed_isN (d := .none) (ed_var rfl))) fun z => nomatch z) rfl) (fun _ => ?_) fun z => nomatch z
        exact s_ret (Ed.to (ed_and (b := true) (c := true) (Ed.to (ed_eqD (d := .none) (e := .none) (ed_var rfl) (ed_var rfl) rfl rfl) rfl) fun _ => Ed.to (ed_eqB (b := false) (c := false) (ed_ist (d := .none) (b := false) (ed_var rfl) rfl) (ed_ist (d := .none) (b := false) (ed_var rfl) rfl)) rfl) rfl)
      | some i =>
        refine s_ifr (b := true) (Et.to (et_or (b := true) (c := false) (et_B (ed_isN (d := .none) (ed_var rfl))) fun z => nomatch z) rfl) (fun _ => ?_) fun z => nomatch z
        exact s_ret (Ed.to (ed_and (b := false) (c := true) (Ed.to (ed_eqD (d := .int i) (e := .none) (ed_var rfl) (ed_var rfl) rfl rfl) rfl) fun z => nomatch z) rfl)
    | some j =>
      refine s_ifn (et_B (ed_ist2 (d := .int j) (R := "int") (b := false) (c := false) (ed_var rfl) rfl)) ?_
      refine s_ifr (b := false) (Et.to (et_or (b := false) (et_B (ed_isN (d := .int j) (ed_var rfl))) fun _ => et_B (ed_ist (S := "int") (d := .int j) (b := false) (ed_var rfl) rfl)) rfl) (fun z => nomatch z) fun _ => ?_
      cases r with
      | none => exact s_ret (Ed.to (ed_and (b := false) (c := true) (ed_ist (d := .none) (b := false) (ed_var rfl) rfl) fun z => nomatch z) rfl)
      | some i =>
        refine s_ret (Ed.to (ed_and (b := true) (ed_ist (S := "int") (d := .int i) (b := true) (ed_var rfl) rfl) fun _ => ed_and (b := true) (Ed.to (ed_eqB (b := false) (c := false) (ed_ist (S := "int") (d := .int i) (b := false) (ed_var rfl) rfl) (ed_ist (S := "int") (d := .int j) (b := false) (ed_var rfl) rfl)) rfl) fun _ => ed_eqD (d := .int i) (e := .int j) (ed_var rfl) (ed_var rfl) rfl rfl) ?_)
        show PyData.bool (true && (true && (i == j))) = _
        rw [Bool.true_and, Bool.true_and]
        congr 1
        by_cases e : i = j
        · subst e; simp
        · simp [e]
end
end Fb
/-! Plain laws: the kit's pieces, turned, moved, doubled. -/
namespace Fb
open PySem PySem.Spec

instance (b : Board) : Decidable (b.Nodup) := inferInstanceAs (Decidable (b.Pairwise (· ≠ ·)))
def Near6 (b : Board) : Prop := ∀ p ∈ b, (-6 ≤ p.1 ∧ p.1 ≤ 6) ∧ -6 ≤ p.2 ∧ p.2 ≤ 6
instance (b : Board) : Decidable (Near6 b) := inferInstanceAs (Decidable (∀ p ∈ b, _))
structure Bas (P : Pc) : Prop where
  s : Srt P.b
  ne : P.b ≠ []
  per : P.per = 1 ∨ P.per = 2 ∨ P.per = 4
  rd : stepN P.per P.b = mv P.m P.b
  len : ∀ i, i < P.per → (stepN i P.b).length ≤ 20
  cel : ∀ i, i < P.per → Near6 (stepN i P.b)
  e1 : ((8 / P.per : Nat) : Int) * P.m.1 % 2 = 0
  e2 : ((8 / P.per : Nat) : Int) * P.m.2 % 2 = 0
  b1 : -4 ≤ ((8 / P.per : Nat) : Int) * P.m.1 ∧ ((8 / P.per : Nat) : Int) * P.m.1 ≤ 4
  b2 : -4 ≤ ((8 / P.per : Nat) : Int) * P.m.2 ∧ ((8 / P.per : Nat) : Int) * P.m.2 ≤ 4
def basB (P : Pc) : Bool := decide (Srt P.b) && decide (P.b ≠ []) && decide (P.per = 1 ∨ P.per = 2 ∨ P.per = 4) && decide (stepN P.per P.b = mv P.m P.b) && decide (∀ i, i < P.per → (stepN i P.b).length ≤ 20 ∧ Near6 (stepN i P.b)) &&
  decide (((8 / P.per : Nat) : Int) * P.m.1 % 2 = 0 ∧ ((8 / P.per : Nat) : Int) * P.m.2 % 2 = 0 ∧ (-4 ≤ ((8 / P.per : Nat) : Int) * P.m.1 ∧ ((8 / P.per : Nat) : Int) * P.m.1 ≤ 4) ∧ -4 ≤ ((8 / P.per : Nat) : Int) * P.m.2 ∧ ((8 / P.per : Nat) : Int) * P.m.2 ≤ 4)
theorem bas_of {P : Pc} (h : basB P = true) : Bas P := by
  unfold basB at h
  simp only [Bool.and_eq_true, decide_eq_true_eq] at h
  obtain ⟨⟨⟨⟨⟨h1, h2⟩, h3⟩, h4⟩, h5⟩, h6, h7, h8, h9⟩ := h
  exact ⟨h1, h2, h3, h4, fun i hi => (h5 i hi).1, fun i hi => (h5 i hi).2, h6, h7, h8, h9⟩
theorem bas_0_0 : basB (turnP kit0 0) = true := by decide +kernel
theorem bas_0_1 : basB (turnP kit0 1) = true := by decide +kernel
theorem bas_0_2 : basB (turnP kit0 2) = true := by decide +kernel
theorem bas_0_3 : basB (turnP kit0 3) = true := by decide +kernel
theorem bas_0_4 : basB (turnP kit0 4) = true := by decide +kernel
theorem bas_0_5 : basB (turnP kit0 5) = true := by decide +kernel
theorem bas_0_6 : basB (turnP kit0 6) = true := by decide +kernel
theorem bas_0_7 : basB (turnP kit0 7) = true := by decide +kernel
theorem bas_1_0 : basB (turnP kit1 0) = true := by decide +kernel
theorem bas_1_1 : basB (turnP kit1 1) = true := by decide +kernel
theorem bas_1_2 : basB (turnP kit1 2) = true := by decide +kernel
theorem bas_1_3 : basB (turnP kit1 3) = true := by decide +kernel
theorem bas_1_4 : basB (turnP kit1 4) = true := by decide +kernel
theorem bas_1_5 : basB (turnP kit1 5) = true := by decide +kernel
theorem bas_1_6 : basB (turnP kit1 6) = true := by decide +kernel
theorem bas_1_7 : basB (turnP kit1 7) = true := by decide +kernel
theorem bas_2_0 : basB (turnP kit2 0) = true := by decide +kernel
theorem bas_2_1 : basB (turnP kit2 1) = true := by decide +kernel
theorem bas_2_2 : basB (turnP kit2 2) = true := by decide +kernel
theorem bas_2_3 : basB (turnP kit2 3) = true := by decide +kernel
theorem bas_2_4 : basB (turnP kit2 4) = true := by decide +kernel
theorem bas_2_5 : basB (turnP kit2 5) = true := by decide +kernel
theorem bas_2_6 : basB (turnP kit2 6) = true := by decide +kernel
theorem bas_2_7 : basB (turnP kit2 7) = true := by decide +kernel
theorem bas_3_0 : basB (turnP kit3 0) = true := by decide +kernel
theorem bas_3_1 : basB (turnP kit3 1) = true := by decide +kernel
theorem bas_3_2 : basB (turnP kit3 2) = true := by decide +kernel
theorem bas_3_3 : basB (turnP kit3 3) = true := by decide +kernel
theorem bas_3_4 : basB (turnP kit3 4) = true := by decide +kernel
theorem bas_3_5 : basB (turnP kit3 5) = true := by decide +kernel
theorem bas_3_6 : basB (turnP kit3 6) = true := by decide +kernel
theorem bas_3_7 : basB (turnP kit3 7) = true := by decide +kernel
theorem bas_all_0 : ∀ t, t < 8 → Bas (turnP kit0 t)
  | 0, _ => bas_of bas_0_0
  | 1, _ => bas_of bas_0_1
  | 2, _ => bas_of bas_0_2
  | 3, _ => bas_of bas_0_3
  | 4, _ => bas_of bas_0_4
  | 5, _ => bas_of bas_0_5
  | 6, _ => bas_of bas_0_6
  | 7, _ => bas_of bas_0_7
  | n + 8, h => absurd h (by omega)
theorem bas_all_1 : ∀ t, t < 8 → Bas (turnP kit1 t)
  | 0, _ => bas_of bas_1_0
  | 1, _ => bas_of bas_1_1
  | 2, _ => bas_of bas_1_2
  | 3, _ => bas_of bas_1_3
  | 4, _ => bas_of bas_1_4
  | 5, _ => bas_of bas_1_5
  | 6, _ => bas_of bas_1_6
  | 7, _ => bas_of bas_1_7
  | n + 8, h => absurd h (by omega)
theorem bas_all_2 : ∀ t, t < 8 → Bas (turnP kit2 t)
  | 0, _ => bas_of bas_2_0
  | 1, _ => bas_of bas_2_1
  | 2, _ => bas_of bas_2_2
  | 3, _ => bas_of bas_2_3
  | 4, _ => bas_of bas_2_4
  | 5, _ => bas_of bas_2_5
  | 6, _ => bas_of bas_2_6
  | 7, _ => bas_of bas_2_7
  | n + 8, h => absurd h (by omega)
theorem bas_all_3 : ∀ t, t < 8 → Bas (turnP kit3 t)
  | 0, _ => bas_of bas_3_0
  | 1, _ => bas_of bas_3_1
  | 2, _ => bas_of bas_3_2
  | 3, _ => bas_of bas_3_3
  | 4, _ => bas_of bas_3_4
  | 5, _ => bas_of bas_3_5
  | 6, _ => bas_of bas_3_6
  | 7, _ => bas_of bas_3_7
  | n + 8, h => absurd h (by omega)
theorem bas_kitP {P : Pc} (h : KitP P) : Bas P := by
  obtain ⟨Q, hQ, t, ht, rfl⟩ := h
  rcases List.mem_cons.mp hQ with rfl | hQ
  · exact bas_all_0 t ht
  rcases List.mem_cons.mp hQ with rfl | hQ
  · exact bas_all_1 t ht
  rcases List.mem_cons.mp hQ with rfl | hQ
  · exact bas_all_2 t ht
  · rw [List.mem_singleton.mp hQ]
    exact bas_all_3 t ht
end Fb
/-! Plain laws: when the kit's pieces are near; the ship that is far. -/
namespace Fb
open PySem PySem.Spec

theorem mul_between {k K m B : Int} (h0 : 0 ≤ k) (h1 : k ≤ K) (h2 : -B ≤ K * m) (h3 : K * m ≤ B) : -B ≤ k * m ∧ k * m ≤ B := by
  rcases Int.le_total 0 m with hm | hm
  · have a := Int.mul_le_mul_of_nonneg_right h1 hm
    have b := Int.mul_nonneg h0 hm
    omega
  · have hm' : 0 ≤ -m := by omega
    have a := Int.mul_le_mul_of_nonneg_right h1 hm'
    have b := Int.mul_nonneg h0 hm'
    rw [Int.mul_neg, Int.mul_neg] at a
    rw [Int.mul_neg] at b
    omega
theorem Bas.rounds {P : Pc} (h : Bas P) : Rounds P := ⟨by rcases h.per with e | e | e <;> omega, h.rd⟩
/-- where a piece's cells lie in the first generations -/
theorem bas_cells {P : Pc} (h : Bas P) {g : Nat} (hg : g ≤ 8) {p : P2} (hp : p ∈ pos P g) : (-10 ≤ p.1 ∧ p.1 ≤ 10) ∧ -10 ≤ p.2 ∧ p.2 ≤ 10 := by
  have hr := h.rounds.1
  unfold pos at hp
  rw [mem_mv] at hp
  have c := h.cel (g % P.per) (Nat.mod_lt _ hr) _ hp
  have hk : g / P.per ≤ 8 / P.per := Nat.div_le_div_right hg
  have b1 := mul_between (k := ((g / P.per : Nat) : Int)) (Int.natCast_nonneg _) (Int.ofNat_le.mpr hk) h.b1.1 h.b1.2
  have b2 := mul_between (k := ((g / P.per : Nat) : Int)) (Int.natCast_nonneg _) (Int.ofNat_le.mpr hk) h.b2.1 h.b2.2
  unfold sc at c
  simp only at c
  omega
theorem bas_len {P : Pc} (h : Bas P) (g : Nat) : (pos P g).length ≤ 20 := by
  unfold pos
  rw [mv_length]
  exact h.len _ (Nat.mod_lt _ h.rounds.1)
theorem bas_srt {P : Pc} (h : Bas P) (g : Nat) : Srt (pos P g) := by
  rw [pos_eq h.rounds]
  exact srt_stepN h.s g
theorem bas_m {P : Pc} (h : Bas P) : (-4 ≤ P.m.1 ∧ P.m.1 ≤ 4) ∧ -4 ≤ P.m.2 ∧ P.m.2 ≤ 4 := by
  have k1 : (1 : Int) ≤ ((8 / P.per : Nat) : Int) := by rcases h.per with e | e | e <;> rw [e] <;> decide
  have b1 := mul_between (k := 1) (by omega) k1 h.b1.1 h.b1.2
  have b2 := mul_between (k := 1) (by omega) k1 h.b2.1 h.b2.2
  omega
/-- a small piece, as first_near takes it -/
structure Sml (P : Pc) : Prop where
  ok : PcOk P
  dv : P.per ∣ 8
  m1 : -8 ≤ P.m.1 ∧ P.m.1 ≤ 8
  m2 : -8 ≤ P.m.2 ∧ P.m.2 ≤ 8
theorem big_step {P : Pc} (h : Bas P) (mu : Nat) (v : P2) (g : Nat) : stepN g (bigP P mu v).b = mv v (pos P g) := by
  show stepN g (mv v P.b) = _
  rw [stepN_mv, pos_eq h.rounds]
theorem big_rd {P : Pc} (h : Bas P) (mu : Nat) (v : P2) : stepN (bigP P mu v).per (bigP P mu v).b = mv (bigP P mu v).m (bigP P mu v).b := by
  rw [big_step h]
  have e : (bigP P mu v).per = 0 + mu * P.per := by
    show P.per * mu = 0 + mu * P.per
    rw [Nat.zero_add, Nat.mul_comm]
  rw [e, pos_turn h.rounds.1]
  have e0 : pos P 0 = P.b := by rw [pos_eq h.rounds]; rfl
  have em : (bigP P mu v).m = sc mu P.m := by
    show (P.m.1 * (mu : Int), P.m.2 * (mu : Int)) = ((mu : Int) * P.m.1, (mu : Int) * P.m.2)
    rw [Int.mul_comm, Int.mul_comm P.m.2]
  rw [e0, em]
  show mv v (mv (sc mu P.m) P.b) = mv (sc mu P.m) (mv v P.b)
  rw [mv_mv, mv_mv, plus_comm]
theorem big_sml {P : Pc} (h : Bas P) {mu : Nat} (hm : mu = 1 ∨ mu = 2) {v : P2} (h1 : -(10 ^ 50) ≤ v.1 ∧ v.1 ≤ 10 ^ 50) (h2 : -(10 ^ 50) ≤ v.2 ∧ v.2 ≤ 10 ^ 50) : Sml (bigP P mu v) := by
  have bm := bas_m h
  have hp : (bigP P mu v).per = P.per * mu := rfl
  have p8 : P.per * mu ≤ 8 ∧ 1 ≤ P.per * mu ∧ P.per * mu ∣ 8 := by
    rcases h.per with e | e | e <;> rcases hm with f | f <;> rw [e, f] <;> decide
  have m1 : -8 ≤ (bigP P mu v).m.1 ∧ (bigP P mu v).m.1 ≤ 8 := by
    show -8 ≤ P.m.1 * (mu : Int) ∧ P.m.1 * (mu : Int) ≤ 8
    rcases hm with f | f <;> rw [f]
    · show -8 ≤ P.m.1 * (1 : Int) ∧ P.m.1 * (1 : Int) ≤ 8
      omega
    · show -8 ≤ P.m.1 * (2 : Int) ∧ P.m.1 * (2 : Int) ≤ 8
      omega
  have m2 : -8 ≤ (bigP P mu v).m.2 ∧ (bigP P mu v).m.2 ≤ 8 := by
    show -8 ≤ P.m.2 * (mu : Int) ∧ P.m.2 * (mu : Int) ≤ 8
    rcases hm with f | f <;> rw [f]
    · show -8 ≤ P.m.2 * (1 : Int) ∧ P.m.2 * (1 : Int) ≤ 8
      omega
    · show -8 ≤ P.m.2 * (2 : Int) ∧ P.m.2 * (2 : Int) ≤ 8
      omega
  refine ⟨⟨by rw [hp]; exact p8.2.1, by rw [hp]; omega, ⟨by omega, by omega⟩, ⟨by omega, by omega⟩, srt_mv h.s, fun z => h.ne (List.map_eq_nil_iff.mp z), ?_, fun i hi => ?_, big_rd h mu v⟩, by rw [hp]; exact p8.2.2, m1, m2⟩
  · show (mv v P.b).length ≤ 300
    rw [mv_length]
    have z := h.len 0 h.rounds.1
    have z2 : P.b.length ≤ 20 := z
    omega
  · rw [big_step h]
    rw [hp] at hi
    refine ⟨srt_nodup (srt_mv (bas_srt h i)), ?_, fun p hp => ?_⟩
    · rw [mv_length]
      have := bas_len h i
      omega
    · rw [mem_mv] at hp
      have c := bas_cells h (by omega : i ≤ 8) hp
      unfold far FAR
      simp only at c
      omega
theorem some_bas {far : Int} {R : Pc} (h : SomePc far R) : ∃ P mu v, Bas P ∧ (mu = 1 ∨ mu = 2) ∧ -far ≤ v.1 ∧ v.1 ≤ far ∧ -far ≤ v.2 ∧ v.2 ≤ far ∧ R = bigP P mu v := by
  obtain ⟨P, mu, v, hP, hm, h1, h2, h3, h4, rfl⟩ := h
  exact ⟨P, mu, v, bas_kitP hP, hm, h1, h2, h3, h4, rfl⟩
theorem some_sml {far : Int} {R : Pc} (h : SomePc far R) (hf : far ≤ 1000) : Sml R := by
  obtain ⟨P, mu, v, hP, hm, h1, h2, h3, h4, rfl⟩ := some_bas h
  exact big_sml hP hm ⟨by omega, by omega⟩ ⟨by omega, by omega⟩
theorem sml_pos {P : Pc} (h : Sml P) (g : Nat) : pos P g = stepN g P.b := pos_eq h.ok.rounds g
/-- within eight generations -/
theorem some_cells {far : Int} {R : Pc} (h : SomePc far R) {g : Nat} (hg : g < 8) {p : P2} (hp : p ∈ pos R g) (hf : far ≤ 1000) : (-(far + 10) ≤ p.1 ∧ p.1 ≤ far + 10) ∧ -(far + 10) ≤ p.2 ∧ p.2 ≤ far + 10 := by
  have sm := some_sml h hf
  rw [sml_pos sm] at hp
  obtain ⟨P, mu, v, hP, hm, h1, h2, h3, h4, rfl⟩ := some_bas h
  rw [big_step hP, mem_mv] at hp
  have c := bas_cells hP (by omega : g ≤ 8) hp
  simp only at c
  omega
theorem some_disp {far : Int} {R : Pc} (h : SomePc far R) : ((8 / R.per : Nat) : Int) * R.m.1 % 2 = 0 ∧ ((8 / R.per : Nat) : Int) * R.m.2 % 2 = 0 := by
  obtain ⟨P, mu, v, hP, hm, h1, h2, h3, h4, rfl⟩ := some_bas h
  have e1 := hP.e1
  have e2 := hP.e2
  show ((8 / (P.per * mu) : Nat) : Int) * (P.m.1 * (mu : Int)) % 2 = 0 ∧ ((8 / (P.per * mu) : Nat) : Int) * (P.m.2 * (mu : Int)) % 2 = 0
  have key : ∀ x : Int, ((8 / (P.per * mu) : Nat) : Int) * (x * (mu : Int)) = ((8 / P.per : Nat) : Int) * x := by
    intro x
    rcases hP.per with e | e | e <;> rcases hm with f | f <;> rw [e, f]
    · show (8 : Int) * (x * 1) = 8 * x; omega
    · show (4 : Int) * (x * 2) = 8 * x; omega
    · show (4 : Int) * (x * 1) = 4 * x; omega
    · show (2 : Int) * (x * 2) = 4 * x; omega
    · show (2 : Int) * (x * 1) = 2 * x; omega
    · show (1 : Int) * (x * 2) = 2 * x; omega
  rw [key, key]
  exact ⟨e1, e2⟩
/-- the moves of eight generations, one less the other -/
def dsp (P Q : Pc) : P2 := (((8 / P.per : Nat) : Int) * P.m.1 - ((8 / Q.per : Nat) : Int) * Q.m.1, ((8 / P.per : Nat) : Int) * P.m.2 - ((8 / Q.per : Nat) : Int) * Q.m.2)
theorem near8 {P Q : Pc} (hP : Sml P) (hQ : Sml Q) (r k : Nat) : NearAt P Q (r + k * 8) ↔ ∃ a ∈ pos P r, ∃ c ∈ pos Q r, WinM (dsp P Q) a c k := near_turn hP.ok.p1 hQ.ok.p1 hP.dv hQ.dv
theorem near8m {P Q : Pc} (hP : Sml P) (hQ : Sml Q) (r k : Nat) : NearAt P Q (r + k * 8) ↔ Near (mv ((k : Int) * (dsp P Q).1, (k : Int) * (dsp P Q).2) (pos P r)) (pos Q r) := by
  rw [near8 hP hQ]
  constructor
  · rintro ⟨a, ha, c, hc, n⟩
    refine ⟨_, List.mem_map.mpr ⟨a, ha, rfl⟩, c, hc, ?_⟩
    unfold WinM Win Nr plus In2 at *
    simp only
    omega
  · rintro ⟨a, ha, c, hc, n⟩
    obtain ⟨a', ha', rfl⟩ := List.mem_map.mp ha
    refine ⟨a', ha', c, hc, ?_⟩
    unfold WinM Win Nr plus In2 at *
    simp only at n
    omega
theorem even_far {x : Int} {k : Nat} (h : x % 2 = 0) (h0 : x ≠ 0) (hk : 25 ≤ k) : 50 ≤ (k : Int) * x ∨ (k : Int) * x ≤ -50 := by
  have kk : (0 : Int) ≤ (k : Int) := by omega
  by_cases hx : 0 < x
  · have z := Int.mul_le_mul_of_nonneg_left (show (2 : Int) ≤ x by omega) kk
    left; omega
  · have z := Int.mul_le_mul_of_nonneg_left (show (2 : Int) ≤ -x by omega) kk
    rw [Int.mul_neg] at z
    right; omega
/-- what comes near, does so before generation 200 -/
theorem near_soon {P Q : Pc} (hP : SomePc 4 P) (hQ : SomePc 14 Q) {g : Nat} (h : NearAt P Q g) : ∃ j, j < 200 ∧ NearAt P Q j := by
  have sP := some_sml hP (by decide)
  have sQ := some_sml hQ (by decide)
  have eg : g = g % 8 + g / 8 * 8 := by omega
  rcases Nat.lt_or_ge g 200 with l | l
  · exact ⟨g, l, h⟩
  · have lt : g % 8 < 8 := Nat.mod_lt _ (by decide)
    rw [eg] at h
    obtain ⟨a, ha, c, hc, w⟩ := (near8 sP sQ _ _).mp h
    have hk : 25 ≤ g / 8 := by omega
    have d1 := some_disp hP
    have d2 := some_disp hQ
    have ca := some_cells hP lt ha (by decide)
    have cc := some_cells hQ lt hc (by decide)
    have z1 : (dsp P Q).1 % 2 = 0 := by unfold dsp; simp only; omega
    have z2 : (dsp P Q).2 % 2 = 0 := by unfold dsp; simp only; omega
    have w' := w
    unfold WinM Win In2 at w'
    by_cases n1 : (dsp P Q).1 = 0
    · by_cases n2 : (dsp P Q).2 = 0
      · refine ⟨g % 8 + 0 * 8, by omega, (near8 sP sQ _ _).mpr ⟨a, ha, c, hc, ?_⟩⟩
        unfold WinM Win In2
        rw [n1, n2] at w' ⊢
        simp only [Int.mul_zero] at w' ⊢
        exact w'
      · have f := even_far z2 n2 hk
        omega
    · have f := even_far z1 n1 hk
      omega

/-! ### the first below a bound -/
noncomputable def fstB (N : Nat → Prop) (i : Nat) : Option Int := fstN fun g => N g ∧ g < i
theorem fstB_zero (N : Nat → Prop) : fstB N 0 = none := fstN_eq (r := none) fun k h => Nat.not_lt_zero _ h.2
theorem fstB_keep {N : Nat → Prop} {i : Nat} {x : Int} (h : fstB N i = some x) : fstB N (i + 1) = some x := by
  have z : IsFirst (fun g => N g ∧ g < i) (some x) := by rw [← h]; exact fstN_is _
  obtain ⟨n, e, ⟨h1, h2⟩, h3⟩ := z
  exact fstN_eq (r := some x) ⟨n, e, ⟨h1, by omega⟩, fun k hk => by
    rcases Nat.lt_or_ge k i with l | l
    · exact h3 k ⟨hk.1, l⟩
    · omega⟩
theorem fstB_new {N : Nat → Prop} {i : Nat} (h : fstB N i = none) (hi : N i) : fstB N (i + 1) = some (i : Int) := by
  have z : IsFirst (fun g => N g ∧ g < i) none := by rw [← h]; exact fstN_is _
  exact fstN_eq (r := some (i : Int)) ⟨i, rfl, ⟨hi, by omega⟩, fun k hk => by
    rcases Nat.lt_or_ge k i with l | l
    · exact absurd ⟨hk.1, l⟩ (z k)
    · exact l⟩
theorem fstB_none {N : Nat → Prop} {i : Nat} (h : fstB N i = none) (hi : ¬ N i) : fstB N (i + 1) = none := by
  have z : IsFirst (fun g => N g ∧ g < i) none := by rw [← h]; exact fstN_is _
  exact fstN_eq (r := none) fun k hk => by
    rcases Nat.lt_or_ge k i with l | l
    · exact z k ⟨hk.1, l⟩
    · have e : k = i := by omega
      exact hi (e ▸ hk.1)
theorem fstB_all {N : Nat → Prop} {i : Nat} (h : ∀ g, N g → ∃ j, j < i ∧ N j) : fstN N = fstB N i := by
  refine fstN_eq ?_
  have z := fstN_is fun g => N g ∧ g < i
  show IsFirst N (fstN fun g => N g ∧ g < i)
  revert z
  generalize (fstN fun g => N g ∧ g < i) = r
  intro z
  cases r with
  | none =>
    intro g hg
    obtain ⟨j, hj, nj⟩ := h g hg
    exact z j ⟨nj, hj⟩
  | some x =>
    obtain ⟨n, e, ⟨h1, h2⟩, h3⟩ := z
    refine ⟨n, e, h1, fun k hk => ?_⟩
    rcases Nat.lt_or_ge k i with l | l
    · exact h3 k ⟨hk, l⟩
    · omega

/-! ### the far ship -/
theorem bas_kit0 : Bas kit0 := bas_of (by decide +kernel)
theorem bas_kit2 : Bas kit2 := bas_of (by decide +kernel)
theorem kit0_big : bigP kit0 1 (0, 0) = kit0 := by
  show Pc.mk (mv (0, 0) shipB) 4 (1, 1) = _
  rw [mv_zero]
  rfl
theorem sml_kit0 : Sml kit0 := by
  have z := big_sml bas_kit0 (mu := 1) (.inl rfl) (v := (0, 0)) (by decide) (by decide)
  rw [kit0_big] at z
  exact z
def square (x y : Int) : Pc := ⟨mv (x, y) squareB, 1, (0, 0)⟩
theorem square_big (x y : Int) : bigP kit2 1 (x, y) = square x y := rfl
theorem sml_square {x y : Int} (h1 : -(10 ^ 50) ≤ x ∧ x ≤ 10 ^ 50) (h2 : -(10 ^ 50) ≤ y ∧ y ≤ 10 ^ 50) : Sml (square x y) := big_sml bas_kit2 (.inl rfl) (v := (x, y)) h1 h2
theorem pos_square (x y : Int) (g : Nat) : pos (square x y) g = mv (x, y) squareB := by
  unfold pos
  have e1 : g % (square x y).per = 0 := Nat.mod_one g
  have e2 : sc (g / (square x y).per) (square x y).m = (0, 0) := by
    show ((_ : Int) * 0, (_ : Int) * 0) = _
    rw [Int.mul_zero]
  rw [e1, e2, mv_zero]
  rfl
theorem sq_cells {x y : Int} {c : P2} (h : c ∈ mv (x, y) squareB) : (x ≤ c.1 ∧ c.1 ≤ x + 1) ∧ y ≤ c.2 ∧ c.2 ≤ y + 1 := by
  rw [mem_mv] at h
  have key : ∀ p ∈ squareB, (0 ≤ p.1 ∧ p.1 ≤ 1) ∧ 0 ≤ p.2 ∧ p.2 ≤ 1 := by decide
  have z := key _ h
  simp only at z
  omega
theorem ship_cells {g : Nat} {a : P2} (h : a ∈ pos kit0 g) : (((g / 4 : Nat) : Int) ≤ a.1 ∧ a.1 ≤ ((g / 4 : Nat) : Int) + 4) ∧ ((g / 4 : Nat) : Int) ≤ a.2 ∧ a.2 ≤ ((g / 4 : Nat) : Int) + 4 := by
  unfold pos at h
  rw [mem_mv] at h
  have key : ∀ i, i < 4 → ∀ p ∈ stepN i shipB, (0 ≤ p.1 ∧ p.1 ≤ 4) ∧ 0 ≤ p.2 ∧ p.2 ≤ 4 := by decide +kernel
  have z := key (g % 4) (Nat.mod_lt _ (by decide)) _ h
  have e1 : (sc (g / kit0.per) kit0.m).1 = ((g / 4 : Nat) : Int) := Int.mul_one _
  have e2 : (sc (g / kit0.per) kit0.m).2 = ((g / 4 : Nat) : Int) := Int.mul_one _
  simp only [e1, e2] at z
  omega
theorem ship_low {n : Nat} {g : Nat} (h : NearAt kit0 (square ((n : Int) + 9) ((n : Int) + 9)) g) : 4 * n + 12 ≤ g := by
  obtain ⟨a, ha, c, hc, w⟩ := h
  rw [pos_square] at hc
  have h1 := ship_cells ha
  have h2 := sq_cells hc
  unfold Nr In2 at w
  omega
theorem ship_meets (n : Nat) : NearAt kit0 (square ((n : Int) + 9) ((n : Int) + 9)) (4 * (n + 8)) := by
  refine ⟨((n : Int) + 10, (n : Int) + 10), ?_, ((n : Int) + 10, (n : Int) + 10), ?_, ?_⟩
  · unfold pos
    have e1 : 4 * (n + 8) % kit0.per = 0 := Nat.mul_mod_right 4 _
    have e2 : 4 * (n + 8) / kit0.per = n + 8 := Nat.mul_div_cancel_left _ (by decide)
    rw [e1, e2, mem_mv]
    have e3 : (((n : Int) + 10 - (sc (n + 8) kit0.m).1, (n : Int) + 10 - (sc (n + 8) kit0.m).2) : P2) = (2, 2) := by
      have f1 : (sc (n + 8) kit0.m).1 = ((n + 8 : Nat) : Int) := Int.mul_one _
      have f2 : (sc (n + 8) kit0.m).2 = ((n + 8 : Nat) : Int) := Int.mul_one _
      rw [f1, f2]
      simp only [Prod.mk.injEq]
      omega
    simp only at e3 ⊢
    rw [e3]
    decide
  · rw [pos_square, mem_mv]
    have e3 : (((n : Int) + 10 - ((n : Int) + 9), (n : Int) + 10 - ((n : Int) + 9)) : P2) = (1, 1) := by
      simp only [Prod.mk.injEq]
      omega
    simp only at e3 ⊢
    rw [e3]
    decide
  · unfold Nr In2
    simp only
    omega
/-- the far ship's first meeting -/
theorem ship_first (n : Nat) : ∃ f : Nat, fstN (NearAt kit0 (square ((n : Int) + 9) ((n : Int) + 9))) = some (f : Int) ∧ 4 * n + 12 ≤ f ∧ f ≤ 4 * n + 32 ∧ NearAt kit0 (square ((n : Int) + 9) ((n : Int) + 9)) f ∧ ¬ NearAt kit0 (square ((n : Int) + 9) ((n : Int) + 9)) (f - 1) := by
  have z := fstN_is (NearAt kit0 (square ((n : Int) + 9) ((n : Int) + 9)))
  revert z
  generalize fstN (NearAt kit0 (square ((n : Int) + 9) ((n : Int) + 9))) = r
  intro z
  cases r with
  | none => exact absurd (ship_meets n) (z _)
  | some x =>
    obtain ⟨f, rfl, h1, h2⟩ := z
    have lo := ship_low h1
    have hi := h2 _ (ship_meets n)
    exact ⟨f, rfl, lo, by omega, h1, fun w => by have := h2 _ w; omega⟩
theorem aside_never : fstN (NearAt kit0 (square (2 ^ 70) (0 - 9))) = none := fstN_eq (r := none) fun g h => by
  obtain ⟨a, ha, c, hc, w⟩ := h
  rw [pos_square] at hc
  have h1 := ship_cells ha
  have h2 := sq_cells hc
  unfold Nr In2 at w
  omega

/-! ### first_near of small pieces -/
theorem fn_ok {P Q : Pc} (hP : Sml P) (hQ : Sml Q) : R_first_near [RD, pcD P, pcD Q] (oD (fstN (NearAt P Q))) := by
  have L8 : Nat.lcm P.per Q.per ∣ 8 := Nat.lcm_dvd hP.dv hQ.dv
  have L : Nat.lcm P.per Q.per ≤ 8 := Nat.le_of_dvd (by decide) L8
  have bd : ∀ (K p : Nat) (m : Int), K ≤ 8 → -8 ≤ m ∧ m ≤ 8 → -64 ≤ ((K / p : Nat) : Int) * m ∧ ((K / p : Nat) : Int) * m ≤ 64 := fun K p m hK hm => by
    have h8 : K / p ≤ 8 := Nat.le_trans (Nat.div_le_self K p) hK
    exact mul_between (K := 8) (Int.natCast_nonneg _) (Int.ofNat_le.mpr h8) (by omega) (by omega)
  refine ⟨P, Q, rfl, hP.ok, hQ.ok, by omega, fun M hM => ?_, rfl⟩
  have a1 := bd _ P.per _ L hP.m1
  have a2 := bd _ P.per _ L hP.m2
  have a3 := bd _ Q.per _ L hQ.m1
  have a4 := bd _ Q.per _ L hQ.m2
  subst hM
  unfold sc
  simp only
  omega
end Fb
/-! The law. -/
namespace Fb
open PySem PySem.Spec PyProof.Rows L2
open Evl (Ex)
section
variable {P : Program} {w : World} {K : PySem.W.Frag} {mg : Str → Option Value} {base : Heap}

theorem s_forR2 {ta : TA} {tb : TS} {k : Nat} {n : Nat} (G : Nat → Gm) (h : Ea ta (G 0) [.int 0, .int (n : Int)]) (hn : n ≤ 100000) (hs : ∀ (i : Nat), i < n → S tb ((G i).set k (some (.int (i : Int)))) (.inl (G (i + 1)))) : S (tFor (iRng2 ta) (gName k) tb) (G 0) (.inl (G n)) := fun D σ H s f =>
  h σ H s _ fun vs H1 e1 dv => by
    obtain ⟨x, y, rfl, hx, hy⟩ := dd2 dv
    cases (show x = V.int 0 from hx)
    cases (show y = V.int (n : Int) from hy)
    refine ⟨0, (n : Int), rfl, ⟨by decide, by decide, by omega, by omega⟩, ?_⟩
    have e : ((n : Int) - 0).toNat = n := by omega
    rw [e]
    refine for_range (lo := 0) (n := n) (fun i σ' H' => Ex H1 H' ∧ Sl H' σ' (G i)) ⟨Ex.refl H1, s.ex e1⟩ (fun i σ' H' hi p => ?_) fun σ' H' p => f σ' H' (e1.trans p.1) p.2
    refine hs i hi _ _ H' (p.2.set k (by show V.int _ = V.int _; rw [Int.zero_add])) fun σ3 H3 e3 s3 => ⟨p.1.trans e3, s3⟩
def poL (P : Pc) (n : Nat) : List PyData := (List.range n).map fun i => bD (pos P i)
theorem poL_succ (P : Pc) (n : Nat) : poL P (n + 1) = poL P n ++ [bD (pos P n)] := by
  unfold poL
  rw [List.range_succ, List.map_append]
  rfl
theorem poL_at {P : Pc} {n i : Nat} (h : i < n) : atI (poL P n) (i : Int) = some (bD (pos P i)) := atI_nat (by
  unfold poL
  rw [List.getElem?_map, List.getElem?_range h]
  rfl)
theorem poL_len (P : Pc) (n : Nat) : (poL P n).length = n := by
  unfold poL
  rw [List.length_map, List.length_range]
abbrev lG (P Q : Pc) (row told due ones twos rest gen many x y : Option PyData) : Gm := [none, row, some RD, some (pcD P), some (pcD Q), told, due, ones, twos, rest, gen, many, x, y, none, none, none, none, none]
abbrev dspT (K : PySem.W.Frag) (j : Int) : TE := tOp (rI CMul fun i j => .int (i * j)) (tVar 11) (tOp (rI0 fun i j => .int (i - j)) (tOp (rI CMul fun i j => .int (i * j)) (tOp (rI CDiv fun i j => .int (i / j)) (tC (.int 8)) (tOp (rIxT K) (tVar 3) (tC (.int 1)))) (tOp (rIxT K) (tOp (rIxT K) (tVar 3) (tC (.int 2))) (tC (.int j))))
  (tOp (rI CMul fun i j => .int (i * j)) (tOp (rI CDiv fun i j => .int (i / j)) (tC (.int 8)) (tOp (rIxT K) (tVar 4) (tC (.int 1)))) (tOp (rIxT K) (tOp (rIxT K) (tVar 4) (tC (.int 2))) (tC (.int j)))))
abbrev body200 (K : PySem.W.Frag) : TS := tSeq (tPar 9 11 (tCons (tOp (rI (fun _ j => 0 < j) fun i j => .int (i % j)) (tCB rInt1 (tCons (tVar 10) tNil)) (tC (.int 8))) (tCons (tOp (rI CDiv fun i j => .int (i / j)) (tVar 10) (tC (.int 8))) tNil)))
  (tIfS (tB (tIsN (tVar 6))) (tSeq (tAsg (dspT K 0) (gName 12)) (tSeq (tAsg (dspT K 1) (gName 13))
    (tIfS (tB (tCall (spD R_are_near) [] E0 (tCons (tCall (spD R_moved) [] E0 (tCons (tOp (rIxL K) (tVar 7) (tVar 9)) (tCons (tVar 12) (tCons (tVar 13) tNil)))) (tCons (tOp (rIxL K) (tVar 8) (tVar 9)) tNil)))) (tAsg (tVar 10) (gName 6)) tNext))) tNext)
theorem turn200 {P Q : Pc} (hP : Sml P) (hQ : Sml Q) {row told : PyData} {i : Nat} (hi : i < 200) :
    S (body200 K) (lG P Q (some row) (some told) (some (oD (fstB (NearAt P Q) i))) (some (.list (poL P 8))) (some (.list (poL Q 8))) none (some (.int (i : Int))) none none none) (.inl (lG P Q (some row) (some told) (some (oD (fstB (NearAt P Q) (i + 1)))) (some (.list (poL P 8))) (some (.list (poL Q 8))) none none none none none)) := by
  have lt : i % 8 < 8 := Nat.mod_lt _ (by decide)
  have g1 := hP.ok.p1
  have g2 := hP.ok.p2
  have g3 := hQ.ok.p1
  have g4 := hQ.ok.p2
  have ei : i = i % 8 + i / 8 * 8 := by omega
  have n8 := near8m hP hQ (i % 8) (i / 8)
  rw [← ei] at n8
  refine s_seq (s_par (d := .int ((i % 8 : Nat) : Int)) (e := .int ((i / 8 : Nat) : Int)) (ed_opC (g := fun i j => i % j) (i := (i : Int)) (j := 8) (ed_int1 (ed_var rfl)) ed_int (by decide)) (ed_opC (g := fun i j => i / j) (i := (i : Int)) (j := 8) (ed_var rfl) ed_int ⟨by decide, by decide⟩)) ?_
  cases hb : fstB (NearAt P Q) i with
  | some x =>
    rw [fstB_keep hb]
    exact S.le (s_if (b := false) (et_B (ed_isN (d := .int x) (ed_var rfl))) (fun z => nomatch z) fun _ => s_next) (by simp [LeG])
  | none =>
    have bd : ∀ (p : Nat) (m : Int), -8 ≤ m ∧ m ≤ 8 → 1 ≤ p → (0 : Int) ≤ ((8 / p : Nat) : Int) ∧ ((8 / p : Nat) : Int) ≤ 8 := fun p m _ _ => ⟨Int.natCast_nonneg _, Int.ofNat_le.mpr (Nat.div_le_self 8 p)⟩
    have b3 := bd P.per _ hP.m1 g1
    have b4 := bd Q.per _ hQ.m1 g3
    have k0 : ((i / 8 : Nat) : Int) ≤ 25 := by omega
    have k1 : (0 : Int) ≤ ((i / 8 : Nat) : Int) := Int.natCast_nonneg _
    have ed1 : ∀ {Γ : Gm} (h3 : Γ[3]? = some (some (pcD P))) (h4 : Γ[4]? = some (some (pcD Q))) (h11 : Γ[11]? = some (some (.int ((i / 8 : Nat) : Int)))), Ed (dspT K 0) Γ (.int (((i / 8 : Nat) : Int) * (dsp P Q).1)) := fun {Γ} h3 h4 h11 =>
      ed_opC (g := fun i j => i * j) (ed_var h11) (ed_opI (g := fun i j => i - j) (ed_opC (g := fun i j => i * j) (i := ((8 / P.per : Nat) : Int)) (j := P.m.1) (ed_opC (g := fun i j => i / j) (i := 8) (j := (P.per : Int)) ed_int (ed_ixT (ed_var h3) ed_int rfl) ⟨by omega, by omega⟩) (ed_ixT (ed_ixT (ed_var h3) ed_int rfl) ed_int rfl) (.inl ⟨Int.lt_of_lt_of_le (by decide) b3.1, Int.lt_of_le_of_lt b3.2 (by decide)⟩))
        (ed_opC (g := fun i j => i * j) (i := ((8 / Q.per : Nat) : Int)) (j := Q.m.1) (ed_opC (g := fun i j => i / j) (i := 8) (j := (Q.per : Int)) ed_int (ed_ixT (ed_var h4) ed_int rfl) ⟨by omega, by omega⟩) (ed_ixT (ed_ixT (ed_var h4) ed_int rfl) ed_int rfl) (.inl ⟨Int.lt_of_lt_of_le (by decide) b4.1, Int.lt_of_le_of_lt b4.2 (by decide)⟩))) (.inl ⟨Int.lt_of_lt_of_le (by decide) k1, Int.lt_of_le_of_lt k0 (by decide)⟩)
    have ed2 : ∀ {Γ : Gm} (h3 : Γ[3]? = some (some (pcD P))) (h4 : Γ[4]? = some (some (pcD Q))) (h11 : Γ[11]? = some (some (.int ((i / 8 : Nat) : Int)))), Ed (dspT K 1) Γ (.int (((i / 8 : Nat) : Int) * (dsp P Q).2)) := fun {Γ} h3 h4 h11 =>
      ed_opC (g := fun i j => i * j) (ed_var h11) (ed_opI (g := fun i j => i - j) (ed_opC (g := fun i j => i * j) (i := ((8 / P.per : Nat) : Int)) (j := P.m.2) (ed_opC (g := fun i j => i / j) (i := 8) (j := (P.per : Int)) ed_int (ed_ixT (ed_var h3) ed_int rfl) ⟨by omega, by omega⟩) (ed_ixT (ed_ixT (ed_var h3) ed_int rfl) ed_int rfl) (.inl ⟨Int.lt_of_lt_of_le (by decide) b3.1, Int.lt_of_le_of_lt b3.2 (by decide)⟩))
        (ed_opC (g := fun i j => i * j) (i := ((8 / Q.per : Nat) : Int)) (j := Q.m.2) (ed_opC (g := fun i j => i / j) (i := 8) (j := (Q.per : Int)) ed_int (ed_ixT (ed_var h4) ed_int rfl) ⟨by omega, by omega⟩) (ed_ixT (ed_ixT (ed_var h4) ed_int rfl) ed_int rfl) (.inl ⟨Int.lt_of_lt_of_le (by decide) b4.1, Int.lt_of_le_of_lt b4.2 (by decide)⟩))) (.inl ⟨Int.lt_of_lt_of_le (by decide) k1, Int.lt_of_le_of_lt k0 (by decide)⟩)
    refine s_if (b := true) (et_B (ed_isN (d := .none) (ed_var rfl))) (fun _ => ?_) fun z => nomatch z
    refine s_seq (s_asg (ed1 rfl rfl rfl)) ?_
    refine s_seq (s_asg (ed2 rfl rfl rfl)) ?_
    have sQ : Srt (pos Q (i % 8)) := by rw [sml_pos hQ]; exact srt_stepN hQ.ok.s _
    have l1 := pos_len hP.ok (i % 8)
    refine s_if (et_B (ed_call (ea_cons (ed_call (ea_cons (ed_ixL (ds := poL P 8) (ed_var rfl) (ed_var rfl) (poL_at lt)) (ea_cons (ed_var rfl) (ea_cons (ed_var rfl) ea_nil))) ⟨pos P (i % 8), ((i / 8 : Nat) : Int) * (dsp P Q).1, ((i / 8 : Nat) : Int) * (dsp P Q).2, rfl, by omega, rfl⟩) (ea_cons (ed_ixL (ds := poL Q 8) (ed_var rfl) (ed_var rfl) (poL_at lt)) ea_nil)) ⟨_, pos Q (i % 8), rfl, srt_nodup sQ, pos_len hQ.ok _, rfl⟩)) (fun u => ?_) fun u => ?_
    · rw [fstB_new hb (n8.mpr (of_decide_eq_true u))]
      exact S.le (s_asg (k := 6) (d := .int (i : Int)) (ed_var rfl)) (by simp [LeG, oD])
    · rw [fstB_none hb fun z => of_decide_eq_false u (n8.mp z)]
      exact S.le s_next (by simp [LeG, oD])
theorem loop200 {P Q : Pc} (hP : SomePc 4 P) (hQ : SomePc 14 Q) {row told : PyData} :
    S (tFor (iRng2 (tCons (tC (.int 0)) (tCons (tC (.int 200)) tNil))) (gName 10) (body200 K)) (lG P Q (some row) (some told) (some .none) (some (.list (poL P 8))) (some (.list (poL Q 8))) none none none none none) (.inl (lG P Q (some row) (some told) (some (oD (fstN (NearAt P Q)))) none none none none none none none)) := by
  have z := s_forR2 (ta := tCons (tC (.int 0)) (tCons (tC (.int 200)) tNil)) (tb := body200 K) (k := 10) (n := 200) (fun i => lG P Q (some row) (some told) (some (oD (fstB (NearAt P Q) i))) (some (.list (poL P 8))) (some (.list (poL Q 8))) none none none none none) (ea_cons ed_int (ea_cons ed_int ea_nil)) (by decide) fun i hi => turn200 (some_sml hP (by decide)) (some_sml hQ (by decide)) hi
  rw [fstB_zero, ← fstB_all fun g hg => near_soon hP hQ hg] at z
  exact S.le z (by simp [LeG])
end
end Fb
/-! The law: the lists of eight, the far ship, the whole. -/
namespace Fb
open PySem PySem.Spec PyProof.Rows L2
open Evl (Ex)
section
variable {P : Program} {w : World} {K : PySem.W.Frag} {mg : Str → Option Value} {base : Heap}

theorem MJ.wide {A B : Addr → Prop} {t : TS} {Γ Γ' : Gm} {I I' : Hp → Prop} {R : V → Hp → Prop} (h : MJ A t Γ I Γ' I' R) (ab : ∀ a, A a → B a) : MJ B t Γ I Γ' I' R := fun D σ H s i n r =>
  h D σ H s i (fun σ' H' x => n σ' H' fun b o nb e => x b o (fun z => nb (ab b z)) e) fun v H' x => r v H' fun b o nb e => x b o (fun z => nb (ab b z)) e
theorem MJ.preG {A : Addr → Prop} {t : TS} {Γ Γ1 Γ' : Gm} {I I' : Hp → Prop} {R : V → Hp → Prop} (h : MJ A t Γ1 I Γ' I' R) (l : LeG Γ1 Γ) : MJ A t Γ I Γ' I' R := fun D σ H s i n r => h D σ H (s.forget (leG_len l) (leG_at l)) i n r
/-- a call of a def that draws, an argument draws -/
theorem er_callA {r : Addr} {Γ : Gm} {ta : TA} {C : PyData → Prop} {C2 : List PyData → Prop} {rel : List PyData → (PyData → Prop) → Prop} {E : XK} (h : Ar K r ta Γ C2) (hr : ∀ l, C2 l → ∃ ds Cc, l = rawD r :: ds ∧ rel ds Cc ∧ ∀ d, Cc d → C d) : Er K r (tCall (spR K rel) [] E ta) Γ C := fun σ H s i Q q =>
  h σ H s i _ fun vs l H1 x1 t1 i1 c1 dvs => by
    obtain ⟨ds, Cc, rfl, hr, hc⟩ := hr l c1
    exact ⟨r, ds, Cc, hr, by rw [List.append_nil]; exact dvs, i1, fun v d H2 x2 i2 c2 dv => q v d H2 (x1.trans x2) (t1.trans (tx_of x2 i1.nt)) i2 (hc d c2) dv⟩

/-! ### two lists that grow, beside the row -/
def SqK (K : PySem.W.Frag) (c : Addr) (xs : List V) : Prop := ∃ (o : Obj) (its : Array Value) (n : Nat), K.lookup c = some o ∧ o.cls = .type "list" ∧ o.dict = none ∧ o.data = .seq its n ∧ its.size ≤ sizeLine ∧ Vals xs its.toList
structure LI (K : PySem.W.Frag) (r c : Addr) (ns : List Int) (p q : Addr) (ds es : List PyData) (H : Hp) : Prop where
  row : ∃ i s w : Int, 0 ≤ i ∧ 0 ≤ s ∧ s < 2147483647 ∧ H r = some (HO.lst [V.ref c, V.int i, V.int s, V.int w])
  scr : (Rd H c (HO.lst (ns.map V.int)) ∧ c ≠ p ∧ c ≠ q) ∨ SqK K c (ns.map V.int)
  a : OkL H p ds
  b : OkL H q es
  rp : r ≠ p
  rq : r ≠ q
  pq : p ≠ q
section
variable {r c p q : Addr} {ns : List Int} {ds es : List PyData}
theorem LI.stb : Stb (LI K r c ns p q ds es) := fun H H' h e => ⟨let ⟨i, s, w, h1, h2, h3, h4⟩ := h.row; ⟨i, s, w, h1, h2, h3, e _ _ h4⟩, h.scr.imp (fun z => ⟨rd_ex e z.1, z.2⟩) id, h.a.ex e, h.b.ex e, h.rp, h.rq, h.pq⟩
theorem LI.ok {H : Hp} (h : LI K r c ns p q ds es H) : RowOk K r H := by
  obtain ⟨i, s, w, h1, h2, h3, h4⟩ := h.row
  exact ⟨c, ns, i, s, w, h4, h.scr.imp (fun z => z.1) id, h1, h2, h3⟩
theorem rd_upd {H : Hp} {u : HO} {o : HO} (h : Rd H c u) (n : c ≠ p) : Rd (upd H p o) c u := by
  rcases h with h | ⟨od, h⟩
  · exact .inl (by rw [upd_ne n]; exact h)
  · exact .inr ⟨od, by rw [upd_ne n]; exact h⟩
theorem OkL.upd {H : Hp} {o : HO} (h : OkL H q es) (n : q ≠ p) (nt : ∀ xs, H p ≠ some (.tup xs)) : OkL (L2.upd H p o) q es := by
  obtain ⟨xs, h1, h2⟩ := h.at_
  exact ⟨⟨xs, by rw [upd_ne n]; exact h1, DdL.tx (tx_upd nt) _ _ h.fl h2⟩, h.fl, h.few⟩
theorem LI.putA {H : Hp} {ys : List V} {ds' : List PyData} (h : LI K r c ns p q ds es H) (k : OkL (upd H p (.lst ys)) p ds') : LI K r c ns p q ds' es (upd H p (.lst ys)) := by
  obtain ⟨i, s, w, h1, h2, h3, h4⟩ := h.row
  exact ⟨⟨i, s, w, h1, h2, h3, by rw [upd_ne h.rp]; exact h4⟩, h.scr.imp (fun z => ⟨rd_upd z.1 z.2.1, z.2⟩) id, k, h.b.upd h.pq.symm h.a.nt, h.rp, h.rq, h.pq⟩
theorem LI.putB {H : Hp} {ys : List V} {es' : List PyData} (h : LI K r c ns p q ds es H) (k : OkL (upd H q (.lst ys)) q es') : LI K r c ns p q ds es' (upd H q (.lst ys)) := by
  obtain ⟨i, s, w, h1, h2, h3, h4⟩ := h.row
  exact ⟨⟨i, s, w, h1, h2, h3, by rw [upd_ne h.rq]; exact h4⟩, h.scr.imp (fun z => ⟨rd_upd z.1 z.2.2, z.2⟩) id, h.a.upd h.pq h.b.nt, k, h.rp, h.rq, h.pq⟩
abbrev Ax (r p q : Addr) : Addr → Prop := fun a => a = r ∨ a = p ∨ a = q
abbrev loopT (K : PySem.W.Frag) : TS := tSeq (tDrop (tBM K "list" rAppend (tVar 7) (tCons (tCall (spD R_law_piece_at) [] E0 (tCons (tVar 3) (tCons (tVar 9) tNil))) tNil))) (tDrop (tBM K "list" rAppend (tVar 8) (tCons (tCall (spD R_law_piece_at) [] E0 (tCons (tVar 4) (tCons (tVar 9) tNil))) tNil)))
theorem poL_fl (P : Pc) (n : Nat) : FlL (poL P n) = true := tol_mem fun d m => by
  obtain ⟨i, _, rfl⟩ := List.mem_map.mp m
  exact fl_b _
theorem loop8 {P Q : Pc} {told : Option Int} (hP : PcOk P) (hQ : PcOk Q) {R : V → Hp → Prop} : MJ (Ax r p q) (tFor (iRng1 (tCons (tC (.int 8)) tNil)) (gName 9) (loopT K)) (lG P Q (some (rawD r)) (some (oD told)) (some .none) (some (rawD p)) (some (rawD q)) none none none none none) (LI K r c ns p q [] [])
    (lG P Q (some (rawD r)) (some (oD told)) (some .none) (some (rawD p)) (some (rawD q)) none none none none none) (LI K r c ns p q (poL P 8) (poL Q 8)) R := by
  refine mj_forR (n := 8) (fun _ => lG P Q (some (rawD r)) (some (oD told)) (some .none) (some (rawD p)) (some (rawD q)) none none none none none) (fun i => LI K r c ns p q (poL P i) (poL Q i)) (fun _ => LI.stb) (ea_cons ed_int ea_nil) (by decide) fun i hi => ?_
  have ts : TsG (lG P Q (some (rawD r)) (some (oD told)) (some .none) (some (rawD p)) (some (rawD q)) (some (.int (i : Int))) none none none none) := tsG_of (by simp [ts_raw]; exact ⟨rfl, ts_fl (fl_pc P), ts_fl (fl_pc Q), ts_fl (fl_o told), rfl, rfl⟩)
  refine MJ.le (Γ1 := lG P Q (some (rawD r)) (some (oD told)) (some .none) (some (rawD p)) (some (rawD q)) (some (.int (i : Int))) none none none none) (mj_seq (I1 := LI K r c ns p q (poL P (i + 1)) (poL Q i)) (mj_append (p := p) (ds := poL P i) (d := bD (pos P i)) view_refl LI.stb ts rfl (fun H h => h.a) (.inr (.inl rfl)) (ed_call (ea_cons (ed_var rfl) (ea_cons (ed_var rfl) ea_nil)) ⟨P, i, rfl, hP, rfl⟩) (fl_b _) (by rw [poL_len]; omega) fun H ys h k => h.putA (by rw [poL_succ]; exact k))
    (mj_append (p := q) (ds := poL Q i) (d := bD (pos Q i)) view_refl LI.stb ts rfl (fun H h => h.b) (.inr (.inr rfl)) (ed_call (ea_cons (ed_var rfl) (ea_cons (ed_var rfl) ea_nil)) ⟨Q, i, rfl, hQ, rfl⟩) (fl_b _) (by rw [poL_len]; omega) fun H ys h k => h.putB (by rw [poL_succ]; exact k))) (by simp [LeG])
/-- told, due, ones, twos = .. -/
theorem law_lists {te : TE} {t : TS} {Γ Γ' : Gm} {told : PyData} {R : V → Hp → Prop} (he : Ed te Γ told)
    (h : ∀ c ns p q, MJ (Ax r p q) t (setsG Γ [5, 6, 7, 8] [told, .none, rawD p, rawD q]) (LI K r c ns p q [] []) Γ' (fun _ => False) R) :
    MJ (fun a => a = r) (tSeq (tAsg (tTup (tCons te (tCons (tC .non) (tCons (tLst tNil) (tCons (tLst tNil) tNil))))) (gTup K 4 (gNames [5, 6, 7, 8]))) t) Γ (RowOk K r) Γ' (fun _ => False) R := fun D σ H s i n rr =>
  he σ H s _ fun v H1 e1 dv => by
    refine ⟨Nat.zero_le _, fun p hp => ⟨Nat.zero_le _, fun q hq => ⟨by show 4 ≤ sizeLine; decide, fun t0 ht => ?_⟩⟩⟩
    obtain ⟨H2, hH2⟩ : ∃ H2, H2 = upd H1 p (HO.lst []) := ⟨_, rfl⟩
    rw [← hH2] at hq ht ⊢
    obtain ⟨H3, hH3⟩ : ∃ H3, H3 = upd H2 q (HO.lst []) := ⟨_, rfl⟩
    rw [← hH3] at ht ⊢
    obtain ⟨H4, hH4⟩ : ∃ H4, H4 = upd H3 t0 (HO.tup [v, V.non, V.ref p, V.ref q]) := ⟨_, rfl⟩
    have x12 : Ex H1 H2 := by rw [hH2]; exact Ex.new hp
    have x23 : Ex H2 H3 := by rw [hH3]; exact Ex.new hq
    have x34 : Ex H3 H4 := by rw [hH4]; exact Ex.new ht
    have x14 := (x12.trans x23).trans x34
    have p2 : H2 p = some (HO.lst []) := by rw [hH2]; exact upd_same
    have p4 : H4 p = some (HO.lst []) := x34 _ _ (x23 _ _ p2)
    have q3 : H3 q = some (HO.lst []) := by rw [hH3]; exact upd_same
    have q4 := x34 _ _ q3
    show gTup K 4 (gNames [5, 6, 7, 8]) (V.ref t0) σ (upd H3 t0 (HO.tup [v, V.non, V.ref p, V.ref q])) _
    rw [← hH4]
    have t4 : H4 t0 = some (HO.tup [v, V.non, V.ref p, V.ref q]) := by rw [hH4]; exact upd_same
    have s4 : Sl H4 σ Γ := s.ex (e1.trans x14)
    obtain ⟨c, ns, ri, rs, rw', row⟩ := i
    have r1 : H1 r = some _ := e1 _ _ row.at_
    have rp : r ≠ p := ne_of_none r1 hp
    have pq : p ≠ q := ne_of_none p2 hq
    have rq : r ≠ q := ne_of_none (x12 _ _ r1) hq
    have scr : (Rd H4 c (HO.lst (ns.map V.int)) ∧ c ≠ p ∧ c ≠ q) ∨ SqK K c (ns.map V.int) := by
      refine row.scr.imp (fun z => ?_) id
      have z1 := rd_ex e1 z
      have z2 := rd_ex x12 z1
      refine ⟨rd_ex (x23.trans x34) z2, fun e => ?_, fun e => ?_⟩
      · rw [e] at z1
        rcases z1 with z1 | ⟨o, z1⟩ <;> rw [hp] at z1 <;> cases z1
      · rw [e] at z2
        rcases z2 with z2 | ⟨o, z2⟩ <;> rw [hq] at z2 <;> cases z2
    refine ⟨t0, _, rfl, SqT.of t4, rfl, gNames_run (ks := [5, 6, 7, 8]) (ds := [told, .none, rawD p, rawD q]) (vs := [5, 6, 7, 8]) rfl s4 ⟨_, _, rfl, Dd.ex x14 _ _ dv, _, _, rfl, rfl, _, _, rfl, dd_raw.mpr rfl, _, _, rfl, dd_raw.mpr rfl, rfl⟩ (fun _ m => m) _ fun σ' s' _ => ?_⟩
    have back : ∀ H', Xa (Ax r p q) H4 H' → Xa (fun a => a = r) H H' := fun H' x b o nb e => by
      have f1 := e1 _ _ e
      refine x b o (fun z => ?_) (x14 _ _ f1)
      rcases z with z | z | z
      · exact nb z
      · exact ne_of_none f1 hp z
      · exact ne_of_none (x12 _ _ f1) hq z
    exact h c ns p q D σ' H4 s' ⟨⟨ri, rs, rw', row.i0, row.s0, row.s1, x14 _ _ r1⟩, scr, ⟨⟨[], p4, rfl⟩, rfl, Nat.zero_le _⟩, ⟨⟨[], q4, rfl⟩, rfl, Nat.zero_le _⟩, rp, rq, pq⟩ (fun σ' H' x => n σ' H' (back H' x)) fun v H' x => rr v H' (back H' x)
theorem law_row {t : TS} {a : Addr} {ns : List Int} {H : Hp} {D : Ends} {σ : L2.St} (hS : SqL K H a (ns.map V.int)) (h0 : σ[0]? = some (some (V.ref a))) (hl : σ.length = 19)
    (h : ∀ r : Addr, MJ (fun a => a = r) t [none, some (rawD r), none, none, none, none, none, none, none, none, none, none, none, none, none, none, none, none, none] (RowOk K r) [] (fun _ => False) (fun v _ => v = V.bl true)) (q : ∀ v H', v = V.bl true → D.rt v H') :
    tSeq (tAsg (tLst (tCons (tVar 0) (tCons (tC (.int 0)) (tCons (tC (.int 10806)) (tCons (tC (.int 0)) tNil))))) (gName 1)) t D σ H := by
  refine ⟨V.ref a, h0, by show 4 ≤ sizeLine; decide, fun r hr => ?_⟩
  refine h r D _ _ ⟨by rw [List.length_set, hl]; rfl, fun i d e => ?_⟩ ⟨a, ns, 0, 10806, 0, upd_same, sqL_ex hS (Ex.new hr), by decide, by decide, by decide⟩ (fun σ' H' _ _ z => z.elim) fun v H' _ e => q v H' e
  match i, e with
  | 1, e =>
    cases e
    exact ⟨V.ref r, List.getElem?_set_self (by rw [hl]; decide), dd_raw.mpr rfl⟩
  | 0, e => cases e
  | n + 2, e =>
    have z : ∀ n, ([none, none, none, none, none, none, none, none, none, none, none, none, none, none, none, none, none] : Gm)[n]? ≠ some (some d) := fun n z => by
      have m := List.mem_of_getElem? z
      simp at m
    exact absurd e (z n)
end

/-! ### the far ship -/
abbrev tG (r : Addr) (n : Nat) (x15 x16 x17 x18 : Option PyData) : Gm := [none, some (rawD r), some RD, none, none, none, none, none, none, none, none, some (.int (n : Int)), none, none, some (.int (2 ^ 70)), x15, x16, x17, x18]
def spLawX (K : PySem.W.Frag) : Sp := fun vs H Q _ => ∃ (a : Addr) (ns : List Int), vs = [V.ref a] ∧ SqL K H a (ns.map V.int) ∧ ∀ H', Q (V.bl true) H'
theorem ok_law (T : Tp K mg) : FnOk P w K mg base CX0 9 T.law.f T.law.fd ["_law_script"] (spLawX K) := by
  refine T.law.F.ok sc_law (fun vs H Q E h => ?_) (fun cdv A outer s H vs Q E hr h => ⟨_, (pss_cons (ps_set (i := 1) sc_law.nd rfl (.inl rfl) (pe_lst (pa_cons (pv 0) (pa_cons pe_int (pa_cons pe_int (pa_cons pe_int pa_nil))))))
      (pss_cons (ps_par3 (i := 2) (j := 3) (l := 4) (by rfl) sc_law.nd rfl rfl rfl (by decide) (by decide) (by decide) rfl rfl rfl (pa_cons (pe_tup (pa_cons (pe_tup (pa_cons pe_int pa_nil)) (pa_cons (pe_tup (pa_cons pe_int (pa_cons pe_int pa_nil))) (pa_cons pe_int pa_nil)))) (pa_cons (pe_call (ok__law_some_piece T) (hr.mono (by decide)) (by rfl) T._law_some_piece.g T._law_some_piece.F.kp T.b__law_some_piece .nil pass0 (pa_cons (pv 1) (pa_cons pe_int pa_nil))) (pa_cons (pe_call (ok__law_some_piece T) (hr.mono (by decide)) (by rfl) T._law_some_piece.g T._law_some_piece.F.kp T.b__law_some_piece .nil pass0 (pa_cons (pv 1) (pa_cons (pe_call (ok__law_pick T) (hr.mono (by decide)) (by rfl) T._law_pick.g T._law_pick.F.kp T.b__law_pick .nil pass0 (pa_cons (pv 1) (pa_cons (pe_lst (pa_cons pe_int (pa_cons pe_int pa_nil))) pa_nil))) pa_nil))) pa_nil))) (by rfl))
      (pss_cons (ps_asg (pe_tup (pa_cons (pe_call (ok_first_near T) (hr.mono (by decide)) (by rfl) T.first_near.g T.first_near.F.kp T.b_first_near .nil pass0 (pa_cons (pv 2) (pa_cons (pv 3) (pa_cons (pv 4) pa_nil)))) (pa_cons pe_non (pa_cons (pe_lst pa_nil) (pa_cons (pe_lst pa_nil) pa_nil))))) (pg_tup rfl (pgs_cons (pg_name (i := 5) sc_law.nd rfl (.inl rfl)) (pgs_cons (pg_name (i := 6) sc_law.nd rfl (.inl rfl)) (pgs_cons (pg_name (i := 7) sc_law.nd rfl (.inl rfl)) (pgs_cons (pg_name (i := 8) sc_law.nd rfl (.inl rfl)) pgs_nil))))))
      (pss_cons (ps_for PassesOwn.never rfl (pi_range1 (by rfl) T.n_range (pa_cons pe_int pa_nil)) (pg_name (i := 9) sc_law.nd rfl (.inl rfl)) (pss_cons (ps_expr (pe_bm PySem.F.plainAttrs_list PySem.F.slot_list_append PySem.F.type_list_append mt_append (pv 7) (pa_cons (pe_call (ok__law_piece_at T) (hr.mono (by decide)) (by rfl) T._law_piece_at.g T._law_piece_at.F.kp T.b__law_piece_at .nil pass0 (pa_cons (pv 3) (pa_cons (pv 9) pa_nil))) pa_nil)))
      (pss_one (ps_expr (pe_bm PySem.F.plainAttrs_list PySem.F.slot_list_append PySem.F.type_list_append mt_append (pv 8) (pa_cons (pe_call (ok__law_piece_at T) (hr.mono (by decide)) (by rfl) T._law_piece_at.g T._law_piece_at.F.kp T.b__law_piece_at .nil pass0 (pa_cons (pv 4) (pa_cons (pv 9) pa_nil))) pa_nil))))))
      (pss_cons (ps_for PassesOwn.never rfl (pi_range2 (by rfl) T.n_range (pa_cons pe_int (pa_cons pe_int pa_nil))) (pg_name (i := 10) sc_law.nd rfl (.inl rfl)) (pss_cons (ps_par (i := 9) (j := 11) (by rfl) sc_law.nd rfl rfl (by decide) rfl rfl (pa_cons (pe_op op_mod (pe_callTy call_int1 (by rfl) T.n_int (by decide +kernel) (pa_cons (pv 10) pa_nil)) pe_int) (pa_cons (pe_op op_fdiv (pv 10) pe_int) pa_nil)) (by rfl))
      (pss_one (ps_if (pt_cmp (pc_isN (pv 6)) rfl) (pss_cons (ps_set (i := 12) sc_law.nd rfl (.inl rfl) (pe_op op_mul (pv 11) (pe_op op_sub (pe_op op_mul (pe_op op_fdiv pe_int (pe_ix ix_tup (pv 3) pe_int (fun _ _ => rfl))) (pe_ix ix_tup (pe_ix ix_tup (pv 3) pe_int (fun _ _ => rfl)) pe_int (fun _ _ => rfl))) (pe_op op_mul (pe_op op_fdiv pe_int (pe_ix ix_tup (pv 4) pe_int (fun _ _ => rfl))) (pe_ix ix_tup (pe_ix ix_tup (pv 4) pe_int (fun _ _ => rfl)) pe_int (fun _ _ => rfl))))))
      (pss_cons (ps_set (i := 13) sc_law.nd rfl (.inl rfl) (pe_op op_mul (pv 11) (pe_op op_sub (pe_op op_mul (pe_op op_fdiv pe_int (pe_ix ix_tup (pv 3) pe_int (fun _ _ => rfl))) (pe_ix ix_tup (pe_ix ix_tup (pv 3) pe_int (fun _ _ => rfl)) pe_int (fun _ _ => rfl))) (pe_op op_mul (pe_op op_fdiv pe_int (pe_ix ix_tup (pv 4) pe_int (fun _ _ => rfl))) (pe_ix ix_tup (pe_ix ix_tup (pv 4) pe_int (fun _ _ => rfl)) pe_int (fun _ _ => rfl))))))
      (pss_one (ps_if (pt_val (pe_call (ok__law_are_near T) (hr.mono (by decide)) (by rfl) T._law_are_near.g T._law_are_near.F.kp T.b__law_are_near .nil pass0 (pa_cons (pe_call (ok__law_moved T) (hr.mono (by decide)) (by rfl) T._law_moved.g T._law_moved.F.kp T.b__law_moved .nil pass0 (pa_cons (pe_ix ix_list (pv 7) (pv 9) (fun _ _ => rfl)) (pa_cons (pv 12) (pa_cons (pv 13) pa_nil)))) (pa_cons (pe_ix ix_list (pv 8) (pv 9) (fun _ _ => rfl)) pa_nil)))) (pss_one (ps_set (i := 6) sc_law.nd rfl (.inl rfl) (pv 10))) pss_nil)))) pss_nil))))
      (pss_cons (ps_if (pw_or (pt_not (pt_val (pe_call (ok__law_alike T) (hr.mono (by decide)) (by rfl) T._law_alike.g T._law_alike.F.kp T.b__law_alike .nil pass0 (pa_cons (pv 5) (pa_cons (pv 6) pa_nil))))) (pw_or1 (pt_not (pt_val (pe_call (ok__law_alike T) (hr.mono (by decide)) (by rfl) T._law_alike.g T._law_alike.F.kp T.b__law_alike .nil pass0 (pa_cons (pe_call (ok_first_near T) (hr.mono (by decide)) (by rfl) T.first_near.g T.first_near.F.kp T.b_first_near .nil pass0 (pa_cons (pv 2) (pa_cons (pv 4) (pa_cons (pv 3) pa_nil)))) (pa_cons (pv 6) pa_nil))))))).pt (pss_one (ps_ret pe_bl)) pss_nil)
      (pss_cons (ps_par (i := 14) (j := 11) (by rfl) sc_law.nd rfl rfl (by decide) rfl rfl (pa_cons (pe_op op_shl pe_int pe_int) (pa_cons (pe_call (ok__law_taken T) (hr.mono (by decide)) (by rfl) T._law_taken.g T._law_taken.F.kp T.b__law_taken .nil pass0 (pa_cons (pv 1) (pa_cons (pe_op op_shl pe_int pe_int) pa_nil))) pa_nil)) (by rfl))
      (pss_cons (ps_set (i := 15) sc_law.nd rfl (.inl rfl) (pe_ix ix_list (pe_call0 (ok__law_kit T) (hr.mono (by decide)) (by rfl) T._law_kit.g T._law_kit.F.kp T.b__law_kit .nil pass0) pe_int (fun _ _ => rfl)))
      (pss_cons (ps_set (i := 16) sc_law.nd rfl (.inl rfl) (pe_tup (pa_cons (pe_call (ok__law_moved T) (hr.mono (by decide)) (by rfl) T._law_moved.g T._law_moved.F.kp T.b__law_moved .nil pass0 (pa_cons (pe_ix ix_tup (pe_ix ix_list (pe_call0 (ok__law_kit T) (hr.mono (by decide)) (by rfl) T._law_kit.g T._law_kit.F.kp T.b__law_kit .nil pass0) pe_int (fun _ _ => rfl)) pe_int (fun _ _ => rfl)) (pa_cons (pe_op op_add (pv 11) pe_int) (pa_cons (pe_op op_add (pv 11) pe_int) pa_nil)))) (pa_cons pe_int (pa_cons (pe_tup (pa_cons pe_int (pa_cons pe_int pa_nil))) pa_nil)))))
      (pss_cons (ps_set (i := 17) sc_law.nd rfl (.inl rfl) (pe_call (ok_first_near T) (hr.mono (by decide)) (by rfl) T.first_near.g T.first_near.F.kp T.b_first_near .nil pass0 (pa_cons (pv 2) (pa_cons (pv 15) (pa_cons (pv 16) pa_nil)))))
      (pss_cons (ps_if (pw_or (pt_cmp (pc_isN (pv 17)) rfl) (pw_or1 (pt_not (pt_val (pe_call (ok__law_are_near T) (hr.mono (by decide)) (by rfl) T._law_are_near.g T._law_are_near.F.kp T.b__law_are_near .nil pass0 (pa_cons (pe_call (ok_piece_at T) (hr.mono (by decide)) (by rfl) T.piece_at.g T.piece_at.F.kp T.b_piece_at .nil pass0 (pa_cons (pv 2) (pa_cons (pv 15) (pa_cons (pv 17) pa_nil)))) (pa_cons (pe_ix ix_tup (pv 16) pe_int (fun _ _ => rfl)) pa_nil))))))).pt (pss_one (ps_ret pe_bl)) pss_nil)
      (pss_cons (ps_if (pt_val (pe_call (ok__law_are_near T) (hr.mono (by decide)) (by rfl) T._law_are_near.g T._law_are_near.F.kp T.b__law_are_near .nil pass0 (pa_cons (pe_call (ok_piece_at T) (hr.mono (by decide)) (by rfl) T.piece_at.g T.piece_at.F.kp T.b_piece_at .nil pass0 (pa_cons (pv 2) (pa_cons (pv 15) (pa_cons (pe_op op_sub (pv 17) pe_int) pa_nil)))) (pa_cons (pe_ix ix_tup (pv 16) pe_int (fun _ _ => rfl)) pa_nil)))) (pss_one (ps_ret pe_bl)) pss_nil)
      (pss_cons (ps_set (i := 18) sc_law.nd rfl (.inl rfl) (pe_tup (pa_cons (pe_call (ok__law_moved T) (hr.mono (by decide)) (by rfl) T._law_moved.g T._law_moved.F.kp T.b__law_moved .nil pass0 (pa_cons (pe_ix ix_tup (pe_ix ix_list (pe_call0 (ok__law_kit T) (hr.mono (by decide)) (by rfl) T._law_kit.g T._law_kit.F.kp T.b__law_kit .nil pass0) pe_int (fun _ _ => rfl)) pe_int (fun _ _ => rfl)) (pa_cons (pv 14) (pa_cons (pe_op op_sub pe_int pe_int) pa_nil)))) (pa_cons pe_int (pa_cons (pe_tup (pa_cons pe_int (pa_cons pe_int pa_nil))) pa_nil)))))
      (pss_one (ps_ret (pe_and (pe_cmp (pc_isN (pe_call (ok_first_near T) (hr.mono (by decide)) (by rfl) T.first_near.g T.first_near.F.kp T.b_first_near .nil pass0 (pa_cons (pv 2) (pa_cons (pv 15) (pa_cons (pv 18) pa_nil))))) rfl) (pe_one (pe_cmpR op_lt (pe_callB call_abs (by rfl) T.n_abs (by decide +kernel) (pa_cons (pe_op op_sub (pv 17) (pe_op op_mul pe_int (pv 11))) pa_nil)) pe_int (nomark _))))))))))))))))))), ?_⟩)
  · obtain ⟨a, ns, rfl, _⟩ := h
    rfl
  · obtain ⟨a, ns, rfl, hS, q⟩ := h
    refine law_row (K := K) hS rfl rfl (fun r => ?_) fun v H' e => by rw [e]; exact q H'
    have ts0 : TsG [none, some (rawD r), none, none, none, none, none, none, none, none, none, none, none, none, none, none, none, none, none] := tsG_of (by simp [ts_raw])
    refine mjr_par3 (C := fun d => d = RD) (C' := fun d => ∃ R, d = pcD R ∧ SomePc 4 R) (C'' := fun d => ∃ R, d = pcD R ∧ SomePc 14 R) ts0 (er_ed (ed_tup (ea_cons (ed_tup (ea_cons ed_int ea_nil)) (ea_cons (ed_tup (ea_cons ed_int (ea_cons ed_int ea_nil))) (ea_cons ed_int ea_nil)))) rfl) (er_callR (ds := [.int 4]) (ea_cons (ed_var rfl) (ea_cons ed_int ea_nil)) ⟨4, rfl, by decide, by decide, rfl⟩)
      (er_callA (ar_cons (C := fun d => d = rawD r) ts0 (er_ed (ed_var rfl) rfl) (ar_cons (C := fun d => d ∈ [PyData.int 6, .int 14]) ts0 (er_callR (ds := [.list [.int 6, .int 14]]) (ea_cons (ed_var rfl) (ea_cons (ed_lst (ea_cons ed_int (ea_cons ed_int ea_nil))) ea_nil)) ⟨_, rfl, rfl, trivial, by decide, by decide, rfl⟩) ar_nil (fun d hd => ?_)) (fun d e => by rw [e]; rfl)) fun l hl => ?_)
      (fun d e => by rw [e]; rfl) (fun d ⟨R, e, _⟩ => by rw [e]; exact ts_fl (fl_pc R)) fun d d' d'' e1 ⟨P, e2, hP⟩ ⟨Q, e3, hQ⟩ => ?_
    · rcases List.mem_cons.mp hd with e | hd
      · rw [e]; rfl
      · rw [List.mem_singleton.mp hd]; rfl
    · obtain ⟨d, ds, rfl, rfl, d2, ds2, rfl, hd, rfl⟩ := hl
      rcases List.mem_cons.mp hd with e | hd
      · rw [e]
        refine ⟨_, _, rfl, ⟨6, rfl, by decide, by decide, rfl⟩, fun d ⟨R, e, P, mu, v, h1, h2, h3, h4, h5, h6, h7⟩ => ⟨R, e, P, mu, v, h1, h2, by omega, by omega, by omega, by omega, h7⟩⟩
      · rw [List.mem_singleton.mp hd]
        exact ⟨_, _, rfl, ⟨14, rfl, by decide, by decide, rfl⟩, fun d h => h⟩
    subst e1 e2 e3
    have sP := some_sml hP (by decide)
    have sQ := some_sml hQ (by decide)
    obtain ⟨told, htold⟩ : ∃ told, told = fstN (NearAt P Q) := ⟨_, rfl⟩
    have fn1 := fn_ok sP sQ
    have fn2 := fn_ok sQ sP
    have esym : fstN (NearAt Q P) = fstN (NearAt P Q) := fstN_congr fun k => nearAt_symm
    rw [esym] at fn2
    have l200 := fun (row : PyData) => loop200 (K := K) (row := row) (told := oD told) hP hQ
    rw [← htold] at fn1 fn2 l200
    refine law_lists (K := K) (told := oD told) (ed_call (ea_cons (ed_var rfl) (ea_cons (ed_var rfl) (ea_cons (ed_var rfl) ea_nil))) fn1) fun c ns p q => ?_
    refine mj_seq (loop8 sP.ok sQ.ok) ?_
    refine mj_seq (mj_Sv ((view_at (k := 7) (d := .list (poL P 8)) rfl fun H i => i.a.dd).trans (view_at (k := 8) (d := .list (poL Q 8)) rfl fun H i => i.b.dd)) LI.stb (l200 (rawD r))) ?_
    refine mj_seq (Γ1 := lG P Q (some (rawD r)) (some (oD told)) (some (oD told)) none none none none none none none) (mj_S (s_ifn1 (Et.to (et_or (et_not (et_B (ed_call (ea_cons (ed_var rfl) (ea_cons (ed_var rfl) ea_nil)) ⟨told, told, rfl, rfl⟩))) fun _ => et_not (et_B (ed_call (ea_cons (ed_call (ea_cons (ed_var rfl) (ea_cons (ed_var rfl) (ea_cons (ed_var rfl) ea_nil))) fn2) (ea_cons (ed_var rfl) ea_nil)) ⟨told, told, rfl, rfl⟩))) (by rw [decide_eq_true (rfl : told = told)]; rfl))) LI.stb) ?_
    refine MJ.pre (I1 := RowOk K r) (MJ.wide (A := fun a => a = r) ?_ fun a e => .inl e) fun H i => i.ok
    refine MJ.preG (Γ1 := [none, some (rawD r), some RD, none, none, none, none, none, none, none, none, none, none, none, none, none, none, none, none]) ?_ (by simp [LeG])
    clear hP hQ sP sQ fn1 fn2 l200 esym
    have ts1 : TsG [none, some (rawD r), some RD, none, none, none, none, none, none, none, none, none, none, none, none, none, none, none, none] := tsG_of (by simp [ts_raw]; rfl)
    refine mjr_par (C := fun d => d = .int (2 ^ 70)) (C' := fun d => ∃ v : Int, d = .int v ∧ 0 ≤ v ∧ v < 2 ^ 60) ts1 (er_ed (ed_opC (i := 1) (j := 70) (g := fun i j => i * 2 ^ j.toNat) ed_int ed_int ⟨by decide, by decide, by decide⟩) rfl)
      (er_callR (ds := [.int (2 ^ 60)]) (ea_cons (ed_var rfl) (ea_cons (ed_opC (i := 1) (j := 60) (g := fun i j => i * 2 ^ j.toNat) ed_int ed_int ⟨by decide, by decide, by decide⟩) ea_nil)) ⟨2 ^ 60, rfl, by decide, by decide, rfl⟩) (fun d e => by rw [e]; rfl) fun d d' e ⟨v, e', v0, v1⟩ => ?_
    subst e e'
    obtain ⟨n, hn⟩ : ∃ n : Nat, v = (n : Int) := ⟨v.toNat, by omega⟩
    subst hn
    refine mj_Sr (d := .bool true) (Γm := tG r n none none none none) (fun σ H s _ => s) RowOk.stb ?_ fun v H _ dv => dv
    have sK := sml_kit0
    have sS : Sml (square ((n : Int) + 9) ((n : Int) + 9)) := sml_square ⟨by omega, by omega⟩ ⟨by omega, by omega⟩
    have sA : Sml (square (2 ^ 70) (0 - 9)) := sml_square (by decide) (by decide)
    obtain ⟨f, hf, f1, f2, f3, f4⟩ := ship_first n
    have fnS := fn_ok sK sS
    rw [hf] at fnS
    have fnA := fn_ok sK sA
    rw [aside_never] at fnA
    have kit : ∀ {Γ : Gm}, Ed (tCall (spD R_kit) [] E0 tNil) Γ (.list (kitL.map pcD)) := fun {Γ} => ed_call ea_nil ⟨rfl, rfl⟩
    refine s_seq (s_asg (d := pcD kit0) (ed_ixL kit ed_int rfl)) ?_
    refine s_seq (s_asg (d := pcD (square ((n : Int) + 9) ((n : Int) + 9))) (ed_tup (ea_cons (ed_call (ea_cons (ed_ixT (ds := [bD squareB, .int 1, pD (0, 0)]) (ed_ixL kit ed_int rfl) ed_int rfl) (ea_cons (ed_opI (g := fun i j => i + j) (ed_var rfl) ed_int) (ea_cons (ed_opI (g := fun i j => i + j) (ed_var rfl) ed_int) ea_nil))) ⟨squareB, _, _, rfl, by decide, rfl⟩) (ea_cons ed_int (ea_cons (ed_tup (ea_cons ed_int (ea_cons ed_int ea_nil))) ea_nil))))) ?_
    refine s_seq (s_asg (d := .int (f : Int)) (ed_call (ea_cons (ed_var rfl) (ea_cons (ed_var rfl) (ea_cons (ed_var rfl) ea_nil))) fnS)) ?_
    have shut : (square ((n : Int) + 9) ((n : Int) + 9)).b = mv ((n : Int) + 9, (n : Int) + 9) squareB := rfl
    have nd : (mv ((n : Int) + 9, (n : Int) + 9) squareB).Nodup := srt_nodup (srt_mv (by decide))
    have nl : (mv ((n : Int) + 9, (n : Int) + 9) squareB).length ≤ 3000 := by rw [mv_length]; decide
    have n3 : Near (pos kit0 f) (mv ((n : Int) + 9, (n : Int) + 9) squareB) := by
      have z := f3
      unfold NearAt at z
      rw [pos_square] at z
      exact z
    have n4 : ¬ Near (pos kit0 (f - 1)) (mv ((n : Int) + 9, (n : Int) + 9) squareB) := by
      have z := f4
      unfold NearAt at z
      rw [pos_square] at z
      exact z
    have fF : (f : Int) ≤ FAR := by unfold FAR; omega
    have efm : ((f - 1 : Nat) : Int) = (f : Int) - 1 := by omega
    refine s_ifn (Et.to (et_or (b := false) (et_B (ed_isN (d := .int (f : Int)) (ed_var rfl))) fun _ => et_not (et_B (ed_call (ea_cons (ed_call (ea_cons (ed_var rfl) (ea_cons (ed_var rfl) (ea_cons (ed_var rfl) ea_nil))) ⟨kit0, f, rfl, sK.ok, fF, rfl⟩) (ea_cons (ed_ixT (ed_var rfl) ed_int rfl) ea_nil)) ⟨pos kit0 f, _, rfl, nd, nl, rfl⟩))) (by rw [shut, decide_eq_true n3]; rfl)) ?_
    refine s_ifn (Et.to (et_B (ed_call (ea_cons (ed_call (ea_cons (ed_var rfl) (ea_cons (ed_var rfl) (ea_cons (Ed.to (ed_opI (i := (f : Int)) (j := 1) (g := fun i j => i - j) (ed_var rfl) ed_int) (by rw [← efm])) ea_nil))) ⟨kit0, f - 1, rfl, sK.ok, by rw [efm]; omega, rfl⟩) (ea_cons (ed_ixT (ed_var rfl) ed_int rfl) ea_nil)) ⟨pos kit0 (f - 1), _, rfl, nd, nl, rfl⟩)) (by rw [shut, decide_eq_false n4])) ?_
    refine s_seq (s_asg (d := pcD (square (2 ^ 70) (0 - 9))) (ed_tup (ea_cons (ed_call (ea_cons (ed_ixT (ds := [bD squareB, .int 1, pD (0, 0)]) (ed_ixL kit ed_int rfl) ed_int rfl) (ea_cons (ed_var rfl) (ea_cons (ed_opI (g := fun i j => i - j) ed_int ed_int) ea_nil))) ⟨squareB, _, _, rfl, by decide, rfl⟩) (ea_cons ed_int (ea_cons (ed_tup (ea_cons ed_int (ea_cons ed_int ea_nil))) ea_nil))))) ?_
    refine s_ret (Ed.to (ed_and (b := true) (ed_isN (d := .none) (ed_call (ea_cons (ed_var rfl) (ea_cons (ed_var rfl) (ea_cons (ed_var rfl) ea_nil))) fnA)) fun _ => ed_opB (g := fun i j => decide (i < j)) (ed_abs (ed_opI (g := fun i j => i - j) (ed_var rfl) (ed_opC (g := fun i j => i * j) (i := 4) (j := (n : Int)) ed_int (ed_var rfl) (.inl ⟨by decide, by decide⟩)))) ed_int) ?_)
    rw [Bool.true_and]
    congr 1
    refine decide_eq_true ?_
    split <;> omega
end
end Fb
namespace Fb
open PySem PySem.Spec PyProof.Rows L2
section
variable {K : PySem.W.Frag} {h : Heap} {mg : Str → Option Value}
/-- a def of the top, as the facts tell it -/
def df_mk {x : Str} {st : Stmt} {f : Addr} {od an : Option Addr} {sl : Array (Option Value)} {oc kV dc pm cd ct : Value} (X : K.In h) (G : h.Ns mainGlobals mg) (a : PySem.W.nsIn K mainGlobals x = some (some (.ref f)))
    (l : K.lookup f = some ⟨oc, od, .func (PySem.W.fnOf x x (defArgs st) (defBody st) (defScope st) .none kV dc pm an cd ct), sl⟩) (c : PySem.W.codeIn K cd x = true) (k : PySem.W.keepIn K (.ref f) = true) : Df K mg x st :=
  ⟨f, _, fun_mk l c k, PySem.W.mg_of X G a⟩
end
theorem all_mk {l : PySem.W.OpenLaw} {w : World} {K : PySem.W.Frag} {h : Heap} {mg : Str → Option Value} {fa : Addr} (X : K.In h) (G : h.Ns mainGlobals mg) (hfa : mg "law" = some (.ref fa))
    {f0 : Addr} {od0 an0 : Option Addr} {sl0 : Array (Option Value)} {oc0 kV0 dc0 pm0 cd0 ct0 : Value}
    (a0 : PySem.W.nsIn K mainGlobals "is_in" = some (some (.ref f0))) (l0 : K.lookup f0 = some ⟨oc0, od0, .func (PySem.W.fnOf "is_in" "is_in" (defArgs s_is_in) (defBody s_is_in) (defScope s_is_in) .none kV0 dc0 pm0 an0 cd0 ct0), sl0⟩) (c0 : PySem.W.codeIn K cd0 "is_in" = true) (k0 : PySem.W.keepIn K (.ref f0) = true)
    {f1 : Addr} {od1 an1 : Option Addr} {sl1 : Array (Option Value)} {oc1 kV1 dc1 pm1 cd1 ct1 : Value}
    (a1 : PySem.W.nsIn K mainGlobals "are_counts" = some (some (.ref f1))) (l1 : K.lookup f1 = some ⟨oc1, od1, .func (PySem.W.fnOf "are_counts" "are_counts" (defArgs s_are_counts) (defBody s_are_counts) (defScope s_are_counts) .none kV1 dc1 pm1 an1 cd1 ct1), sl1⟩) (c1 : PySem.W.codeIn K cd1 "are_counts" = true) (k1 : PySem.W.keepIn K (.ref f1) = true)
    {f2 : Addr} {od2 an2 : Option Addr} {sl2 : Array (Option Value)} {oc2 kV2 dc2 pm2 cd2 ct2 : Value}
    (a2 : PySem.W.nsIn K mainGlobals "is_rule" = some (some (.ref f2))) (l2 : K.lookup f2 = some ⟨oc2, od2, .func (PySem.W.fnOf "is_rule" "is_rule" (defArgs s_is_rule) (defBody s_is_rule) (defScope s_is_rule) .none kV2 dc2 pm2 an2 cd2 ct2), sl2⟩) (c2 : PySem.W.codeIn K cd2 "is_rule" = true) (k2 : PySem.W.keepIn K (.ref f2) = true)
    {f3 : Addr} {od3 an3 : Option Addr} {sl3 : Array (Option Value)} {oc3 kV3 dc3 pm3 cd3 ct3 : Value}
    (a3 : PySem.W.nsIn K mainGlobals "need_rule" = some (some (.ref f3))) (l3 : K.lookup f3 = some ⟨oc3, od3, .func (PySem.W.fnOf "need_rule" "need_rule" (defArgs s_need_rule) (defBody s_need_rule) (defScope s_need_rule) .none kV3 dc3 pm3 an3 cd3 ct3), sl3⟩) (c3 : PySem.W.codeIn K cd3 "need_rule" = true) (k3 : PySem.W.keepIn K (.ref f3) = true)
    {f4 : Addr} {od4 an4 : Option Addr} {sl4 : Array (Option Value)} {oc4 kV4 dc4 pm4 cd4 ct4 : Value}
    (a4 : PySem.W.nsIn K mainGlobals "is_move" = some (some (.ref f4))) (l4 : K.lookup f4 = some ⟨oc4, od4, .func (PySem.W.fnOf "is_move" "is_move" (defArgs s_is_move) (defBody s_is_move) (defScope s_is_move) .none kV4 dc4 pm4 an4 cd4 ct4), sl4⟩) (c4 : PySem.W.codeIn K cd4 "is_move" = true) (k4 : PySem.W.keepIn K (.ref f4) = true)
    {f5 : Addr} {od5 an5 : Option Addr} {sl5 : Array (Option Value)} {oc5 kV5 dc5 pm5 cd5 ct5 : Value}
    (a5 : PySem.W.nsIn K mainGlobals "is_cell" = some (some (.ref f5))) (l5 : K.lookup f5 = some ⟨oc5, od5, .func (PySem.W.fnOf "is_cell" "is_cell" (defArgs s_is_cell) (defBody s_is_cell) (defScope s_is_cell) .none kV5 dc5 pm5 an5 cd5 ct5), sl5⟩) (c5 : PySem.W.codeIn K cd5 "is_cell" = true) (k5 : PySem.W.keepIn K (.ref f5) = true)
    {f6 : Addr} {od6 an6 : Option Addr} {sl6 : Array (Option Value)} {oc6 kV6 dc6 pm6 cd6 ct6 : Value}
    (a6 : PySem.W.nsIn K mainGlobals "need_board" = some (some (.ref f6))) (l6 : K.lookup f6 = some ⟨oc6, od6, .func (PySem.W.fnOf "need_board" "need_board" (defArgs s_need_board) (defBody s_need_board) (defScope s_need_board) .none kV6 dc6 pm6 an6 cd6 ct6), sl6⟩) (c6 : PySem.W.codeIn K cd6 "need_board" = true) (k6 : PySem.W.keepIn K (.ref f6) = true)
    {f7 : Addr} {od7 an7 : Option Addr} {sl7 : Array (Option Value)} {oc7 kV7 dc7 pm7 cd7 ct7 : Value}
    (a7 : PySem.W.nsIn K mainGlobals "board_of" = some (some (.ref f7))) (l7 : K.lookup f7 = some ⟨oc7, od7, .func (PySem.W.fnOf "board_of" "board_of" (defArgs s_board_of) (defBody s_board_of) (defScope s_board_of) .none kV7 dc7 pm7 an7 cd7 ct7), sl7⟩) (c7 : PySem.W.codeIn K cd7 "board_of" = true) (k7 : PySem.W.keepIn K (.ref f7) = true)
    {f8 : Addr} {od8 an8 : Option Addr} {sl8 : Array (Option Value)} {oc8 kV8 dc8 pm8 cd8 ct8 : Value}
    (a8 : PySem.W.nsIn K mainGlobals "cells_of" = some (some (.ref f8))) (l8 : K.lookup f8 = some ⟨oc8, od8, .func (PySem.W.fnOf "cells_of" "cells_of" (defArgs s_cells_of) (defBody s_cells_of) (defScope s_cells_of) .none kV8 dc8 pm8 an8 cd8 ct8), sl8⟩) (c8 : PySem.W.codeIn K cd8 "cells_of" = true) (k8 : PySem.W.keepIn K (.ref f8) = true)
    {f9 : Addr} {od9 an9 : Option Addr} {sl9 : Array (Option Value)} {oc9 kV9 dc9 pm9 cd9 ct9 : Value}
    (a9 : PySem.W.nsIn K mainGlobals "shifted_in" = some (some (.ref f9))) (l9 : K.lookup f9 = some ⟨oc9, od9, .func (PySem.W.fnOf "shifted_in" "shifted_in" (defArgs s_shifted_in) (defBody s_shifted_in) (defScope s_shifted_in) .none kV9 dc9 pm9 an9 cd9 ct9), sl9⟩) (c9 : PySem.W.codeIn K cd9 "shifted_in" = true) (k9 : PySem.W.keepIn K (.ref f9) = true)
    {f10 : Addr} {od10 an10 : Option Addr} {sl10 : Array (Option Value)} {oc10 kV10 dc10 pm10 cd10 ct10 : Value}
    (a10 : PySem.W.nsIn K mainGlobals "times_within" = some (some (.ref f10))) (l10 : K.lookup f10 = some ⟨oc10, od10, .func (PySem.W.fnOf "times_within" "times_within" (defArgs s_times_within) (defBody s_times_within) (defScope s_times_within) .none kV10 dc10 pm10 an10 cd10 ct10), sl10⟩) (c10 : PySem.W.codeIn K cd10 "times_within" = true) (k10 : PySem.W.keepIn K (.ref f10) = true)
    {f11 : Addr} {od11 an11 : Option Addr} {sl11 : Array (Option Value)} {oc11 kV11 dc11 pm11 cd11 ct11 : Value}
    (a11 : PySem.W.nsIn K mainGlobals "first_in" = some (some (.ref f11))) (l11 : K.lookup f11 = some ⟨oc11, od11, .func (PySem.W.fnOf "first_in" "first_in" (defArgs s_first_in) (defBody s_first_in) (defScope s_first_in) .none kV11 dc11 pm11 an11 cd11 ct11), sl11⟩) (c11 : PySem.W.codeIn K cd11 "first_in" = true) (k11 : PySem.W.keepIn K (.ref f11) = true)
    {f12 : Addr} {od12 an12 : Option Addr} {sl12 : Array (Option Value)} {oc12 kV12 dc12 pm12 cd12 ct12 : Value}
    (a12 : PySem.W.nsIn K mainGlobals "common" = some (some (.ref f12))) (l12 : K.lookup f12 = some ⟨oc12, od12, .func (PySem.W.fnOf "common" "common" (defArgs s_common) (defBody s_common) (defScope s_common) .none kV12 dc12 pm12 an12 cd12 ct12), sl12⟩) (c12 : PySem.W.codeIn K cd12 "common" = true) (k12 : PySem.W.keepIn K (.ref f12) = true)
    {f13 : Addr} {od13 an13 : Option Addr} {sl13 : Array (Option Value)} {oc13 kV13 dc13 pm13 cd13 ct13 : Value}
    (a13 : PySem.W.nsIn K mainGlobals "neighbours" = some (some (.ref f13))) (l13 : K.lookup f13 = some ⟨oc13, od13, .func (PySem.W.fnOf "neighbours" "neighbours" (defArgs s_neighbours) (defBody s_neighbours) (defScope s_neighbours) .none kV13 dc13 pm13 an13 cd13 ct13), sl13⟩) (c13 : PySem.W.codeIn K cd13 "neighbours" = true) (k13 : PySem.W.keepIn K (.ref f13) = true)
    {f14 : Addr} {od14 an14 : Option Addr} {sl14 : Array (Option Value)} {oc14 kV14 dc14 pm14 cd14 ct14 : Value}
    (a14 : PySem.W.nsIn K mainGlobals "next_cells" = some (some (.ref f14))) (l14 : K.lookup f14 = some ⟨oc14, od14, .func (PySem.W.fnOf "next_cells" "next_cells" (defArgs s_next_cells) (defBody s_next_cells) (defScope s_next_cells) .none kV14 dc14 pm14 an14 cd14 ct14), sl14⟩) (c14 : PySem.W.codeIn K cd14 "next_cells" = true) (k14 : PySem.W.keepIn K (.ref f14) = true)
    {f15 : Addr} {od15 an15 : Option Addr} {sl15 : Array (Option Value)} {oc15 kV15 dc15 pm15 cd15 ct15 : Value}
    (a15 : PySem.W.nsIn K mainGlobals "need_small" = some (some (.ref f15))) (l15 : K.lookup f15 = some ⟨oc15, od15, .func (PySem.W.fnOf "need_small" "need_small" (defArgs s_need_small) (defBody s_need_small) (defScope s_need_small) .none kV15 dc15 pm15 an15 cd15 ct15), sl15⟩) (c15 : PySem.W.codeIn K cd15 "need_small" = true) (k15 : PySem.W.keepIn K (.ref f15) = true)
    {f16 : Addr} {od16 an16 : Option Addr} {sl16 : Array (Option Value)} {oc16 kV16 dc16 pm16 cd16 ct16 : Value}
    (a16 : PySem.W.nsIn K mainGlobals "need_states" = some (some (.ref f16))) (l16 : K.lookup f16 = some ⟨oc16, od16, .func (PySem.W.fnOf "need_states" "need_states" (defArgs s_need_states) (defBody s_need_states) (defScope s_need_states) .none kV16 dc16 pm16 an16 cd16 ct16), sl16⟩) (c16 : PySem.W.codeIn K cd16 "need_states" = true) (k16 : PySem.W.keepIn K (.ref f16) = true)
    {f17 : Addr} {od17 an17 : Option Addr} {sl17 : Array (Option Value)} {oc17 kV17 dc17 pm17 cd17 ct17 : Value}
    (a17 : PySem.W.nsIn K mainGlobals "step_in" = some (some (.ref f17))) (l17 : K.lookup f17 = some ⟨oc17, od17, .func (PySem.W.fnOf "step_in" "step_in" (defArgs s_step_in) (defBody s_step_in) (defScope s_step_in) .none kV17 dc17 pm17 an17 cd17 ct17), sl17⟩) (c17 : PySem.W.codeIn K cd17 "step_in" = true) (k17 : PySem.W.keepIn K (.ref f17) = true)
    {f18 : Addr} {od18 an18 : Option Addr} {sl18 : Array (Option Value)} {oc18 kV18 dc18 pm18 cd18 ct18 : Value}
    (a18 : PySem.W.nsIn K mainGlobals "is_beyond" = some (some (.ref f18))) (l18 : K.lookup f18 = some ⟨oc18, od18, .func (PySem.W.fnOf "is_beyond" "is_beyond" (defArgs s_is_beyond) (defBody s_is_beyond) (defScope s_is_beyond) .none kV18 dc18 pm18 an18 cd18 ct18), sl18⟩) (c18 : PySem.W.codeIn K cd18 "is_beyond" = true) (k18 : PySem.W.keepIn K (.ref f18) = true)
    {f19 : Addr} {od19 an19 : Option Addr} {sl19 : Array (Option Value)} {oc19 kV19 dc19 pm19 cd19 ct19 : Value}
    (a19 : PySem.W.nsIn K mainGlobals "phases_in" = some (some (.ref f19))) (l19 : K.lookup f19 = some ⟨oc19, od19, .func (PySem.W.fnOf "phases_in" "phases_in" (defArgs s_phases_in) (defBody s_phases_in) (defScope s_phases_in) .none kV19 dc19 pm19 an19 cd19 ct19), sl19⟩) (c19 : PySem.W.codeIn K cd19 "phases_in" = true) (k19 : PySem.W.keepIn K (.ref f19) = true)
    {f20 : Addr} {od20 an20 : Option Addr} {sl20 : Array (Option Value)} {oc20 kV20 dc20 pm20 cd20 ct20 : Value}
    (a20 : PySem.W.nsIn K mainGlobals "is_piece_shape" = some (some (.ref f20))) (l20 : K.lookup f20 = some ⟨oc20, od20, .func (PySem.W.fnOf "is_piece_shape" "is_piece_shape" (defArgs s_is_piece_shape) (defBody s_is_piece_shape) (defScope s_is_piece_shape) .none kV20 dc20 pm20 an20 cd20 ct20), sl20⟩) (c20 : PySem.W.codeIn K cd20 "is_piece_shape" = true) (k20 : PySem.W.keepIn K (.ref f20) = true)
    {f21 : Addr} {od21 an21 : Option Addr} {sl21 : Array (Option Value)} {oc21 kV21 dc21 pm21 cd21 ct21 : Value}
    (a21 : PySem.W.nsIn K mainGlobals "is_piece" = some (some (.ref f21))) (l21 : K.lookup f21 = some ⟨oc21, od21, .func (PySem.W.fnOf "is_piece" "is_piece" (defArgs s_is_piece) (defBody s_is_piece) (defScope s_is_piece) .none kV21 dc21 pm21 an21 cd21 ct21), sl21⟩) (c21 : PySem.W.codeIn K cd21 "is_piece" = true) (k21 : PySem.W.keepIn K (.ref f21) = true)
    {f22 : Addr} {od22 an22 : Option Addr} {sl22 : Array (Option Value)} {oc22 kV22 dc22 pm22 cd22 ct22 : Value}
    (a22 : PySem.W.nsIn K mainGlobals "need_piece" = some (some (.ref f22))) (l22 : K.lookup f22 = some ⟨oc22, od22, .func (PySem.W.fnOf "need_piece" "need_piece" (defArgs s_need_piece) (defBody s_need_piece) (defScope s_need_piece) .none kV22 dc22 pm22 an22 cd22 ct22), sl22⟩) (c22 : PySem.W.codeIn K cd22 "need_piece" = true) (k22 : PySem.W.keepIn K (.ref f22) = true)
    {f23 : Addr} {od23 an23 : Option Addr} {sl23 : Array (Option Value)} {oc23 kV23 dc23 pm23 cd23 ct23 : Value}
    (a23 : PySem.W.nsIn K mainGlobals "moved_by" = some (some (.ref f23))) (l23 : K.lookup f23 = some ⟨oc23, od23, .func (PySem.W.fnOf "moved_by" "moved_by" (defArgs s_moved_by) (defBody s_moved_by) (defScope s_moved_by) .none kV23 dc23 pm23 an23 cd23 ct23), sl23⟩) (c23 : PySem.W.codeIn K cd23 "moved_by" = true) (k23 : PySem.W.keepIn K (.ref f23) = true)
    {f24 : Addr} {od24 an24 : Option Addr} {sl24 : Array (Option Value)} {oc24 kV24 dc24 pm24 cd24 ct24 : Value}
    (a24 : PySem.W.nsIn K mainGlobals "piece_at" = some (some (.ref f24))) (l24 : K.lookup f24 = some ⟨oc24, od24, .func (PySem.W.fnOf "piece_at" "piece_at" (defArgs s_piece_at) (defBody s_piece_at) (defScope s_piece_at) .none kV24 dc24 pm24 an24 cd24 ct24), sl24⟩) (c24 : PySem.W.codeIn K cd24 "piece_at" = true) (k24 : PySem.W.keepIn K (.ref f24) = true)
    {f25 : Addr} {od25 an25 : Option Addr} {sl25 : Array (Option Value)} {oc25 kV25 dc25 pm25 cd25 ct25 : Value}
    (a25 : PySem.W.nsIn K mainGlobals "place_in" = some (some (.ref f25))) (l25 : K.lookup f25 = some ⟨oc25, od25, .func (PySem.W.fnOf "place_in" "place_in" (defArgs s_place_in) (defBody s_place_in) (defScope s_place_in) .none kV25 dc25 pm25 an25 cd25 ct25), sl25⟩) (c25 : PySem.W.codeIn K cd25 "place_in" = true) (k25 : PySem.W.keepIn K (.ref f25) = true)
    {f26 : Addr} {od26 an26 : Option Addr} {sl26 : Array (Option Value)} {oc26 kV26 dc26 pm26 cd26 ct26 : Value}
    (a26 : PySem.W.nsIn K mainGlobals "least_common" = some (some (.ref f26))) (l26 : K.lookup f26 = some ⟨oc26, od26, .func (PySem.W.fnOf "least_common" "least_common" (defArgs s_least_common) (defBody s_least_common) (defScope s_least_common) .none kV26 dc26 pm26 an26 cd26 ct26), sl26⟩) (c26 : PySem.W.codeIn K cd26 "least_common" = true) (k26 : PySem.W.keepIn K (.ref f26) = true)
    {f27 : Addr} {od27 an27 : Option Addr} {sl27 : Array (Option Value)} {oc27 kV27 dc27 pm27 cd27 ct27 : Value}
    (a27 : PySem.W.nsIn K mainGlobals "first_near_in" = some (some (.ref f27))) (l27 : K.lookup f27 = some ⟨oc27, od27, .func (PySem.W.fnOf "first_near_in" "first_near_in" (defArgs s_first_near_in) (defBody s_first_near_in) (defScope s_first_near_in) .none kV27 dc27 pm27 an27 cd27 ct27), sl27⟩) (c27 : PySem.W.codeIn K cd27 "first_near_in" = true) (k27 : PySem.W.keepIn K (.ref f27) = true)
    {f28 : Addr} {od28 an28 : Option Addr} {sl28 : Array (Option Value)} {oc28 kV28 dc28 pm28 cd28 ct28 : Value}
    (a28 : PySem.W.nsIn K mainGlobals "first_near" = some (some (.ref f28))) (l28 : K.lookup f28 = some ⟨oc28, od28, .func (PySem.W.fnOf "first_near" "first_near" (defArgs s_first_near) (defBody s_first_near) (defScope s_first_near) .none kV28 dc28 pm28 an28 cd28 ct28), sl28⟩) (c28 : PySem.W.codeIn K cd28 "first_near" = true) (k28 : PySem.W.keepIn K (.ref f28) = true)
    {f29 : Addr} {od29 an29 : Option Addr} {sl29 : Array (Option Value)} {oc29 kV29 dc29 pm29 cd29 ct29 : Value}
    (a29 : PySem.W.nsIn K mainGlobals "_law_turned_piece" = some (some (.ref f29))) (l29 : K.lookup f29 = some ⟨oc29, od29, .func (PySem.W.fnOf "_law_turned_piece" "_law_turned_piece" (defArgs s__law_turned_piece) (defBody s__law_turned_piece) (defScope s__law_turned_piece) .none kV29 dc29 pm29 an29 cd29 ct29), sl29⟩) (c29 : PySem.W.codeIn K cd29 "_law_turned_piece" = true) (k29 : PySem.W.keepIn K (.ref f29) = true)
    {f30 : Addr} {od30 an30 : Option Addr} {sl30 : Array (Option Value)} {oc30 kV30 dc30 pm30 cd30 ct30 : Value}
    (a30 : PySem.W.nsIn K mainGlobals "_law_taken" = some (some (.ref f30))) (l30 : K.lookup f30 = some ⟨oc30, od30, .func (PySem.W.fnOf "_law_taken" "_law_taken" (defArgs s__law_taken) (defBody s__law_taken) (defScope s__law_taken) .none kV30 dc30 pm30 an30 cd30 ct30), sl30⟩) (c30 : PySem.W.codeIn K cd30 "_law_taken" = true) (k30 : PySem.W.keepIn K (.ref f30) = true)
    {f31 : Addr} {od31 an31 : Option Addr} {sl31 : Array (Option Value)} {oc31 kV31 dc31 pm31 cd31 ct31 : Value}
    (a31 : PySem.W.nsIn K mainGlobals "_law_pick" = some (some (.ref f31))) (l31 : K.lookup f31 = some ⟨oc31, od31, .func (PySem.W.fnOf "_law_pick" "_law_pick" (defArgs s__law_pick) (defBody s__law_pick) (defScope s__law_pick) .none kV31 dc31 pm31 an31 cd31 ct31), sl31⟩) (c31 : PySem.W.codeIn K cd31 "_law_pick" = true) (k31 : PySem.W.keepIn K (.ref f31) = true)
    {f32 : Addr} {od32 an32 : Option Addr} {sl32 : Array (Option Value)} {oc32 kV32 dc32 pm32 cd32 ct32 : Value}
    (a32 : PySem.W.nsIn K mainGlobals "_law_kit" = some (some (.ref f32))) (l32 : K.lookup f32 = some ⟨oc32, od32, .func (PySem.W.fnOf "_law_kit" "_law_kit" (defArgs s__law_kit) (defBody s__law_kit) (defScope s__law_kit) .none kV32 dc32 pm32 an32 cd32 ct32), sl32⟩) (c32 : PySem.W.codeIn K cd32 "_law_kit" = true) (k32 : PySem.W.keepIn K (.ref f32) = true)
    {f33 : Addr} {od33 an33 : Option Addr} {sl33 : Array (Option Value)} {oc33 kV33 dc33 pm33 cd33 ct33 : Value}
    (a33 : PySem.W.nsIn K mainGlobals "_law_moved" = some (some (.ref f33))) (l33 : K.lookup f33 = some ⟨oc33, od33, .func (PySem.W.fnOf "_law_moved" "_law_moved" (defArgs s__law_moved) (defBody s__law_moved) (defScope s__law_moved) .none kV33 dc33 pm33 an33 cd33 ct33), sl33⟩) (c33 : PySem.W.codeIn K cd33 "_law_moved" = true) (k33 : PySem.W.keepIn K (.ref f33) = true)
    {f34 : Addr} {od34 an34 : Option Addr} {sl34 : Array (Option Value)} {oc34 kV34 dc34 pm34 cd34 ct34 : Value}
    (a34 : PySem.W.nsIn K mainGlobals "_law_signed" = some (some (.ref f34))) (l34 : K.lookup f34 = some ⟨oc34, od34, .func (PySem.W.fnOf "_law_signed" "_law_signed" (defArgs s__law_signed) (defBody s__law_signed) (defScope s__law_signed) .none kV34 dc34 pm34 an34 cd34 ct34), sl34⟩) (c34 : PySem.W.codeIn K cd34 "_law_signed" = true) (k34 : PySem.W.keepIn K (.ref f34) = true)
    {f35 : Addr} {od35 an35 : Option Addr} {sl35 : Array (Option Value)} {oc35 kV35 dc35 pm35 cd35 ct35 : Value}
    (a35 : PySem.W.nsIn K mainGlobals "_law_some_piece" = some (some (.ref f35))) (l35 : K.lookup f35 = some ⟨oc35, od35, .func (PySem.W.fnOf "_law_some_piece" "_law_some_piece" (defArgs s__law_some_piece) (defBody s__law_some_piece) (defScope s__law_some_piece) .none kV35 dc35 pm35 an35 cd35 ct35), sl35⟩) (c35 : PySem.W.codeIn K cd35 "_law_some_piece" = true) (k35 : PySem.W.keepIn K (.ref f35) = true)
    {f36 : Addr} {od36 an36 : Option Addr} {sl36 : Array (Option Value)} {oc36 kV36 dc36 pm36 cd36 ct36 : Value}
    (a36 : PySem.W.nsIn K mainGlobals "_law_around" = some (some (.ref f36))) (l36 : K.lookup f36 = some ⟨oc36, od36, .func (PySem.W.fnOf "_law_around" "_law_around" (defArgs s__law_around) (defBody s__law_around) (defScope s__law_around) .none kV36 dc36 pm36 an36 cd36 ct36), sl36⟩) (c36 : PySem.W.codeIn K cd36 "_law_around" = true) (k36 : PySem.W.keepIn K (.ref f36) = true)
    {f37 : Addr} {od37 an37 : Option Addr} {sl37 : Array (Option Value)} {oc37 kV37 dc37 pm37 cd37 ct37 : Value}
    (a37 : PySem.W.nsIn K mainGlobals "_law_step" = some (some (.ref f37))) (l37 : K.lookup f37 = some ⟨oc37, od37, .func (PySem.W.fnOf "_law_step" "_law_step" (defArgs s__law_step) (defBody s__law_step) (defScope s__law_step) .none kV37 dc37 pm37 an37 cd37 ct37), sl37⟩) (c37 : PySem.W.codeIn K cd37 "_law_step" = true) (k37 : PySem.W.keepIn K (.ref f37) = true)
    {f38 : Addr} {od38 an38 : Option Addr} {sl38 : Array (Option Value)} {oc38 kV38 dc38 pm38 cd38 ct38 : Value}
    (a38 : PySem.W.nsIn K mainGlobals "_law_steps" = some (some (.ref f38))) (l38 : K.lookup f38 = some ⟨oc38, od38, .func (PySem.W.fnOf "_law_steps" "_law_steps" (defArgs s__law_steps) (defBody s__law_steps) (defScope s__law_steps) .none kV38 dc38 pm38 an38 cd38 ct38), sl38⟩) (c38 : PySem.W.codeIn K cd38 "_law_steps" = true) (k38 : PySem.W.keepIn K (.ref f38) = true)
    {f39 : Addr} {od39 an39 : Option Addr} {sl39 : Array (Option Value)} {oc39 kV39 dc39 pm39 cd39 ct39 : Value}
    (a39 : PySem.W.nsIn K mainGlobals "_law_piece_at" = some (some (.ref f39))) (l39 : K.lookup f39 = some ⟨oc39, od39, .func (PySem.W.fnOf "_law_piece_at" "_law_piece_at" (defArgs s__law_piece_at) (defBody s__law_piece_at) (defScope s__law_piece_at) .none kV39 dc39 pm39 an39 cd39 ct39), sl39⟩) (c39 : PySem.W.codeIn K cd39 "_law_piece_at" = true) (k39 : PySem.W.keepIn K (.ref f39) = true)
    {f40 : Addr} {od40 an40 : Option Addr} {sl40 : Array (Option Value)} {oc40 kV40 dc40 pm40 cd40 ct40 : Value}
    (a40 : PySem.W.nsIn K mainGlobals "_law_are_near" = some (some (.ref f40))) (l40 : K.lookup f40 = some ⟨oc40, od40, .func (PySem.W.fnOf "_law_are_near" "_law_are_near" (defArgs s__law_are_near) (defBody s__law_are_near) (defScope s__law_are_near) .none kV40 dc40 pm40 an40 cd40 ct40), sl40⟩) (c40 : PySem.W.codeIn K cd40 "_law_are_near" = true) (k40 : PySem.W.keepIn K (.ref f40) = true)
    {f41 : Addr} {od41 an41 : Option Addr} {sl41 : Array (Option Value)} {oc41 kV41 dc41 pm41 cd41 ct41 : Value}
    (a41 : PySem.W.nsIn K mainGlobals "_law_alike" = some (some (.ref f41))) (l41 : K.lookup f41 = some ⟨oc41, od41, .func (PySem.W.fnOf "_law_alike" "_law_alike" (defArgs s__law_alike) (defBody s__law_alike) (defScope s__law_alike) .none kV41 dc41 pm41 an41 cd41 ct41), sl41⟩) (c41 : PySem.W.codeIn K cd41 "_law_alike" = true) (k41 : PySem.W.keepIn K (.ref f41) = true)
    {f42 : Addr} {od42 an42 : Option Addr} {sl42 : Array (Option Value)} {oc42 kV42 dc42 pm42 cd42 ct42 : Value}
    (a42 : PySem.W.nsIn K mainGlobals "law" = some (some (.ref f42))) (l42 : K.lookup f42 = some ⟨oc42, od42, .func (PySem.W.fnOf "law" "law" (defArgs s_law) (defBody s_law) (defScope s_law) .none kV42 dc42 pm42 an42 cd42 ct42), sl42⟩) (c42 : PySem.W.codeIn K cd42 "law" = true) (k42 : PySem.W.keepIn K (.ref f42) = true)
    {t_MOST_STATES : Tok} (v_MOST_STATES : PySem.W.nsIn K mainGlobals "MOST_STATES" = some (some (.int (6) t_MOST_STATES)))
    {t_FAR : Tok} (v_FAR : PySem.W.nsIn K mainGlobals "FAR" = some (some (.int (10 ^ 60) t_FAR)))
    {t_NEAR : Tok} (v_NEAR : PySem.W.nsIn K mainGlobals "NEAR" = some (some (.int (2) t_NEAR)))
    {t_MOST_CELLS : Tok} (v_MOST_CELLS : PySem.W.nsIn K mainGlobals "MOST_CELLS" = some (some (.int (3000) t_MOST_CELLS)))
    {t_MOST_PERIOD : Tok} (v_MOST_PERIOD : PySem.W.nsIn K mainGlobals "MOST_PERIOD" = some (some (.int (240) t_MOST_PERIOD)))
    {t_MOST_SIZE : Tok} (v_MOST_SIZE : PySem.W.nsIn K mainGlobals "MOST_SIZE" = some (some (.int (300) t_MOST_SIZE)))
    {t_MOST_TURN : Tok} (v_MOST_TURN : PySem.W.nsIn K mainGlobals "MOST_TURN" = some (some (.int (6000) t_MOST_TURN)))
    (z_isinstance : PySem.W.nsIn K mainGlobals "isinstance" = some none)
    (z_int : PySem.W.nsIn K mainGlobals "int" = some none)
    (z_bool : PySem.W.nsIn K mainGlobals "bool" = some none)
    (z_tuple : PySem.W.nsIn K mainGlobals "tuple" = some none)
    (z_list : PySem.W.nsIn K mainGlobals "list" = some none)
    (z_sorted : PySem.W.nsIn K mainGlobals "sorted" = some none)
    (z_set : PySem.W.nsIn K mainGlobals "set" = some none)
    (z_len : PySem.W.nsIn K mainGlobals "len" = some none)
    (z_enumerate : PySem.W.nsIn K mainGlobals "enumerate" = some none)
    (z_max : PySem.W.nsIn K mainGlobals "max" = some none)
    (z_min : PySem.W.nsIn K mainGlobals "min" = some none)
    (z_abs : PySem.W.nsIn K mainGlobals "abs" = some none)
    (z_range : PySem.W.nsIn K mainGlobals "range" = some none)
    (z_dict : PySem.W.nsIn K mainGlobals "dict" = some none)
    (z_str : PySem.W.nsIn K mainGlobals "str" = some none) :
    ∃ fd : FuncData, (∀ (s : Shared) (v : Value), BindsTo s fd ⟨[v], []⟩ [("_law_script", v)]) ∧ ∀ base : Heap, K.In base → base.Ns mainGlobals mg → FnOk l.prog w K mg base CX0 9 fa fd ["_law_script"] (spLawX K) := by
  have e := hfa.symm.trans (PySem.W.mg_of X G a42)
  cases e
  exact ⟨_, fun s v => .of_eq rfl, fun base _ _ => ok_law (⟨df_mk X G a0 l0 c0 k0, df_mk X G a1 l1 c1 k1, df_mk X G a2 l2 c2 k2, df_mk X G a3 l3 c3 k3, df_mk X G a4 l4 c4 k4, df_mk X G a5 l5 c5 k5, df_mk X G a6 l6 c6 k6, df_mk X G a7 l7 c7 k7, df_mk X G a8 l8 c8 k8, df_mk X G a9 l9 c9 k9, df_mk X G a10 l10 c10 k10, df_mk X G a11 l11 c11 k11, df_mk X G a12 l12 c12 k12, df_mk X G a13 l13 c13 k13, df_mk X G a14 l14 c14 k14, df_mk X G a15 l15 c15 k15, df_mk X G a16 l16 c16 k16, df_mk X G a17 l17 c17 k17, df_mk X G a18 l18 c18 k18, df_mk X G a19 l19 c19 k19, df_mk X G a20 l20 c20 k20, df_mk X G a21 l21 c21 k21, df_mk X G a22 l22 c22 k22, df_mk X G a23 l23 c23 k23, df_mk X G a24 l24 c24 k24, df_mk X G a25 l25 c25 k25, df_mk X G a26 l26 c26 k26, df_mk X G a27 l27 c27 k27, df_mk X G a28 l28 c28 k28, df_mk X G a29 l29 c29 k29, df_mk X G a30 l30 c30 k30, df_mk X G a31 l31 c31 k31, df_mk X G a32 l32 c32 k32, df_mk X G a33 l33 c33 k33, df_mk X G a34 l34 c34 k34, df_mk X G a35 l35 c35 k35, df_mk X G a36 l36 c36 k36, df_mk X G a37 l37 c37 k37, df_mk X G a38 l38 c38 k38, df_mk X G a39 l39 c39 k39, df_mk X G a40 l40 c40 k40, df_mk X G a41 l41 c41 k41, df_mk X G a42 l42 c42 k42, t_MOST_STATES, PySem.W.mg_of X G v_MOST_STATES, t_FAR, PySem.W.mg_of X G v_FAR, t_NEAR, PySem.W.mg_of X G v_NEAR, t_MOST_CELLS, PySem.W.mg_of X G v_MOST_CELLS, t_MOST_PERIOD, PySem.W.mg_of X G v_MOST_PERIOD, t_MOST_SIZE, PySem.W.mg_of X G v_MOST_SIZE, t_MOST_TURN, PySem.W.mg_of X G v_MOST_TURN, PySem.W.mg_none_of X G z_isinstance, PySem.W.mg_none_of X G z_int, PySem.W.mg_none_of X G z_bool, PySem.W.mg_none_of X G z_tuple, PySem.W.mg_none_of X G z_list, PySem.W.mg_none_of X G z_sorted, PySem.W.mg_none_of X G z_set, PySem.W.mg_none_of X G z_len, PySem.W.mg_none_of X G z_enumerate, PySem.W.mg_none_of X G z_max, PySem.W.mg_none_of X G z_min, PySem.W.mg_none_of X G z_abs, PySem.W.mg_none_of X G z_range, PySem.W.mg_none_of X G z_dict, PySem.W.mg_none_of X G z_str⟩ : Tp K mg)⟩
end Fb
open PySem PySem.W PyProof.Rows
set_option maxHeartbeats 0 in
theorem PySem.Challenge.cw_fateboards_k06_whole_first_near_holds : PySem.Challenge.rw_fateboards_k06_whole_first_near.Holds := by
  w_on; o_law; k_head; (case hw => w_witness2)
  k_fill
  refine L2.walk_of (l := PySem.Challenge.rw_fateboards_k06_whole_first_near) (n := 63) (k := 9) (x := "_law_script") (CX := fun _ => L2.CX0) (sp := fun w => Fb.spLawX _) rfl (by decide) rfl ⟨rfl, by decide, by decide⟩ (fun w h Y => PySem.W.kIn_of Y) ?F (fun _ _ a ns hl _ hS => ⟨a, ns, rfl, hS, fun _ => rfl⟩) (fun _ _ _ _ _ h => h)
  case F =>
    intro w mg fa h KX G hmg
    refine' Fb.all_mk KX G hmg ?a0 ?l0 ?c0 ?k0 ?a1 ?l1 ?c1 ?k1 ?a2 ?l2 ?c2 ?k2 ?a3 ?l3 ?c3 ?k3 ?a4 ?l4 ?c4 ?k4 ?a5 ?l5 ?c5 ?k5 ?a6 ?l6 ?c6 ?k6 ?a7 ?l7 ?c7 ?k7 ?a8 ?l8 ?c8 ?k8 ?a9 ?l9 ?c9 ?k9 ?a10 ?l10 ?c10 ?k10 ?a11 ?l11 ?c11 ?k11 ?a12 ?l12 ?c12 ?k12 ?a13 ?l13 ?c13 ?k13 ?a14 ?l14 ?c14 ?k14 ?a15 ?l15 ?c15 ?k15 ?a16 ?l16 ?c16 ?k16 ?a17 ?l17 ?c17 ?k17 ?a18 ?l18 ?c18 ?k18 ?a19 ?l19 ?c19 ?k19 ?a20 ?l20 ?c20 ?k20 ?a21 ?l21 ?c21 ?k21 ?a22 ?l22 ?c22 ?k22 ?a23 ?l23 ?c23 ?k23 ?a24 ?l24 ?c24 ?k24 ?a25 ?l25 ?c25 ?k25 ?a26 ?l26 ?c26 ?k26 ?a27 ?l27 ?c27 ?k27 ?a28 ?l28 ?c28 ?k28 ?a29 ?l29 ?c29 ?k29 ?a30 ?l30 ?c30 ?k30 ?a31 ?l31 ?c31 ?k31 ?a32 ?l32 ?c32 ?k32 ?a33 ?l33 ?c33 ?k33 ?a34 ?l34 ?c34 ?k34 ?a35 ?l35 ?c35 ?k35 ?a36 ?l36 ?c36 ?k36 ?a37 ?l37 ?c37 ?k37 ?a38 ?l38 ?c38 ?k38 ?a39 ?l39 ?c39 ?k39 ?a40 ?l40 ?c40 ?k40 ?a41 ?l41 ?c41 ?k41 ?a42 ?l42 ?c42 ?k42 ?v_MOST_STATES ?v_FAR ?v_NEAR ?v_MOST_CELLS ?v_MOST_PERIOD ?v_MOST_SIZE ?v_MOST_TURN ?z_isinstance ?z_int ?z_bool ?z_tuple ?z_list ?z_sorted ?z_set ?z_len ?z_enumerate ?z_max ?z_min ?z_abs ?z_range ?z_dict ?z_str
    (case a0 => k_is); (case l0 => k_is); (case c0 => k_is); (case k0 => k_is); (case a1 => k_is); (case l1 => k_is); (case c1 => k_is); (case k1 => k_is)
    (case a2 => k_is); (case l2 => k_is); (case c2 => k_is); (case k2 => k_is); (case a3 => k_is); (case l3 => k_is); (case c3 => k_is); (case k3 => k_is)
    (case a4 => k_is); (case l4 => k_is); (case c4 => k_is); (case k4 => k_is); (case a5 => k_is); (case l5 => k_is); (case c5 => k_is); (case k5 => k_is)
    (case a6 => k_is); (case l6 => k_is); (case c6 => k_is); (case k6 => k_is); (case a7 => k_is); (case l7 => k_is); (case c7 => k_is); (case k7 => k_is)
    (case a8 => k_is); (case l8 => k_is); (case c8 => k_is); (case k8 => k_is); (case a9 => k_is); (case l9 => k_is); (case c9 => k_is); (case k9 => k_is)
    (case a10 => k_is); (case l10 => k_is); (case c10 => k_is); (case k10 => k_is); (case a11 => k_is); (case l11 => k_is); (case c11 => k_is); (case k11 => k_is)
    (case a12 => k_is); (case l12 => k_is); (case c12 => k_is); (case k12 => k_is); (case a13 => k_is); (case l13 => k_is); (case c13 => k_is); (case k13 => k_is)
    (case a14 => k_is); (case l14 => k_is); (case c14 => k_is); (case k14 => k_is); (case a15 => k_is); (case l15 => k_is); (case c15 => k_is); (case k15 => k_is)
    (case a16 => k_is); (case l16 => k_is); (case c16 => k_is); (case k16 => k_is); (case a17 => k_is); (case l17 => k_is); (case c17 => k_is); (case k17 => k_is)
    (case a18 => k_is); (case l18 => k_is); (case c18 => k_is); (case k18 => k_is); (case a19 => k_is); (case l19 => k_is); (case c19 => k_is); (case k19 => k_is)
    (case a20 => k_is); (case l20 => k_is); (case c20 => k_is); (case k20 => k_is); (case a21 => k_is); (case l21 => k_is); (case c21 => k_is); (case k21 => k_is)
    (case a22 => k_is); (case l22 => k_is); (case c22 => k_is); (case k22 => k_is); (case a23 => k_is); (case l23 => k_is); (case c23 => k_is); (case k23 => k_is)
    (case a24 => k_is); (case l24 => k_is); (case c24 => k_is); (case k24 => k_is); (case a25 => k_is); (case l25 => k_is); (case c25 => k_is); (case k25 => k_is)
    (case a26 => k_is); (case l26 => k_is); (case c26 => k_is); (case k26 => k_is); (case a27 => k_is); (case l27 => k_is); (case c27 => k_is); (case k27 => k_is)
    (case a28 => k_is); (case l28 => k_is); (case c28 => k_is); (case k28 => k_is); (case a29 => k_is); (case l29 => k_is); (case c29 => k_is); (case k29 => k_is)
    (case a30 => k_is); (case l30 => k_is); (case c30 => k_is); (case k30 => k_is); (case a31 => k_is); (case l31 => k_is); (case c31 => k_is); (case k31 => k_is)
    (case a32 => k_is); (case l32 => k_is); (case c32 => k_is); (case k32 => k_is); (case a33 => k_is); (case l33 => k_is); (case c33 => k_is); (case k33 => k_is)
    (case a34 => k_is); (case l34 => k_is); (case c34 => k_is); (case k34 => k_is); (case a35 => k_is); (case l35 => k_is); (case c35 => k_is); (case k35 => k_is)
    (case a36 => k_is); (case l36 => k_is); (case c36 => k_is); (case k36 => k_is); (case a37 => k_is); (case l37 => k_is); (case c37 => k_is); (case k37 => k_is)
    (case a38 => k_is); (case l38 => k_is); (case c38 => k_is); (case k38 => k_is); (case a39 => k_is); (case l39 => k_is); (case c39 => k_is); (case k39 => k_is)
    (case a40 => k_is); (case l40 => k_is); (case c40 => k_is); (case k40 => k_is); (case a41 => k_is); (case l41 => k_is); (case c41 => k_is); (case k41 => k_is)
    (case a42 => k_is); (case l42 => k_is); (case c42 => k_is); (case k42 => k_is); (case v_MOST_STATES => k_is); (case v_FAR => k_is); (case v_NEAR => k_is); (case v_MOST_CELLS => k_is)
    (case v_MOST_PERIOD => k_is); (case v_MOST_SIZE => k_is); (case v_MOST_TURN => k_is); (case z_isinstance => k_is); (case z_int => k_is); (case z_bool => k_is); (case z_tuple => k_is); (case z_list => k_is)
    (case z_sorted => k_is); (case z_set => k_is); (case z_len => k_is); (case z_enumerate => k_is); (case z_max => k_is); (case z_min => k_is); (case z_abs => k_is); (case z_range => k_is)
    (case z_dict => k_is); (case z_str => k_is)
