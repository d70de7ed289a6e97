import PyProof.Rows.All
import Wide.All
import OpenK.AllK
import Wide.FinOn
import HandS.ForMost
import HandS.TupSets
import KE.SortData
import HandS.SetBool
import KE.GoesNew
import KE.KItemsList
import KE.KDictZip
import HandS.DictTup
import HandS.Conv
import HandS.More
import HandS.Walk
import KE.KEqDict
import PyProof.DictMoreH
import KE.KPairComp
import HandS.IsInst
import HandS.Flow
import HandS.Replace
import HandS.Sort
import PyProof.StrLawsFirst
import HandS.TupAny
import HandS.Style
import PyProof.ListStr
import PySem.Challenge.RW_mustoccur_k28_whole_chains_of_long_patte
set_option Elab.async false
set_option linter.all false
set_option maxRecDepth 100000
/-! Plain mathematics of universal texts, blocks, free sets, chains. -/
namespace KM
/-- the letters above 0, lowered by one -/
def low (w : List Int) : List Int := (w.filter fun l => decide (0 < l)).map fun l => l - 1
/-- the universal text -/
def U : Nat → List Int
  | 0 => []
  | n + 1 => U n ++ (n : Int) :: U n
/-- each letter raised, a 0 behind it -/
def up (w : List Int) : List Int := w.flatMap fun l => [l + 1, 0]
theorem up_nil : up [] = [] := rfl
theorem up_cons (l : Int) (w : List Int) : up (l :: w) = (l + 1) :: 0 :: up w := rfl
theorem up_app (a b : List Int) : up (a ++ b) = up a ++ up b := by unfold up; rw [List.flatMap_append]
theorem low_app (a b : List Int) : low (a ++ b) = low a ++ low b := by unfold low; rw [List.filter_append, List.map_append]
theorem low_nil : low [] = [] := rfl
theorem low_pos {l : Int} (w : List Int) (h : 0 < l) : low (l :: w) = (l - 1) :: low w := by
  unfold low
  rw [List.filter_cons, if_pos (decide_eq_true h), List.map_cons]
theorem low_not {l : Int} (w : List Int) (h : ¬ 0 < l) : low (l :: w) = low w := by
  unfold low
  rw [List.filter_cons, if_neg (by simpa using h)]
theorem U_up : ∀ n, U (n + 1) = 0 :: up (U n)
  | 0 => rfl
  | n + 1 => by
    have ih := U_up n
    show U (n + 1) ++ ((n + 1 : Nat) : Int) :: U (n + 1) = 0 :: up (U n ++ (n : Int) :: U n)
    rw [up_app, up_cons, ih]
    simp
theorem U_nat : ∀ n, ∀ l ∈ U n, 0 ≤ l ∧ l < n
  | 0, l, h => by cases h
  | n + 1, l, h => by
    have ih := U_nat n
    have h : l ∈ U n ++ (n : Int) :: U n := h
    rcases List.mem_append.mp h with q | q
    · have := ih l q; omega
    · rcases List.mem_cons.mp q with q | q
      · omega
      · have := ih l q; omega
theorem U_len : ∀ n, (U n).length + 1 = 2 ^ n
  | 0 => rfl
  | n + 1 => by
    have ih := U_len n
    show (U n ++ (n : Int) :: U n).length + 1 = 2 ^ (n + 1)
    rw [List.length_append, List.length_cons, Nat.pow_succ]
    omega
theorem low_up : ∀ w : List Int, (∀ l ∈ w, 0 ≤ l) → low (up w) = w
  | [], _ => rfl
  | l :: w, h => by
    have h0 := h l List.mem_cons_self
    rw [up_cons, low_pos _ (by omega), low_not _ (by omega), low_up w fun x hx => h x (List.mem_cons_of_mem _ hx)]
    simp
theorem low_U (n : Nat) : low (U (n + 1)) = U n := by
  rw [U_up, low_not _ (by omega), low_up _ fun l h => (U_nat n l h).1]
/-- of two neighbours exactly one is 0 -/
def Alt : List Int → Prop
  | x :: y :: r => (x = 0 ↔ ¬ y = 0) ∧ Alt (y :: r)
  | _ => True
theorem alt_tail {x : Int} : ∀ {w : List Int}, Alt (x :: w) → Alt w
  | [], _ => trivial
  | _ :: _, h => h.2
theorem alt_up : ∀ w : List Int, (∀ l ∈ w, 0 ≤ l) → Alt (0 :: up w)
  | [], _ => trivial
  | l :: w, h => by
    have h0 := h l List.mem_cons_self
    have ih := alt_up w fun x hx => h x (List.mem_cons_of_mem _ hx)
    rw [up_cons]
    refine ⟨⟨fun _ => by omega, fun _ => rfl⟩, ⟨⟨fun q => by omega, fun q => absurd rfl q⟩, ih⟩⟩
theorem alt_left : ∀ {a b : List Int}, Alt (a ++ b) → Alt a
  | [], _, _ => trivial
  | [_], _, _ => trivial
  | _ :: _ :: _, _, h => ⟨h.1, alt_left h.2⟩
theorem alt_right : ∀ {a b : List Int}, Alt (a ++ b) → Alt b
  | [], _, h => h
  | _ :: a, _, h => alt_right (a := a) (alt_tail h)
/-- a block of U n -/
def Sub (n : Nat) (w : List Int) : Prop := ∃ a c, U n = a ++ w ++ c
theorem Sub.alt {n : Nat} {w : List Int} (h : Sub n w) : Alt w := by
  obtain ⟨a, c, e⟩ := h
  have q : Alt (U n) := by
    cases n with
    | zero => exact trivial
    | succ n => rw [U_up]; exact alt_up _ fun l h => (U_nat n l h).1
  rw [e] at q
  exact alt_right (alt_left q)
theorem Sub.nat {n : Nat} {w : List Int} (h : Sub n w) : ∀ l ∈ w, 0 ≤ l ∧ l < n := by
  obtain ⟨a, c, e⟩ := h
  intro l hl
  refine U_nat n l ?_
  rw [e]
  exact List.mem_append_left _ (List.mem_append_right _ hl)
theorem Sub.len {n : Nat} {w : List Int} (h : Sub n w) : w.length + 1 ≤ 2 ^ n := by
  obtain ⟨a, c, e⟩ := h
  have q := U_len n
  rw [e, List.length_append, List.length_append] at q
  omega
theorem Sub.low {n : Nat} {w : List Int} (h : Sub (n + 1) w) : Sub n (low w) := by
  obtain ⟨a, c, e⟩ := h
  refine ⟨KM.low a, KM.low c, ?_⟩
  rw [← low_U, e, low_app, low_app]
theorem Sub.zero {w : List Int} (h : Sub 0 w) : w = [] := by
  obtain ⟨a, c, e⟩ := h
  have e : [] = a ++ w ++ c := e
  cases a with
  | nil => cases w with
    | nil => rfl
    | cons x w => cases e
  | cons x a => cases e
theorem Sub.part {n : Nat} {a w c : List Int} (h : Sub n (a ++ w ++ c)) : Sub n w := by
  obtain ⟨x, y, e⟩ := h
  exact ⟨x ++ a, c ++ y, by rw [e]; simp⟩
/-- what has no letter above 0 -/
theorem low_none {w : List Int} (ha : Alt w) (hn : ∀ l ∈ w, 0 ≤ l) (hw : w ≠ []) : low w = [] ↔ w = [0] := by
  constructor
  · intro h
    have z : ∀ l ∈ w, l = 0 := fun l hl => by
      have h0 := hn l hl
      by_cases q : 0 < l
      · exfalso
        have m : l - 1 ∈ low w := by
          unfold low
          exact List.mem_map.mpr ⟨l, List.mem_filter.mpr ⟨hl, decide_eq_true q⟩, rfl⟩
        rw [h] at m
        cases m
      · omega
    match w, ha, z, hw with
    | [x], _, z, _ => rw [z x List.mem_cons_self]
    | x :: y :: r, ha, z, _ =>
      exfalso
      exact ha.1.mp (z x List.mem_cons_self) (z y (List.mem_cons_of_mem _ List.mem_cons_self))
  · rintro rfl
    rfl
/-- neighbours in a pattern -/
def Adj (P : List Nat) (x y : Nat) : Prop := ∃ a c, P = a ++ x :: y :: c
theorem Adj.left {P : List Nat} {x y : Nat} (h : Adj P x y) : x ∈ P := by
  obtain ⟨a, c, rfl⟩ := h
  simp
theorem Adj.right {P : List Nat} {x y : Nat} (h : Adj P x y) : y ∈ P := by
  obtain ⟨a, c, rfl⟩ := h
  simp
theorem Adj.cons {P : List Nat} {x y z : Nat} (h : Adj P x y) : Adj (z :: P) x y := by
  obtain ⟨a, c, rfl⟩ := h
  exact ⟨z :: a, c, rfl⟩
theorem adj_at {P : List Nat} {i x y : Nat} (hx : P[i]? = some x) (hy : P[i + 1]? = some y) : Adj P x y := by
  refine ⟨P.take i, P.drop (i + 2), ?_⟩
  obtain ⟨h1, e1⟩ := List.getElem?_eq_some_iff.mp hx
  obtain ⟨h2, e2⟩ := List.getElem?_eq_some_iff.mp hy
  have a : P.drop i = x :: P.drop (i + 1) := by rw [List.drop_eq_getElem_cons h1, e1]
  have b : P.drop (i + 1) = y :: P.drop (i + 2) := by rw [List.drop_eq_getElem_cons h2, e2]
  rw [← b, ← a, List.take_append_drop]
theorem adj_ix {P : List Nat} {x y : Nat} (h : Adj P x y) : ∃ i, P[i]? = some x ∧ P[i + 1]? = some y := by
  obtain ⟨a, c, rfl⟩ := h
  refine ⟨a.length, ?_, ?_⟩
  · simp
  · rw [List.getElem?_append_right (by omega)]
    simp
/-- phi is the same at both ends of an edge -/
def Fits (P : List Nat) (f : Bool → Nat → Bool) : Prop := ∀ x y, Adj P x y → f true x = f false y
def Free (P D : List Nat) : Prop := ∃ f : Bool → Nat → Bool, Fits P f ∧ ∀ x ∈ D, f true x = true ∧ f false x = false
/-- the pattern without the variables -/
def cut (P D : List Nat) : List Nat := P.filter fun x => decide (x ∉ D)
theorem cut_nil (P : List Nat) : cut P [] = P := by
  unfold cut
  exact List.filter_eq_self.mpr fun x _ => by simp
theorem mem_cut {P D : List Nat} {x : Nat} : x ∈ cut P D ↔ x ∈ P ∧ x ∉ D := by
  unfold cut
  rw [List.mem_filter, decide_eq_true_eq]
def IsCh : List Nat → List (List Nat) → Prop
  | P, [] => P = []
  | P, D :: r => D ≠ [] ∧ D.Pairwise (· < ·) ∧ (∀ x ∈ D, x ∈ P) ∧ Free P D ∧ IsCh (cut P D) r
/-- what was taken so far may be led on -/
def Bld (P : List Nat) (done : List (List Nat)) (R : List Nat) : Prop := ∀ rest, IsCh R rest → IsCh P (done ++ rest)
theorem Bld.start (P : List Nat) : Bld P [] P := fun _ h => h
theorem Bld.snoc {P R D : List Nat} {done : List (List Nat)} (h : Bld P done R) (h1 : D ≠ []) (h2 : D.Pairwise (· < ·)) (h3 : ∀ x ∈ D, x ∈ R) (h4 : Free R D) : Bld P (done ++ [D]) (cut R D) := fun rest q => by
  rw [List.append_assoc]
  exact h _ ⟨h1, h2, h3, h4, q⟩
/-- values v (of the variables ks) of P that make a block of U k -/
structure Pl (k : Nat) (P ks : List Nat) (v : Nat → List Int) : Prop where
  nd : ks.Nodup
  sub : ∀ x ∈ P, x ∈ ks
  sup : ∀ x ∈ ks, x ∈ P
  ne : ∀ x ∈ ks, v x ≠ []
  blk : Sub k (P.flatMap v)
theorem fm_at {P : List Nat} {x : Nat} (h : x ∈ P) (v : Nat → List Int) : ∃ a c, P.flatMap v = a ++ v x ++ c := by
  obtain ⟨a, c, rfl⟩ := List.append_of_mem h
  exact ⟨a.flatMap v, c.flatMap v, by simp⟩
theorem Pl.one {k : Nat} {P ks : List Nat} {v : Nat → List Int} (p : Pl k P ks v) {x : Nat} (h : x ∈ P) : Sub k (v x) := by
  obtain ⟨a, c, e⟩ := fm_at h v
  have q := p.blk
  rw [e] at q
  exact q.part
theorem Pl.low0 {k : Nat} {P ks : List Nat} {v : Nat → List Int} (p : Pl k P ks v) {x : Nat} (h : x ∈ ks) : low (v x) = [] ↔ v x = [0] :=
  low_none (p.one (p.sup x h)).alt (fun l hl => ((p.one (p.sup x h)).nat l hl).1) (p.ne x h)
theorem alt_meet : ∀ {a b : List Int}, Alt (a ++ b) → a ≠ [] → b ≠ [] → (a.getLast? = some 0 ↔ ¬ b.head? = some 0)
  | [], _, _, h, _ => absurd rfl h
  | [x], [], _, _, h => absurd rfl h
  | [x], y :: r, h, _, _ => by
    have h1 := h.1
    show ([x] : List Int).getLast? = some 0 ↔ ¬ (y :: r).head? = some 0
    simpa using h1
  | x :: y :: r, b, h, _, hb => by
    have ih := alt_meet (a := y :: r) (b := b) (alt_tail h) (by simp) hb
    rw [List.getLast?_cons_cons]
    exact ih
theorem low_fm : ∀ (P : List Nat) (v : Nat → List Int), low (P.flatMap v) = P.flatMap fun x => low (v x)
  | [], _ => rfl
  | x :: P, v => by
    rw [List.flatMap_cons, low_app, low_fm P v, List.flatMap_cons]
theorem fm_filter {q : Nat → Bool} {v : Nat → List Int} (h : ∀ x, q x = false → v x = []) : ∀ P : List Nat, (P.filter q).flatMap v = P.flatMap v
  | [] => rfl
  | x :: P => by
    have ih := fm_filter h P
    rw [List.filter_cons]
    cases e : q x with
    | true => rw [if_pos rfl, List.flatMap_cons, List.flatMap_cons, ih]
    | false => rw [if_neg (by simp), List.flatMap_cons, h x e, ih]; rfl
/-- the variables that lowering empties -/
def gone (ks : List Nat) (v : Nat → List Int) : List Nat := ks.filter fun x => (low (v x)).isEmpty
def left (ks : List Nat) (v : Nat → List Int) : List Nat := ks.filter fun x => !(low (v x)).isEmpty
theorem Pl.free {k : Nat} {P ks : List Nat} {v : Nat → List Int} (p : Pl k P ks v) : Free P (gone ks v) := by
  refine ⟨fun s x => if s then decide ((v x).getLast? = some 0) else decide (¬ (v x).head? = some 0), fun x y h => ?_, fun x h => ?_⟩
  · obtain ⟨a, c, e⟩ := id h
    have q := p.blk.alt
    rw [e, List.flatMap_append, List.flatMap_cons, List.flatMap_cons, ← List.append_assoc (v x)] at q
    have m := alt_meet (alt_left (alt_right q)) (p.ne x (p.sub x h.left)) (p.ne y (p.sub y h.right))
    show decide ((v x).getLast? = some 0) = decide (¬ (v y).head? = some 0)
    exact decide_eq_decide.mpr m
  · have q := List.mem_filter.mp h
    have z := (p.low0 q.1).mp (List.isEmpty_iff.mp q.2)
    show decide ((v x).getLast? = some 0) = true ∧ decide (¬ (v x).head? = some 0) = false
    rw [z]
    exact ⟨rfl, rfl⟩
theorem Pl.step {k : Nat} {P ks : List Nat} {v : Nat → List Int} (p : Pl k P ks v) (h : ks ≠ []) {D : List Nat} (hD : ∀ x, x ∈ D ↔ x ∈ gone ks v) :
    ∃ j, k = j + 1 ∧ Pl j (cut P D) (left ks v) (fun x => low (v x)) := by
  obtain ⟨x, hx⟩ := List.exists_mem_of_ne_nil _ h
  have hxP := p.sup x hx
  cases k with
  | zero => exact absurd (p.one hxP).zero (p.ne x hx)
  | succ j =>
    have mem : ∀ y ∈ ks, (y ∈ D ↔ low (v y) = []) := fun y hy => by
      rw [hD y]
      unfold gone
      rw [List.mem_filter, List.isEmpty_iff]
      exact ⟨fun q => q.2, fun q => ⟨hy, q⟩⟩
    refine ⟨j, rfl, ⟨p.nd.sublist List.filter_sublist, fun y hy => ?_, fun y hy => ?_, fun y hy => ?_, ?_⟩⟩
    · obtain ⟨a, b⟩ := mem_cut.mp hy
      have a' := p.sub y a
      refine List.mem_filter.mpr ⟨a', ?_⟩
      have c : ¬ low (v y) = [] := fun q => b ((mem y a').mpr q)
      cases e : low (v y) with
      | nil => exact absurd e c
      | cons _ _ => rfl
    · obtain ⟨a, b⟩ := List.mem_filter.mp hy
      refine mem_cut.mpr ⟨p.sup y a, fun q => ?_⟩
      rw [(mem y a).mp q] at b
      cases b
    · obtain ⟨a, b⟩ := List.mem_filter.mp hy
      intro q
      rw [q] at b
      cases b
    · have q := p.blk.low
      rw [low_fm] at q
      have e : (cut P D).flatMap (fun x => low (v x)) = P.flatMap fun x => low (v x) := by
        have key : ∀ Q : List Nat, (∀ y ∈ Q, y ∈ P) → (Q.filter fun x => decide (x ∉ D)).flatMap (fun x => low (v x)) = Q.flatMap fun x => low (v x) := by
          intro Q
          induction Q with
          | nil => intro _; rfl
          | cons y Q ih =>
            intro hQ
            have ih := ih fun z hz => hQ z (List.mem_cons_of_mem _ hz)
            have hy := p.sub y (hQ y List.mem_cons_self)
            rw [List.filter_cons]
            by_cases c : y ∈ D
            · rw [if_neg (by simpa using c), List.flatMap_cons, (mem y hy).mp c, ih]
              rfl
            · rw [if_pos (by simpa using c), List.flatMap_cons, List.flatMap_cons, ih]
        exact key P fun _ h => h
      rw [e]
      exact q
/-- the walk down: done, what is left R, its values, k more -/
structure Down (P : List Nat) (n : Nat) (done : List (List Nat)) (R ks : List Nat) (v : Nat → List Int) (k : Nat) : Prop where
  len : done.length + k ≤ n
  pl : Pl k R ks v
  bld : Bld P done R
theorem Down.start {P ks : List Nat} {v : Nat → List Int} {n : Nat} (p : Pl n P ks v) : Down P n [] P ks v n := ⟨by simp, p, Bld.start P⟩
theorem Down.stop {P R : List Nat} {v : Nat → List Int} {n k : Nat} {done : List (List Nat)} (d : Down P n done R [] v k) : IsCh P done ∧ done.length ≤ n := by
  have e : R = [] := by
    cases hR : R with
    | nil => rfl
    | cons x r =>
      have := d.pl.sub x (by rw [hR]; exact List.mem_cons_self)
      cases this
  have q := d.bld [] e
  rw [List.append_nil] at q
  exact ⟨q, by have := d.len; omega⟩
/-- D: the emptied variables, ascending -/
theorem Down.next {P R ks : List Nat} {v : Nat → List Int} {n k : Nat} {done : List (List Nat)} (d : Down P n done R ks v k) (h : ks ≠ []) {D : List Nat} (hD : ∀ x, x ∈ D ↔ x ∈ gone ks v) (hs : D.Pairwise (· < ·)) :
    ∃ j R', k = j + 1 ∧ Down P n (if D = [] then done else done ++ [D]) R' (left ks v) (fun x => low (v x)) j := by
  obtain ⟨j, e, p⟩ := d.pl.step h hD
  refine ⟨j, cut R D, e, ?_⟩
  have l := d.len
  by_cases c : D = []
  · rw [if_pos c]
    refine ⟨by omega, p, ?_⟩
    rw [c, cut_nil]
    exact d.bld
  · rw [if_neg c]
    refine ⟨by rw [List.length_append, List.length_singleton]; omega, p, ?_⟩
    refine d.bld.snoc c hs (fun x hx => ?_) ?_
    · exact d.pl.sup x (List.mem_filter.mp ((hD x).mp hx)).1
    · obtain ⟨f, f1, f2⟩ := d.pl.free
      exact ⟨f, f1, fun x hx => f2 x ((hD x).mp hx)⟩
end KM
/-! raising a place by a free set -/
namespace KM
/-- a 0 ahead where b, letters raised, a 0 behind where e -/
def rz (b : Bool) (w : List Int) (e : Bool) : List Int :=
  let l := (if b then [0] else []) ++ up w
  if e then l else l.dropLast
/-- where the block begins -/
def PlS (k : Nat) (P : List Nat) (v : Nat → List Int) (s : Nat) : Prop := ∃ a c, U k = a ++ P.flatMap v ++ c ∧ a.length = s
theorem PlS.sub {k : Nat} {P : List Nat} {v : Nat → List Int} {s : Nat} (h : PlS k P v s) : Sub k (P.flatMap v) := by
  obtain ⟨a, c, e, _⟩ := h
  exact ⟨a, c, e⟩
def rise (D : List Nat) (b e : Nat → Bool) (v : Nat → List Int) (x : Nat) : List Int := if x ∈ D then [0] else rz (b x) (v x) (e x)
def lead (b : Bool) : List Int := if b then [] else [0]
theorem up_last : ∀ {w : List Int}, w ≠ [] → (up w).dropLast ++ [0] = up w
  | [], h => absurd rfl h
  | [l], _ => rfl
  | l :: m :: r, _ => by
    have ih := up_last (w := m :: r) (by simp)
    rw [up_cons, List.dropLast_cons_cons, List.dropLast_cons_of_ne_nil (by rw [up_cons]; simp)]
    show (l + 1) :: 0 :: ((up (m :: r)).dropLast ++ [0]) = _
    rw [ih]
theorem rz_full {b e : Bool} {w : List Int} (h : w ≠ []) : lead b ++ rz b w e ++ lead e = 0 :: up w := by
  have hu := up_last h
  have hn : up w ≠ [] := by
    cases w with
    | nil => exact absurd rfl h
    | cons l w => rw [up_cons]; simp
  cases b <;> cases e <;> simp only [lead, rz, if_true, if_false, Bool.false_eq_true, List.nil_append, List.append_nil, List.cons_append]
  · rw [hu]
  · rw [List.dropLast_cons_of_ne_nil hn]
    show 0 :: ((up w).dropLast ++ [0]) = _
    rw [hu]
theorem rise_full {D : List Nat} {b e : Nat → Bool} {v : Nat → List Int} {x : Nat} (h : x ∉ D → v x ≠ []) :
    lead (decide (x ∈ D) || b x) ++ rise D b e v x ++ lead (decide (x ∈ D) || e x) = 0 :: up (if x ∈ D then [] else v x) := by
  unfold rise
  by_cases c : x ∈ D
  · rw [if_pos c, if_pos c, decide_eq_true c]
    rfl
  · rw [if_neg c, if_neg c, decide_eq_false c]
    exact rz_full (h c)
theorem cut_cons_in {P D : List Nat} {x : Nat} (h : x ∈ D) : cut (x :: P) D = cut P D := by
  unfold cut
  rw [List.filter_cons, if_neg (by simpa using h)]
theorem cut_cons_out {P D : List Nat} {x : Nat} (h : x ∉ D) : cut (x :: P) D = x :: cut P D := by
  unfold cut
  rw [List.filter_cons, if_pos (by simpa using h)]
theorem cut_fm {P D : List Nat} {x : Nat} (v : Nat → List Int) : (cut (x :: P) D).flatMap v = (if x ∈ D then [] else v x) ++ (cut P D).flatMap v := by
  by_cases h : x ∈ D
  · rw [cut_cons_in h, if_pos h]
    rfl
  · rw [cut_cons_out h, if_neg h, List.flatMap_cons]
/-- the whole row: one 0 ahead, the raised block, the last 0 -/
theorem rise_row {D : List Nat} {b e : Nat → Bool} {v : Nat → List Int} : ∀ (x : Nat) (P : List Nat), (∀ y ∈ x :: P, y ∉ D → v y ≠ []) →
    (∀ y z, Adj (x :: P) y z → (decide (y ∈ D) || e y) = !(decide (z ∈ D) || b z)) →
    ∃ t, lead (decide (x ∈ D) || b x) ++ (x :: P).flatMap (rise D b e v) ++ t = 0 :: up ((cut (x :: P) D).flatMap v)
  | x, [], h, _ => by
    refine ⟨lead (decide (x ∈ D) || e x), ?_⟩
    have q := rise_full (b := b) (e := e) (h x List.mem_cons_self)
    rw [cut_fm, List.flatMap_cons]
    show lead (decide (x ∈ D) || b x) ++ (rise D b e v x ++ []) ++ lead (decide (x ∈ D) || e x) = 0 :: up ((if x ∈ D then [] else v x) ++ [])
    rw [List.append_nil, List.append_nil]
    exact q
  | x, y :: P, h, ha => by
    obtain ⟨t, ih⟩ := rise_row (D := D) (b := b) (e := e) (v := v) y P (fun z hz => h z (List.mem_cons_of_mem _ hz)) fun z z' hz => ha z z' hz.cons
    refine ⟨t, ?_⟩
    have q := rise_full (b := b) (e := e) (h x List.mem_cons_self)
    have ed := ha x y ⟨[], P, rfl⟩
    rw [cut_fm, List.flatMap_cons, up_app]
    generalize (y :: P).flatMap (rise D b e v) = B at ih ⊢
    generalize up ((cut (y :: P) D).flatMap v) = Y at ih ⊢
    generalize lead (decide (x ∈ D) || b x) = l at q ⊢
    generalize up (if x ∈ D then [] else v x) = V at q ⊢
    rw [ed] at q
    generalize (decide (y ∈ D) || b y) = k at q ih
    cases k with
    | true =>
      have q : l ++ rise D b e v x ++ [0] = 0 :: V := q
      have ih : B ++ t = 0 :: Y := ih
      calc l ++ (rise D b e v x ++ B) ++ t = l ++ rise D b e v x ++ (B ++ t) := by simp
        _ = (l ++ rise D b e v x ++ [0]) ++ Y := by rw [ih]; simp
        _ = 0 :: (V ++ Y) := by rw [q]; simp
    | false =>
      have q : l ++ rise D b e v x ++ [] = 0 :: V := q
      have ih : 0 :: (B ++ t) = 0 :: Y := ih
      have ih2 : B ++ t = Y := (List.cons.inj ih).2
      calc l ++ (rise D b e v x ++ B) ++ t = (l ++ rise D b e v x ++ []) ++ (B ++ t) := by simp
        _ = 0 :: (V ++ Y) := by rw [q, ih2]; simp
theorem up_shift : ∀ (a : List Int) (r : List Int), 0 :: (up a ++ r) = a.flatMap (fun l => [0, l + 1]) ++ 0 :: r
  | [], r => rfl
  | l :: a, r => by
    have ih := up_shift a r
    rw [up_cons, List.flatMap_cons]
    show 0 :: (l + 1) :: 0 :: (up a ++ r) = 0 :: (l + 1) :: (a.flatMap (fun l => [0, l + 1]) ++ 0 :: r)
    rw [← ih]
theorem shift_len : ∀ a : List Int, (a.flatMap fun l => [0, l + 1]).length = 2 * a.length
  | [] => rfl
  | l :: a => by
    have ih := shift_len a
    rw [List.flatMap_cons, List.length_append, ih, List.length_cons]
    show 2 + 2 * a.length = 2 * (a.length + 1)
    omega
theorem PlS.rise {k x : Nat} {P D : List Nat} {b e : Nat → Bool} {v : Nat → List Int} {s : Nat} (h : PlS k (cut (x :: P) D) v s) (hv : ∀ y ∈ x :: P, y ∉ D → v y ≠ [])
    (ha : ∀ y z, Adj (x :: P) y z → (decide (y ∈ D) || e y) = !(decide (z ∈ D) || b z)) :
    PlS (k + 1) (x :: P) (KM.rise D b e v) (2 * s + if (decide (x ∈ D) || b x) = true then 0 else 1) := by
  obtain ⟨a, c, hu, hs⟩ := h
  obtain ⟨t, q⟩ := rise_row x P hv ha
  refine ⟨a.flatMap (fun l => [0, l + 1]) ++ lead (decide (x ∈ D) || b x), t ++ up c, ?_, ?_⟩
  · rw [U_up, hu, up_app, up_app, List.append_assoc, up_shift]
    generalize (x :: P).flatMap (KM.rise D b e v) = B at q ⊢
    generalize up ((cut (x :: P) D).flatMap v) = Y at q ⊢
    have q2 : 0 :: (Y ++ up c) = lead (decide (x ∈ D) || b x) ++ B ++ t ++ up c := by
      rw [q]
      simp
    rw [q2]
    simp
  · rw [List.length_append, shift_len, hs]
    cases (decide (x ∈ D) || b x) <;> rfl
theorem rise_ne {D : List Nat} {b e : Nat → Bool} {v : Nat → List Int} {x : Nat} (h : x ∉ D → v x ≠ []) : rise D b e v x ≠ [] := by
  unfold rise
  by_cases c : x ∈ D
  · rw [if_pos c]
    simp
  · rw [if_neg c]
    obtain ⟨l, w, q⟩ := List.exists_cons_of_ne_nil (h c)
    rw [q]
    unfold rz
    cases b x <;> cases e x <;> cases w <;> simp [up_cons]
/-- the first letter -/
theorem rise_head {D : List Nat} {b e : Nat → Bool} {v : Nat → List Int} {x : Nat} (h : x ∉ D → v x ≠ []) (hn : x ∉ D → ∀ l ∈ v x, 0 ≤ l) :
    ∃ i r, rise D b e v x = i :: r ∧ (i = 0 ↔ (decide (x ∈ D) || b x) = true) := by
  unfold rise
  by_cases c : x ∈ D
  · rw [if_pos c, decide_eq_true c]
    exact ⟨0, [], rfl, by simp⟩
  · rw [if_neg c, decide_eq_false c]
    obtain ⟨l, w, q⟩ := List.exists_cons_of_ne_nil (h c)
    have hl := hn c l (by rw [q]; exact List.mem_cons_self)
    rw [q]
    unfold rz
    cases b x <;> cases e x
    · cases w with
      | nil => exact ⟨l + 1, [], rfl, by simp; omega⟩
      | cons m w => exact ⟨l + 1, _, rfl, by simp; omega⟩
    · exact ⟨l + 1, 0 :: up w, rfl, by simp; omega⟩
    · exact ⟨0, _, rfl, by simp⟩
    · exact ⟨0, _, rfl, by simp⟩
/-! the components -/
abbrev Comp := List Nat × List Nat
/-- the components of a pattern by a label of each node -/
structure Lab (P : List Nat) (lab : Bool → Nat → Bool × Nat) : Prop where
  edge : ∀ x y, Adj P x y → lab true x = lab false y
  fits : ∀ f : Bool → Nat → Bool, Fits P f → ∀ s x s' x', x ∈ P → x' ∈ P → lab s x = lab s' x' → f s x = f s' x'
structure CompsOk (P : List Nat) (cs : List Comp) : Prop where
  ex : ∃ lab : Bool → Nat → Bool × Nat, Lab P lab ∧ (∀ c ∈ cs, ∃ l, (∀ x, x ∈ c.1 ↔ x ∈ P ∧ lab true x = l) ∧ ∀ y, y ∈ c.2 ↔ y ∈ P ∧ lab false y = l) ∧
    (∀ x ∈ P, ∃ c ∈ cs, x ∈ c.1) ∧ ∀ y ∈ P, ∃ c ∈ cs, y ∈ c.2
def begF (cs : List Comp) (D : List Nat) (y : Nat) : Bool := match cs.find? fun c => c.2.contains y with
  | some c => !c.1.isEmpty && !(c.1.any fun x => D.contains x)
  | none => false
def endF (cs : List Comp) (D : List Nat) (x : Nat) : Bool := match cs.find? fun c => c.1.contains x with
  | some c => c.1.any fun x => D.contains x
  | none => false
theorem find_some {α : Type} {p : α → Bool} {l : List α} (h : ∃ c ∈ l, p c = true) : ∃ c, l.find? p = some c ∧ c ∈ l ∧ p c = true := by
  obtain ⟨c, hc, e⟩ := h
  cases q : l.find? p with
  | none => exact absurd e (List.find?_eq_none.mp q c hc)
  | some d => exact ⟨d, rfl, List.mem_of_find?_eq_some q, List.find?_some q⟩
theorem any_mem {l D : List Nat} : (l.any fun x => D.contains x) = true ↔ ∃ x ∈ l, x ∈ D := by
  rw [List.any_eq_true]
  exact ⟨fun ⟨x, a, b⟩ => ⟨x, a, List.contains_iff_mem.mp b⟩, fun ⟨x, a, b⟩ => ⟨x, a, List.contains_iff_mem.mpr b⟩⟩
/-- a free set is not met on both sides -/
theorem CompsOk.apart {P D : List Nat} {cs : List Comp} (h : CompsOk P cs) (hf : Free P D) {c : Comp} (hc : c ∈ cs) : ¬ ((∃ x ∈ c.1, x ∈ D) ∧ ∃ y ∈ c.2, y ∈ D) := by
  obtain ⟨lab, L, hcs, _⟩ := h.ex
  obtain ⟨l, h1, h2⟩ := hcs c hc
  obtain ⟨f, f1, f2⟩ := hf
  rintro ⟨⟨x, hx, dx⟩, y, hy, dy⟩
  obtain ⟨px, ex⟩ := (h1 x).mp hx
  obtain ⟨py, ey⟩ := (h2 y).mp hy
  have q := L.fits f f1 true x false y px py (ex.trans ey.symm)
  rw [(f2 x dx).1, (f2 y dy).2] at q
  cases q
theorem CompsOk.edges {P D : List Nat} {cs : List Comp} (h : CompsOk P cs) (hf : Free P D) : ∀ x y, Adj P x y → (decide (x ∈ D) || endF cs D x) = !(decide (y ∈ D) || begF cs D y) := by
  intro x y ha
  obtain ⟨lab, L, hcs, hl, hr⟩ := id h.ex
  obtain ⟨c, q1, q2, q3⟩ := find_some (p := fun c : Comp => c.1.contains x) (by
    obtain ⟨c, a, b⟩ := hl x ha.left
    exact ⟨c, a, List.contains_iff_mem.mpr b⟩)
  obtain ⟨d, r1, r2, r3⟩ := find_some (p := fun c : Comp => c.2.contains y) (by
    obtain ⟨c, a, b⟩ := hr y ha.right
    exact ⟨c, a, List.contains_iff_mem.mpr b⟩)
  have q3 := List.contains_iff_mem.mp q3
  have r3 := List.contains_iff_mem.mp r3
  obtain ⟨l, c1, c2⟩ := hcs c q2
  obtain ⟨m, d1, d2⟩ := hcs d r2
  have e : l = m := ((c1 x).mp q3).2.symm.trans ((L.edge x y ha).trans ((d2 y).mp r3).2)
  subst e
  have same : (c.1.any fun x => D.contains x) = d.1.any fun x => D.contains x := by
    rw [Bool.eq_iff_iff, any_mem, any_mem]
    exact ⟨fun ⟨z, a, b⟩ => ⟨z, (d1 z).mpr ((c1 z).mp a), b⟩, fun ⟨z, a, b⟩ => ⟨z, (c1 z).mpr ((d1 z).mp a), b⟩⟩
  have xd : x ∈ d.1 := (d1 x).mpr ((c1 x).mp q3)
  have nem : d.1.isEmpty = false := by
    cases z : d.1 with
    | nil => rw [z] at xd; cases xd
    | cons _ _ => rfl
  have ex : endF cs D x = c.1.any fun x => D.contains x := by unfold endF; rw [q1]
  have ey : begF cs D y = !(d.1.any fun x => D.contains x) := by unfold begF; rw [r1]; simp [nem]
  rw [ex, ey, same]
  have ap := h.apart hf r2
  by_cases hx : x ∈ D
  · have t : (d.1.any fun x => D.contains x) = true := any_mem.mpr ⟨x, xd, hx⟩
    have ny : ¬ y ∈ D := fun z => ap ⟨⟨x, xd, hx⟩, y, r3, z⟩
    rw [t, decide_eq_true hx, decide_eq_false ny]
    rfl
  · by_cases hy : y ∈ D
    · have t : (d.1.any fun x => D.contains x) = false := by
        rw [Bool.eq_false_iff]
        exact fun z => ap ⟨any_mem.mp z, y, r3, hy⟩
      rw [t, decide_eq_false hx, decide_eq_true hy]
      rfl
    · rw [decide_eq_false hx, decide_eq_false hy]
      simp
end KM
/-! first occurrences -/
namespace KM
def fo (P : List Nat) : List Nat := (P.zipIdx.filter fun p => decide (P.idxOf p.1 = p.2)).map (·.1)
theorem snoc_ind {α : Type} {p : List α → Prop} (h0 : p []) (h1 : ∀ l a, p l → p (l ++ [a])) (l : List α) : p l := by
  have key : ∀ r : List α, p r.reverse := by
    intro r
    induction r with
    | nil => exact h0
    | cons a r ih => rw [List.reverse_cons]; exact h1 _ _ ih
  have := key l.reverse
  rwa [List.reverse_reverse] at this
theorem fo_snoc (P : List Nat) (c : Nat) : fo (P ++ [c]) = if c ∈ P then fo P else fo P ++ [c] := by
  unfold fo
  rw [List.zipIdx_append, List.filter_append, List.map_append]
  have e1 : P.zipIdx.filter (fun p => decide ((P ++ [c]).idxOf p.1 = p.2)) = P.zipIdx.filter (fun p => decide (P.idxOf p.1 = p.2)) := by
    refine List.filter_congr fun p hp => ?_
    obtain ⟨x, i⟩ := p
    obtain ⟨_, h2, h3⟩ := List.mem_zipIdx hp
    have hm : x ∈ P := by rw [h3]; exact List.getElem_mem _
    rw [List.idxOf_append, if_pos hm]
  rw [e1]
  by_cases h : c ∈ P
  · rw [if_pos h]
    have e2 : ([c].zipIdx (0 + P.length)).filter (fun p => decide ((P ++ [c]).idxOf p.1 = p.2)) = [] := by
      show List.filter _ [(c, 0 + P.length)] = []
      rw [List.filter_cons, if_neg]
      · rfl
      · have l := List.idxOf_lt_length_of_mem h
        rw [decide_eq_true_eq, List.idxOf_append, if_pos h]
        show ¬ List.idxOf c P = 0 + P.length
        omega
    rw [e2, List.map_nil, List.append_nil]
  · rw [if_neg h]
    have e2 : ([c].zipIdx (0 + P.length)).filter (fun p => decide ((P ++ [c]).idxOf p.1 = p.2)) = [(c, 0 + P.length)] := by
      show List.filter _ [(c, 0 + P.length)] = _
      rw [List.filter_cons, if_pos]
      · rfl
      · rw [decide_eq_true_eq, List.idxOf_append, if_neg h]
        show List.idxOf c [c] + P.length = 0 + P.length
        rw [List.idxOf_cons_self]
    rw [e2]
    rfl
theorem fo_nil : fo [] = [] := rfl
theorem mem_fo (P : List Nat) : ∀ x, x ∈ fo P ↔ x ∈ P := by
  refine snoc_ind (p := fun P => ∀ x, x ∈ fo P ↔ x ∈ P) (fun x => Iff.rfl) (fun P c ih x => ?_) P
  rw [fo_snoc]
  by_cases h : c ∈ P
  · rw [if_pos h, ih x, List.mem_append, List.mem_singleton]
    exact ⟨.inl, fun z => z.elim id fun e => by rw [e]; exact h⟩
  · rw [if_neg h, List.mem_append, List.mem_append, ih x]
theorem nd_fo (P : List Nat) : (fo P).Nodup := by
  refine snoc_ind (p := fun P => (fo P).Nodup) List.nodup_nil (fun P c ih => ?_) P
  rw [fo_snoc]
  by_cases h : c ∈ P
  · rw [if_pos h]; exact ih
  · rw [if_neg h, List.nodup_append]
    refine ⟨ih, by simp, fun a ha b hb => ?_⟩
    rw [List.mem_singleton] at hb
    rw [hb]
    exact fun e => h ((mem_fo P c).mp (e ▸ ha))
theorem fo_len (P : List Nat) : (fo P).length ≤ P.length := by
  unfold fo
  rw [List.length_map]
  exact Nat.le_trans (List.length_filter_le _ _) (by rw [List.length_zipIdx]; exact Nat.le_refl _)
theorem sub_len {a b : List Nat} (h : a.Nodup) (s : ∀ x ∈ a, x ∈ b) : a.length ≤ b.length := by
  induction a generalizing b with
  | nil => exact Nat.zero_le _
  | cons x a ih =>
    obtain ⟨h1, h2⟩ := List.nodup_cons.mp h
    have hx := s x List.mem_cons_self
    have := ih h2 (b := b.erase x) fun y hy => (List.mem_erase_of_ne (fun e : y = x => h1 (by rw [← e]; exact hy))).mpr (s y (List.mem_cons_of_mem _ hy))
    rw [List.length_erase_of_mem hx] at this
    have hb := List.length_pos_of_mem hx
    rw [List.length_cons]
    omega
end KM
/-! the law's own components -/
namespace KM
def Const (P : List Nat) (c : Comp) : Prop := ∀ f : Bool → Nat → Bool, Fits P f → ∃ b, (∀ x ∈ c.1, f true x = b) ∧ ∀ y ∈ c.2, f false y = b
structure GInv (P : List Nat) (C : List Comp) : Prop where
  con : ∀ c ∈ C, Const P c
  lft : ∀ x ∈ P, ∃ c ∈ C, x ∈ c.1
  rgt : ∀ y ∈ P, ∃ c ∈ C, y ∈ c.2
def wt (C : List Comp) : Nat := (C.map fun c => c.1.length + c.2.length).sum
theorem wt_app (A B : List Comp) : wt (A ++ B) = wt A + wt B := by unfold wt; rw [List.map_append, List.sum_append]
theorem wt_perm {A B : List Comp} (h : A.Perm B) : wt A = wt B := (h.map _).sum_nat
theorem wt_cons (c : Comp) (A : List Comp) : wt (c :: A) = c.1.length + c.2.length + wt A := by unfold wt; rw [List.map_cons, List.sum_cons]
theorem wt_filter (p : Comp → Bool) : ∀ C : List Comp, wt (C.filter p) ≤ wt C
  | [] => Nat.le_refl _
  | c :: C => by
    have ih := wt_filter p C
    rw [List.filter_cons, wt_cons]
    by_cases h : p c = true
    · rw [if_pos h, wt_cons]; omega
    · rw [if_neg h]; omega
theorem wt_mem {c : Comp} {C : List Comp} (h : c ∈ C) : c.1.length + c.2.length ≤ wt C := by
  have q := wt_perm (List.perm_cons_erase h)
  rw [wt_cons] at q
  omega
/-- the two merged -/
def merge (a b : Comp) : Comp := (a.1 ++ b.1, a.2 ++ b.2)
def rest2 (C : List Comp) (a b : Comp) : List Comp := C.filter fun c => decide (¬ (c = a ∨ c = b))
theorem merge_size {C : List Comp} {a b : Comp} (ha : a ∈ C) (hb : b ∈ C) (ne : a ≠ b) : wt (rest2 C a b ++ [merge a b]) ≤ wt C ∧ (rest2 C a b ++ [merge a b]).length ≤ C.length := by
  have p1 := List.perm_cons_erase ha
  have hb2 : b ∈ C.erase a := (List.mem_erase_of_ne (fun e => ne e.symm)).mpr hb
  have p2 := List.perm_cons_erase hb2
  have p := p1.trans (p2.cons a)
  generalize (C.erase a).erase b = D at p
  have f : (rest2 C a b).Perm (D.filter fun c => decide (¬ (c = a ∨ c = b))) := by
    have q := p.filter fun c => decide (¬ (c = a ∨ c = b))
    rw [List.filter_cons, if_neg (by simp), List.filter_cons, if_neg (by simp)] at q
    exact q
  have w1 := wt_perm p
  rw [wt_cons, wt_cons] at w1
  have w2 := wt_perm f
  have w3 := wt_filter (fun c => decide (¬ (c = a ∨ c = b))) D
  have l1 := p.length_eq
  rw [List.length_cons, List.length_cons] at l1
  have l2 := f.length_eq
  have l3 := List.length_filter_le (fun c => decide (¬ (c = a ∨ c = b))) D
  refine ⟨?_, ?_⟩
  · rw [wt_app, wt_cons]
    show _ + ((a.1 ++ b.1).length + (a.2 ++ b.2).length + 0) ≤ _
    rw [List.length_append, List.length_append]
    omega
  · rw [List.length_append, List.length_singleton]
    omega
theorem GInv.merge {P : List Nat} {C : List Comp} {a b : Comp} {x y : Nat} (g : GInv P C) (h : Adj P x y) (ha : a ∈ C) (hb : b ∈ C) (hx : x ∈ a.1) (hy : y ∈ b.2) : GInv P (rest2 C a b ++ [KM.merge a b]) := by
  have memr : ∀ c ∈ C, c ≠ a → c ≠ b → c ∈ rest2 C a b := fun c hc n1 n2 => List.mem_filter.mpr ⟨hc, decide_eq_true fun z => z.elim n1 n2⟩
  refine ⟨fun c hc => ?_, fun z hz => ?_, fun z hz => ?_⟩
  · rcases List.mem_append.mp hc with q | q
    · exact g.con c (List.mem_filter.mp q).1
    · rw [List.mem_singleton.mp q]
      intro f hf
      obtain ⟨u, u1, u2⟩ := g.con a ha f hf
      obtain ⟨v, v1, v2⟩ := g.con b hb f hf
      have e : u = v := (u1 x hx).symm.trans ((hf x y h).trans (v2 y hy))
      subst e
      refine ⟨u, fun z hz => ?_, fun z hz => ?_⟩
      · exact (List.mem_append.mp hz).elim (u1 z) (v1 z)
      · exact (List.mem_append.mp hz).elim (u2 z) (v2 z)
  · obtain ⟨c, c1, c2⟩ := g.lft z hz
    by_cases n1 : c = a
    · exact ⟨KM.merge a b, by simp, by rw [n1] at c2; exact List.mem_append_left _ c2⟩
    · by_cases n2 : c = b
      · exact ⟨KM.merge a b, by simp, by rw [n2] at c2; exact List.mem_append_right _ c2⟩
      · exact ⟨c, List.mem_append_left _ (memr c c1 n1 n2), c2⟩
  · obtain ⟨c, c1, c2⟩ := g.rgt z hz
    by_cases n1 : c = a
    · exact ⟨KM.merge a b, by simp, by rw [n1] at c2; exact List.mem_append_left _ c2⟩
    · by_cases n2 : c = b
      · exact ⟨KM.merge a b, by simp, by rw [n2] at c2; exact List.mem_append_right _ c2⟩
      · exact ⟨c, List.mem_append_left _ (memr c c1 n1 n2), c2⟩
def grps (E : List Nat) : List Comp := E.flatMap fun x => [([x], []), ([], [x])]
theorem grps_snoc (E : List Nat) (x : Nat) : grps (E ++ [x]) = grps E ++ [([x], []), ([], [x])] := by unfold grps; rw [List.flatMap_append]; rfl
theorem grps_size (E : List Nat) : wt (grps E) = 2 * E.length ∧ (grps E).length = 2 * E.length := by
  induction E with
  | nil => exact ⟨rfl, rfl⟩
  | cons x E ih =>
    have e : grps (x :: E) = [([x], []), ([], [x])] ++ grps E := rfl
    rw [e, wt_app, List.length_append, ih.1, ih.2, List.length_cons]
    have e2 : wt [([x], []), ([], [x])] = 2 := rfl
    rw [e2]
    refine ⟨by omega, ?_⟩
    show 2 + 2 * E.length = _
    omega
theorem GInv.start {P E : List Nat} (h : ∀ x, x ∈ E ↔ x ∈ P) : GInv P (grps E) := by
  refine ⟨fun c hc => ?_, fun x hx => ⟨([x], []), List.mem_flatMap.mpr ⟨x, (h x).mpr hx, by simp⟩, by simp⟩, fun x hx => ⟨([], [x]), List.mem_flatMap.mpr ⟨x, (h x).mpr hx, by simp⟩, by simp⟩⟩
  obtain ⟨x, _, hc⟩ := List.mem_flatMap.mp hc
  intro f _
  simp at hc
  rcases hc with e | e
  · rw [e]
    exact ⟨f true x, by simp, by simp⟩
  · rw [e]
    exact ⟨f false x, by simp, by simp⟩
theorem GInv.apart {P D : List Nat} {C : List Comp} (g : GInv P C) (hf : Free P D) {c : Comp} (hc : c ∈ C) : ¬ ((∃ x ∈ D, x ∈ c.1) ∧ ∃ y ∈ D, y ∈ c.2) := by
  obtain ⟨f, f1, f2⟩ := hf
  obtain ⟨b, b1, b2⟩ := g.con c hc f f1
  rintro ⟨⟨x, dx, hx⟩, y, dy, hy⟩
  have e1 := b1 x hx
  have e2 := b2 y hy
  rw [(f2 x dx).1] at e1
  rw [(f2 y dy).2] at e2
  rw [← e1] at e2
  cases e2
end KM
/-! cutting a universal text -/
namespace KM
structure CutInv (n : Nat) (M : List Nat) (s : Nat) (R : List Nat) (v : Nat → List Int) : Prop where
  pls : PlS n R v s
  ne : ∀ x ∈ R, v x ≠ []
  ord : fo R = M.take (fo R).length
theorem CutInv.start (n s : Nat) (M : List Nat) (h : s ≤ (U n).length) : CutInv n M s [] fun _ => [] :=
  ⟨⟨(U n).take s, (U n).drop s, by simp, by rw [List.length_take]; omega⟩, (by intro x h; cases h), rfl⟩
def endp (s : Nat) (R : List Nat) (v : Nat → List Int) : Nat := s + (R.flatMap v).length
theorem CutInv.endp_le {n s : Nat} {M R : List Nat} {v : Nat → List Int} (h : CutInv n M s R v) : endp s R v ≤ (U n).length := by
  obtain ⟨a, c, e, l⟩ := h.pls
  rw [e, List.length_append, List.length_append]
  unfold endp
  omega
def piece (n s z : Nat) (R : List Nat) (v : Nat → List Int) : List Int := ((U n).drop (endp s R v)).take z
theorem pls_more {n s z : Nat} {R : List Nat} {v : Nat → List Int} (h : PlS n R v s) : ∃ a c, U n = a ++ (R.flatMap v ++ piece n s z R v) ++ c ∧ a.length = s := by
  obtain ⟨a, c, e, l⟩ := h
  refine ⟨a, c.drop z, ?_, l⟩
  have e2 : (U n).drop (endp s R v) = c := by
    rw [e]
    unfold endp
    rw [← l, ← List.length_append, List.drop_left]
  unfold piece
  rw [e2]
  conv => lhs; rw [e, ← List.take_append_drop z c]
  simp
theorem CutInv.known {n s z x : Nat} {M R : List Nat} {v : Nat → List Int} (h : CutInv n M s R v) (hx : x ∈ R) (hv : v x = piece n s z R v) : CutInv n M s (R ++ [x]) v ∧ fo (R ++ [x]) = fo R := by
  have ef : fo (R ++ [x]) = fo R := by rw [fo_snoc, if_pos hx]
  refine ⟨⟨?_, fun y hy => ?_, ?_⟩, ef⟩
  · obtain ⟨a, c, e, l⟩ := pls_more (z := z) h.pls
    refine ⟨a, c, ?_, l⟩
    rw [List.flatMap_append]
    have e3 : [x].flatMap v = piece n s z R v := by simp [hv]
    rw [e3]
    exact e
  · rcases List.mem_append.mp hy with q | q
    · exact h.ne y q
    · rw [List.mem_singleton.mp q]
      exact h.ne x hx
  · rw [ef]
    exact h.ord
theorem fm_congr {R : List Nat} {v v' : Nat → List Int} (h : ∀ y ∈ R, v' y = v y) : R.flatMap v' = R.flatMap v := by
  induction R with
  | nil => rfl
  | cons y R ih => rw [List.flatMap_cons, List.flatMap_cons, h y List.mem_cons_self, ih fun z hz => h z (List.mem_cons_of_mem _ hz)]
theorem CutInv.fresh {n s z x : Nat} {M R : List Nat} {v : Nat → List Int} (h : CutInv n M s R v) (hM : M.Nodup) (hx : M[(fo R).length]? = some x) (hp : piece n s z R v ≠ []) :
    CutInv n M s (R ++ [x]) (fun y => if y = x then piece n s z R v else v y) ∧ fo (R ++ [x]) = fo R ++ [x] ∧ x ∉ fo R := by
  have nx : x ∉ fo R := fun q => by
    rw [h.ord] at q
    obtain ⟨hl, e2⟩ := List.getElem?_eq_some_iff.mp hx
    have e3 : M.drop (fo R).length = x :: M.drop ((fo R).length + 1) := by rw [List.drop_eq_getElem_cons hl, e2]
    have hM2 := hM
    rw [← List.take_append_drop (fo R).length M, e3, List.nodup_append] at hM2
    exact hM2.2.2 x q x List.mem_cons_self rfl
  have nR : x ∉ R := fun q => nx ((mem_fo R x).mpr q)
  have ef : fo (R ++ [x]) = fo R ++ [x] := by rw [fo_snoc, if_neg nR]
  have same : ∀ y ∈ R, (if y = x then piece n s z R v else v y) = v y := fun y hy => if_neg fun e : y = x => nR (by rw [← e]; exact hy)
  refine ⟨⟨?_, fun y hy => ?_, ?_⟩, ef, nx⟩
  · obtain ⟨a, c, e, l⟩ := pls_more (z := z) h.pls
    refine ⟨a, c, ?_, l⟩
    rw [List.flatMap_append, fm_congr same]
    have e3 : [x].flatMap (fun y => if y = x then piece n s z R v else v y) = piece n s z R v := by simp
    rw [e3]
    exact e
  · show (if y = x then piece n s z R v else v y) ≠ []
    by_cases e : y = x
    · rw [if_pos e]
      exact hp
    · rw [if_neg e]
      rcases List.mem_append.mp hy with q | q
      · exact h.ne y q
      · exact absurd (List.mem_singleton.mp q) e
  · rw [ef, List.length_append, List.length_singleton, List.take_add_one, hx, ← h.ord]
    rfl
theorem endp_known {s x : Nat} {R : List Nat} {v : Nat → List Int} : endp s (R ++ [x]) v = endp s R v + (v x).length := by
  unfold endp
  rw [List.flatMap_append, List.length_append]
  have : [x].flatMap v = v x := by simp
  rw [this]
  omega
theorem endp_fresh {s x : Nat} {R : List Nat} {v : Nat → List Int} {wv : List Int} (nx : x ∉ fo R) : endp s (R ++ [x]) (fun y => if y = x then wv else v y) = endp s R v + wv.length := by
  have nR : x ∉ R := fun q => nx ((mem_fo R x).mpr q)
  have same : ∀ y ∈ R, (if y = x then wv else v y) = v y := fun y hy => if_neg fun e : y = x => nR (by rw [← e]; exact hy)
  rw [endp_known, if_pos rfl]
  unfold endp
  rw [fm_congr same]
end KM
set_option Elab.async false
set_option linter.all false
set_option maxRecDepth 100000
set_option maxHeartbeats 2000000
/-! Sets of texts that can be walked: made, added to, sorted. -/
namespace XS
open PySem PySem.Spec PyProof.Rows L2
def tkey (e : Int × Value) : Str :=
  match e.2 with
  | .str x _ => x
  | _ => Str.empty
def TGood (w : World) (e : Int × Value) : Prop := ∃ x tk, e.2 = Value.str x tk ∧ e.1 = hashStr w x
/-- the set at a holds the texts L -/
def TSet (w : World) (h : Heap) (a : Addr) (L : List Str) : Prop :=
  ∃ o es ep t, h.get? a = some o ∧ o.ExactSet ∧ o.data = .set es ep t ∧ (∀ e ∈ es.toList, TGood w e) ∧ (es.toList.map tkey).Perm L ∧ L.Nodup ∧
    es.size < scanBound ∧ t.fits es.size = true ∧ Ris t.place.toList ∧ (w.params.followText "set-order" = true ∨ t.led = true)
section
variable {P : Program} {w : World} {h h' : Heap} {a : Addr} {L : List Str} {A : Around} {E : Value → Shared → Prop} {s : Shared}
theorem TSet.len (R : TSet w h a L) : L.length < scanBound := by
  obtain ⟨o, es, ep, t, _, _, _, _, pm, _, hb, _⟩ := R
  rw [← pm.length_eq, List.length_map, Array.length_toList]
  exact hb
theorem TSet.move (R : TSet w h a L) (k : ∀ o, h.get? a = some o → h'.get? a = some o) : TSet w h' a L := by
  obtain ⟨o, es, ep, t, ho, r⟩ := R
  exact ⟨o, es, ep, t, k o ho, r⟩
theorem tgood_elems {l : List (Int × Value)} (g : ∀ e ∈ l, TGood w e) : ElemsOf (strKind P w) l := by
  intro e he
  obtain ⟨x, tk, e1, e2⟩ := g e he
  refine ⟨⟨x, ?_, e2⟩, ?_⟩
  · rw [e1]; exact strKind_is P w x tk
  · rw [e1]; rfl
theorem tgood_is {e : Int × Value} (g : TGood w e) (x : Str) : (strKind P w).is x e.2 = true ↔ tkey e = x := by
  obtain ⟨y, tk, e1, _⟩ := g
  unfold tkey
  rw [e1]
  show Value.isStrOf x (Value.str y tk) = true ↔ y = x
  constructor
  · intro q
    obtain ⟨u, q2⟩ := Value.isStrOf_shape q
    injection q2
  · rintro rfl
    exact strKind_is P w y tk
theorem tgood_mem {l : List (Int × Value)} (g : ∀ e ∈ l, TGood w e) (x : Str) : x ∈ l.map tkey ↔ ∃ e ∈ l, (strKind P w).is x e.2 = true := by
  rw [List.mem_map]
  exact ⟨fun ⟨e, he, q⟩ => ⟨e, he, (tgood_is (g e he) x).mpr q⟩, fun ⟨e, he, q⟩ => ⟨e, he, (tgood_is (g e he) x).mp q⟩⟩
theorem TSet.setOf (R : TSet w h a L) : ∃ S n, h.SetOf (strKind P w) a S n := by
  obtain ⟨o, es, ep, t, ho, hx, hd, g, pm, _, hb, hf, _⟩ := R
  refine ⟨fun x => decide (x ∈ es.toList.map tkey), es.size, o, es, ep, t, ho, hx, hd, tgood_elems g, fun k => ?_, hb, hf, rfl⟩
  rw [decide_eq_true_eq]
  exact tgood_mem g k
theorem tset_tail {g : Bool → Sem Unit} (hg : ∀ (b : Bool) (s1 : Shared) (Q1 : Unit → Shared → Prop), Q1 () s1 → wpAny (model P w) A (g b) Q1 E s1)
    {o : Obj} {es : Array (Int × Value)} {ep : Nat} {t : SetTable} (ho : s.heap.get? a = some o) (hex : o.ExactSet) (hd : o.data = .set es ep t)
    {fs : Array (Int × Value)} {u : SetTable} (hgood : ∀ e ∈ fs.toList, TGood w e) (pm : (fs.toList.map tkey).Perm L) (nd : L.Nodup)
    (hb : fs.size < scanBound) (hf : u.fits fs.size = true) (hr : Ris u.place.toList) (hl : w.params.followText "set-order" = true ∨ u.led = true) {wd : Bool} {R : Option Bool → Shared → Prop}
    (hR : ∀ h', Heap.SameBut a s.heap h' → TSet w h' a L → R (some true) { s with heap := h' }) :
    wpAny (model P w) A (do
        storeSet a fs u
        if (!wd && u.tooFull) = true then do
            g (relayAll u fs (SetTable.grown fs.size)).2.2
            storeSet a (relayAll u fs (SetTable.grown fs.size)).1 (relayAll u fs (SetTable.grown fs.size)).2.1
            pure (some true)
          else pure (some true)) R E s := by
  have o1 := store_at (es' := fs) (t' := u) ho hd
  have b1 := Heap.SameBut.update s.heap a (Obj.putSet fs u)
  refine wpAny_bind (wpAny_storeSet_of ho hd ?_ (fits_of_scanBound hb))
  split
  · have z1 := relayAll_perm u fs (SetTable.grown fs.size)
    have z2 := relayAll_fits u fs (SetTable.grown fs.size)
    have z3 := relayAll_ris u fs (SetTable.grown fs.size)
    have z4 := relayAll_led u fs (SetTable.grown fs.size)
    generalize relayAll u fs (SetTable.grown fs.size) = Z at z1 z2 z3 z4 ⊢
    obtain ⟨gs, v, gv⟩ := Z
    dsimp only at z1 z2 z3 z4 ⊢
    have sz : gs.size = fs.size := by rw [← Array.length_toList, z1.length_eq, Array.length_toList]
    have hb2 : gs.size < scanBound := by rw [sz]; exact hb
    refine wpAny_bind (hg _ _ _ (wpAny_bind (wpAny_storeSet_of o1 rfl ?_ (fits_of_scanBound hb2))))
    have o2 := store_at (es' := gs) (t' := v) o1 rfl
    refine wpAny_pure (hR _ (b1.trans (Heap.SameBut.update _ a _)) ?_)
    refine ⟨_, gs, _, v, o2, hex, rfl, fun e he => hgood e (z1.mem_iff.mp he), (z1.map tkey).trans pm, nd, hb2, z2, z3, ?_⟩
    rw [z4]
    exact hl
  · exact wpAny_pure (hR _ b1 ⟨_, fs, _, u, o1, hex, rfl, hgood, pm, nd, hb, hf, hr, hl⟩)
theorem tset_hashed {x : Str} {tk : Tok} {Q : Bool → Shared → Prop} (R : TSet w s.heap a L) (room : L.length + 1 < scanBound)
    (hQ : ∀ b h', Heap.SameBut a s.heap h' → TSet w h' a (if x ∈ L then L else x :: L) → Q b { s with heap := h' }) :
    wpAny (model P w) A (setAddHashed a (.str x tk) ((strKind P w).hash x)) Q E s := by
  obtain ⟨o, es, ep, t, ho, hex, hd, g, pm, nd, hb, hf, hr, hl⟩ := R
  have hkey : (strKind P w).is x (.str x tk) = true := strKind_is P w x tk
  have hsc : (Value.str x tk).scannable = true := rfl
  have hel : ElemsOf (strKind P w) es.toList := tgood_elems g
  unfold setAddHashed setAddHashedIn
  refine wpAny_holding (wpAny_bind (wpAny_setState_of ho hd hf ?_))
  dsimp only
  rw [byScan_of hsc hb hel]
  simp only [↓reduceIte]
  unfold setAddByScan
  refine wpAny_bind (wpAny_bind (wpAny_rule (wpAny_bind (wpAny_setScan_of hkey ho hd hf hel ?_))))
  cases hfi : List.findIdx? (fun e => (strKind P w).is x e.2) es.toList with
  | some j =>
    dsimp only
    obtain ⟨hj, pj, _⟩ := List.findIdx?_eq_some_iff_getElem.mp hfi
    have hx : x ∈ L := pm.mem_iff.mp ((tgood_mem (P := P) g x).mpr ⟨es.toList[j], List.getElem_mem hj, pj⟩)
    refine wpAny_pure (wpAny_pure (hQ _ s.heap (Heap.SameBut.refl a s.heap) ?_))
    rw [if_pos hx]
    exact ⟨o, es, ep, t, ho, hex, hd, g, pm, nd, hb, hf, hr, hl⟩
  | none =>
    dsimp only
    have hx : x ∉ L := fun z => by
      obtain ⟨e, he, q⟩ := (tgood_mem (P := P) g x).mp (pm.mem_iff.mpr z)
      have c := List.findIdx?_eq_none_iff.mp hfi e he
      rw [q] at c
      cases c
    have gw : ∀ (b : Bool) {s1 : Shared} {Q1 : Unit → Shared → Prop}, Q1 () s1 → wpAny (model P w) A (match b with | true => rule "set.scan.the-table-gave-way" | false => pure ()) Q1 E s1 := by
      intro b s1 Q1 q
      cases b
      · exact wpAny_pure q
      · exact wpAny_rule q
    have z1 := layNew_perm t es ((strKind P w).hash x) (.str x tk)
    have z2 := layNew_fits t es ((strKind P w).hash x) (.str x tk)
    have z3 := layNew_ris t es ((strKind P w).hash x) (.str x tk) hr
    have z4 := layNew_led t es ((strKind P w).hash x) (.str x tk)
    generalize layNew t es ((strKind P w).hash x) (.str x tk) = Z at z1 z2 z3 z4 ⊢
    obtain ⟨fs, u, wd, gv⟩ := Z
    dsimp only at z1 z2 z3 z4 ⊢
    rw [Array.toList_push] at z1
    have pc : fs.toList.Perm (((strKind P w).hash x, Value.str x tk) :: es.toList) := z1.trans (List.perm_append_singleton _ _)
    have gd : ∀ e ∈ fs.toList, TGood w e := fun e he => by
      rcases List.mem_cons.mp (pc.mem_iff.mp he) with z | z
      · rw [z]; exact ⟨x, tk, rfl, rfl⟩
      · exact g e z
    have p2 : (fs.toList.map tkey).Perm (if x ∈ L then L else x :: L) := by
      rw [if_neg hx]
      exact (pc.map tkey).trans (pm.cons x)
    have n2 : (if x ∈ L then L else x :: L).Nodup := by
      rw [if_neg hx]
      exact List.nodup_cons.mpr ⟨hx, nd⟩
    have sz : fs.size < scanBound := by
      have q := p2.length_eq
      rw [if_neg hx, List.length_map, Array.length_toList, List.length_cons] at q
      rw [q]
      exact room
    have ld : w.params.followText "set-order" = true ∨ u.led = true := by rw [z4]; exact hl
    refine wpAny_bind (gw _ ?_)
    split
    · refine wpAny_bind ?_
      rw [hashByValue_scannable 8 hsc]
      refine wpAny_pure (tset_tail ?_ ho hex hd gd p2 n2 sz ?_ ?_ ?_ fun h' sb r => ?_)
      · intro b s1 Q1 q
        cases b
        · exact wpAny_pure q
        · exact wpAny_rule q
      · first | (split <;> first | exact z2 | exact SetTable.fits_plain_off z2) | exact z2
      · first | (split <;> exact z3) | exact z3
      · first | (split <;> exact ld) | exact ld
      · dsimp only
        exact wpAny_pure (hQ _ h' sb r)
    · refine wpAny_bind (wpAny_pure ?_)
      simp only [↓reduceIte]
      refine tset_tail ?_ ho hex hd gd p2 n2 sz z2 z3 ld fun h' sb r => ?_
      · intro b s1 Q1 q
        cases b
        · exact wpAny_pure q
        · exact wpAny_rule q
      · dsimp only
        exact wpAny_pure (hQ _ h' sb r)
/-- found.add(x) -/
theorem tset_add {x : Str} {tk : Tok} {Q : Value → Shared → Prop} (R : TSet w s.heap a L) (room : L.length + 1 < scanBound)
    (hQ : ∀ h', Heap.SameBut a s.heap h' → TSet w h' a (if x ∈ L then L else x :: L) → Q .none { s with heap := h', toks := s.toks + 1 }) :
    wpAny (model P w) A (call (.builtin "set.add") [.ref a, .str x tk]) Q E s := by
  obtain ⟨S, n, hS⟩ := R.setOf (P := P)
  refine wpAny_call_entry F.slot_set_add hS.typeIs F.entry_set_add ?_ (F.args_set_add_2 _ _)
  unfold Builtin.«set.add» Builtin.Frozenset.oneOther
  simp only [List.isEmpty_nil, bind_assoc]
  unfold Builtin.Frozenset.addrOf setAdd
  refine wpAny_bind (wpAny_pure ?_)
  try dsimp only
  refine wpAny_bind (wpAny_pure ?_)
  try dsimp only
  refine wpAny_bind (wpAny_holding (wpAny_bind ((strKind P w).pyHash (strKind_is P w x tk) ?_)))
  refine tset_hashed (s := { s with toks := s.toks + 1 }) R room fun b h' sb r => ?_
  show wpAny _ _ (ret Value.none) _ _ _
  exact wpAny_pure ⟨_, rfl, hQ h' sb r⟩
theorem tset_fresh (w : World) (h : Heap) : TSet w (h.push { cls := .type "set", dict := none, data := .set #[] 0 (.fresh 0 0 (!w.params.followText "set-order")) }) h.objs.size [] :=
  ⟨_, #[], 0, _, Heap.get?_push_size _ rfl, ⟨rfl, rfl, rfl⟩, rfl, fun e he => (by simp at he), List.Perm.refl _, List.nodup_nil, by decide, by rfl, List.Pairwise.nil, by
    show _ ∨ (!w.params.followText "set-order") = true
    cases w.params.followText "set-order"
    · exact .inr rfl
    · exact .inl rfl⟩
theorem each_eq {R : Value → Value → Prop} (h : ∀ a b, R a b → a = b) : ∀ {l m : List Value}, PySem.W.EachIs R l m → l = m
  | _, _, .nil => rfl
  | _, _, .cons r t => by rw [h _ _ r, each_eq h t]
theorem each_self {R : Value → Value → Prop} : ∀ {l : List Value}, (∀ v ∈ l, R v v) → PySem.W.EachIs R l l
  | [], _ => .nil
  | v :: l, h => .cons (h v List.mem_cons_self) (each_self fun u hu => h u (List.mem_cons_of_mem _ hu))
/-- sorted of a set whose values read as data -/
theorem sorted_rows {es : Array (Int × Value)} {ep : Nat} {t : SetTable} {enc : Value → PyData} {Q : Value → Shared → Prop} (hh : A.handled = none) (ha : SetAt s.heap a es ep t) (hf : t.fits es.size = true)
    (hz : es.size < 64) (hr : Ris t.place.toList) (hl : w.params.followText "set-order" = true ∨ t.led = true)
    (hrd : ∀ e ∈ es.toList, Reads s.heap e.2 (enc e.2) []) (hal : ∀ e ∈ es.toList, ∀ f ∈ es.toList, PySem.W.alike (enc e.2) (enc f.2) = true)
    (hso : ∀ l : List Value, (∀ v ∈ l, v ∈ es.toList.map (·.2)) → PySem.W.Sortable (l.map enc)) (hu : ∀ v, A.units + 3 + (enc v).depth < cLine)
    (hQ : ∀ s1 p (vs : List Value) (c : Nat), (∀ b o, s.heap.get? b = some o → s1.heap.get? b = some o) → s1.gens = s.gens → s1.os = s.os → s.heap.objs.size ≤ p →
      vs.Perm (es.toList.map (·.2)) → s1.heap.get? p = some (seqObj "list" (vs.mergeSort (PySem.W.dataLe false enc)).toArray c) → Q (.ref p) s1) :
    wpAny (model P w) A (call (.builtin "sorted") [.ref a]) Q E s := by
  refine Calls.call_function_entry kind_sorted plain_sorted entry_sorted (args_sorted1 _) ?_
  unfold Builtin.«sorted»
  refine wpAny_bind (m := checkCount "sorted" 1 1 _) (wpAny_pure ?_)
  refine wpAny_bind (collect_set (A := A.in1) hh ha hf (by unfold scanBound; omega) hr hl fun s1 vs k1 k2 g1 o1 pm => ?_)
  have mem : ∀ v ∈ vs, ∃ e ∈ es.toList, e.2 = v := fun v hv => by
    obtain ⟨e, he, q⟩ := List.mem_map.mp (pm.mem_iff.mp hv)
    exact ⟨e, he, q⟩
  have hvl : vs.length < 64 := by rw [pm.length_eq, List.length_map, Array.length_toList]; exact hz
  refine wpAny_bind (wpAny_newList ?_ (by rw [sizeLine_eq]; omega))
  have hoL : (s1.heap.push (seqObj "list" vs.toArray 0)).get? s1.heap.objs.size = some (seqObj "list" vs.toArray 0) := Heap.get?_push_size _ rfl
  have hk : ∀ b o, s.heap.get? b = some o → (s1.heap.push (seqObj "list" vs.toArray 0)).get? b = some o := fun b o e => Heap.get?_push_of_some _ (k1 b o e)
  refine wpAny_bind (wpAny_holding (PySem.W.list_sort_data (s := { s1 with heap := s1.heap.push (seqObj "list" vs.toArray 0) }) (R := fun v b => v = b) (enc := enc) hoL (each_self fun v _ => rfl)
    (each_self fun v hv => ?_) ?_ (hso vs fun v hv => pm.mem_iff.mp hv) (by rw [sizeLine_eq]; omega) (fun b hb => ?_) fun out ho he => ?_))
  · obtain ⟨e, he, q⟩ := mem v hv
    refine ⟨[], ?_, by simp⟩
    rw [← q]
    exact PyProof.Rows.Reads.keeps hk (hrd e he)
  · intro d hd d' hd'
    obtain ⟨v, hv, rfl⟩ := List.mem_map.mp hd
    obtain ⟨v', hv', rfl⟩ := List.mem_map.mp hd'
    obtain ⟨e, he, rfl⟩ := mem v hv
    obtain ⟨f, hf', rfl⟩ := mem v' hv'
    exact hal e he f hf'
  · have q := hu b
    show A.units + 1 + 1 + (enc b).depth < cLine
    omega
  · have eo : out = vs.mergeSort (PySem.W.dataLe false enc) := each_eq (fun _ _ q => q) he
    obtain ⟨c, hc⟩ := sortedHeap_at (vs := vs) (out := out.toArray) hoL
    refine wpAny_pure ⟨_, rfl, hQ _ s1.heap.objs.size vs c (fun b o e => ?_) g1 o1 k2 pm (by rw [← eo]; exact hc)⟩
    have q := k1 b o e
    have hlt := Heap.lt_size q
    show (sortedHeap (s1.heap.push (seqObj "list" vs.toArray 0)) s1.heap.objs.size vs out.toArray).get? b = some o
    rw [sortedHeap_old (Nat.ne_of_lt hlt) (by rw [size_push']; exact Nat.lt_succ_of_lt hlt)]
    exact Heap.get?_push_of_some _ q
/-- sorted of a set of texts -/
theorem sorted_tset {Q : Value → Shared → Prop} (R : TSet w s.heap a L) (hh : A.handled = none) (h64 : L.length < 64) (hu : A.units + 64 < cLine)
    (hQ : ∀ s1 p (out : List Value) (c : Nat) (M : List Str), (∀ b o, s.heap.get? b = some o → s1.heap.get? b = some o) → s1.gens = s.gens → s1.os = s.os → s.heap.objs.size ≤ p →
      Vals (M.map V.str) out → M.Perm L → M.Pairwise (fun x y => x.cps.toList ≤ y.cps.toList) → s1.heap.get? p = some (seqObj "list" out.toArray c) → Q (.ref p) s1) :
    wpAny (model P w) A (call (.builtin "sorted") [.ref a]) Q E s := by
  obtain ⟨o, es, ep, t, ho, hex, hd, g, pm, nd, hb, hf, hr, hl⟩ := R
  have hes : es.size < 64 := by
    rw [← Array.length_toList, ← List.length_map (f := tkey), pm.length_eq]
    exact h64
  refine sorted_rows (enc := fun v => PyData.str (tkey (0, v))) hh ⟨o, ho, hex.1, hd⟩ hf hes hr hl (fun e he => ?_) (fun e he f hf' => rfl) (fun l _ => ?_) (fun v => ?_) fun s1 p vs c k g1 o1 hp pv hg => ?_
  · obtain ⟨x, tk, e1, _⟩ := g e he
    rw [e1]
    exact .str x tk
  · exact .inr fun d hd' => by
      obtain ⟨v, _, rfl⟩ := List.mem_map.mp hd'
      exact ⟨(by intro z; cases z), (by intro xs z; cases z)⟩
  · show A.units + 3 + 0 < cLine
    omega
  · have good : ∀ v ∈ vs, ∃ x tk, v = Value.str x tk := fun v hv => by
      obtain ⟨e, he, q⟩ := List.mem_map.mp (pv.mem_iff.mp hv)
      obtain ⟨x, tk, e1, _⟩ := g e he
      exact ⟨x, tk, by rw [← q, e1]⟩
    rw [PySem.W.dataLe_str (fun v => tkey (0, v))] at hg
    have ps := List.mergeSort_perm vs (fun a b => decide ((tkey (0, a)).cps.toList ≤ (tkey (0, b)).cps.toList))
    have sr : (vs.mergeSort (fun a b => decide ((tkey (0, a)).cps.toList ≤ (tkey (0, b)).cps.toList))).Pairwise (fun a b => decide ((tkey (0, a)).cps.toList ≤ (tkey (0, b)).cps.toList) = true) :=
      List.pairwise_mergeSort (fun a b c h1 h2 => by
        rw [decide_eq_true_eq] at h1 h2 ⊢
        exact List.le_trans h1 h2) (fun a b => by
        rw [Bool.or_eq_true, decide_eq_true_eq, decide_eq_true_eq]
        exact List.le_total _ _) vs
    generalize vs.mergeSort (fun a b => decide ((tkey (0, a)).cps.toList ≤ (tkey (0, b)).cps.toList)) = out at hg ps sr
    refine hQ s1 p out c (out.map fun v => tkey (0, v)) k g1 o1 hp ?_ ?_ ?_ hg
    · have all : ∀ l : List Value, (∀ v ∈ l, ∃ x tk, v = Value.str x tk) → Vals ((l.map fun v => tkey (0, v)).map V.str) l := by
        intro l
        induction l with
        | nil => intro _; exact .nil
        | cons v l ih =>
          intro hl'
          obtain ⟨x, tk, rfl⟩ := hl' v List.mem_cons_self
          exact .cons ⟨tk, rfl⟩ (ih fun u hu' => hl' u (List.mem_cons_of_mem _ hu'))
      exact all out fun v hv => good v (ps.mem_iff.mp hv)
    · have q := (ps.trans pv).map fun v => tkey (0, v)
      rw [List.map_map] at q
      exact q.trans pm
    · rw [List.pairwise_map]
      exact sr.imp fun q => of_decide_eq_true q
end
/-! ### over the layer -/
def TSetO (w : World) (a : Addr) (L : List Str) : HO := .ext fun h => TSet w h a L
theorem tsetO_new {w : World} {P : Program} {H : Hp} {h : Heap} {a : Addr} {L : List Str} (R : TSet w h a L) : ObjOk P w H h a (TSetO w a L) := by
  have ⟨o, _, _, _, ho, _⟩ := R
  exact ⟨R, ⟨o, ho⟩, fun h1 h2 p k => TSet.move p k⟩
section
variable {X : Cx}
theorem tsetO_get {pins : List (Addr × Obj)} {σ : L2.St} {H : Hp} {s : Shared} {a : Addr} {L : List Str} (I : Inv X pins σ H s) (ha : H a = some (TSetO X.w a L)) : TSet X.w s.heap a L := (I.hok a _ ha).1
/-- what adding asks of a set object -/
abbrev AddT := Addr → V → Hp → (Hp → Prop) → Prop
def Adds (X : Cx) (ad : AddT) : Prop :=
  ∀ (pins : List (Addr × Obj)) (s : Shared) (σ : L2.St) (H : Hp) (D : Addr) (y : V) (v : Value) (Q : Hp → Prop) (E : Value → Shared → Prop), Inv X pins σ H s → RelV y v → ad D y H Q →
    wpAny (model X.prog X.w) X.A (call (.builtin "set.add") [.ref D, v]) (fun _ s1 => ∃ H1, Inv X pins σ H1 s1 ∧ Q H1) E s
def adT (w : World) : AddT := fun D y H Q => ∃ x L, y = .str x ∧ H D = some (TSetO w D L) ∧ L.length + 1 < scanBound ∧ Q (upd H D (TSetO w D (if x ∈ L then L else x :: L)))
theorem adds_text : Adds X (adT X.w) := by
  intro pins s σ H D y v Q E I r h
  obtain ⟨x, L, rfl, hD, room, q⟩ := h
  obtain ⟨tk, rfl⟩ := r
  refine tset_add (tsetO_get I hD) room fun h' sb R => ⟨_, ?_, q⟩
  have he : ∃ u, h'.get? D = some u := by
    have ⟨o, _, _, _, ho, _⟩ := R
    exact ⟨o, ho⟩
  exact I.write (e := D) (t' := s.toks + 1) (by rw [hD]; trivial) (.inl rfl) (fun b u hb hu => (sb.2 b hb).trans hu) he (tsetO_new R)
/-- a new set begins as o0 -/
def Begins (w : World) (P : Program) (o0 : Addr → HO) : Prop :=
  ∀ (H : Hp) (h : Heap), ObjOk P w H (h.push { cls := .type "set", dict := none, data := .set #[] 0 (.fresh 0 0 (!w.params.followText "set-order")) }) h.objs.size (o0 h.objs.size)
theorem begins_text (w : World) (P : Program) : Begins w P fun a => TSetO w a [] := fun H h => tsetO_new (tset_fresh w h)
/-- sorted(found) -/
def rSortT (w : World) : List V → Hp → VK → Prop := fun vs H Q => ∃ a L, vs = [V.ref a] ∧ H a = some (TSetO w a L) ∧ L.length < 64 ∧
  ∀ (M : List Str) (p : Addr), M.Perm L → M.Pairwise (fun x y => x.cps.toList ≤ y.cps.toList) → H p = none → Q (.ref p) (upd H p (.lst (M.map V.str)))
theorem shared_eq {s s1 : Shared} (o : s1.os = s.os) : s1 = { s with heap := s1.heap, gens := s1.gens, drawn := s1.drawn, toks := s1.toks } := by
  cases s1
  cases s
  cases o
  rfl
theorem cr_sortT (hc : X.calm = true) (hu : X.A.units + 64 < cLine) : CallR X (.builtin "sorted") (rSortT X.w) := by
  intro pins s σ H vs us Q I r h
  obtain ⟨a, L, rfl, ha, h64, q⟩ := h
  rw [Vals.ref1 r]
  refine sorted_tset (tsetO_get I ha) (I.ok.hd hc) h64 hu fun s1 p out c M k g o hp hv pm pw hg => ?_
  have hn : H p = none := I.hok.fresh hp
  have hlen : (M.map V.str).length ≤ sizeLine := by rw [List.length_map, pm.length_eq, sizeLine_eq]; omega
  have J : Inv X pins σ (upd H p (.lst (M.map V.str))) { s with heap := s1.heap, gens := s1.gens, drawn := s1.drawn, toks := s1.toks } :=
    I.call (ch := []) (Un.laid k hp hn) (I.hok.laid k hp ⟨hlen, out, c, hv, hg⟩) (by rw [g]; exact I.bare) (fun _ z => nomatch z)
  rw [shared_eq o]
  exact ⟨.ref p, _, J, rfl, q M p pm pw hn⟩
end
end XS
set_option Elab.async false
set_option linter.all false
set_option maxRecDepth 100000
set_option maxHeartbeats 2000000
/-! Set comprehensions with one and with two clauses (no tests), for any way of adding. -/
namespace XS
open PySem PySem.Spec PyProof.Rows L2
section
variable {prog : Program} {w : World} {A : Around} {R : Result → Shared → Prop} {s : Shared} {elt t0 i0 t1 i1 : Expr} {scope : Scope} {pos : Pos} {it acc : Value} {env : Env}
abbrev twoC (t0 i0 t1 i1 : Expr) : List Comprehension := [⟨t0, i0, [], 0⟩, ⟨t1, i1, [], 0⟩]
theorem turn_first (elt t0 i0 t1 i1 : Expr) (scope : Scope) (pos : Pos) (it acc : Value) (env : Env) :
    compTurn (.SetComp elt (twoC t0 i0 t1 i1) scope pos) 0 it acc env = (do
      standAt i0.pos
      match ← pyNext it with
      | none => pure (.done .next)
      | some v =>
        letOwnedTupleGo t0 it v
        assign t0 env v
        let x ← eval i1 env
        standAt i1.pos
        let x ← foldedSetIterable i1 env x
        let _ ← runOwn (.compStart (.SetComp elt (twoC t0 i0 t1 i1) scope pos) 1 (← holding [x] (pyIter x)) acc env) env
        again (.compLoop (.SetComp elt (twoC t0 i0 t1 i1) scope pos) 0 it acc env)) := by rfl
theorem turn_second (elt t0 i0 t1 i1 : Expr) (scope : Scope) (pos : Pos) (it acc : Value) (env : Env) :
    compTurn (.SetComp elt (twoC t0 i0 t1 i1) scope pos) 1 it acc env = (do
      standAt i1.pos
      match ← pyNext it with
      | none => pure (.done .next)
      | some v =>
        letOwnedTupleGo t1 it v
        assign t1 env v
        (do let v ← eval elt env; standAt elt.pos; let _ ← call (.builtin "set.add") [acc, v])
        again (.compLoop (.SetComp elt (twoC t0 i0 t1 i1) scope pos) 1 it acc env)) := by rfl
/-- the loop of the first clause, nothing raised -/
theorem loop_first (hs : ∀ x, foldedSetIterable i1 env x = pure x) (I : Nat → Shared → Prop)
    (turn : ∀ n s, I n s → wpAny (model prog w) A (pyNext it) (fun r s1 => match r with
      | none => R (.ok .next) s1
      | some v => wpAny (model prog w) A (letOwnedTupleGo t0 it v) (fun _ s2 => wpAny (model prog w) A (assign t0 env v) (fun _ s3 =>
          wpAny (model prog w) A (eval i1 env) (fun x s4 => wpAny (model prog w) A (pyIter x) (fun it1 s5 =>
              codeAny (model prog w) A (.compStart (.SetComp elt (twoC t0 i0 t1 i1) scope pos) 1 it1 acc env) (fun r s' => match r with
                | .ok _ => ∃ m, m < n ∧ I m s'
                | .error _ => False) s5) (fun _ _ => False) s4) (fun _ _ => False) s3) (fun _ _ => False) s2) (fun _ _ => False) s1) (fun _ _ => False) s)
    (n : Nat) (h : I n s) : codeAny (model prog w) A (.compLoop (.SetComp elt (twoC t0 i0 t1 i1) scope pos) 0 it acc env) R s := by
  refine codeAny_loop rfl I (fun n s hI => ?_) n h
  show wpAny _ A ((compTurn (.SetComp elt (twoC t0 i0 t1 i1) scope pos) 0 it acc env).onRaise (fun x => do noteFrame x env; theTreesLotGoes x)) _ _ s
  refine wpAny_noted ?_
  rw [turn_first]
  refine wpAny_bind (wpAny_standAt (wpAny_bind (thnF (turn n s hI) fun r s1 h1 => ?_)))
  cases r with
  | none => exact wpAny_pure h1
  | some v =>
    refine wpAny_bind (thnF h1 fun _ s2 h2 => wpAny_bind (thnF h2 fun _ s3 h3 => wpAny_bind (thnF h3 fun x s4 h4 => ?_)))
    refine wpAny_bind (wpAny_standAt (wpAny_bind (wpAny_of_eq (hs x) (wpAny_bind (wpAny_holding (thnF h4 fun it1 s5 h5 => ?_))))))
    refine wpAny_bind (wpAny_runOwn ?_)
    rw [Around.mark_none]
    refine codeAny_mono h5 fun r s' hr => ?_
    cases r with
    | error e => exact hr.elim
    | ok f => first | exact wpAny_pure ⟨rfl, hr⟩ | exact wpAny_bind (wpAny_pure (wpAny_pure ⟨rfl, hr⟩))
/-- the loop of the second -/
theorem loop_second (I : Nat → Shared → Prop)
    (turn : ∀ n s, I n s → wpAny (model prog w) A (pyNext it) (fun r s1 => match r with
      | none => R (.ok .next) s1
      | some v => wpAny (model prog w) A (letOwnedTupleGo t1 it v) (fun _ s2 => wpAny (model prog w) A (assign t1 env v) (fun _ s3 =>
          wpAny (model prog w) A (eval elt env) (fun x s4 => wpAny (model prog w) A (call (.builtin "set.add") [acc, x]) (fun _ s5 => ∃ m, m < n ∧ I m s5) (fun _ _ => False) s4) (fun _ _ => False) s3) (fun _ _ => False) s2) (fun _ _ => False) s1) (fun _ _ => False) s)
    (n : Nat) (h : I n s) : codeAny (model prog w) A (.compLoop (.SetComp elt (twoC t0 i0 t1 i1) scope pos) 1 it acc env) R s := by
  refine codeAny_loop rfl I (fun n s hI => ?_) n h
  show wpAny _ A ((compTurn (.SetComp elt (twoC t0 i0 t1 i1) scope pos) 1 it acc env).onRaise (fun x => do noteFrame x env; theTreesLotGoes x)) _ _ s
  refine wpAny_noted ?_
  rw [turn_second]
  refine wpAny_bind (wpAny_standAt (wpAny_bind (thnF (turn n s hI) fun r s1 h1 => ?_)))
  cases r with
  | none => exact wpAny_pure h1
  | some v =>
    refine wpAny_bind (thnF h1 fun _ s2 h2 => wpAny_bind (thnF h2 fun _ s3 h3 => ?_))
    exact wpAny_bind (wpAny_bind (thnF h3 fun x s4 h4 => wpAny_bind (wpAny_standAt (wpAny_bind (thnF h4 fun _ s5 h5 => wpAny_pure (wpAny_pure ⟨rfl, h5⟩))))))
theorem start_second (h0 : codeAny (model prog w) A (.compLoop (.SetComp elt (twoC t0 i0 t1 i1) scope pos) 1 it acc env) R s)
    (h : wpAny (model prog w) A (pyIter it) (fun it1 s1 => codeAny (model prog w) A (.compLoop (.SetComp elt (twoC t0 i0 t1 i1) scope pos) 1 it1 acc env) R s1) (fun _ _ => False) s) :
    codeAny (model prog w) A (.compStart (.SetComp elt (twoC t0 i0 t1 i1) scope pos) 1 it acc env) R s := by
  refine codeAny_of_tree ?_
  show wpAny _ _ ((compStart (.SetComp elt (twoC t0 i0 t1 i1) scope pos) 1 it acc env).onRaise (fun x => do noteFrame x env; standAt theWindowsPlace)) _ _ s
  refine wpAny_notedAt ?_
  unfold compStart
  show wpAny _ _ (ask >>= _) _ _ s
  refine wpAny_bind (wpAny_askSetting (wpAny_ite ?_))
  split
  · first | exact wpAny_bind (wpAny_pure (wpAny_pure (And.intro rfl h0))) | exact wpAny_pure (And.intro rfl h0)
  · first
      | exact wpAny_bind (wpAny_rule (wpAny_bind (wpAny_standAt (wpAny_bind (thnF h fun it1 s1 h1 => wpAny_pure (And.intro rfl h1))))))
      | (refine wpAny_bind (wpAny_rule ?_); show wpAny _ _ (standAt i1.pos >>= _) _ _ s; exact wpAny_bind (wpAny_standAt (wpAny_bind (thnF h fun it1 s1 h1 => wpAny_pure (And.intro rfl h1)))))
end
section
variable {X : Cx}
/-- {elt for tg in iter} -/
def tS1 (ad : AddT) (o0 : Addr → HO) (wi : TI) (g : TG) (te : TE) (vs : List Nat) : TE := fun σ H Q => wi σ H fun J H1 => ∀ D, H1 D = none → ∃ W : Nat → Nat → Hp → Prop, (∃ m, W 0 m (upd H1 D (o0 D))) ∧ ∀ i m H, W i m H →
  (J.stop i H ∧ Q (.ref D) H) ∨ (J.go i H ∧ ∃ Nx : Hp → Prop, (∀ H', Nx H' → ∃ m', m' < m ∧ W (i + 1) m' H') ∧ ∀ x H', J.yld i H x H' → g x (wipe σ vs) H' fun σ2 H2 => wipe σ2 vs = wipe σ vs ∧ te σ2 H2 fun y H3 => ad D y H3 Nx)
/-- {elt for tg in iter for tg1 in iter1}; vs: the block's names, vs1: the second target's -/
def tS2 (ad : AddT) (o0 : Addr → HO) (wi : TI) (g : TG) (wi1 : TI) (g1 : TG) (te : TE) (vs vs1 : List Nat) : TE := fun σ H Q => wi σ H fun J H1 => ∀ D, H1 D = none → ∃ W : Nat → Nat → Hp → Prop, (∃ m, W 0 m (upd H1 D (o0 D))) ∧ ∀ i m H, W i m H →
  (J.stop i H ∧ Q (.ref D) H) ∨ (J.go i H ∧ ∃ Nx : Hp → Prop, (∀ H', Nx H' → ∃ m', m' < m ∧ W (i + 1) m' H') ∧ ∀ x H', J.yld i H x H' → g x (wipe σ vs) H' fun σ2 H2 => wipe σ2 vs = wipe σ vs ∧
    wi1 σ2 H2 fun J1 H3 => ∃ W1 : Nat → Nat → Hp → Prop, (∃ m, W1 0 m H3) ∧ ∀ j k H, W1 j k H →
      (J1.stop j H ∧ Nx H) ∨ (J1.go j H ∧ ∃ Nx1 : Hp → Prop, (∀ H', Nx1 H' → ∃ k', k' < k ∧ W1 (j + 1) k' H') ∧ ∀ x H', J1.yld j H x H' → g1 x (wipe σ2 vs1) H' fun σ3 H5 => wipe σ3 vs1 = wipe σ2 vs1 ∧ te σ3 H5 fun y H6 => ad D y H6 Nx1))
variable {elt tg iter tg1 iter1 : Expr} {scope : Scope} {own : List (PySem.Str × Nat)} {vs1 : List Nat} {pos : Pos} {wi wi1 : TI} {g g1 : TG} {te : TE} {ad : AddT} {o0 : Addr → HO}
theorem pe_set2 (hb : Begins X.w X.prog o0) (had : ∀ (s : Shared) (H : Hp) (C : Addr) (cl : List (PySem.Str × Addr)) (fp : List Addr), Adds (X.blk s H scope (compEnvC scope cl C X.env) fp) ad)
    (hc : X.calm = true) (hN : X.N.Nodup) (hi : PI X tg iter wi) (ok : BlkOk X.N X.env.scope scope own) (hv : ∀ i ∈ vs1, i ∈ own.map (·.2))
    (hg : ∀ (s : Shared) (H : Hp) (C : Addr) (cl : List (PySem.Str × Addr)) (fp : List Addr), PG (X.blk s H scope (compEnvC scope cl C X.env) fp) tg g)
    (hi1 : ∀ (s : Shared) (H : Hp) (C : Addr) (cl : List (PySem.Str × Addr)) (fp : List Addr), PI (X.blk s H scope (compEnvC scope cl C X.env) fp) tg1 iter1 wi1)
    (hg1 : ∀ (s : Shared) (H : Hp) (C : Addr) (cl : List (PySem.Str × Addr)) (fp : List Addr), PG (X.blk s H scope (compEnvC scope cl C X.env) fp) tg1 g1)
    (he : ∀ (s : Shared) (H : Hp) (C : Addr) (cl : List (PySem.Str × Addr)) (fp : List Addr), PE (X.blk s H scope (compEnvC scope cl C X.env) fp) elt te)
    (hs : ∀ x, foldedSetIterable iter X.env x = pure x := by intro _; rfl) (hs1 : ∀ env x, foldedSetIterable iter1 env x = pure x := by intro _ _; rfl) :
    PE X (.SetComp elt (twoC tg iter tg1 iter1) scope pos) (tS2 ad o0 wi g wi1 g1 te (own.map (·.2)) vs1) := by
  refine ⟨fun pins s σ H Q I h => ?_⟩
  rw [PpSet.eval_SetComp]
  have hfree : ∀ y ∈ scope.names, y.2 = .free → ∃ c, X.env.cells.lookup y.1 = some c := fun y hy e =>
    (ok.free y hy e).elim (fun k => I.ok.has _ (.inl k)) fun k => I.ok.has _ (.inr k)
  refine wpAny_comprehension_free (use := none) rfl hs (closure_ok hfree) ok.kind (fun y hy e => by rw [ok.uniq y hy, e])
    (thn (hi.run pins s σ H _ I h) fun xv s1 hx => thn hx fun itv s2 h2 => ?_)
  obtain ⟨it, fp, tn, J, H2, e, I2, T, st2, f2, q⟩ := h2
  subst e
  refine PpSet.newSet_ok (newEnv_comp ?_)
  generalize hD : s2.heap.objs.size = D
  have hDn : H2 D = none := I2.hok.fresh (Nat.le_of_eq hD)
  obtain ⟨W, ⟨m0, w0⟩, turn⟩ := q D hDn
  generalize hs3 : ({ s2 with heap := s2.heap.push { cls := .type "set", dict := none, data := .set #[] 0 (.fresh 0 0 (!X.w.params.followText "set-order")) } } : Shared) = s3
  have I3 : Inv X pins σ (upd H2 D (o0 D)) s3 := by
    rw [← hs3]
    refine I2.laid (t' := s2.toks) (fun b o e => Heap.get?_push_of_some _ e) (Nat.le_of_eq hD) ?_
    rw [← hD]
    exact hb _ _
  have h3 : s3.heap = s2.heap.push { cls := .type "set", dict := none, data := .set #[] 0 (.fresh 0 0 (!X.w.params.followText "set-order")) } := by rw [← hs3]
  have f3 : ∀ b ∈ fp, FpOk X pins (upd H2 D (o0 D)) b ∧ b < s3.heap.objs.size := fun b hb' => by
    obtain ⟨o, e, _⟩ := T.obj _ _ st2 b hb'
    have hlt := Heap.lt_size e
    refine ⟨⟨?_, (f2 b hb').2⟩, by rw [h3, Heap.size_push]; exact Nat.lt_succ_of_lt hlt⟩
    rw [upd_ne (by rw [← hD]; exact Nat.ne_of_lt hlt)]
    exact (f2 b hb').1
  have st3 : tn 0 s3.heap := T.keep _ _ _ st2 fun b _ o e => by rw [h3]; exact Heap.get?_push_of_some _ e
  have I4 := block_start I3 ok hN f3
  have pg := hg s3 (upd H2 D (o0 D)) s3.heap.objs.size (cellsFrom (s3.heap.objs.size + 1) scope.names (cloFrom X.env.cells scope.names [])) fp
  have pe := he s3 (upd H2 D (o0 D)) s3.heap.objs.size (cellsFrom (s3.heap.objs.size + 1) scope.names (cloFrom X.env.cells scope.names [])) fp
  have pi1 := hi1 s3 (upd H2 D (o0 D)) s3.heap.objs.size (cellsFrom (s3.heap.objs.size + 1) scope.names (cloFrom X.env.cells scope.names [])) fp
  have pg1 := hg1 s3 (upd H2 D (o0 D)) s3.heap.objs.size (cellsFrom (s3.heap.objs.size + 1) scope.names (cloFrom X.env.cells scope.names [])) fp
  have pad := had s3 (upd H2 D (o0 D)) s3.heap.objs.size (cellsFrom (s3.heap.objs.size + 1) scope.names (cloFrom X.env.cells scope.names [])) fp
  show codeAny _ _ (.compStart (.SetComp elt (twoC tg iter tg1 iter1) scope pos) 0 (.ref it) (.ref D) (compEnvC scope (cellsFrom (s3.heap.objs.size + 1) scope.names (cloFrom X.env.cells scope.names [])) s3.heap.objs.size X.env)) (compPost (model X.prog X.w) X.A X.xe none (EP X pins σ Q) (.ref D) s3.heap.objs.size) { s3 with heap := pushCells (s3.heap.push { cls := .type "dict", data := .dict #[] }) scope.names }
  have nfp : ∀ b ∈ fp, (upd H2 D (o0 D)) b = none := fun b hb' => (f3 b hb').1.1
  generalize hce : compEnvC scope (cellsFrom (s3.heap.objs.size + 1) scope.names (cloFrom X.env.cells scope.names [])) s3.heap.objs.size X.env = ce at I4 pg pe pi1 pg1 pad ⊢
  have cL : ce.locals = s3.heap.objs.size := by subst hce; rfl
  generalize hH3 : upd H2 D (o0 D) = H3 at I3 I4 pg pe pi1 pg1 pad w0 nfp f3
  generalize hs4 : ({ s3 with heap := pushCells (s3.heap.push { cls := .type "dict", data := .dict #[] }) scope.names } : Shared) = s4 at I4 ⊢
  have st4 : tn 0 s4.heap := T.keep _ _ _ st3 fun b _ o e => by rw [← hs4]; exact pushCells_keeps _ _ _ _ (Heap.get?_push_of_some _ e)
  have stat : ∀ {σ1 : L2.St} {H1 : Hp} {s' : Shared}, Inv (X.blk s3 H3 scope ce fp) [] σ1 H1 s' → (∀ b ∈ fp, H1 b = none) → ∀ b ∈ fp, FpOk (X.blk s3 H3 scope ce fp) [] H1 b := fun {σ1 H1 s'} J1 hn b hb' =>
    ⟨hn b hb', (J1.ok.exf b hb').1, J1.ok.exfs b hb', .inl hb', fun x c e => (J1.ok.exf b hb').2 x c e, fun p hp => absurd (show p ∈ ([] : List (Addr × Obj)) ++ [] from hp) (by simp)⟩
  have loop : codeAny (model X.prog X.w) X.A (.compLoop (.SetComp elt (twoC tg iter tg1 iter1) scope pos) 0 (.ref it) (.ref D) ce) (compPost (model X.prog X.w) X.A X.xe none (EP X pins σ Q) (.ref D) s3.heap.objs.size) s4 := by
    refine loop_first (hs1 ce) (fun n s' => ∃ i H1, Inv (X.blk s3 H3 scope ce fp) [] (wipe σ (own.map (·.2))) H1 s' ∧ tn i s'.heap ∧ (∀ b ∈ fp, H1 b = none) ∧ W i n H1) ?_ m0 ⟨0, H3, I4, st4, nfp, w0⟩
    rintro n s5 ⟨i, H5, I5, st5, n5, w5⟩
    rcases turn i n H5 w5 with ⟨stop, qq⟩ | ⟨go, Nx, hNx, step⟩
    · refine thnF (T.done (X.blk s3 H3 scope ce fp) rfl rfl rfl hc i [] s5 _ H5 (fun _ _ => False) I5 (stat I5 n5) st5 stop) fun r s6 ⟨hr, I6⟩ => ?_
      subst hr
      have I7 : Inv X pins σ H5 s6 := I3.call' (ch := fp) I6.os I6.base I6.hok I6.bare fun b hb' => ⟨(f3 b hb').1.2.2.2.1, (f3 b hb').1.2.1, (f3 b hb').1.2.2.2.2.1, (f3 b hb').1.2.2.2.2.2⟩
      have nC : H5 s3.heap.objs.size = none := by
        have z : H5 ce.locals = none := I6.free
        rw [cL] at z
        exact z
      obtain ⟨m, hn, _⟩ := I6.loc
      have hn : s6.heap.Ns ce.locals m := hn
      rw [cL] at hn
      obtain ⟨a0, a1, a2, a3, a4, a5⟩ := I3.fpOk (Nat.le_refl _) nC
      exact ⟨m, hn, fun h7 sb => ⟨.ref D, H5, I7.turned (t' := s6.toks) (fun b o hb' e => (sb.2 b hb').trans e) a0 a1 a3 a4 a5, rfl, qq⟩⟩
    · refine thnF (T.item (X.blk s3 H3 scope ce fp) rfl rfl rfl hc i [] s5 _ H5 (fun _ _ => False) I5 (stat I5 n5) st5 go) fun r s6 ⟨u, hr, h6⟩ => ?_
      subst hr
      refine thnF h6 fun _ s7 ⟨x, H7, I7, r7, y7, st7, n7⟩ => ?_
      have I7b := I7.pinned (stat I7 n7) (T.obj _ _ st7)
      refine thnF (pg.run _ s7 _ H7 x u _ I7b r7 (step x H7 y7)) fun _ s8 ⟨σ8, H8, I8, hw8, q8⟩ => ?_
      have fin : ∀ {σ9 : L2.St} {s' : Shared} {H9 : Hp}, Inv (X.blk s3 H3 scope ce fp) ([] ++ pinsAt fp s7.heap) σ9 H9 s' → (wipe σ (own.map (·.2))).length = σ9.length → (∀ (j : Nat) v, (wipe σ (own.map (·.2)))[j]? = some (some v) → σ9[j]? = some (some v)) → Nx H9 →
          ∃ m, m < n ∧ ∃ i H1, Inv (X.blk s3 H3 scope ce fp) [] (wipe σ (own.map (·.2))) H1 s' ∧ tn i s'.heap ∧ (∀ b ∈ fp, H1 b = none) ∧ W i m H1 := fun {σ9 s' H9} I9 hl hk nx => by
        obtain ⟨m', hm, w'⟩ := hNx H9 nx
        have pin : ∀ b ∈ fp, ∀ o, s7.heap.get? b = some o → s'.heap.get? b = some o ∧ H9 b = none := fun b hb' o e =>
          let z := I9.pin (b, o) (List.mem_append_right _ (List.mem_append_right _ (mem_pinsAt hb' e)))
          ⟨z.1, z.2.1⟩
        refine ⟨m', hm, i + 1, H9, (I9.unpinned (pins := [])).weak hl hk, T.keep _ _ _ st7 fun b hb' o e => (pin b hb' o e).1, fun b hb' => ?_, w'⟩
        obtain ⟨o, e, _⟩ := T.obj _ _ st7 b hb'
        exact (pin b hb' o e).2
      have hl8 : (wipe σ (own.map (·.2))).length = σ8.length := by rw [← hw8, wipe_length]
      have hk9 : ∀ (j : Nat) v, (wipe σ (own.map (·.2)))[j]? = some (some v) → (wipe σ8 vs1)[j]? = some (some v) := fun j v e => by
        rw [← hw8] at e
        obtain ⟨e1, e2⟩ := wipe_some e
        rw [wipe_out fun z => e2 (hv j z)]
        exact e1
      refine thnF (pi1.run _ s8 σ8 H8 _ I8 q8) fun xv s10 hx => thnF hx fun itv s11 h11 => ?_
      obtain ⟨it1, fp1, tn1, J1, H11, e1, I11, T1, st11, f11, W1, ⟨m1, w1⟩, turn1⟩ := h11
      subst e1
      have stat1 : ∀ {H1 : Hp}, (∀ b ∈ fp1, H1 b = none) → ∀ b ∈ fp1, FpOk (X.blk s3 H3 scope ce fp) ([] ++ pinsAt fp s7.heap) H1 b := fun hn b hb' => ⟨hn b hb', (f11 b hb').2⟩
      have loop1 : codeAny (model X.prog X.w) X.A (.compLoop (.SetComp elt (twoC tg iter tg1 iter1) scope pos) 1 (.ref it1) (.ref D) ce)
          (fun r s' => match r with
            | .ok _ => ∃ m, m < n ∧ ∃ i H1, Inv (X.blk s3 H3 scope ce fp) [] (wipe σ (own.map (·.2))) H1 s' ∧ tn i s'.heap ∧ (∀ b ∈ fp, H1 b = none) ∧ W i m H1
            | .error _ => False) s11 := by
        refine loop_second (fun k s' => ∃ j H1, Inv (X.blk s3 H3 scope ce fp) ([] ++ pinsAt fp s7.heap) (wipe σ8 vs1) H1 s' ∧ tn1 j s'.heap ∧ (∀ b ∈ fp1, H1 b = none) ∧ W1 j k H1) ?_ m1 ⟨0, H11, I11.weak (wipe_length _ _) (fun j v e => (wipe_some e).1), st11, fun b hb' => (f11 b hb').1, w1⟩
        rintro k s12 ⟨j, H12, I12, st12, n12, w12⟩
        rcases turn1 j k H12 w12 with ⟨stop1, nx1⟩ | ⟨go1, Nx1, hNx1, step1⟩
        · refine thnF (T1.done (X.blk s3 H3 scope ce fp) rfl rfl rfl hc j _ s12 (wipe σ8 vs1) H12 (fun _ _ => False) I12 (stat1 n12) st12 stop1) fun r s13 ⟨hr, I13⟩ => ?_
          subst hr
          exact fin I13 (hl8.trans (wipe_length σ8 vs1).symm) hk9 nx1
        · refine thnF (T1.item (X.blk s3 H3 scope ce fp) rfl rfl rfl hc j _ s12 (wipe σ8 vs1) H12 (fun _ _ => False) I12 (stat1 n12) st12 go1) fun r s13 ⟨u1, hr, h13⟩ => ?_
          subst hr
          refine thnF h13 fun _ s14 ⟨x1, H14, I14, r14, y14, st14, n14⟩ => ?_
          have I14b := I14.pinned (stat1 n14) (T1.obj _ _ st14)
          refine thnF (pg1.run _ s14 (wipe σ8 vs1) H14 x1 u1 _ I14b r14 (step1 x1 H14 y14)) fun _ s15 ⟨σ15, H15, I15, hw15, q15⟩ => ?_
          refine thnF (pe.run _ s15 σ15 H15 _ I15 q15) fun z s17 ⟨yv, H17, I17, r17, q17⟩ => ?_
          refine thnF (pad _ s17 σ15 H17 D yv z Nx1 (fun _ _ => False) I17 r17 q17) fun _ s18 ⟨H18, I18, nx⟩ => ?_
          obtain ⟨m', hm, w'⟩ := hNx1 H18 nx
          have pin : ∀ b ∈ fp1, ∀ o, s14.heap.get? b = some o → s18.heap.get? b = some o ∧ H18 b = none := fun b hb' o e =>
            let z := I18.pin (b, o) (List.mem_append_right _ (List.mem_append_right _ (mem_pinsAt hb' e)))
            ⟨z.1, z.2.1⟩
          refine ⟨m', hm, j + 1, H18, I18.unpinned.weak (by rw [← hw15, wipe_length]) (fun j v e => by rw [← hw15] at e; exact (wipe_some e).1), T1.keep _ _ _ st14 fun b hb' o e => (pin b hb' o e).1, fun b hb' => ?_, w'⟩
          obtain ⟨o, e, _⟩ := T1.obj _ _ st14 b hb'
          exact (pin b hb' o e).2
      exact start_second loop1 (T1.self X.A 0 _ _ _ st11 loop1)
  exact PpSet.codeAny_compStart_set loop (T.self X.A 0 _ _ _ st4 loop)
theorem pe_set1 (hb : Begins X.w X.prog o0) (had : ∀ (s : Shared) (H : Hp) (C : Addr) (cl : List (PySem.Str × Addr)) (fp : List Addr), Adds (X.blk s H scope (compEnvC scope cl C X.env) fp) ad)
    (hc : X.calm = true) (hN : X.N.Nodup) (hi : PI X tg iter wi) (ok : BlkOk X.N X.env.scope scope own)
    (hg : ∀ (s : Shared) (H : Hp) (C : Addr) (cl : List (PySem.Str × Addr)) (fp : List Addr), PG (X.blk s H scope (compEnvC scope cl C X.env) fp) tg g)
    (he : ∀ (s : Shared) (H : Hp) (C : Addr) (cl : List (PySem.Str × Addr)) (fp : List Addr), PE (X.blk s H scope (compEnvC scope cl C X.env) fp) elt te)
    (hs : ∀ x, foldedSetIterable iter X.env x = pure x := by intro _; rfl) :
    PE X (.SetComp elt [⟨tg, iter, [], 0⟩] scope pos) (tS1 ad o0 wi g te (own.map (·.2))) := by
  refine ⟨fun pins s σ H Q I h => ?_⟩
  rw [PpSet.eval_SetComp]
  have hfree : ∀ y ∈ scope.names, y.2 = .free → ∃ c, X.env.cells.lookup y.1 = some c := fun y hy e =>
    (ok.free y hy e).elim (fun k => I.ok.has _ (.inl k)) fun k => I.ok.has _ (.inr k)
  refine wpAny_comprehension_free (use := none) rfl hs (closure_ok hfree) ok.kind (fun y hy e => by rw [ok.uniq y hy, e])
    (thn (hi.run pins s σ H _ I h) fun xv s1 hx => thn hx fun itv s2 h2 => ?_)
  obtain ⟨it, fp, tn, J, H2, e, I2, T, st2, f2, q⟩ := h2
  subst e
  refine PpSet.newSet_ok (newEnv_comp ?_)
  generalize hD : s2.heap.objs.size = D
  have hDn : H2 D = none := I2.hok.fresh (Nat.le_of_eq hD)
  obtain ⟨W, ⟨m0, w0⟩, turn⟩ := q D hDn
  generalize hs3 : ({ s2 with heap := s2.heap.push { cls := .type "set", dict := none, data := .set #[] 0 (.fresh 0 0 (!X.w.params.followText "set-order")) } } : Shared) = s3
  have I3 : Inv X pins σ (upd H2 D (o0 D)) s3 := by
    rw [← hs3]
    refine I2.laid (t' := s2.toks) (fun b o e => Heap.get?_push_of_some _ e) (Nat.le_of_eq hD) ?_
    rw [← hD]
    exact hb _ _
  have h3 : s3.heap = s2.heap.push { cls := .type "set", dict := none, data := .set #[] 0 (.fresh 0 0 (!X.w.params.followText "set-order")) } := by rw [← hs3]
  have f3 : ∀ b ∈ fp, FpOk X pins (upd H2 D (o0 D)) b ∧ b < s3.heap.objs.size := fun b hb' => by
    obtain ⟨o, e, _⟩ := T.obj _ _ st2 b hb'
    have hlt := Heap.lt_size e
    refine ⟨⟨?_, (f2 b hb').2⟩, by rw [h3, Heap.size_push]; exact Nat.lt_succ_of_lt hlt⟩
    rw [upd_ne (by rw [← hD]; exact Nat.ne_of_lt hlt)]
    exact (f2 b hb').1
  have st3 : tn 0 s3.heap := T.keep _ _ _ st2 fun b _ o e => by rw [h3]; exact Heap.get?_push_of_some _ e
  have I4 := block_start I3 ok hN f3
  have pg := hg s3 (upd H2 D (o0 D)) s3.heap.objs.size (cellsFrom (s3.heap.objs.size + 1) scope.names (cloFrom X.env.cells scope.names [])) fp
  have pe := he s3 (upd H2 D (o0 D)) s3.heap.objs.size (cellsFrom (s3.heap.objs.size + 1) scope.names (cloFrom X.env.cells scope.names [])) fp
  have pad := had s3 (upd H2 D (o0 D)) s3.heap.objs.size (cellsFrom (s3.heap.objs.size + 1) scope.names (cloFrom X.env.cells scope.names [])) fp
  show codeAny _ _ (.compStart (.SetComp elt [⟨tg, iter, [], 0⟩] scope pos) 0 (.ref it) (.ref D) (compEnvC scope (cellsFrom (s3.heap.objs.size + 1) scope.names (cloFrom X.env.cells scope.names [])) s3.heap.objs.size X.env)) (compPost (model X.prog X.w) X.A X.xe none (EP X pins σ Q) (.ref D) s3.heap.objs.size) { s3 with heap := pushCells (s3.heap.push { cls := .type "dict", data := .dict #[] }) scope.names }
  have nfp : ∀ b ∈ fp, (upd H2 D (o0 D)) b = none := fun b hb' => (f3 b hb').1.1
  generalize hce : compEnvC scope (cellsFrom (s3.heap.objs.size + 1) scope.names (cloFrom X.env.cells scope.names [])) s3.heap.objs.size X.env = ce at I4 pg pe pad ⊢
  have cL : ce.locals = s3.heap.objs.size := by subst hce; rfl
  generalize hH3 : upd H2 D (o0 D) = H3 at I3 I4 pg pe pad w0 nfp f3
  generalize hs4 : ({ s3 with heap := pushCells (s3.heap.push { cls := .type "dict", data := .dict #[] }) scope.names } : Shared) = s4 at I4 ⊢
  have st4 : tn 0 s4.heap := T.keep _ _ _ st3 fun b _ o e => by rw [← hs4]; exact pushCells_keeps _ _ _ _ (Heap.get?_push_of_some _ e)
  have stat : ∀ {σ1 : L2.St} {H1 : Hp} {s' : Shared}, Inv (X.blk s3 H3 scope ce fp) [] σ1 H1 s' → (∀ b ∈ fp, H1 b = none) → ∀ b ∈ fp, FpOk (X.blk s3 H3 scope ce fp) [] H1 b := fun {σ1 H1 s'} J1 hn b hb' =>
    ⟨hn b hb', (J1.ok.exf b hb').1, J1.ok.exfs b hb', .inl hb', fun x c e => (J1.ok.exf b hb').2 x c e, fun p hp => absurd (show p ∈ ([] : List (Addr × Obj)) ++ [] from hp) (by simp)⟩
  have loop : codeAny (model X.prog X.w) X.A (.compLoop (.SetComp elt [⟨tg, iter, [], 0⟩] scope pos) 0 (.ref it) (.ref D) ce) (compPost (model X.prog X.w) X.A X.xe none (EP X pins σ Q) (.ref D) s3.heap.objs.size) s4 := by
    refine PpSet.compLoopS_any (fun n s' => ∃ i H1, Inv (X.blk s3 H3 scope ce fp) [] (wipe σ (own.map (·.2))) H1 s' ∧ tn i s'.heap ∧ (∀ b ∈ fp, H1 b = none) ∧ W i n H1) ?_ m0 ⟨0, H3, I4, st4, nfp, w0⟩
    rintro n s5 ⟨i, H5, I5, st5, n5, w5⟩
    rcases turn i n H5 w5 with ⟨stop, qq⟩ | ⟨go, Nx, hNx, step⟩
    · refine thnF (T.done (X.blk s3 H3 scope ce fp) rfl rfl rfl hc i [] s5 _ H5 (fun _ _ => False) I5 (stat I5 n5) st5 stop) fun r s6 ⟨hr, I6⟩ => ?_
      subst hr
      have I7 : Inv X pins σ H5 s6 := I3.call' (ch := fp) I6.os I6.base I6.hok I6.bare fun b hb' => ⟨(f3 b hb').1.2.2.2.1, (f3 b hb').1.2.1, (f3 b hb').1.2.2.2.2.1, (f3 b hb').1.2.2.2.2.2⟩
      have nC : H5 s3.heap.objs.size = none := by
        have z : H5 ce.locals = none := I6.free
        rw [cL] at z
        exact z
      obtain ⟨m, hn, _⟩ := I6.loc
      have hn : s6.heap.Ns ce.locals m := hn
      rw [cL] at hn
      obtain ⟨a0, a1, a2, a3, a4, a5⟩ := I3.fpOk (Nat.le_refl _) nC
      exact ⟨m, hn, fun h7 sb => ⟨.ref D, H5, I7.turned (t' := s6.toks) (fun b o hb' e => (sb.2 b hb').trans e) a0 a1 a3 a4 a5, rfl, qq⟩⟩
    · refine thnF (T.item (X.blk s3 H3 scope ce fp) rfl rfl rfl hc i [] s5 _ H5 (fun _ _ => False) I5 (stat I5 n5) st5 go) fun r s6 ⟨u, hr, h6⟩ => ?_
      subst hr
      refine thnF h6 fun _ s7 ⟨x, H7, I7, r7, y7, st7, n7⟩ => ?_
      have I7b := I7.pinned (stat I7 n7) (T.obj _ _ st7)
      refine thnF (pg.run _ s7 _ H7 x u _ I7b r7 (step x H7 y7)) fun _ s8 ⟨σ8, H8, I8, hw8, q8⟩ => ?_
      refine wpAny_tests_nil ?_
      simp only [if_true]
      refine thnF (pe.run _ s8 σ8 H8 _ I8 q8) fun z s10 ⟨yv, H10, I10, r10, q10⟩ => ?_
      refine thnF (pad _ s10 σ8 H10 D yv z Nx (fun _ _ => False) I10 r10 q10) fun _ s11 ⟨H11, I11, nx⟩ => ?_
      obtain ⟨m', hm, w'⟩ := hNx H11 nx
      have pin : ∀ b ∈ fp, ∀ o, s7.heap.get? b = some o → s11.heap.get? b = some o ∧ H11 b = none := fun b hb' o e =>
        let z := I11.pin (b, o) (List.mem_append_right _ (List.mem_append_right _ (mem_pinsAt hb' e)))
        ⟨z.1, z.2.1⟩
      have hl : (wipe σ (own.map (·.2))).length = σ8.length := by rw [← hw8, wipe_length]
      refine ⟨m', hm, i + 1, H11, (I11.unpinned (pins := [])).weak hl (fun j v e => ?_), T.keep _ _ _ st7 fun b hb' o e => (pin b hb' o e).1, fun b hb' => ?_, w'⟩
      · rw [← hw8] at e
        exact (wipe_some e).1
      · obtain ⟨o, e, _⟩ := T.obj _ _ st7 b hb'
        exact (pin b hb' o e).2
  exact PpSet.codeAny_compStart_set loop (T.self X.A 0 _ _ _ st4 loop)
end
end XS
set_option Elab.async false
set_option linter.all false
set_option maxRecDepth 100000
set_option maxHeartbeats 4000000
/-! Sets of tuples of texts: made, added to, sorted (fewer than 64). After the layer's sets of tuples of whole numbers: here the hash is not by value. -/
namespace XS
open PySem PySem.Spec PyProof.Rows L2
abbrev Pk := Addr × List Str
theorem find_pk {p : Pk → Bool} {L : List Pk} (h : ∃ c ∈ L, p c = true) : ∃ c, L.find? p = some c ∧ c ∈ L ∧ p c = true := by
  obtain ⟨c, hc, e⟩ := h
  cases q : L.find? p with
  | none => exact absurd e (List.find?_eq_none.mp q c hc)
  | some d => exact ⟨d, rfl, List.mem_of_find?_eq_some q, List.find?_some q⟩
section
variable {P : Program} {w : World} {A : Around} {E : Value → Shared → Prop} {s : Shared}
abbrev hsh (P : Program) (w : World) (k : List Str) : Int := tupleKeyHash (strKind P w) k
/-- the tuple at b has the texts k -/
abbrev IsX (P : Program) (w : World) (h : Heap) (k : List Str) (b : Addr) : Prop := IsTupleKey (strKind P w) h k b
theorem items_text {k : List Str} {vs : List Value} (h : ItemsAre (strKind P w) k vs) : ∀ v ∈ vs, ∃ x t, v = Value.str x t := by
  induction h with
  | nil => intro v hv; cases hv
  | @cons k0 v0 ks vs h1 _ ih =>
    intro v hv
    rcases List.mem_cons.mp hv with rfl | hv
    · obtain ⟨t, e⟩ := Value.isStrOf_shape h1
      exact ⟨k0, t, e⟩
    · exact ih v hv
theorem class_text (n : Nat) (x : Str) (t : Tok) : ofAClassStatement n (.str x t) = pure false := by cases n <;> rfl
theorem hash_text (n : Nat) (x : Str) (t : Tok) : hashByValue n (.str x t) = pure false := by cases n <;> rfl
theorem class_tup {k : List Str} {b : Addr} {Q : Bool → Shared → Prop} (hk : IsX P w s.heap k b) (h : Q false s) : wpAny (model P w) A (ofAClassStatement 8 (.ref b)) Q E s := by
  have ty := hk.typeIs
  obtain ⟨o, items, n, ho, _, hd, hi⟩ := hk
  unfold ofAClassStatement
  refine wpAny_bind (wpAny_typeOf ty ?_)
  dsimp only
  have e : (("tuple" : String) == "tuple") = true := by decide
  simp only [e, if_true, Bool.not_true, Bool.false_eq_true, if_false]
  try refine wpAny_bind (wpAny_pure ?_)
  try simp only [Bool.not_true, Bool.false_eq_true, if_false]
  show wpAny _ _ (seqItems? (.ref b) >>= _) _ _ s
  refine wpAny_bind (wpAny_seqItems ho hd ?_)
  dsimp only
  refine wpAny_bind ?_
  show wpAny _ _ (forIn items _ _) _ _ s
  rw [← Array.forIn_toList]
  refine wpAny_forIn_list _ (fun l r s1 => r.1 = none ∧ s1 = s ∧ ∀ v ∈ l, ∃ x t, v = Value.str x t) _ ?_ ?_ _ _ ⟨rfl, rfl, items_text hi⟩
  · rintro v l r s1 ⟨hr, rfl, all⟩
    obtain ⟨x, t, rfl⟩ := all v List.mem_cons_self
    rw [class_text]
    refine wpAny_bind (wpAny_pure ?_)
    simp only [Bool.false_eq_true, if_false]
    exact wpAny_pure ⟨rfl, rfl, fun u hu => all u (List.mem_cons_of_mem _ hu)⟩
  · rintro ⟨r1, r2⟩ s1 ⟨hr, rfl, _⟩
    simp only at hr
    subst hr
    exact wpAny_pure h
theorem hash_tup {k : List Str} {b : Addr} {Q : Bool → Shared → Prop} (hk : IsX P w s.heap k b) (h : ∀ c, Q c s) : wpAny (model P w) A (hashByValue 8 (.ref b)) Q E s := by
  have ty := hk.typeIs
  obtain ⟨o, items, n, ho, _, hd, hi⟩ := hk
  unfold hashByValue
  refine wpAny_bind (wpAny_specialOf ty F.slot_tuple_hash.lookup ?_)
  show wpAny _ _ (seqItems? (.ref b) >>= _) _ _ s
  refine wpAny_bind (wpAny_seqItems ho hd (wpAny_bind ?_))
  show wpAny _ _ (forIn items _ _) _ _ s
  rw [← Array.forIn_toList]
  have all := items_text hi
  cases hl : items.toList with
  | nil =>
    show wpAny _ _ (pure _) _ _ s
    exact wpAny_pure (wpAny_pure (h _))
  | cons v l =>
    obtain ⟨x, t, rfl⟩ := all v (by rw [hl]; exact List.mem_cons_self)
    rw [List.forIn_cons, hash_text]
    refine wpAny_bind (wpAny_bind (wpAny_pure ?_))
    simp only [Bool.not_false, if_true]
    exact wpAny_pure (wpAny_pure (wpAny_pure (h _)))
/-- a search among such tuples shows nothing -/
theorem seen_pair {k : List Str} {b : Addr} {Q : Bool → Shared → Prop} (hk : IsX P w s.heap k b) {ys : List Value} (hy : ∀ y ∈ ys, ∃ m c, y = Value.ref c ∧ IsX P w s.heap m c) (h : Q false s) :
    wpAny (model P w) A (searchCouldBeSeen (.ref b) ys) Q E s := by
  unfold searchCouldBeSeen
  refine wpAny_bind (wpAny_forIn_list _ (fun l r s1 => r.1 = none ∧ s1 = s ∧ ∀ y ∈ l, ∃ m c, y = Value.ref c ∧ IsX P w s.heap m c) _ ?_ ?_ _ _ ⟨rfl, rfl, hy⟩)
  · rintro v l r s1 ⟨hr, rfl, all⟩
    obtain ⟨m, c, rfl, hc⟩ := all v List.mem_cons_self
    have more : ∀ y ∈ l, ∃ m c, y = Value.ref c ∧ IsX P w s1.heap m c := fun u hu => all u (List.mem_cons_of_mem _ hu)
    dsimp only
    by_cases hv : (b == c || (carriedByValue (.ref b) && carriedByValue (.ref c))) = true
    · exact wp_if_pos hv (wpAny_pure ⟨rfl, rfl, more⟩)
    · refine wp_if_neg hv (wpAny_bind (wpAny_eqIsQuiet_tuple hk ?_))
      simp only [Bool.not_true, Bool.false_eq_true, if_false]
      refine wpAny_bind (wpAny_eqIsQuiet_tuple hc ?_)
      simp only [Bool.not_true, Bool.false_eq_true, if_false]
      refine wpAny_bind (class_tup hk ?_)
      simp only [Bool.false_eq_true, if_false]
      refine wpAny_bind (class_tup hc ?_)
      simp only [Bool.false_eq_true, if_false]
      exact wpAny_pure ⟨rfl, rfl, more⟩
  · rintro ⟨r1, r2⟩ s1 ⟨hr, rfl, _⟩
    simp only at hr
    subst hr
    exact wpAny_pure h
/-- the rows of a set of such tuples -/
def rowsX (P : Program) (w : World) (L : List Pk) : List (Int × Value) := L.map fun p => (hsh P w p.2, Value.ref p.1)
theorem rowsX_len (L : List Pk) : (rowsX P w L).length = L.length := List.length_map _
structure PSet (P : Program) (w : World) (h : Heap) (a : Addr) (L : List Pk) (es : Array (Int × Value)) (ep : Nat) (t : SetTable) : Prop where
  ob : ∃ o, h.get? a = some o ∧ o.ExactSet ∧ o.data = .set es ep t
  rows : es.toList = rowsX P w L
  tab : TabOk t (L.map fun p => hsh P w p.2)
  nd : (L.map (·.2)).Nodup
  tup : ∀ p ∈ L, IsX P w h p.2 p.1
  led : w.params.followText "set-order" = true ∨ t.led = true
  room : L.length * 5 < t.mask * 3
  few : L.length < 64
variable {a : Addr} {L : List Pk} {es : Array (Int × Value)} {ep : Nat} {t : SetTable}
theorem PSet.size (R : PSet P w s.heap a L es ep t) : es.size = L.length := by
  rw [← Array.length_toList, R.rows, rowsX_len]
theorem fits_of {t : SetTable} {n : Nat} (h1 : t.place.size = n) (h2 : t.dummies = #[]) (h3 : n ≤ t.mask) : t.fits n = true := by
  unfold SetTable.fits SetTable.fill
  rw [h2, Bool.and_eq_true, beq_iff_eq, decide_eq_true_eq]
  show t.place.size = n ∧ t.place.size + 0 ≤ t.mask
  omega
theorem PSet.fits (R : PSet P w s.heap a L es ep t) : t.fits es.size = true := by
  have z1 := R.tab.sz
  rw [List.length_map] at z1
  have z3 := R.room
  rw [R.size]
  exact fits_of z1 R.tab.dm (by omega)
theorem PSet.entry (R : PSet P w s.heap a L es ep t) {i : Nat} {p : Pk} (h : L[i]? = some p) : es[i]? = some (hsh P w p.2, Value.ref p.1) := by
  rw [← Array.getElem?_toList, R.rows]
  unfold rowsX
  rw [List.getElem?_map, h]
  rfl
theorem PSet.mem_of {e : Int × Value} (R : PSet P w s.heap a L es ep t) (h : e ∈ es.toList) : ∃ p ∈ L, e = (hsh P w p.2, Value.ref p.1) := by
  rw [R.rows] at h
  obtain ⟨p, hp, q⟩ := List.mem_map.mp h
  exact ⟨p, hp, q.symm⟩
theorem PSet.gw (R : PSet P w s.heap a L es ep t) : ¬ t.gaveWay = true := by
  unfold SetTable.gaveWay
  rw [mask_odd R.tab.mok]
  decide
/-- the c-th place of the way -/
abbrev pth (t : SetTable) (h : Int) (c : Nat) : SetTable.Probe := nth t.mask (runAt t.mask (SetTable.bits h % (t.mask + 1)) (SetTable.bits h)) c
theorem pth_dummy (t : SetTable) (h : Int) (c : Nat) : (pth t h c).dummy = none := by
  have key : ∀ (n : Nat) (p : SetTable.Probe), p.dummy = none → (nth t.mask p n).dummy = none := by
    intro n
    induction n with
    | zero => exact fun p h => h
    | succ n ih =>
      intro p h
      refine ih (adv t.mask p) ?_
      unfold adv
      split <;> exact h
  exact key c _ rfl
theorem pth_on (t : SetTable) (h : Int) (c q : Nat) : nth t.mask (pth t h c) q = pth t h (c + q) := (nth_add t.mask c _ q).symm
theorem find_from (R : PSet P w s.heap a L es ep t) {x : Addr} {k : List Str} (hx : IsX P w s.heap k x) (hu : A.units < cLine) {K : Nat} (hKf : K < 10 * SetTable.turns t.mask)
    (hK : way t.mask (hsh P w k) K ∉ t.place.toList) (hKb : ∀ c, c < K → way t.mask (hsh P w k) c ∈ t.place.toList) {Q : SetFound → Shared → Prop}
    (hin : k ∈ L.map (·.2) → Q (.there none) s) (hout : k ∉ L.map (·.2) → Q (.free (way t.mask (hsh P w k) K) false) s) :
    ∀ (f c : Nat) (st : Option SetTable.Probe), st.getD (t.probeStart (hsh P w k)) = pth t (hsh P w k) c → c ≤ K → K - c < f →
      (∀ (i : Nat) p, L[i]? = some p → p.2 = k → ∃ d, c ≤ d ∧ d < K ∧ t.place.toList[i]? = some (way t.mask (hsh P w k) d)) →
      wpAny (model P w) A (setSearchFrom a (.ref x) (hsh P w k) true f st) Q E s
  | 0, c, st, _, _, hf, _ => absurd hf (Nat.not_lt_zero _)
  | f + 1, c, st, hst, hc, hf, hre => by
    obtain ⟨o, ho, hex, hd⟩ := R.ob
    rw [setSearchFrom_succ]
    refine wpAny_bind (wpAny_setState_of ho hd R.fits ?_)
    dsimp only
    refine wp_if_neg R.gw ?_
    try refine wpAny_bind (wpAny_pure ?_)
    have pj : ∀ q, (nth t.mask (pth t (hsh P w k) c) q).j = way t.mask (hsh P w k) (c + q) := fun q => congrArg SetTable.Probe.j (pth_on t _ c q)
    have hash : ∀ (i : Nat) p, L[i]? = some p → (es[i]?.map (·.1)).getD 0 = hsh P w p.2 := fun i p hp => by rw [R.entry hp]; rfl
    have spec := go_spec t R.tab.ris R.tab.dm (fun i => (es[i]?.map (·.1)).getD 0) (hsh P w k) (10 * SetTable.turns t.mask) (K - c) _ (pth_dummy t (hsh P w k) c) (by omega)
      (fun q hq => by rw [pj]; exact hKb (c + q) (by omega)) (by rw [pj, show c + (K - c) = K by omega]; exact hK)
    rcases spec with ⟨q, i, hq, hi, hh, hno, hpr⟩ | ⟨hno, hpr⟩
    · have hp1 : t.probe (fun i => (es[i]?.map (·.1)).getD 0) (hsh P w k) (st.getD (t.probeStart (hsh P w k))) = some (.candidate (way t.mask (hsh P w k) (c + q)) i (pth t (hsh P w k) (c + (q + 1)))) := by
        rw [hst, ← pj, ← pth_on]
        exact hpr
      rw [hp1]
      dsimp only
      rw [pj] at hi
      have hil : i < L.length := by
        have z1 : i < t.place.toList.length := (List.getElem?_eq_some_iff.mp hi).1
        have z2 := R.tab.sz
        rw [List.length_map] at z2
        rw [Array.length_toList] at z1
        omega
      have hp : L[i]? = some L[i] := List.getElem?_eq_getElem hil
      generalize L[i] = p at hp
      have hm : p ∈ L := List.mem_of_getElem? hp
      have rest : wpAny (model P w) A (searchRest a (.ref x) (hsh P w k) true f es t (way t.mask (hsh P w k) (c + q)) i (pth t (hsh P w k) (c + (q + 1)))) Q E s := by
        unfold searchRest
        rw [R.entry hp]
        dsimp only
        refine wpAny_bind (wpAny_holding (wpAny_eqBool_tuple hu (R.tup p hm) hx (wpAny_bind (wpAny_setState_of ho hd R.fits ?_))))
        dsimp only
        by_cases hkk : p.2 = k
        · exact wp_if_pos (by simp [hkk]) (wpAny_pure (hin (List.mem_map.mpr ⟨p, hm, hkk⟩)))
        · refine wp_if_neg (by simp [hkk]) ?_
          try refine wpAny_bind (wpAny_pure ?_)
          rw [sameMem]
          dsimp only
          have hsl : t.slot (way t.mask (hsh P w k) (c + q)) = .live i := slot_live R.tab.ris hi
          simp only [if_true, hsl, R.entry hp]
          refine wpAny_bind (wpAny_isSame_ref_self (wpAny_bind (wpAny_pure ?_)))
          simp only [if_true]
          refine wp_if_neg (by simp [hkk]) ?_
          refine find_from R hx hu hKf hK hKb hin hout f (c + (q + 1)) _ rfl (by omega) (by omega) fun i0 p0 h0 hk0 => ?_
          obtain ⟨d, a1, a2, a3⟩ := hre i0 p0 h0 hk0
          refine ⟨d, ?_, a2, a3⟩
          rcases Nat.lt_trichotomy d (c + q) with z | z | z
          · refine (hno (d - c) i0 (by omega) (by rw [pj, show c + (d - c) = d by omega]; exact a3) ?_).elim
            exact (hash i0 p0 h0).trans (congrArg (hsh P w) hk0)
          · rw [z] at a3
            have s0 := slot_live R.tab.ris a3
            rw [hsl] at s0
            injection s0 with s0
            rw [← s0, hp] at h0
            exact absurd ((congrArg Prod.snd (Option.some.inj h0)).trans hk0) hkk
          · omega
      by_cases hl : t.led = true
      · refine wp_if_neg (by simp [hl]) ?_
        try refine wpAny_bind (wpAny_pure ?_)
        exact rest
      · refine wp_if_pos (by simp [hl]) (wpAny_bind (seen_pair hx (fun y hy => ?_) ?_))
        · obtain ⟨e, he, ee⟩ := List.mem_map.mp hy
          have he1 : e ∈ es ∧ e.1 = hsh P w k := by simpa using he
          obtain ⟨p2, hp2, e2⟩ := R.mem_of (e := e) (by simpa using he1.1)
          exact ⟨p2.2, p2.1, by rw [← ee, e2], R.tup p2 hp2⟩
        · refine wp_if_neg (by decide) ?_
          try refine wpAny_bind (wpAny_pure ?_)
          exact rest
    · have hp1 : t.probe (fun i => (es[i]?.map (·.1)).getD 0) (hsh P w k) (st.getD (t.probeStart (hsh P w k))) = some (.empty (way t.mask (hsh P w k) K) none) := by
        have e2 : way t.mask (hsh P w k) K = (nth t.mask (pth t (hsh P w k) c) (K - c)).j := by rw [pj, show c + (K - c) = K by omega]
        rw [hst, e2]
        exact hpr
      rw [hp1]
      dsimp only
      refine wpAny_pure (hout fun hm => ?_)
      obtain ⟨p0, h0, hk0⟩ := List.mem_map.mp hm
      obtain ⟨i0, hi0, e0⟩ := List.getElem_of_mem h0
      have h00 : L[i0]? = some p0 := by rw [List.getElem?_eq_getElem hi0, e0]
      obtain ⟨d, a1, a2, a3⟩ := hre i0 p0 h00 hk0
      exact hno (d - c) i0 (by omega) (by rw [pj, show c + (d - c) = d by omega]; exact a3) ((hash i0 p0 h00).trans (congrArg (hsh P w) hk0))
theorem find_at (R : PSet P w s.heap a L es ep t) {x : Addr} {k : List Str} (hx : IsX P w s.heap k x) (hu : A.units < cLine) {Q : SetFound → Shared → Prop}
    (hin : k ∈ L.map (·.2) → Q (.there none) s)
    (hout : ∀ K, k ∉ L.map (·.2) → way t.mask (hsh P w k) K ∉ t.place.toList → (∀ c, c < K → way t.mask (hsh P w k) c ∈ t.place.toList) → Q (.free (way t.mask (hsh P w k) K) false) s) :
    wpAny (model P w) A (setSearch a (.ref x) (hsh P w k) true) Q E s := by
  have room := R.room
  obtain ⟨K, hKf, hK, hKb⟩ := R.tab.first (by rw [List.length_map]; omega) (hsh P w k)
  have big : 10 * SetTable.turns t.mask ≤ 1420 := by
    unfold SetTable.turns
    rcases R.tab.mok with e | e | e <;> omega
  unfold setSearch
  refine find_from R hx hu hKf hK hKb hin (fun hn => hout K hn hK hKb) 100000 0 none rfl (Nat.zero_le _) (by omega) fun i p hp hk => ?_
  have hi : (L.map fun p => hsh P w p.2)[i]? = some (hsh P w k) := by rw [List.getElem?_map, hp, ← hk]; rfl
  have hil : i < t.place.toList.length := by
    have z1 : i < L.length := (List.getElem?_eq_some_iff.mp hp).1
    have z2 := R.tab.sz
    rw [List.length_map] at z2
    rw [Array.length_toList]
    omega
  have hj := List.getElem?_eq_getElem hil
  obtain ⟨c, hc, e⟩ := R.tab.before hK hi hj
  exact ⟨c, Nat.zero_le _, hc, by rw [hj, e]⟩
/-- a tuple isn't the set -/
theorem isX_same {h h' : Heap} {k : List Str} {a b : Addr} {o : Obj} {es : Array (Int × Value)} {ep : Nat} {t : SetTable} (hb : IsX P w h k b) (ho : h.get? a = some o) (hd : o.data = .set es ep t) (hs : Heap.SameBut a h h') : IsX P w h' k b := by
  obtain ⟨o2, items, n, ho2, hc, hd2, hi⟩ := hb
  have ne : b ≠ a := by
    rintro rfl
    obtain rfl : o2 = o := Option.some.inj (ho2.symm.trans ho)
    rw [hd] at hd2
    exact nomatch hd2
  exact ⟨o2, items, n, (hs.2 b ne).trans ho2, hc, hd2, hi⟩
theorem order_rowsX (L : List Pk) (es : Array (Int × Value)) (order : Array Nat) (hr : es.toList = rowsX P w L) (hp : order.toList.Perm (List.range L.length)) :
    ∃ M, (order.filterMap (es[·]?)).toList = rowsX P w M ∧ M.Perm L ∧ (M.map fun p => hsh P w p.2) = order.toList.map fun i => (es.map (·.1)).getD i 0 := by
  have ent : ∀ i (h : i < L.length), es[i]? = some (hsh P w (L[i]).2, Value.ref (L[i]).1) := fun i h => by
    rw [← Array.getElem?_toList, hr]
    unfold rowsX
    rw [List.getElem?_map, List.getElem?_eq_getElem h]
    rfl
  have hsz : es.size = L.length := by rw [← Array.length_toList, hr, rowsX_len]
  have key : ∀ l : List Nat, (∀ i ∈ l, i < L.length) → l.filterMap (fun i => es[i]?) = rowsX P w (l.filterMap fun i => L[i]?) ∧ ((l.filterMap fun i => L[i]?).map fun p => hsh P w p.2) = l.map fun i => (es.map (·.1)).getD i 0 := by
    intro l
    induction l with
    | nil => exact fun _ => ⟨rfl, rfl⟩
    | cons i l ih =>
      intro hl
      have hi := hl i List.mem_cons_self
      obtain ⟨e1, e3⟩ := ih fun j hj => hl j (List.mem_cons_of_mem _ hj)
      rw [List.filterMap_cons_some (List.getElem?_eq_getElem hi), List.filterMap_cons_some (ent i hi), e1]
      refine ⟨rfl, ?_⟩
      rw [List.map_cons, List.map_cons, e3]
      have e5 : (es.map (·.1))[i]? = some (hsh P w (L[i]).2) := by rw [Array.getElem?_map, ent i hi]; rfl
      have e4 : (es.map (·.1)).getD i 0 = hsh P w (L[i]).2 := by simp [Array.getD_eq_getD_getElem?, e5]
      rw [e4]
  obtain ⟨e1, e3⟩ := key order.toList fun i hi => List.mem_range.mp (hp.mem_iff.mp hi)
  refine ⟨_, by first | (rw [Array.toList_filterMap]; exact e1) | simpa using e1, ?_, e3⟩
  have h2 : (List.range L.length).filterMap (fun i => L[i]?) = L := by
    have up : ∀ n, n ≤ L.length → (List.range n).filterMap (fun i => L[i]?) = L.take n := by
      intro n
      induction n with
      | zero => exact fun _ => rfl
      | succ n ih =>
        intro hn
        have hlt : n < L.length := hn
        rw [List.range_succ, List.filterMap_append, ih (Nat.le_of_lt hlt), List.take_succ, List.getElem?_eq_getElem hlt, List.filterMap_cons_some (List.getElem?_eq_getElem hlt)]
        rfl
    rw [up L.length (Nat.le_refl _), List.take_length]
  have h1 := hp.filterMap fun i => L[i]?
  rw [h2] at h1
  exact h1
theorem relayX {o : Obj} (ho : s.heap.get? a = some o) (hex : o.ExactSet) (hd : o.data = .set es ep t) (hrows : es.toList = rowsX P w L) (hsz : t.place.size = es.size) (hdm : t.dummies = #[]) (hfl : es.size ≤ t.mask)
    (nd : (L.map (·.2)).Nodup) (tup : ∀ p ∈ L, IsX P w s.heap p.2 p.1) (ld : w.params.followText "set-order" = true ∨ t.led = true) (few : L.length < 64) {wanted M : Nat}
    (hw : SetTable.sizeAbove wanted - 1 = M) (hM : MaskOk M) (hw2 : SetTable.sizeAbove wanted ≤ 128) (hn : L.length * 5 < M * 3) {Q : Unit → Shared → Prop}
    (hQ : ∀ h' L' es' ep' t', Heap.SameBut a s.heap h' → PSet P w h' a L' es' ep' t' → L'.Perm L → Q () { s with heap := h' }) : wpAny (model P w) A (setRelay a wanted) Q E s := by
  have hsl : es.size = L.length := by rw [← Array.length_toList, hrows, rowsX_len]
  obtain ⟨t2, order, e, hp, T, em, el, _, _⟩ := relaid_ok t (hs := es.map (·.1)) (wanted := wanted) hw hM (by rw [Array.size_map, hsl]; omega)
  rw [Array.size_map, hsl] at hp
  obtain ⟨L2, r1, r2, r3⟩ := order_rowsX L es order hrows hp
  rw [← r3] at T
  have hs2 : (order.filterMap (es[·]?)).size = es.size := by rw [← Array.length_toList, r1, rowsX_len, r2.length_eq, hsl]
  rw [setRelay_eq]
  refine wpAny_bind (wpAny_setState_of ho hd (fits_of hsz hdm hfl) ?_)
  dsimp only
  refine wp_if_neg (by rw [sizeLine_eq]; omega) ?_
  try refine wpAny_bind (wpAny_pure ?_)
  rw [e]
  dsimp only
  refine wpAny_bind (wp_if_neg (by rw [hs2]; simp) ?_)
  try refine wpAny_bind (wpAny_pure ?_)
  refine wpAny_pure ?_
  dsimp only
  refine wpAny_storeSet_of ho hd ?_ (by rw [hs2, hsl, sizeLine_eq]; omega)
  have sb : Heap.SameBut a s.heap (s.heap.update a (Obj.putSet (order.filterMap (es[·]?)) t2)) := Heap.SameBut.update ..
  refine hQ _ L2 (order.filterMap (es[·]?)) (ep + 1) t2 sb ⟨⟨_, store_at ho hd, ⟨hex.1, hex.2.1, hex.2.2⟩, rfl⟩, r1, T, (r2.map (·.2)).nodup_iff.mpr nd, fun p hm => isX_same (tup p (r2.mem_iff.mp hm)) ho hd sb, by rw [el]; exact ld, ?_, by rw [r2.length_eq]; exact few⟩ r2
  rw [r2.length_eq, em]
  exact hn
theorem tabOk_plain {t : SetTable} {hs : List Int} (T : TabOk t hs) : TabOk { t with plain := false } hs := ⟨T.ris, T.dm, T.sz, T.mok, T.bd, T.reach⟩
/-- ADDING -/
theorem addX (R : PSet P w s.heap a L es ep t) {x : Addr} {k : List Str} (hx : IsX P w s.heap k x) (hu : A.units < cLine) (hfew : L.length + 1 < 64) {Q : Bool → Shared → Prop}
    (hQ : ∀ b h' M es' ep' t', Heap.SameBut a s.heap h' → PSet P w h' a M es' ep' t' → (k ∈ L.map (·.2) → M = L) → (k ∉ L.map (·.2) → M.Perm ((x, k) :: L)) → Q b { s with heap := h' }) :
    wpAny (model P w) A (setAddHashed a (.ref x) (hsh P w k)) Q E s := by
  obtain ⟨o, ho, hex, hd⟩ := R.ob
  have hsl := R.size
  have room := R.room
  unfold setAddHashed
  refine wpAny_holding ?_
  rw [show (100000 : Nat) = 99999 + 1 from rfl, setAddHashedIn_succ]
  refine wpAny_bind (wpAny_setState_of ho hd R.fits ?_)
  dsimp only
  refine wp_if_neg (by simp [byScan, Value.scannable]) ?_
  try refine wpAny_bind (wpAny_pure ?_)
  refine wpAny_bind (find_at R hx hu (fun hm => ?_) fun K hm hK hb => ?_)
  · dsimp only
    exact wpAny_pure (hQ false s.heap L es ep t (Heap.SameBut.refl a s.heap) R (fun _ => rfl) fun z => absurd hm z)
  · dsimp only
    refine wpAny_bind (wpAny_setState_of ho hd R.fits ?_)
    dsimp only
    obtain ⟨q1, q2, q3, q4, q5, _, _, _, q9⟩ := R.tab.put hK hb
    generalize hpt : t.put (way t.mask (hsh P w k) K) = pt at q1 q3 q4 q5 q9 ⊢
    obtain ⟨t1, p⟩ := pt
    dsimp only at q1 q3 q4 q5 q9 ⊢
    subst q1
    have hin : (SetTable.insertAt es (SetTable.below t.place (way t.mask (hsh P w k) K)) (hsh P w k, Value.ref x)).toList = rowsX P w (L.take (SetTable.below t.place (way t.mask (hsh P w k) K)) ++ (x, k) :: L.drop (SetTable.below t.place (way t.mask (hsh P w k) K))) := by
      rw [SetTable.toList_insertAt, R.rows]
      unfold rowsX
      rw [List.map_append, List.map_cons, List.map_take, List.map_drop]
    generalize SetTable.below t.place (way t.mask (hsh P w k) K) = p at q2 q3 hin ⊢
    have pm := put_perm L p (x, k)
    have hlen : (L.take p ++ (x, k) :: L.drop p).length = L.length + 1 := pm.length_eq
    have hhs : (L.take p ++ (x, k) :: L.drop p).map (fun p => hsh P w p.2) = (L.map fun p => hsh P w p.2).take p ++ hsh P w k :: (L.map fun p => hsh P w p.2).drop p := by
      rw [List.map_append, List.map_cons, List.map_take, List.map_drop]
    rw [← hhs] at q3
    have nd1 : ((L.take p ++ (x, k) :: L.drop p).map (·.2)).Nodup := by
      refine (pm.map (·.2)).nodup_iff.mpr ?_
      rw [List.map_cons]
      exact List.nodup_cons.mpr ⟨hm, R.nd⟩
    have hes : (SetTable.insertAt es p (hsh P w k, Value.ref x)).size = L.length + 1 := by rw [← Array.length_toList, hin, rowsX_len, hlen]
    generalize SetTable.insertAt es p (hsh P w k, Value.ref x) = es1 at hin hes ⊢
    generalize L.take p ++ (x, k) :: L.drop p = L1 at pm hlen q3 nd1 hin
    -- the rest, whatever is known of the hashes
    have rest : ∀ u : SetTable, TabOk u (L1.map fun p => hsh P w p.2) → u.mask = t.mask → (w.params.followText "set-order" = true ∨ u.led = true) → u.fill = L.length + 1 →
        wpAny (model P w) A (storeSet a es1 u) (fun _ s1 => wpAny (model P w) A (if (u.tooFull) = true then (do setRelay a (SetTable.grown (es.size + 1)); pure true) else pure true) Q E s1) E s := by
      intro u T um ul uf
      refine wpAny_storeSet_of ho hd ?_ (by rw [hes, sizeLine_eq]; omega)
      have sb : Heap.SameBut a s.heap (s.heap.update a (Obj.putSet es1 u)) := Heap.SameBut.update ..
      have ho1 := store_at (es' := es1) (t' := u) ho hd
      generalize s.heap.update a (Obj.putSet es1 u) = h1 at sb ho1 ⊢
      have tup1 : ∀ p ∈ L1, IsX P w h1 p.2 p.1 := fun p hp => by
        rcases List.mem_cons.mp (pm.mem_iff.mp hp) with e | hp
        · rw [e]; exact isX_same hx ho hd sb
        · exact isX_same (R.tup p hp) ho hd sb
      by_cases hf : u.tooFull = true
      · refine wp_if_pos hf (wpAny_bind ?_)
        have full : (L.length + 1) * 5 ≥ u.mask * 3 := by
          have z := hf
          unfold SetTable.tooFull at z
          rw [decide_eq_true_eq, uf] at z
          exact z
        rw [hsl]
        have hsz1 : u.place.size = es1.size := by
          have z := T.sz
          rw [List.length_map, hlen] at z
          rw [z, hes]
        have two : (t.mask = 7 ∧ L.length = 4) ∨ (t.mask = 31 ∧ L.length = 18) := by
          rw [um] at full
          rcases R.tab.mok with e | e | e
          · left; rw [e] at full room; exact ⟨e, by omega⟩
          · right; rw [e] at full room; exact ⟨e, by omega⟩
          · exfalso; rw [e] at full; omega
        have go : ∀ M, SetTable.sizeAbove (SetTable.grown (L.length + 1)) - 1 = M → MaskOk M → SetTable.sizeAbove (SetTable.grown (L.length + 1)) ≤ 128 → (L.length + 1) * 5 < M * 3 →
            wpAny (model P w) A (setRelay a (SetTable.grown (L.length + 1))) (fun _ s1 => wpAny (model P w) A (pure true) Q E s1) E { s with heap := h1 } := fun M z1 z2 z3 z4 => by
          refine relayX (s := { s with heap := h1 }) ho1 ⟨hex.1, hex.2.1, hex.2.2⟩ rfl hin hsz1 T.dm (by rw [hes, um]; rcases two with ⟨e, e2⟩ | ⟨e, e2⟩ <;> omega) nd1 tup1 ul (by rw [hlen]; exact hfew) z1 z2 z3 (by rw [hlen]; exact z4) ?_
          intro h2 L2 es2 ep2 t2 sb2 R2 pm2
          exact wpAny_pure (hQ true h2 L2 es2 ep2 t2 (sb.trans sb2) R2 (fun z => absurd z hm) fun _ => pm2.trans pm)
        rcases two with ⟨_, e2⟩ | ⟨_, e2⟩
        · exact go 31 (by rw [e2, size_20]) (.inr (.inl rfl)) (by rw [e2, size_20]; decide) (by omega)
        · exact go 127 (by rw [e2, size_76]) (.inr (.inr rfl)) (by rw [e2, size_76]; decide) (by omega)
      · refine wp_if_neg hf (wpAny_pure (hQ true h1 L1 es1 (ep + 1) u sb ⟨⟨_, ho1, ⟨hex.1, hex.2.1, hex.2.2⟩, rfl⟩, hin, T, nd1, tup1, ul, ?_, by rw [hlen]; exact hfew⟩ (fun z => absurd z hm) fun _ => pm))
        have z := hf
        unfold SetTable.tooFull at z
        rw [decide_eq_true_eq, uf] at z
        rw [hlen]
        omega
    have fin : ∀ c : Bool, wpAny (model P w) A (storeSet a es1 (if c = true then t1 else { t1 with plain := false })) (fun _ s1 => wpAny (model P w) A (if (if c = true then t1 else { t1 with plain := false }).tooFull = true then (do setRelay a (SetTable.grown (es.size + 1)); pure true) else pure true) Q E s1) E s := by
      have l1 : w.params.followText "set-order" = true ∨ t1.led = true := by rw [q5]; exact R.led
      have f1 : t1.fill = L.length + 1 := by rw [q9, List.length_map]
      intro c
      cases c
      · exact rest { t1 with plain := false } (tabOk_plain q3) q4 l1 f1
      · exact rest t1 q3 q4 l1 f1
    have last : ∀ c : Bool, wpAny (model P w) A (storeSet a es1 (if c = true then t1 else { t1 with plain := false }) >>= fun _ =>
        if (!false && (if c = true then t1 else { t1 with plain := false }).tooFull) = true then (do setRelay a (SetTable.grown (es.size + 1)); pure true) else pure true) Q E s := fun c => by
      rw [Bool.not_false, Bool.true_and]
      exact wpAny_bind (fin c)
    by_cases hp1 : t1.plain = true
    · rw [if_pos hp1]
      exact wpAny_bind (hash_tup hx fun c => last c)
    · rw [if_neg hp1]
      exact wpAny_bind (wpAny_pure (last true))
/-- the set without its tuples -/
structure PSet0 (P : Program) (w : World) (h : Heap) (a : Addr) (L : List Pk) : Prop where
  ex : ∃ (es : Array (Int × Value)) (ep : Nat) (t : SetTable), (∃ o, h.get? a = some o ∧ o.ExactSet ∧ o.data = .set es ep t) ∧ es.toList = rowsX P w L ∧ TabOk t (L.map fun p => hsh P w p.2) ∧ (L.map (·.2)).Nodup ∧
    (w.params.followText "set-order" = true ∨ t.led = true) ∧ L.length * 5 < t.mask * 3 ∧ L.length < 64
theorem PSet.bare {h : Heap} (R : PSet P w h a L es ep t) : PSet0 P w h a L := ⟨es, ep, t, R.ob, R.rows, R.tab, R.nd, R.led, R.room, R.few⟩
theorem PSet0.full {h : Heap} (R : PSet0 P w h a L) (ht : ∀ p ∈ L, IsX P w h p.2 p.1) : ∃ es ep t, PSet P w h a L es ep t := by
  obtain ⟨es, ep, t, h1, h2, h3, h4, h6, h7, h8⟩ := R.ex
  exact ⟨es, ep, t, h1, h2, h3, h4, ht, h6, h7, h8⟩
def PSetO (P : Program) (w : World) (a : Addr) (L : List Pk) : HO := .ext fun h => PSet0 P w h a L
theorem psetO_new {H : Hp} {h : Heap} (R : PSet0 P w h a L) : ObjOk P w H h a (PSetO P w a L) := by
  have ⟨es, ep, t, ⟨o, ho, r⟩, q⟩ := R.ex
  refine ⟨R, ⟨o, ho⟩, fun h1 h2 p k => ?_⟩
  have ⟨es1, ep1, t1, ⟨o1, ho1, r1⟩, q1⟩ := PSet0.ex p
  exact ⟨es1, ep1, t1, ⟨o1, k o1 ho1, r1⟩, q1⟩
theorem begins_pair (w : World) (P : Program) : Begins w P fun a => PSetO P w a [] := fun H h => psetO_new ⟨#[], 0, _, ⟨_, Heap.get?_push_size _ rfl, ⟨rfl, rfl, rfl⟩, rfl⟩, rfl, ⟨List.Pairwise.nil, rfl, rfl, .inl rfl, fun x hx => (by cases hx), fun i h j hi => (by simp at hi)⟩, List.nodup_nil, by
    show _ ∨ (!w.params.followText "set-order") = true
    cases w.params.followText "set-order"
    · exact .inr rfl
    · exact .inl rfl, by show 0 * 5 < 7 * 3; decide, by show 0 < 64; decide⟩
end
section
variable {X : Cx}
theorem text_items {P : Program} {w : World} : ∀ {k : List Str} {us : List Value}, Vals (k.map V.str) us → ItemsAre (strKind P w) k us
  | [], _, .nil => .nil
  | x :: k, _, .cons r t => by
    obtain ⟨tk, rfl⟩ := r
    exact .cons (strKind_is P w x tk) (text_items t)
theorem inv_isX {pins : List (Addr × Obj)} {σ : L2.St} {H : Hp} {s : Shared} {b : Addr} {k : List Str} (I : Inv X pins σ H s) (h : SqT X.K H b (k.map V.str)) : IsX X.prog X.w s.heap k b := by
  obtain ⟨its, r, ⟨o, ho, hc, n, hd⟩, _⟩ := I.tuple h
  exact ⟨o, its.toArray, n, ho, hc, hd, by simpa using text_items r⟩
/-- found.add(pair) -/
def adP (K : PySem.W.Frag) (P : Program) (w : World) : AddT := fun D y H Q => ∃ (x : Addr) (k : List Str) (L : List Pk), y = .ref x ∧ SqT K H x (k.map V.str) ∧ H D = some (PSetO P w D L) ∧ (∀ p ∈ L, SqT K H p.1 (p.2.map V.str)) ∧ L.length + 1 < 64 ∧
  ∀ M : List Pk, (k ∈ L.map (·.2) → M = L) → (k ∉ L.map (·.2) → M.Perm ((x, k) :: L)) → Q (upd H D (PSetO P w D M))
theorem adds_pair (hu : X.A.units + 64 < cLine) : Adds X (adP X.K X.prog X.w) := by
  intro pins s σ H D y v Q E I r h
  obtain ⟨x, k, L, rfl, hx, hD, hL, few, q⟩ := h
  cases r
  obtain ⟨es, ep, t, R⟩ := PSet0.full (I.hok D _ hD).1 fun p hp => inv_isX I (hL p hp)
  have ix := inv_isX I hx
  obtain ⟨o, ho, hex, hd⟩ := id R.ob
  refine wpAny_call_entry F.slot_set_add ⟨o, ho, hex.1⟩ F.entry_set_add ?_ (F.args_set_add_2 _ _)
  unfold Builtin.«set.add» Builtin.Frozenset.oneOther
  simp only [List.isEmpty_nil, bind_assoc]
  unfold Builtin.Frozenset.addrOf setAdd
  refine wpAny_bind (wpAny_pure ?_)
  try dsimp only
  refine wpAny_bind (wpAny_pure ?_)
  try dsimp only
  refine wpAny_bind (wpAny_holding (wpAny_bind (wpAny_pyHash_tuple (by show X.A.units + 1 < cLine; omega) ix ?_)))
  refine addX (s := { s with toks := s.toks + (k.length + 1) }) R ix (by show X.A.units + 1 < cLine; omega) few fun b h' M es1 ep1 t1 sb R1 m1 m2 => ?_
  show wpAny _ _ (ret Value.none) _ _ _
  refine wpAny_pure ⟨_, rfl, _, ?_, q M m1 m2⟩
  obtain ⟨o1, ho1, _⟩ := R1.ob
  exact I.write (e := D) (t' := s.toks + (k.length + 1)) (by rw [hD]; trivial) (.inl rfl) (fun b u hb hu => (sb.2 b hb).trans hu) ⟨_, ho1⟩ (psetO_new R1.bare)
/-- sorted(found): the same tuples in some order -/
def rSortX (K : PySem.W.Frag) (P : Program) (w : World) : List V → Hp → VK → Prop := fun vs H Q => ∃ (a : Addr) (L : List Pk), vs = [V.ref a] ∧ H a = some (PSetO P w a L) ∧ (∀ p ∈ L, SqT K H p.1 (p.2.map V.str)) ∧ (∀ p ∈ L, p.2.length = 2) ∧
  ∀ (M : List Pk) (p : Addr), (∀ q, q ∈ M ↔ q ∈ L) → M.length = L.length → H p = none → Q (.ref p) (upd H p (.lst (M.map fun q => V.ref q.1)))
theorem cr_sortX (hc : X.calm = true) (hu : X.A.units + 64 < cLine) : CallR X (.builtin "sorted") (rSortX X.K X.prog X.w) := by
  intro pins s σ H vs us Q I r h
  obtain ⟨a, L, rfl, ha, hk, h2, q⟩ := h
  have tup : ∀ p ∈ L, IsX X.prog X.w s.heap p.2 p.1 := fun p hp => inv_isX I (hk p hp)
  obtain ⟨es, ep, t, R⟩ := PSet0.full (I.hok a _ ha).1 tup
  obtain ⟨o, ho, hex, hd⟩ := id R.ob
  rw [Vals.ref1 r]
  have two : ∀ p ∈ L, ∃ x y, p.2 = [x, y] := fun p hp => by
    have z := h2 p hp
    match p.2, z with
    | [x, y], _ => exact ⟨x, y, rfl⟩
  -- what a value reads as
  let enc : Value → PyData := fun v => match L.find? fun p => v == Value.ref p.1 with
    | some p => .tuple [.str (p.2.getD 0 Str.empty), .str (p.2.getD 1 Str.empty)]
    | none => .tuple [.str Str.empty, .str Str.empty]
  have encs : ∀ v, ∃ x y, enc v = PyData.tuple [.str x, .str y] := fun v => by
    show ∃ x y, (match L.find? fun p => v == Value.ref p.1 with
      | some p => PyData.tuple [.str (p.2.getD 0 Str.empty), .str (p.2.getD 1 Str.empty)]
      | none => .tuple [.str Str.empty, .str Str.empty]) = _
    split
    · exact ⟨_, _, rfl⟩
    · exact ⟨_, _, rfl⟩
  have one : ∀ p ∈ L, ∀ c ∈ L, p.1 = c.1 → p.2 = c.2 := fun p hp c hq e => by
    have a1 := tup p hp
    rw [e] at a1
    exact a1.inj (tup c hq)
  refine sorted_rows (enc := enc) (I.ok.hd hc) ⟨o, ho, hex.1, hd⟩ R.fits (by rw [R.size]; exact R.few) R.tab.ris R.led (fun e he => ?_) (fun e _ f _ => ?_) (fun l _ => ?_) (fun v => ?_) fun s1 p vs c k g o1 hp pv hg => ?_
  · obtain ⟨p, hp, rfl⟩ := R.mem_of he
    obtain ⟨c, f1, f2, f3⟩ := find_pk (L := L) (p := fun q => Value.ref p.1 == Value.ref q.1) ⟨p, hp, beq_self_eq_true _⟩
    have e1 : p.1 = c.1 := by
      have z : Value.ref p.1 = Value.ref c.1 := eq_of_beq f3
      injection z
    have e2 := one p hp c f2 e1
    obtain ⟨x, y, exy⟩ := two p hp
    have ev : enc (Value.ref p.1) = .tuple [.str x, .str y] := by
      show (match L.find? fun q => Value.ref p.1 == Value.ref q.1 with
        | some p => PyData.tuple [.str (p.2.getD 0 Str.empty), .str (p.2.getD 1 Str.empty)]
        | none => .tuple [.str Str.empty, .str Str.empty]) = _
      rw [f1]
      show PyData.tuple [.str (c.2.getD 0 Str.empty), .str (c.2.getD 1 Str.empty)] = _
      rw [← e2, exy]
      rfl
    obtain ⟨ob, items, n, h1, hc1, h3, h4⟩ := tup p hp
    rw [exy] at h4
    rw [ev]
    have it : ∃ u v, items.toList = [Value.str x u, Value.str y v] := by
      generalize items.toList = l at h4
      cases h4 with
      | cons r1 h5 =>
        cases h5 with
        | cons r2 h6 =>
          cases h6
          obtain ⟨u, rfl⟩ := Value.isStrOf_shape r1
          obtain ⟨v, rfl⟩ := Value.isStrOf_shape r2
          exact ⟨u, v, rfl⟩
    obtain ⟨u, v, e5⟩ := it
    refine .tuple h1 hc1 h3 ?_
    rw [e5]
    exact .cons (as := []) (bs := []) (.str x u) (.cons (as := []) (bs := []) (.str y v) .nil)
  · obtain ⟨x, y, e1⟩ := encs e.2
    obtain ⟨x2, y2, e2⟩ := encs f.2
    rw [e1, e2]
    simp [PySem.W.alike, PySem.W.alikeAll]
  · refine .inl fun d hd2 => ?_
    obtain ⟨v, _, rfl⟩ := List.mem_map.mp hd2
    obtain ⟨x, y, e1⟩ := encs v
    exact ⟨_, _, e1⟩
  · obtain ⟨x, y, e1⟩ := encs v
    rw [e1]
    show X.A.units + 3 + (PyData.tuple [.str x, .str y]).depth < cLine
    have : (PyData.tuple [.str x, .str y]).depth ≤ 2 := by simp [PyData.depth, PyData.depthAll]
    omega
  · have ps := (List.mergeSort_perm vs (PySem.W.dataLe false enc)).trans pv
    generalize vs.mergeSort (PySem.W.dataLe false enc) = out at hg ps
    have hes : es.toList.map (·.2) = L.map fun q => Value.ref q.1 := by
      rw [R.rows]
      unfold rowsX
      rw [List.map_map]
      rfl
    rw [hes] at ps
    have ord : ∀ l : List Value, (∀ v ∈ l, ∃ q ∈ L, v = Value.ref q.1) → ∃ M : List Pk, l = M.map (fun q => Value.ref q.1) ∧ ∀ q ∈ M, q ∈ L := by
      intro l
      induction l with
      | nil => exact fun _ => ⟨[], rfl, fun q hq => (by cases hq)⟩
      | cons v l ih =>
        intro hv
        obtain ⟨q, hq, e⟩ := hv v List.mem_cons_self
        obtain ⟨M, e1, hs⟩ := ih fun u hu => hv u (List.mem_cons_of_mem _ hu)
        exact ⟨q :: M, by rw [List.map_cons, e, e1], fun r hr => (List.mem_cons.mp hr).elim (fun z => by rw [z]; exact hq) (hs r)⟩
    obtain ⟨M, eM, sM⟩ := ord out fun v hv => by
      obtain ⟨q, hq, e⟩ := List.mem_map.mp (ps.mem_iff.mp hv)
      exact ⟨q, hq, e.symm⟩
    have hlM : M.length = L.length := by
      have z := ps.length_eq
      rw [eM, List.length_map, List.length_map] at z
      exact z
    have back : ∀ q ∈ L, q ∈ M := fun q hq => by
      have z : Value.ref q.1 ∈ out := ps.mem_iff.mpr (List.mem_map.mpr ⟨q, hq, rfl⟩)
      rw [eM] at z
      obtain ⟨r, hr, e⟩ := List.mem_map.mp z
      injection e with e
      have e2 := one r (sM r hr) q hq e
      have e3 : r = q := Prod.ext e e2
      rw [← e3]
      exact hr
    have hn : H p = none := I.hok.fresh hp
    have hv : Vals (M.map fun q => V.ref q.1) out := by
      rw [eM]
      have all : ∀ l : List Pk, Vals (l.map fun q => V.ref q.1) (l.map fun q => Value.ref q.1) := fun l => by
        induction l with
        | nil => exact .nil
        | cons a l ih => exact .cons rfl ih
      exact all M
    have hlen : (M.map fun q => V.ref q.1).length ≤ sizeLine := by
      have z := R.few
      rw [List.length_map, hlM, sizeLine_eq]
      omega
    have J : Inv X pins σ (upd H p (.lst (M.map fun q => V.ref q.1))) { s with heap := s1.heap, gens := s1.gens, drawn := s1.drawn, toks := s1.toks } :=
      I.call (ch := []) (Un.laid k hp hn) (I.hok.laid k hp ⟨hlen, out, c, hv, hg⟩) (by rw [g]; exact I.bare) (fun _ z => nomatch z)
    rw [shared_eq o1]
    exact ⟨.ref p, _, J, rfl, q M p (fun q => ⟨sM q, back q⟩) hlM hn⟩
end
end XS
set_option Elab.async false
set_option linter.all false
set_option maxRecDepth 100000
set_option maxHeartbeats 2000000
/-! enumerate and zip over texts; zip whose tuples stay out. -/
namespace XS
open PySem PySem.Spec PyProof.Rows L2
open PySem.W (kdx_alive)
/-- a zip, whatever it knows of its tuple -/
abbrev ZF (h : Heap) (z TI TO : Addr) (x : Value) (f : Bool) : Prop :=
  h.get? z = some { cls := .type "zip", dict := none, data := .fields #[x, .bool f, .bool false, .ref TI, .ref TO], slots := #[] }
def ZK (x : Value) : Prop := x = .none ∨ ∃ T : Addr, x = rawInt T
def SignP (x : Str) (i : Nat) (v : Value) : Prop := ∃ c u, x.cps[i]? = some c ∧ v = .str ⟨#[c]⟩ u
theorem draws_text {prog : Program} {w : World} {A : Around} (hh : A.handled = none) (it : Addr) (x : Str) (t : Tok) :
    Draws prog w A it [it] x.cps.size (SignP x) (fun i h => h.IsStrIter it (strIterType x) x t i) := by
  cases ha : x.cps.all (· < 128)
  · simp only [strIterType, ha, Bool.false_eq_true, if_false]
    exact .strWide hh it x t
  · simp only [strIterType, ha, if_true]
    exact .strAscii hh it x t
section
variable {prog : Program} {w : World} {A : Around} {E : Value → Shared → Prop} {s : Shared} {z TI TO i1 i2 : Addr} {fp1 fp2 : List Addr} {n1 n2 i : Nat} {P1 P2 : Nat → Value → Prop} {St1 St2 : Nat → Heap → Prop} {a1 a2 x0 : Value} {f : Bool}
theorem dead_none {a : Addr} {Q : Option Obj → Shared → Prop} (ho : s.heap.get? a = none) (h : Q none s) : wpAny (model prog w) A (loadIfAlive a) Q E s := by
  have h' : Q (s.heap.get? a) s := by rw [ho]; exact h
  exact fun _ _ _ => h'
theorem owned_zip {Q : Bool → Shared → Prop} (hx : ZK x0) (hz : ZF s.heap z TI TO x0 f) (hfree : Q true s)
    (hheld : ∀ h' y, ZK y → ZF h' z TI TO y true → Heap.SameBut z s.heap h' → Q false { s with heap := h' }) : wpAny (model prog w) A (Builtin.SmallTypes.ownedTupleIsFree (.ref z)) Q E s := by
  unfold Builtin.SmallTypes.ownedTupleIsFree
  rcases hx with rfl | ⟨T, rfl⟩
  · exact wpAny_bind (wpAny_field hz rfl (x := .none) rfl (wpAny_pure hfree))
  · refine wpAny_bind (wpAny_field hz rfl (x := rawInt T) rfl ?_)
    show wpAny _ _ (loadIfAlive ((T : Int).toNat) >>= _) _ _ _
    rw [Int.toNat_natCast]
    cases hT : s.heap.get? T with
    | none =>
      refine wpAny_bind (dead_none hT ?_)
      simp only [Option.isNone_none, if_true]
      exact wpAny_pure hfree
    | some oT =>
      refine wpAny_bind (kdx_alive hT ?_)
      simp only [Option.isNone_some, Bool.false_eq_true, if_false]
      refine wpAny_bind (wpAny_field hz rfl (x := .bool f) rfl ?_)
      cases f with
      | true =>
        rw [if_neg (show ¬ ((Value.bool true != Value.bool true) = true) from Bool.false_ne_true)]
        exact wpAny_pure (hheld s.heap _ (.inr ⟨T, rfl⟩) hz (Heap.SameBut.refl _ _))
      | false =>
        rw [if_pos (show (Value.bool false != Value.bool true) = true from rfl)]
        exact wpAny_bind (wpAny_setField_rec hz (by simp) fun h₁ hz₁ hs₁ => wpAny_pure (hheld h₁ _ (.inr ⟨T, rfl⟩) hz₁ hs₁))
theorem zipH_item {Q : Value → Shared → Prop} (S : ZipSep2 z TI TO i1 i2 fp1 fp2) (D1 : Draws prog w A i1 fp1 n1 P1 St1) (D2 : Draws prog w A i2 fp2 n2 P2 St2)
    (hx : ZK x0) (hz : ZF s.heap z TI TO x0 f) (hTI : IsTupOf2 s.heap TI (.ref i1) (.ref i2)) (hTO : IsTupOf2 s.heap TO a1 a2) (st1 : St1 i s.heap) (st2 : St2 i s.heap) (hlt1 : i < n1) (hlt2 : i < n2)
    (hQ : ∀ x1 x2 h' tk, P1 i x1 → P2 i x2 → (∃ y g, ZK y ∧ ZF h' z TI TO y g) → (∃ b1 b2, IsTupOf2 h' TO b1 b2) → St1 (i + 1) h' → St2 (i + 1) h' → IsTupOf2 h' s.heap.objs.size x1 x2 →
      (∀ c o, c ≠ z → c ≠ TO → c ≠ i1 → c ≠ i2 → s.heap.get? c = some o → h'.get? c = some o) → Q (.ref s.heap.objs.size) { s with heap := h', toks := tk }) :
    wpAny (model prog w) A (Builtin.«zip.__next__» ⟨[.ref z], []⟩) (fun fin s' => ∃ v, fin = .done (.ret v) ∧ Q v s') E s := by
  obtain ⟨hp, g, d, tk0, os⟩ := s
  show wpAny _ _ (field (.ref z) 2 >>= _) _ _ _
  refine wpAny_bind (wpAny_field hz rfl (x := .bool false) rfl ?_)
  show wpAny _ _ (field (.ref z) 3 >>= _) _ _ _
  refine wpAny_bind (wpAny_field hz rfl (x := .ref TI) rfl ?_)
  refine wpAny_bind (wpAny_seqItems hTI rfl ?_)
  show wpAny _ _ (Builtin.SmallTypes.ownedTupleIsFree (.ref z) >>= _) _ _ _
  refine wpAny_bind (owned_zip hx hz ?_ fun h1 y hy hz1 hs1 => ?_)
  · simp only [if_true]
    refine wpAny_bind (wpAny_rule ?_)
    refine wpAny_bind (wpAny_field hz rfl (x := .ref TO) rfl ?_)
    refine wpAny_bind (wpAny_setField_rec hz (by simp) fun g0 hz0 hs0 => ?_)
    replace hz0 : ZF g0 z TI TO .ellipsis f := hz0
    replace hs0 : Heap.SameBut z hp g0 := hs0
    refine wpAny_bind ?_
    simp only [List.zipIdx_cons, List.zipIdx_nil, List.forIn_cons, List.forIn_nil]
    refine wpAny_bind (wpAny_bind (wpAny_onRaise ?_))
    show wpAny _ _ (Builtin.SmallTypes.nextOf (.ref i1) >>= _) _ _ ⟨g0, g, d, tk0, os⟩
    refine wpAny_bind (D1.item i _ _ _ hlt1 (D1.over st1 hs0 S.zf1) fun x1 p1 tk1 hx1 sn1 hp1 => wpAny_pure ?_)
    replace hp1 : Heap.SameBut i1 g0 p1 := hp1
    have hU1 : IsTupOf2 p1 TO a1 a2 := hp1.extBut _ _ S.Ti1 (hs0.extBut _ _ S.TOz hTO)
    refine wpAny_bind (wpAny_seqItems (s := ⟨p1, g, d, tk1, os⟩) hU1 rfl ?_)
    refine wpAny_bind (updateSeq_IsTupOf2 (s := ⟨p1, g, d, tk1, os⟩) hU1 fun g1 hT1 hs1 => ?_)
    replace hT1 : IsTupOf2 g1 TO x1 a2 := hT1
    replace hs1 : Heap.SameBut TO p1 g1 := hs1
    refine wpAny_bind (wpAny_letGo (wpAny_pure ?_))
    refine wpAny_bind (wpAny_bind (wpAny_onRaise ?_))
    show wpAny _ _ (Builtin.SmallTypes.nextOf (.ref i2) >>= _) _ _ ⟨g1, g, d, tk1, os⟩
    refine wpAny_bind (D2.item i _ _ _ hlt2 (D2.over (D2.over (D2.over st2 hs0 S.zf2) hp1 S.sep1_2) hs1 S.Tf2) fun x2 p2 tk2 hx2 sn2 hp2 => wpAny_pure ?_)
    replace hp2 : Heap.SameBut i2 g1 p2 := hp2
    have hU2 : IsTupOf2 p2 TO x1 a2 := hp2.extBut _ _ S.Ti2 hT1
    refine wpAny_bind (wpAny_seqItems (s := ⟨p2, g, d, tk2, os⟩) hU2 rfl ?_)
    refine wpAny_bind (updateSeq_IsTupOf2 (s := ⟨p2, g, d, tk2, os⟩) hU2 fun g2 hT2 hs2 => ?_)
    replace hT2 : IsTupOf2 g2 TO x1 x2 := hT2
    replace hs2 : Heap.SameBut TO p2 g2 := hs2
    refine wpAny_bind (wpAny_letGo (wpAny_pure (wpAny_pure ?_)))
    refine wpAny_bind (wpAny_seqItems (s := ⟨g2, g, d, tk2, os⟩) hT2 rfl ?_)
    refine wpAny_bind (wpAny_newTuple ?_)
    have hsz : g2.objs.size = hp.objs.size := by rw [hs2.1, hp2.1, hs1.1, hp1.1, hs0.1]
    have hzz : ZF g2 z TI TO .ellipsis f := (hs2.extBut _ _ S.TOz.symm (hp2.extBut _ _ S.zi2 (hs1.extBut _ _ S.TOz.symm (hp1.extBut _ _ S.zi1 hz0))))
    have hkk : ∀ c o, c ≠ z → c ≠ TO → c ≠ i1 → c ≠ i2 → hp.get? c = some o → g2.get? c = some o := fun c o cz cT c1 c2 e =>
      (hs2.extBut _ _ cT (hp2.extBut _ _ c2 (hs1.extBut _ _ cT (hp1.extBut _ _ c1 (hs0.extBut _ _ cz e)))))
    have hj1 : St1 (i + 1) g2 := (D1.over (D1.over (D1.over sn1 hs1 S.Tf1) hp2 S.sep2_1) hs2 S.Tf1)
    have hj2 : St2 (i + 1) g2 := (D2.over sn2 hs2 S.Tf2)
    have hzlt : z < g2.objs.size := Heap.lt_size hzz
    show wpAny _ _ (Builtin.SmallTypes.ownedTupleHandOut (.ref z) (.ref g2.objs.size) >>= _) _ _ ⟨g2.push { cls := .type "tuple", data := .seq #[x1, x2] }, g, d, tk2, os⟩
    refine wpAny_bind ?_
    unfold Builtin.SmallTypes.ownedTupleHandOut
    have hz6 : ZF (g2.push { cls := .type "tuple", data := .seq #[x1, x2] }) z TI TO .ellipsis f := Heap.get?_push_of_some _ hzz
    refine wpAny_bind (wpAny_setField_rec hz6 (by simp) fun h7 hz7 hs7 => ?_)
    replace hz7 : ZF h7 z TI TO (rawInt g2.objs.size) f := hz7
    refine wpAny_setField_rec hz7 (by simp) fun h8 hz8 hs8 => ?_
    replace hz8 : ZF h8 z TI TO (rawInt g2.objs.size) false := hz8
    replace hs7 : Heap.SameBut z (g2.push { cls := .type "tuple", data := .seq #[x1, x2] }) h7 := hs7
    replace hs8 : Heap.SameBut z h7 h8 := hs8
    have up : ∀ c o, c ≠ z → g2.get? c = some o → h8.get? c = some o := fun c o c1 e => hs8.extBut _ _ c1 (hs7.extBut _ _ c1 (Heap.get?_push_of_some _ e))
    have hT8 : IsTupOf2 h8 g2.objs.size x1 x2 := hs8.extBut _ _ (Nat.ne_of_gt hzlt) (hs7.extBut _ _ (Nat.ne_of_gt hzlt) (Heap.get?_push_size _ rfl))
    rw [hsz] at hz8 hT8
    refine wpAny_pure ⟨_, rfl, ?_⟩
    show Q (.ref g2.objs.size) ⟨h8, g, d, tk2, os⟩
    rw [hsz]
    exact hQ x1 x2 h8 tk2 hx1 hx2 ⟨_, _, .inr ⟨_, rfl⟩, hz8⟩ ⟨_, _, up _ _ S.TOz hT2⟩ (D1.frame _ _ _ hj1 fun b hb o e => up b o (fun q => S.zf1 (q ▸ hb)) e) (D2.frame _ _ _ hj2 fun b hb o e => up b o (fun q => S.zf2 (q ▸ hb)) e) hT8 fun c o cz cT c1 c2 e => up c o cz (hkk c o cz cT c1 c2 e)
  · replace hs1 : Heap.SameBut z hp h1 := hs1
    simp only [Bool.false_eq_true, if_false]
    refine wpAny_bind ?_
    rw [← Array.forIn_toList]
    simp only [List.forIn_cons, List.forIn_nil]
    refine wpAny_bind (wpAny_bind (wpAny_holding ?_))
    show wpAny _ _ (Builtin.SmallTypes.nextOf (.ref i1) >>= _) _ _ ⟨h1, g, d, tk0, os⟩
    refine wpAny_bind (D1.item i _ _ _ hlt1 (D1.over st1 hs1 S.zf1) fun x1 p1 tk1 hx1 sn1 hp1 => wpAny_pure ?_)
    replace hp1 : Heap.SameBut i1 h1 p1 := hp1
    refine wpAny_pure ?_
    refine wpAny_bind (wpAny_bind (wpAny_holding ?_))
    show wpAny _ _ (Builtin.SmallTypes.nextOf (.ref i2) >>= _) _ _ ⟨p1, g, d, tk1, os⟩
    refine wpAny_bind (D2.item i _ _ _ hlt2 (D2.over (D2.over st2 hs1 S.zf2) hp1 S.sep1_2) fun x2 p2 tk2 hx2 sn2 hp2 => wpAny_pure ?_)
    replace hp2 : Heap.SameBut i2 p1 p2 := hp2
    refine wpAny_pure (wpAny_pure ?_)
    show wpAny _ _ (newTuple [x1, x2] >>= _) _ _ _
    refine wpAny_bind (wpAny_newTuple ?_)
    have hsz : p2.objs.size = hp.objs.size := by rw [hp2.1, hp1.1, hs1.1]
    have hk : ∀ c o, c ≠ z → c ≠ i1 → c ≠ i2 → hp.get? c = some o → p2.get? c = some o := fun c o cz c1 c2 e => hp2.extBut _ _ c2 (hp1.extBut _ _ c1 (hs1.extBut _ _ cz e))
    have hzz : ZF p2 z TI TO y true := hp2.extBut _ _ S.zi2 (hp1.extBut _ _ S.zi1 hz1)
    have hj1 : St1 (i + 1) p2 := D1.over sn1 hp2 S.sep2_1
    have up : ∀ c o, p2.get? c = some o → (p2.push { cls := .type "tuple", data := .seq #[x1, x2] }).get? c = some o := fun c o e => Heap.get?_push_of_some _ e
    have hT8 : IsTupOf2 (p2.push { cls := .type "tuple", data := .seq #[x1, x2] }) p2.objs.size x1 x2 := Heap.get?_push_size _ rfl
    rw [hsz] at hT8
    refine wpAny_pure ⟨_, rfl, ?_⟩
    show Q (.ref p2.objs.size) ⟨p2.push { cls := .type "tuple", data := .seq #[x1, x2] }, g, d, tk2, os⟩
    rw [hsz]
    exact hQ x1 x2 _ tk2 hx1 hx2 ⟨_, _, hy, up _ _ hzz⟩ ⟨_, _, up _ _ (hk _ _ S.TOz S.Ti1 S.Ti2 hTO)⟩ (D1.frame _ _ _ hj1 fun b _ o e => up b o e) (D2.frame _ _ _ sn2 fun b _ o e => up b o e) hT8 fun c o cz cT c1 c2 e => up c o (hk c o cz c1 c2 e)
theorem zipH_end {Q : Fin → Shared → Prop} (S : ZipSep2 z TI TO i1 i2 fp1 fp2) (D1 : Draws prog w A i1 fp1 n1 P1 St1) (D2 : Draws prog w A i2 fp2 n2 P2 St2)
    (hx : ZK x0) (hz : ZF s.heap z TI TO x0 f) (hTI : IsTupOf2 s.heap TI (.ref i1) (.ref i2)) (hTO : IsTupOf2 s.heap TO a1 a2) (st1 : St1 i s.heap) (st2 : St2 i s.heap) (hle1 : i ≤ n1) (hle2 : i ≤ n2) (hend : i = n1 ∨ i = n2)
    (hE : ∀ h' tk e, (∀ c o, c ≠ z → c ≠ TO → c ≠ i1 → c ≠ i2 → s.heap.get? c = some o → h'.get? c = some o) → (∃ o, h'.get? e = some o ∧ o.cls = .type "StopIteration") → E (.ref e) { s with heap := h', toks := tk }) :
    wpAny (model prog w) A (Builtin.«zip.__next__» ⟨[.ref z], []⟩) Q E s := by
  obtain ⟨hp, g, d, tk0, os⟩ := s
  show wpAny _ _ (field (.ref z) 2 >>= _) _ _ _
  refine wpAny_bind (wpAny_field hz rfl (x := .bool false) rfl ?_)
  show wpAny _ _ (field (.ref z) 3 >>= _) _ _ _
  refine wpAny_bind (wpAny_field hz rfl (x := .ref TI) rfl ?_)
  refine wpAny_bind (wpAny_seqItems hTI rfl ?_)
  show wpAny _ _ (Builtin.SmallTypes.ownedTupleIsFree (.ref z) >>= _) _ _ _
  refine wpAny_bind (owned_zip hx hz ?_ fun h1 y hy hz1 hs1 => ?_)
  · simp only [if_true]
    refine wpAny_bind (wpAny_rule ?_)
    refine wpAny_bind (wpAny_field hz rfl (x := .ref TO) rfl ?_)
    refine wpAny_bind (wpAny_setField_rec hz (by simp) fun g0 hz0 hs0 => ?_)
    replace hz0 : ZF g0 z TI TO .ellipsis f := hz0
    replace hs0 : Heap.SameBut z hp g0 := hs0
    refine wpAny_bind ?_
    simp only [List.zipIdx_cons, List.zipIdx_nil, List.forIn_cons, List.forIn_nil]
    refine wpAny_bind (wpAny_bind (wpAny_onRaise ?_))
    show wpAny _ _ (Builtin.SmallTypes.nextOf (.ref i1) >>= _) _ _ ⟨g0, g, d, tk0, os⟩
    by_cases hlt1 : i < n1
    · refine wpAny_bind (D1.item i _ _ _ hlt1 (D1.over st1 hs0 S.zf1) fun x1 p1 tk1 hx1 sn1 hp1 => wpAny_pure ?_)
      replace hp1 : Heap.SameBut i1 g0 p1 := hp1
      have hU1 : IsTupOf2 p1 TO a1 a2 := hp1.extBut _ _ S.Ti1 (hs0.extBut _ _ S.TOz hTO)
      refine wpAny_bind (wpAny_seqItems (s := ⟨p1, g, d, tk1, os⟩) hU1 rfl ?_)
      refine wpAny_bind (updateSeq_IsTupOf2 (s := ⟨p1, g, d, tk1, os⟩) hU1 fun g1 hT1 hs1 => ?_)
      replace hT1 : IsTupOf2 g1 TO x1 a2 := hT1
      replace hs1 : Heap.SameBut TO p1 g1 := hs1
      refine wpAny_bind (wpAny_letGo (wpAny_pure ?_))
      have hi2 : i = n2 := by omega
      refine wpAny_bind (wpAny_bind (wpAny_onRaise ?_))
      show wpAny _ _ (Builtin.SmallTypes.nextOf (.ref i2) >>= _) _ _ ⟨g1, g, d, tk1, os⟩
      refine wpAny_bind (D2.done ⟨g1, g, d, tk1, os⟩ _ _ (by rw [← hi2]; exact (D2.over (D2.over (D2.over st2 hs0 S.zf2) hp1 S.sep1_2) hs1 S.Tf2)) fun q e hq he => ?_)
      replace hq : Heap.ExtBut i2 g1 q := hq
      obtain ⟨oe, hoe, hce⟩ := he
      replace hoe : q.get? e = some oe := hoe
      have hzq : ZF q z TI TO .ellipsis f := hq _ _ S.zi2 (hs1.extBut _ _ S.TOz.symm (hp1.extBut _ _ S.zi1 hz0))
      have hez : e ≠ z := fun x => by subst x; rw [hzq] at hoe; cases hoe; simp at hce
      refine wpAny_setField_rec (s := ⟨q, g, d, tk1, os⟩) hzq (by simp) fun q' _ hq' => ?_
      replace hq' : Heap.SameBut z q q' := hq'
      exact hE q' tk1 e (fun c o cz cT c1 c2 x => hq'.extBut _ _ cz (hq _ _ c2 (hs1.extBut _ _ cT (hp1.extBut _ _ c1 (hs0.extBut _ _ cz x))))) ⟨oe, hq'.extBut _ _ hez hoe, hce⟩
    · have hi1 : i = n1 := by omega
      refine wpAny_bind (D1.done ⟨g0, g, d, tk0, os⟩ _ _ (by rw [← hi1]; exact (D1.over st1 hs0 S.zf1)) fun q e hq he => ?_)
      replace hq : Heap.ExtBut i1 g0 q := hq
      obtain ⟨oe, hoe, hce⟩ := he
      replace hoe : q.get? e = some oe := hoe
      have hzq : ZF q z TI TO .ellipsis f := hq _ _ S.zi1 hz0
      have hez : e ≠ z := fun x => by subst x; rw [hzq] at hoe; cases hoe; simp at hce
      refine wpAny_setField_rec (s := ⟨q, g, d, tk0, os⟩) hzq (by simp) fun q' _ hq' => ?_
      replace hq' : Heap.SameBut z q q' := hq'
      exact hE q' tk0 e (fun c o cz cT c1 c2 x => hq'.extBut _ _ cz (hq _ _ c1 (hs0.extBut _ _ cz x))) ⟨oe, hq'.extBut _ _ hez hoe, hce⟩
  · replace hs1 : Heap.SameBut z hp h1 := hs1
    simp only [Bool.false_eq_true, if_false]
    refine wpAny_bind ?_
    rw [← Array.forIn_toList]
    simp only [List.forIn_cons, List.forIn_nil]
    refine wpAny_bind (wpAny_bind (wpAny_holding ?_))
    show wpAny _ _ (Builtin.SmallTypes.nextOf (.ref i1) >>= _) _ _ ⟨h1, g, d, tk0, os⟩
    by_cases hlt1 : i < n1
    · refine wpAny_bind (D1.item i _ _ _ hlt1 (D1.over st1 hs1 S.zf1) fun x1 p1 tk1 hx1 sn1 hp1 => wpAny_pure ?_)
      replace hp1 : Heap.SameBut i1 h1 p1 := hp1
      refine wpAny_pure ?_
      have hi2 : i = n2 := by omega
      refine wpAny_bind (wpAny_bind (wpAny_holding ?_))
      show wpAny _ _ (Builtin.SmallTypes.nextOf (.ref i2) >>= _) _ _ ⟨p1, g, d, tk1, os⟩
      refine wpAny_bind (D2.done ⟨p1, g, d, tk1, os⟩ _ _ (by rw [← hi2]; exact (D2.over (D2.over st2 hs1 S.zf2) hp1 S.sep1_2)) fun q e hq he => ?_)
      replace hq : Heap.ExtBut i2 p1 q := hq
      exact hE q tk1 e (fun c o cz cT c1 c2 x => hq _ _ c2 (hp1.extBut _ _ c1 (hs1.extBut _ _ cz x))) he
    · have hi1 : i = n1 := by omega
      refine wpAny_bind (D1.done ⟨h1, g, d, tk0, os⟩ _ _ (by rw [← hi1]; exact (D1.over st1 hs1 S.zf1)) fun q e hq he => ?_)
      replace hq : Heap.ExtBut i1 h1 q := hq
      exact hE q tk0 e (fun c o cz cT c1 c2 x => hq _ _ c1 (hs1.extBut _ _ cz x)) he
/-- for x in zip(v1, v2), x one name: each tuple is new -/
theorem goes_zipN {nm : String} {p : Pos} (S : ZipSep2 z TI TO i1 i2 fp1 fp2) (D1 : Draws prog w A.in1 i1 fp1 n1 P1 St1) (D2 : Draws prog w A.in1 i2 fp2 n2 P2 St2) :
    GoesN prog w A (.Name nm p) z (z :: TI :: TO :: (fp1 ++ fp2)) [z, TO, i1, i2] (min n1 n2) (fun i h₀ v h => ∃ T x y, v = .ref T ∧ h₀.objs.size ≤ T ∧ P1 i x ∧ P2 i y ∧ h.IsTuple T #[x, y])
      (fun i h => (∃ x f, ZK x ∧ ZF h z TI TO x f) ∧ IsTupOf2 h TI (.ref i1) (.ref i2) ∧ (∃ a1 a2, IsTupOf2 h TO a1 a2) ∧ St1 i h ∧ St2 i h) where
  sub := fun c hc => by
    have hc' : c = z ∨ c = TO ∨ c = i1 ∨ c = i2 := by simpa using hc
    rcases hc' with rfl | rfl | rfl | rfl
    · simp
    · simp
    · simp [S.mem1]
    · simp [S.mem2]
  frame := fun i h h' hst hk => by
    obtain ⟨⟨x, f, hx, hz⟩, hTI, ⟨a1, a2, hTO⟩, st1, st2⟩ := hst
    exact ⟨⟨x, f, hx, hk z (by simp) _ hz⟩, hk TI (by simp) _ hTI, ⟨a1, a2, hk TO (by simp) _ hTO⟩,
      D1.frame _ _ _ st1 fun b hb o e => hk b (by simp [hb]) o e, D2.frame _ _ _ st2 fun b hb o e => hk b (by simp [hb]) o e⟩
  goes := fun i s Q E hi hst hQ => by
    refine wpAny_with_toks (n := s.toks) (Nat.le_refl _) ?_
    obtain ⟨⟨x, f, hx, hz⟩, hTI, ⟨a1, a2, hTO⟩, st1, st2⟩ := hst
    have hT : s.TypeIs (.ref z) "zip" := ⟨_, hz, rfl⟩
    unfold pyNext
    refine wpAny_bind (wpAny_attempt (wpAny_callSpecial?_slot (name := Str.ofString "__next__") hT F.slot_zip_next
      (wpAny_call_entry F.slot_zip_next hT F.entry_zip_next
        (zipH_item S D1 D2 hx hz hTI hTO st1 st2 (by omega) (by omega) fun x1 x2 h' tk y1 y2 b1 b2 d1 d2 b5 hk => wpAny_pure ?_) (F.args_zip_next_1 _))))
    intro htk
    refine ⟨_, rfl, wpAny_pure (hQ _ h' tk ⟨_, x1, x2, rfl, Nat.le_refl _, y1, y2, ⟨_, b5, rfl, _, rfl⟩⟩ ⟨b1, hk _ _ S.TIz S.TITO S.TIi1 S.TIi2 hTI, b2, d1, d2⟩ (fun c o hc e => ?_) htk)⟩
    exact hk c o (fun x => hc (by simp [x])) (fun x => hc (by simp [x])) (fun x => hc (by simp [x])) (fun x => hc (by simp [x])) e
  stops := fun s Q E hst hQ => by
    refine wpAny_with_toks (n := s.toks) (Nat.le_refl _) ?_
    obtain ⟨⟨x, f, hx, hz⟩, hTI, ⟨a1, a2, hTO⟩, st1, st2⟩ := hst
    have hT : s.TypeIs (.ref z) "zip" := ⟨_, hz, rfl⟩
    unfold pyNext
    refine wpAny_bind (wpAny_attempt (wpAny_callSpecial?_slot (name := Str.ofString "__next__") hT F.slot_zip_next
      (wpAny_call_entry F.slot_zip_next hT F.entry_zip_next (zipH_end S D1 D2 hx hz hTI hTO st1 st2 (by omega) (by omega) (by omega) fun h' tk e hk he => ?_) (F.args_zip_next_1 _))))
    obtain ⟨o, ho, hc⟩ := he
    refine wpAny_bind (wpAny_isInstance (T := "StopIteration") (b := true) ⟨o, ho, hc⟩ isSubtype_stop ?_)
    refine wpAny_pure fun htk => ⟨rfl, hQ h' tk (fun c o hc e => ?_) htk⟩
    exact hk c o (fun x => hc (by simp [x])) (fun x => hc (by simp [x])) (fun x => hc (by simp [x])) (fun x => hc (by simp [x])) e
  self := fun i s Q E hst hQ => by
    obtain ⟨⟨x, f, hx, hz⟩, _⟩ := hst
    have hT : s.TypeIs (.ref z) "zip" := ⟨_, hz, rfl⟩
    refine wpAny_pyIter_slot hT F.slot_zip_iter (wpAny_call_entry F.slot_zip_iter hT F.entry_zip_iter ?_ (F.args_zip_iter_1 _))
    show wpAny _ _ (ret (.ref z)) _ _ s
    exact wpAny_pure ⟨_, rfl, "zip", _, hT, F.slot_zip_next.lookup, hQ⟩
end
/-! ### over the layer -/
/-- n pairs, each new -/
def Jp (n : Nat) (va vb : Nat → V) : It :=
  ⟨fun i _ => i < n, fun i H v H' => ∃ T, v = .ref T ∧ H T = none ∧ H' = upd H T (.tup [va i, vb i]), fun i _ => n ≤ i⟩
theorem turn_goes {P : Program} {w : World} {K : PySem.W.Frag} {tg : Expr} {it : Addr} {fp wr : List Addr} {n : Nat} {Y : Nat → Heap → Value → Heap → Prop} {St : Nat → Heap → Prop} {va vb : Nat → V}
    (mem : it ∈ fp) (obj : ∀ i h, St i h → ∀ b ∈ fp, ∃ o, h.get? b = some o ∧ ∀ v, o.data ≠ .cell v)
    (W : ∀ A : Around, A.handled = none → GoesN P w A tg it fp wr n Y St)
    (hself : ∀ (A : Around) (i : Nat) (s : Shared) (Q : Value → Shared → Prop) (E : Value → Shared → Prop), St i s.heap → Q (.ref it) s → wpAny (model P w) A (pyIter (.ref it)) Q E s)
    (hY : ∀ i h0 v h', i < n → Y i h0 v h' → ∃ T x y, v = .ref T ∧ h0.objs.size ≤ T ∧ h'.IsTuple T #[x, y] ∧ RelV (va i) x ∧ RelV (vb i) y) :
    Turn P w K tg (Jp n va vb) fp it (fun i h => i ≤ n ∧ St i h) where
  mem := mem
  obj := fun i h st => obj i h st.2
  keep := fun i h h' st k => ⟨st.1, (W {} rfl).frame i h h' st.2 k⟩
  item := by
    intro X hP hw hK hc i pins s σ H E I hf st hg
    subst hP hw hK
    have hlt : i < n := hg
    have G := W X.A (I.ok.hd hc)
    refine G.goes i s _ _ hlt st.2 fun v h' tk y st' hk _ => ?_
    obtain ⟨T, x, u, rfl, hT, ⟨o, ho, hcl, m, hd⟩, rx, ru⟩ := hY i _ _ _ hlt y
    have new : ObjOk X.prog X.w (upd H T (.tup [va i, vb i])) h' T (.tup [va i, vb i]) :=
      ⟨by show 2 ≤ sizeLine; decide, [x, u], .cons rx (.cons ru .nil), ⟨o, ho, hcl, m, hd⟩⟩
    have I1 : Inv X pins σ (upd H T (.tup [va i, vb i])) { s with heap := h', toks := tk } :=
      I.turnedNew (ch := wr) hk (fun b hb => hf b (G.sub b hb)) hT new
    refine ⟨.ref T, _, I1, rfl, ⟨T, rfl, I.hok.fresh hT, rfl⟩, ⟨hlt, st'⟩, fun b hb => ?_⟩
    obtain ⟨ob, hb', _⟩ := obj _ _ st.2 b hb
    rw [upd_ne (Nat.ne_of_lt (Nat.lt_of_lt_of_le (Heap.lt_size hb') hT))]
    exact (hf b hb).1
  done := by
    intro X hP hw hK hc i pins s σ H E I hf st hg
    subst hP hw hK
    have hin : i = n := Nat.le_antisymm st.1 hg
    subst hin
    have G := W X.A (I.ok.hd hc)
    exact G.stops s _ _ st.2 fun h' tk hk _ => I.turnedL (ch := wr) hk fun b hb => hf b (G.sub b hb)
  self := fun A i s Q E st h => hself A i s Q E st.2 h
def sgv (x : Str) (i : Nat) : V := .str ⟨#[x.cps.getD i 0]⟩
theorem signP_rel {x : Str} {i : Nat} {v : Value} (h : SignP x i v) : RelV (sgv x i) v := by
  obtain ⟨c, u, e, rfl⟩ := h
  refine ⟨u, ?_⟩
  rw [Array.getD_eq_getD_getElem?, e]
  rfl
theorem strIter_obj {h : Heap} {it : Addr} {n : String} {x : Str} {t : Tok} {i : Nat} (st : h.IsStrIter it n x t i) : ∃ o, h.get? it = some o ∧ ∀ v, o.data ≠ .cell v := by
  obtain ⟨o, ho, _, hd⟩ := st
  exact ⟨o, ho, fun v q => by rw [hd] at q; cases q⟩
/-- enumerate(text) -/
theorem turn_enumS {P : Program} {w : World} {K : PySem.W.Frag} {elts : List Expr} {kk : Nat} {tpos : Pos} (x : Str) (t : Tok) (e it : Addr) (hne : e ≠ it) :
    Turn P w K (.Tuple elts kk tpos) (Jp x.cps.size (fun i => .int (i : Nat)) (sgv x)) [e, it] e (fun i h => i ≤ x.cps.size ∧ (∃ old, IsEnum h e it (0 + (i : Int)) old) ∧ h.IsStrIter it (strIterType x) x t i) :=
  turn_goes (wr := [e, it]) (by simp) (fun i h st b hb => by
    obtain ⟨⟨old, he⟩, hi⟩ := st
    have e' : b = e ∨ b = it := by simpa using hb
    rcases e' with z | z
    · rw [z]; exact ⟨_, he, fun v q => nomatch q⟩
    · rw [z]; exact strIter_obj hi) (fun A hh => GoesN.enumFrom 0 (draws_text (A := A.in1) hh it x t) e hne (by simpa using hne) (by simp))
    (fun A i s Q E st h => by
      obtain ⟨⟨old, he⟩, _⟩ := st
      exact wpAny_pyIter_enum he h)
    fun i h0 v h' hi ⟨T, tk, y, e1, e2, e3, e4⟩ => ⟨T, _, y, e1, e2, e4, ⟨tk, by rw [Int.zero_add]⟩, signP_rel e3⟩
theorem turn_zipS {P : Program} {w : World} {K : PySem.W.Frag} {elts : List Expr} {kk : Nat} {tpos : Pos} {x y : Str} {t u : Tok} {z TI TO i1 i2 : Addr} (S : ZipSep2 z TI TO i1 i2 [i1] [i2]) :
    Turn P w K (.Tuple elts kk tpos) (Jp (min x.cps.size y.cps.size) (sgv x) (sgv y)) (z :: TI :: TO :: ([i1] ++ [i2])) z
      (fun i h => i ≤ min x.cps.size y.cps.size ∧ IsZip h z TI TO .none ∧ IsTupOf2 h TI (.ref i1) (.ref i2) ∧ (∃ a1 a2, IsTupOf2 h TO a1 a2) ∧ h.IsStrIter i1 (strIterType x) x t i ∧ h.IsStrIter i2 (strIterType y) y u i) :=
  turn_goes (wr := [z, TO, i1, i2]) (by simp) (fun i h st b hb => by
    obtain ⟨hz, hTI, ⟨a1, a2, hTO⟩, s1, s2⟩ := st
    have e' : b = z ∨ b = TI ∨ b = TO ∨ b = i1 ∨ b = i2 := by simpa using hb
    rcases e' with q | q | q | q | q
    · rw [q]; exact ⟨_, hz, fun v q => nomatch q⟩
    · rw [q]; exact ⟨_, hTI, fun v q => nomatch q⟩
    · rw [q]; exact ⟨_, hTO, fun v q => nomatch q⟩
    · rw [q]; exact strIter_obj s1
    · rw [q]; exact strIter_obj s2) (fun A hh => GoesN.zip2 S (draws_text (A := A.in1) hh i1 x t) (draws_text (A := A.in1) hh i2 y u))
    (fun A i s Q E st h => wpAny_pyIter_zip st.1 h)
    fun i h0 v h' hi ⟨T, a, b, e1, e2, e3, e4, e5⟩ => ⟨T, a, b, e1, e2, e5, signP_rel e3, signP_rel e4⟩
theorem turn_zipN {P : Program} {w : World} {K : PySem.W.Frag} {nm : String} {tpos : Pos} {x y : Str} {t u : Tok} {z TI TO i1 i2 : Addr} (S : ZipSep2 z TI TO i1 i2 [i1] [i2]) :
    Turn P w K (.Name nm tpos) (Jp (min x.cps.size y.cps.size) (sgv x) (sgv y)) (z :: TI :: TO :: ([i1] ++ [i2])) z
      (fun i h => i ≤ min x.cps.size y.cps.size ∧ (∃ x f, ZK x ∧ ZF h z TI TO x f) ∧ IsTupOf2 h TI (.ref i1) (.ref i2) ∧ (∃ a1 a2, IsTupOf2 h TO a1 a2) ∧ h.IsStrIter i1 (strIterType x) x t i ∧ h.IsStrIter i2 (strIterType y) y u i) :=
  turn_goes (wr := [z, TO, i1, i2]) (by simp) (fun i h st b hb => by
    obtain ⟨⟨_, _, _, hz⟩, hTI, ⟨a1, a2, hTO⟩, s1, s2⟩ := st
    have e' : b = z ∨ b = TI ∨ b = TO ∨ b = i1 ∨ b = i2 := by simpa using hb
    rcases e' with q | q | q | q | q
    · rw [q]; exact ⟨_, hz, fun v q => nomatch q⟩
    · rw [q]; exact ⟨_, hTI, fun v q => nomatch q⟩
    · rw [q]; exact ⟨_, hTO, fun v q => nomatch q⟩
    · rw [q]; exact strIter_obj s1
    · rw [q]; exact strIter_obj s2) (fun A hh => goes_zipN S (draws_text (A := A.in1) hh i1 x t) (draws_text (A := A.in1) hh i2 y u))
    (fun A i s Q E st h => by
      obtain ⟨⟨_, _, _, hz⟩, _⟩ := st
      have hT : s.TypeIs (.ref z) "zip" := ⟨_, hz, rfl⟩
      refine wpAny_pyIter_slot hT F.slot_zip_iter (wpAny_call_entry F.slot_zip_iter hT F.entry_zip_iter ?_ (F.args_zip_iter_1 _))
      show wpAny _ _ (ret (.ref z)) _ _ s
      exact wpAny_pure ⟨_, rfl, "zip", _, hT, F.slot_zip_next.lookup, h⟩)
    fun i h0 v h' hi ⟨T, a, b, e1, e2, e3, e4, e5⟩ => ⟨T, a, b, e1, e2, e5, signP_rel e3, signP_rel e4⟩
section
variable {X : Cx}
def iEnumS (ta : TA) : TI := fun σ H R => ta σ H fun vs H1 => ∃ x, vs = [.str x] ∧ R (Jp x.cps.size (fun i => .int (i : Nat)) (sgv x)) H1
def iZipS (ta : TA) : TI := fun σ H R => ta σ H fun vs H1 => ∃ x y, vs = [.str x, .str y] ∧ R (Jp (min x.cps.size y.cps.size) (sgv x) (sgv y)) H1
theorem pi_enumS {e : Expr} {ta : TA} {p pos tpos : Pos} {elts : List Expr} {kk : Nat} (hg : Gl X "enumerate") (hm : X.mg "enumerate" = none) (ha : PA X [e] ta) (hs : starEach [e] X.env = [(false, eval e X.env)] := by rfl) :
    PI X (.Tuple elts kk tpos) (.Call (.Name "enumerate" p) [e] [] pos) (iEnumS ta) := by
  refine ⟨fun pins s σ H R I h => ?_⟩
  refine Call_ (ld_blt I hg hm boot_enumerate (PyProof.Rows.callWith_type1 (thn (ha.run pos pins s σ H _ I h) fun us s1 ⟨vs, H1, I1, r1, q1⟩ => ?_) hs rfl))
  obtain ⟨x, ex, q⟩ := q1
  subst ex
  cases r1 with
  | cons r rr =>
    cases rr
    obtain ⟨t, rfl⟩ := r
    refine call_enumerate_str fun h' he hit hsz hk => wpAny_pyIter_enum he ?_
    have I2 : Inv X pins σ H1 { s1 with heap := h' } := I1.kept (t' := s1.toks) hk
    refine ⟨s1.heap.objs.size + 1, [s1.heap.objs.size + 1, s1.heap.objs.size], _, _, H1, rfl, I2, turn_enumS x t (s1.heap.objs.size + 1) s1.heap.objs.size (Nat.succ_ne_self _), ⟨Nat.zero_le _, ⟨.none, he⟩, hit⟩, fun b hb => ?_, q⟩
    have e' : b = s1.heap.objs.size + 1 ∨ b = s1.heap.objs.size := by simpa using hb
    have hle : s1.heap.objs.size ≤ b := by
      rcases e' with z | z
      · rw [z]; exact Nat.le_add_right _ _
      · rw [z]; exact Nat.le_refl _
    exact I1.fpOk hle (I1.hok.fresh hle)
theorem zip_start {pins : List (Addr × Obj)} {σ : L2.St} {H : Hp} {s : Shared} {x y : Str} {t u : Tok} {J : It} {tg : Expr} {R : It → Hp → Prop} {tn : Nat → Heap → Prop} {h' : Heap} (I1 : Inv X pins σ H s) (hk : ∀ c o, s.heap.get? c = some o → h'.get? c = some o)
    (T : Turn X.prog X.w X.K tg J ((s.heap.objs.size + 4) :: (s.heap.objs.size + 2) :: (s.heap.objs.size + 3) :: ([s.heap.objs.size] ++ [s.heap.objs.size + 1])) (s.heap.objs.size + 4) tn) (h0 : tn 0 h') (q : R J H) : PIE X pins σ tg R (.ref (s.heap.objs.size + 4)) { s with heap := h' } := by
  have I2 : Inv X pins σ H { s with heap := h' } := I1.kept (t' := s.toks) hk
  refine ⟨s.heap.objs.size + 4, _, _, _, H, rfl, I2, T, h0, fun c hcm => ?_, q⟩
  have e' : c = s.heap.objs.size + 4 ∨ c = s.heap.objs.size + 2 ∨ c = s.heap.objs.size + 3 ∨ c = s.heap.objs.size ∨ c = s.heap.objs.size + 1 := by simpa using hcm
  have hle : s.heap.objs.size ≤ c := by
    rcases e' with z | z | z | z | z
    · rw [z]; exact Nat.le_add_right _ _
    · rw [z]; exact Nat.le_add_right _ _
    · rw [z]; exact Nat.le_add_right _ _
    · rw [z]; exact Nat.le_refl _
    · rw [z]; exact Nat.le_add_right _ _
  exact I1.fpOk hle (I1.hok.fresh hle)
theorem pi_zipS {e e2 : Expr} {ta : TA} {p pos tpos : Pos} {elts : List Expr} {kk : Nat} (hg : Gl X "zip") (hm : X.mg "zip" = none) (ha : PA X [e, e2] ta)
    (hs : starEach [e, e2] X.env = (false, eval e X.env) :: starEach [e2] X.env := by rfl) (hpl : (backTo pos (starEach [e2] X.env)).any (·.1) = false := by rfl) :
    PI X (.Tuple elts kk tpos) (.Call (.Name "zip" p) [e, e2] [] pos) (iZipS ta) := by
  refine ⟨fun pins s σ H R I h => ?_⟩
  refine Call_ (ld_blt I hg hm PyProof.Rows.boot_zip (PyProof.Rows.callWith_type1 (thn (ha.run pos pins s σ H _ I h) fun us s1 ⟨vs, H1, I1, r1, q1⟩ => ?_) hs hpl))
  obtain ⟨x, y, ex, q⟩ := q1
  subst ex
  cases r1 with
  | cons r rr =>
    cases rr with
    | cons r' rr =>
      cases rr
      obtain ⟨t, rfl⟩ := r
      obtain ⟨u, rfl⟩ := r'
      refine zip_begins2 (PySem.begins_text x t) (PySem.begins_text y u) trivial trivial fun h' hz hTI hTO h1 h2 hsz hk => wpAny_pyIter_zip hz ?_
      exact zip_start (x := x) (y := y) (t := t) (u := u) I1 hk (turn_zipS (x := x) (y := y) (t := t) (u := u) (zip_sep2 (fp1 := []) (fp2 := []) (fun _ z => nomatch z) (fun _ z => nomatch z))) ⟨Nat.zero_le _, hz, hTI, ⟨_, _, hTO⟩, ⟨_, h1, rfl, rfl⟩, ⟨_, h2, rfl, rfl⟩⟩ q
theorem pi_zipN {e e2 : Expr} {ta : TA} {nm : String} {p pos tpos : Pos} (hg : Gl X "zip") (hm : X.mg "zip" = none) (ha : PA X [e, e2] ta)
    (hs : starEach [e, e2] X.env = (false, eval e X.env) :: starEach [e2] X.env := by rfl) (hpl : (backTo pos (starEach [e2] X.env)).any (·.1) = false := by rfl) :
    PI X (.Name nm tpos) (.Call (.Name "zip" p) [e, e2] [] pos) (iZipS ta) := by
  refine ⟨fun pins s σ H R I h => ?_⟩
  refine Call_ (ld_blt I hg hm PyProof.Rows.boot_zip (PyProof.Rows.callWith_type1 (thn (ha.run pos pins s σ H _ I h) fun us s1 ⟨vs, H1, I1, r1, q1⟩ => ?_) hs hpl))
  obtain ⟨x, y, ex, q⟩ := q1
  subst ex
  cases r1 with
  | cons r rr =>
    cases rr with
    | cons r' rr =>
      cases rr
      obtain ⟨t, rfl⟩ := r
      obtain ⟨u, rfl⟩ := r'
      refine zip_begins2 (PySem.begins_text x t) (PySem.begins_text y u) trivial trivial fun h' hz hTI hTO h1 h2 hsz hk => wpAny_pyIter_zip hz ?_
      exact zip_start (x := x) (y := y) (t := t) (u := u) I1 hk (turn_zipN (x := x) (y := y) (t := t) (u := u) (zip_sep2 (fp1 := []) (fp2 := []) (fun _ z => nomatch z) (fun _ z => nomatch z))) ⟨Nat.zero_le _, ⟨_, _, .inl rfl, hz⟩, hTI, ⟨_, _, hTO⟩, ⟨_, h1, rfl, rfl⟩, ⟨_, h2, rfl, rfl⟩⟩ q
end
end XS
set_option Elab.async false
set_option linter.all false
set_option maxRecDepth 100000
set_option maxHeartbeats 2000000
/-! Dicts with tuple keys: setdefault, items; a dict against {}. -/
namespace XS
open PySem PySem.Spec PyProof.Rows L2
section
variable {X : Cx}
def rSetdT : V → List V → Hp → VK → Prop := fun x xs H Q => ∃ (a : Addr) (kvs : List (List L2.Key × V)) (k : List L2.Key) (b : Addr) (d : V), x = .ref a ∧ xs = [.ref b, d] ∧ H a = some (.dT kvs) ∧ H b = some (.tup (k.map kV)) ∧ kvs.length < sizeLine ∧
  (∀ v, valV kvs k = some v → Q v H) ∧ (valV kvs k = none → Q d (upd H a (.dT (putK kvs k d))))
theorem mt_setdT (hu : X.A.units + 1 < cLine) : MtR X "dict.setdefault" rSetdT := by
  intro pins s σ H x xs v us Q I rx rxs h
  obtain ⟨a, kvs, k, b, d, rfl, rfl, ha, hb, hl, q1, q2⟩ := h
  cases rx
  obtain ⟨u1, u2, rfl, r1, r2⟩ := vals2 rxs
  cases r1
  obtain ⟨z, hd, xs', rel, dd⟩ := dt_of I.hok ha
  have hz : xs'.length ≤ sizeLine := by rw [← Paired.length rel]; exact z
  refine call_setdefault_heap (hsz := hz) (knd := tupleKind (mixKind X.prog X.w)) (tupleKind_room_in1 hu) (key_of I.hok hb) hd dd (fun p hp => ?_) fun hn h' dd' hs => ?_
  · have r := rel.val k
    rw [hp] at r
    obtain ⟨v0, ev, rv⟩ : ∃ v0, valV kvs k = some v0 ∧ RelV v0 p.2 := by
      cases ev : valV kvs k with
      | none =>
        rw [ev] at r
        exact (show False from r).elim
      | some v0 =>
        rw [ev] at r
        exact ⟨v0, rfl, r⟩
    show EP X pins σ Q p.2 _
    exact ⟨v0, H, I.tok _, rv, q1 v0 ev⟩
  · have r := rel.val k
    rw [hn] at r
    have e : valV kvs k = none := by
      cases ev : valV kvs k with
      | none => rfl
      | some v0 =>
        rw [ev] at r
        exact (show False from r).elim
    obtain ⟨q, es, ep, hq, h2, h3, h4, _, h5⟩ := dd'
    have hl2 : (putK kvs k d).length ≤ sizeLine := by have := length_putK kvs k d; omega
    have I2 : Inv X pins σ (upd H a (.dT (putK kvs k d))) { s with heap := h', toks := s.toks + (tupleKind (mixKind X.prog X.w)).draws k } := by
      refine d_write I (by rw [ha]; exact True.intro) hs ⟨q, hq⟩ ⟨hl2, hd, _, (rel.put k hb r2).keeps fun c ys ec => ?_, q, es, ep, hq, h2, h3, h4, h5⟩
      rw [upd_ne (ne_of ec ha (fun z => nomatch z))]
      exact ec
    show EP X pins σ Q u2 _
    exact ⟨d, _, I2, r2, q2 e⟩
end
/-! ### items -/
def ItiT (d : Addr) (o : Obj) (kvs : List (List L2.Key × V)) : It :=
  ⟨fun i H => H d = some (.frz o (.dT kvs)) ∧ i < kvs.length, fun i H x H' => ∃ T q k v, kvs[i]? = some (k, v) ∧ x = .ref T ∧ H T = none ∧ H q = some (.tup (k.map kV)) ∧ H' = upd H T (.tup [.ref q, v]), fun i H => H d = some (.frz o (.dT kvs)) ∧ kvs.length ≤ i⟩
section
variable {X : Cx} {pins : List (Addr × Obj)} {σ : L2.St} {H : Hp} {s : Shared} {d : Addr} {o : Obj}
theorem frzT2 {kvs : List (List L2.Key × V)} (I : Inv X pins σ H s) (h : H d = some (.frz o (.dT kvs))) :
    (d == sysModules) = false ∧ s.heap.get? d = some o ∧ o.ExactDict ∧ ∃ (es : Array DictEntry) (ep : Nat), o.data = .dict es ep ∧ es.size = kvs.length ∧
      ∀ (i : Nat) (k : List L2.Key) (v : V), kvs[i]? = some (k, v) → ∃ (en : DictEntry) (q : Addr), es[i]? = some en ∧ en.key = .ref q ∧ H q = some (.tup (k.map kV)) ∧ RelV v en.val := by
  obtain ⟨hd, z, hs, xs, pr, o', es, ep, ho, hx, hdt, he, _⟩ := I.hok d _ h
  rw [hd] at ho
  cases ho
  refine ⟨hs, hd, hx, es, ep, hdt, ?_, fun i k v e => ?_⟩
  · have l1 : es.size = xs.length := size_of_entries he
    have l2 : kvs.length = xs.length := Paired.length pr
    omega
  · obtain ⟨b, hb, e1, e2, e3⟩ := paired_get pr e
    have q := entry_at he i
    rw [hb] at q
    exact ⟨_, b.2.1, q, rfl, e2, e3⟩
end
section
variable {P : Program} {w : World} {K : PySem.W.Frag} {d : Addr} {o : Obj} {es : Array DictEntry} {ep : Nat}
theorem turn_itemsT {kvs : List (List L2.Key × V)} {elts : List Expr} {kk : Nat} {tpos : Pos} (it : Addr) (hod : o.data = .dict es ep) :
    Turn P w K (.Tuple elts kk tpos) (ItiT d o kvs) [it] it (fun i h => ∃ ok ov, IsItemIter h it d i es.size ep ok ov) where
  mem := by simp
  obj := fun i h st b hb => by
    have e : b = it := by simpa using hb
    subst e
    obtain ⟨ok, ov, e⟩ := st
    exact ⟨_, e, fun v z => nomatch z⟩
  keep := fun i h h' st k => let ⟨ok, ov, e⟩ := st; ⟨ok, ov, k it (by simp) _ e⟩
  item := by
    intro X hP hw hK hc i pins s σ H E I hf st hg
    subst hP hw hK
    obtain ⟨hd, hi⟩ := hg
    obtain ⟨hs, hgd, hx, es', ep', hdt, hsz, ent⟩ := frzT2 I hd
    obtain ⟨rfl, rfl⟩ := dict_ep hod hdt
    obtain ⟨⟨k, v⟩, hkv⟩ : ∃ p, kvs[i]? = some p := ⟨kvs[i], List.getElem?_eq_getElem hi⟩
    obtain ⟨en, q, hen, ek, hq, ru⟩ := ent i k v hkv
    obtain ⟨ok, ov, he⟩ := st
    have hlt : it < s.heap.objs.size := Heap.lt_size he
    have hi2 : i < es'.size := by omega
    have een : es'[i] = en := by
      rw [Array.getElem?_eq_getElem hi2] at hen
      exact Option.some.inj hen
    refine DT.nextI he ⟨o, hgd, hx, hdt⟩ hi2 fun h' ho hT hz hk => ?_
    refine ⟨_, rfl, wpAny_letOwnedTupleGo_items (s := { s with heap := h' }) ho fun h'' he' sb => ?_⟩
    have hT2 : h''.get? s.heap.objs.size = some { cls := .type "tuple", data := .seq #[es'[i].key, es'[i].val] } := (sb.2 _ (Nat.ne_of_gt hlt)).trans hT
    rw [een, ek] at hT2
    have new : ObjOk X.prog X.w (upd H s.heap.objs.size (.tup [.ref q, v])) h'' s.heap.objs.size (.tup [.ref q, v]) :=
      ⟨by show 2 ≤ sizeLine; decide, [.ref q, en.val], .cons rfl (.cons ru .nil), ⟨_, hT2, rfl, _, rfl⟩⟩
    have I1 : Inv X pins σ (upd H s.heap.objs.size (.tup [.ref q, v])) { s with heap := h'' } :=
      I.turnedNew (t' := s.toks) (ch := [it]) (fun b ob hb e => (sb.2 b (by simpa using hb)).trans (hk b ob (by simpa using hb) e)) hf (Nat.le_refl _) new
    refine ⟨.ref s.heap.objs.size, _, I1, rfl, ⟨_, q, k, v, hkv, rfl, I.hok.fresh (Nat.le_refl _), hq, rfl⟩, ⟨_, _, he'⟩, fun b hb => ?_⟩
    have e : b = it := by simpa using hb
    rw [e, upd_ne (Nat.ne_of_lt hlt)]
    exact (hf it (by simp)).1
  done := by
    intro X hP hw hK hc i pins s σ H E I hf st hg
    subst hP hw hK
    obtain ⟨hd, hi⟩ := hg
    obtain ⟨f0, f1, f2, f3, f4, f5⟩ := hf it (by simp)
    obtain ⟨hs, hgd, hx, es', ep', hdt, hsz, ent⟩ := frzT2 I hd
    obtain ⟨rfl, rfl⟩ := dict_ep hod hdt
    obtain ⟨ok, ov, he⟩ := st
    exact DT.endI (I.ok.hd hc) he ⟨o, hgd, hx, hdt⟩ (by omega) fun h' eb => ⟨rfl, I.turned (t' := s.toks) (fun b ob hb e => eb b ob hb e) f0 f1 f3 f4 f5⟩
  self := fun A i s Q E st h => let ⟨_, _, e⟩ := st; PySem.W.kcp_self e h
end
section
variable {X : Cx} {tg e : Expr} {td : TE} {apos cpos : Pos}
def iItemsT (td : TE) : TI := fun σ H R => td σ H fun x H1 => ∃ d o kvs, x = .ref d ∧ H1 d = some (.frz o (.dT kvs)) ∧ R (ItiT d o kvs) H1
theorem pi_itemsT {elts : List Expr} {kk : Nat} {tpos : Pos} (he : PE X e td) (hbase : attributeBase e "items" X.env (eval e X.env) = eval e X.env := by rfl) (hline : (apos.endLine == cpos.line) = true := by rfl) :
    PI X (.Tuple elts kk tpos) (.Call (.Attribute e "items" apos) [] [] cpos) (iItemsT td) := by
  refine ⟨fun pins s σ H R I h => ?_⟩
  refine wpAny_Call_method (T := "dict") (id := "dict.items") hbase rfl hline F.plainAttrs_dict F.slot_dict_items F.type_dict_items (thn (he.run pins s σ H _ I h) fun u s1 ⟨x, H1, I1, rx, d, o, kvs, ex, hd, q⟩ => ?_)
  subst ex
  obtain rfl : u = Value.ref d := rx
  obtain ⟨hs, hgd, hx, es, ep, hdt, hsz, ent⟩ := frzT2 I1 hd
  have raw : DT.Raw s1.heap d es ep := ⟨o, hgd, hx, hdt⟩
  refine ⟨raw.typeIs, fun a ea => (by cases ea; exact ⟨o, hgd, hx.2.1⟩), ?_⟩
  have I2 : Inv X pins σ H1 { s1 with heap := s1.heap.push { cls := .type "dict_items", data := .fields #[.ref d] } } := I1.kept (t' := s1.toks) fun b ob q => Heap.get?_push_of_some _ q
  have fin : wpAny (model X.prog X.w) X.A (pyIter (.ref s1.heap.objs.size)) (PIE X pins σ (.Tuple elts kk tpos) R) X.xe { s1 with heap := s1.heap.push { cls := .type "dict_items", data := .fields #[.ref d] } } := by
    refine DT.iterI (d := d) (es := es) (ep := ep) ⟨_, Heap.get?_push_size _ rfl, rfl, rfl⟩ (raw.push _) (pi_one (tk := s1.toks) I2 _ (turn_itemsT _ hdt) ⟨.none, .none, ?_⟩ q)
    exact Heap.get?_push_size _ rfl
  show wpAny _ _ (callWith cpos (.builtin "dict.items") [.ref d] [] []) _ X.xe s1
  exact method_meetsIn F.slot_dict_items F.entry_dict_items rfl (PySem.evalArgs_none ⟨rfl, raw.typeIs, F.args_dict_items_1 _, _, DT.meetsItems (es := es) (ep := ep) hs, raw, fin⟩)
/-- d != {} -/
theorem op_neNone (hu : X.A.units < cLine) : OpR X (compareOp .NotEq) (fun x y H Q => ∃ (a b : Addr) (kvs : List (L2.Key × V)), x = .ref a ∧ y = .ref b ∧ H a = some (.dK kvs) ∧ H b = some (.dK []) ∧ Q (.bl (!kvs.isEmpty)) H) := by
  intro pins s σ H x y v u Q I rx ry h
  obtain ⟨a, b, kvs, rfl, rfl, ha, hb, q⟩ := h
  cases rx
  cases ry
  obtain ⟨z, hd, vs, rel, dd⟩ := dk_of I.hok ha
  obtain ⟨z2, hd2, vs2, rel2, dd2⟩ := dk_of I.hok hb
  have e2 : vs2 = [] := List.eq_nil_of_length_eq_zero (by rw [← rel2.length]; rfl)
  subst e2
  have hl : kvs.length = vs.length := rel.length
  refine PySem.W.keq_ne (r := true) hd hd2 dd dd2 hu (fun e => ?_) ?_
  · have : vs = [] := List.eq_nil_of_length_eq_zero e
    rw [this]
    exact .nil
  · have e : (!((vs.length == ([] : List (L2.Key × Value)).length) && true)) = !kvs.isEmpty := by
      cases kvs with
      | nil => rw [List.eq_nil_of_length_eq_zero (show vs.length = 0 by rw [← hl]; rfl)]; rfl
      | cons p r =>
        cases vs with
        | nil => cases hl
        | cons _ _ => rfl
    exact ⟨.bl _, H, I, (by rw [e]; rfl), q⟩
end
end XS
set_option Elab.async false
set_option linter.all false
set_option maxRecDepth 100000
set_option maxHeartbeats 2000000
/-! sorted of a list of pairs of texts -/
namespace XS
open PySem PySem.Spec PyProof.Rows L2
section
variable {X : Cx}
def rSortL2 (K : PySem.W.Frag) : List V → Hp → VK → Prop := fun vs H Q => ∃ (a : Addr) (bs : List Addr), vs = [V.ref a] ∧ SqL K H a (bs.map V.ref) ∧ bs.length ≤ 1000 ∧ (∀ b ∈ bs, ∃ x y : Str, SqT K H b [.str x, .str y]) ∧
  ∀ (N : List Addr) (p : Addr), N.Perm bs → H p = none → Q (.ref p) (upd H p (.lst (N.map V.ref)))
theorem cr_sortL2 (hu : X.A.units + 64 < cLine) : CallR X (.builtin "sorted") (rSortL2 X.K) := by
  intro pins s σ H vs us Q I r h
  obtain ⟨a, bs, rfl, ha, hl, h2, q⟩ := h
  rw [Vals.ref1 r]
  obtain ⟨its, rv, p1, hz⟩ := I.list ha
  have ei : its = bs.map Value.ref := by
    clear p1 hz ha h2 hl q
    induction bs generalizing its with
    | nil => cases rv; rfl
    | cons b bs ih =>
      rw [List.map_cons] at rv
      cases rv with
      | cons r1 r2 =>
        cases r1
        rw [List.map_cons, ih _ r2]
  have rd : ∀ v : Value, ∃ p : Str × Str, v ∈ its → Reads s.heap v (.tuple [.str p.1, .str p.2]) [] := fun v => by
    by_cases hv : v ∈ its
    · rw [ei] at hv
      obtain ⟨b, hb, e⟩ := List.mem_map.mp hv
      obtain ⟨x, y, hq⟩ := h2 b hb
      refine ⟨(x, y), fun _ => ?_⟩
      rw [← e]
      obtain ⟨its2, r2, ⟨o, ho, hc, n, hd⟩, _⟩ := I.tuple hq
      refine .tuple ho hc hd ?_
      cases r2 with
      | cons r3 r4 =>
        cases r4 with
        | cons r5 r6 =>
          cases r6
          obtain ⟨t, rfl⟩ := r3
          obtain ⟨t', rfl⟩ := r5
          exact .cons (as := []) (bs := []) (.str x t) (.cons (as := []) (bs := []) (.str y t') .nil)
    · exact ⟨(Str.empty, Str.empty), fun z => absurd z hv⟩
  obtain ⟨f, hf⟩ := Classical.skolem.mp rd
  have hlen : its.length = bs.length := by rw [ei, List.length_map]
  refine PySem.W.sorted_data (R := fun v b => v = b) (vs := its) (bs := its) (enc := fun v => PyData.tuple [.str (f v).1, .str (f v).2]) p1.isList (each_self fun v _ => rfl) (each_self fun v hv => ⟨[], hf v hv⟩) ?_ ?_ (by rw [hlen, sizeLine_eq]; omega) (fun b _ => ?_) fun out ho he => ?_
  · intro d hd d' hd'
    obtain ⟨v, _, rfl⟩ := List.mem_map.mp hd
    obtain ⟨v', _, rfl⟩ := List.mem_map.mp hd'
    simp [PySem.W.alike, PySem.W.alikeAll]
  · exact .inl fun d hd => by
      obtain ⟨v, _, rfl⟩ := List.mem_map.mp hd
      exact ⟨_, _, rfl⟩
  · have : (PyData.tuple [.str (f b).1, .str (f b).2]).depth ≤ 2 := by simp [PyData.depth, PyData.depthAll]
    omega
  · have eo : out = its.mergeSort (PySem.W.dataLe false fun v => PyData.tuple [.str (f v).1, .str (f v).2]) := each_eq (fun _ _ q => q) he
    have ps : out.Perm its := by rw [eo]; exact List.mergeSort_perm _ _
    have ord : ∃ N : List Addr, out = N.map Value.ref := by
      have all : ∀ v ∈ out, ∃ b, v = Value.ref b := fun v hv => by
        have z := ps.mem_iff.mp hv
        rw [ei] at z
        obtain ⟨b, _, e⟩ := List.mem_map.mp z
        exact ⟨b, e.symm⟩
      clear ho he eo ps
      induction out with
      | nil => exact ⟨[], rfl⟩
      | cons v l ih =>
        obtain ⟨N, e⟩ := ih fun u hu' => all u (List.mem_cons_of_mem _ hu')
        obtain ⟨b, e2⟩ := all v List.mem_cons_self
        exact ⟨b :: N, by rw [e, e2]; rfl⟩
    obtain ⟨N, rfl⟩ := ord
    have pN : N.Perm bs := by
      rw [ei] at ps
      have q2 := ps.map fun v : Value => match v with
        | .ref b => b
        | _ => 0
      rw [List.map_map, List.map_map] at q2
      have e : ((fun v : Value => match v with | .ref b => b | _ => 0) ∘ Value.ref) = (id : Addr → Addr) := by funext c; rfl
      rw [e, List.map_id, List.map_id] at q2
      exact q2
    obtain ⟨c, hc⟩ := sortedAll_at s.heap its (N.map Value.ref).toArray
    have hp : s.heap.objs.size ≤ s.heap.objs.size + 1 := Nat.le_succ _
    have hn : H (s.heap.objs.size + 1) = none := I.hok.fresh hp
    have hv : Vals (N.map V.ref) (N.map Value.ref) := by
      have all : ∀ l : List Addr, Vals (l.map V.ref) (l.map Value.ref) := fun l => by
        induction l with
        | nil => exact .nil
        | cons a l ih => exact .cons rfl ih
      exact all N
    have hlen2 : (N.map V.ref).length ≤ sizeLine := by
      rw [List.length_map, pN.length_eq, sizeLine_eq]
      omega
    have J : Inv X pins σ (upd H (s.heap.objs.size + 1) (.lst (N.map V.ref))) { s with heap := sortedAll s.heap its (N.map Value.ref).toArray } :=
      I.laid (t' := s.toks) (fun b o e => sortedAll_old e) hp ⟨hlen2, _, c, hv, hc⟩
    exact ⟨.ref _, _, J, rfl, q N _ pN hn⟩
end
end XS
set_option Elab.async false
set_option linter.all false
set_option maxRecDepth 100000
set_option maxHeartbeats 2000000
/-! xs.extend(a tuple) -/
namespace PySem
open Sem (wp)
open AutoSeq1 (wpAny_loadPart')
theorem ext_tup (l : Addr) (items : Array Value) (n : Nat) (b : Addr) (items2 : Array Value) (n2 : Nat) (dct : Option Addr) (sl : Array (Option Value)) (hs0 : ¬(!items.isEmpty && Builtin.List.listTooLong (items.size + items2.size)) = true) (hs1 : items.size ≤ sizeLine) (hs2 : items.size + items2.size ≤ sizeLine + 1) :
    Meets (Builtin.«list.extend» ⟨[.ref l, .ref b], []⟩) (fun _ R s => s.heap.get? l = some { cls := .type "list", dict := none, data := .seq items n, slots := #[] } ∧ s.heap.get? b = some { cls := .type "tuple", dict := dct, data := .seq items2 n2, slots := sl } ∧ R (.ok (.ret Value.none)) { s with heap := s.heap.update l (Obj.mapSeq fun x => x ++ items2), toks := s.toks }) :=
  .of_wp fun prog w A R s h => by
    obtain ⟨hp, g, d, tk, os⟩ := s; obtain ⟨hl, hb, h⟩ := h; have f1 := AutoSeq1.idx_int; have f2 := AutoSeq1.sub_tuple_tuple; have f3 := AutoSeq1.sub_list_list; have f4 := AutoSeq1.sub_tuple_list; have f5 := AutoSeq1.sub_list_tuple;
    have hz' : (items ++ items2).size ≤ sizeLine + 1 := by rw [Array.size_append]; exact hs2
    wp_walk using (wpAny_updateSeq hl rfl (hz := hs1) (_hz' := hz')), wpAny_loadPart' hl, wpAny_loadPart' hb; exact ⟨_, rfl, h⟩
end PySem
namespace XS
open PySem PySem.Spec PyProof.Rows L2
section
variable {X : Cx}
def rExtT (K : PySem.W.Frag) : V → List V → Hp → VK → Prop := fun x vs H Q => ∃ l b xs zs, x = .ref l ∧ vs = [.ref b] ∧ H l = some (.lst xs) ∧ SqT K H b zs ∧ xs.length + zs.length ≤ sizeLine ∧ Q .non (upd H l (.lst (xs ++ zs)))
theorem mt_extT : MtM X "list.extend" (rExtT X.K) := by
  intro pins s σ H x vs v us Q I rx rv h
  obtain ⟨l, b, xs, zs, rfl, rfl, hH, hB, hz, q⟩ := h
  cases rx
  obtain ⟨u, rfl, ru⟩ := rv.one
  cases ru
  obtain ⟨z, its, n, r, hl, e⟩ := I.lstM hH
  obtain ⟨its2, r2, ⟨o, ho, hc, n2, hd⟩, _⟩ := I.tuple hB
  have hl2 := r2.length
  have hsz : its.toArray.size + its2.toArray.size ≤ sizeLine := by rw [List.size_toArray, List.size_toArray]; omega
  have hlong : ¬ (!its.toArray.isEmpty && Builtin.List.listTooLong (its.toArray.size + its2.toArray.size)) = true := by
    rw [notLongL hsz, Bool.and_false]
    exact Bool.false_ne_true
  obtain ⟨oc, od, dt, sl⟩ := o
  simp only at hc hd
  subst hc hd
  refine call_meets F.slot_list_extend ⟨_, e, rfl⟩ F.entry_list_extend (F.args_list_extend_2 _ _)
    (ext_tup l its.toArray n b its2.toArray n2 od sl hlong (by rw [List.size_toArray]; omega) (by omega)) ⟨e, ho, ?_⟩
  refine ⟨.non, _, I.lset (its' := its ++ its2) hH e (by simp) (r.append r2) ?_, rfl, q⟩
  rw [List.length_append]
  omega
end
end XS
set_option Elab.async false
set_option linter.all false
set_option maxRecDepth 100000
/-! The text by places, promises of defs, walks over texts. -/
namespace MO
open PySem PySem.Spec PyProof.Rows L2 XS
def top (i : Nat) : Stmt := PySem.Challenge.pw_mustoccur_k28_whole_chains_of_long_patte.main.body.getD i (.Pass ⟨0, 0, 0, 0⟩)
/-- built-ins that stand as they were -/
structure Bt (mg : Str → Option Value) : Prop where
  isinstance : mg "isinstance" = none
  int : mg "int" = none
  bool : mg "bool" = none
  tuple : mg "tuple" = none
  str : mg "str" = none
  dict : mg "dict" = none
  list : mg "list" = none
  len : mg "len" = none
  all : mg "all" = none
  any : mg "any" = none
  sorted : mg "sorted" = none
  zip : mg "zip" = none
  enumerate : mg "enumerate" = none
  range : mg "range" = none
  set : mg "set" = none
  abs : mg "abs" = none
  min : mg "min" = none
/-- the modules' constants -/
structure Cn (mg : Str → Option Value) : Prop where
  maxLetter : ∃ t, mg "MAX_LETTER" = some (.int 999999 t)
  maxText : ∃ t, mg "MAX_TEXT" = some (.int 4096 t)
  maxPattern : ∃ t, mg "MAX_PATTERN" = some (.int 40 t)
  maxVariables : ∃ t, mg "MAX_VARIABLES" = some (.int 8 t)
  maxCount : ∃ t, mg "MAX_COUNT" = some (.int 12 t)
  alphabet : ∃ t, mg "ALPHABET" = some (.str "abcdefghijklmnopqrstuvwxyz" t)
  left : ∃ t, mg "LEFT" = some (.str "left" t)
  right : ∃ t, mg "RIGHT" = some (.str "right" t)
/-- a def of the text as the top has left it -/
def Pl (K : PySem.W.Frag) (mg : Str → Option Value) (x : Str) (st : Stmt) : Prop := ∃ f fd, Fun K x x st f fd ∧ mg x = some (.ref f)
/-- a def with its promise, ready to be called -/
def Dn (P : Program) (w : World) (K : PySem.W.Frag) (mg : Str → Option Value) (base : Heap) (k : Nat) (x : Str) (ps : List Str) (sp : Sp) : Prop :=
  ∃ f fd, mg x = some (.ref f) ∧ PySem.W.keepIn K (.ref f) = true ∧ Binds K fd ps [] ∧ FnOk P w K mg base CX0 k f fd ps sp
section
variable {P : Program} {w : World} {K : PySem.W.Frag} {mg : Str → Option Value} {base : Heap}
theorem Pl.dn {x : Str} {st : Stmt} {N ps : List Str} {k : Nat} {sp : Sp} (p : Pl K mg x st) (S : FnScope N ps (defScope st))
    (b : ∀ (kV doc pm : Value) (an : Option Addr) (cdv ct : Value) (us : List Value), us.length = ps.length → bindArgs (PySem.W.fnOf x x (defArgs st) (defBody st) (defScope st) .none kV doc pm an cdv ct) ⟨us, []⟩ = pure (ps.zip us))
    (len : ∀ vs H Q E, sp vs H Q E → vs.length = ps.length)
    (hbody : ∀ (f : Addr) (cdv : Value) (A : Around) (outer : List Env) (s : Shared) (H : Hp) (vs : List V) (Q : VK) (E : XK), Room k (A.deeper (envOfC x (defScope st) s.heap.objs.size f cdv)) → sp vs H Q E →
      ∃ t, PSs (cxOf CX0 P w K mg base N x (defScope st) f cdv A outer s H E).nox (defBody st) t ∧ t { nx := fun _ H' => Q .non H', rt := Q } (start N vs) H) : Dn P w K mg base (k + 1) x ps sp := by
  obtain ⟨f, fd, F, g⟩ := p
  exact ⟨f, fd, g, F.kp, F.binds b, F.ok S len (hbody f)⟩
end
theorem pe_dn {X : Cx} {k : Nat} {x : Str} {ps : List Str} {sp : Sp} {e : Expr} {es : List Expr} {t : TA} {p pos : Pos} (D : Dn X.prog X.w X.K X.mg X.base k x ps sp) (hr : Room k X.A) (ha : PA X (e :: es) t) (hg : Gl X x := by rfl)
    (hdb : (x == ("__debug__" : Str)) = false := by decide) (he : starEach (e :: es) X.env = (false, eval e X.env) :: starEach es X.env := by rfl) (hpl : (backTo pos (starEach es X.env)).any (·.1) = false := by rfl) :
    PE X (.Call (.Name x p) (e :: es) [] pos) (tCall sp [] E0 t) := by
  obtain ⟨f, fd, h1, h2, h3, h4⟩ := D
  exact pe_call h4 hr hg h1 h2 h3 .nil pass0 ha hdb he hpl
theorem pe_gint {X : Cx} {x : Str} {i : Int} {pos : Pos} (hg : Gl X x) (hm : ∃ t, X.mg x = some (.int i t)) (hd : (x == ("__debug__" : Str)) = false := by decide) : PE X (.Name x pos) (tC (.int i)) := by
  obtain ⟨t, h⟩ := hm
  exact pe_glob hg h ⟨t, rfl⟩ hd
theorem pe_gstr {X : Cx} {x y : Str} {pos : Pos} (hg : Gl X x) (hm : ∃ t, X.mg x = some (.str y t)) (hd : (x == ("__debug__" : Str)) = false := by decide) : PE X (.Name x pos) (tC (.str y)) := by
  obtain ⟨t, h⟩ := hm
  exact pe_glob hg h ⟨t, rfl⟩ hd
/-! ### texts as lists of signs -/
abbrev tx (cs : List Nat) : Str := ⟨cs.toArray⟩
abbrev sg (c : Nat) : Str := ⟨#[c]⟩
theorem tx_len (cs : List Nat) : (tx cs).length = cs.length := by show cs.toArray.size = cs.length; simp
theorem tx_size (cs : List Nat) : (tx cs).cps.size = cs.length := by show cs.toArray.size = cs.length; simp
theorem tx_inj {a b : List Nat} (h : tx a = tx b) : a = b := by
  injection h with h
  exact List.toArray_inj h
theorem sg_inj {a b : Nat} (h : sg a = sg b) : a = b := by
  injection h with h
  injection h with h
  injection h
theorem tx_eq (x : Str) : x = tx x.cps.toList := by cases x; simp [tx]
theorem str_inj {a b : Str} : V.str a = V.str b ↔ a = b := ⟨fun h => by injection h, fun h => by rw [h]⟩
theorem walk_tx {cs : List Nat} : Walk (Its (tx cs)) cs.length (fun _ => True) (fun i H v H' => H' = H ∧ ∃ c, cs[i]? = some c ∧ v = .str (sg c)) := by
  have h := walk_str (z := tx cs)
  rw [tx_size] at h
  refine h.mono (fun _ h => h) fun i H x H' _ _ y => ?_
  obtain ⟨e, c, h1, h2⟩ := y
  exact ⟨e, c, by simpa using h1, h2⟩
theorem join_sg (cs : List Nat) : Txt.join (tx []) (cs.map sg) = tx cs := by
  have key : ∀ cs : List Nat, TL.joinL [] (cs.map fun c => [c]) = cs := by
    intro cs
    induction cs with
    | nil => rfl
    | cons c r ih =>
      cases r with
      | nil => rfl
      | cons d r =>
        show [c] ++ ([] ++ TL.joinL [] ((d :: r).map fun c => [c])) = _
        rw [ih]
        rfl
  have h := TL.tl_join (tx []) (cs.map sg)
  rw [TL.join_eq]
  have e : (cs.map sg).map TL.tl = cs.map fun c => [c] := by rw [List.map_map]; rfl
  rw [e, show TL.tl (tx []) = [] from rfl, key] at h
  rw [tx_eq (Str.join _ _)]
  exact congrArg tx h
theorem sg_lens : ∀ cs : List Nat, ((cs.map sg).map (·.length)).sum = cs.length
  | [] => rfl
  | c :: r => by
    rw [List.map_cons, List.map_cons, List.sum_cons, sg_lens r]
    show 1 + r.length = r.length + 1
    omega
theorem join_room {cs : List Nat} (h : cs.length ≤ 16777216) : ((cs.map sg).map (·.length)).sum + (cs.map sg).length * (tx []).length ≤ 16777216 := by
  rw [sg_lens]
  show cs.length + (cs.map sg).length * 0 ≤ 16777216
  omega
/-! ### a comprehension that leaves all as it was -/
section
variable {α : Type} {J : It} {G : Hp → Prop} {Y : Nat → Hp → V → Hp → Prop} {g : TG} {tt : TT} {te : TE} {vs : List Nat} {σ : L2.St} {H1 : Hp} {D : Addr} {Qd : Hp → Prop}
theorem same_upd {H H1 : Hp} {D : Addr} {o : HO} (h : Same H H1) (hD : H1 D = none) : Same H (upd H1 D o) := fun b u e => by
  rw [upd_ne (ne_of_none (h b u e) hD)]
  exact h b u e
/-- from H1 on; xs the walked things, p the test, f the value -/
theorem lc_f (xs : List α) (p : α → Bool) (f : α → V) (w : Walk J xs.length G Y) (hD : H1 D = none) (hl : xs.length < sizeLine) (hG : ∀ H, Same H1 H → G H)
    (hs : ∀ i a x H H', xs[i]? = some a → Same H1 H → Y i H x H' → ∀ (N1 : V → Hp → Prop) (N0 : Hp → Prop), (p a = true → ∀ H4, Same H H4 → N1 (f a) H4) → (p a = false → ∀ H4, Same H H4 → N0 H4) →
      g x (wipe σ vs) H' fun σ2 H2 => wipe σ2 vs = wipe σ vs ∧ tt σ2 H2 fun b H3 => if b = true then te σ2 H3 N1 else N0 H3)
    (hd : ∀ H, Same H1 H → H D = some (.lst ((xs.filter p).map f)) → Qd H) :
    ∃ W : Nat → Nat → Hp → Prop, (∃ m, W 0 m (upd H1 D (.lst []))) ∧ ∀ i m H, W i m H →
      (J.stop i H ∧ Qd H) ∨ (J.go i H ∧ ∃ Nx : Hp → Prop, (∀ H', Nx H' → ∃ m', m' < m ∧ W (i + 1) m' H') ∧ ∀ x H', J.yld i H x H' → g x (wipe σ vs) H' fun σ2 H2 => wipe σ2 vs = wipe σ vs ∧ tt σ2 H2 fun b H3 =>
        if b = true then te σ2 H3 fun y H4 => ∃ acc, H4 D = some (.lst acc) ∧ acc.length < sizeLine ∧ Nx (upd H4 D (.lst (acc ++ [y]))) else Nx H3) := by
  refine lc_it w (fun i H => Same H1 H ∧ H D = some (.lst (((xs.take i).filter p).map f))) ⟨same_upd (Same.refl H1) hD, upd_same⟩ (fun i H _ q => hG H q.1) (fun i x H H' hi q y => ?_) fun H q => ?_
  · obtain ⟨a, ea⟩ : ∃ a, xs[i]? = some a := ⟨xs[i], List.getElem?_eq_getElem hi⟩
    have et : xs.take (i + 1) = xs.take i ++ [a] := by rw [List.take_add_one, ea]; rfl
    refine hs i a x H H' ea q.1 y _ _ (fun hp H4 s4 => ?_) fun hp H4 s4 => ?_
    · refine ⟨_, s4 _ _ q.2, ?_, fun b u e => ?_, ?_⟩
      · rw [List.length_map]
        exact Nat.lt_of_le_of_lt (Nat.le_trans (List.length_filter_le _ _) (by rw [List.length_take]; omega)) hl
      · rw [upd_ne (ne_of_none e hD)]
        exact s4 _ _ (q.1 _ _ e)
      · rw [upd_same, et, List.filter_append, List.map_append]
        simp [hp]
    · refine ⟨q.1.trans s4, ?_⟩
      rw [et, List.filter_append, List.map_append, s4 _ _ q.2]
      simp [hp]
  · have q2 := q.2
    rw [List.take_length] at q2
    exact hd H q.1 q2
/-- .. without a test -/
theorem lc_y (xs : List α) (f : α → V) (w : Walk J xs.length G Y) (hD : H1 D = none) (hl : xs.length < sizeLine) (hG : ∀ H, Same H1 H → G H)
    (hs : ∀ i a x H H', xs[i]? = some a → Same H1 H → Y i H x H' → ∀ N1 : V → Hp → Prop, (∀ H4, Same H H4 → N1 (f a) H4) →
      g x (wipe σ vs) H' fun σ2 H2 => wipe σ2 vs = wipe σ vs ∧ te σ2 H2 N1)
    (hd : ∀ H, Same H1 H → H D = some (.lst (xs.map f)) → Qd H) :
    ∃ W : Nat → Nat → Hp → Prop, (∃ m, W 0 m (upd H1 D (.lst []))) ∧ ∀ i m H, W i m H →
      (J.stop i H ∧ Qd H) ∨ (J.go i H ∧ ∃ Nx : Hp → Prop, (∀ H', Nx H' → ∃ m', m' < m ∧ W (i + 1) m' H') ∧ ∀ x H', J.yld i H x H' → g x (wipe σ vs) H' fun σ2 H2 => wipe σ2 vs = wipe σ vs ∧ tYes σ2 H2 fun b H3 =>
        if b = true then te σ2 H3 fun y H4 => ∃ acc, H4 D = some (.lst acc) ∧ acc.length < sizeLine ∧ Nx (upd H4 D (.lst (acc ++ [y]))) else Nx H3) :=
  lc_f (tt := tYes) xs (fun _ => true) f w hD hl hG (fun i a x H H' hx s y N1 N0 h1 _ => hs i a x H H' hx s y N1 (h1 rfl)) fun H s h => hd H s (by
    have e : xs.filter (fun _ => true) = xs := List.filter_eq_self.mpr fun _ _ => rfl
    rw [e] at h
    exact h)
end
end MO
set_option Elab.async false
set_option linter.all false
set_option maxRecDepth 100000
/-! first places of signs, set comprehensions over a walk, order of signs -/
namespace MO
open PySem PySem.Spec PyProof.Rows L2 XS KM
theorem occ_ix {P : List Nat} {c : Nat} (h : c ∈ P) : ∃ r, Builtin.Str.occurrences (tx P) (sg c) 0 (tx P).length 1 = P.idxOf c :: r := by
  have at_iff : ∀ i, StrLaws.At (tx P) (sg c) (tx P).length i ↔ P[i]? = some c := fun i => by
    have q := StrLaws.subAt_one (tx P) c i
    rw [show (tx P).cps.toList = P from by show P.toArray.toList = P; simp] at q
    exact q
  have hlt := List.idxOf_lt_length_of_mem h
  have hix : P[P.idxOf c]? = some c := by rw [List.getElem?_eq_getElem hlt, List.getElem_idxOf hlt]
  rcases StrLaws.occ_head (tx P) (sg c) 1 (Nat.le_refl _) with ⟨_, hn⟩ | ⟨i, r, e, hi, hn⟩
  · exact absurd ((at_iff _).mpr hix) (hn _)
  · have h1 := (at_iff i).mp hi
    have : i = P.idxOf c := by
      rcases Nat.lt_trichotomy i (P.idxOf c) with z | z | z
      · obtain ⟨hl, e1⟩ := List.getElem?_eq_some_iff.mp h1
        have := List.not_of_lt_findIdx (p := fun x => x == c) (xs := P) z
        simp [e1] at this
      · exact z
      · exact absurd ((at_iff _).mpr hix) (hn _ z)
    exact ⟨r, by rw [e, this]⟩
section
variable {J J1 : It} {n : Nat} {G : Hp → Prop} {Y : Nat → Hp → V → Hp → Prop} {g g1 : TG} {wi1 : TI} {te : TE} {vs vs1 : List Nat} {σ : L2.St} {D : Addr} {ad : AddT} {Qd : Hp → Prop} {H0 : Hp}
/-- a set comprehension over a walk -/
theorem s1_it (w : Walk J n G Y) (Pv : Nat → Hp → Prop) (h0 : Pv 0 H0) (hG : ∀ i H, i ≤ n → Pv i H → G H)
    (hs : ∀ i x H H', i < n → Pv i H → Y i H x H' → g x (wipe σ vs) H' fun σ2 H2 => wipe σ2 vs = wipe σ vs ∧ te σ2 H2 fun y H3 => ad D y H3 (Pv (i + 1))) (hd : ∀ H, Pv n H → Qd H) :
    ∃ W : Nat → Nat → Hp → Prop, (∃ m, W 0 m H0) ∧ ∀ i m H, W i m H →
      (J.stop i H ∧ Qd H) ∨ (J.go i H ∧ ∃ Nx : Hp → Prop, (∀ H', Nx H' → ∃ m', m' < m ∧ W (i + 1) m' H') ∧ ∀ x H', J.yld i H x H' → g x (wipe σ vs) H' fun σ2 H2 => wipe σ2 vs = wipe σ vs ∧ te σ2 H2 fun y H3 => ad D y H3 Nx) := by
  refine ⟨fun i m H => m = n - i ∧ i ≤ n ∧ Pv i H, ⟨n, by simp, Nat.zero_le _, h0⟩, ?_⟩
  rintro i m H ⟨rfl, hi, p⟩
  have q := hG i H hi p
  by_cases hlt : i < n
  · exact .inr ⟨w.goes i H hlt q, Pv (i + 1), fun H' p' => ⟨n - (i + 1), by omega, rfl, hlt, p'⟩, fun x H' y => hs i x H H' hlt p (w.yields i H x H' hlt q y)⟩
  · have e : i = n := by omega
    subst e
    exact .inl ⟨w.stops H q, hd H p⟩
/-- the outer clause of a set comprehension of two -/
theorem s2_it (w : Walk J n G Y) (Pv : Nat → Hp → Prop) (h0 : Pv 0 H0) (hG : ∀ i H, i ≤ n → Pv i H → G H)
    (hs : ∀ i x H H', i < n → Pv i H → Y i H x H' → g x (wipe σ vs) H' fun σ2 H2 => wipe σ2 vs = wipe σ vs ∧
      wi1 σ2 H2 fun J1 H3 => ∃ W1 : Nat → Nat → Hp → Prop, (∃ m, W1 0 m H3) ∧ ∀ j k H, W1 j k H →
        (J1.stop j H ∧ Pv (i + 1) H) ∨ (J1.go j H ∧ ∃ Nx1 : Hp → Prop, (∀ H', Nx1 H' → ∃ k', k' < k ∧ W1 (j + 1) k' H') ∧ ∀ x H', J1.yld j H x H' → g1 x (wipe σ2 vs1) H' fun σ3 H5 => wipe σ3 vs1 = wipe σ2 vs1 ∧ te σ3 H5 fun y H6 => ad D y H6 Nx1))
    (hd : ∀ H, Pv n H → Qd H) :
    ∃ W : Nat → Nat → Hp → Prop, (∃ m, W 0 m H0) ∧ ∀ i m H, W i m H →
      (J.stop i H ∧ Qd H) ∨ (J.go i H ∧ ∃ Nx : Hp → Prop, (∀ H', Nx H' → ∃ m', m' < m ∧ W (i + 1) m' H') ∧ ∀ x H', J.yld i H x H' → g x (wipe σ vs) H' fun σ2 H2 => wipe σ2 vs = wipe σ vs ∧
        wi1 σ2 H2 fun J1 H3 => ∃ W1 : Nat → Nat → Hp → Prop, (∃ m, W1 0 m H3) ∧ ∀ j k H, W1 j k H →
          (J1.stop j H ∧ Nx H) ∨ (J1.go j H ∧ ∃ Nx1 : Hp → Prop, (∀ H', Nx1 H' → ∃ k', k' < k ∧ W1 (j + 1) k' H') ∧ ∀ x H', J1.yld j H x H' → g1 x (wipe σ2 vs1) H' fun σ3 H5 => wipe σ3 vs1 = wipe σ2 vs1 ∧ te σ3 H5 fun y H6 => ad D y H6 Nx1)) := by
  refine ⟨fun i m H => m = n - i ∧ i ≤ n ∧ Pv i H, ⟨n, by simp, Nat.zero_le _, h0⟩, ?_⟩
  rintro i m H ⟨rfl, hi, p⟩
  have q := hG i H hi p
  by_cases hlt : i < n
  · exact .inr ⟨w.goes i H hlt q, Pv (i + 1), fun H' p' => ⟨n - (i + 1), by omega, rfl, hlt, p'⟩, fun x H' y => hs i x H H' hlt p (w.yields i H x H' hlt q y)⟩
  · have e : i = n := by omega
    subst e
    exact .inl ⟨w.stops H q, hd H p⟩
end
/-! words whose K is told (within a comprehension's block) -/
section
variable {X : Cx}
theorem pg_tupK (K : PySem.W.Frag) {es : List Expr} {k : Nat} {t : TGs} {n : Nat} {pos : Pos} (h : PGs X es t) (hK : X.K = K := by rfl) (hc : X.calm = true := by rfl)
    (hn : (assignEach es X.env).length = n := by rfl) (hst : (assignEach es X.env).findIdx? (·.1) = none := by rfl) : PG X (.Tuple es k pos) (gTup K n t) := by
  subst hK
  exact pg_tup hc h hn hst
theorem pe_bmK (K : PySem.W.Frag) {T : String} {name : Str} {id : String} {r : V → List V → Hp → VK → Prop} {o e : Expr} {es : List Expr} {to : TE} {t : TA} {apos cpos : Pos} (pa : PlainAttrs T) (slot : Slot T name id) (hty : typeOf (.builtin id) = pure (.type "method_descriptor")) (hm : MtR X id r) (ho : PE X o to) (ha : PA X (e :: es) t)
    (hK : X.K = K := by rfl) (hbase : attributeBase o name X.env (eval o X.env) = eval o X.env := by rfl)
    (hfew : ((backTo cpos (starEach (e :: es) X.env)).all (fun x => !x.1) && (backToKw cpos (keywordEach [] X.env)).all (fun x => x.1.isSome)
      && decide ((e :: es).length + ([] : List Keyword).length + (if ([] : List Keyword).isEmpty then 0 else 1) < 30)) = true := by rfl)
    (hline : (apos.endLine == cpos.line) = true := by rfl) (hs : starEach (e :: es) X.env = (false, eval e X.env) :: starEach es X.env := by rfl) (hplain : (backTo cpos (starEach es X.env)).any (·.1) = false := by rfl) :
    PE X (.Call (.Attribute o name apos) (e :: es) [] cpos) (tBM K T r to t) := by
  subst hK
  exact pe_bm pa slot hty hm ho ha hbase hfew hline hs hplain
end
theorem sg_le {a b : Nat} : (sg a).cps.toList ≤ (sg b).cps.toList ↔ a ≤ b := by
  show ([a] : List Nat) ≤ [b] ↔ a ≤ b
  rw [List.cons_le_cons_iff]
  constructor
  · rintro (h | ⟨h, _⟩)
    · exact Nat.le_of_lt h
    · exact Nat.le_of_eq h
  · intro h
    rcases Nat.lt_or_eq_of_le h with z | z
    · exact .inl z
    · exact .inr ⟨z, List.le_refl _⟩
/-- sorted texts of one sign -/
theorem sort_sg {M : List Str} {D : List Nat} (h : M.Perm (D.map sg)) (hs : M.Pairwise fun x y => x.cps.toList ≤ y.cps.toList) (hd : D.Pairwise (· < ·)) : M = D.map sg := by
  refine List.Perm.eq_of_pairwise (le := fun x y => x.cps.toList ≤ y.cps.toList) (fun a b _ _ h1 h2 => ?_) hs ?_ h
  · have e := List.le_antisymm h1 h2
    rw [tx_eq a, tx_eq b, e]
  · rw [List.pairwise_map]
    exact hd.imp fun q => sg_le.mpr (Nat.le_of_lt q)
theorem nd_of_lt {D : List Nat} (h : D.Pairwise (· < ·)) : D.Nodup := h.imp fun q => Nat.ne_of_lt q
/-- every sorted list of different signs is of that form -/
theorem sorted_form {M : List Str} {D : List Nat} (h : M.Perm (D.map sg)) (hs : M.Pairwise fun x y => x.cps.toList ≤ y.cps.toList) (nd : D.Nodup) : ∃ E : List Nat, M = E.map sg ∧ E.Perm D ∧ E.Pairwise (· < ·) := by
  have ex : ∃ E : List Nat, M = E.map sg := by
    have all : ∀ x ∈ M, ∃ c, x = sg c := fun x hx => by
      obtain ⟨c, _, e⟩ := List.mem_map.mp (h.mem_iff.mp hx)
      exact ⟨c, e.symm⟩
    clear h hs
    induction M with
    | nil => exact ⟨[], rfl⟩
    | cons x M ih =>
      obtain ⟨E, e⟩ := ih fun y hy => all y (List.mem_cons_of_mem _ hy)
      obtain ⟨c, e2⟩ := all x List.mem_cons_self
      exact ⟨c :: E, by rw [e, e2]; rfl⟩
  obtain ⟨E, rfl⟩ := ex
  have pm : E.Perm D := by
    have q := h.map fun x : Str => x.cps.toList.headD 0
    rw [List.map_map, List.map_map] at q
    have e : ((fun x : Str => x.cps.toList.headD 0) ∘ sg) = (id : Nat → Nat) := by funext c; rfl
    rw [e, List.map_id, List.map_id] at q
    exact q
  refine ⟨E, rfl, pm, ?_⟩
  rw [List.pairwise_map] at hs
  have nE : E.Nodup := pm.nodup_iff.mpr nd
  exact List.Pairwise.imp₂ (fun a b h1 h2 => Nat.lt_of_le_of_ne (sg_le.mp h1) h2) hs nE
end MO
set_option Elab.async false
set_option linter.all false
set_option maxRecDepth 100000
/-! checks -/
namespace MO
open PySem PySem.Spec PyProof.Rows L2 XS KM
/-- isinstance(x, T), T a built-in class: kitB's answer -/
def rIsB (K : PySem.W.Frag) : List V → Hp → VK → Prop := fun xs H Q => ∃ (x : V) (n t : String) (b : Bool), xs = [x, .ty n] ∧ TyX K H x (.type t) ∧ kitB t n = some b ∧ Q (.bl b) H
theorem call_isB {X : Cx} : CallR X (.builtin "isinstance") (rIsB X.K) := by
  intro pins s σ H xs us Q I r h
  obtain ⟨x, n, t, b, rfl, ty, e, q⟩ := h
  exact call_isi pins s σ H _ us Q I r ⟨x, .ty n, .type t, .type n, b, rfl, .ty n, ty, kit_ty e, q⟩
theorem k_int_int : kitB "int" "int" = some true := by decide +kernel
theorem k_int_bool : kitB "int" "bool" = some false := by decide +kernel
theorem k_tup_tup : kitB "tuple" "tuple" = some true := by decide +kernel
theorem k_str_str : kitB "str" "str" = some true := by decide +kernel
theorem k_dict_dict : kitB "dict" "dict" = some true := by decide +kernel
theorem k_list_list : kitB "list" "list" = some true := by decide +kernel
abbrev sIsInt : Stmt := top 12
abbrev sBetween : Stmt := top 13
abbrev sFitsText : Stmt := top 14
abbrev sAreVars : Stmt := top 15
abbrev sDistinct : Stmt := top 16
abbrev sFitsPat : Stmt := top 17
abbrev sIsVarSet : Stmt := top 18
abbrev sNeedPat : Stmt := top 19
abbrev sNeedText : Stmt := top 20
abbrev sNeedCount : Stmt := top 21
section
variable {P : Program} {w : World} {K : PySem.W.Frag} {mg : Str → Option Value} {base : Heap}
def spIsInt : Sp := fun vs H Q _ => ∃ i : Int, vs = [.int i] ∧ Q (.bl true) H
theorem scIsInt : FnScope ["value"] ["value"] (defScope sIsInt) := ⟨rfl, rfl, rfl, by decide +kernel, rfl, by decide +kernel, by decide +kernel⟩
theorem d_is_integer (p : Pl K mg "is_integer" sIsInt) (T : Bt mg) : Dn P w K mg base 1 "is_integer" ["value"] spIsInt := by
  refine p.dn scIsInt (fun _ _ _ _ _ _ us hl => match us, hl with | [_], _ => rfl) (fun vs H Q E h => ?_) (fun f cdv A outer s H vs Q E hr h => ?_)
  · obtain ⟨i, rfl, _⟩ := h
    rfl
  · obtain ⟨i, rfl, q⟩ := h
    refine ⟨_, pss_one (ps_ret (pe_and (pe_callB call_isB (by rfl) T.isinstance boot_isinstance (pa_cons (pv 0) (pa_cons (pe_bltn (v := .ty "int") (by rfl) T.int (by decide +kernel) rfl) pa_nil)))
      (pe_one (pe_not (pe_callB call_isB (by rfl) T.isinstance boot_isinstance (pa_cons (pv 0) (pa_cons (pe_bltn (v := .ty "bool") (by rfl) T.bool (by decide +kernel) rfl) pa_nil))))))), ?_⟩
    refine ⟨_, rfl, _, "int", "int", true, rfl, .base (.int i), k_int_int, true, rfl, ?_⟩
    refine iteT ?_
    exact ⟨_, rfl, _, "bool", "int", false, rfl, .base (.int i), k_int_bool, false, rfl, q⟩
def spBetween : Sp := fun vs H Q _ => ∃ i lo hi : Int, vs = [.int i, .int lo, .int hi] ∧ Q (.bl (decide (lo ≤ i) && decide (i ≤ hi))) H
theorem scBetween : FnScope ["value", "low", "high"] ["value", "low", "high"] (defScope sBetween) := ⟨rfl, rfl, rfl, by decide +kernel, rfl, by decide +kernel, by decide +kernel⟩
theorem d_is_between (p : Pl K mg "is_between" sBetween) (D1 : Dn P w K mg base 1 "is_integer" ["value"] spIsInt) : Dn P w K mg base 2 "is_between" ["value", "low", "high"] spBetween := by
  refine p.dn scBetween (fun _ _ _ _ _ _ us hl => match us, hl with | [_, _, _], _ => rfl) (fun vs H Q E h => ?_) (fun f cdv A outer s H vs Q E hr h => ?_)
  · obtain ⟨i, lo, hi, rfl, _⟩ := h
    rfl
  · obtain ⟨i, lo, hi, rfl, q⟩ := h
    refine ⟨_, pss_one (ps_ret (pe_and (pe_dn D1 hr (pa_cons (pv 0) pa_nil)) (pe_one (pe_chain op_le op_le (pv 1) (pv 0) (pv 2))))), ?_⟩
    refine ⟨_, rfl, i, rfl, true, rfl, ?_⟩
    refine iteT ?_
    refine ⟨_, rfl, _, rfl, _, _, rfl, rfl, _, rfl, ?_⟩
    cases e : decide (lo ≤ i) with
    | false =>
      rw [e] at q
      exact iteF q
    | true =>
      rw [e] at q
      exact iteT ⟨_, rfl, _, _, rfl, rfl, q⟩
def tup2 (xs : List Int) : List V := xs.map V.int
/-- a text in range -/
structure TxtOk (xs : List Int) : Prop where
  len : xs.length ≤ 4096
  rng : ∀ x ∈ xs, 0 ≤ x ∧ x ≤ 999999
def spFitsText (K : PySem.W.Frag) : Sp := fun vs H Q _ => ∃ (a : Addr) (xs : List Int), vs = [.ref a] ∧ H a = some (.tup (xs.map V.int)) ∧ TxtOk xs ∧ ∀ H', Same H H' → Q (.bl true) H'
theorem scFitsText : FnScope ["value", "letter"] ["value"] (defScope sFitsText) := ⟨rfl, rfl, rfl, by decide +kernel, rfl, by decide +kernel, by decide +kernel⟩
theorem all_true (n : Nat) : (List.replicate n true).all id = true := by
  induction n with
  | zero => rfl
  | succ n ih => rw [List.replicate_succ, List.all_cons, ih]; rfl
theorem map_const {α : Type} (xs : List α) (v : V) : xs.map (fun _ => v) = List.replicate xs.length v := by
  induction xs with
  | nil => rfl
  | cons x r ih => rw [List.map_cons, ih]; rfl
theorem d_fits_text (p : Pl K mg "fits_text" sFitsText) (T : Bt mg) (C : Cn mg) (D1 : Dn P w K mg base 2 "is_between" ["value", "low", "high"] spBetween) : Dn P w K mg base 3 "fits_text" ["value"] (spFitsText K) := by
  refine p.dn scFitsText (fun _ _ _ _ _ _ us hl => match us, hl with | [_], _ => rfl) (fun vs H Q E h => ?_) (fun f cdv A outer s H vs Q E hr h => ?_)
  · obtain ⟨a, xs, rfl, _⟩ := h
    rfl
  · obtain ⟨a, xs, rfl, ha, ok, k⟩ := h
    refine ⟨_, pss_cons (ps_if (PW.pt (pw_or (pt_not (pt_val (pe_callB call_isB (by rfl) T.isinstance boot_isinstance (pa_cons (pv 0) (pa_cons (pe_bltn (v := .ty "tuple") (by rfl) T.tuple (by decide +kernel) rfl) pa_nil)))))
        (pw_or1 (pt_cmpR op_gt (pe_callB call_len_seq (by rfl) T.len PySem.boot_len (pa_cons (pv 0) pa_nil)) (pe_gint (by rfl) C.maxText) (nomark _))))) (pss_one (ps_ret pe_bl)) pss_nil)
      (pss_one (ps_ret (pe_callB (cr_all rfl) (by rfl) T.all (by decide +kernel) (pa_cons
        (pe_lc (own := [("letter", 1)]) (g := gName 1) (tt := tYes) rfl scFitsText.nd (pi_tup (pv 0)) (blkOk_by (N := ["value", "letter"]) (sc := defScope sFitsText) (by decide +kernel))
          (fun _ _ _ _ _ => pg_name (i := 1) scFitsText.nd rfl (Or.inl rfl)) (fun _ _ _ _ _ => pts_nil)
          (fun _ _ _ _ _ => pe_dn D1 hr (pa_cons (pv 1) (pa_cons pe_int (pa_cons (pe_gint (by rfl) C.maxLetter) pa_nil))))) pa_nil)))), ?_⟩
    refine ⟨_, rfl, _, "tuple", "tuple", true, rfl, .base (.tup ha), k_tup_tup, true, rfl, ?_⟩
    refine iteF ?_
    refine ⟨_, rfl, a, _, rfl, .inr (SqT.of ha), _, _, rfl, rfl, _, rfl, ?_⟩
    rw [decide_eq_false (by rw [List.length_map]; have := ok.len; omega)]
    refine iteF ?_
    refine ⟨_, rfl, a, rfl, ⟨_, SqT.of ha⟩, fun D hD => lc_y xs (fun _ => V.bl true) (by have w := walk_tup (K := K) (a := a) (xs := xs.map V.int); rw [List.length_map] at w; exact w) hD (Nat.lt_of_le_of_lt ok.len (by decide)) (fun H1 s1 => SqT.of (s1 _ _ ha)) ?_ ?_⟩
    · rintro i x v H1 H2 hx s1 ⟨rfl, hv⟩ N1 n1
      rw [List.getElem?_map, hx] at hv
      cases hv
      refine ⟨rfl, ?_⟩
      obtain ⟨b1, b2⟩ := ok.rng x (List.mem_of_getElem? hx)
      refine ⟨_, rfl, x, 0, 999999, rfl, ?_⟩
      rw [decide_eq_true b1, decide_eq_true b2]
      exact n1 _ (Same.refl _)
    · intro H1 s1 hd
      rw [map_const, ← List.map_replicate] at hd
      refine ⟨D, List.replicate xs.length true, rfl, SqL.of hd, ?_⟩
      rw [all_true]
      exact k H1 s1
/-- a pattern -/
def Lows (cs : List Nat) : Prop := ∀ c ∈ cs, 97 ≤ c ∧ c ≤ 122
structure PatOk (cs : List Nat) : Prop where
  low : Lows cs
  len : cs.length ≤ 40
  vars : (fo cs).length ≤ 8
theorem Lows.sub {a b : List Nat} (h : Lows b) (s : ∀ x ∈ a, x ∈ b) : Lows a := fun c hc => h c (s c hc)
theorem abc_mem {c : Nat} : c ∈ ("abcdefghijklmnopqrstuvwxyz" : Str).cps.toList ↔ 97 ≤ c ∧ c ≤ 122 := by
  have e : ("abcdefghijklmnopqrstuvwxyz" : Str).cps.toList = List.range' 97 26 := by decide +kernel
  rw [e, List.mem_range'_1]
  omega
def spAreVars : Sp := fun vs H Q _ => ∃ cs : List Nat, vs = [.str (tx cs)] ∧ Lows cs ∧ cs.length ≤ 1000 ∧ ∀ H', Same H H' → Q (.bl true) H'
theorem scAreVars : FnScope ["value", "sign"] ["value"] (defScope sAreVars) := ⟨rfl, rfl, rfl, by decide +kernel, rfl, by decide +kernel, by decide +kernel⟩
theorem small_len {n : Nat} (h : n ≤ 1000) : n < sizeLine := small1000 h
theorem d_are_variables (p : Pl K mg "are_variables" sAreVars) (T : Bt mg) (C : Cn mg) : Dn P w K mg base 1 "are_variables" ["value"] spAreVars := by
  refine p.dn scAreVars (fun _ _ _ _ _ _ us hl => match us, hl with | [_], _ => rfl) (fun vs H Q E h => ?_) (fun f cdv A outer s H vs Q E hr h => ?_)
  · obtain ⟨cs, rfl, _⟩ := h
    rfl
  · obtain ⟨cs, rfl, hl, hn, k⟩ := h
    refine ⟨_, pss_one (ps_ret (pe_and (pe_callB call_isB (by rfl) T.isinstance boot_isinstance (pa_cons (pv 0) (pa_cons (pe_bltn (v := .ty "str") (by rfl) T.str (by decide +kernel) rfl) pa_nil)))
      (pe_one (pe_callB (cr_all rfl) (by rfl) T.all (by decide +kernel) (pa_cons
        (pe_lc (own := [("sign", 1)]) (g := gName 1) (tt := tYes) rfl scAreVars.nd (pi_str (pv 0)) (blkOk_by (N := ["value", "sign"]) (sc := defScope sAreVars) (by decide +kernel))
          (fun _ _ _ _ _ => pg_name (i := 1) scAreVars.nd rfl (Or.inl rfl)) (fun _ _ _ _ _ => pts_nil)
          (fun _ _ _ _ _ => pe_cmpR op_in_sign (pv 1) (pe_gstr (by rfl) C.alphabet) (by rfl))) pa_nil))))), ?_⟩
    refine ⟨_, rfl, _, "str", "str", true, rfl, .base (.str _), k_str_str, true, rfl, ?_⟩
    refine iteT ?_
    refine ⟨_, rfl, _, rfl, fun D hD => lc_y cs (fun _ => V.bl true) walk_tx hD (small1000 hn) (fun _ _ => trivial) ?_ ?_⟩
    · rintro i x v H1 H2 hx s1 ⟨rfl, c, hc, rfl⟩ N1 n1
      rw [hx] at hc
      cases hc
      refine ⟨rfl, _, rfl, x, _, rfl, rfl, ?_⟩
      rw [decide_eq_true (abc_mem.mpr (hl x (List.mem_of_getElem? hx)))]
      exact n1 _ (Same.refl _)
    · intro H1 s1 hd
      rw [map_const, ← List.map_replicate] at hd
      refine ⟨D, List.replicate cs.length true, rfl, SqL.of hd, ?_⟩
      rw [all_true]
      exact k H1 s1
def spDistinct : Sp := fun vs H Q _ => ∃ cs : List Nat, vs = [.str (tx cs)] ∧ cs.length ≤ 1000 ∧ ∀ H', Same H H' → Q (.str (tx (fo cs))) H'
theorem scDistinct : FnScope ["pattern", "index", "sign"] ["pattern"] (defScope sDistinct) := ⟨rfl, rfl, rfl, by decide +kernel, rfl, by decide +kernel, by decide +kernel⟩
theorem walk_pairs {n : Nat} {va vb : Nat → V} : Walk (Jp n va vb) n (fun _ => True) (fun i H v H' => ∃ T, v = .ref T ∧ H T = none ∧ H' = upd H T (.tup [va i, vb i])) :=
  ⟨fun _ _ hi _ => hi, fun _ _ => Nat.le_refl _, fun _ _ _ _ _ _ y => y⟩
theorem sgv_tx {cs : List Nat} {i c : Nat} (h : cs[i]? = some c) : sgv (tx cs) i = .str (sg c) := by
  unfold sgv
  have e : (tx cs).cps.getD i 0 = c := by
    show cs.toArray.getD i 0 = c
    rw [Array.getD_eq_getD_getElem?]
    simp [h]
  rw [e]
theorem d_distinct (p : Pl K mg "distinct" sDistinct) (T : Bt mg) : Dn P w K mg base 1 "distinct" ["pattern"] spDistinct := by
  refine p.dn scDistinct (fun _ _ _ _ _ _ us hl => match us, hl with | [_], _ => rfl) (fun vs H Q E h => ?_) (fun f cdv A outer s H vs Q E hr h => ?_)
  · obtain ⟨cs, rfl, _⟩ := h
    rfl
  · obtain ⟨cs, rfl, hn, k⟩ := h
    refine ⟨_, pss_one (ps_ret (pe_join pe_str
        (pe_lc (own := [("index", 1), ("sign", 2)]) (g := gTup K 2 (gCons (gName 1) (gCons (gName 2) gNil))) rfl scDistinct.nd (pi_enumS (by rfl) T.enumerate (pa_cons (pv 0) pa_nil)) (blkOk_by (N := ["pattern", "index", "sign"]) (sc := defScope sDistinct) (by decide +kernel))
          (fun _ _ _ _ _ => pg_tupK K (pgs_cons (pg_name (i := 1) scDistinct.nd rfl (Or.inl rfl)) (pgs_cons (pg_name (i := 2) scDistinct.nd rfl (Or.inl rfl)) pgs_nil)))
          (fun _ _ _ _ _ => pts_one (pt_cmpR op_eq (pe_bmK K PySem.F.plainAttrs_str PySem.F.slot_str_index PySem.F.type_str_index mt_sindex (pv 0) (pa_cons (pv 2) pa_nil)) (pv 1) (nomark _)))
          (fun _ _ _ _ _ => pv 2)))), ?_⟩
    refine ⟨⟨_, rfl⟩, _, rfl, _, rfl, fun D hD => lc_f cs.zipIdx (fun q => decide (cs.idxOf q.1 = q.2)) (fun q => V.str (sg q.1))
      (by have w := walk_pairs (n := (tx cs).cps.size) (va := fun i => V.int (i : Nat)) (vb := sgv (tx cs)); rw [show cs.zipIdx.length = (tx cs).cps.size by simp]; exact w)
      hD (by rw [List.length_zipIdx]; exact small1000 hn) (fun _ _ => trivial) ?_ ?_⟩
    · rintro i ⟨c, j⟩ v H1 H2 hx s1 ⟨T1, rfl, hT, rfl⟩ N1 N0 n1 n0
      rw [List.getElem?_zipIdx] at hx
      obtain ⟨c', hc, e⟩ := Option.map_eq_some_iff.mp hx
      cases e
      rw [Nat.zero_add] at *
      have s2 : Same H1 (upd H1 T1 (.tup [.int (i : Nat), sgv (tx cs) i])) := same_upd (Same.refl H1) hT
      rw [sgv_tx hc] at s2 ⊢
      obtain ⟨r, er⟩ := occ_ix (List.mem_of_getElem? hc)
      refine ⟨T1, _, rfl, SqT.of upd_same, rfl, _, _, rfl, _, _, rfl, rfl, rfl, _, rfl, rfl, _, rfl, _, _, _, _, rfl, rfl, er, _, rfl, rfl, _, rfl, ?_⟩
      refine ite2 (fun e => ?_) (fun e => ?_)
      · have e := of_decide_eq_true e
        injection e with e
        exact ⟨_, rfl, n1 (decide_eq_true (by show cs.idxOf c = i; omega)) _ s2⟩
      · refine n0 (decide_eq_false fun z => e (decide_eq_true ?_)) _ s2
        have z : cs.idxOf c = i := z
        rw [z]
    · intro H1 s1 hd
      have e : (cs.zipIdx.filter fun q => decide (cs.idxOf q.1 = q.2)).map (fun q => V.str (sg q.1)) = ((fo cs).map sg).map V.str := by
        unfold fo
        rw [List.map_map, List.map_map]
        rfl
      rw [e] at hd
      refine ⟨_, D, (fo cs).map sg, rfl, rfl, .inl (SqL.of hd), join_room (Nat.le_trans (fo_len cs) (Nat.le_trans hn (by decide))), ?_⟩
      have j := join_sg (fo cs)
      show Q (.str (Txt.join (tx []) ((fo cs).map sg))) H1
      rw [j]
      exact k H1 s1
def spFitsPat : Sp := fun vs H Q _ => ∃ cs : List Nat, vs = [.str (tx cs)] ∧ PatOk cs ∧ ∀ H', Same H H' → Q (.bl true) H'
theorem scFitsPat : FnScope ["value"] ["value"] (defScope sFitsPat) := ⟨rfl, rfl, rfl, by decide +kernel, rfl, by decide +kernel, by decide +kernel⟩
theorem tx_line {cs : List Nat} (h : cs.length ≤ 1000) : (tx cs).length ≤ sizeLine := by
  rw [tx_len]
  exact Nat.le_of_lt (small1000 h)
theorem d_fits_pattern (p : Pl K mg "fits_pattern" sFitsPat) (T : Bt mg) (C : Cn mg) (D1 : Dn P w K mg base 1 "are_variables" ["value"] spAreVars) (D2 : Dn P w K mg base 1 "distinct" ["pattern"] spDistinct) : Dn P w K mg base 2 "fits_pattern" ["value"] spFitsPat := by
  refine p.dn scFitsPat (fun _ _ _ _ _ _ us hl => match us, hl with | [_], _ => rfl) (fun vs H Q E h => ?_) (fun f cdv A outer s H vs Q E hr h => ?_)
  · obtain ⟨cs, rfl, _⟩ := h
    rfl
  · obtain ⟨cs, rfl, ok, k⟩ := h
    have l40 := ok.len
    refine ⟨_, pss_cons (ps_if (PW.pt (pw_or (pt_not (pt_val (pe_dn D1 hr (pa_cons (pv 0) pa_nil))))
        (pw_or1 (pt_cmpR op_gt (pe_callB call_len_str (by rfl) T.len PySem.boot_len (pa_cons (pv 0) pa_nil)) (pe_gint (by rfl) C.maxPattern) (nomark _))))) (pss_one (ps_ret pe_bl)) pss_nil)
      (pss_one (ps_ret (pe_cmpR op_le (pe_callB call_len_str (by rfl) T.len PySem.boot_len (pa_cons (pe_dn D2 hr (pa_cons (pv 0) pa_nil)) pa_nil)) (pe_gint (by rfl) C.maxVariables) (nomark _)))), ?_⟩
    refine ⟨_, rfl, cs, rfl, ok.low, by omega, fun H1 s1 => ⟨true, rfl, ?_⟩⟩
    refine iteF ?_
    refine ⟨_, rfl, _, rfl, tx_line (by omega), _, _, rfl, rfl, _, rfl, ?_⟩
    rw [decide_eq_false (by rw [tx_len]; omega)]
    refine iteF ?_
    refine ⟨_, rfl, cs, rfl, by omega, fun H2 s2 => ?_⟩
    have l8 := ok.vars
    refine ⟨_, rfl, tx_line (by omega), _, _, rfl, rfl, ?_⟩
    show Q (.bl (decide (((tx (fo cs)).length : Int) ≤ 8))) H2
    rw [decide_eq_true (by rw [tx_len]; omega)]
    exact k H2 (s1.trans s2)
def spIsVarSet : Sp := fun vs H Q _ => ∃ D : List Nat, vs = [.str (tx D)] ∧ Lows D ∧ D.Pairwise (· < ·) ∧ D.length ≤ 60 ∧ ∀ H', Same H H' → Q (.bl true) H'
theorem scIsVarSet : FnScope ["value", "sign"] ["value"] (defScope sIsVarSet) := ⟨rfl, rfl, rfl, by decide +kernel, rfl, by decide +kernel, by decide +kernel⟩
theorem ne_sg {D : List Nat} (nd : D.Nodup) {i c : Nat} (h : D[i]? = some c) : sg c ∉ ((D.take i).reverse.map sg) := fun z => by
  obtain ⟨b, hb, e⟩ := List.mem_map.mp z
  have hb := List.mem_reverse.mp hb
  have e := sg_inj e
  subst e
  obtain ⟨j, hj⟩ := List.mem_iff_getElem?.mp hb
  obtain ⟨hlt, _⟩ := List.getElem?_eq_some_iff.mp hj
  rw [List.length_take] at hlt
  rw [List.getElem?_take_of_lt (by omega)] at hj
  obtain ⟨h1, e1⟩ := List.getElem?_eq_some_iff.mp h
  obtain ⟨h2, e2⟩ := List.getElem?_eq_some_iff.mp hj
  have := (List.getElem_inj nd).mp (e1.trans e2.symm)
  omega
theorem d_is_variable_set (p : Pl K mg "is_variable_set" sIsVarSet) (T : Bt mg) (D1 : Dn P w K mg base 1 "are_variables" ["value"] spAreVars) : Dn P w K mg base 2 "is_variable_set" ["value"] spIsVarSet := by
  refine p.dn scIsVarSet (fun _ _ _ _ _ _ us hl => match us, hl with | [_], _ => rfl) (fun vs H Q E h => ?_) (fun f cdv A outer s H vs Q E hr h => ?_)
  · obtain ⟨D, rfl, _⟩ := h
    rfl
  · obtain ⟨D, rfl, hlow, asc, h60, k⟩ := h
    refine ⟨_, pss_one (ps_ret (pe_and (pe_dn D1 hr (pa_cons (pv 0) pa_nil)) (pe_one (pe_cmpR op_eq (pv 0) (pe_join pe_str
      (pe_callB (cr_sortT rfl hr.units) (by rfl) T.sorted (by decide +kernel) (pa_cons
        (pe_set1 (own := [("sign", 1)]) (g := gName 1) (ad := adT w) (o0 := fun a => TSetO w a []) (begins_text _ _) (fun _ _ _ _ _ => adds_text) rfl scIsVarSet.nd (pi_str (pv 0)) (blkOk_by (N := ["value", "sign"]) (sc := defScope sIsVarSet) (by decide +kernel))
          (fun _ _ _ _ _ => pg_name (i := 1) scIsVarSet.nd rfl (Or.inl rfl)) (fun _ _ _ _ _ => pv 1)) pa_nil))) (nomark _))))), ?_⟩
    refine ⟨_, rfl, D, rfl, hlow, by omega, fun H1 s1 => ⟨true, rfl, ?_⟩⟩
    refine iteT ?_
    refine ⟨_, rfl, ⟨_, rfl⟩, _, rfl, _, rfl, fun S hS => s1_it (D := S) walk_tx (fun i H2 => Same H1 H2 ∧ H2 S = some (TSetO w S ((D.take i).reverse.map sg))) ⟨same_upd (Same.refl H1) hS, upd_same⟩ (fun _ _ _ _ => trivial) ?_ ?_⟩
    · rintro i v H2 H3 hi ⟨s2, hS2⟩ ⟨rfl, c, hc, rfl⟩
      refine ⟨rfl, _, rfl, _, _, rfl, hS2, ?_, ?_, ?_⟩
      · rw [List.length_map, List.length_reverse, List.length_take]
        show min i D.length + 1 < 4096
        omega
      · exact fun b u e => by
          rw [upd_ne (ne_of_none e hS)]
          exact s2 b u e
      · rw [upd_same, if_neg (ne_sg (nd_of_lt asc) hc), List.take_add_one, hc]
        simp
    · rintro H2 ⟨s2, hS2⟩
      rw [List.take_length] at hS2
      refine ⟨S, _, rfl, hS2, by rw [List.length_map, List.length_reverse]; omega, fun M q pm pw hq => ?_⟩
      have e : M = D.map sg := sort_sg (pm.trans ((List.reverse_perm D).map sg)) pw asc
      subst e
      refine ⟨_, q, D.map sg, rfl, rfl, .inl (SqL.of upd_same), join_room (by omega), rfl, ?_⟩
      have j := join_sg D
      show Q (.bl (decide (V.str (tx D) = V.str (Txt.join (tx []) (D.map sg))))) _
      rw [j, decide_eq_true rfl]
      exact k _ (s1.trans (same_upd s2 hq))
def spNeedPat : Sp := fun vs H Q _ => ∃ cs : List Nat, vs = [.str (tx cs)] ∧ PatOk cs ∧ ∀ H', Same H H' → Q .non H'
theorem scNeedPat : FnScope ["value"] ["value"] (defScope sNeedPat) := ⟨rfl, rfl, rfl, by decide +kernel, rfl, by decide +kernel, by decide +kernel⟩
theorem d_need_pattern (p : Pl K mg "need_pattern" sNeedPat) (D1 : Dn P w K mg base 2 "fits_pattern" ["value"] spFitsPat) : Dn P w K mg base 3 "need_pattern" ["value"] spNeedPat := by
  refine p.dn scNeedPat (fun _ _ _ _ _ _ us hl => match us, hl with | [_], _ => rfl) (fun vs H Q E h => ?_) (fun f cdv A outer s H vs Q E hr h => ?_)
  · obtain ⟨cs, rfl, _⟩ := h
    rfl
  · obtain ⟨cs, rfl, ok, k⟩ := h
    refine ⟨_, pss_one (ps_if (pt_not (pt_val (pe_dn D1 hr (pa_cons (pv 0) pa_nil)))) (pss_one ps_never) pss_nil), ?_⟩
    exact ⟨_, rfl, cs, rfl, ok, fun H1 s1 => ⟨true, rfl, iteF (k H1 s1)⟩⟩
def spNeedText : Sp := fun vs H Q _ => ∃ (a : Addr) (xs : List Int), vs = [.ref a] ∧ H a = some (.tup (xs.map V.int)) ∧ TxtOk xs ∧ ∀ H', Same H H' → Q .non H'
theorem scNeedText : FnScope ["value"] ["value"] (defScope sNeedText) := ⟨rfl, rfl, rfl, by decide +kernel, rfl, by decide +kernel, by decide +kernel⟩
theorem d_need_text (p : Pl K mg "need_text" sNeedText) (D1 : Dn P w K mg base 3 "fits_text" ["value"] (spFitsText K)) : Dn P w K mg base 4 "need_text" ["value"] spNeedText := by
  refine p.dn scNeedText (fun _ _ _ _ _ _ us hl => match us, hl with | [_], _ => rfl) (fun vs H Q E h => ?_) (fun f cdv A outer s H vs Q E hr h => ?_)
  · obtain ⟨a, xs, rfl, _⟩ := h
    rfl
  · obtain ⟨a, xs, rfl, ha, ok, k⟩ := h
    refine ⟨_, pss_one (ps_if (pt_not (pt_val (pe_dn D1 hr (pa_cons (pv 0) pa_nil)))) (pss_one ps_never) pss_nil), ?_⟩
    exact ⟨_, rfl, a, xs, rfl, ha, ok, fun H1 s1 => ⟨true, rfl, iteF (k H1 s1)⟩⟩
def spNeedCount : Sp := fun vs H Q _ => ∃ i lo hi : Int, vs = [.int i, .int lo, .int hi] ∧ lo ≤ i ∧ i ≤ hi ∧ Q .non H
theorem scNeedCount : FnScope ["value", "low", "high"] ["value", "low", "high"] (defScope sNeedCount) := ⟨rfl, rfl, rfl, by decide +kernel, rfl, by decide +kernel, by decide +kernel⟩
theorem d_need_count (p : Pl K mg "need_count" sNeedCount) (D1 : Dn P w K mg base 2 "is_between" ["value", "low", "high"] spBetween) : Dn P w K mg base 3 "need_count" ["value", "low", "high"] spNeedCount := by
  refine p.dn scNeedCount (fun _ _ _ _ _ _ us hl => match us, hl with | [_, _, _], _ => rfl) (fun vs H Q E h => ?_) (fun f cdv A outer s H vs Q E hr h => ?_)
  · obtain ⟨i, lo, hi, rfl, _⟩ := h
    rfl
  · obtain ⟨i, lo, hi, rfl, h1, h2, k⟩ := h
    refine ⟨_, pss_one (ps_if (pt_not (pt_val (pe_dn D1 hr (pa_cons (pv 0) (pa_cons (pv 1) (pa_cons (pv 2) pa_nil)))))) (pss_one ps_never) pss_nil), ?_⟩
    refine ⟨_, rfl, _, rfl, _, rfl, i, lo, hi, rfl, ?_⟩
    rw [decide_eq_true h1, decide_eq_true h2]
    exact ⟨true, rfl, iteF k⟩
end
end MO
set_option Elab.async false
set_option linter.all false
set_option maxRecDepth 100000
/-! graph: links, letters -/
namespace MO
open PySem PySem.Spec PyProof.Rows L2 XS KM
theorem same_seqT {K : PySem.W.Frag} {H H' : Hp} {a : Addr} {xs : List V} (e : Same H H') (h : SqT K H a xs) : SqT K H' a xs := by
  rcases h with (h | ⟨o, h⟩) | h
  · exact .inl (.inl (e _ _ h))
  · exact .inl (.inr ⟨o, e _ _ h⟩)
  · exact .inr h
/-- a list or a tuple that stands still -/
def iSeq (K : PySem.W.Frag) (td : TE) : TI := fun σ H R => td σ H fun v H1 => ∃ a xs, v = .ref a ∧ (SqL K H1 a xs ∨ SqT K H1 a xs) ∧ ∀ J, Walk J xs.length (fun H => Same H1 H) (YAt xs) → R J H1
theorem pi_seq {X : Cx} (K : PySem.W.Frag) {tg l : Expr} {tl : TE} (hl : PE X l tl) (hK : X.K = K := by rfl) : PI X tg l (iSeq K tl) := by
  subst hK
  refine ⟨fun pins s σ H R I h => ?_⟩
  refine thn (hl.run pins s σ H _ I h) fun v s1 ⟨x, H1, I1, r1, a, xs, e, hq, q⟩ => ?_
  subst e
  cases r1
  rcases hq with hq | hq
  · obtain ⟨its, rv, p, hz⟩ := I1.list hq
    refine wpAny_pyIter_list p.isList ?_
    refine ⟨s1.heap.objs.size, [s1.heap.objs.size], _, _, H1, rfl, I1.kept (t' := s1.toks) fun b o e => Heap.get?_push_of_some _ e, turn_list a _, ⟨_, Heap.get?_push_size _ rfl, rfl, rfl⟩, fun b hb => ?_, q _ (walk_list.mono (fun H s => s.seq hq) fun _ _ _ _ _ _ y => y)⟩
    have e : b = s1.heap.objs.size := by simpa using hb
    subst e
    exact I1.fpOk (Nat.le_refl _) (I1.hok.fresh (Nat.le_refl _))
  · obtain ⟨its, rv, p, hz⟩ := I1.tuple hq
    refine wpAny_pyIter_tuple (show s1.heap.IsTuple a its.toArray from p) ?_
    refine ⟨s1.heap.objs.size, [s1.heap.objs.size], _, _, H1, rfl, I1.kept (t' := s1.toks) fun b o e => Heap.get?_push_of_some _ e, turn_tuple a _, ⟨_, Heap.get?_push_size _ rfl, rfl, rfl⟩, fun b hb => ?_, q _ (walk_tup.mono (fun H s => same_seqT s hq) fun _ _ _ _ _ _ y => y)⟩
    have e : b = s1.heap.objs.size := by simpa using hb
    subst e
    exact I1.fpOk (Nat.le_refl _) (I1.hok.fresh (Nat.le_refl _))
abbrev sLinks : Stmt := top 25
abbrev sLetters : Stmt := top 26
/-- parts: one pattern, in a list or a tuple -/
def PartsAt (K : PySem.W.Frag) (H : Hp) (a : Addr) (P : List Nat) : Prop := SqL K H a [V.str (tx P)] ∨ SqT K H a [V.str (tx P)]
theorem PartsAt.same {K : PySem.W.Frag} {H H' : Hp} {a : Addr} {P : List Nat} (s : Same H H') (h : PartsAt K H a P) : PartsAt K H' a P := h.elim (fun h => .inl (s.seq h)) fun h => .inr (same_seqT s h)
theorem cutS_tail (P : List Nat) : cutS (tx P) (some 1) none = tx (P.drop 1) := by
  unfold cutS
  have e : (tx P).cps.toList = P := by show P.toArray.toList = P; simp
  have l : (tx P).length = P.length := tx_len P
  rw [e, l]
  have h1 : HT.sIx P.length P.length none = P.length := rfl
  rw [h1]
  cases P with
  | nil => rfl
  | cons c r =>
    have h2 : HT.sIx (c :: r).length 0 (some 1) = 1 := by
      have q := HT.sIx_nat (c :: r).length 0 1
      rw [List.length_cons] at q ⊢
      exact q.trans (by omega)
    rw [h2]
    have e2 : (List.drop 1 (c :: r)).take ((c :: r).length - 1) = List.drop 1 (c :: r) := List.take_of_length_le (by rw [List.length_drop]; exact Nat.le_refl _)
    rw [e2]
section
variable {P : Program} {w : World} {K : PySem.W.Frag} {mg : Str → Option Value} {base : Heap}
/-- what links_of gives: pairs of neighbours, all of them -/
structure LinksAt (H : Hp) (p : Addr) (M : List (Addr × Nat × Nat)) (Q : List Nat) : Prop where
  ls : H p = some (.lst (M.map fun q => V.ref q.1))
  tp : ∀ q ∈ M, H q.1 = some (.tup [.str (sg q.2.1), .str (sg q.2.2)])
  adj : ∀ q ∈ M, Adj Q q.2.1 q.2.2
  all : ∀ x y, Adj Q x y → ∃ q ∈ M, q.2 = (x, y)
  len : M.length ≤ 60
def spLinks (K : PySem.W.Frag) : Sp := fun vs H Q _ => ∃ (a : Addr) (R : List Nat), vs = [.ref a] ∧ PartsAt K H a R ∧ R.length ≤ 40 ∧ ∀ H' p M, Same H H' → H p = none → LinksAt H' p M R → Q (.ref p) H'
/-- what the set holds at turn j -/
structure LS (R : List Nat) (H : Hp) (j : Nat) (L : List (Addr × List Str)) : Prop where
  one : ∀ p ∈ L, ∃ x y, p.2 = [sg x, sg y] ∧ H p.1 = some (.tup [.str (sg x), .str (sg y)]) ∧ Adj R x y
  all : ∀ i, i < j → ∀ x y, R[i]? = some x → R[i + 1]? = some y → ∃ p ∈ L, p.2 = [sg x, sg y]
  len : L.length ≤ j
theorem ls_start (R : List Nat) (H : Hp) : LS R H 0 [] := ⟨fun _ h => (by cases h), fun _ h => absurd h (Nat.not_lt_zero _), Nat.le_refl _⟩
theorem scLinks : FnScope ["parts", "part", "pair"] ["parts"] (defScope sLinks) := ⟨rfl, rfl, rfl, by decide +kernel, rfl, by decide +kernel, by decide +kernel⟩
theorem d_links_of (p : Pl K mg "links_of" sLinks) (T : Bt mg) : Dn P w K mg base 1 "links_of" ["parts"] (spLinks K) := by
  refine p.dn scLinks (fun _ _ _ _ _ _ us hl => match us, hl with | [_], _ => rfl) (fun vs H Q E h => ?_) (fun f cdv A outer s H vs Q E hr h => ?_)
  · obtain ⟨a, R, rfl, _⟩ := h
    rfl
  · obtain ⟨a, R, rfl, ha, h40, k⟩ := h
    refine ⟨_, pss_one (ps_ret (pe_callB (cr_sortX rfl hr.units) (by rfl) T.sorted (by decide +kernel) (pa_cons
        (pe_set2 (own := [("part", 1), ("pair", 2)]) (vs1 := [2]) (g := gName 1) (g1 := gName 2) (ad := adP K P w) (o0 := fun a => PSetO P w a []) (begins_pair _ _) (fun _ _ _ _ _ => adds_pair hr.units) rfl scLinks.nd (pi_seq K (pv 0))
          (blkOk_by (N := ["parts", "part", "pair"]) (sc := defScope sLinks) (by decide +kernel)) (by decide)
          (fun _ _ _ _ _ => pg_name (i := 1) scLinks.nd rfl (Or.inl rfl))
          (fun _ _ _ _ _ => pi_zipN (by rfl) T.zip (pa_cons (pv 1) (pa_cons (pe_slice sl_str (pv 1) (po_some pe_int) po_none) pa_nil)))
          (fun _ _ _ _ _ => pg_name (i := 2) scLinks.nd rfl (Or.inl rfl))
          (fun _ _ _ _ _ => pv 2)) pa_nil))), ?_⟩
    refine ⟨_, rfl, a, _, rfl, ha, fun J wJ S hS => ?_⟩
    refine s2_it wJ (fun i H2 => Same H H2 ∧ ∃ L, H2 S = some (PSetO P w S L) ∧ LS R H2 (if i = 0 then 0 else R.length - 1) L) ⟨same_upd (Same.refl H) hS, [], upd_same, ls_start R _⟩ (fun i H2 _ q => q.1) ?_ ?_
    · rintro i v H2 H3 hi ⟨s2, L0, hS0, ls0⟩ ⟨rfl, hv⟩
      have hi0 : i = 0 := by
        have : i < 1 := hi
        omega
      subst hi0
      cases (Option.some.inj hv : V.str (tx R) = v)
      rw [if_pos rfl] at ls0
      refine ⟨rfl, ?_⟩
      have lenR : (tx R).length ≤ sizeLine := tx_line (by omega)
      refine ⟨_, rfl, _, rfl, 1, rfl, tx R, rfl, lenR, tx R, cutS (tx R) (some 1) none, rfl, ?_⟩
      rw [cutS_tail]
      refine s1_it walk_pairs (fun j H4 => Same H H4 ∧ ∃ L, H4 S = some (PSetO P w S L) ∧ LS R H4 j L) ⟨s2, L0, hS0, ls0⟩ (fun _ _ _ _ => trivial) ?_ ?_
      · rintro j v H4 H5 hj ⟨s4, L, hL, ls⟩ ⟨T1, rfl, hT, rfl⟩
        rw [tx_size, tx_size, List.length_drop] at hj
        obtain ⟨x, hx⟩ : ∃ x, R[j]? = some x := ⟨R[j]'(by omega), List.getElem?_eq_getElem _⟩
        obtain ⟨y, hy⟩ : ∃ y, R[j + 1]? = some y := ⟨R[j + 1]'(by omega), List.getElem?_eq_getElem _⟩
        have hy2 : (R.drop 1)[j]? = some y := by rw [List.getElem?_drop, Nat.add_comm]; exact hy
        rw [sgv_tx hx, sgv_tx hy2]
        have s5 : Same H4 (upd H4 T1 (.tup [.str (sg x), .str (sg y)])) := same_upd (Same.refl _) hT
        refine ⟨rfl, _, rfl, T1, [sg x, sg y], L, rfl, SqT.of upd_same, s5 _ _ hL, fun q hq => ?_, by have := ls.len; omega, fun M m1 m2 => ?_⟩
        · obtain ⟨x', y', e, h1, _⟩ := ls.one q hq
          rw [e]
          exact SqT.of (s5 _ _ h1)
        · have nS : T1 ≠ S := fun z => by rw [z, hL] at hT; cases hT
          have mem : ∀ q, q ∈ M → q ∈ L ∨ q = (T1, [sg x, sg y]) := fun q hq => by
            by_cases hm : [sg x, sg y] ∈ L.map (·.2)
            · rw [m1 hm] at hq
              exact .inl hq
            · rcases List.mem_cons.mp ((m2 hm).mem_iff.mp hq) with z | z
              · exact .inr z
              · exact .inl z
          have keep : ∀ q ∈ L, q ∈ M := fun q hq => by
            by_cases hm : [sg x, sg y] ∈ L.map (·.2)
            · rw [m1 hm]; exact hq
            · exact (m2 hm).mem_iff.mpr (List.mem_cons_of_mem _ hq)
          refine ⟨fun b u e => ?_, M, upd_same, ⟨fun q hq => ?_, fun i hi x' y' hx' hy' => ?_, ?_⟩⟩
          · rw [upd_ne (ne_of_none e hS)]
            exact s5 _ _ (s4 _ _ e)
          · rcases mem q hq with z | z
            · obtain ⟨x', y', e, h1, h2⟩ := ls.one q z
              refine ⟨x', y', e, ?_, h2⟩
              rw [upd_ne (ne_of h1 hL (by intro z; cases z))]
              exact s5 _ _ h1
            · refine ⟨x, y, by rw [z], ?_, adj_at hx hy⟩
              rw [z, upd_ne nS, upd_same]
          · rcases Nat.lt_or_eq_of_le (Nat.lt_succ_iff.mp hi) with z | z
            · obtain ⟨q, hq, e⟩ := ls.all i z x' y' hx' hy'
              exact ⟨q, keep q hq, e⟩
            · subst z
              rw [hx] at hx'
              rw [hy] at hy'
              cases hx'
              cases hy'
              by_cases hm : [sg x, sg y] ∈ L.map (·.2)
              · obtain ⟨q, hq, e⟩ := List.mem_map.mp hm
                exact ⟨q, keep q hq, e⟩
              · exact ⟨(T1, [sg x, sg y]), (m2 hm).mem_iff.mpr List.mem_cons_self, rfl⟩
          · by_cases hm : [sg x, sg y] ∈ L.map (·.2)
            · rw [m1 hm]
              exact Nat.le_succ_of_le ls.len
            · rw [(m2 hm).length_eq, List.length_cons]
              exact Nat.succ_le_succ ls.len
      · rintro H4 ⟨s4, L, hL, ls⟩
        refine ⟨s4, L, hL, ?_⟩
        rw [tx_size, tx_size, List.length_drop, Nat.min_eq_right (by omega)] at ls
        exact ls
    · rintro H2 ⟨s2, L, hL, ls⟩
      have ls : LS R H2 (R.length - 1) L := ls
      refine ⟨S, L, rfl, hL, fun q hq => ?_, fun q hq => ?_, fun M q hm hl hq => ?_⟩
      · obtain ⟨x, y, e, h1, _⟩ := ls.one q hq
        rw [e]
        exact SqT.of h1
      · obtain ⟨x, y, e, _⟩ := ls.one q hq
        rw [e]
        rfl
      · have ex : ∀ M : List (Addr × List Str), (∀ q ∈ M, q ∈ L) → ∃ N : List (Addr × Nat × Nat), M = N.map (fun q => (q.1, [sg q.2.1, sg q.2.2])) := by
          intro M
          induction M with
          | nil => exact fun _ => ⟨[], rfl⟩
          | cons q M ih =>
            intro h
            obtain ⟨N, e⟩ := ih fun r hr => h r (List.mem_cons_of_mem _ hr)
            obtain ⟨x, y, e2, _⟩ := ls.one q (h q List.mem_cons_self)
            exact ⟨(q.1, x, y) :: N, by rw [List.map_cons, ← e, ← e2]⟩
        obtain ⟨N, eN⟩ := ex M fun q hq => (hm q).mp hq
        have hlen := ls.len
        have s3 : Same H2 (upd H2 q (.lst (M.map fun q => V.ref q.1))) := same_upd (Same.refl _) hq
        have get : ∀ n ∈ N, (n.1, [sg n.2.1, sg n.2.2]) ∈ L := fun n hn => (hm _).mp (by rw [eN]; exact List.mem_map.mpr ⟨n, hn, rfl⟩)
        refine k _ q N (fun b u e => s3 _ _ (s2 _ _ e)) (s2.free hq) ⟨?_, fun n hn => ?_, fun n hn => ?_, fun x y h => ?_, ?_⟩
        · rw [upd_same, eN, List.map_map]
          rfl
        · obtain ⟨x, y, e, h1, _⟩ := ls.one _ (get n hn)
          have e : [sg n.2.1, sg n.2.2] = [sg x, sg y] := e
          injection e with e1 e2
          injection e2 with e2 _
          rw [e1, e2]
          exact s3 _ _ h1
        · obtain ⟨x, y, e, _, h1⟩ := ls.one _ (get n hn)
          have e : [sg n.2.1, sg n.2.2] = [sg x, sg y] := e
          injection e with e1 e2
          injection e2 with e2 _
          rw [sg_inj e1, sg_inj e2]
          exact h1
        · obtain ⟨i, hx, hy⟩ := adj_ix h
          have hi : i < R.length - 1 := by
            obtain ⟨z, _⟩ := List.getElem?_eq_some_iff.mp hy
            omega
          obtain ⟨r, hr, e⟩ := ls.all i hi x y hx hy
          have hr2 := (hm r).mpr hr
          rw [eN] at hr2
          obtain ⟨n, hn, e2⟩ := List.mem_map.mp hr2
          refine ⟨n, hn, ?_⟩
          rw [← e2] at e
          have e : [sg n.2.1, sg n.2.2] = [sg x, sg y] := e
          injection e with e1 e3
          injection e3 with e3 _
          rw [← sg_inj e1, ← sg_inj e3]
        · have : M.length = N.length := by rw [eN, List.length_map]
          omega
/-- letters_of -/
structure LettersAt (H : Hp) (p : Addr) (xs R : List Nat) : Prop where
  ls : H p = some (.lst ((xs.map sg).map V.str))
  mem : ∀ x, x ∈ xs ↔ x ∈ R
  len : xs.length ≤ R.length
  asc : xs.Pairwise (· < ·)
def spLetters (K : PySem.W.Frag) : Sp := fun vs H Q _ => ∃ (a : Addr) (R : List Nat), vs = [.ref a] ∧ PartsAt K H a R ∧ R.length ≤ 40 ∧ ∀ H' p xs, Same H H' → H p = none → LettersAt H' p xs R → Q (.ref p) H'
theorem scLetters : FnScope ["parts", "part", "sign"] ["parts"] (defScope sLetters) := ⟨rfl, rfl, rfl, by decide +kernel, rfl, by decide +kernel, by decide +kernel⟩
structure LT (R : List Nat) (j : Nat) (L : List Nat) : Prop where
  mem : ∀ x, x ∈ L ↔ x ∈ R.take j
  nd : L.Nodup
  len : L.length ≤ j
theorem mem_sg {L : List Nat} {x : Nat} : sg x ∈ L.map sg ↔ x ∈ L := by
  rw [List.mem_map]
  exact ⟨fun ⟨a, h, e⟩ => by rw [← sg_inj e]; exact h, fun h => ⟨x, h, rfl⟩⟩
theorem LT.next {R : List Nat} {j x : Nat} {L : List Nat} (l : LT R j L) (hx : R[j]? = some x) : ∃ L', (if sg x ∈ L.map sg then L.map sg else sg x :: L.map sg) = L'.map sg ∧ LT R (j + 1) L' := by
  have et : R.take (j + 1) = R.take j ++ [x] := by rw [List.take_add_one, hx]; rfl
  by_cases h : x ∈ L
  · rw [if_pos (mem_sg.mpr h)]
    refine ⟨L, rfl, fun y => ?_, l.nd, Nat.le_succ_of_le l.len⟩
    rw [et, List.mem_append, List.mem_singleton, ← l.mem y]
    exact ⟨.inl, fun z => z.elim id fun e => by rw [e]; exact h⟩
  · rw [if_neg fun z => h (mem_sg.mp z)]
    refine ⟨x :: L, rfl, fun y => ?_, List.nodup_cons.mpr ⟨h, l.nd⟩, Nat.succ_le_succ l.len⟩
    rw [et, List.mem_append, List.mem_singleton, ← l.mem y, List.mem_cons]
    exact Or.comm
theorem d_letters_of (p : Pl K mg "letters_of" sLetters) (T : Bt mg) : Dn P w K mg base 1 "letters_of" ["parts"] (spLetters K) := by
  refine p.dn scLetters (fun _ _ _ _ _ _ us hl => match us, hl with | [_], _ => rfl) (fun vs H Q E h => ?_) (fun f cdv A outer s H vs Q E hr h => ?_)
  · obtain ⟨a, R, rfl, _⟩ := h
    rfl
  · obtain ⟨a, R, rfl, ha, h40, k⟩ := h
    refine ⟨_, pss_one (ps_ret (pe_callB (cr_sortT rfl hr.units) (by rfl) T.sorted (by decide +kernel) (pa_cons
        (pe_set2 (own := [("part", 1), ("sign", 2)]) (vs1 := [2]) (g := gName 1) (g1 := gName 2) (ad := adT w) (o0 := fun a => TSetO w a []) (begins_text _ _) (fun _ _ _ _ _ => adds_text) rfl scLetters.nd (pi_seq K (pv 0))
          (blkOk_by (N := ["parts", "part", "sign"]) (sc := defScope sLetters) (by decide +kernel)) (by decide)
          (fun _ _ _ _ _ => pg_name (i := 1) scLetters.nd rfl (Or.inl rfl))
          (fun _ _ _ _ _ => pi_str (pv 1))
          (fun _ _ _ _ _ => pg_name (i := 2) scLetters.nd rfl (Or.inl rfl))
          (fun _ _ _ _ _ => pv 2)) pa_nil))), ?_⟩
    refine ⟨_, rfl, a, _, rfl, ha, fun J wJ S hS => ?_⟩
    refine s2_it wJ (fun i H2 => Same H H2 ∧ ∃ L : List Nat, H2 S = some (TSetO w S (L.map sg)) ∧ LT R (if i = 0 then 0 else R.length) L) ⟨same_upd (Same.refl H) hS, [], upd_same, fun _ => Iff.rfl, List.nodup_nil, Nat.le_refl _⟩ (fun i H2 _ q => q.1) ?_ ?_
    · rintro i v H2 H3 hi ⟨s2, L0, hS0, ls0⟩ ⟨rfl, hv⟩
      have hi0 : i = 0 := by
        have : i < 1 := hi
        omega
      subst hi0
      cases (Option.some.inj hv : V.str (tx R) = v)
      rw [if_pos rfl] at ls0
      refine ⟨rfl, _, rfl, tx R, rfl, ?_⟩
      refine s1_it (D := S) (walk_tx (cs := R)) (fun j H4 => Same H H4 ∧ ∃ L : List Nat, H4 S = some (TSetO w S (L.map sg)) ∧ LT R j L) ⟨s2, L0, hS0, ls0⟩ (fun _ _ _ _ => trivial) ?_ ?_
      · rintro j v H4 H5 hj ⟨s4, L, hL, ls⟩ ⟨rfl, x, hx, rfl⟩
        obtain ⟨L', e, ls'⟩ := ls.next hx
        refine ⟨rfl, _, rfl, sg x, L.map sg, rfl, hL, ?_, fun b u e => ?_, L', ?_, ls'⟩
        · rw [List.length_map]
          have := ls.len
          show L.length + 1 < 4096
          omega
        · rw [upd_ne (ne_of_none e hS)]
          exact s4 _ _ e
        · rw [upd_same, e]
      · rintro H4 ⟨s4, L, hL, ls⟩
        exact ⟨s4, L, hL, ls⟩
    · rintro H2 ⟨s2, L, hL, ls⟩
      have ls : LT R R.length L := ls
      have hlen := ls.len
      refine ⟨S, _, rfl, hL, by rw [List.length_map]; omega, fun M q pm pw hq => ?_⟩
      obtain ⟨E2, rfl, pE, aE⟩ := sorted_form pm pw ls.nd
      refine k _ q E2 (fun b u e => ?_) (s2.free hq) ⟨upd_same, fun x => ?_, by rw [pE.length_eq]; exact hlen, aE⟩
      · rw [upd_ne (ne_of_none (s2 _ _ e) hq)]
        exact s2 _ _ e
      · rw [pE.mem_iff, ls.mem, List.take_length]
end
end MO
set_option Elab.async false
set_option linter.all false
set_option maxRecDepth 100000
/-! graph: labels -/
namespace MO
open PySem PySem.Spec PyProof.Rows L2 XS KM
abbrev Node := Bool × Nat
def sd : Bool → Str
  | true => "left"
  | false => "right"
theorem sd_ne : ¬ (sd true = sd false) := by decide +kernel
def nk (n : Node) : List L2.Key := [Sum.inr (sd n.1), Sum.inr (sg n.2)]
def nvs (n : Node) : List V := [.str (sd n.1), .str (sg n.2)]
theorem sd_inj {a b : Bool} (h : sd a = sd b) : a = b := by
  cases a <;> cases b
  · rfl
  · exact absurd h.symm sd_ne
  · exact absurd h sd_ne
  · rfl
theorem nk_inj {a b : Node} (h : nk a = nk b) : a = b := by
  unfold nk at h
  injection h with h1 h2
  injection h2 with h2 _
  injection h1 with h1
  injection h2 with h2
  exact Prod.ext (sd_inj h1) (sg_inj h2)
def tab (ns : List Node) (at_ : Node → Addr) : List (List L2.Key × V) := ns.map fun n => (nk n, V.ref (at_ n))
theorem val_tab {at_ : Node → Addr} {n : Node} : ∀ {ns : List Node}, n ∈ ns → valV (tab ns at_) (nk n) = some (.ref (at_ n))
  | m :: ns, h => by
    by_cases e : m = n
    · subst e
      exact valV_pos (p := (nk m, V.ref (at_ m))) rfl
    · have h2 : n ∈ ns := (List.mem_cons.mp h).elim (fun z => absurd z.symm e) id
      exact (valV_neg (p := (nk m, V.ref (at_ m))) fun z => e (nk_inj z)).trans (val_tab h2)
theorem val_tab_no {at_ : Node → Addr} {n : Node} : ∀ {ns : List Node}, n ∉ ns → valV (tab ns at_) (nk n) = none
  | [], _ => rfl
  | m :: ns, h => by
    have e : ¬ m = n := fun z => h (by rw [z]; exact List.mem_cons_self)
    exact (valV_neg (p := (nk m, V.ref (at_ m))) fun z => e (nk_inj z)).trans (val_tab_no fun z => h (List.mem_cons_of_mem _ z))
theorem put_tab {at_ : Node → Addr} {n : Node} {ns : List Node} (b : Addr) (h : n ∈ ns) : putK (tab ns at_) (nk n) (.ref b) = tab ns (fun m => if m = n then b else at_ m) := by
  unfold putK
  rw [valV_any, val_tab h, if_pos (show (some (V.ref (at_ n))).isSome = true from rfl)]
  unfold tab
  rw [List.map_map]
  refine List.map_congr_left fun m _ => ?_
  by_cases e : m = n
  · subst e
    simp
  · have e2 : ¬ nk m = nk n := fun z => e (nk_inj z)
    simp [e, e2]
theorem put_tab_new {at_ : Node → Addr} {n : Node} {ns : List Node} (b : Addr) (h : n ∉ ns) : putK (tab ns at_) (nk n) (.ref b) = tab (ns ++ [n]) (fun m => if m = n then b else at_ m) := by
  rw [putK_new _ (val_tab_no h)]
  unfold tab
  rw [List.map_append]
  have e : ns.map (fun m => (nk m, V.ref (at_ m))) = ns.map fun m => (nk m, V.ref (if m = n then b else at_ m)) := by
    refine List.map_congr_left fun m hm => ?_
    rw [if_neg fun z : m = n => h (z ▸ hm)]
  rw [e]
  simp
/-- the labels: node -> the tuple of its label -/
structure LabAt (H : Hp) (d : Addr) (ns : List Node) (lab : Node → Node) : Prop where
  ex : ∃ at_ : Node → Addr, H d = some (.dT (tab ns at_)) ∧ ∀ n ∈ ns, H (at_ n) = some (.tup (nvs (lab n)))
theorem LabAt.same {H H' : Hp} {d : Addr} {ns : List Node} {lab : Node → Node} (L : LabAt H d ns lab) (s : Same H H') : LabAt H' d ns lab := by
  obtain ⟨at_, h1, h2⟩ := L.ex
  exact ⟨at_, s _ _ h1, fun n hn => s _ _ (h2 n hn)⟩
theorem LabAt.congr {H : Hp} {d : Addr} {ns : List Node} {lab lab' : Node → Node} (L : LabAt H d ns lab) (h : ∀ n ∈ ns, lab n = lab' n) : LabAt H d ns lab' := by
  obtain ⟨at_, h1, h2⟩ := L.ex
  exact ⟨at_, h1, fun n hn => by rw [← h n hn]; exact h2 n hn⟩
theorem LabAt.get {H : Hp} {d : Addr} {ns : List Node} {lab : Node → Node} (L : LabAt H d ns lab) {n : Node} (hn : n ∈ ns) : ∃ kvs q, H d = some (.dT kvs) ∧ valV kvs (nk n) = some (.ref q) ∧ H q = some (.tup (nvs (lab n))) := by
  obtain ⟨at_, h1, h2⟩ := L.ex
  exact ⟨_, _, h1, val_tab hn, h2 n hn⟩
theorem LabAt.put {H : Hp} {d q : Addr} {ns : List Node} {lab : Node → Node} {n l : Node} (L : LabAt H d ns lab) (hq : H q = some (.tup (nvs l))) :
    ∃ kvs, H d = some (.dT kvs) ∧ kvs.length = ns.length ∧ LabAt (upd H d (.dT (putK kvs (nk n) (.ref q)))) d (if n ∈ ns then ns else ns ++ [n]) (fun m => if m = n then l else lab m) := by
  obtain ⟨at_, h1, h2⟩ := L.ex
  have nq : q ≠ d := ne_of hq h1 (by intro z; cases z)
  have na : ∀ m ∈ ns, at_ m ≠ d := fun m hm => ne_of (h2 m hm) h1 (by intro z; cases z)
  refine ⟨_, h1, by unfold tab; rw [List.length_map], fun m => if m = n then q else at_ m, ?_, fun m hm => ?_⟩
  · by_cases hn : n ∈ ns
    · rw [if_pos hn, upd_same, put_tab q hn]
    · rw [if_neg hn, upd_same, put_tab_new q hn]
  · show upd H d _ (if m = n then q else at_ m) = some (.tup (nvs (if m = n then l else lab m)))
    by_cases e : m = n
    · rw [if_pos e, if_pos e, upd_ne nq]
      exact hq
    · have hm2 : m ∈ ns := by
        by_cases hn : n ∈ ns
        · rw [if_pos hn] at hm; exact hm
        · rw [if_neg hn] at hm
          rcases List.mem_append.mp hm with z | z
          · exact z
          · exact absurd (List.mem_singleton.mp z) e
      rw [if_neg e, if_neg e, upd_ne (na m hm2)]
      exact h2 m hm2
/-- a new tuple as the label, a new tuple as the key -/
theorem LabAt.one {H : Hp} {d q1 q2 : Addr} {ns : List Node} {lab : Node → Node} {n : Node} (L : LabAt H d ns lab) (h1 : H q1 = none) (h2 : upd H q1 (.tup (nvs n)) q2 = none) :
    ∃ kvs, upd (upd H q1 (.tup (nvs n))) q2 (.tup (nvs n)) d = some (.dT kvs) ∧ kvs.length = ns.length ∧
      LabAt (upd (upd (upd H q1 (.tup (nvs n))) q2 (.tup (nvs n))) d (.dT (putK kvs (nk n) (.ref q1)))) d (if n ∈ ns then ns else ns ++ [n]) (fun m => if m = n then n else lab m) := by
  have s2 : Same H (upd (upd H q1 (.tup (nvs n))) q2 (.tup (nvs n))) := same_upd (same_upd (Same.refl _) h1) h2
  have hq1 : (upd (upd H q1 (.tup (nvs n))) q2 (.tup (nvs n))) q1 = some (.tup (nvs n)) := by
    by_cases e : q1 = q2
    · rw [e, upd_same]
    · rw [upd_ne e, upd_same]
  exact (L.same s2).put (n := n) hq1
/-- all but the thing at d is as it was -/
def But (d : Addr) (H H' : Hp) : Prop := ∀ b o, H b = some o → b ≠ d → H' b = some o
theorem But.refl {d : Addr} {H : Hp} : But d H H := fun _ _ h _ => h
theorem But.same {d : Addr} {H H1 H2 : Hp} (b : But d H H1) (s : Same H1 H2) : But d H H2 := fun c o h n => s _ _ (b c o h n)
theorem But.upd {d : Addr} {H H1 : Hp} {o : HO} (b : But d H H1) : But d H (upd H1 d o) := fun c u h n => by
  rw [upd_ne n]
  exact b c u h n
def nodes (xs : List Nat) : List Node := xs.flatMap fun x => [(true, x), (false, x)]
theorem mem_nodes {xs : List Nat} {n : Node} : n ∈ nodes xs ↔ n.2 ∈ xs := by
  unfold nodes
  rw [List.mem_flatMap]
  obtain ⟨s, x⟩ := n
  constructor
  · rintro ⟨y, hy, h⟩
    simp at h
    rcases h with h | h
    · rw [h.2]; exact hy
    · rw [h.2]; exact hy
  · intro h
    refine ⟨x, h, ?_⟩
    cases s <;> simp
theorem nodes_len (xs : List Nat) : (nodes xs).length = 2 * xs.length := by
  unfold nodes
  induction xs with
  | nil => rfl
  | cons x r ih =>
    rw [List.flatMap_cons, List.length_append, ih, List.length_cons]
    show 2 + 2 * r.length = 2 * (r.length + 1)
    omega
theorem nodes_snoc (xs : List Nat) (x : Nat) : nodes (xs ++ [x]) = nodes xs ++ [(true, x)] ++ [(false, x)] := by
  unfold nodes
  rw [List.flatMap_append]
  simp
/-- labels that agree with the edges so far -/
structure LInv (R : List Nat) (E : List (Nat × Nat)) (lab : Node → Node) : Prop where
  nod : ∀ n, n.2 ∈ R → (lab n).2 ∈ R
  edge : ∀ e ∈ E, lab (true, e.1) = lab (false, e.2)
  fit : ∀ f : Bool → Nat → Bool, Fits R f → ∀ n, n.2 ∈ R → f (lab n).1 (lab n).2 = f n.1 n.2
def merge (k l : Node) (n : Node) : Node := if n = l then k else n
theorem LInv.start (R : List Nat) : LInv R [] id := ⟨fun _ h => h, fun _ h => (by cases h), fun _ _ _ _ => rfl⟩
theorem LInv.step {R : List Nat} {E : List (Nat × Nat)} {lab : Node → Node} (L : LInv R E lab) {x y : Nat} (h : Adj R x y) : LInv R (E ++ [(x, y)]) (fun n => merge (lab (true, x)) (lab (false, y)) (lab n)) := by
  have hx : (lab (true, x)).2 ∈ R := L.nod (true, x) h.left
  refine ⟨fun n hn => ?_, fun e he => ?_, fun f hf n hn => ?_⟩
  · unfold merge
    by_cases c : lab n = lab (false, y)
    · rw [if_pos c]; exact hx
    · rw [if_neg c]; exact L.nod n hn
  · rcases List.mem_append.mp he with z | z
    · show merge _ _ _ = merge _ _ _
      rw [L.edge e z]
    · rw [List.mem_singleton.mp z]
      show merge _ _ (lab (true, x)) = merge _ _ (lab (false, y))
      unfold merge
      rw [if_pos rfl]
      by_cases c : lab (true, x) = lab (false, y)
      · rw [if_pos c]
      · rw [if_neg c]
  · unfold merge
    by_cases c : lab n = lab (false, y)
    · rw [if_pos c]
      have h1 := L.fit f hf (true, x) h.left
      have h2 := L.fit f hf (false, y) h.right
      have h3 := L.fit f hf n hn
      rw [c] at h3
      rw [h1, ← h3, h2]
      exact hf x y h
    · rw [if_neg c]
      exact L.fit f hf n hn
theorem LInv.lab {R : List Nat} {E : List (Nat × Nat)} {lab : Node → Node} (L : LInv R E lab) (h : ∀ x y, Adj R x y → (x, y) ∈ E) : Lab R fun s x => lab (s, x) :=
  ⟨fun x y a => L.edge (x, y) (h x y a), fun f hf s x s' x' hx hx' e => by
    have h1 := L.fit f hf (s, x) hx
    have h2 := L.fit f hf (s', x') hx'
    have e : lab (s, x) = lab (s', x') := e
    rw [e] at h1
    exact h1.symm.trans h2⟩
abbrev sLabels : Stmt := top 27
def dat (n : Node) : PyData := .tuple [.str (sd n.1), .str (sg n.2)]
theorem eqv_dat (m n : Node) : PyData.eqv (dat m) (dat n) = decide (m = n) := by
  show (sd m.1 == sd n.1 && (sg m.2 == sg n.2 && true)) = decide (m = n)
  rw [Bool.eq_iff_iff, Bool.and_eq_true, Bool.and_eq_true, beq_iff_eq, beq_iff_eq, decide_eq_true_eq]
  exact ⟨fun ⟨h1, h2, _⟩ => Prod.ext (sd_inj h1) (sg_inj h2), fun h => by rw [h]; exact ⟨rfl, rfl, rfl⟩⟩
theorem shaped_dat {n : Node} (h : n.2 ≤ 1000) : SeqAt.shaped (dat n) = true := by
  have h1 : PyData.strOk (sd n.1) = true := by cases n.1 <;> decide +kernel
  have h2 : PyData.strOk (sg n.2) = true := by
    unfold PyData.strOk
    simp
    omega
  simp [SeqAt.shaped, dat, PyData.canLay0, PyData.canLayAll0, PyData.depth, PyData.depthAll, h1, h2]
theorem dp_dat {K : PySem.W.Frag} {H : Hp} {a : Addr} {n : Node} (h : H a = some (.tup (nvs n))) : Dp K H (.ref a) (dat n) := .tup (SqT.of h) (.cons (.str _) (.cons (.str _) .nil))
section
variable {P : Program} {w : World} {K : PySem.W.Frag} {mg : Str → Option Value} {base : Heap}
/-- labels_of: the labels of all nodes, as the edges ask -/
def spLabels (K : PySem.W.Frag) : Sp := fun vs H Q _ => ∃ (a : Addr) (R : List Nat), vs = [.ref a] ∧ PartsAt K H a R ∧ R.length ≤ 40 ∧ Lows R ∧
  ∀ H' d xs lab, Same H H' → H d = none → LabAt H' d (nodes xs) lab → (∀ x, x ∈ xs ↔ x ∈ R) → xs.Pairwise (· < ·) → Lab R (fun s x => lab (s, x)) → Q (.ref d) H'
theorem scLabels : FnScope ["parts", "labels", "sign", "one", "other", "kept", "lost", "node"] ["parts"] (defScope sLabels) := ⟨rfl, rfl, rfl, by decide +kernel, rfl, by decide +kernel, by decide +kernel⟩
theorem map_at {α β : Type} {f : α → β} {xs : List α} {i : Nat} {y : β} (h : (xs.map f)[i]? = some y) : ∃ x, xs[i]? = some x ∧ y = f x := by
  rw [List.getElem?_map] at h
  obtain ⟨x, h1, h2⟩ := Option.map_eq_some_iff.mp h
  exact ⟨x, h1, h2.symm⟩
theorem d_labels_of (p : Pl K mg "labels_of" sLabels) (T : Bt mg) (C : Cn mg) (D1 : Dn P w K mg base 1 "letters_of" ["parts"] (spLetters K)) (D2 : Dn P w K mg base 1 "links_of" ["parts"] (spLinks K)) : Dn P w K mg base 2 "labels_of" ["parts"] (spLabels K) := by
  refine p.dn scLabels (fun _ _ _ _ _ _ us hl => match us, hl with | [_], _ => rfl) (fun vs H Q E h => ?_) (fun f cdv A outer s H vs Q E hr h => ?_)
  · obtain ⟨a, R, rfl, _⟩ := h
    rfl
  · obtain ⟨a, R, rfl, ha, h40, hlow, k⟩ := h
    have hu := hu_of hr
    refine ⟨_, pss_cons (ps_set (i := 1) scLabels.nd rfl (.inl rfl) pe_dnewT)
      (pss_cons (ps_for PassesOwn.never rfl (pi_list (pe_dn D1 hr (pa_cons (pv 0) pa_nil))) (pg_name (i := 2) scLabels.nd rfl (Or.inl rfl))
        (pss_cons (ps_dput hu (pv 1) (pe_tup (pa_cons (pe_gstr (by rfl) C.left) (pa_cons (pv 2) pa_nil))) (pe_tup (pa_cons (pe_gstr (by rfl) C.left) (pa_cons (pv 2) pa_nil))) rfl)
          (pss_one (ps_dput hu (pv 1) (pe_tup (pa_cons (pe_gstr (by rfl) C.right) (pa_cons (pv 2) pa_nil))) (pe_tup (pa_cons (pe_gstr (by rfl) C.right) (pa_cons (pv 2) pa_nil))) rfl))))
      (pss_cons (ps_for PassesOwn.never rfl (pi_list (pe_dn D2 hr (pa_cons (pv 0) pa_nil))) (pg_tup rfl (pgs_cons (pg_name (i := 3) scLabels.nd rfl (Or.inl rfl)) (pgs_cons (pg_name (i := 4) scLabels.nd rfl (Or.inl rfl)) pgs_nil)))
        (pss_cons (ps_par (i := 5) (j := 6) (by rfl) scLabels.nd rfl rfl (by decide) rfl rfl
            (pa_cons (pe_dget hu (pv 1) (pe_tup (pa_cons (pe_gstr (by rfl) C.left) (pa_cons (pv 3) pa_nil))) (fun _ _ => rfl)) (pa_cons (pe_dget hu (pv 1) (pe_tup (pa_cons (pe_gstr (by rfl) C.right) (pa_cons (pv 4) pa_nil))) (fun _ _ => rfl)) pa_nil)) (by rfl))
          (pss_one (ps_for PassesOwn.never rfl (pi_list (pe_callTy (call_list_dT rfl) (by rfl) T.list (by decide +kernel) (pa_cons (pv 1) pa_nil))) (pg_name (i := 7) scLabels.nd rfl (Or.inl rfl))
            (pss_one (ps_if (pt_cmpR (op_eqD hr.units) (pe_dget hu (pv 1) (pv 7) (fun _ _ => rfl)) (pv 6) (nomark _)) (pss_one (ps_dput hu (pv 1) (pv 7) (pv 5) rfl)) pss_nil))))))
      (pss_one (ps_ret (pv 1))))), ?_⟩
    intro d hd
    have sH : Same H (upd H d (.dT [])) := same_upd (Same.refl H) hd
    refine ⟨_, rfl, a, R, rfl, PartsAt.same sH ha, h40, fun H1 p1 xs s1 np LA => ⟨p1, rfl, ⟨_, SqL.of LA.ls⟩, ?_⟩⟩
    have hd1 : H1 d = some (.dT []) := s1 _ _ upd_same
    have npd : p1 ≠ d := fun z => by rw [z, upd_same] at np; cases np
    refine for_list (K := K) (a := p1) (xs := (xs.map sg).map V.str)
      (fun i σ H2 => ∃ v2, σ = [some (.ref a), some (.ref d), v2, none, none, none, none, none] ∧ But d H1 H2 ∧ LabAt H2 d (nodes (xs.take i)) id)
      ⟨none, rfl, But.refl, ⟨⟨fun _ => d, hd1, fun n hn => by cases hn⟩⟩⟩ (fun i σ H2 _ ⟨_, _, b2, _⟩ => SqL.of (b2 _ _ LA.ls npd)) ?_ ?_
    · rintro i v σ H2 hi ⟨v2, rfl, b2, L⟩
      obtain ⟨y, hy, rfl⟩ := map_at hi
      obtain ⟨c, hc, rfl⟩ := map_at hy
      have hlen : (nodes (xs.take i)).length ≤ 100 := by
        rw [nodes_len, List.length_take]
        have := LA.len
        omega
      have nt : ∀ s : Bool, (s, c) ∉ nodes (xs.take i) := fun s z => by
        have z := mem_nodes.mp z
        have z : c ∈ xs.take i := z
        obtain ⟨j, hj⟩ := List.mem_iff_getElem?.mp z
        obtain ⟨hlt, _⟩ := List.getElem?_eq_some_iff.mp hj
        rw [List.length_take] at hlt
        rw [List.getElem?_take_of_lt (by omega)] at hj
        obtain ⟨e1, e2⟩ := List.getElem?_eq_some_iff.mp hc
        obtain ⟨e3, e4⟩ := List.getElem?_eq_some_iff.mp hj
        have := (List.getElem_inj (nd_of_lt LA.asc)).mp (e2.trans e4.symm)
        omega
      refine ⟨_, rfl, (by show 2 ≤ sizeLine; decide), fun q1 h1 => ⟨_, rfl, _, rfl, (by show 2 ≤ sizeLine; decide), fun q2 h2 => ?_⟩⟩
      obtain ⟨kvs, g1, g2, g3⟩ := L.one (n := (true, c)) h1 h2
      rw [if_neg (nt true)] at g3
      have b3 := (b2.same (same_upd (o := .tup (nvs (true, c))) (same_upd (o := .tup (nvs (true, c))) (Same.refl _) h1) h2)).upd (o := .dT (putK kvs (nk (true, c)) (.ref q1)))
      refine ⟨d, _, rfl, DPut.t (k := nk (true, c)) g1 upd_same (small1000 (by omega)), ?_⟩
      refine ⟨_, rfl, (by show 2 ≤ sizeLine; decide), fun q3 h3 => ⟨_, rfl, _, rfl, (by show 2 ≤ sizeLine; decide), fun q4 h4 => ?_⟩⟩
      obtain ⟨kvs2, k1, k2, k3⟩ := g3.one (n := (false, c)) h3 h4
      rw [if_neg fun z => (List.mem_append.mp z).elim (nt false) fun z => by simp at z] at k3
      have b5 := (b3.same (same_upd (o := .tup (nvs (false, c))) (same_upd (o := .tup (nvs (false, c))) (Same.refl _) h3) h4)).upd (o := .dT (putK kvs2 (nk (false, c)) (.ref q3)))
      have hlen2 : kvs2.length ≤ 101 := by
        rw [k2, List.length_append, List.length_singleton]
        omega
      refine ⟨d, _, rfl, DPut.t (k := nk (false, c)) k1 upd_same (small1000 (by omega)), ?_⟩
      refine ⟨_, rfl, b5, ?_⟩
      have et : xs.take (i + 1) = xs.take i ++ [c] := by rw [List.take_add_one, hc]; rfl
      rw [et, nodes_snoc]
      exact k3.congr fun n _ => by
        by_cases e : n = (false, c)
        · simp [e]
        · by_cases e2 : n = (true, c)
          · simp [e2]
          · simp [e, e2]
    · rintro σ H2 ⟨v2, rfl, b2, L⟩
      rw [List.length_map, List.length_map, List.take_length] at L
      have s12 : Same H H2 := fun b o e => b2 _ _ (s1 _ _ (sH _ _ e)) (ne_of_none e hd)
      refine ⟨_, rfl, a, R, rfl, PartsAt.same s12 ha, h40, fun H3 p2 M s3 np2 LK => ⟨p2, rfl, ⟨_, SqL.of LK.ls⟩, ?_⟩⟩
      have L3 := L.same s3
      obtain ⟨at3, hd3, _⟩ := L3.ex
      have npd2 : p2 ≠ d := fun z => by
        obtain ⟨at_, z1, _⟩ := L.ex
        rw [z, z1] at np2
        cases np2
      have tn : ∀ q ∈ M, q.1 ≠ d := fun q hq => ne_of (LK.tp q hq) hd3 (by intro z; cases z)
      have nlen : (nodes xs).length ≤ 80 := by
        rw [nodes_len]
        have := LA.len
        omega
      have low : ∀ n : Node, n.2 ∈ R → n.2 ≤ 1000 := fun n hn => Nat.le_trans (hlow n.2 hn).2 (by decide)
      refine for_list (K := K) (a := p2) (xs := M.map fun q => V.ref q.1)
        (fun i σ H4 => ∃ v2 v3 v4 v5 v6 v7 lab, σ = [some (.ref a), some (.ref d), v2, v3, v4, v5, v6, v7] ∧ But d H3 H4 ∧ LabAt H4 d (nodes xs) lab ∧ LInv R ((M.take i).map (·.2)) lab)
        ⟨_, _, _, _, _, _, id, rfl, But.refl, L3, LInv.start R⟩ (fun i σ H4 _ ⟨_, _, _, _, _, _, _, _, b4, _⟩ => SqL.of (b4 _ _ LK.ls npd2)) ?_ ?_
      · rintro i v σ H4 hi ⟨v2, v3, v4, v5, v6, v7, lab, rfl, b4, L4, V4⟩
        obtain ⟨q, hq, rfl⟩ := map_at hi
        have hqM := List.mem_of_getElem? hq
        have ht := b4 _ _ (LK.tp q hqM) (tn q hqM)
        have adj := LK.adj q hqM
        have memx : ∀ n : Node, n.2 ∈ R → n ∈ nodes xs := fun n hn => mem_nodes.mpr ((LA.mem n.2).mpr hn)
        have memr : ∀ n : Node, n ∈ nodes xs → n.2 ∈ R := fun n hn => (LA.mem n.2).mp (mem_nodes.mp hn)
        refine ⟨q.1, _, rfl, SqT.of ht, rfl, _, _, rfl, _, _, rfl, rfl, ?_⟩
        -- kept, lost
        refine ⟨_, rfl, _, rfl, (by show 2 ≤ sizeLine; decide), fun q1 h1 => ?_⟩
        have s5 : Same H4 (upd H4 q1 (.tup (nvs (true, q.2.1)))) := same_upd (Same.refl _) h1
        obtain ⟨kv1, qa, e1, e2, e3⟩ := (L4.same s5).get (memx (true, q.2.1) adj.left)
        refine ⟨d, .ref qa, rfl, by rw [← e2]; exact DGet.t (k := nk (true, q.2.1)) e1 upd_same, ?_⟩
        refine ⟨_, rfl, _, rfl, (by show 2 ≤ sizeLine; decide), fun q2 h2 => ?_⟩
        have s56 : Same (upd H4 q1 (.tup (nvs (true, q.2.1)))) (upd (upd H4 q1 (.tup (nvs (true, q.2.1)))) q2 (.tup (nvs (false, q.2.2)))) := same_upd (Same.refl _) h2
        have s6 := s5.trans s56
        obtain ⟨kv2, qb, f1, f2, f3⟩ := (L4.same s6).get (memx (false, q.2.2) adj.right)
        have e3 := s56 _ _ e3
        refine ⟨d, .ref qb, rfl, by rw [← f2]; exact DGet.t (k := nk (false, q.2.2)) f1 upd_same, ?_⟩
        have L6 := L4.same s6
        obtain ⟨at6, hd6, _⟩ := id L6.ex
        have b6 := b4.same s6
        refine ⟨_, _, rfl, ?_⟩
        -- for node in list(labels)
        refine ⟨_, rfl, d, _, rfl, .inl hd6, fun p3 bs np3 isk => ⟨p3, rfl, ⟨_, SqL.of upd_same⟩, ?_⟩⟩
        have s67 := same_upd (o := .lst (bs.map V.ref)) (Same.refl _) np3
        have L7 := L6.same s67
        have e3 := s67 _ _ e3
        have f3 := s67 _ _ f3
        have b7 := b6.same s67
        have hd7 := s67 _ _ hd6
        have keys : ∀ (j : Nat) (b : Addr), bs[j]? = some b → ∃ n, (nodes xs)[j]? = some n ∧ n ∈ nodes xs ∧ (upd (upd (upd H4 q1 (.tup (nvs (true, q.2.1)))) q2 (.tup (nvs (false, q.2.2)))) p3 (.lst (bs.map V.ref))) b = some (.tup (nvs n)) := fun j b hb => by
          have hl : (tab (nodes xs) at6).length = bs.length := Paired.length isk
          obtain ⟨hlt, _⟩ := List.getElem?_eq_some_iff.mp hb
          have hlt2 : j < (nodes xs).length := by
            rw [← hl] at hlt
            unfold tab at hlt
            rw [List.length_map] at hlt
            exact hlt
          have hn : (nodes xs)[j]? = some (nodes xs)[j] := List.getElem?_eq_getElem hlt2
          have hk : (tab (nodes xs) at6)[j]? = some (nk (nodes xs)[j], V.ref (at6 (nodes xs)[j])) := by
            unfold tab
            rw [List.getElem?_map, hn]
            rfl
          obtain ⟨b', hb', h⟩ := L2.paired_get isk hk
          rw [hb] at hb'
          cases hb'
          exact ⟨_, hn, List.mem_of_getElem? hn, s67 _ _ h⟩
        have bl : bs.length = (nodes xs).length := by
          have hl : (tab (nodes xs) at6).length = bs.length := Paired.length isk
          rw [← hl]
          unfold tab
          rw [List.length_map]
        have memk : ∀ n : Node, n ∈ nodes xs → ∀ k0 l0 : Node, k0.2 ∈ R → l0.2 ∈ R → (merge k0 l0 n).2 ∈ R := fun n hn k0 l0 h1 h2 => by
          unfold merge
          split
          · exact h1
          · exact memr n hn
        have hk0 : (lab (true, q.2.1)).2 ∈ R := V4.nod (true, q.2.1) adj.left
        have hl0 : (lab (false, q.2.2)).2 ∈ R := V4.nod (false, q.2.2) adj.right
        refine for_list (K := K) (a := p3) (xs := bs.map V.ref)
          (fun j σ H8 => ∃ v7 lab', σ = [some (.ref a), some (.ref d), v2, some (.str (sg q.2.1)), some (.str (sg q.2.2)), some (.ref qa), some (.ref qb), v7] ∧
            But d (upd (upd (upd H4 q1 (.tup (nvs (true, q.2.1)))) q2 (.tup (nvs (false, q.2.2)))) p3 (.lst (bs.map V.ref))) H8 ∧ LabAt H8 d (nodes xs) lab' ∧
            ∀ m ∈ nodes xs, lab' m = if m ∈ (nodes xs).take j then merge (lab (true, q.2.1)) (lab (false, q.2.2)) (lab m) else lab m)
          ⟨v7, lab, rfl, But.refl, L7, fun m hm => by simp⟩ (fun j σ H8 _ ⟨_, _, _, b8, _⟩ => SqL.of (b8 _ _ upd_same (fun z => by
            rw [z] at np3
            have w := hd6.symm.trans np3
            cases w))) ?_ ?_
        · rintro j v σ H8 hj ⟨v7', lab', rfl, b8, L8, V8⟩
          obtain ⟨b, hb, rfl⟩ := map_at hj
          obtain ⟨n, hn, hnm, hbt⟩ := keys j b hb
          have hbt8 := b8 _ _ hbt (ne_of hbt hd7 (by intro z; cases z))
          have e38 := b8 _ _ e3 (ne_of e3 hd7 (by intro z; cases z))
          have f38 := b8 _ _ f3 (ne_of f3 hd7 (by intro z; cases z))
          obtain ⟨kvs, qn, g1, g2, g3⟩ := L8.get hnm
          have hln : (lab' n).2 ∈ R := by
            rw [V8 n hnm]
            split
            · unfold merge
              split
              · exact hk0
              · exact V4.nod n (memr n hnm)
            · exact V4.nod n (memr n hnm)
          have et : ∀ m, m ∈ (nodes xs).take (j + 1) ↔ m ∈ (nodes xs).take j ∨ m = n := fun m => by
            rw [List.take_add_one, hn, List.mem_append]
            simp
          refine ⟨_, rfl, _, rfl, d, .ref qn, rfl, by rw [← g2]; exact DGet.t (k := nk n) g1 hbt8, _, rfl, dat (lab' n), dat (lab (false, q.2.2)), dp_dat g3, dp_dat f38, shaped_dat (low _ hln), shaped_dat (low _ hl0), _, rfl, ?_⟩
          rw [eqv_dat]
          refine ite2 (fun e => ?_) (fun e => ?_)
          · have e := of_decide_eq_true e
            obtain ⟨kvs2, w1, w2, w3⟩ := L8.put (n := n) e38
            rw [if_pos hnm] at w3
            refine ⟨_, rfl, _, rfl, _, rfl, d, _, rfl, DPut.t (k := nk n) w1 hbt8 (small1000 (by omega)), ?_⟩
            refine ⟨_, _, rfl, b8.upd, w3, fun m hm => ?_⟩
            by_cases c : m = n
            · subst c
              rw [if_pos rfl, if_pos ((et m).mpr (.inr rfl))]
              have v := V8 m hnm
              rw [e] at v
              unfold merge
              by_cases z : lab m = lab (false, q.2.2)
              · rw [if_pos z]
              · exfalso
                by_cases y : m ∈ (nodes xs).take j
                · rw [if_pos y] at v
                  unfold merge at v
                  rw [if_neg z] at v
                  exact z v.symm
                · rw [if_neg y] at v
                  exact z v.symm
            · rw [if_neg c, V8 m hm]
              by_cases y : m ∈ (nodes xs).take j
              · rw [if_pos y, if_pos ((et m).mpr (.inl y))]
              · rw [if_neg y, if_neg fun z => ((et m).mp z).elim y c]
          · have e : ¬ lab' n = lab (false, q.2.2) := fun z => e (decide_eq_true z)
            refine ⟨_, lab', rfl, b8, L8, fun m hm => ?_⟩
            by_cases c : m = n
            · subst c
              rw [if_pos ((et m).mpr (.inr rfl))]
              have v := V8 m hnm
              by_cases y : m ∈ (nodes xs).take j
              · rw [if_pos y] at v
                exact v
              · rw [if_neg y] at v
                rw [v]
                rw [v] at e
                unfold merge
                rw [if_neg e]
            · rw [V8 m hm]
              by_cases y : m ∈ (nodes xs).take j
              · rw [if_pos y, if_pos ((et m).mpr (.inl y))]
              · rw [if_neg y, if_neg fun z => ((et m).mp z).elim y c]
        · rintro σ H8 ⟨v7', lab', rfl, b8, L8, V8⟩
          refine ⟨_, _, _, _, _, _, fun n => merge (lab (true, q.2.1)) (lab (false, q.2.2)) (lab n), rfl, fun c o e ne => b8 _ _ (b7 _ _ e ne) ne, L8.congr fun m hm => ?_, ?_⟩
          · rw [V8 m hm, List.length_map, bl, List.take_length, if_pos hm]
          · rw [List.take_add_one, hq, List.map_append]
            exact V4.step adj
      · rintro σ H4 ⟨v2, v3, v4, v5, v6, v7, lab, rfl, b4, L4, V4⟩
        rw [List.length_map, List.take_length] at V4
        refine ⟨_, rfl, k H4 d xs lab (fun b o e => b4 _ _ (s3 _ _ (s12 _ _ e)) (ne_of_none e hd)) hd L4 LA.mem LA.asc (V4.lab fun x y h => ?_)⟩
        obtain ⟨q, hq, e⟩ := LK.all x y h
        exact List.mem_map.mpr ⟨q, hq, e⟩
end
end MO
set_option Elab.async false
set_option linter.all false
set_option maxRecDepth 100000
/-! graph: components -/
namespace MO
open PySem PySem.Spec PyProof.Rows L2 XS KM
def rJoinK (K : PySem.W.Frag) : V → List V → Hp → VK → Prop := fun x xs H Q => ∃ a p, ∃ ys : List Str, x = .str a ∧ xs = [.ref p] ∧ (SqL K H p (ys.map V.str) ∨ SqT K H p (ys.map V.str)) ∧ (ys.map (·.length)).sum + ys.length * a.length ≤ 16777216 ∧ Q (.str (Txt.join a ys)) H
theorem pe_joinK {X : Cx} (K : PySem.W.Frag) {o e : Expr} {to te : TE} {apos pos : Pos} (ho : PE X o to) (he : PE X e te) (hK : X.K = K := by rfl) (hs : starEach [e] X.env = [(false, eval e X.env)] := by rfl) (hbase : attributeBase o "join" X.env (eval o X.env) = eval o X.env := by rfl) (hline : (apos.endLine == pos.line) = true := by rfl) :
    PE X (.Call (.Attribute o "join" apos) [e] [] pos) (tM1 (rJoinK K) to te) := by
  subst hK
  exact pe_join ho he hs hbase hline
/-- the lists of each label, left and right -/
structure SidesAl (B H : Hp) (dl dr : Addr) (ls : List Node) (ct : Bool → Node → List Nat) (al : Bool → Node → Addr) : Prop where
  ne : dl ≠ dr
  left : H dl = some (.dT (tab ls (al true)))
  right : H dr = some (.dT (tab ls (al false)))
  lst : ∀ s, ∀ l ∈ ls, H (al s l) = some (.lst (((ct s l).map sg).map V.str)) ∧ B (al s l) = none
  inj : ∀ s s' l l', l ∈ ls → l' ∈ ls → al s l = al s' l' → s = s' ∧ l = l'
structure SidesAt (B H : Hp) (dl dr : Addr) (ls : List Node) (ct : Bool → Node → List Nat) : Prop where
  ex : ∃ al, SidesAl B H dl dr ls ct al
section
variable {B H : Hp} {dl dr : Addr} {ls : List Node} {ct : Bool → Node → List Nat} {al : Bool → Node → Addr}
theorem SidesAl.same {H' : Hp} (S : SidesAl B H dl dr ls ct al) (s : Same H H') : SidesAl B H' dl dr ls ct al :=
  ⟨S.ne, s _ _ S.left, s _ _ S.right, fun b l hl => ⟨s _ _ (S.lst b l hl).1, (S.lst b l hl).2⟩, S.inj⟩
theorem SidesAt.same {H' : Hp} (S : SidesAt B H dl dr ls ct) (s : Same H H') : SidesAt B H' dl dr ls ct := by
  obtain ⟨al, S⟩ := S.ex
  exact ⟨al, S.same s⟩
theorem SidesAt.congr {ct' : Bool → Node → List Nat} (S : SidesAt B H dl dr ls ct) (h : ∀ s, ∀ l ∈ ls, ct s l = ct' s l) : SidesAt B H dl dr ls ct' := by
  obtain ⟨al, S⟩ := S.ex
  exact ⟨al, S.ne, S.left, S.right, fun b l hl => by rw [← h b l hl]; exact S.lst b l hl, S.inj⟩
/-- a new label: a new list on both sides -/
theorem SidesAl.add {l : Node} {q1 q2 : Addr} (S : SidesAl B H dl dr ls ct al) (hl : l ∉ ls) (h1 : H q1 = none) (b1 : B q1 = none) (b2 : B q2 = none)
    (h2 : (upd (upd H q1 (.lst [])) dl (.dT (putK (tab ls (al true)) (nk l) (.ref q1)))) q2 = none) :
    (upd (upd (upd H q1 (.lst [])) dl (.dT (putK (tab ls (al true)) (nk l) (.ref q1)))) q2 (.lst [])) dr = some (.dT (tab ls (al false))) ∧
      SidesAt B (upd (upd (upd (upd H q1 (.lst [])) dl (.dT (putK (tab ls (al true)) (nk l) (.ref q1)))) q2 (.lst [])) dr (.dT (putK (tab ls (al false)) (nk l) (.ref q2)))) dl dr (ls ++ [l]) (fun s m => if m = l then [] else ct s m) := by
  obtain ⟨ne, g1, g2, g3, g4⟩ := S
  have nl : dl ≠ q1 := ne_of_none g1 h1
  have nr : dr ≠ q1 := ne_of_none g2 h1
  have n2l : dl ≠ q2 := fun z => by rw [← z, upd_same] at h2; cases h2
  have n21 : q1 ≠ q2 := fun z => by
    rw [← z, upd_ne nl.symm, upd_same] at h2
    cases h2
  have hq2 : H q2 = none := by
    rw [upd_ne n2l.symm, upd_ne n21.symm] at h2
    exact h2
  have n2r : dr ≠ q2 := ne_of_none g2 hq2
  refine ⟨by rw [upd_ne n2r, upd_ne ne.symm, upd_ne nr]; exact g2, fun s m => if m = l then (if s = true then q1 else q2) else al s m, ne, ?_, ?_, fun s m hm => ?_, fun s s' m m' hm hm' e => ?_⟩
  · rw [upd_ne ne, upd_ne n2l, upd_same, put_tab_new q1 hl]
    rfl
  · rw [upd_same, put_tab_new q2 hl]
    rfl
  · have hm2 : m ≠ l → m ∈ ls := fun z => (List.mem_append.mp hm).elim id fun y => absurd (List.mem_singleton.mp y) z
    show upd _ _ _ (if m = l then (if s = true then q1 else q2) else al s m) = some (HO.lst (((if m = l then [] else ct s m).map sg).map V.str)) ∧ B (if m = l then (if s = true then q1 else q2) else al s m) = none
    by_cases c : m = l
    · rw [if_pos c, if_pos c]
      cases s with
      | true => rw [if_pos rfl]; exact ⟨by rw [upd_ne nr.symm, upd_ne n21, upd_ne nl.symm, upd_same]; rfl, b1⟩
      | false => rw [if_neg (by decide)]; exact ⟨by rw [upd_ne n2r.symm, upd_same]; rfl, b2⟩
    · rw [if_neg c, if_neg c]
      obtain ⟨w1, w2⟩ := g3 s m (hm2 c)
      refine ⟨?_, w2⟩
      rw [upd_ne (ne_of w1 g2 (by intro z; cases z)), upd_ne (ne_of_none w1 hq2), upd_ne (ne_of w1 g1 (by intro z; cases z)), upd_ne (ne_of_none w1 h1)]
      exact w1
  · have mm : ∀ m, m ∈ ls ++ [l] → m ≠ l → m ∈ ls := fun m hm z => (List.mem_append.mp hm).elim id fun y => absurd (List.mem_singleton.mp y) z
    have old : ∀ s m, m ∈ ls → al s m ≠ q1 ∧ al s m ≠ q2 := fun s m hm => ⟨ne_of_none (g3 s m hm).1 h1, ne_of_none (g3 s m hm).1 hq2⟩
    have e : (if m = l then (if s = true then q1 else q2) else al s m) = (if m' = l then (if s' = true then q1 else q2) else al s' m') := e
    by_cases c : m = l
    · by_cases c' : m' = l
      · rw [if_pos c, if_pos c'] at e
        refine ⟨?_, by rw [c, c']⟩
        cases s <;> cases s'
        · rfl
        · exact absurd (show q2 = q1 from e) n21.symm
        · exact absurd (show q1 = q2 from e) n21
        · rfl
      · rw [if_pos c, if_neg c'] at e
        obtain ⟨y1, y2⟩ := old s' m' (mm m' hm' c')
        exfalso
        cases s with
        | true => exact y1 (show q1 = al s' m' from e).symm
        | false => exact y2 (show q2 = al s' m' from e).symm
    · by_cases c' : m' = l
      · rw [if_neg c, if_pos c'] at e
        obtain ⟨y1, y2⟩ := old s m (mm m hm c)
        exfalso
        cases s' with
        | true => exact y1 (show al s m = q1 from e)
        | false => exact y2 (show al s m = q2 from e)
      · rw [if_neg c, if_neg c'] at e
        exact g4 s s' m m' (mm m hm c) (mm m' hm' c') e
/-- a sign at the end of one list -/
theorem SidesAt.app {l : Node} (S : SidesAt B H dl dr ls ct) (hl : l ∈ ls) (s : Bool) (c : Nat) :
    ∃ kv q, H (if s = true then dl else dr) = some (.dT kv) ∧ valV kv (nk l) = some (.ref q) ∧ H q = some (.lst (((ct s l).map sg).map V.str)) ∧ B q = none ∧
      SidesAt B (upd H q (.lst (((ct s l).map sg).map V.str ++ [.str (sg c)]))) dl dr ls (fun s' m => if s' = s ∧ m = l then ct s' m ++ [c] else ct s' m) := by
  obtain ⟨al, ne, g1, g2, g3, g4⟩ := S.ex
  obtain ⟨w1, w2⟩ := g3 s l hl
  have nl : dl ≠ al s l := ne_of g1 w1 (by intro z; cases z)
  have nr : dr ≠ al s l := ne_of g2 w1 (by intro z; cases z)
  refine ⟨tab ls (al s), al s l, ?_, val_tab hl, w1, w2, al, ne, by rw [upd_ne nl]; exact g1, by rw [upd_ne nr]; exact g2, fun s' m hm => ?_, g4⟩
  · cases s with
    | true => exact g1
    | false => exact g2
  · obtain ⟨y1, y2⟩ := g3 s' m hm
    refine ⟨?_, y2⟩
    by_cases e : s' = s ∧ m = l
    · rw [if_pos e, e.1, e.2, upd_same, List.map_append, List.map_append]
      rfl
    · rw [if_neg e, upd_ne fun z => e (g4 _ _ _ _ hm hl z)]
      exact y1
end
theorem walk_itemsT {d : Addr} {o : Obj} {kvs : List (List L2.Key × V)} : Walk (ItiT d o kvs) kvs.length (fun H => H d = some (.frz o (.dT kvs)))
    (fun i H x H' => ∃ T q k v, kvs[i]? = some (k, v) ∧ x = .ref T ∧ H T = none ∧ H q = some (.tup (k.map kV)) ∧ H' = upd H T (.tup [.ref q, v])) :=
  ⟨fun _ _ hi q => ⟨q, hi⟩, fun _ q => ⟨q, Nat.le_refl _⟩, fun _ _ _ _ _ _ y => y⟩
/-- the signs of a side with a label, among some nodes -/
def ctN (ns : List Node) (lab : Node → Node) (s : Bool) (l : Node) : List Nat := (ns.filter fun n => decide (n.1 = s ∧ lab n = l)).map (·.2)
theorem mem_ctN {ns : List Node} {lab : Node → Node} {s : Bool} {l : Node} {x : Nat} : x ∈ ctN ns lab s l ↔ (s, x) ∈ ns ∧ lab (s, x) = l := by
  unfold ctN
  rw [List.mem_map]
  constructor
  · rintro ⟨n, hn, e⟩
    obtain ⟨h1, h2⟩ := List.mem_filter.mp hn
    obtain ⟨h3, h4⟩ := of_decide_eq_true h2
    have : n = (s, x) := Prod.ext h3 e
    rw [← this]
    exact ⟨h1, h4⟩
  · rintro ⟨h1, h2⟩
    exact ⟨(s, x), List.mem_filter.mpr ⟨h1, decide_eq_true ⟨rfl, h2⟩⟩, rfl⟩
theorem ctN_snoc (ns : List Node) (lab : Node → Node) (n : Node) (s : Bool) (l : Node) : ctN (ns ++ [n]) lab s l = if s = n.1 ∧ l = lab n then ctN ns lab s l ++ [n.2] else ctN ns lab s l := by
  unfold ctN
  rw [List.filter_append, List.map_append]
  by_cases h : s = n.1 ∧ l = lab n
  · rw [if_pos h, List.filter_cons, if_pos (decide_eq_true ⟨h.1.symm, h.2.symm⟩)]
    rfl
  · rw [if_neg h, List.filter_cons, if_neg fun z => h ⟨(of_decide_eq_true z).1.symm, (of_decide_eq_true z).2.symm⟩]
    simp
theorem ctN_len (ns : List Node) (lab : Node → Node) (s : Bool) (l : Node) : (ctN ns lab s l).length ≤ ns.length := by
  unfold ctN
  rw [List.length_map]
  exact List.length_filter_le _ _
/-- labels met so far -/
structure LsOk (ns : List Node) (lab : Node → Node) (ls : List Node) : Prop where
  nd : ls.Nodup
  mem : ∀ l, l ∈ ls ↔ ∃ n ∈ ns, lab n = l
  len : ls.length ≤ ns.length
theorem perm_map_inv {α β : Type} {f : α → β} {l m : List β} (h : l.Perm m) : ∀ M : List α, m = M.map f → ∃ M' : List α, M'.Perm M ∧ l = M'.map f := by
  induction h with
  | nil => exact fun M e => ⟨M, List.Perm.refl _, e⟩
  | cons x _ ih =>
    intro M e
    cases M with
    | nil => cases e
    | cons y M =>
      rw [List.map_cons] at e
      injection e with e1 e2
      obtain ⟨M', h1, h2⟩ := ih M e2
      exact ⟨y :: M', h1.cons y, by rw [List.map_cons, e1, h2]⟩
  | swap x y t =>
    intro M e
    match M, e with
    | a :: b :: M, e =>
      rw [List.map_cons, List.map_cons] at e
      injection e with e1 e2
      injection e2 with e2 e3
      exact ⟨b :: a :: M, List.Perm.swap _ _ _, by rw [List.map_cons, List.map_cons, e1, e2, e3]⟩
  | trans _ _ ih1 ih2 =>
    intro M e
    obtain ⟨M2, h1, h2⟩ := ih2 M e
    obtain ⟨M3, h3, h4⟩ := ih1 M2 h2
    exact ⟨M3, h3.trans h1, h4⟩
abbrev sComps : Stmt := top 28
section
variable {P : Program} {w : World} {K : PySem.W.Frag} {mg : Str → Option Value} {base : Heap}
/-- a list of pairs of texts -/
structure CompsAt (H : Hp) (p : Addr) (cs : List Comp) : Prop where
  ex : ∃ M : List (Addr × Comp), H p = some (.lst (M.map fun q => V.ref q.1)) ∧ cs = M.map (·.2) ∧ (∀ q ∈ M, H q.1 = some (.tup [.str (tx q.2.1), .str (tx q.2.2)])) ∧ M.length ≤ 100 ∧ ∀ q ∈ M, q.2.1.length ≤ 100 ∧ q.2.2.length ≤ 100
def spComps (K : PySem.W.Frag) : Sp := fun vs H Q _ => ∃ (a : Addr) (R : List Nat), vs = [.ref a] ∧ PartsAt K H a R ∧ R.length ≤ 40 ∧ Lows R ∧
  ∀ H' p cs, Same H H' → H p = none → CompsAt H' p cs → CompsOk R cs → Q (.ref p) H'
theorem scComps : FnScope ["parts", "labels", "lefts", "rights", "side", "sign", "label"] ["parts"] (defScope sComps) := ⟨rfl, rfl, rfl, by decide +kernel, rfl, by decide +kernel, by decide +kernel⟩
theorem d_components_of (p : Pl K mg "components_of" sComps) (T : Bt mg) (C : Cn mg) (D1 : Dn P w K mg base 2 "labels_of" ["parts"] (spLabels K)) : Dn P w K mg base 3 "components_of" ["parts"] (spComps K) := by
  refine p.dn scComps (fun _ _ _ _ _ _ us hl => match us, hl with | [_], _ => rfl) (fun vs H Q E h => ?_) (fun f cdv A outer s H vs Q E hr h => ?_)
  · obtain ⟨a, R, rfl, _⟩ := h
    rfl
  · obtain ⟨a, R, rfl, ha, h40, hlow, k⟩ := h
    have hu := hu_of hr
    refine ⟨_, pss_cons (ps_asg (pe_tup (pa_cons (pe_dn D1 hr (pa_cons (pv 0) pa_nil)) (pa_cons pe_dnewT (pa_cons pe_dnewT pa_nil))))
        (pg_tup rfl (pgs_cons (pg_name (i := 1) scComps.nd rfl (Or.inl rfl)) (pgs_cons (pg_name (i := 2) scComps.nd rfl (Or.inr rfl)) (pgs_cons (pg_name (i := 3) scComps.nd rfl (Or.inr rfl)) pgs_nil)))))
      (pss_cons (ps_lock (ps_for PassesOwn.never rfl (pi_itemsT (pv 1)) (pg_tup rfl (pgs_cons (pg_tup rfl (pgs_cons (pg_name (i := 4) scComps.nd rfl (Or.inl rfl)) (pgs_cons (pg_name (i := 5) scComps.nd rfl (Or.inl rfl)) pgs_nil)))
            (pgs_cons (pg_name (i := 6) scComps.nd rfl (Or.inl rfl)) pgs_nil)))
        (pss_cons (ps_expr (pe_bm PySem.F.plainAttrs_dict PySem.F.slot_dict_setdefault PySem.F.type_dict_setdefault (mt_setdT hu) (pv 2) (pa_cons (pv 6) (pa_cons (pe_lst pa_nil) pa_nil))))
        (pss_cons (ps_expr (pe_bm PySem.F.plainAttrs_dict PySem.F.slot_dict_setdefault PySem.F.type_dict_setdefault (mt_setdT hu) (pv 3) (pa_cons (pv 6) (pa_cons (pe_lst pa_nil) pa_nil))))
        (pss_one (ps_if (pt_cmpR op_eq (pv 4) (pe_gstr (by rfl) C.left) (nomark _))
          (pss_one (ps_expr (pe_bm PySem.F.plainAttrs_list PySem.F.slot_list_append PySem.F.type_list_append mt_append (pe_dget hu (pv 2) (pv 6) (fun _ _ => rfl)) (pa_cons (pv 5) pa_nil))))
          (pss_one (ps_expr (pe_bm PySem.F.plainAttrs_list PySem.F.slot_list_append PySem.F.type_list_append mt_append (pe_dget hu (pv 3) (pv 6) (fun _ _ => rfl)) (pa_cons (pv 5) pa_nil))))))))))
      (pss_one (ps_ret (pe_callB (cr_sortL2 hr.units) (by rfl) T.sorted (by decide +kernel) (pa_cons
        (pe_lock (pe_lc (own := [("label", 6)]) (g := gName 6) (tt := tYes) rfl scComps.nd (pi_keys (pv 2)) (blkOk_by (N := ["parts", "labels", "lefts", "rights", "side", "sign", "label"]) (sc := defScope sComps) (by decide +kernel))
          (fun _ _ _ _ _ => pg_name (i := 6) scComps.nd rfl (Or.inl rfl)) (fun _ _ _ _ _ => pts_nil)
          (fun _ _ _ _ _ => pe_tup (pa_cons (pe_joinK K pe_str (pe_dget hu (pv 2) (pv 6) (fun _ _ => rfl))) (pa_cons (pe_joinK K pe_str (pe_dget hu (pv 3) (pv 6) (fun _ _ => rfl))) pa_nil))))) pa_nil))))), ?_⟩
    refine ⟨_, rfl, a, R, rfl, ha, h40, hlow, fun B d xs lab s1 hd L hxs asc lb => ?_⟩
    intro dl hdl dr hdr
    have nrl : dr ≠ dl := fun z => by rw [z, upd_same] at hdr; cases hdr
    have hdrB : B dr = none := by rw [upd_ne nrl] at hdr; exact hdr
    have sB : Same B (upd (upd B dl (.dT [])) dr (.dT [])) := same_upd (same_upd (Same.refl _) hdl) hdr
    refine ⟨(by show 3 ≤ sizeLine; decide), fun T0 hT0 => ⟨T0, _, rfl, SqT.of upd_same, rfl, _, _, rfl, _, _, rfl, _, _, rfl, rfl, ?_⟩⟩
    have nT : ∀ b o, (upd (upd B dl (.dT [])) dr (.dT [])) b = some o → b ≠ T0 := fun b o e => ne_of_none e hT0
    have sT : Same B (upd (upd (upd B dl (.dT [])) dr (.dT [])) T0 (.tup [.ref d, .ref dl, .ref dr])) := same_upd sB hT0
    obtain ⟨at0, hd0, hat0⟩ := L.ex
    have ndl : dl ≠ d := fun z => by rw [z, hd0] at hdl; cases hdl
    have ndr : dr ≠ d := fun z => by rw [z, hd0] at hdrB; cases hdrB
    have hl0 : (upd (upd (upd B dl (.dT [])) dr (.dT [])) T0 (.tup [.ref d, .ref dl, .ref dr])) dl = some (.dT []) := by
      have q : (upd (upd B dl (.dT [])) dr (.dT [])) dl = some (.dT []) := by rw [upd_ne nrl.symm, upd_same]
      rw [upd_ne (nT _ _ q)]
      exact q
    have hr0 : (upd (upd (upd B dl (.dT [])) dr (.dT [])) T0 (.tup [.ref d, .ref dl, .ref dr])) dr = some (.dT []) := by
      have q : (upd (upd B dl (.dT [])) dr (.dT [])) dr = some (.dT []) := upd_same
      rw [upd_ne (nT _ _ q)]
      exact q
    generalize hns : nodes xs = ns at *
    have nlen : ns.length ≤ 80 := by
      rw [← hns, nodes_len]
      have : xs.length ≤ R.length := sub_len (nd_of_lt asc) fun x hx => (hxs x).mp hx
      omega
    refine ⟨d, _, sT _ _ hd0, trivial, fun od => ?_⟩
    have kl : (tab ns at0).length = ns.length := by unfold tab; rw [List.length_map]
    refine ⟨_, rfl, d, od, tab ns at0, rfl, upd_same, ?_⟩
    refine for_it walk_itemsT (fun i σ H2 => ∃ v4 v5 v6 ls, σ = [some (.ref a), some (.ref d), some (.ref dl), some (.ref dr), v4, v5, v6] ∧ But d B H2 ∧ H2 d = some (.frz od (.dT (tab ns at0))) ∧
      SidesAt B H2 dl dr ls (ctN (ns.take i) lab) ∧ LsOk (ns.take i) lab ls) ?_ (fun i σ H2 _ ⟨_, _, _, _, _, _, q, _⟩ => q) ?_ ?_
    · refine ⟨_, _, _, [], rfl, fun b o e n => ?_, upd_same, ⟨fun _ _ => d, nrl.symm, ?_, ?_, fun s l hl => (by cases hl), fun s s' l l' hl => (by cases hl)⟩, ⟨List.nodup_nil, fun l => ⟨fun z => (by cases z), fun ⟨n, hn, _⟩ => (by simp at hn)⟩, Nat.zero_le _⟩⟩
      · rw [upd_ne n]
        exact sT _ _ e
      · rw [upd_ne ndl]
        exact hl0
      · rw [upd_ne ndr]
        exact hr0
    · rintro i v σ H2 H3 hi ⟨v4, v5, v6, ls, rfl, b2, hf2, S2, O2⟩ ⟨T1, q, key, v', hkv, rfl, hT1, hq, rfl⟩
      rw [kl] at hi
      obtain ⟨n, hn, hnm⟩ : ∃ n, ns[i]? = some n ∧ n ∈ ns := ⟨ns[i], List.getElem?_eq_getElem hi, List.getElem_mem hi⟩
      have ekv : (nk n, V.ref (at0 n)) = (key, v') := by
        have z : (tab ns at0)[i]? = some (nk n, V.ref (at0 n)) := by
          unfold tab
          rw [List.getElem?_map, hn]
          rfl
        rw [z] at hkv
        exact Option.some.inj hkv
      injection ekv with e1 e2
      subst e1
      subst e2
      have s23 : Same H2 (upd H2 T1 (.tup [.ref q, .ref (at0 n)])) := same_upd (Same.refl _) hT1
      have hat2 : H2 (at0 n) = some (.tup (nvs (lab n))) := b2 _ _ (hat0 n hnm) (ne_of (hat0 n hnm) hd0 (by intro z; cases z))
      have hq : H2 q = some (.tup (nvs n)) := hq
      have et : ns.take (i + 1) = ns.take i ++ [n] := by rw [List.take_add_one, hn]; rfl
      refine ⟨T1, _, rfl, SqT.of upd_same, rfl, _, _, rfl, q, _, rfl, SqT.of (s23 _ _ hq), rfl, _, _, rfl, _, _, rfl, rfl, _, _, rfl, rfl, ?_⟩
      have hat3 := s23 _ _ hat2
      have b3 := b2.same s23
      have f3 := s23 _ _ hf2
      have e5 : [V.str (sd n.1), V.str (sg n.2)] = nvs n := rfl
      obtain ⟨al, S3⟩ := (S2.same s23).ex
      have hll : (tab ls (al true)).length ≤ 100 := by
        unfold tab
        rw [List.length_map]
        have := O2.len
        rw [List.length_take] at this
        omega
      have hlr : (tab ls (al false)).length ≤ 100 := by
        unfold tab at hll ⊢
        rw [List.length_map] at hll ⊢
        exact hll
      have fresh : ∀ {Hx : Hp} {q : Addr}, But d B Hx → Hx d ≠ none → Hx q = none → B q = none := fun {Hx q} bx nd hx => by
        cases z : B q with
        | none => rfl
        | some o =>
          by_cases y : q = d
          · rw [y] at hx
            exact absurd hx nd
          · rw [bx _ _ z y] at hx
            cases hx
      refine (?_ : ∀ (Hy : Hp), Hy = upd H2 T1 (.tup [.ref q, .ref (at0 n)]) → _) _ rfl
      intro H3 eH3
      rw [← eH3] at S3 hat3 b3 f3
      clear eH3
      by_cases hl : lab n ∈ ls
      · refine ⟨_, rfl, .inr (.inr (.inl ⟨rfl, .inr ⟨_, S3.left⟩⟩)), _, rfl, (by show 0 ≤ sizeLine; decide), fun q1 h1 => ?_⟩
        have s4 : Same H3 (upd H3 q1 (.lst [])) := same_upd (Same.refl _) h1
        refine ⟨dl, tab ls (al true), nk (lab n), at0 n, .ref q1, rfl, rfl, s4 _ _ S3.left, s4 _ _ hat3, small1000 (by omega), fun v hv => ?_, fun hn => (by rw [val_tab hl] at hn; cases hn)⟩
        refine ⟨_, rfl, .inr (.inr (.inl ⟨rfl, .inr ⟨_, s4 _ _ S3.right⟩⟩)), _, rfl, (by show 0 ≤ sizeLine; decide), fun q2 h2 => ?_⟩
        have s5 : Same H3 (upd (upd H3 q1 (.lst [])) q2 (.lst [])) := same_upd s4 h2
        refine ⟨dr, tab ls (al false), nk (lab n), at0 n, .ref q2, rfl, rfl, s5 _ _ S3.right, s5 _ _ hat3, small1000 (by omega), fun v hv => ?_, fun hn => (by rw [val_tab hl] at hn; cases hn)⟩
        have M5 : ∃ ls5 ct5, SidesAt B (upd (upd H3 q1 (.lst [])) q2 (.lst [])) dl dr ls5 ct5 ∧ But d B (upd (upd H3 q1 (.lst [])) q2 (.lst [])) ∧ (upd (upd H3 q1 (.lst [])) q2 (.lst [])) d = some (.frz od (.dT (tab ns at0))) ∧
            (upd (upd H3 q1 (.lst [])) q2 (.lst [])) (at0 n) = some (.tup (nvs (lab n))) ∧ lab n ∈ ls5 ∧ ls5.Nodup ∧ (∀ m, m ∈ ls5 ↔ m ∈ ls ∨ m = lab n) ∧ ls5.length ≤ ls.length + 1 ∧ ∀ s m, m ∈ ls5 → ct5 s m = ctN (ns.take i) lab s m :=
          ⟨ls, _, ⟨al, S3.same s5⟩, b3.same s5, s5 _ _ f3, s5 _ _ hat3, hl, O2.nd, fun m => ⟨.inl, fun z => z.elim id fun e => e ▸ hl⟩, Nat.le_succ _, fun _ _ _ => rfl⟩
        revert M5
        generalize (upd (upd H3 q1 (.lst [])) q2 (.lst [])) = H5
        rintro ⟨ls5, ct5, S5', b5', f5', a5', l5, n5, m5, c5len, c5⟩
        obtain ⟨kv, q', g1, g2, g3, g4, S6⟩ := S5'.app l5 n.1 n.2
        have olen := O2.len
        have es : (decide (V.str (sd n.1) = V.str ("left" : Str)) = true) ↔ n.1 = true := by
          rw [decide_eq_true_eq, str_inj]
          exact ⟨fun z => sd_inj (b := true) z, fun z => by rw [z]; rfl⟩
        have qlen : (((ct5 n.1 (lab n)).map sg).map V.str).length < sizeLine := by
          rw [List.length_map, List.length_map, c5 n.1 (lab n) l5]
          refine small1000 (Nat.le_trans (ctN_len _ _ _ _) ?_)
          rw [List.length_take]
          omega
        have fin : But d B (upd H5 q' (.lst (((ct5 n.1 (lab n)).map sg).map V.str ++ [.str (sg n.2)]))) ∧ (upd H5 q' (.lst (((ct5 n.1 (lab n)).map sg).map V.str ++ [.str (sg n.2)]))) d = some (.frz od (.dT (tab ns at0))) ∧
            SidesAt B (upd H5 q' (.lst (((ct5 n.1 (lab n)).map sg).map V.str ++ [.str (sg n.2)]))) dl dr ls5 (ctN (ns.take (i + 1)) lab) ∧ LsOk (ns.take (i + 1)) lab ls5 := by
          refine ⟨fun b o e z => ?_, ?_, S6.congr fun s m hm => ?_, n5, fun m => ?_, ?_⟩
          · rw [upd_ne (ne_of_none e g4)]
            exact b5' _ _ e z
          · rw [upd_ne (ne_of f5' g3 (by intro z; cases z))]
            exact f5'
          · show (if s = n.1 ∧ m = lab n then ct5 s m ++ [n.2] else ct5 s m) = _
            rw [et, ctN_snoc, c5 s m hm]
          · rw [m5, O2.mem, et]
            constructor
            · rintro (⟨y, hy, e⟩ | e)
              · exact ⟨y, List.mem_append_left _ hy, e⟩
              · exact ⟨n, List.mem_append_right _ List.mem_cons_self, e.symm⟩
            · rintro ⟨y, hy, e⟩
              rcases List.mem_append.mp hy with z | z
              · exact .inl ⟨y, z, e⟩
              · rw [List.mem_singleton.mp z] at e
                exact .inr e.symm
          · rw [et, List.length_append, List.length_singleton]
            omega
        refine ⟨_, rfl, rfl, _, rfl, ?_⟩
        refine ite2 (fun e => ?_) (fun e => ?_)
        · have e := es.mp e
          rw [if_pos e] at g1
          refine ⟨_, rfl, _, rfl, dl, .ref q', rfl, by rw [← g2]; exact DGet.t (k := nk (lab n)) g1 a5', .inl ⟨rfl, _, SqL.of g3⟩, _, rfl, q', _, _, rfl, rfl, g3, qlen, ?_⟩
          exact ⟨_, _, _, ls5, rfl, fin⟩
        · have e : ¬ n.1 = true := fun z => e (es.mpr z)
          rw [if_neg e] at g1
          refine ⟨_, rfl, _, rfl, dr, .ref q', rfl, by rw [← g2]; exact DGet.t (k := nk (lab n)) g1 a5', .inl ⟨rfl, _, SqL.of g3⟩, _, rfl, q', _, _, rfl, rfl, g3, qlen, ?_⟩
          exact ⟨_, _, _, ls5, rfl, fin⟩
      · refine ⟨_, rfl, .inr (.inr (.inl ⟨rfl, .inr ⟨_, S3.left⟩⟩)), _, rfl, (by show 0 ≤ sizeLine; decide), fun q1 h1 => ?_⟩
        have s4 : Same H3 (upd H3 q1 (.lst [])) := same_upd (Same.refl _) h1
        refine ⟨dl, tab ls (al true), nk (lab n), at0 n, .ref q1, rfl, rfl, s4 _ _ S3.left, s4 _ _ hat3, small1000 (by omega), fun v hv => (by rw [val_tab_no hl] at hv; cases hv), fun hn => ?_⟩
        have k4 : ∀ b o, (upd H3 q1 (.lst [])) b = some o → b ≠ dl → (upd (upd H3 q1 (.lst [])) dl (.dT (putK (tab ls (al true)) (nk (lab n)) (.ref q1)))) b = some o := fun b o e z => by rw [upd_ne z]; exact e
        have r4 := k4 _ _ (s4 _ _ S3.right) S3.ne.symm
        have a4 := k4 _ _ (s4 _ _ hat3) (ne_of hat3 S3.left (by intro z; cases z))
        refine ⟨_, rfl, .inr (.inr (.inl ⟨rfl, .inr ⟨_, r4⟩⟩)), _, rfl, (by show 0 ≤ sizeLine; decide), fun q2 h2 => ?_⟩
        have s5 := same_upd (o := .lst []) (Same.refl _) h2
        refine ⟨dr, tab ls (al false), nk (lab n), at0 n, .ref q2, rfl, rfl, s5 _ _ r4, s5 _ _ a4, small1000 (by omega), fun v hv => (by rw [val_tab_no hl] at hv; cases hv), fun hn => ?_⟩
        have f4 := k4 _ _ (s4 _ _ f3) ndl.symm
        have b4 : But d B (upd (upd H3 q1 (.lst [])) dl (.dT (putK (tab ls (al true)) (nk (lab n)) (.ref q1)))) := fun b o e z => k4 _ _ (s4 _ _ (b3 _ _ e z)) (ne_of_none e hdl)
        obtain ⟨_, S5⟩ := S3.add hl h1 (fresh b3 (by rw [f3]; exact fun z => nomatch z) h1) (fresh b4 (by rw [f4]; exact fun z => nomatch z) h2) h2
        have k5 : ∀ b o, (upd (upd (upd H3 q1 (.lst [])) dl (.dT (putK (tab ls (al true)) (nk (lab n)) (.ref q1)))) q2 (.lst [])) b = some o → b ≠ dr →
            (upd (upd (upd (upd H3 q1 (.lst [])) dl (.dT (putK (tab ls (al true)) (nk (lab n)) (.ref q1)))) q2 (.lst [])) dr (.dT (putK (tab ls (al false)) (nk (lab n)) (.ref q2)))) b = some o := fun b o e z => by rw [upd_ne z]; exact e
        have M5 : ∃ ls5 ct5, SidesAt B (upd (upd (upd (upd H3 q1 (.lst [])) dl (.dT (putK (tab ls (al true)) (nk (lab n)) (.ref q1)))) q2 (.lst [])) dr (.dT (putK (tab ls (al false)) (nk (lab n)) (.ref q2)))) dl dr ls5 ct5 ∧
            But d B (upd (upd (upd (upd H3 q1 (.lst [])) dl (.dT (putK (tab ls (al true)) (nk (lab n)) (.ref q1)))) q2 (.lst [])) dr (.dT (putK (tab ls (al false)) (nk (lab n)) (.ref q2)))) ∧
            (upd (upd (upd (upd H3 q1 (.lst [])) dl (.dT (putK (tab ls (al true)) (nk (lab n)) (.ref q1)))) q2 (.lst [])) dr (.dT (putK (tab ls (al false)) (nk (lab n)) (.ref q2)))) d = some (.frz od (.dT (tab ns at0))) ∧
            (upd (upd (upd (upd H3 q1 (.lst [])) dl (.dT (putK (tab ls (al true)) (nk (lab n)) (.ref q1)))) q2 (.lst [])) dr (.dT (putK (tab ls (al false)) (nk (lab n)) (.ref q2)))) (at0 n) = some (.tup (nvs (lab n))) ∧ lab n ∈ ls5 ∧ ls5.Nodup ∧ (∀ m, m ∈ ls5 ↔ m ∈ ls ∨ m = lab n) ∧ ls5.length ≤ ls.length + 1 ∧ ∀ s m, m ∈ ls5 → ct5 s m = ctN (ns.take i) lab s m := by
          refine ⟨ls ++ [lab n], _, S5, fun b o e z => k5 _ _ (s5 _ _ (b4 _ _ e z)) (ne_of_none e hdrB), k5 _ _ (s5 _ _ f4) ndr.symm, k5 _ _ (s5 _ _ a4) (ne_of hat3 S3.right (by intro z; cases z)), by simp, ?_, fun m => by simp, by simp, fun s m hm => ?_⟩
          · rw [List.nodup_append]
            exact ⟨O2.nd, by simp, fun x hx y hy => by rw [List.mem_singleton.mp hy]; exact fun z => hl (z ▸ hx)⟩
          · show (if m = lab n then [] else ctN (ns.take i) lab s m) = ctN (ns.take i) lab s m
            by_cases c : m = lab n
            · rw [if_pos c]
              have no : ∀ x, x ∉ ctN (ns.take i) lab s m := fun x hx => by
                obtain ⟨z1, z2⟩ := mem_ctN.mp hx
                exact hl ((O2.mem _).mpr ⟨(s, x), z1, z2.trans c⟩)
              exact (List.eq_nil_iff_forall_not_mem.mpr no).symm
            · rw [if_neg c]
        revert M5
        generalize (upd (upd (upd (upd H3 q1 (.lst [])) dl (.dT (putK (tab ls (al true)) (nk (lab n)) (.ref q1)))) q2 (.lst [])) dr (.dT (putK (tab ls (al false)) (nk (lab n)) (.ref q2)))) = H5
        rintro ⟨ls5, ct5, S5', b5', f5', a5', l5, n5, m5, c5len, c5⟩
        obtain ⟨kv, q', g1, g2, g3, g4, S6⟩ := S5'.app l5 n.1 n.2
        have olen := O2.len
        have es : (decide (V.str (sd n.1) = V.str ("left" : Str)) = true) ↔ n.1 = true := by
          rw [decide_eq_true_eq, str_inj]
          exact ⟨fun z => sd_inj (b := true) z, fun z => by rw [z]; rfl⟩
        have qlen : (((ct5 n.1 (lab n)).map sg).map V.str).length < sizeLine := by
          rw [List.length_map, List.length_map, c5 n.1 (lab n) l5]
          refine small1000 (Nat.le_trans (ctN_len _ _ _ _) ?_)
          rw [List.length_take]
          omega
        have fin : But d B (upd H5 q' (.lst (((ct5 n.1 (lab n)).map sg).map V.str ++ [.str (sg n.2)]))) ∧ (upd H5 q' (.lst (((ct5 n.1 (lab n)).map sg).map V.str ++ [.str (sg n.2)]))) d = some (.frz od (.dT (tab ns at0))) ∧
            SidesAt B (upd H5 q' (.lst (((ct5 n.1 (lab n)).map sg).map V.str ++ [.str (sg n.2)]))) dl dr ls5 (ctN (ns.take (i + 1)) lab) ∧ LsOk (ns.take (i + 1)) lab ls5 := by
          refine ⟨fun b o e z => ?_, ?_, S6.congr fun s m hm => ?_, n5, fun m => ?_, ?_⟩
          · rw [upd_ne (ne_of_none e g4)]
            exact b5' _ _ e z
          · rw [upd_ne (ne_of f5' g3 (by intro z; cases z))]
            exact f5'
          · show (if s = n.1 ∧ m = lab n then ct5 s m ++ [n.2] else ct5 s m) = _
            rw [et, ctN_snoc, c5 s m hm]
          · rw [m5, O2.mem, et]
            constructor
            · rintro (⟨y, hy, e⟩ | e)
              · exact ⟨y, List.mem_append_left _ hy, e⟩
              · exact ⟨n, List.mem_append_right _ List.mem_cons_self, e.symm⟩
            · rintro ⟨y, hy, e⟩
              rcases List.mem_append.mp hy with z | z
              · exact .inl ⟨y, z, e⟩
              · rw [List.mem_singleton.mp z] at e
                exact .inr e.symm
          · rw [et, List.length_append, List.length_singleton]
            omega
        refine ⟨_, rfl, rfl, _, rfl, ?_⟩
        refine ite2 (fun e => ?_) (fun e => ?_)
        · have e := es.mp e
          rw [if_pos e] at g1
          refine ⟨_, rfl, _, rfl, dl, .ref q', rfl, by rw [← g2]; exact DGet.t (k := nk (lab n)) g1 a5', .inl ⟨rfl, _, SqL.of g3⟩, _, rfl, q', _, _, rfl, rfl, g3, qlen, ?_⟩
          exact ⟨_, _, _, ls5, rfl, fin⟩
        · have e : ¬ n.1 = true := fun z => e (es.mpr z)
          rw [if_neg e] at g1
          refine ⟨_, rfl, _, rfl, dr, .ref q', rfl, by rw [← g2]; exact DGet.t (k := nk (lab n)) g1 a5', .inl ⟨rfl, _, SqL.of g3⟩, _, rfl, q', _, _, rfl, rfl, g3, qlen, ?_⟩
          exact ⟨_, _, _, ls5, rfl, fin⟩
    · rintro σ H2 ⟨v4, v5, v6, ls, rfl, b2, hf2, S2, O2⟩
      rw [kl, List.take_length] at S2 O2
      refine ⟨hf2, ?_⟩
      have sB5 : Same B (upd H2 d (.dT (tab ns at0))) := fun b o e => by
        by_cases z : b = d
        · rw [z, upd_same]
          rw [z, hd0] at e
          exact e
        · rw [upd_ne z]
          exact b2 _ _ e z
      obtain ⟨al, S2⟩ := S2.ex
      have S5 : SidesAl B (upd H2 d (.dT (tab ns at0))) dl dr ls (ctN ns lab) al := ⟨S2.ne, by rw [upd_ne ndl]; exact S2.left, by rw [upd_ne ndr]; exact S2.right, fun s l hl => by
        obtain ⟨z1, z2⟩ := S2.lst s l hl
        refine ⟨?_, z2⟩
        rw [upd_ne fun z => by rw [z, hd0] at z2; cases z2]
        exact z1, S2.inj⟩
      generalize upd H2 d (.dT (tab ns at0)) = H5 at S5 sB5 ⊢
      refine ⟨dl, _, S5.left, trivial, fun od2 => ?_⟩
      have lslen : ls.length ≤ 80 := Nat.le_trans O2.len nlen
      have hl6 : (upd H5 dl (.frz od2 (.dT (tab ls (al true))))) dl = some (.frz od2 (.dT (tab ls (al true)))) := upd_same
      have b6 : ∀ b o, H5 b = some o → b ≠ dl → (upd H5 dl (.frz od2 (.dT (tab ls (al true))))) b = some o := fun b o e z => by rw [upd_ne z]; exact e
      have hr6 := b6 _ _ S5.right S5.ne.symm
      have lst6 : ∀ s, ∀ l ∈ ls, (upd H5 dl (.frz od2 (.dT (tab ls (al true))))) (al s l) = some (.lst (((ctN ns lab s l).map sg).map V.str)) := fun s l hl =>
        b6 _ _ (S5.lst s l hl).1 (ne_of (S5.lst s l hl).1 S5.left (by intro z; cases z))
      refine ⟨_, rfl, dl, od2, rfl, .inr ⟨_, hl6, fun D hD => ?_⟩⟩
      have ktl : (tab ls (al true)).length = ls.length := by unfold tab; rw [List.length_map]
      refine lc_it walk_keysT (fun i H7 => Same (upd H5 dl (.frz od2 (.dT (tab ls (al true))))) H7 ∧ ∃ M : List (Addr × Comp), H7 D = some (.lst (M.map fun q => V.ref q.1)) ∧
        M.map (·.2) = (ls.take i).map (fun l => (ctN ns lab true l, ctN ns lab false l)) ∧ ∀ q ∈ M, H7 q.1 = some (.tup [.str (tx q.2.1), .str (tx q.2.2)])) ?_ (fun i H7 _ q => q.1 _ _ hl6) ?_ ?_
      · exact ⟨same_upd (Same.refl _) hD, [], upd_same, rfl, fun q hq => by cases hq⟩
      · rintro i v H7 H8 hi ⟨s7, M, hM, eM, tM⟩ ⟨rfl, key, v', q, hkv, rfl, hq⟩
        rw [ktl] at hi
        obtain ⟨l, hl, hlm⟩ : ∃ l, ls[i]? = some l ∧ l ∈ ls := ⟨ls[i], List.getElem?_eq_getElem hi, List.getElem_mem hi⟩
        have ekv : (nk l, V.ref (al true l)) = (key, v') := by
          have z : (tab ls (al true))[i]? = some (nk l, V.ref (al true l)) := by
            unfold tab
            rw [List.getElem?_map, hl]
            rfl
          rw [z] at hkv
          exact Option.some.inj hkv
        injection ekv with e1 e2
        subst e1
        subst e2
        have jr : ∀ s, (ctN ns lab s l).length ≤ 16777216 := fun s => Nat.le_trans (ctN_len _ _ _ _) (by omega)
        refine ⟨rfl, ⟨_, rfl⟩, _, rfl, _, rfl, dl, .ref (al true l), rfl, .inr ⟨_, nk l, q, .inr ⟨od2, s7 _ _ hl6⟩, rfl, hq, (val_tab hlm).symm⟩, _, al true l, (ctN ns lab true l).map sg, rfl, rfl, .inl (SqL.of (s7 _ _ (lst6 true l hlm))), join_room (jr true),
          ⟨_, rfl⟩, _, rfl, _, rfl, dr, .ref (al false l), rfl, by rw [← val_tab hlm]; exact DGet.t (k := nk l) (s7 _ _ hr6) hq, _, al false l, (ctN ns lab false l).map sg, rfl, rfl, .inl (SqL.of (s7 _ _ (lst6 false l hlm))), join_room (jr false),
          (by show 2 ≤ sizeLine; decide), fun p hp => ?_⟩
        have j1 : Txt.join ("" : Str) ((ctN ns lab true l).map sg) = tx (ctN ns lab true l) := join_sg (ctN ns lab true l)
        have j2 : Txt.join ("" : Str) ((ctN ns lab false l).map sg) = tx (ctN ns lab false l) := join_sg (ctN ns lab false l)
        have npD : D ≠ p := ne_of_none hM hp
        have s8 : Same H8 (upd H8 p (.tup [.str (tx (ctN ns lab true l)), .str (tx (ctN ns lab false l))])) := same_upd (Same.refl _) hp
        rw [j1, j2]
        have mlen : M.length ≤ 80 := by
          have := congrArg List.length eM
          rw [List.length_map, List.length_map, List.length_take] at this
          omega
        refine ⟨_, s8 _ _ hM, by rw [List.length_map]; exact small1000 (by omega), fun b o e => ?_, M ++ [(p, (ctN ns lab true l, ctN ns lab false l))], ?_, ?_, fun q' hq' => ?_⟩
        · rw [upd_ne (ne_of_none e hD)]
          exact s8 _ _ (s7 _ _ e)
        · rw [upd_same, List.map_append]
          rfl
        · rw [List.map_append, eM, List.take_add_one, hl, List.map_append]
          rfl
        · rcases List.mem_append.mp hq' with z | z
          · rw [upd_ne (ne_of (tM q' z) hM (by intro z; cases z))]
            exact s8 _ _ (tM q' z)
          · rw [List.mem_singleton.mp z, upd_ne npD.symm, upd_same]
      · rintro H7 ⟨s7, M, hM, eM, tM⟩
        rw [ktl, List.take_length] at eM
        refine ⟨s7 _ _ hl6, ?_⟩
        have sB7 : Same B (upd H7 dl (.dT (tab ls (al true)))) := fun b o e => by
          rw [upd_ne (ne_of_none e hdl)]
          exact s7 _ _ (b6 _ _ (sB5 _ _ e) (ne_of_none e hdl))
        have k7 : ∀ b o, H7 b = some o → b ≠ dl → (upd H7 dl (.dT (tab ls (al true)))) b = some o := fun b o e z => by rw [upd_ne z]; exact e
        have hM7 := k7 _ _ hM (ne_of hM (s7 _ _ hl6) (by intro z; cases z))
        have tM7 : ∀ q ∈ M, (upd H7 dl (.dT (tab ls (al true)))) q.1 = some (.tup [.str (tx q.2.1), .str (tx q.2.2)]) := fun q hq => k7 _ _ (tM q hq) (ne_of (tM q hq) (s7 _ _ hl6) (by intro z; cases z))
        have mlen : M.length ≤ 80 := by
          have := congrArg List.length eM
          rw [List.length_map, List.length_map] at this
          omega
        refine ⟨D, M.map (·.1), rfl, SqL.of (by rw [hM7, List.map_map]; rfl), by rw [List.length_map]; omega, fun b hb => ?_, fun N p pN hp => ?_⟩
        · obtain ⟨q, hq, e⟩ := List.mem_map.mp hb
          rw [← e]
          exact ⟨_, _, SqT.of (tM7 q hq)⟩
        · obtain ⟨M', pM, rfl⟩ := perm_map_inv pN M rfl
          have s9 := same_upd (o := .lst ((M'.map (·.1)).map V.ref)) (Same.refl _) hp
          have s19 := s1.trans (sB7.trans s9)
          have mem : ∀ c, c ∈ M'.map (·.2) ↔ ∃ l ∈ ls, c = (ctN ns lab true l, ctN ns lab false l) := fun c => by
            have z : c ∈ M'.map (·.2) ↔ c ∈ M.map (·.2) := (pM.map (·.2)).mem_iff
            rw [z, eM, List.mem_map]
            exact ⟨fun ⟨l, h1, h2⟩ => ⟨l, h1, h2.symm⟩, fun ⟨l, h1, h2⟩ => ⟨l, h1, h2.symm⟩⟩
          have inR : ∀ (s : Bool) x, (s, x) ∈ ns ↔ x ∈ R := fun s x => by
            rw [← hns, mem_nodes]
            exact hxs x
          refine k _ p (M'.map (·.2)) s19 ((s1.trans sB7).free hp) ⟨M', by rw [upd_same, List.map_map]; rfl, rfl, fun q hq => s9 _ _ (tM7 q (pM.mem_iff.mp hq)), by rw [pM.length_eq]; omega, fun q hq => ?_⟩ ⟨fun s x => lab (s, x), lb, fun c hc => ?_, fun x hx => ?_, fun y hy => ?_⟩
          · obtain ⟨l, hl, e⟩ := (mem q.2).mp (List.mem_map.mpr ⟨q, hq, rfl⟩)
            rw [e]
            exact ⟨Nat.le_trans (ctN_len _ _ _ _) (by omega), Nat.le_trans (ctN_len _ _ _ _) (by omega)⟩
          · obtain ⟨l, hl, e⟩ := (mem c).mp hc
            refine ⟨l, fun x => ?_, fun y => ?_⟩
            · rw [e]
              show x ∈ ctN ns lab true l ↔ _
              rw [mem_ctN, inR]
            · rw [e]
              show y ∈ ctN ns lab false l ↔ _
              rw [mem_ctN, inR]
          · exact ⟨_, (mem _).mpr ⟨lab (true, x), (O2.mem _).mpr ⟨(true, x), (inR true x).mpr hx, rfl⟩, rfl⟩, mem_ctN.mpr ⟨(inR true x).mpr hx, rfl⟩⟩
          · exact ⟨_, (mem _).mpr ⟨lab (false, y), (O2.mem _).mpr ⟨(false, y), (inR false y).mpr hy, rfl⟩, rfl⟩, mem_ctN.mpr ⟨(inR false y).mpr hy, rfl⟩⟩
end
end MO
set_option Elab.async false
set_option linter.all false
set_option maxRecDepth 100000
/-! free among components; patterns -/
namespace MO
open PySem PySem.Spec PyProof.Rows L2 XS KM
abbrev sTouches : Stmt := top 29
abbrev sFreeAmong : Stmt := top 30
abbrev sComponents : Stmt := top 31
abbrev sWithout : Stmt := top 33
abbrev sAreValues : Stmt := top 34
abbrev sFilled : Stmt := top 35
abbrev sMeets : Stmt := top 47
theorem map_any {α : Type} (xs : List α) (p : α → Bool) : (xs.map p).any id = xs.any p := by
  rw [List.any_map]
  rfl
theorem map_all {α : Type} (xs : List α) (p : α → Bool) : (xs.map p).all id = xs.all p := by
  rw [List.all_map]
  rfl
theorem tx_list (cs : List Nat) : (tx cs).cps.toList = cs := by show cs.toArray.toList = cs; simp
section
variable {P : Program} {w : World} {K : PySem.W.Frag} {mg : Str → Option Value} {base : Heap}
def spTouch : Sp := fun vs H Q _ => ∃ a b : List Nat, vs = [.str (tx a), .str (tx b)] ∧ a.length ≤ 1000 ∧ ∀ H', Same H H' → Q (.bl (a.any fun x => decide (x ∈ b))) H'
theorem scTouches : FnScope ["letters", "others", "sign"] ["letters", "others"] (defScope sTouches) := ⟨rfl, rfl, rfl, by decide +kernel, rfl, by decide +kernel, by decide +kernel⟩
theorem d_touches (p : Pl K mg "touches" sTouches) (T : Bt mg) : Dn P w K mg base 1 "touches" ["letters", "others"] spTouch := by
  refine p.dn scTouches (fun _ _ _ _ _ _ us hl => match us, hl with | [_, _], _ => rfl) (fun vs H Q E h => ?_) (fun f cdv A outer s H vs Q E hr h => ?_)
  · obtain ⟨a, b, rfl, _⟩ := h
    rfl
  · obtain ⟨a, b, rfl, hn, k⟩ := h
    refine ⟨_, pss_one (ps_ret (pe_callB (cr_any rfl) (by rfl) T.any (by decide +kernel) (pa_cons
        (pe_lc (own := [("sign", 2)]) (g := gName 2) (tt := tYes) rfl scTouches.nd (pi_str (pv 0)) (blkOk_by (N := ["letters", "others", "sign"]) (sc := defScope sTouches) (by decide +kernel))
          (fun _ _ _ _ _ => pg_name (i := 2) scTouches.nd rfl (Or.inl rfl)) (fun _ _ _ _ _ => pts_nil)
          (fun _ _ _ _ _ => pe_cmpR op_in_sign (pv 2) (pv 1) (by rfl))) pa_nil))), ?_⟩
    refine ⟨_, rfl, _, rfl, fun D hD => lc_y a (fun x => V.bl (decide (x ∈ b))) walk_tx hD (small1000 hn) (fun _ _ => trivial) ?_ ?_⟩
    · rintro i x v H1 H2 hx s1 ⟨rfl, c, hc, rfl⟩ N1 n1
      rw [hx] at hc
      cases hc
      refine ⟨rfl, _, rfl, _, rfl, x, _, rfl, rfl, ?_⟩
      rw [tx_list]
      exact n1 _ (Same.refl _)
    · intro H1 s1 hd
      refine ⟨D, a.map fun x => decide (x ∈ b), rfl, SqL.of (by rw [hd, List.map_map]; rfl), ?_⟩
      rw [map_any]
      exact k H1 s1
theorem scMeets : FnScope ["one", "other", "sign"] ["one", "other"] (defScope sMeets) := ⟨rfl, rfl, rfl, by decide +kernel, rfl, by decide +kernel, by decide +kernel⟩
theorem d_meets (p : Pl K mg "meets" sMeets) (T : Bt mg) : Dn P w K mg base 1 "meets" ["one", "other"] spTouch := by
  refine p.dn scMeets (fun _ _ _ _ _ _ us hl => match us, hl with | [_, _], _ => rfl) (fun vs H Q E h => ?_) (fun f cdv A outer s H vs Q E hr h => ?_)
  · obtain ⟨a, b, rfl, _⟩ := h
    rfl
  · obtain ⟨a, b, rfl, hn, k⟩ := h
    refine ⟨_, pss_one (ps_ret (pe_callB (cr_any rfl) (by rfl) T.any (by decide +kernel) (pa_cons
        (pe_lc (own := [("sign", 2)]) (g := gName 2) (tt := tYes) rfl scMeets.nd (pi_str (pv 0)) (blkOk_by (N := ["one", "other", "sign"]) (sc := defScope sMeets) (by decide +kernel))
          (fun _ _ _ _ _ => pg_name (i := 2) scMeets.nd rfl (Or.inl rfl)) (fun _ _ _ _ _ => pts_nil)
          (fun _ _ _ _ _ => pe_cmpR op_in_sign (pv 2) (pv 1) (by rfl))) pa_nil))), ?_⟩
    refine ⟨_, rfl, _, rfl, fun D hD => lc_y a (fun x => V.bl (decide (x ∈ b))) walk_tx hD (small1000 hn) (fun _ _ => trivial) ?_ ?_⟩
    · rintro i x v H1 H2 hx s1 ⟨rfl, c, hc, rfl⟩ N1 n1
      rw [hx] at hc
      cases hc
      refine ⟨rfl, _, rfl, _, rfl, x, _, rfl, rfl, ?_⟩
      rw [tx_list]
      exact n1 _ (Same.refl _)
    · intro H1 s1 hd
      refine ⟨D, a.map fun x => decide (x ∈ b), rfl, SqL.of (by rw [hd, List.map_map]; rfl), ?_⟩
      rw [map_any]
      exact k H1 s1
def spFreeAmong : Sp := fun vs H Q _ => ∃ (a : Addr) (cs : List Comp) (D : List Nat), vs = [.ref a, .str (tx D)] ∧ CompsAt H a cs ∧ D.length ≤ 1000 ∧ (∀ c ∈ cs, ¬ ((∃ x ∈ c.1, x ∈ D) ∧ ∃ y ∈ c.2, y ∈ D)) ∧ ∀ H', Same H H' → Q (.bl true) H'
theorem scFreeAmong : FnScope ["components", "letters", "lefts", "rights"] ["components", "letters"] (defScope sFreeAmong) := ⟨rfl, rfl, rfl, by decide +kernel, rfl, by decide +kernel, by decide +kernel⟩
theorem any_comm {a b : List Nat} : (a.any fun x => decide (x ∈ b)) = true ↔ ∃ x ∈ b, x ∈ a := by
  rw [List.any_eq_true]
  exact ⟨fun ⟨x, h1, h2⟩ => ⟨x, of_decide_eq_true h2, h1⟩, fun ⟨x, h1, h2⟩ => ⟨x, h2, decide_eq_true h1⟩⟩
theorem any_false (n : Nat) : (List.replicate n false).any id = false := by
  induction n with
  | zero => rfl
  | succ n ih => rw [List.replicate_succ, List.any_cons, ih]; rfl
theorem d_is_free_among (p : Pl K mg "is_free_among" sFreeAmong) (T : Bt mg) (D1 : Dn P w K mg base 1 "touches" ["letters", "others"] spTouch) : Dn P w K mg base 2 "is_free_among" ["components", "letters"] spFreeAmong := by
  refine p.dn scFreeAmong (fun _ _ _ _ _ _ us hl => match us, hl with | [_, _], _ => rfl) (fun vs H Q E h => ?_) (fun f cdv A outer s H vs Q E hr h => ?_)
  · obtain ⟨a, cs, D, rfl, _⟩ := h
    rfl
  · obtain ⟨a, cs, D, rfl, hc, hn, hap, k⟩ := h
    obtain ⟨M, hM, rfl, tM, lM, sM⟩ := hc.ex
    refine ⟨_, pss_one (ps_ret (pe_not (pe_callB (cr_any rfl) (by rfl) T.any (by decide +kernel) (pa_cons
        (pe_lc (own := [("lefts", 2), ("rights", 3)]) (g := gTup K 2 (gCons (gName 2) (gCons (gName 3) gNil))) (tt := tYes) rfl scFreeAmong.nd (pi_list (pv 0)) (blkOk_by (N := ["components", "letters", "lefts", "rights"]) (sc := defScope sFreeAmong) (by decide +kernel))
          (fun _ _ _ _ _ => pg_tupK K (pgs_cons (pg_name (i := 2) scFreeAmong.nd rfl (Or.inl rfl)) (pgs_cons (pg_name (i := 3) scFreeAmong.nd rfl (Or.inl rfl)) pgs_nil))) (fun _ _ _ _ _ => pts_nil)
          (fun _ _ _ _ _ => pe_and (pe_dn D1 hr (pa_cons (pv 1) (pa_cons (pv 2) pa_nil))) (pe_one (pe_dn D1 hr (pa_cons (pv 1) (pa_cons (pv 3) pa_nil)))))) pa_nil)))), ?_⟩
    refine ⟨_, rfl, a, rfl, ⟨_, SqL.of hM⟩, fun L hL => lc_y M (fun _ => V.bl false) (by have w := walk_list (K := K) (a := a) (xs := M.map fun q => V.ref q.1); rw [List.length_map] at w; exact w) hL (small1000 (by omega)) (fun H1 s1 => s1.seq (SqL.of hM)) ?_ ?_⟩
    · rintro i q v H1 H2 hx s1 ⟨rfl, hv⟩ N1 n1
      rw [List.getElem?_map, hx] at hv
      cases hv
      have hq := List.mem_of_getElem? hx
      have ht := s1 _ _ (tM q hq)
      refine ⟨q.1, _, rfl, SqT.of ht, rfl, _, _, rfl, _, _, rfl, rfl, rfl, ?_⟩
      refine ⟨_, rfl, _, rfl, D, q.2.1, rfl, hn, fun H3 s3 => ⟨_, rfl, ?_⟩⟩
      cases e : (D.any fun x => decide (x ∈ q.2.1)) with
      | false => exact iteF (n1 _ s3)
      | true =>
        refine iteT ⟨_, rfl, _, rfl, D, q.2.2, rfl, hn, fun H4 s4 => ?_⟩
        have e2 : (D.any fun x => decide (x ∈ q.2.2)) = false := by
          rw [Bool.eq_false_iff]
          exact fun z => hap q.2 (List.mem_map.mpr ⟨q, hq, rfl⟩) ⟨any_comm.mp e, any_comm.mp z⟩
        rw [e2]
        exact n1 _ (s3.trans s4)
    · intro H1 s1 hd
      rw [map_const, ← List.map_replicate] at hd
      refine ⟨L, List.replicate M.length false, rfl, SqL.of hd, _, rfl, ?_⟩
      rw [any_false]
      exact k H1 s1
def spComponents : Sp := fun vs H Q _ => ∃ R : List Nat, vs = [.str (tx R)] ∧ PatOk R ∧ ∀ H' p cs, Same H H' → H p = none → CompsAt H' p cs → CompsOk R cs → Q (.ref p) H'
theorem scComponents : FnScope ["pattern"] ["pattern"] (defScope sComponents) := ⟨rfl, rfl, rfl, by decide +kernel, rfl, by decide +kernel, by decide +kernel⟩
theorem d_components (p : Pl K mg "components" sComponents) (D1 : Dn P w K mg base 3 "need_pattern" ["value"] spNeedPat) (D2 : Dn P w K mg base 3 "components_of" ["parts"] (spComps K)) : Dn P w K mg base 4 "components" ["pattern"] spComponents := by
  refine p.dn scComponents (fun _ _ _ _ _ _ us hl => match us, hl with | [_], _ => rfl) (fun vs H Q E h => ?_) (fun f cdv A outer s H vs Q E hr h => ?_)
  · obtain ⟨R, rfl, _⟩ := h
    rfl
  · obtain ⟨R, rfl, ok, k⟩ := h
    refine ⟨_, pss_cons (ps_expr (pe_dn D1 hr (pa_cons (pv 0) pa_nil))) (pss_one (ps_ret (pe_dn D2 hr (pa_cons (pe_lst (pa_cons (pv 0) pa_nil)) pa_nil)))), ?_⟩
    refine ⟨_, rfl, R, rfl, ok, fun H1 s1 => ⟨_, rfl, (by show 1 ≤ sizeLine; decide), fun l hl => ?_⟩⟩
    refine ⟨l, R, rfl, .inl (SqL.of upd_same), ok.len, ok.low, fun H2 p cs s2 hp hc hk => ?_⟩
    have s3 := same_upd (o := .lst [V.str (tx R)]) (Same.refl H1) hl
    exact k H2 p cs (s1.trans (s3.trans s2)) ((s1.trans s3).free hp) hc hk
def spWithout : Sp := fun vs H Q _ => ∃ R D : List Nat, vs = [.str (tx R), .str (tx D)] ∧ R.length ≤ 1000 ∧ ∀ H', Same H H' → Q (.str (tx (cut R D))) H'
theorem scWithout : FnScope ["pattern", "letters", "sign"] ["pattern", "letters"] (defScope sWithout) := ⟨rfl, rfl, rfl, by decide +kernel, rfl, by decide +kernel, by decide +kernel⟩
theorem cut_len (R D : List Nat) : (cut R D).length ≤ R.length := List.length_filter_le _ _
theorem d_without (p : Pl K mg "without" sWithout) : Dn P w K mg base 1 "without" ["pattern", "letters"] spWithout := by
  refine p.dn scWithout (fun _ _ _ _ _ _ us hl => match us, hl with | [_, _], _ => rfl) (fun vs H Q E h => ?_) (fun f cdv A outer s H vs Q E hr h => ?_)
  · obtain ⟨R, D, rfl, _⟩ := h
    rfl
  · obtain ⟨R, D, rfl, hn, k⟩ := h
    refine ⟨_, pss_one (ps_ret (pe_join pe_str
        (pe_lc (own := [("sign", 2)]) (g := gName 2) rfl scWithout.nd (pi_str (pv 0)) (blkOk_by (N := ["pattern", "letters", "sign"]) (sc := defScope sWithout) (by decide +kernel))
          (fun _ _ _ _ _ => pg_name (i := 2) scWithout.nd rfl (Or.inl rfl)) (fun _ _ _ _ _ => pts_one (pt_cmpR op_notIn_sign (pv 2) (pv 1) (by rfl)))
          (fun _ _ _ _ _ => pv 2)))), ?_⟩
    refine ⟨⟨_, rfl⟩, _, rfl, _, rfl, fun L hL => lc_f R (fun x => decide (x ∉ D)) (fun x => V.str (sg x)) walk_tx hL (small1000 hn) (fun _ _ => trivial) ?_ ?_⟩
    · rintro i x v H1 H2 hx s1 ⟨rfl, c, hc, rfl⟩ N1 N0 n1 n0
      rw [hx] at hc
      cases hc
      refine ⟨rfl, _, rfl, _, rfl, x, _, rfl, rfl, _, rfl, ?_⟩
      rw [tx_list]
      by_cases e : x ∈ D
      · rw [decide_eq_true e]
        exact iteF (n0 (by simpa using e) _ (Same.refl _))
      · rw [decide_eq_false e]
        exact iteT ⟨_, rfl, n1 (by simpa using e) _ (Same.refl _)⟩
    · intro H1 s1 hd
      have e : (R.filter fun x => decide (x ∉ D)).map (fun x => V.str (sg x)) = ((cut R D).map sg).map V.str := by
        unfold cut
        rw [List.map_map]
        rfl
      rw [e] at hd
      refine ⟨_, L, (cut R D).map sg, rfl, rfl, .inl (SqL.of hd), join_room (Nat.le_trans (cut_len R D) (Nat.le_trans hn (by decide))), ?_⟩
      have j : Txt.join ("" : Str) ((cut R D).map sg) = tx (cut R D) := join_sg (cut R D)
      rw [j]
      exact k H1 s1
end
end MO
set_option Elab.async false
set_option linter.all false
set_option maxRecDepth 100000
/-! values of a pattern -/
namespace MO
open PySem PySem.Spec PyProof.Rows L2 XS KM
def vtab (ks : List Nat) (at_ : Nat → Addr) : List (L2.Key × V) := ks.map fun x => (Sum.inr (sg x), V.ref (at_ x))
theorem vkey_inj {a b : Nat} (h : (Sum.inr (sg a) : L2.Key) = Sum.inr (sg b)) : a = b := by
  injection h with h
  exact sg_inj h
theorem vtab_len (ks : List Nat) (at_ : Nat → Addr) : (vtab ks at_).length = ks.length := by unfold vtab; rw [List.length_map]
theorem val_vtab {at_ : Nat → Addr} {x : Nat} : ∀ {ks : List Nat}, x ∈ ks → valV (vtab ks at_) (Sum.inr (sg x) : L2.Key) = some (.ref (at_ x))
  | m :: ks, h => by
    by_cases e : m = x
    · subst e
      exact valV_pos (p := ((Sum.inr (sg m) : L2.Key), V.ref (at_ m))) rfl
    · have h2 : x ∈ ks := (List.mem_cons.mp h).elim (fun z => absurd z.symm e) id
      exact (valV_neg (p := ((Sum.inr (sg m) : L2.Key), V.ref (at_ m))) fun z => e (vkey_inj z)).trans (val_vtab h2)
theorem val_vtab_no {at_ : Nat → Addr} {x : Nat} : ∀ {ks : List Nat}, x ∉ ks → valV (vtab ks at_) (Sum.inr (sg x) : L2.Key) = none
  | [], _ => rfl
  | m :: ks, h => by
    have e : ¬ m = x := fun z => h (by rw [z]; exact List.mem_cons_self)
    exact (valV_neg (p := ((Sum.inr (sg m) : L2.Key), V.ref (at_ m))) fun z => e (vkey_inj z)).trans (val_vtab_no fun z => h (List.mem_cons_of_mem _ z))
theorem put_vtab {at_ : Nat → Addr} {x : Nat} {ks : List Nat} (b : Addr) (h : x ∉ ks) : putK (vtab ks at_) (Sum.inr (sg x) : L2.Key) (.ref b) = vtab (ks ++ [x]) (fun m => if m = x then b else at_ m) := by
  rw [putK_new _ (val_vtab_no h)]
  unfold vtab
  rw [List.map_append]
  have e : ks.map (fun m => ((Sum.inr (sg m) : L2.Key), V.ref (at_ m))) = ks.map fun m => ((Sum.inr (sg m) : L2.Key), V.ref (if m = x then b else at_ m)) := by
    refine List.map_congr_left fun m hm => ?_
    rw [if_neg fun z : m = x => h (z ▸ hm)]
  rw [e]
  simp
abbrev itp (w : List Int) : List V := w.map V.int
/-- the dict of values: variable -> tuple of ints -/
structure ValsAl (H : Hp) (d : Addr) (ks : List Nat) (v : Nat → List Int) (at_ : Nat → Addr) : Prop where
  d : H d = some (.dK (vtab ks at_))
  t : ∀ x ∈ ks, H (at_ x) = some (.tup (itp (v x)))
structure ValsAt (H : Hp) (d : Addr) (ks : List Nat) (v : Nat → List Int) : Prop where
  ex : ∃ at_, ValsAl H d ks v at_
section
variable {H H' : Hp} {d : Addr} {ks : List Nat} {v : Nat → List Int}
theorem ValsAt.same (L : ValsAt H d ks v) (s : Same H H') : ValsAt H' d ks v := by
  obtain ⟨at_, h1, h2⟩ := L.ex
  exact ⟨at_, s _ _ h1, fun n hn => s _ _ (h2 n hn)⟩
theorem ValsAt.get (L : ValsAt H d ks v) {x : Nat} (hx : x ∈ ks) : ∃ q, DGet H d (.str (sg x)) (some (.ref q)) ∧ H q = some (.tup (itp (v x))) := by
  obtain ⟨at_, h1, h2⟩ := L.ex
  refine ⟨at_ x, ?_, h2 x hx⟩
  rw [← val_vtab hx]
  exact DGet.k (k := Sum.inr (sg x)) h1
theorem ValsAt.get' (L : ValsAt H d ks v) (x : Nat) : ∃ o, DGet H d (.str (sg x)) o ∧ o.isSome = decide (x ∈ ks) := by
  obtain ⟨at_, h1, h2⟩ := L.ex
  refine ⟨_, DGet.k (k := Sum.inr (sg x)) h1, ?_⟩
  by_cases h : x ∈ ks
  · rw [val_vtab h, decide_eq_true h]
    rfl
  · rw [val_vtab_no h, decide_eq_false h]
    rfl
theorem ValsAt.put {q x : Nat} {wv : List Int} (L : ValsAt H d ks v) (hx : x ∉ ks) (hq : H q = some (.tup (itp wv))) :
    ∃ kvs, H d = some (.dK kvs) ∧ kvs.length = ks.length ∧ ValsAt (upd H d (.dK (putK kvs (Sum.inr (sg x) : L2.Key) (.ref q)))) d (ks ++ [x]) (fun y => if y = x then wv else v y) := by
  obtain ⟨at_, h1, h2⟩ := L.ex
  refine ⟨_, h1, vtab_len _ _, fun m => if m = x then q else at_ m, by rw [upd_same, put_vtab q hx], fun m hm => ?_⟩
  show upd H d _ (if m = x then q else at_ m) = some (.tup (itp (if m = x then wv else v m)))
  by_cases e : m = x
  · rw [if_pos e, if_pos e, upd_ne (ne_of hq h1 (by intro z; cases z))]
    exact hq
  · have hm2 : m ∈ ks := (List.mem_append.mp hm).elim id fun z => absurd (List.mem_singleton.mp z) e
    rw [if_neg e, if_neg e, upd_ne (ne_of (h2 m hm2) h1 (by intro z; cases z))]
    exact h2 m hm2
theorem ValsAt.congr {v' : Nat → List Int} (L : ValsAt H d ks v) (h : ∀ x ∈ ks, v x = v' x) : ValsAt H d ks v' := by
  obtain ⟨at_, h1, h2⟩ := L.ex
  exact ⟨at_, h1, fun n hn => by rw [← h n hn]; exact h2 n hn⟩
end
section
variable {P : Program} {w : World} {K : PySem.W.Frag} {mg : Str → Option Value} {base : Heap}
def spAreValues : Sp := fun vs H Q _ => ∃ (R ks : List Nat) (d : Addr) (v : Nat → List Int), vs = [.str (tx R), .ref d] ∧ ValsAt H d ks v ∧ R.length ≤ 40 ∧ ks.length = (fo R).length ∧ (∀ x ∈ R, x ∈ ks) ∧ (∀ x ∈ ks, TxtOk (v x) ∧ v x ≠ []) ∧ ∀ H', Same H H' → Q (.bl true) H'
theorem scAreValues : FnScope ["pattern", "values", "sign", "text"] ["pattern", "values"] (defScope sAreValues) := ⟨rfl, rfl, rfl, by decide +kernel, rfl, by decide +kernel, by decide +kernel⟩
theorem d_are_values (p : Pl K mg "are_values" sAreValues) (T : Bt mg) (D1 : Dn P w K mg base 1 "distinct" ["pattern"] spDistinct) (D2 : Dn P w K mg base 3 "fits_text" ["value"] (spFitsText K)) : Dn P w K mg base 4 "are_values" ["pattern", "values"] spAreValues := by
  refine p.dn scAreValues (fun _ _ _ _ _ _ us hl => match us, hl with | [_, _], _ => rfl) (fun vs H Q E h => ?_) (fun f cdv A outer s H vs Q E hr h => ?_)
  · obtain ⟨R, ks, d, v, rfl, _⟩ := h
    rfl
  · obtain ⟨R, ks, d, v, rfl, hv, h40, hl, hm, ht, k⟩ := h
    have hu := hu_of hr
    have hr1 : Room 1 _ := hr.mono (by decide)
    refine ⟨_, pss_cons (ps_if (PW.pt (pw_or (pt_not (pt_val (pe_callB call_isB (by rfl) T.isinstance boot_isinstance (pa_cons (pv 1) (pa_cons (pe_bltn (v := .ty "dict") (by rfl) T.dict (by decide +kernel) rfl) pa_nil)))))
        (pw_or1 (pt_cmpR op_ne (pe_callB call_lenD (by rfl) T.len PySem.boot_len (pa_cons (pv 1) pa_nil)) (pe_callB call_len_str (by rfl) T.len PySem.boot_len (pa_cons (pe_dn D1 hr1 (pa_cons (pv 0) pa_nil)) pa_nil)) (nomark _))))) (pss_one (ps_ret pe_bl)) pss_nil)
      (pss_cons (ps_if (pt_not (pt_val (pe_callB (cr_all rfl) (by rfl) T.all (by decide +kernel) (pa_cons
        (pe_lc (own := [("sign", 2)]) (g := gName 2) (tt := tYes) rfl scAreValues.nd (pi_str (pv 0)) (blkOk_by (N := ["pattern", "values", "sign", "text"]) (sc := defScope sAreValues) (by decide +kernel))
          (fun _ _ _ _ _ => pg_name (i := 2) scAreValues.nd rfl (Or.inl rfl)) (fun _ _ _ _ _ => pts_nil)
          (fun _ _ _ _ _ => pe_cmp (pc_din hu (pv 2) (pv 1)) rfl)) pa_nil)))) (pss_one (ps_ret pe_bl)) pss_nil)
      (pss_one (ps_ret (pe_callB (cr_all rfl) (by rfl) T.all (by decide +kernel) (pa_cons
        (pe_lock (pe_lc (own := [("text", 3)]) (g := gName 3) (tt := tYes) rfl scAreValues.nd (pi_values (pv 1)) (blkOk_by (N := ["pattern", "values", "sign", "text"]) (sc := defScope sAreValues) (by decide +kernel))
          (fun _ _ _ _ _ => pg_name (i := 3) scAreValues.nd rfl (Or.inl rfl)) (fun _ _ _ _ _ => pts_nil)
          (fun _ _ _ _ _ => pe_and (pe_dn D2 hr (pa_cons (pv 3) pa_nil)) (pe_one (pe_cmpR op_gt (pe_callB (show CallR _ _ (fun xs H Q => ∃ p ys, xs = [V.ref p] ∧ (SqL K H p ys ∨ SqT K H p ys) ∧ Q (.int ys.length) H) from call_len_seq) (by rfl) T.len PySem.boot_len (pa_cons (pv 3) pa_nil)) pe_int (nomark _)))))) pa_nil))))), ?_⟩
    obtain ⟨at_, hd, hat⟩ := hv.ex
    refine ⟨_, rfl, _, "dict", "dict", true, rfl, .base (.dK hd), k_dict_dict, true, rfl, ?_⟩
    refine iteF ?_
    refine ⟨_, rfl, d, _, rfl, hd, _, rfl, R, rfl, by omega, fun H1 s1 => ⟨_, rfl, tx_line (Nat.le_trans (fo_len R) (by omega)), rfl, _, rfl, ?_⟩⟩
    refine iteNS (by rw [vtab_len, tx_len, hl]) ?_
    refine ⟨_, rfl, _, rfl, fun L hL => lc_y R (fun x => V.bl (decide (x ∈ ks))) walk_tx hL (small1000 (by omega)) (fun _ _ => trivial) ?_ ?_⟩
    · rintro i x y H2 H3 hx s2 ⟨rfl, c, hc, rfl⟩ N1 n1
      rw [hx] at hc
      cases hc
      obtain ⟨o, g1, g2⟩ := (hv.same (s1.trans s2)).get' x
      refine ⟨rfl, _, rfl, _, rfl, d, o, rfl, g1, ?_⟩
      rw [g2]
      exact n1 _ (Same.refl _)
    · intro H2 s2 hd2
      refine ⟨L, R.map fun x => decide (x ∈ ks), rfl, SqL.of (by rw [hd2, List.map_map]; rfl), true, ?_, ?_⟩
      · rw [map_all, List.all_eq_true.mpr fun x hx => decide_eq_true (hm x hx)]
      refine iteF ?_
      have s12 := s1.trans s2
      refine ⟨d, _, s12 _ _ hd, trivial, fun od => ?_⟩
      have hf : (upd H2 d (.frz od (.dK (vtab ks at_)))) d = some (.frz od (.dK (vtab ks at_))) := upd_same
      refine ⟨_, rfl, d, od, _, rfl, hf, fun L2 hL2 => lc_y ks (fun _ => V.bl true) (by have w := walk_values (d := d) (o := od) (kvs := vtab ks at_); rw [vtab_len] at w; exact w) hL2
        (small1000 (by rw [hl]; exact Nat.le_trans (fo_len R) (by omega))) (fun H4 s4 => s4 _ _ hf) ?_ ?_⟩
      · rintro i x y H4 H5 hx s4 ⟨rfl, key, hk⟩ N1 n1
        have hxk := List.mem_of_getElem? hx
        have e : y = V.ref (at_ x) := by
          unfold vtab at hk
          rw [List.getElem?_map, hx] at hk
          cases hk
          rfl
        subst e
        have h1 : H5 (at_ x) = some (.tup (itp (v x))) := s4 _ _ (by rw [upd_ne (ne_of (hat x hxk) hd (by intro z; cases z))]; exact s12 _ _ (hat x hxk))
        obtain ⟨ok, ne⟩ := ht x hxk
        refine ⟨rfl, _, rfl, at_ x, v x, rfl, h1, ok, fun H6 s6 => ⟨true, rfl, iteT ?_⟩⟩
        refine ⟨_, rfl, at_ x, _, rfl, .inr (SqT.of (s6 _ _ h1)), _, _, rfl, rfl, ?_⟩
        have e : decide ((0 : Int) < ((itp (v x)).length : Int)) = true := by
          rw [decide_eq_true_eq, List.length_map]
          have := List.length_pos_iff.mpr ne
          omega
        show N1 (.bl (decide ((0 : Int) < ((itp (v x)).length : Int)))) H6
        rw [e]
        exact n1 _ s6
      · intro H4 s4 hd4
        have u4 : Same H2 (upd H4 d (.dK (vtab ks at_))) := fun b o e => by
          by_cases z : b = d
          · rw [z, upd_same]
            rw [z, s12 _ _ hd] at e
            exact e
          · rw [upd_ne z]
            exact s4 _ _ (by rw [upd_ne z]; exact e)
        refine ⟨s4 _ _ hf, ?_⟩
        have nL : L2 ≠ d := fun z => by rw [z, upd_same] at hL2; cases hL2
        rw [map_const, ← List.map_replicate] at hd4
        refine ⟨L2, List.replicate ks.length true, rfl, SqL.of (by rw [upd_ne nL]; exact hd4), ?_⟩
        rw [all_true]
        exact k _ (s12.trans u4)
def spFilled (K : PySem.W.Frag) : Sp := fun vs H Q _ => ∃ (R ks : List Nat) (d : Addr) (v : Nat → List Int), vs = [.str (tx R), .ref d] ∧ ValsAt H d ks v ∧ R.length ≤ 40 ∧ (∀ x ∈ R, x ∈ ks) ∧ (R.flatMap v).length ≤ 100000 ∧ ∀ H' p, Same H H' → H p = none → H' p = some (.tup (itp (R.flatMap v))) → Q (.ref p) H'
theorem scFilled : FnScope ["pattern", "values", "letters", "sign"] ["pattern", "values"] (defScope sFilled) := ⟨rfl, rfl, rfl, by decide +kernel, rfl, by decide +kernel, by decide +kernel⟩
theorem d_filled (p : Pl K mg "filled" sFilled) (T : Bt mg) : Dn P w K mg base 1 "filled" ["pattern", "values"] (spFilled K) := by
  refine p.dn scFilled (fun _ _ _ _ _ _ us hl => match us, hl with | [_, _], _ => rfl) (fun vs H Q E h => ?_) (fun f cdv A outer s H vs Q E hr h => ?_)
  · obtain ⟨R, ks, d, v, rfl, _⟩ := h
    rfl
  · obtain ⟨R, ks, d, v, rfl, hv, h40, hm, hb, k⟩ := h
    have hu := hu_of hr
    refine ⟨_, pss_cons (ps_set (i := 2) scFilled.nd rfl (.inl rfl) (pe_lst pa_nil))
      (pss_cons (ps_for PassesOwn.never rfl (pi_str (pv 0)) (pg_name (i := 3) scFilled.nd rfl (Or.inl rfl))
        (pss_one (ps_expr (pe_bm PySem.F.plainAttrs_list PySem.F.slot_list_extend PySem.F.type_list_extend mt_extT (pv 2) (pa_cons (pe_dget hu (pv 1) (pv 3) (fun _ _ => rfl)) pa_nil)))))
      (pss_one (ps_ret (pe_callTy call_tuple_of (by rfl) T.tuple (by decide +kernel) (pa_cons (pv 2) pa_nil))))), ?_⟩
    refine ⟨(by show 0 ≤ sizeLine; decide), fun l hl => ?_⟩
    refine ⟨_, rfl, tx R, rfl, ?_⟩
    refine for_it (walk_tx (cs := R)) (fun i σ H2 => ∃ v3, σ = [some (.str (tx R)), some (.ref d), some (.ref l), v3] ∧ Same H H2 ∧ H2 l = some (.lst (itp ((R.take i).flatMap v)))) ⟨_, rfl, same_upd (Same.refl H) hl, upd_same⟩ (fun _ _ _ _ _ => trivial) ?_ ?_
    · rintro i x σ H2 H3 hi ⟨v3, rfl, s2, hl2⟩ ⟨rfl, c, hc, rfl⟩
      obtain ⟨q, g1, g2⟩ := (hv.same s2).get (hm c (List.mem_of_getElem? hc))
      have et : R.take (i + 1) = R.take i ++ [c] := by rw [List.take_add_one, hc]; rfl
      have e2 : (R.take (i + 1)).flatMap v = (R.take i).flatMap v ++ v c := by
        rw [et, List.flatMap_append]
        simp
      have le : ((R.take (i + 1)).flatMap v).length ≤ (R.flatMap v).length := by
        have z : R.flatMap v = (R.take (i + 1)).flatMap v ++ (R.drop (i + 1)).flatMap v := by rw [← List.flatMap_append, List.take_append_drop]
        rw [z, List.length_append]
        exact Nat.le_add_right _ _
      refine ⟨_, rfl, .inl ⟨rfl, _, SqL.of hl2⟩, _, rfl, _, rfl, d, .ref q, rfl, g1, l, q, _, _, rfl, rfl, hl2, SqT.of g2, ?_, ?_⟩
      · rw [← List.length_append, ← List.map_append, ← e2, List.length_map]
        exact Nat.le_trans le (Nat.le_trans hb (by decide))
      · refine ⟨_, rfl, fun b o e => ?_, ?_⟩
        · rw [upd_ne (ne_of_none e hl)]
          exact s2 _ _ e
        · rw [upd_same, e2]
          simp
    · rintro σ H2 ⟨v3, rfl, s2, hl2⟩
      rw [List.take_length] at hl2
      refine ⟨_, rfl, l, _, rfl, .inl ⟨SqL.of hl2, fun q hq => ?_⟩⟩
      exact k _ q (s2.trans (same_upd (Same.refl _) hq)) (s2.free hq) upd_same
end
end MO
set_option Elab.async false
set_option linter.all false
set_option maxRecDepth 100000
/-! chains -/
namespace MO
open PySem PySem.Spec PyProof.Rows L2 XS KM
abbrev sPartsW : Stmt := top 37
abbrev sIsMember : Stmt := top 38
abbrev sIsChainOf : Stmt := top 39
abbrev sIsChain : Stmt := top 40
/-- the parts that are left of one pattern -/
def pts (R : List Nat) : List V := if R = [] then [] else [V.str (tx R)]
section
variable {P : Program} {w : World} {K : PySem.W.Frag} {mg : Str → Option Value} {base : Heap}
def spPartsW (K : PySem.W.Frag) : Sp := fun vs H Q _ => ∃ (a : Addr) (R D : List Nat), vs = [.ref a, .str (tx D)] ∧ PartsAt K H a R ∧ R.length ≤ 40 ∧ ∀ H' p, Same H H' → H p = none → H' p = some (.tup (pts (cut R D))) → Q (.ref p) H'
theorem scPartsW : FnScope ["parts", "letters", "found", "part"] ["parts", "letters"] (defScope sPartsW) := ⟨rfl, rfl, rfl, by decide +kernel, rfl, by decide +kernel, by decide +kernel⟩
theorem d_parts_without (p : Pl K mg "parts_without" sPartsW) (T : Bt mg) (D1 : Dn P w K mg base 1 "without" ["pattern", "letters"] spWithout) : Dn P w K mg base 2 "parts_without" ["parts", "letters"] (spPartsW K) := by
  refine p.dn scPartsW (fun _ _ _ _ _ _ us hl => match us, hl with | [_, _], _ => rfl) (fun vs H Q E h => ?_) (fun f cdv A outer s H vs Q E hr h => ?_)
  · obtain ⟨a, R, D, rfl, _⟩ := h
    rfl
  · obtain ⟨a, R, D, rfl, ha, h40, k⟩ := h
    refine ⟨_, pss_cons (ps_setLc (i := 2) (own := [("part", 3)]) (g := gName 3) (tt := tYes) rfl scPartsW.nd rfl rfl (sw_true rfl rfl rfl (by decide +kernel)) (pi_seq K (pv 0)) (blkOk_by (N := ["parts", "letters", "found", "part"]) (sc := defScope sPartsW) (by decide +kernel))
          (fun _ _ _ _ _ => pg_name (i := 3) scPartsW.nd rfl (Or.inl rfl)) (fun _ _ _ _ _ => pts_nil)
          (fun _ _ _ _ _ => pe_dn D1 hr (pa_cons (pv 3) (pa_cons (pv 1) pa_nil))))
      (pss_one (ps_ret (pe_callTy call_tuple_of (by rfl) T.tuple (by decide +kernel) (pa_cons
        (pe_lc (own := [("part", 3)]) (g := gName 3) rfl scPartsW.nd (pi_list (pv 2)) (blkOk_by (N := ["parts", "letters", "found", "part"]) (sc := defScope sPartsW) (by decide +kernel))
          (fun _ _ _ _ _ => pg_name (i := 3) scPartsW.nd rfl (Or.inl rfl)) (fun _ _ _ _ _ => pts_one (pt_cmpR op_ne (pv 3) pe_str (nomark _)))
          (fun _ _ _ _ _ => pv 3)) pa_nil)))), ?_⟩
    refine ⟨_, rfl, a, _, rfl, ha, fun J wJ L hL => lc_y [R] (fun R => V.str (tx (cut R D))) wJ hL (by show 1 < sizeLine; decide) (fun _ s => s) ?_ ?_⟩
    · rintro i x v H1 H2 hx s1 ⟨rfl, hv⟩ N1 n1
      have e : x = R ∧ v = V.str (tx R) := by
        cases i with
        | zero => exact ⟨(Option.some.inj hx).symm, (Option.some.inj hv).symm⟩
        | succ i => cases hx
      obtain ⟨rfl, rfl⟩ := e
      exact ⟨rfl, _, rfl, _, rfl, x, D, rfl, by omega, fun H3 s3 => n1 _ s3⟩
    · intro H1 s1 hd
      refine ⟨_, rfl, L, rfl, ⟨_, SqL.of hd⟩, fun L2 hL2 => lc_f [cut R D] (fun c => decide (c ≠ [])) (fun c => V.str (tx c)) (by have w := walk_list (K := K) (a := L) (xs := [V.str (tx (cut R D))]); exact w) hL2 (by show 1 < sizeLine; decide) (fun H2 s2 => s2.seq (SqL.of hd)) ?_ ?_⟩
      · rintro i x v H2 H3 hx s2 ⟨rfl, hv⟩ N1 N0 n1 n0
        have e : x = cut R D ∧ v = V.str (tx (cut R D)) := by
          cases i with
          | zero => exact ⟨(Option.some.inj hx).symm, (Option.some.inj hv).symm⟩
          | succ i => cases hx
        obtain ⟨rfl, rfl⟩ := e
        refine ⟨rfl, _, rfl, rfl, _, rfl, ?_⟩
        have q : decide (V.str (tx (cut R D)) = V.str ("" : Str)) = decide (cut R D = []) := by
          refine decide_eq_decide.mpr ?_
          rw [str_inj]
          exact ⟨fun z => tx_inj (b := []) z, fun z => by rw [z]; rfl⟩
        rw [q]
        by_cases c : cut R D = []
        · rw [decide_eq_true c]
          exact iteF (n0 (by simp [c]) _ (Same.refl _))
        · rw [decide_eq_false c]
          exact iteT ⟨_, rfl, n1 (by simp [c]) _ (Same.refl _)⟩
      · intro H2 s2 hd2
        have e : ([cut R D].filter fun c => decide (c ≠ [])).map (fun c => V.str (tx c)) = pts (cut R D) := by
          unfold pts
          by_cases c : cut R D = []
          · simp [c]
          · simp [c]
        rw [e] at hd2
        refine ⟨L2, _, rfl, .inl ⟨SqL.of hd2, fun q hq => ?_⟩⟩
        have s12 := s1.trans s2
        exact k _ q (s12.trans (same_upd (Same.refl _) hq)) (s12.free hq) upd_same
def spIsMember (K : PySem.W.Frag) : Sp := fun vs H Q _ => ∃ (a : Addr) (R D : List Nat), vs = [.ref a, .str (tx D)] ∧ PartsAt K H a R ∧ R.length ≤ 40 ∧ Lows R ∧ D ≠ [] ∧ D.Pairwise (· < ·) ∧ (∀ x ∈ D, x ∈ R) ∧ Free R D ∧ ∀ H', Same H H' → Q (.bl true) H'
theorem scIsMember : FnScope ["parts", "letters", "sign", "part"] ["parts", "letters"] (defScope sIsMember) := ⟨rfl, rfl, rfl, by decide +kernel, rfl, by decide +kernel, by decide +kernel⟩
theorem d_is_member (p : Pl K mg "is_member" sIsMember) (T : Bt mg) (D1 : Dn P w K mg base 2 "is_variable_set" ["value"] spIsVarSet) (D2 : Dn P w K mg base 3 "components_of" ["parts"] (spComps K)) (D3 : Dn P w K mg base 2 "is_free_among" ["components", "letters"] spFreeAmong) : Dn P w K mg base 4 "is_member" ["parts", "letters"] (spIsMember K) := by
  refine p.dn scIsMember (fun _ _ _ _ _ _ us hl => match us, hl with | [_, _], _ => rfl) (fun vs H Q E h => ?_) (fun f cdv A outer s H vs Q E hr h => ?_)
  · obtain ⟨a, R, D, rfl, _⟩ := h
    rfl
  · obtain ⟨a, R, D, rfl, ha, h40, hlow, hne, asc, sub, free, k⟩ := h
    have hr2 : Room 2 _ := hr.mono (by decide)
    have dlen : D.length ≤ 40 := Nat.le_trans (sub_len (nd_of_lt asc) sub) h40
    refine ⟨_, pss_cons (ps_if (PW.pt (pw_or (pt_not (pt_val (pe_dn D1 hr2 (pa_cons (pv 1) pa_nil)))) (pw_or1 (pt_cmpR op_eq (pv 1) pe_str (nomark _))))) (pss_one (ps_ret pe_bl)) pss_nil)
      (pss_cons (ps_if (pt_not (pt_val (pe_callB (cr_all rfl) (by rfl) T.all (by decide +kernel) (pa_cons
        (pe_lc (own := [("sign", 2)]) (g := gName 2) (tt := tYes) rfl scIsMember.nd (pi_str (pv 1)) (blkOk_by (N := ["parts", "letters", "sign", "part"]) (sc := defScope sIsMember) (by decide +kernel))
          (fun _ _ _ _ _ => pg_name (i := 2) scIsMember.nd rfl (Or.inr rfl)) (fun _ _ _ _ _ => pts_nil)
          (fun _ _ _ _ _ => pe_callB (show CallR _ _ (rAny K) from cr_any rfl) (by rfl) T.any (by decide +kernel) (pa_cons
            (pe_lc (own := [("part", 3)]) (g := gName 3) (tt := tYes) rfl scIsMember.nd (pi_seq K (pv 0)) (blkOk_by (N := ["parts", "letters", "sign", "part"]) (by kernel_rfl))
              (fun _ _ _ _ _ => pg_name (i := 3) scIsMember.nd rfl (Or.inl rfl)) (fun _ _ _ _ _ => pts_nil)
              (fun _ _ _ _ _ => pe_cmpR op_in_sign (pv 2) (pv 3) (by rfl))) pa_nil))) pa_nil)))) (pss_one (ps_ret pe_bl)) pss_nil)
      (pss_one (ps_ret (pe_dn D3 hr2 (pa_cons (pe_dn D2 hr (pa_cons (pv 0) pa_nil)) (pa_cons (pv 1) pa_nil)))))), ?_⟩
    have d0 : decide (V.str (tx D) = V.str ("" : Str)) = false := decide_eq_false fun z => hne (tx_inj (b := []) (str_inj.mp z))
    refine ⟨_, rfl, D, rfl, hlow.sub sub, asc, by omega, fun H1 s1 => ⟨true, rfl, iteF ?_⟩⟩
    refine ⟨_, rfl, rfl, _, rfl, ?_⟩
    rw [d0]
    refine iteF ?_
    refine ⟨_, rfl, _, rfl, fun L hL => lc_y D (fun _ => V.bl true) walk_tx hL (small1000 (by omega)) (fun _ _ => trivial) ?_ ?_⟩
    · rintro i x v H2 H3 hx s2 ⟨rfl, c, hc, rfl⟩ N1 n1
      rw [hx] at hc
      cases hc
      have hxR := sub x (List.mem_of_getElem? hx)
      refine ⟨rfl, _, rfl, a, _, rfl, PartsAt.same (s1.trans s2) ha, fun J wJ L2 hL2 => lc_y [R] (fun R => V.bl (decide (x ∈ R))) wJ hL2 (by show 1 < sizeLine; decide) (fun _ s => s) ?_ ?_⟩
      · rintro j R' v H4 H5 hj s4 ⟨rfl, hv⟩ N2 n2
        have e : R' = R ∧ v = V.str (tx R) := by
          cases j with
          | zero => exact ⟨(Option.some.inj hj).symm, (Option.some.inj hv).symm⟩
          | succ j => cases hj
        obtain ⟨rfl, rfl⟩ := e
        refine ⟨rfl, _, rfl, _, rfl, x, _, rfl, rfl, ?_⟩
        rw [tx_list]
        exact n2 _ (Same.refl _)
      · intro H4 s4 hd
        refine ⟨L2, [decide (x ∈ R)], rfl, SqL.of hd, ?_⟩
        rw [decide_eq_true hxR]
        exact n1 _ s4
    · intro H2 s2 hd
      rw [map_const, ← List.map_replicate] at hd
      refine ⟨L, List.replicate D.length true, rfl, SqL.of hd, true, by rw [all_true], iteF ?_⟩
      have s12 := s1.trans s2
      refine ⟨_, rfl, a, R, rfl, PartsAt.same s12 ha, h40, hlow, fun H3 q cs s3 hq hc hk => ?_⟩
      refine ⟨_, rfl, q, cs, D, rfl, hc, by omega, fun c hc => hk.apart free hc, fun H4 s4 => ?_⟩
      exact k H4 (s12.trans (s3.trans s4))
/-- a list or a tuple of texts -/
def spChainOf (K : PySem.W.Frag) : Sp := fun vs H Q _ => ∃ (a b : Addr) (R : List Nat) (steps : List (List Nat)), vs = [.ref a, .ref b] ∧ SqL K H a [V.str (tx R)] ∧ H b = some (.lst (steps.map fun D => V.str (tx D))) ∧ PatOk R ∧ IsCh R steps ∧ ∀ H', Same H H' → Q (.bl true) H'
theorem scChainOf : FnScope ["parts", "value", "here", "letters"] ["parts", "value"] (defScope sIsChainOf) := ⟨rfl, rfl, rfl, by decide +kernel, rfl, by decide +kernel, by decide +kernel⟩
theorem k_list_tup : kitB "list" "tuple" = some false := by decide +kernel
theorem cut_low {R D : List Nat} (h : Lows R) : Lows (cut R D) := h.sub fun x hx => (mem_cut.mp hx).1
theorem pts_ne {R : List Nat} (h : R ≠ []) : pts R = [V.str (tx R)] := if_neg h
theorem ch_drop {R : List Nat} {steps : List (List Nat)} (h : IsCh R steps) : ∀ i, i ≤ steps.length → ∃ R', IsCh R' (steps.drop i) ∧ (R'.length ≤ R.length) ∧ (∀ x ∈ R', x ∈ R) := by
  intro i
  induction i with
  | zero => exact fun _ => ⟨R, h, Nat.le_refl _, fun _ z => z⟩
  | succ i ih =>
    intro hi
    obtain ⟨R', h1, h2, h3⟩ := ih (by omega)
    have e : steps.drop i = steps[i] :: steps.drop (i + 1) := by rw [List.drop_eq_getElem_cons]
    rw [e] at h1
    exact ⟨_, h1.2.2.2.2, Nat.le_trans (cut_len _ _) h2, fun x hx => h3 x (mem_cut.mp hx).1⟩
theorem d_is_chain_of (p : Pl K mg "is_chain_of" sIsChainOf) (T : Bt mg) (D1 : Dn P w K mg base 2 "parts_without" ["parts", "letters"] (spPartsW K)) (D2 : Dn P w K mg base 4 "is_member" ["parts", "letters"] (spIsMember K)) : Dn P w K mg base 5 "is_chain_of" ["parts", "value"] (spChainOf K) := by
  refine p.dn scChainOf (fun _ _ _ _ _ _ us hl => match us, hl with | [_, _], _ => rfl) (fun vs H Q E h => ?_) (fun f cdv A outer s H vs Q E hr h => ?_)
  · obtain ⟨a, b, R, steps, rfl, _⟩ := h
    rfl
  · obtain ⟨a, b, R, steps, rfl, ha, hb, ok, ch, k⟩ := h
    have hr2 : Room 2 _ := hr.mono (by decide)
    have l40 := ok.len
    refine ⟨_, pss_cons (ps_if (pt_not (pt_val (pe_callB call_isiT (by rfl) T.isinstance boot_isinstance (pa_cons (pv 1) (pa_cons (pe_tup (pa_cons (pe_bltn (v := .ty "list") (by rfl) T.list (by decide +kernel) rfl) (pa_cons (pe_bltn (v := .ty "tuple") (by rfl) T.tuple (by decide +kernel) rfl) pa_nil))) pa_nil))))) (pss_one (ps_ret pe_bl)) pss_nil)
      (pss_cons (ps_set (i := 2) scChainOf.nd rfl (.inl rfl) (pe_dn D1 hr2 (pa_cons (pv 0) (pa_cons pe_str pa_nil))))
      (pss_cons (ps_for PassesOwn.never rfl (pi_list (pv 1)) (pg_name (i := 3) scChainOf.nd rfl (Or.inl rfl))
        (pss_cons (ps_if (pt_not (pt_val (pe_dn D2 hr (pa_cons (pv 2) (pa_cons (pv 3) pa_nil))))) (pss_one (ps_ret pe_bl)) pss_nil)
          (pss_one (ps_set (i := 2) scChainOf.nd rfl (.inl rfl) (pe_dn D1 hr2 (pa_cons (pv 2) (pa_cons (pv 3) pa_nil)))))))
      (pss_one (ps_ret (pe_cmpR (op_eqD hr.units) (pv 2) (pe_tup pa_nil) (nomark _)))))), ?_⟩
    refine ⟨_, rfl, (by show 2 ≤ sizeLine; decide), fun t ht => ?_⟩
    have s0 : Same H (upd H t (.tup [.ty "list", .ty "tuple"])) := same_upd (Same.refl _) ht
    refine ⟨.ref b, t, [.ty "list", .ty "tuple"], .type "list", [.type "list", .type "tuple"], true, rfl, upd_same, .cons (.ty "list") (.cons (.ty "tuple") .nil), .base (.lst (s0 _ _ hb)), kitAny_cons (kit_ty k_list_list) (fun h => nomatch h) (fun _ => rfl), true, rfl, iteF ?_⟩
    refine ⟨_, rfl, a, R, [], rfl, .inl (s0.seq ha), l40, fun H1 p1 s1 np h1 => ?_⟩
    rw [cut_nil] at h1
    have s01 := s0.trans s1
    refine ⟨_, rfl, b, rfl, ⟨_, SqL.of (s01 _ _ hb)⟩, ?_⟩
    refine for_list (K := K) (a := b) (xs := steps.map fun D => V.str (tx D)) (fun i σ H2 => ∃ R' p v3, σ = [some (.ref a), some (.ref b), some (.ref p), v3] ∧ Same H H2 ∧ H2 p = some (.tup (pts R')) ∧ IsCh R' (steps.drop i) ∧ R'.length ≤ 40 ∧ Lows R')
      ⟨R, p1, _, rfl, s01, h1, ch, l40, ok.low⟩ (fun i σ H2 _ ⟨_, _, _, _, s2, _⟩ => SqL.of (s2 _ _ hb)) ?_ ?_
    · rintro i v σ H2 hi ⟨R', q, v3, rfl, s2, hq, hch, hlen, hlow⟩
      obtain ⟨D, hD, rfl⟩ := map_at hi
      obtain ⟨hlt, eD⟩ := List.getElem?_eq_some_iff.mp hD
      have e : steps.drop i = D :: steps.drop (i + 1) := by rw [List.drop_eq_getElem_cons hlt, eD]
      rw [e] at hch
      obtain ⟨c1, c2, c3, c4, c5⟩ := hch
      have hR' : R' ≠ [] := by
        obtain ⟨x, hx⟩ := List.exists_mem_of_ne_nil _ c1
        exact List.ne_nil_of_mem (c3 x hx)
      have pa : PartsAt K H2 q R' := .inr (SqT.of (by rw [← pts_ne hR']; exact hq))
      refine ⟨_, rfl, _, rfl, q, R', D, rfl, pa, hlen, hlow, c1, c2, c3, c4, fun H3 s3 => ⟨true, rfl, iteF ?_⟩⟩
      refine ⟨_, rfl, _, rfl, q, R', D, rfl, PartsAt.same s3 pa, hlen, fun H4 q4 s4 n4 h4 => ?_⟩
      exact ⟨cut R' D, q4, _, rfl, s2.trans (s3.trans s4), h4, c5, Nat.le_trans (cut_len _ _) hlen, cut_low hlow⟩
    · rintro σ H2 ⟨R', q, v3, rfl, s2, hq, hch, hlen, hlow⟩
      rw [List.length_map, List.drop_length] at hch
      have e : R' = [] := hch
      subst e
      refine ⟨_, rfl, (by show 0 ≤ sizeLine; decide), fun z hz => ?_⟩
      have s3 := same_upd (o := .tup []) (Same.refl H2) hz
      refine ⟨.tuple [], .tuple [], .tup (SqT.of (s3 _ _ hq)) .nil, .tup (SqT.of upd_same) .nil, by decide +kernel, by decide +kernel, ?_⟩
      exact k _ (s2.trans s3)
def spIsChain : Sp := fun vs H Q _ => ∃ (b : Addr) (R : List Nat) (steps : List (List Nat)), vs = [.str (tx R), .ref b] ∧ H b = some (.lst (steps.map fun D => V.str (tx D))) ∧ PatOk R ∧ IsCh R steps ∧ ∀ H', Same H H' → Q (.bl true) H'
theorem scIsChain : FnScope ["pattern", "value"] ["pattern", "value"] (defScope sIsChain) := ⟨rfl, rfl, rfl, by decide +kernel, rfl, by decide +kernel, by decide +kernel⟩
theorem d_is_chain (p : Pl K mg "is_chain" sIsChain) (D1 : Dn P w K mg base 3 "need_pattern" ["value"] spNeedPat) (D2 : Dn P w K mg base 5 "is_chain_of" ["parts", "value"] (spChainOf K)) : Dn P w K mg base 6 "is_chain" ["pattern", "value"] spIsChain := by
  refine p.dn scIsChain (fun _ _ _ _ _ _ us hl => match us, hl with | [_, _], _ => rfl) (fun vs H Q E h => ?_) (fun f cdv A outer s H vs Q E hr h => ?_)
  · obtain ⟨b, R, steps, rfl, _⟩ := h
    rfl
  · obtain ⟨b, R, steps, rfl, hb, ok, ch, k⟩ := h
    have hr3 : Room 3 _ := hr.mono (by decide)
    refine ⟨_, pss_cons (ps_expr (pe_dn D1 hr3 (pa_cons (pv 0) pa_nil))) (pss_one (ps_ret (pe_dn D2 hr (pa_cons (pe_lst (pa_cons (pv 0) pa_nil)) (pa_cons (pv 1) pa_nil))))), ?_⟩
    refine ⟨_, rfl, R, rfl, ok, fun H1 s1 => ⟨_, rfl, (by show 1 ≤ sizeLine; decide), fun l hl => ?_⟩⟩
    have s2 := s1.trans (same_upd (o := .lst [V.str (tx R)]) (Same.refl H1) hl)
    exact ⟨_, rfl, l, b, R, steps, rfl, SqL.of upd_same, s2 _ _ hb, ok, ch, fun H3 s3 => k H3 (s2.trans s3)⟩
end
end MO
set_option Elab.async false
set_option linter.all false
set_option maxRecDepth 100000
/-! matching; universal texts -/
namespace MO
open PySem PySem.Spec PyProof.Rows L2 XS KM
/-! ### tuples of ints -/
def itd (w : List Int) : PyData := .tuple (w.map PyData.int)
theorem dp_all (K : PySem.W.Frag) (H : Hp) : ∀ w : List Int, DpAll K H (itp w) (w.map PyData.int)
  | [] => .nil
  | i :: w => .cons (.int i) (dp_all K H w)
theorem dp_itp {K : PySem.W.Frag} {H : Hp} {a : Addr} {w : List Int} (h : SqT K H a (itp w)) : Dp K H (.ref a) (itd w) := .tup h (dp_all K H w)
theorem eqvAll_ints : ∀ a b : List Int, PyData.eqvAll (a.map PyData.int) (b.map PyData.int) = decide (a = b)
  | [], [] => rfl
  | [], _ :: _ => rfl
  | _ :: _, [] => rfl
  | x :: a, y :: b => by
    show (x == y && PyData.eqvAll (a.map PyData.int) (b.map PyData.int)) = _
    rw [eqvAll_ints a b, Bool.eq_iff_iff, Bool.and_eq_true, beq_iff_eq, decide_eq_true_eq, decide_eq_true_eq]
    exact ⟨fun ⟨h1, h2⟩ => by rw [h1, h2], fun h => by injection h with h1 h2; exact ⟨h1, h2⟩⟩
theorem eqv_itd (a b : List Int) : PyData.eqv (itd a) (itd b) = decide (a = b) := eqvAll_ints a b
theorem lay_ints : ∀ w : List Int, PyData.canLayAll0 (w.map PyData.int) = true
  | [] => by simp [PyData.canLayAll0]
  | i :: w => by
    have ih := lay_ints w
    simp [PyData.canLayAll0, PyData.canLay0, ih]
theorem deep_ints : ∀ w : List Int, PyData.depthAll (w.map PyData.int) ≤ 1
  | [] => by simp [PyData.depthAll]
  | i :: w => by
    have ih := deep_ints w
    simp [PyData.depthAll, PyData.depth]
    omega
theorem shaped_itd (w : List Int) : SeqAt.shaped (itd w) = true := by
  have h1 := lay_ints w
  have h2 := deep_ints w
  simp [SeqAt.shaped, itd, PyData.canLay0, PyData.depth, h1]
  omega
/-- t + u -/
theorem catA_of {K : PySem.W.Frag} {H : Hp} {a b : Addr} {xs ys : List V} {Q : VK} (ha : H a = some (.tup xs)) (hb : H b = some (.tup ys)) (hz : xs.length + ys.length ≤ sizeLine)
    (k : ∀ q H', Same H H' → H' q = some (.tup (xs ++ ys)) → Q (.ref q) H') : rCatA K (.ref a) (.ref b) H Q := by
  refine ⟨a, b, xs, ys, rfl, rfl, SqT.of ha, SqT.of hb, hz, fun e => ?_, fun _ e => ?_, fun _ _ p hp => k p _ (same_upd (Same.refl _) hp) upd_same⟩
  · subst e
    exact k b H (Same.refl _) hb
  · subst e
    exact k a H (Same.refl _) (by rw [List.append_nil]; exact ha)
/-- t[lo:hi] -/
theorem slA_of {K : PySem.W.Frag} {H : Hp} {a : Addr} {xs : List V} {lo hi : Option Int} {Q : VK} (ha : H a = some (.tup xs))
    (k : ∀ q H', Same H H' → H' q = some (.tup (cutV xs lo hi)) → Q (.ref q) H') : rSlA K (.ref a) lo hi H Q := by
  refine ⟨a, xs, rfl, SqT.of ha, fun ⟨h1, h2⟩ => k a H (Same.refl _) ?_, fun _ p hp => k p _ (same_upd (Same.refl _) hp) upd_same⟩
  unfold cutV
  rw [h1, h2, List.drop_zero, Nat.sub_zero, List.take_length]
  exact ha
theorem cutV_nat (xs : List V) (s l : Nat) (h : s + l ≤ xs.length) : cutV xs (some (s : Int)) (some ((s : Int) + (l : Int))) = (xs.drop s).take l := by
  unfold cutV
  have e1 := HT.sIx_nat xs.length 0 s
  have e2 := HT.sIx_nat xs.length xs.length (s + l)
  rw [Int.natCast_add] at e2
  have e3 : min s xs.length = s := by omega
  have e4 : min (s + l) xs.length = s + l := by omega
  rw [e1, e2, e3, e4, Nat.add_sub_cancel_left]
abbrev sIsPair : Stmt := top 42
abbrev sIsPlace : Stmt := top 43
abbrev sUText : Stmt := top 46
section
variable {P : Program} {w : World} {K : PySem.W.Frag} {mg : Str → Option Value} {base : Heap}
/-- a place: (start, values) -/
structure PlaceAt (H : Hp) (p : Addr) (s : Nat) (ks : List Nat) (v : Nat → List Int) : Prop where
  ex : ∃ d, H p = some (.tup [.int (s : Nat), .ref d]) ∧ ValsAt H d ks v
theorem PlaceAt.same {H H' : Hp} {p : Addr} {s : Nat} {ks : List Nat} {v : Nat → List Int} (L : PlaceAt H p s ks v) (e : Same H H') : PlaceAt H' p s ks v := by
  obtain ⟨d, h1, h2⟩ := L.ex
  exact ⟨d, e _ _ h1, h2.same e⟩
def spIsPair : Sp := fun vs H Q _ => ∃ (p : Addr) (i : Int) (y : V), vs = [.ref p] ∧ H p = some (.tup [.int i, y]) ∧ Q (.bl true) H
theorem scIsPair : FnScope ["value"] ["value"] (defScope sIsPair) := ⟨rfl, rfl, rfl, by decide +kernel, rfl, by decide +kernel, by decide +kernel⟩
theorem d_is_pair (p : Pl K mg "is_pair" sIsPair) (T : Bt mg) (D1 : Dn P w K mg base 1 "is_integer" ["value"] spIsInt) : Dn P w K mg base 2 "is_pair" ["value"] spIsPair := by
  refine p.dn scIsPair (fun _ _ _ _ _ _ us hl => match us, hl with | [_], _ => rfl) (fun vs H Q E h => ?_) (fun f cdv A outer s H vs Q E hr h => ?_)
  · obtain ⟨q, i, y, rfl, _⟩ := h
    rfl
  · obtain ⟨q, i, y, rfl, hq, k⟩ := h
    refine ⟨_, pss_one (ps_ret (pe_and (pe_callB call_isB (by rfl) T.isinstance boot_isinstance (pa_cons (pv 0) (pa_cons (pe_bltn (v := .ty "tuple") (by rfl) T.tuple (by decide +kernel) rfl) pa_nil)))
      (pe_and (pe_cmpR op_eq (pe_callB call_len_seq (by rfl) T.len PySem.boot_len (pa_cons (pv 0) pa_nil)) pe_int (nomark _))
      (pe_one (pe_dn D1 hr (pa_cons (pe_ix ix_tup (pv 0) pe_int (fun _ _ => rfl)) pa_nil)))))), ?_⟩
    refine ⟨_, rfl, _, "tuple", "tuple", true, rfl, .base (.tup hq), k_tup_tup, true, rfl, iteT ?_⟩
    refine ⟨_, rfl, q, _, rfl, .inr (SqT.of hq), rfl, _, rfl, iteT ?_⟩
    exact ⟨_, rfl, q, _, _, _, rfl, rfl, SqT.of hq, atI_nat (j := 0) rfl, i, rfl, k⟩
/-- a place of the pattern in a text -/
def spIsPlace : Sp := fun vs H Q _ => ∃ (R ks : List Nat) (t p : Addr) (txt : List Int) (s : Nat) (v : Nat → List Int), vs = [.str (tx R), .ref t, .ref p] ∧ H t = some (.tup (itp txt)) ∧ TxtOk txt ∧ PlaceAt H p s ks v ∧ PatOk R ∧ ks.length = (fo R).length ∧ (∀ x ∈ R, x ∈ ks) ∧
  (∀ x ∈ ks, TxtOk (v x) ∧ v x ≠ []) ∧ (∃ a c, txt = a ++ R.flatMap v ++ c ∧ a.length = s) ∧ ∀ H', Same H H' → Q (.bl true) H'
theorem scIsPlace : FnScope ["pattern", "text", "value", "start", "values", "block"] ["pattern", "text", "value"] (defScope sIsPlace) := ⟨rfl, rfl, rfl, by decide +kernel, rfl, by decide +kernel, by decide +kernel⟩
theorem d_is_place (p : Pl K mg "is_place" sIsPlace) (T : Bt mg) (D1 : Dn P w K mg base 3 "need_pattern" ["value"] spNeedPat) (D2 : Dn P w K mg base 4 "need_text" ["value"] spNeedText) (D3 : Dn P w K mg base 2 "is_pair" ["value"] spIsPair)
    (D4 : Dn P w K mg base 2 "is_between" ["value", "low", "high"] spBetween) (D5 : Dn P w K mg base 4 "are_values" ["pattern", "values"] spAreValues) (D6 : Dn P w K mg base 1 "filled" ["pattern", "values"] (spFilled K)) : Dn P w K mg base 5 "is_place" ["pattern", "text", "value"] spIsPlace := by
  refine p.dn scIsPlace (fun _ _ _ _ _ _ us hl => match us, hl with | [_, _, _], _ => rfl) (fun vs H Q E h => ?_) (fun f cdv A outer s H vs Q E hr h => ?_)
  · obtain ⟨R, ks, t, q, txt, st, v, rfl, _⟩ := h
    rfl
  · obtain ⟨R, ks, t, q, txt, st, v, rfl, ht, okt, hp, okR, kl, km, kv, ⟨a, c, et, al⟩, k⟩ := h
    have hr1 : Room 1 _ := hr.mono (by decide)
    have hr2 : Room 2 _ := hr.mono (by decide)
    have hr3 : Room 3 _ := hr.mono (by decide)
    obtain ⟨d, hq, hv⟩ := hp.ex
    have tl : txt.length = a.length + (R.flatMap v).length + c.length := by rw [et, List.length_append, List.length_append]
    have tle := okt.len
    refine ⟨_, pss_cons (ps_expr (pe_dn D1 hr3 (pa_cons (pv 0) pa_nil)))
      (pss_cons (ps_expr (pe_dn D2 hr (pa_cons (pv 1) pa_nil)))
      (pss_cons (ps_if (PW.pt (pw_or (pt_not (pt_val (pe_dn D3 hr2 (pa_cons (pv 2) pa_nil))))
          (pw_or (pt_not (pt_val (pe_dn D4 hr2 (pa_cons (pe_ix ix_tup (pv 2) pe_int (fun _ _ => rfl)) (pa_cons pe_int (pa_cons (pe_callB call_len_seq (by rfl) T.len PySem.boot_len (pa_cons (pv 1) pa_nil)) pa_nil))))))
          (pw_or1 (pt_not (pt_val (pe_dn D5 hr (pa_cons (pv 0) (pa_cons (pe_ix ix_tup (pv 2) pe_int (fun _ _ => rfl)) pa_nil))))))))) (pss_one (ps_ret pe_bl)) pss_nil)
      (pss_cons (ps_asg (pv 2) (pg_tup rfl (pgs_cons (pg_name (i := 3) scIsPlace.nd rfl (Or.inl rfl)) (pgs_cons (pg_name (i := 4) scIsPlace.nd rfl (Or.inl rfl)) pgs_nil))))
      (pss_cons (ps_set (i := 5) scIsPlace.nd rfl (.inl rfl) (pe_dn D6 hr1 (pa_cons (pv 0) (pa_cons (pv 4) pa_nil))))
      (pss_one (ps_ret (pe_cmpR (op_eqD hr.units) (pe_slice sl_tupA (pv 1) (po_some (pv 3)) (po_some (pe_op op_add (pv 3) (pe_callB call_len_seq (by rfl) T.len PySem.boot_len (pa_cons (pv 5) pa_nil))))) (pv 5) (nomark _)))))))), ?_⟩
    refine ⟨_, rfl, R, rfl, okR, fun H1 s1 => ?_⟩
    refine ⟨_, rfl, t, txt, rfl, s1 _ _ ht, okt, fun H2 s2 => ?_⟩
    have s12 := s1.trans s2
    refine ⟨_, rfl, q, _, _, rfl, s12 _ _ hq, true, rfl, iteF ?_⟩
    refine ⟨_, rfl, q, _, _, _, rfl, rfl, SqT.of (s12 _ _ hq), atI_nat (j := 0) rfl, _, rfl, t, _, rfl, .inr (SqT.of (s12 _ _ ht)), _, _, _, rfl, ?_⟩
    have d1 : decide ((0 : Int) ≤ (st : Int)) = true := decide_eq_true (by omega)
    have d2 : decide ((st : Int) ≤ ((itp txt).length : Int)) = true := decide_eq_true (by rw [List.length_map]; omega)
    rw [d1, d2]
    refine ⟨true, rfl, iteF ?_⟩
    refine ⟨_, rfl, _, rfl, q, _, _, _, rfl, rfl, SqT.of (s12 _ _ hq), atI_nat (j := 1) rfl, R, ks, d, v, rfl, hv.same s12, okR.len, kl, km, kv, fun H3 s3 => ⟨true, rfl, iteF ?_⟩⟩
    have s13 := s12.trans s3
    refine ⟨_, rfl, q, _, rfl, SqT.of (s13 _ _ hq), rfl, _, _, rfl, _, _, rfl, rfl, ?_⟩
    refine ⟨_, rfl, _, rfl, R, ks, d, v, rfl, hv.same s13, okR.len, km, by omega, fun H4 b s4 nb hb => ?_⟩
    have s14 := s13.trans s4
    refine ⟨_, rfl, _, rfl, st, rfl, _, rfl, _, rfl, b, _, rfl, .inr (SqT.of hb), _, _, rfl, rfl, _, rfl, slA_of (s14 _ _ ht) fun z H5 s5 hz => ?_⟩
    have ec : cutV (itp txt) (some (st : Int)) (some ((st : Int) + ((itp (R.flatMap v)).length : Int))) = itp (R.flatMap v) := by
      rw [cutV_nat _ _ _ (by rw [List.length_map, List.length_map]; omega), List.length_map, ← List.map_drop, ← List.map_take, et, ← al, List.append_assoc, List.drop_left, List.take_left]
    rw [ec] at hz
    refine ⟨_, rfl, itd (R.flatMap v), itd (R.flatMap v), dp_itp (SqT.of hz), dp_itp (SqT.of (s5 _ _ hb)), shaped_itd _, shaped_itd _, ?_⟩
    rw [eqv_itd, decide_eq_true rfl]
    exact k _ (s14.trans s5)
def spUText : Sp := fun vs H Q _ => ∃ n : Nat, vs = [.int (n : Nat)] ∧ n ≤ 12 ∧ ∀ H' p, Same H H' → H' p = some (.tup (itp (U n))) → Q (.ref p) H'
theorem scUText : FnScope ["count", "text", "letter"] ["count"] (defScope sUText) := ⟨rfl, rfl, rfl, by decide +kernel, rfl, by decide +kernel, by decide +kernel⟩
theorem u_len {n : Nat} (h : n ≤ 12) : (U n).length ≤ 4095 := by
  have e := U_len n
  have : (2 : Nat) ^ n ≤ 2 ^ 12 := Nat.pow_le_pow_right (by decide) h
  omega
theorem d_universal_text (p : Pl K mg "universal_text" sUText) (T : Bt mg) : Dn P w K mg base 1 "universal_text" ["count"] spUText := by
  refine p.dn scUText (fun _ _ _ _ _ _ us hl => match us, hl with | [_], _ => rfl) (fun vs H Q E h => ?_) (fun f cdv A outer s H vs Q E hr h => ?_)
  · obtain ⟨n, rfl, _⟩ := h
    rfl
  · obtain ⟨n, rfl, hn, k⟩ := h
    refine ⟨_, pss_cons (ps_set (i := 1) scUText.nd rfl (.inl rfl) (pe_tup pa_nil))
      (pss_cons (ps_for PassesOwn.never rfl (pi_range1 (by rfl) T.range (pa_cons (pv 0) pa_nil)) (pg_name (i := 2) scUText.nd rfl (Or.inl rfl))
        (pss_one (ps_set (i := 1) scUText.nd rfl (.inl rfl) (pe_op op_catA (pe_op op_catA (pv 1) (pe_tup (pa_cons (pv 2) pa_nil))) (pv 1)))))
      (pss_one (ps_ret (pv 1)))), ?_⟩
    refine ⟨(by show 0 ≤ sizeLine; decide), fun t0 h0 => ?_⟩
    refine ⟨_, rfl, n, rfl, by omega, by omega, for_range (n := (n : Int).toNat) (fun i σ H2 => ∃ t v2, σ = [some (.int (n : Nat)), some (.ref t), v2] ∧ Same H H2 ∧ H2 t = some (.tup (itp (U i)))) ⟨t0, _, rfl, same_upd (Same.refl _) h0, upd_same⟩ ?_ ?_⟩
    · rintro i σ H2 hi ⟨t, v2, rfl, s2, ht⟩
      have hi12 : i ≤ 12 := by omega
      have ul := u_len hi12
      refine ⟨_, rfl, _, rfl, (by show 1 ≤ sizeLine; decide), fun t1 h1 => ?_⟩
      have s3 : Same H2 (upd H2 t1 (.tup [.int (0 + (i : Int))])) := same_upd (Same.refl _) h1
      refine catA_of (s3 _ _ ht) upd_same (by rw [List.length_map]; show _ + 1 ≤ sizeLine; exact Nat.le_of_lt (Nat.lt_of_le_of_lt (Nat.add_le_add_right ul 1) (by decide))) fun t2 H4 s4 h4 => ?_
      refine ⟨_, rfl, catA_of h4 (s4 _ _ (s3 _ _ ht)) ?_ fun t3 H5 s5 h5 => ?_⟩
      · rw [List.length_append, List.length_map]
        show _ + 1 + _ ≤ sizeLine
        exact Nat.le_trans (Nat.add_le_add (Nat.add_le_add_right ul 1) ul) (by decide)
      · refine ⟨t3, _, rfl, s2.trans (s3.trans (s4.trans s5)), ?_⟩
        rw [h5]
        have e : itp (U i) ++ [V.int (0 + (i : Int))] ++ itp (U i) = itp (U (i + 1)) := by
          show _ = itp (U i ++ (i : Int) :: U i)
          unfold itp
          rw [List.map_append, List.map_cons, Int.zero_add, List.append_assoc]
          rfl
        rw [e]
    · rintro σ H2 ⟨t, v2, rfl, s2, ht⟩
      refine ⟨_, rfl, k _ t s2 ?_⟩
      rw [ht]
      rfl
end
end MO
set_option Elab.async false
set_option linter.all false
set_option maxRecDepth 100000
/-! universal: raised places -/
namespace MO
open PySem PySem.Spec PyProof.Rows L2 XS KM
abbrev sInit : Stmt := inClass (top 48) 0
abbrev sBegins : Stmt := inClass (top 48) 1
abbrev sEnds : Stmt := inClass (top 48) 2
abbrev sRText : Stmt := inClass (top 48) 3
abbrev sRPlace : Stmt := top 49
/-- a method of the text as the top has left it -/
def Mpl (K : PySem.W.Frag) (C : Addr) (m qual : Str) (st : Stmt) : Prop := ∃ f fd, Fun K m qual st f fd ∧ Meth K C m f
def Mdn (P : Program) (w : World) (K : PySem.W.Frag) (mg : Str → Option Value) (base : Heap) (C : Addr) (k : Nat) (m : Str) (ps : List Str) (sp : Sp) : Prop :=
  ∃ f fd, Meth K C m f ∧ Binds K fd ps [] ∧ FnOk P w K mg base CX0 k f fd ps sp
def Ipl (K : PySem.W.Frag) (C : Addr) (qual : Str) (st : Stmt) : Prop := ∃ f fd, Fun K "__init__" qual st f fd ∧ Mk K C f
def Idn (P : Program) (w : World) (K : PySem.W.Frag) (mg : Str → Option Value) (base : Heap) (C : Addr) (k : Nat) (ps : List Str) (sp : Sp) : Prop :=
  ∃ f fd, Mk K C f ∧ Binds K fd ps [] ∧ FnOk P w K mg base CX0 k f fd ps sp
section
variable {P : Program} {w : World} {K : PySem.W.Frag} {mg : Str → Option Value} {base : Heap}
theorem Mpl.dn {C : Addr} {m qual : Str} {st : Stmt} {N ps : List Str} {k : Nat} {sp : Sp} (p : Mpl K C m qual st) (S : FnScope N ps (defScope st))
    (b : ∀ (kV doc pm : Value) (an : Option Addr) (cdv ct : Value) (us : List Value), us.length = ps.length → bindArgs (PySem.W.fnOf m qual (defArgs st) (defBody st) (defScope st) .none kV doc pm an cdv ct) ⟨us, []⟩ = pure (ps.zip us))
    (len : ∀ vs H Q E, sp vs H Q E → vs.length = ps.length)
    (hbody : ∀ (f : Addr) (cdv : Value) (A : Around) (outer : List Env) (s : Shared) (H : Hp) (vs : List V) (Q : VK) (E : XK), Room k (A.deeper (envOfC qual (defScope st) s.heap.objs.size f cdv)) → sp vs H Q E →
      ∃ t, PSs (cxOf CX0 P w K mg base N qual (defScope st) f cdv A outer s H E).nox (defBody st) t ∧ t { nx := fun _ H' => Q .non H', rt := Q } (start N vs) H) : Mdn P w K mg base C (k + 1) m ps sp := by
  obtain ⟨f, fd, F, g⟩ := p
  exact ⟨f, fd, g, F.binds b, F.ok S len (hbody f)⟩
theorem Ipl.dn {C : Addr} {qual : Str} {st : Stmt} {N ps : List Str} {k : Nat} {sp : Sp} (p : Ipl K C qual st) (S : FnScope N ps (defScope st))
    (b : ∀ (kV doc pm : Value) (an : Option Addr) (cdv ct : Value) (us : List Value), us.length = ps.length → bindArgs (PySem.W.fnOf "__init__" qual (defArgs st) (defBody st) (defScope st) .none kV doc pm an cdv ct) ⟨us, []⟩ = pure (ps.zip us))
    (len : ∀ vs H Q E, sp vs H Q E → vs.length = ps.length)
    (hbody : ∀ (f : Addr) (cdv : Value) (A : Around) (outer : List Env) (s : Shared) (H : Hp) (vs : List V) (Q : VK) (E : XK), Room k (A.deeper (envOfC qual (defScope st) s.heap.objs.size f cdv)) → sp vs H Q E →
      ∃ t, PSs (cxOf CX0 P w K mg base N qual (defScope st) f cdv A outer s H E).nox (defBody st) t ∧ t { nx := fun _ H' => Q .non H', rt := Q } (start N vs) H) : Idn P w K mg base C (k + 1) ps sp := by
  obtain ⟨f, fd, F, g⟩ := p
  exact ⟨f, fd, g, F.binds b, F.ok S len (hbody f)⟩
end
theorem pe_mdn {X : Cx} {C : Addr} {k : Nat} {m : Str} {ps : List Str} {sp : Sp} {o e : Expr} {es : List Expr} {ta : TE} {t : TA} {apos pos : Pos} {pl : Sem Bool} (D : Mdn X.prog X.w X.K X.mg X.base C k m ps sp) (c : Cls X.K C) (hr : Room k X.A) (ho : PE X o ta) (ha : PA X (e :: es) t)
    (hst : starEach (e :: es) X.env = (false, eval e X.env) :: starEach es X.env := by rfl) (hpl : (backTo pos (starEach es X.env)).any (·.1) = false := by rfl)
    (ht : eval (.Call (.Attribute o m apos) (e :: es) [] pos) X.env = (do
      let ov ← eval o X.env
      standAt apos.atName
      let (f, first) ← holding [ov] (getMethod ov m pl)
      callWith pos f first (backTo pos (starEach (e :: es) X.env)) (backToKw pos (keywordEach [] X.env))) := by rfl) :
    PE X (.Call (.Attribute o m apos) (e :: es) [] pos) (tMeth C m sp [] E0 ta t) := by
  obtain ⟨f, fd, h1, h2, h3⟩ := D
  exact pe_meth ho c h1 h3 hr h2 .nil pass0 ha hst hpl ht
theorem pe_idn {X : Cx} {C : Addr} {k : Nat} {x : Str} {ps : List Str} {sp : Sp} {e : Expr} {es : List Expr} {t : TA} {p pos : Pos} (D : Idn X.prog X.w X.K X.mg X.base C k ps sp) (hr : Room (k + 1) X.A) (hm : X.mg x = some (.ref C)) (ha : PA X (e :: es) t) (hg : Gl X x := by rfl)
    (hdb : (x == ("__debug__" : Str)) = false := by decide) (he : starEach (e :: es) X.env = (false, eval e X.env) :: starEach es X.env := by rfl) (hpl : (backTo pos (starEach es X.env)).any (·.1) = false := by rfl) :
    PE X (.Call (.Name x p) (e :: es) [] pos) (tMake C sp [] E0 t) := by
  obtain ⟨f, fd, h1, h2, h3⟩ := D
  exact pe_make h1 h3 hr hg hm h2 .nil pass0 ha hdb he hpl
/-- the class -/
structure Rc (K : PySem.W.Frag) (mg : Str → Option Value) (C : Addr) : Prop where
  cl : Cls K C
  nD : NoAttr K C "deleted"
  nP : NoAttr K C "parts"
  mgC : mg "Raised" = some (.ref C)
def flds (D : List Nat) (q : Addr) : List (Str × V) := putF "parts" (.ref q) (putF "deleted" (.str (tx D)) [])
theorem dp_ne : ¬ (("deleted" : Str) = "parts") := by decide +kernel
theorem flds_eq (D : List Nat) (q : Addr) : flds D q = ([("deleted", V.str (tx D)), ("parts", V.ref q)] : List (Str × V)) := by
  show (if ("deleted" : Str) = "parts" then [(("deleted" : Str), V.ref q)] else (("deleted" : Str), V.str (tx D)) :: putF "parts" (V.ref q) []) = ([("deleted", V.str (tx D)), ("parts", V.ref q)] : List (Str × V))
  rw [if_neg dp_ne]
  rfl
theorem flds_del (D : List Nat) (q : Addr) : (flds D q).lookup ("deleted" : Str) = some (.str (tx D)) := by
  unfold flds
  rw [lookup_putF, if_neg dp_ne, lookup_putF, if_pos rfl]
theorem flds_parts (D : List Nat) (q : Addr) : (flds D q).lookup ("parts" : Str) = some (.ref q) := by
  unfold flds
  rw [lookup_putF, if_pos rfl]
theorem flds_no (D : List Nat) (q : Addr) {m : Str} (h1 : ¬ m = "deleted") (h2 : ¬ m = "parts") : (flds D q).lookup m = none := by
  unfold flds
  rw [lookup_putF, if_neg h2, lookup_putF, if_neg h1]
  rfl
theorem CompsAt.same {H H' : Hp} {p : Addr} {cs : List Comp} (c : CompsAt H p cs) (s : Same H H') : CompsAt H' p cs := by
  obtain ⟨M, h1, h2, h3, h4, h5⟩ := c.ex
  exact ⟨M, s _ _ h1, h2, fun q hq => s _ _ (h3 q hq), h4, h5⟩
/-- an instance -/
structure RaisedAt (H : Hp) (p C : Addr) (D : List Nat) (cs : List Comp) : Prop where
  ex : ∃ dx q, H p = some (.ins C dx (flds D q)) ∧ CompsAt H q cs
theorem RaisedAt.same {H H' : Hp} {p C : Addr} {D : List Nat} {cs : List Comp} (r : RaisedAt H p C D cs) (s : Same H H') : RaisedAt H' p C D cs := by
  obtain ⟨dx, q, h1, h2⟩ := r.ex
  exact ⟨dx, q, s _ _ h1, h2.same s⟩
section
variable {P : Program} {w : World} {K : PySem.W.Frag} {mg : Str → Option Value} {base : Heap}
def spInit (C : Addr) : Sp := fun vs H Q _ => ∃ (p dx : Addr) (R D : List Nat), vs = [.ref p, .str (tx R), .str (tx D)] ∧ H p = some (.ins C dx []) ∧ PatOk R ∧ ∀ H' cs, But p H H' → RaisedAt H' p C D cs → CompsOk R cs → Q .non H'
theorem scInit : FnScope ["self", "pattern", "deleted"] ["self", "pattern", "deleted"] (defScope sInit) := ⟨rfl, rfl, rfl, by decide +kernel, rfl, by decide +kernel, by decide +kernel⟩
theorem d_init {C : Addr} (p : Ipl K C "Raised.__init__" sInit) (Z : Rc K mg C) (D1 : Dn P w K mg base 4 "components" ["pattern"] spComponents) : Idn P w K mg base C 5 ["self", "pattern", "deleted"] (spInit C) := by
  refine p.dn scInit (fun _ _ _ _ _ _ us hl => match us, hl with | [_, _, _], _ => rfl) (fun vs H Q E h => ?_) (fun f cdv A outer s H vs Q E hr h => ?_)
  · obtain ⟨q, dx, R, D, rfl, _⟩ := h
    rfl
  · obtain ⟨q, dx, R, D, rfl, hq, ok, k⟩ := h
    refine ⟨_, pss_cons (ps_fld (pv 0) (pv 2) rfl) (pss_one (ps_fld (pv 0) (pe_dn D1 hr (pa_cons (pv 1) pa_nil)) rfl)), ?_⟩
    refine ⟨_, rfl, _, rfl, q, C, dx, [], rfl, hq, Z.cl, Z.nD, (by show 0 < 1000; decide), ?_⟩
    refine ⟨_, rfl, R, rfl, ok, fun H1 l cs s1 hl hc hk => ?_⟩
    have h1 := s1 _ _ (upd_same (H := H) (a := q) (o := .ins C dx (putF "deleted" (.str (tx D)) [])))
    refine ⟨_, rfl, q, C, dx, _, rfl, h1, Z.cl, Z.nP, (by show 1 < 1000; decide), ?_⟩
    refine k _ cs (fun b o e n => ?_) ⟨dx, l, upd_same, ?_⟩ hk
    · rw [upd_ne n]
      exact s1 _ _ (by rw [upd_ne n]; exact e)
    · obtain ⟨M, g1, g2, g3, g4, g5⟩ := hc.ex
      exact ⟨M, by rw [upd_ne (ne_of g1 h1 (by intro z; cases z))]; exact g1, g2, fun z hz => by rw [upd_ne (ne_of (g3 z hz) h1 (by intro z; cases z))]; exact g3 z hz, g4, g5⟩
theorem find_at {α : Type} {p : α → Bool} {l : List α} {i : Nat} {c : α} (h : l[i]? = some c) (hp : p c = true) (hb : ∀ x ∈ l.take i, p x = false) : l.find? p = some c := by
  obtain ⟨hlt, e⟩ := List.getElem?_eq_some_iff.mp h
  have e2 : l = l.take i ++ c :: l.drop (i + 1) := by
    have := List.take_append_drop i l
    rw [List.drop_eq_getElem_cons hlt, e] at this
    exact this.symm
  rw [e2, List.find?_append, List.find?_eq_none.mpr fun x hx => by rw [hb x hx]; exact Bool.false_ne_true]
  show List.find? p (c :: _) = some c
  rw [List.find?_cons, hp]
theorem take_snoc {α : Type} {p : α → Bool} {l : List α} {i : Nat} {c : α} (h : l[i]? = some c) (hp : p c = false) (hb : ∀ x ∈ l.take i, p x = false) : ∀ x ∈ l.take (i + 1), p x = false := by
  intro x hx
  rw [List.take_add_one, h] at hx
  rcases List.mem_append.mp hx with z | z
  · exact hb x z
  · rw [List.mem_singleton.mp z]
    exact hp
def spBegins (C : Addr) : Sp := fun vs H Q _ => ∃ (p : Addr) (D : List Nat) (cs : List Comp) (y : Nat), vs = [.ref p, .str (sg y)] ∧ RaisedAt H p C D cs ∧ ∀ H', Same H H' → Q (.bl (begF cs D y)) H'
theorem scBegins : FnScope ["self", "sign", "left", "right"] ["self", "sign"] (defScope sBegins) := ⟨rfl, rfl, rfl, by decide +kernel, rfl, by decide +kernel, by decide +kernel⟩
theorem d_begins {C : Addr} (p : Mpl K C "begins" "Raised.begins" sBegins) (Z : Rc K mg C) (D1 : Dn P w K mg base 1 "meets" ["one", "other"] spTouch) : Mdn P w K mg base C 2 "begins" ["self", "sign"] (spBegins C) := by
  refine p.dn scBegins (fun _ _ _ _ _ _ us hl => match us, hl with | [_, _], _ => rfl) (fun vs H Q E h => ?_) (fun f cdv A outer s H vs Q E hr h => ?_)
  · obtain ⟨q, D, cs, y, rfl, _⟩ := h
    rfl
  · obtain ⟨q, D, cs, y, rfl, hR, k⟩ := h
    obtain ⟨dx, l, h1, hc⟩ := hR.ex
    obtain ⟨M, hM, rfl, tM, lM, sM⟩ := hc.ex
    refine ⟨_, pss_cons (ps_for PassesOwn.never rfl (pi_list (pe_fld (pv 0) rfl)) (pg_tup rfl (pgs_cons (pg_name (i := 2) scBegins.nd rfl (Or.inl rfl)) (pgs_cons (pg_name (i := 3) scBegins.nd rfl (Or.inl rfl)) pgs_nil)))
        (pss_one (ps_if (pt_cmpR op_in_sign (pv 1) (pv 3) (by rfl)) (pss_one (ps_ret (pe_and (pe_cmpR op_ne (pv 2) pe_str (nomark _)) (pe_one (pe_not (pe_dn D1 hr (pa_cons (pv 2) (pa_cons (pe_fld (pv 0) rfl) pa_nil)))))))) pss_nil)))
      (pss_one (ps_ret pe_bl)), ?_⟩
    refine ⟨_, rfl, q, C, dx, _, _, rfl, h1, Z.cl, Z.nP, flds_parts _ _, l, rfl, ⟨_, SqL.of hM⟩, ?_⟩
    refine for_list (K := K) (a := l) (xs := M.map fun q => V.ref q.1) (fun i σ H2 => ∃ v2 v3, σ = [some (.ref q), some (.str (sg y)), v2, v3] ∧ Same H H2 ∧ ∀ c ∈ (M.map (·.2)).take i, (c.2.contains y) = false)
      ⟨_, _, rfl, Same.refl _, fun c hc => by simp at hc⟩ (fun i σ H2 _ ⟨_, _, _, s2, _⟩ => s2.seq (SqL.of hM)) ?_ ?_
    · rintro i v σ H2 hi ⟨v2, v3, rfl, s2, nb⟩
      obtain ⟨m, hm, rfl⟩ := map_at hi
      have hmM := List.mem_of_getElem? hm
      have hm2 : (M.map (·.2))[i]? = some m.2 := by rw [List.getElem?_map, hm]; rfl
      refine ⟨m.1, _, rfl, SqT.of (s2 _ _ (tM m hmM)), rfl, _, _, rfl, _, _, rfl, rfl, ?_⟩
      refine ⟨_, rfl, _, rfl, y, _, rfl, rfl, _, rfl, ?_⟩
      rw [tx_list]
      refine ite2 (fun e => ?_) (fun e => ?_)
      · have e := of_decide_eq_true e
        have fd : begF (M.map (·.2)) D y = (!m.2.1.isEmpty && !(m.2.1.any fun x => D.contains x)) := by
          unfold begF
          rw [find_at hm2 (by simpa using e) nb]
        refine ⟨_, rfl, rfl, _, rfl, ?_⟩
        by_cases c : m.2.1 = []
        · have d0 : decide (V.str (tx m.2.1) = V.str ("" : Str)) = true := decide_eq_true (by rw [c]; rfl)
          rw [d0]
          refine iteF ?_
          rw [c] at fd
          have k2 := k H2 s2
          rw [fd] at k2
          exact k2
        · have d0 : decide (V.str (tx m.2.1) = V.str ("" : Str)) = false := decide_eq_false fun z => c (tx_inj (b := []) (str_inj.mp z))
          rw [d0]
          refine iteT ⟨_, rfl, _, rfl, q, C, dx, _, _, rfl, s2 _ _ h1, Z.cl, Z.nD, flds_del _ _, m.2.1, D, rfl, Nat.le_trans (sM m hmM).1 (by decide), fun H3 s3 => ⟨_, rfl, ?_⟩⟩
          have k2 := k H3 (s2.trans s3)
          rw [fd] at k2
          have e3 : m.2.1.isEmpty = false := by
            cases z : m.2.1 with
            | nil => exact absurd z c
            | cons _ _ => rfl
          have e4 : (m.2.1.any fun x => D.contains x) = m.2.1.any fun x => decide (x ∈ D) := by
            congr 1
            funext x
            simp
          rw [e3, e4] at k2
          exact k2
      · have e : ¬ y ∈ m.2.2 := fun z => e (decide_eq_true z)
        exact ⟨_, _, rfl, s2, take_snoc hm2 (by simpa using e) nb⟩
    · rintro σ H2 ⟨v2, v3, rfl, s2, nb⟩
      rw [List.length_map] at nb
      rw [List.take_of_length_le (by rw [List.length_map]; exact Nat.le_refl _)] at nb
      have fd : begF (M.map (·.2)) D y = false := by
        unfold begF
        rw [List.find?_eq_none.mpr fun x hx => by rw [nb x hx]; exact Bool.false_ne_true]
      have k2 := k H2 s2
      rw [fd] at k2
      exact k2
theorem scEnds : FnScope ["self", "sign", "left", "right"] ["self", "sign"] (defScope sEnds) := ⟨rfl, rfl, rfl, by decide +kernel, rfl, by decide +kernel, by decide +kernel⟩
def spEnds (C : Addr) : Sp := fun vs H Q _ => ∃ (p : Addr) (D : List Nat) (cs : List Comp) (y : Nat), vs = [.ref p, .str (sg y)] ∧ RaisedAt H p C D cs ∧ ∀ H', Same H H' → Q (.bl (endF cs D y)) H'
theorem d_ends {C : Addr} (p : Mpl K C "ends" "Raised.ends" sEnds) (Z : Rc K mg C) (D1 : Dn P w K mg base 1 "meets" ["one", "other"] spTouch) : Mdn P w K mg base C 2 "ends" ["self", "sign"] (spEnds C) := by
  refine p.dn scEnds (fun _ _ _ _ _ _ us hl => match us, hl with | [_, _], _ => rfl) (fun vs H Q E h => ?_) (fun f cdv A outer s H vs Q E hr h => ?_)
  · obtain ⟨q, D, cs, y, rfl, _⟩ := h
    rfl
  · obtain ⟨q, D, cs, y, rfl, hR, k⟩ := h
    obtain ⟨dx, l, h1, hc⟩ := hR.ex
    obtain ⟨M, hM, rfl, tM, lM, sM⟩ := hc.ex
    refine ⟨_, pss_cons (ps_for PassesOwn.never rfl (pi_list (pe_fld (pv 0) rfl)) (pg_tup rfl (pgs_cons (pg_name (i := 2) scEnds.nd rfl (Or.inl rfl)) (pgs_cons (pg_name (i := 3) scEnds.nd rfl (Or.inl rfl)) pgs_nil)))
        (pss_one (ps_if (pt_cmpR op_in_sign (pv 1) (pv 2) (by rfl)) (pss_one (ps_ret (pe_dn D1 hr (pa_cons (pv 2) (pa_cons (pe_fld (pv 0) rfl) pa_nil))))) pss_nil)))
      (pss_one (ps_ret pe_bl)), ?_⟩
    refine ⟨_, rfl, q, C, dx, _, _, rfl, h1, Z.cl, Z.nP, flds_parts _ _, l, rfl, ⟨_, SqL.of hM⟩, ?_⟩
    refine for_list (K := K) (a := l) (xs := M.map fun q => V.ref q.1) (fun i σ H2 => ∃ v2 v3, σ = [some (.ref q), some (.str (sg y)), v2, v3] ∧ Same H H2 ∧ ∀ c ∈ (M.map (·.2)).take i, (c.1.contains y) = false)
      ⟨_, _, rfl, Same.refl _, fun c hc => by simp at hc⟩ (fun i σ H2 _ ⟨_, _, _, s2, _⟩ => s2.seq (SqL.of hM)) ?_ ?_
    · rintro i v σ H2 hi ⟨v2, v3, rfl, s2, nb⟩
      obtain ⟨m, hm, rfl⟩ := map_at hi
      have hmM := List.mem_of_getElem? hm
      have hm2 : (M.map (·.2))[i]? = some m.2 := by rw [List.getElem?_map, hm]; rfl
      refine ⟨m.1, _, rfl, SqT.of (s2 _ _ (tM m hmM)), rfl, _, _, rfl, _, _, rfl, rfl, ?_⟩
      refine ⟨_, rfl, _, rfl, y, _, rfl, rfl, _, rfl, ?_⟩
      rw [tx_list]
      refine ite2 (fun e => ?_) (fun e => ?_)
      · have e := of_decide_eq_true e
        have fd : endF (M.map (·.2)) D y = (m.2.1.any fun x => D.contains x) := by
          unfold endF
          rw [find_at hm2 (by simpa using e) nb]
        refine ⟨_, rfl, _, rfl, q, C, dx, _, _, rfl, s2 _ _ h1, Z.cl, Z.nD, flds_del _ _, m.2.1, D, rfl, Nat.le_trans (sM m hmM).1 (by decide), fun H3 s3 => ?_⟩
        have k2 := k H3 (s2.trans s3)
        rw [fd] at k2
        have e4 : (m.2.1.any fun x => D.contains x) = m.2.1.any fun x => decide (x ∈ D) := by
          congr 1
          funext x
          simp
        rw [e4] at k2
        exact k2
      · have e : ¬ y ∈ m.2.1 := fun z => e (decide_eq_true z)
        exact ⟨_, _, rfl, s2, take_snoc hm2 (by simpa using e) nb⟩
    · rintro σ H2 ⟨v2, v3, rfl, s2, nb⟩
      rw [List.length_map] at nb
      rw [List.take_of_length_le (by rw [List.length_map]; exact Nat.le_refl _)] at nb
      have fd : endF (M.map (·.2)) D y = false := by
        unfold endF
        rw [List.find?_eq_none.mpr fun x hx => by rw [nb x hx]; exact Bool.false_ne_true]
      have k2 := k H2 s2
      rw [fd] at k2
      exact k2
end
end MO
set_option Elab.async false
set_option linter.all false
set_option maxRecDepth 100000
/-! universal: raised texts and places -/
namespace MO
open PySem PySem.Spec PyProof.Rows L2 XS KM
theorem cutV_last (xs : List V) : cutV xs none (some (-1)) = xs.dropLast := by
  unfold cutV
  have e2 : HT.sIx xs.length xs.length (some (-1)) = xs.length - 1 := by
    show (if (-1 : Int) < 0 then ((-1 : Int) + (xs.length : Int)).toNat else min (-1 : Int).toNat xs.length) = xs.length - 1
    rw [if_pos (by decide)]
    omega
  rw [HT.sIx_none, e2, List.drop_zero, Nat.sub_zero, List.dropLast_eq_take]
theorem itp_app (a b : List Int) : itp (a ++ b) = itp a ++ itp b := List.map_append
theorem up_len (w : List Int) : (up w).length = 2 * w.length := by
  induction w with
  | nil => rfl
  | cons l w ih =>
    rw [up_cons, List.length_cons, List.length_cons, ih, List.length_cons]
    omega
theorem ite_lst {c : Bool} {ta tb : TA} {A B : List V} {σ : L2.St} {H : Hp} {Q : VK} (hA : A.length ≤ sizeLine) (hB : B.length ≤ sizeLine) (ea : ∀ Q' : List V → Hp → Prop, Q' A H → ta σ H Q') (eb : ∀ Q' : List V → Hp → Prop, Q' B H → tb σ H Q')
    (k : ∀ l, H l = none → Q (.ref l) (upd H l (.lst (if c = true then A else B)))) : if c = true then tLst ta σ H Q else tLst tb σ H Q := by
  cases c with
  | true => exact iteT (ea _ ⟨hA, fun l hl => k l hl⟩)
  | false => exact iteF (eb _ ⟨hB, fun l hl => k l hl⟩)
section
variable {P : Program} {w : World} {K : PySem.W.Frag} {mg : Str → Option Value} {base : Heap}
def spRText (C : Addr) : Sp := fun vs H Q _ => ∃ (p t : Addr) (D : List Nat) (cs : List Comp) (y : Nat) (wd : List Int), vs = [.ref p, .str (sg y), .ref t] ∧ RaisedAt H p C D cs ∧ H t = some (.tup (itp wd)) ∧ wd.length ≤ 5000 ∧
  ∀ H' q, Same H H' → H' q = some (.tup (itp (rz (begF cs D y) wd (endF cs D y)))) → Q (.ref q) H'
theorem scRText : FnScope ["self", "sign", "text", "letters", "letter"] ["self", "sign", "text"] (defScope sRText) := ⟨rfl, rfl, rfl, by decide +kernel, rfl, by decide +kernel, by decide +kernel⟩
theorem d_raised_text {C : Addr} (p : Mpl K C "raised_text" "Raised.raised_text" sRText) (T : Bt mg) (Z : Rc K mg C) (D1 : Mdn P w K mg base C 2 "begins" ["self", "sign"] (spBegins C)) (D2 : Mdn P w K mg base C 2 "ends" ["self", "sign"] (spEnds C)) : Mdn P w K mg base C 3 "raised_text" ["self", "sign", "text"] (spRText C) := by
  refine p.dn scRText (fun _ _ _ _ _ _ us hl => match us, hl with | [_, _, _], _ => rfl) (fun vs H Q E h => ?_) (fun f cdv A outer s H vs Q E hr h => ?_)
  · obtain ⟨q, t, D, cs, y, wd, rfl, _⟩ := h
    rfl
  · obtain ⟨q, t, D, cs, y, wd, rfl, hR, ht, hw, k⟩ := h
    refine ⟨_, pss_cons (ps_set (i := 3) scRText.nd rfl (.inl rfl) (pe_ifExp (pt_val (pe_mdn D1 Z.cl hr (pv 0) (pa_cons (pv 1) pa_nil))) (pe_lst (pa_cons pe_int pa_nil)) (pe_lst pa_nil)))
      (pss_cons (ps_for PassesOwn.never rfl (pi_tup (pv 2)) (pg_name (i := 4) scRText.nd rfl (Or.inl rfl))
        (pss_one (ps_expr (pe_bm PySem.F.plainAttrs_list PySem.F.slot_list_extend PySem.F.type_list_extend mt_extend (pv 3) (pa_cons (pe_lst (pa_cons (pe_op op_add (pv 4) pe_int) (pa_cons pe_int pa_nil))) pa_nil)))))
      (pss_one (ps_ret (pe_callTy call_tuple_of (by rfl) T.tuple (by decide +kernel) (pa_cons (pe_ifExp (pt_val (pe_mdn D2 Z.cl hr (pv 0) (pa_cons (pv 1) pa_nil))) (pv 3) (pe_slice sl_list (pv 3) po_none (po_some (pe_un un_neg pe_int)))) pa_nil))))), ?_⟩
    obtain ⟨dx, l0, h1, hc⟩ := hR.ex
    refine ⟨_, rfl, q, dx, _, rfl, h1, flds_no _ _ (by decide +kernel) (by decide +kernel), _, rfl, q, D, cs, y, rfl, hR, fun H1 s1 => ⟨_, rfl, ?_⟩⟩
    refine ite_lst (A := [V.int 0]) (B := []) (by show 1 ≤ sizeLine; decide) (by show 0 ≤ sizeLine; decide) (fun _ h => h) (fun _ h => h) fun l hl => ?_
    have e0 : (if begF cs D y = true then [V.int 0] else []) = itp (if begF cs D y = true then [0] else []) := by
      cases begF cs D y <;> rfl
    have s2 : Same H (upd H1 l (.lst (if begF cs D y = true then [V.int 0] else []))) := s1.trans (same_upd (Same.refl _) hl)
    refine ⟨_, rfl, t, rfl, ⟨_, SqT.of (s2 _ _ ht)⟩, ?_⟩
    have hln := s1.free hl
    refine for_tup (K := K) (a := t) (xs := itp wd) (fun i σ H3 => ∃ v4, σ = [some (.ref q), some (.str (sg y)), some (.ref t), some (.ref l), v4] ∧ Same H H3 ∧ H3 l = some (.lst (itp ((if begF cs D y = true then [0] else []) ++ up (wd.take i)))))
      ⟨_, rfl, s2, ?_⟩ (fun i σ H3 _ ⟨_, _, s3, _⟩ => SqT.of (s3 _ _ ht)) ?_ ?_
    · rw [upd_same, e0]
      simp [up]
    · rintro i v σ H3 hi ⟨v4, rfl, s3, h3⟩
      obtain ⟨x, hx, rfl⟩ := map_at hi
      have hlen : (itp ((if begF cs D y = true then [0] else []) ++ up (wd.take i))).length ≤ 10001 := by
        rw [List.length_map, List.length_append, up_len, List.length_take]
        have : (if begF cs D y = true then ([0] : List Int) else []).length ≤ 1 := by cases begF cs D y <;> simp
        omega
      refine ⟨_, rfl, .inl ⟨rfl, _, SqL.of h3⟩, _, rfl, _, _, rfl, rfl, (by show 2 ≤ sizeLine; decide), fun z hz => ?_⟩
      have s4 := same_upd (o := .lst [V.int (x + 1), V.int 0]) (Same.refl H3) hz
      refine ⟨l, z, _, _, rfl, rfl, s4 _ _ h3, upd_same, Nat.le_trans (Nat.add_le_add_right hlen 2) (by decide), ?_⟩
      refine ⟨_, rfl, fun b o e => ?_, ?_⟩
      · rw [upd_ne (ne_of_none e hln)]
        exact s4 _ _ (s3 _ _ e)
      · have e1 : up (wd.take (i + 1)) = up (wd.take i) ++ [x + 1, 0] := by rw [List.take_add_one, hx, up_app]; rfl
        have e2 : itp ((if begF cs D y = true then [0] else []) ++ up (wd.take (i + 1))) = itp ((if begF cs D y = true then [0] else []) ++ up (wd.take i)) ++ [V.int (x + 1), V.int 0] := by
          rw [e1, ← List.append_assoc]
          exact itp_app _ [x + 1, 0]
        rw [upd_same, e2]
    · rintro σ H3 ⟨v4, rfl, s3, h3⟩
      rw [List.length_map, List.take_length] at h3
      refine ⟨_, rfl, q, dx, _, rfl, s3 _ _ h1, flds_no _ _ (by decide +kernel) (by decide +kernel), _, rfl, q, D, cs, y, rfl, hR.same s3, fun H4 s4 => ⟨_, rfl, ?_⟩⟩
      have s34 := s3.trans s4
      cases e : endF cs D y with
      | true =>
        refine iteT ⟨_, rfl, l, _, rfl, .inl ⟨SqL.of (s4 _ _ h3), fun z hz => ?_⟩⟩
        refine k _ z (s34.trans (same_upd (Same.refl _) hz)) ?_
        rw [upd_same]
        unfold rz
        rw [e]
        rfl
      | false =>
        refine iteF ⟨_, rfl, 1, rfl, _, rfl, l, _, rfl, SqL.of (s4 _ _ h3), fun z hz => ?_⟩
        have s5 := same_upd (o := .lst (cutV (itp ((if begF cs D y = true then [0] else []) ++ up wd)) none (some (-1)))) (Same.refl H4) hz
        refine ⟨z, _, rfl, .inl ⟨SqL.of upd_same, fun z2 hz2 => ?_⟩⟩
        refine k _ z2 (s34.trans (s5.trans (same_upd (Same.refl _) hz2))) ?_
        rw [upd_same, cutV_last]
        unfold rz
        rw [e]
        unfold itp
        rw [← List.map_dropLast]
        rfl
end
end MO
set_option Elab.async false
set_option linter.all false
set_option maxRecDepth 100000
/-! universal: a place raised -/
namespace MO
open PySem PySem.Spec PyProof.Rows L2 XS KM
theorem nd_take {α : Type} {l : List α} (nd : l.Nodup) {i : Nat} {x : α} (h : l[i]? = some x) : x ∉ l.take i := fun z => by
  obtain ⟨j, hj⟩ := List.mem_iff_getElem?.mp z
  obtain ⟨hlt, _⟩ := List.getElem?_eq_some_iff.mp hj
  rw [List.length_take] at hlt
  rw [List.getElem?_take_of_lt (by omega)] at hj
  obtain ⟨h1, e1⟩ := List.getElem?_eq_some_iff.mp h
  obtain ⟨h2, e2⟩ := List.getElem?_eq_some_iff.mp hj
  have := (List.getElem_inj nd).mp (e1.trans e2.symm)
  omega
theorem pls_one {k s : Nat} {R : List Nat} {v : Nat → List Int} (h : PlS k R v s) {x : Nat} (hx : x ∈ R) : Sub k (v x) := by
  obtain ⟨a, c, e⟩ := fm_at hx v
  have q := h.sub
  rw [e] at q
  exact q.part
theorem sub_len2 {k : Nat} {w : List Int} (h : Sub k w) (hk : k ≤ 12) : w.length ≤ 4095 := by
  have := h.len
  have : (2 : Nat) ^ k ≤ 2 ^ 12 := Nat.pow_le_pow_right (by decide) hk
  omega
section
variable {P : Program} {w : World} {K : PySem.W.Frag} {mg : Str → Option Value} {base : Heap}
def spRPlace : Sp := fun vs H Q _ => ∃ (R D : List Nat) (pl : Addr) (s k : Nat) (v : Nat → List Int), vs = [.str (tx R), .str (tx D), .ref pl] ∧ R ≠ [] ∧ PatOk R ∧ PlaceAt H pl s (fo (cut R D)) v ∧ Free R D ∧ k ≤ 11 ∧ PlS k (cut R D) v s ∧ (∀ x ∈ cut R D, v x ≠ []) ∧
  ∀ H' p s' v', Same H H' → PlaceAt H' p s' (fo R) v' → PlS (k + 1) R v' s' → (∀ x ∈ R, v' x ≠ []) → Q (.ref p) H'
theorem scRPlace : FnScope ["pattern", "deleted", "place", "start", "values", "raised", "found", "sign"] ["pattern", "deleted", "place"] (defScope sRPlace) := ⟨rfl, rfl, rfl, by decide +kernel, rfl, by decide +kernel, by decide +kernel⟩
theorem d_raised_place {C : Addr} (p : Pl K mg "raised_place" sRPlace) (T : Bt mg) (Z : Rc K mg C) (D1 : Dn P w K mg base 1 "distinct" ["pattern"] spDistinct) (DI : Idn P w K mg base C 5 ["self", "pattern", "deleted"] (spInit C))
    (DR : Mdn P w K mg base C 3 "raised_text" ["self", "sign", "text"] (spRText C)) : Dn P w K mg base 7 "raised_place" ["pattern", "deleted", "place"] spRPlace := by
  refine p.dn scRPlace (fun _ _ _ _ _ _ us hl => match us, hl with | [_, _, _], _ => rfl) (fun vs H Q E h => ?_) (fun f cdv A outer s H vs Q E hr h => ?_)
  · obtain ⟨R, D, pl, s, k, v, rfl, _⟩ := h
    rfl
  · obtain ⟨R, D, pl, st, kk, v, rfl, hne, ok, hp, free, hk, hS, hv, k⟩ := h
    have hu := hu_of hr
    have hr1 : Room 1 _ := hr.mono (by decide)
    have hr3 : Room 3 _ := hr.mono (by decide)
    obtain ⟨d, hpl, hd⟩ := hp.ex
    refine ⟨_, pss_cons (ps_asg (pv 2) (pg_tup rfl (pgs_cons (pg_name (i := 3) scRPlace.nd rfl (Or.inl rfl)) (pgs_cons (pg_name (i := 4) scRPlace.nd rfl (Or.inl rfl)) pgs_nil))))
      (pss_cons (ps_par (i := 5) (j := 6) (by rfl) scRPlace.nd rfl rfl (by decide) rfl rfl (pa_cons (pe_idn DI hr Z.mgC (pa_cons (pv 0) (pa_cons (pv 1) pa_nil))) (pa_cons pe_dnewK pa_nil)) (by rfl))
      (pss_cons (ps_for PassesOwn.never rfl (pi_str (pe_dn D1 hr1 (pa_cons (pv 0) pa_nil))) (pg_name (i := 7) scRPlace.nd rfl (Or.inl rfl))
        (pss_one (ps_dput hu (pv 6) (pv 7) (pe_ifExp (pt_cmpR op_in_sign (pv 7) (pv 1) (by rfl)) (pe_tup (pa_cons pe_int pa_nil))
          (pe_mdn DR Z.cl hr3 (pv 5) (pa_cons (pv 7) (pa_cons (pe_dget hu (pv 4) (pv 7) (fun _ _ => rfl)) pa_nil)))) rfl)))
      (pss_one (ps_ret (pe_tup (pa_cons (pe_op op_add (pe_op op_mul pe_int (pv 3)) (pe_callTy call_int1 (by rfl) T.int (by decide +kernel) (pa_cons
        (pe_cmpR op_ne (pe_ix ix_tup (pe_dget hu (pv 6) (pe_ix ix_str (pv 0) pe_int (fun _ _ => rfl)) (fun _ _ => rfl)) pe_int (fun _ _ => rfl)) pe_int (nomark _)) pa_nil))) (pa_cons (pv 6) pa_nil)))))))
      , ?_⟩
    refine ⟨_, rfl, pl, _, rfl, SqT.of hpl, rfl, _, _, rfl, _, _, rfl, rfl, ?_⟩
    -- raised, found = Raised(..), {}
    refine ⟨_, rfl, _, rfl, fun x dx nx ndx nex => ⟨x, dx, R, D, rfl, upd_same, ok, fun H1 cs b1 ra hok => ⟨rfl, ?_⟩⟩⟩
    have s01 : Same H (upd (upd H dx (.own x)) x (.ins C dx [])) := fun b o e => by
      rw [upd_ne (ne_of_none e nx), upd_ne (ne_of_none e ndx)]
      exact e
    have s1 : Same H H1 := fun b o e => b1 b o (s01 b o e) (ne_of_none e nx)
    intro pf hpf
    have s2 := s1.trans (same_upd (o := .dK []) (Same.refl H1) hpf)
    refine ⟨_, _, rfl, ?_⟩
    have hnf := s1.free hpf
    refine ⟨_, rfl, R, rfl, Nat.le_trans ok.len (by decide), fun H3 s3 => ⟨_, rfl, ?_⟩⟩
    have s13 := s2.trans s3
    have vlen : ∀ y, y ∈ cut R D → (v y).length ≤ 4095 := fun y hy => sub_len2 (pls_one hS hy) (by omega)
    refine for_it (walk_tx (cs := fo R)) (fun i σ H4 => ∃ v7, σ = [some (.str (tx R)), some (.str (tx D)), some (.ref pl), some (.int (st : Nat)), some (.ref d), some (.ref x), some (.ref pf), v7] ∧ Same H H4 ∧ RaisedAt H4 x C D cs ∧ ValsAt H4 pf ((fo R).take i) (rise D (begF cs D) (endF cs D) v))
      ⟨_, rfl, s13, (ra.same (same_upd (Same.refl _) hpf)).same s3, ⟨fun _ => pf, s3 _ _ upd_same, fun y hy => by simp at hy⟩⟩ (fun _ _ _ _ _ => trivial) ?_ ?_
    · rintro i y σ H4 H5 hi ⟨v7, rfl, s4, r4, va⟩ ⟨rfl, c, hc, rfl⟩
      have hcR : c ∈ R := (mem_fo R c).mp (List.mem_of_getElem? hc)
      have et : (fo R).take (i + 1) = (fo R).take i ++ [c] := by rw [List.take_add_one, hc]; rfl
      have l8 := ok.vars
      -- the value, whatever it is
      have fin : ∀ (H6 : Hp) (t : Addr) (wv : List Int), Same H5 H6 → H6 t = some (.tup (itp wv)) → wv = rise D (begF cs D) (endF cs D) v c →
          ∃ kvs, H6 pf = some (.dK kvs) ∧ kvs.length < sizeLine ∧ (Same H (upd H6 pf (.dK (putK kvs (Sum.inr (sg c) : L2.Key) (.ref t)))) ∧ RaisedAt (upd H6 pf (.dK (putK kvs (Sum.inr (sg c) : L2.Key) (.ref t)))) x C D cs ∧
            ValsAt (upd H6 pf (.dK (putK kvs (Sum.inr (sg c) : L2.Key) (.ref t)))) pf ((fo R).take (i + 1)) (rise D (begF cs D) (endF cs D) v)) := fun H6 t wv s6 ht ew => by
        obtain ⟨kvs, g1, g2, g3⟩ := (va.same s6).put (nd_take (nd_fo R) hc) ht
        refine ⟨kvs, g1, small1000 (by rw [g2, List.length_take]; omega), fun b o e => ?_, ?_, ?_⟩
        · rw [upd_ne (ne_of_none e hnf)]
          exact s6 _ _ (s4 _ _ e)
        · obtain ⟨dy, q, z1, z2⟩ := (r4.same s6).ex
          obtain ⟨M, m1, m2, m3, m4, m5⟩ := z2.ex
          exact ⟨dy, q, by rw [upd_ne (ne_of z1 g1 (by intro z; cases z))]; exact z1, M, by rw [upd_ne (ne_of m1 g1 (by intro z; cases z))]; exact m1, m2, fun u hu => by rw [upd_ne (ne_of (m3 u hu) g1 (by intro z; cases z))]; exact m3 u hu, m4, m5⟩
        · rw [et]
          refine g3.congr fun y hy => ?_
          by_cases e : y = c
          · rw [if_pos e, ew, e]
          · rw [if_neg e]
      refine ⟨_, rfl, _, rfl, c, _, rfl, rfl, _, rfl, ?_⟩
      rw [tx_list]
      refine ite2 (fun e => ?_) (fun e => ?_)
      · have e := of_decide_eq_true e
        refine ⟨(by show 1 ≤ sizeLine; decide), fun t ht => ?_⟩
        obtain ⟨kvs, g1, g2, g3⟩ := fin _ t [0] (same_upd (Same.refl _) ht) upd_same (by unfold rise; rw [if_pos e])
        exact ⟨_, rfl, _, rfl, pf, _, rfl, DPut.k (k := Sum.inr (sg c)) g1 g2, _, rfl, g3⟩
      · have e : c ∉ D := fun z => e (decide_eq_true z)
        have hcc : c ∈ cut R D := mem_cut.mpr ⟨hcR, e⟩
        obtain ⟨dy, q, z1, z2⟩ := r4.ex
        obtain ⟨qv, g1, g2⟩ := (hd.same s4).get ((mem_fo _ c).mpr hcc)
        refine ⟨_, rfl, x, dy, _, rfl, z1, flds_no _ _ (by decide +kernel) (by decide +kernel), _, rfl, _, rfl, _, rfl, d, .ref qv, rfl, g1, x, qv, D, cs, c, v c, rfl, r4, g2, Nat.le_trans (vlen c hcc) (by decide), fun H6 t s6 ht => ?_⟩
        obtain ⟨kvs, g1, g2, g3⟩ := fin H6 t _ s6 ht (by unfold rise; rw [if_neg e])
        exact ⟨_, rfl, _, rfl, pf, _, rfl, DPut.k (k := Sum.inr (sg c)) g1 g2, _, rfl, g3⟩
    · rintro σ H4 ⟨v7, rfl, s4, r4, va⟩
      rw [List.take_length] at va
      obtain ⟨x0, R', rfl⟩ := List.exists_cons_of_ne_nil hne
      have hx0 : x0 ∈ x0 :: R' := List.mem_cons_self
      have hvD : ∀ y ∈ x0 :: R', y ∉ D → v y ≠ [] := fun y hy hyD => hv y (mem_cut.mpr ⟨hy, hyD⟩)
      obtain ⟨i0, r0, e0, z0⟩ := rise_head (D := D) (b := begF cs D) (e := endF cs D) (v := v) (x := x0) (hvD x0 hx0) (fun hxD l hl => ((pls_one hS (mem_cut.mpr ⟨hx0, hxD⟩)).nat l hl).1)
      obtain ⟨q0, g1, g2⟩ := va.get ((mem_fo _ x0).mpr hx0)
      have hS2 := PlS.rise hS hvD (hok.edges free)
      have lenR : (tx (x0 :: R')).length ≤ sizeLine := tx_line (Nat.le_trans ok.len (by decide))
      have h0 : (itp (rise D (begF cs D) (endF cs D) v x0))[0]? = some (V.int i0) := by rw [e0]; rfl
      refine ⟨_, rfl, _, _, rfl, rfl, .inl ⟨by decide, by decide⟩, _, rfl, _, rfl, _, _, x0, rfl, rfl, lenR, atI_nat (j := 0) (by rw [tx_list]; rfl), pf, .ref q0, rfl, g1, q0, _, _, _, rfl, rfl, SqT.of g2, atI_nat (j := 0) h0, rfl, .inr ⟨_, rfl, _, _, rfl, rfl, _, rfl, (by show 2 ≤ sizeLine; decide), fun p hp => ?_⟩⟩
      have s5 := same_upd (o := .tup [V.int ((2 : Int) * (st : Int) + (if (!decide (V.int i0 = V.int 0)) = true then 1 else 0)), .ref pf]) (Same.refl H4) hp
      refine k _ p _ _ (s4.trans s5) ⟨pf, ?_, va.same s5⟩ hS2 fun y hy => rise_ne (hvD y hy)
      rw [upd_same]
      have e1 : ((2 : Int) * (st : Int) + (if (!decide (V.int i0 = V.int 0)) = true then 1 else 0)) = ((2 * st + if (decide (x0 ∈ D) || begF cs D x0) = true then 0 else 1 : Nat) : Int) := by
        by_cases c : i0 = 0
        · have c2 := z0.mp c
          rw [if_pos c2, c]
          simp
        · have c2 : ¬ (decide (x0 ∈ D) || begF cs D x0) = true := fun z => c (z0.mpr z)
          have c3 : decide (V.int i0 = V.int 0) = false := decide_eq_false fun z => c (by injection z)
          rw [if_neg c2, c3]
          simp
      rw [← e1]
end
end MO
set_option Elab.async false
set_option linter.all false
set_option maxRecDepth 100000
/-! universal: from chains to places -/
namespace MO
open PySem PySem.Spec PyProof.Rows L2 XS KM
abbrev sPInU : Stmt := top 50
abbrev sPFromC : Stmt := top 51
/-- the patterns of a chain, the first one first -/
def pats (R : List Nat) : List (List Nat) → List (List Nat)
  | [] => [R]
  | D :: r => R :: pats (cut R D) r
theorem pats_len : ∀ (steps : List (List Nat)) (R : List Nat), (pats R steps).length = steps.length + 1
  | [], _ => rfl
  | D :: r, R => by
    show (R :: pats (cut R D) r).length = _
    rw [List.length_cons, pats_len r, List.length_cons]
theorem pats_snoc : ∀ (steps : List (List Nat)) (R D : List Nat) (L : List Nat), (pats R steps).getLast? = some L → pats R (steps ++ [D]) = pats R steps ++ [cut L D]
  | [], R, D, L, h => by
    have : L = R := (Option.some.inj h).symm
    rw [this]
    rfl
  | E :: r, R, D, L, h => by
    show R :: pats (cut R E) (r ++ [D]) = R :: pats (cut R E) r ++ [cut L D]
    have hne : pats (cut R E) r ≠ [] := fun z => by
      have := pats_len r (cut R E)
      rw [z] at this
      cases this
    have h2 : (pats (cut R E) r).getLast? = some L := by
      have h : (R :: pats (cut R E) r).getLast? = some L := h
      obtain ⟨x, l, e⟩ := List.exists_cons_of_ne_nil hne
      rw [e] at h ⊢
      rw [List.getLast?_cons_cons] at h
      exact h
    rw [pats_snoc r (cut R E) D L h2]
    rfl
theorem pats_last (steps : List (List Nat)) (R : List Nat) : ∃ L l, pats R steps = l ++ [L] ∧ (pats R steps).getLast? = some L := by
  have hne : pats R steps ≠ [] := fun z => by
    have := pats_len steps R
    rw [z] at this
    cases this
  exact ⟨(pats R steps).getLast hne, (pats R steps).dropLast, (List.dropLast_concat_getLast hne).symm, List.getLast?_eq_some_getLast hne⟩
theorem pats_le : ∀ (steps : List (List Nat)) (R : List Nat), ∀ x ∈ pats R steps, x.length ≤ R.length
  | [], R, x, h => by
    have h : x ∈ [R] := h
    rw [List.mem_singleton.mp h]
    exact Nat.le_refl _
  | D :: r, R, x, h => by
    have h : x ∈ R :: pats (cut R D) r := h
    rcases List.mem_cons.mp h with z | z
    · rw [z]; exact Nat.le_refl _
    · exact Nat.le_trans (pats_le r (cut R D) x z) (cut_len R D)
/-- what stands at each place -/
theorem pats_at : ∀ (steps : List (List Nat)) (R : List Nat), IsCh R steps → ∀ i, i ≤ steps.length → ∃ Ri, (pats R steps)[i]? = some Ri ∧ IsCh Ri (steps.drop i) ∧ Ri.length ≤ R.length ∧ (∀ x ∈ Ri, x ∈ R)
  | steps, R, h, 0, _ => ⟨R, by cases steps <;> rfl, h, Nat.le_refl _, fun _ z => z⟩
  | [], _, _, i + 1, hi => by simp at hi
  | D :: r, R, h, i + 1, hi => by
    obtain ⟨Ri, h1, h2, h3, h4⟩ := pats_at r (cut R D) h.2.2.2.2 i (by simpa using hi)
    exact ⟨Ri, h1, h2, Nat.le_trans h3 (cut_len R D), fun x hx => (mem_cut.mp (h4 x hx)).1⟩
theorem pats_next (steps : List (List Nat)) (R : List Nat) : ∀ i D, steps[i]? = some D → ∀ Ri, (pats R steps)[i]? = some Ri → (pats R steps)[i + 1]? = some (cut Ri D) := by
  induction steps generalizing R with
  | nil => intro i D h; cases h
  | cons E r ih =>
    intro i D h Ri hR
    cases i with
    | zero =>
      cases (Option.some.inj h)
      have e : R = Ri := Option.some.inj hR
      subst e
      show (pats (cut R E) r)[0]? = _
      cases r <;> rfl
    | succ i => exact ih (cut R E) i D h Ri hR
theorem fo_sub_len {a b : List Nat} (h : ∀ x ∈ a, x ∈ b) : (fo a).length ≤ (fo b).length := sub_len (nd_fo a) fun x hx => (mem_fo b x).mpr (h x ((mem_fo a x).mp hx))
theorem PatOk.sub {a b : List Nat} (ok : PatOk b) (h : ∀ x ∈ a, x ∈ b) (hl : a.length ≤ b.length) : PatOk a := ⟨ok.low.sub h, Nat.le_trans hl ok.len, Nat.le_trans (fo_sub_len h) ok.vars⟩
section
variable {P : Program} {w : World} {K : PySem.W.Frag} {mg : Str → Option Value} {base : Heap}
abbrev tlist (l : List (List Nat)) : List V := l.map fun D => V.str (tx D)
def spPInU : Sp := fun vs H Q _ => ∃ (R : List Nat) (b : Addr) (steps : List (List Nat)), vs = [.str (tx R), .ref b] ∧ H b = some (.lst (tlist steps)) ∧ PatOk R ∧ IsCh R steps ∧ steps.length ≤ 12 ∧
  ∀ H' p s v, Same H H' → PlaceAt H' p s (fo R) v → PlS steps.length R v s → (∀ x ∈ R, v x ≠ []) → Q (.ref p) H'
theorem scPInU : FnScope ["pattern", "steps", "patterns", "letters", "place", "index"] ["pattern", "steps"] (defScope sPInU) := ⟨rfl, rfl, rfl, by decide +kernel, rfl, by decide +kernel, by decide +kernel⟩
theorem d_place_in_universal (p : Pl K mg "place_in_universal" sPInU) (T : Bt mg) (D1 : Dn P w K mg base 1 "without" ["pattern", "letters"] spWithout) (D2 : Dn P w K mg base 7 "raised_place" ["pattern", "deleted", "place"] spRPlace) : Dn P w K mg base 8 "place_in_universal" ["pattern", "steps"] spPInU := by
  refine p.dn scPInU (fun _ _ _ _ _ _ us hl => match us, hl with | [_, _], _ => rfl) (fun vs H Q E h => ?_) (fun f cdv A outer s H vs Q E hr h => ?_)
  · obtain ⟨R, b, steps, rfl, _⟩ := h
    rfl
  · obtain ⟨R, b, steps, rfl, hb, ok, ch, h12, k⟩ := h
    have hr1 : Room 1 _ := hr.mono (by decide)
    refine ⟨_, pss_cons (ps_set (i := 2) scPInU.nd rfl (.inl rfl) (pe_lst (pa_cons (pv 0) pa_nil)))
      (pss_cons (ps_for PassesOwn.never rfl (pi_list (pv 1)) (pg_name (i := 3) scPInU.nd rfl (Or.inl rfl))
        (pss_one (ps_expr (pe_bm PySem.F.plainAttrs_list PySem.F.slot_list_append PySem.F.type_list_append mt_append (pv 2) (pa_cons (pe_dn D1 hr1 (pa_cons (pe_ix ix_list (pv 2) (pe_un un_neg pe_int) (fun _ _ => rfl)) (pa_cons (pv 3) pa_nil))) pa_nil)))))
      (pss_cons (ps_set (i := 4) scPInU.nd rfl (.inl rfl) (pe_tup (pa_cons pe_int (pa_cons pe_dnewK pa_nil))))
      (pss_cons (ps_for PassesOwn.never rfl (pi_range3 (by rfl) T.range (pa_cons (pe_op op_sub (pe_callB call_len_seq (by rfl) T.len PySem.boot_len (pa_cons (pv 1) pa_nil)) pe_int) (pa_cons (pe_un un_neg pe_int) (pa_cons (pe_un un_neg pe_int) pa_nil)))) (pg_name (i := 5) scPInU.nd rfl (Or.inl rfl))
        (pss_one (ps_set (i := 4) scPInU.nd rfl (.inl rfl) (pe_dn D2 hr (pa_cons (pe_ix ix_list (pv 2) (pv 5) (fun _ _ => rfl)) (pa_cons (pe_ix ix_list (pv 1) (pv 5) (fun _ _ => rfl)) (pa_cons (pv 4) pa_nil)))))))
      (pss_one (ps_ret (pv 4)))))), ?_⟩
    refine ⟨_, rfl, (by show 1 ≤ sizeLine; decide), fun l hl => ?_⟩
    have s0 : Same H (upd H l (.lst [V.str (tx R)])) := same_upd (Same.refl _) hl
    refine ⟨_, rfl, b, rfl, ⟨_, SqL.of (s0 _ _ hb)⟩, ?_⟩
    refine for_list (K := K) (a := b) (xs := tlist steps) (fun i σ H2 => ∃ v3, σ = [some (.str (tx R)), some (.ref b), some (.ref l), v3, none, none] ∧ Same H H2 ∧ H2 l = some (.lst (tlist (pats R (steps.take i)))))
      ⟨_, rfl, s0, upd_same⟩ (fun i σ H2 _ ⟨_, _, s2, _⟩ => SqL.of (s2 _ _ hb)) ?_ ?_
    · rintro i v σ H2 hi ⟨v3, rfl, s2, hl2⟩
      obtain ⟨D, hD, rfl⟩ := map_at hi
      obtain ⟨hlt, _⟩ := List.getElem?_eq_some_iff.mp hD
      obtain ⟨L, l', e1, e2⟩ := pats_last (steps.take i) R
      have et : steps.take (i + 1) = steps.take i ++ [D] := by rw [List.take_add_one, hD]; rfl
      have ll : L.length ≤ 40 := Nat.le_trans (pats_le (steps.take i) R L (by rw [e1]; simp)) ok.len
      refine ⟨_, rfl, .inl ⟨rfl, _, SqL.of hl2⟩, _, rfl, 1, rfl, l, _, _, _, rfl, rfl, SqL.of hl2, by rw [e1]; unfold tlist; rw [List.map_append]; exact atI_last _ _, _, rfl, L, D, rfl, by omega, fun H3 s3 => ?_⟩
      refine ⟨l, _, _, rfl, rfl, s3 _ _ hl2, by rw [List.length_map, pats_len, List.length_take]; exact small1000 (by omega), ?_⟩
      refine ⟨_, rfl, fun c o e => ?_, ?_⟩
      · rw [upd_ne (ne_of_none e hl)]
        exact s3 _ _ (s2 _ _ e)
      · rw [upd_same, et, pats_snoc _ _ _ _ e2]
        unfold tlist
        rw [List.map_append]
        rfl
    · rintro σ H2 ⟨v3, rfl, s2, hl2⟩
      rw [List.length_map, List.take_length] at hl2
      intro d hd
      refine ⟨(by show 2 ≤ sizeLine; decide), fun t ht => ?_⟩
      have s3 : Same H2 (upd (upd H2 d (.dK [])) t (.tup [.int 0, .ref d])) := same_upd (same_upd (Same.refl _) hd) ht
      have hdt : (upd (upd H2 d (.dK [])) t (.tup [.int 0, .ref d])) d = some (.dK []) := by
        rw [upd_ne (ne_of_none (upd_same (H := H2) (a := d) (o := .dK [])) ht)]
        exact upd_same
      refine ⟨_, rfl, b, _, rfl, .inl (SqL.of (s3 _ _ (s2 _ _ hb))), _, _, rfl, rfl, 1, rfl, 1, rfl, ((tlist steps).length : Int) - 1, -1, -1, _, rfl, RgC.neg (by rw [List.length_map]; omega) (by rw [List.length_map]; omega) (by decide) (by decide), ?_⟩
      have en : (((tlist steps).length : Int) - 1 - -1).toNat = steps.length := by rw [List.length_map]; omega
      rw [en]
      obtain ⟨Rn, n1, n2, n3, n4⟩ := pats_at steps R ch steps.length (Nat.le_refl _)
      rw [List.drop_length] at n2
      have n2 : Rn = [] := n2
      subst n2
      refine for_rangeC (fun i σ H4 => ∃ p v5 Ri v s, σ = [some (.str (tx R)), some (.ref b), some (.ref l), v3, some (.ref p), v5] ∧ Same H H4 ∧ H4 l = some (.lst (tlist (pats R steps))) ∧ (pats R steps)[steps.length - i]? = some Ri ∧ PlaceAt H4 p s (fo Ri) v ∧ PlS i Ri v s ∧ ∀ x ∈ Ri, v x ≠ [])
        ⟨t, _, [], fun _ => [], 0, rfl, s2.trans s3, s3 _ _ hl2, n1, ⟨d, upd_same, fun _ => d, hdt, fun x hx => by cases hx⟩, ⟨[], [], rfl, rfl⟩, fun x hx => by cases hx⟩ ?_ ?_
      · rintro i σ H4 hi ⟨p, v5, Ri, v, s, rfl, s4, hl4, hRi, hP, hS, hv⟩
        obtain ⟨Rj, a1, a2, a3, a4⟩ := pats_at steps R ch (steps.length - 1 - i) (by omega)
        have hj : steps.length - 1 - i < steps.length := by omega
        have hD : steps[steps.length - 1 - i]? = some steps[steps.length - 1 - i] := List.getElem?_eq_getElem hj
        generalize steps[steps.length - 1 - i] = D at hD
        have nx := pats_next steps R _ D hD Rj a1
        rw [show steps.length - 1 - i + 1 = steps.length - i by omega, hRi] at nx
        cases nx
        have ed : steps.drop (steps.length - 1 - i) = D :: steps.drop (steps.length - 1 - i + 1) := by
          obtain ⟨h1, h2⟩ := List.getElem?_eq_some_iff.mp hD
          rw [List.drop_eq_getElem_cons h1, h2]
        rw [ed] at a2
        obtain ⟨c1, c2, c3, c4, c5⟩ := a2
        have hRj : Rj ≠ [] := by
          obtain ⟨x, hx⟩ := List.exists_mem_of_ne_nil _ c1
          exact List.ne_nil_of_mem (c3 x hx)
        have ej : ((tlist steps).length : Int) - 1 + (i : Int) * -1 = ((steps.length - 1 - i : Nat) : Int) := by rw [List.length_map]; omega
        have i1 : atI (tlist (pats R steps)) (((tlist steps).length : Int) - 1 + (i : Int) * -1) = some (V.str (tx Rj)) := by
          rw [ej]
          exact atI_nat (by rw [List.getElem?_map, a1]; rfl)
        have i2 : atI (tlist steps) (((tlist steps).length : Int) - 1 + (i : Int) * -1) = some (V.str (tx D)) := by
          rw [ej]
          exact atI_nat (by rw [List.getElem?_map, hD]; rfl)
        refine ⟨_, rfl, _, rfl, l, _, _, _, rfl, rfl, SqL.of hl4, i1, _, rfl, _, rfl, b, _, _, _, rfl, rfl, SqL.of (s4 _ _ hb), i2, _, rfl, Rj, D, p, s, i, v, rfl, hRj, ok.sub a4 a3, hP, c4, by omega, hS, hv, fun H5 q s' v' s5 hP5 hS5 hv5 => ?_⟩
        exact ⟨q, _, Rj, v', s', rfl, s4.trans s5, s5 _ _ hl4, by rw [show steps.length - (i + 1) = steps.length - 1 - i by omega]; exact a1, hP5, hS5, hv5⟩
      · rintro σ H4 ⟨p, v5, Ri, v, s, rfl, s4, hl4, hRi, hP, hS, hv⟩
        rw [Nat.sub_self] at hRi
        have e : R = Ri := by
          have h0 : (pats R steps)[0]? = some R := by cases steps <;> rfl
          rw [h0] at hRi
          exact Option.some.inj hRi
        subst e
        exact ⟨_, rfl, k H4 p s v s4 hP hS hv⟩
def spPFromC : Sp := fun vs H Q _ => ∃ (R : List Nat) (b : Addr) (steps : List (List Nat)), vs = [.str (tx R), .ref b] ∧ H b = some (.lst (tlist steps)) ∧ PatOk R ∧ IsCh R steps ∧ steps.length ≤ 12 ∧
  ∀ H' p s v, Same H H' → PlaceAt H' p s (fo R) v → PlS steps.length R v s → (∀ x ∈ R, v x ≠ []) → Q (.ref p) H'
theorem scPFromC : FnScope ["pattern", "steps"] ["pattern", "steps"] (defScope sPFromC) := ⟨rfl, rfl, rfl, by decide +kernel, rfl, by decide +kernel, by decide +kernel⟩
theorem d_place_from_chain (p : Pl K mg "place_from_chain" sPFromC) (D1 : Dn P w K mg base 3 "need_pattern" ["value"] spNeedPat) (D2 : Dn P w K mg base 6 "is_chain" ["pattern", "value"] spIsChain) (D3 : Dn P w K mg base 8 "place_in_universal" ["pattern", "steps"] spPInU) : Dn P w K mg base 9 "place_from_chain" ["pattern", "steps"] spPFromC := by
  refine p.dn scPFromC (fun _ _ _ _ _ _ us hl => match us, hl with | [_, _], _ => rfl) (fun vs H Q E h => ?_) (fun f cdv A outer s H vs Q E hr h => ?_)
  · obtain ⟨R, b, steps, rfl, _⟩ := h
    rfl
  · obtain ⟨R, b, steps, rfl, hb, ok, ch, h12, k⟩ := h
    have hr3 : Room 3 _ := hr.mono (by decide)
    have hr6 : Room 6 _ := hr.mono (by decide)
    refine ⟨_, pss_cons (ps_expr (pe_dn D1 hr3 (pa_cons (pv 0) pa_nil)))
      (pss_cons (ps_if (pt_not (pt_val (pe_dn D2 hr6 (pa_cons (pv 0) (pa_cons (pv 1) pa_nil))))) (pss_one ps_never) pss_nil)
      (pss_one (ps_ret (pe_dn D3 hr (pa_cons (pv 0) (pa_cons (pv 1) pa_nil)))))), ?_⟩
    refine ⟨_, rfl, R, rfl, ok, fun H1 s1 => ?_⟩
    refine ⟨_, rfl, _, rfl, b, R, steps, rfl, s1 _ _ hb, ok, ch, fun H2 s2 => ⟨true, rfl, iteF ?_⟩⟩
    have s12 := s1.trans s2
    exact ⟨_, rfl, _, rfl, R, b, steps, rfl, s12 _ _ hb, ok, ch, h12, fun H3 q s v s3 h1 h2 h3 => k H3 q s v (s12.trans s3) h1 h2 h3⟩
end
end MO
set_option Elab.async false
set_option linter.all false
set_option maxRecDepth 100000
/-! universal: from places to chains -/
namespace MO
open PySem PySem.Spec PyProof.Rows L2 XS KM
abbrev sLowered : Stmt := top 52
abbrev sCFromP : Stmt := top 53
theorem left_snoc (ks : List Nat) (v : Nat → List Int) (x : Nat) : left (ks ++ [x]) v = if low (v x) = [] then left ks v else left ks v ++ [x] := by
  unfold left
  rw [List.filter_append]
  by_cases h : low (v x) = []
  · rw [if_pos h]
    simp [h]
  · rw [if_neg h]
    have : (low (v x)).isEmpty = false := by
      cases e : low (v x) with
      | nil => exact absurd e h
      | cons _ _ => rfl
    simp [this]
theorem low_eq (wd : List Int) : (wd.filter fun l => decide (0 < l)).map (fun l => V.int (l - 1)) = itp (low wd) := by
  unfold low itp
  rw [List.map_map]
  rfl
theorem low_len (wd : List Int) : (low wd).length ≤ wd.length := by
  unfold low
  rw [List.length_map]
  exact List.length_filter_le _ _
section
variable {P : Program} {w : World} {K : PySem.W.Frag} {mg : Str → Option Value} {base : Heap}
def spLowered : Sp := fun vs H Q _ => ∃ (d : Addr) (ks : List Nat) (v : Nat → List Int), vs = [.ref d] ∧ ValsAt H d ks v ∧ ks.Nodup ∧ ks.length ≤ 100 ∧ (∀ x ∈ ks, (v x).length ≤ 5000) ∧
  ∀ H' d', Same H H' → H d' = none → ValsAt H' d' (left ks v) (fun x => low (v x)) → Q (.ref d') H'
theorem scLowered : FnScope ["values", "found", "sign", "text", "letters", "letter"] ["values"] (defScope sLowered) := ⟨rfl, rfl, rfl, by decide +kernel, rfl, by decide +kernel, by decide +kernel⟩
theorem d_lowered (p : Pl K mg "lowered" sLowered) (T : Bt mg) : Dn P w K mg base 1 "lowered" ["values"] spLowered := by
  refine p.dn scLowered (fun _ _ _ _ _ _ us hl => match us, hl with | [_], _ => rfl) (fun vs H Q E h => ?_) (fun f cdv A outer s H vs Q E hr h => ?_)
  · obtain ⟨d, ks, v, rfl, _⟩ := h
    rfl
  · obtain ⟨d, ks, v, rfl, hv, nd, hl, hb, k⟩ := h
    have hu := hu_of hr
    refine ⟨_, pss_cons (ps_set (i := 1) scLowered.nd rfl (.inl rfl) pe_dnewK)
      (pss_cons (ps_lock (ps_for PassesOwn.never rfl (pi_items (pv 0)) (pg_tup rfl (pgs_cons (pg_name (i := 2) scLowered.nd rfl (Or.inl rfl)) (pgs_cons (pg_name (i := 3) scLowered.nd rfl (Or.inl rfl)) pgs_nil)))
        (pss_cons (ps_set (i := 4) scLowered.nd rfl (.inl rfl) (pe_callTy call_tuple_of (by rfl) T.tuple (by decide +kernel) (pa_cons
          (pe_lc (own := [("letter", 5)]) (g := gName 5) rfl scLowered.nd (pi_tup (pv 3)) (blkOk_by (N := ["values", "found", "sign", "text", "letters", "letter"]) (sc := defScope sLowered) (by decide +kernel))
            (fun _ _ _ _ _ => pg_name (i := 5) scLowered.nd rfl (Or.inl rfl)) (fun _ _ _ _ _ => pts_one (pt_cmpR op_gt (pv 5) pe_int (nomark _)))
            (fun _ _ _ _ _ => pe_op op_sub (pv 5) pe_int)) pa_nil)))
        (pss_one (ps_if (pt_cmpR (op_neD hr.units) (pv 4) (pe_tup pa_nil) (nomark _)) (pss_one (ps_dput hu (pv 1) (pv 2) (pv 4) rfl)) pss_nil)))))
      (pss_one (ps_ret (pv 1)))), ?_⟩
    intro df hdf
    obtain ⟨at_, hd, hat⟩ := hv.ex
    have ndf : df ≠ d := fun z => by rw [z, hd] at hdf; cases hdf
    refine ⟨d, _, (same_upd (Same.refl H) hdf) _ _ hd, trivial, fun od => ?_⟩
    refine ⟨_, rfl, d, od, _, rfl, upd_same, ?_⟩
    have wk := walk_items (d := d) (o := od) (kvs := vtab ks at_)
    rw [vtab_len] at wk
    refine for_it wk (fun i σ H2 => ∃ v2 v3 v4, σ = [some (.ref d), some (.ref df), v2, v3, v4, none] ∧ But d H H2 ∧ H2 d = some (.frz od (.dK (vtab ks at_))) ∧ ValsAt H2 df (left (ks.take i) v) (fun x => low (v x)))
      ⟨_, _, _, rfl, fun b o e n => by rw [upd_ne n, upd_ne (ne_of_none e hdf)]; exact e, upd_same, fun _ => d, by rw [upd_ne ndf, upd_same]; rfl, fun x hx => by cases hx⟩ (fun i σ H2 _ ⟨_, _, _, _, _, q, _⟩ => q) ?_ ?_
    · rintro i y σ H2 H3 hi ⟨v2, v3, v4, rfl, b2, f2, va⟩ ⟨T1, a1, a2, rfl, hT, rfl, k1, k2⟩
      obtain ⟨x, hx, hxk⟩ : ∃ x, ks[i]? = some x ∧ x ∈ ks := ⟨ks[i], List.getElem?_eq_getElem hi, List.getElem_mem hi⟩
      have ekv : (vtab ks at_)[i]? = some ((Sum.inr (sg x) : L2.Key), V.ref (at_ x)) := by
        unfold vtab
        rw [List.getElem?_map, hx]
        rfl
      have k1 : ((vtab ks at_)[i]?).map (fun kv => kV kv.1) = some a1 := k1
      have k2 : ((vtab ks at_)[i]?).map Prod.snd = some a2 := k2
      rw [ekv] at k1 k2
      have k1 : a1 = V.str (sg x) := (Option.some.inj k1).symm
      have k2 : a2 = V.ref (at_ x) := (Option.some.inj k2).symm
      subst k1 k2
      have s3 : Same H2 (upd H2 T1 (.tup [.str (sg x), .ref (at_ x)])) := same_upd (Same.refl _) hT
      have hat3 := s3 _ _ (b2 _ _ (hat x hxk) (ne_of (hat x hxk) hd (by intro z; cases z)))
      have et : ks.take (i + 1) = ks.take i ++ [x] := by rw [List.take_add_one, hx]; rfl
      refine ⟨T1, _, rfl, SqT.of upd_same, rfl, _, _, rfl, _, _, rfl, rfl, ?_⟩
      refine ⟨_, rfl, at_ x, rfl, ⟨_, SqT.of hat3⟩, fun L hL => lc_f (v x) (fun l => decide (0 < l)) (fun l => V.int (l - 1)) (by have w2 := walk_tup (K := K) (a := at_ x) (xs := itp (v x)); rw [List.length_map] at w2; exact w2) hL (Nat.lt_of_le_of_lt (hb x hxk) (by decide)) (fun H4 s4 => same_seqT s4 (SqT.of hat3)) ?_ ?_⟩
      · rintro j l y H4 H5 hj s4 ⟨rfl, hy⟩ N1 N0 n1 n0
        rw [List.getElem?_map, hj] at hy
        cases hy
        refine ⟨rfl, _, rfl, _, _, rfl, rfl, _, rfl, ?_⟩
        refine ite2 (fun e => ⟨_, rfl, _, _, rfl, rfl, n1 e _ (Same.refl _)⟩) (fun e => n0 (by simpa using e) _ (Same.refl _))
      · intro H4 s4 hd4
        rw [low_eq] at hd4
        refine ⟨L, _, rfl, .inl ⟨SqL.of hd4, fun t ht => ?_⟩⟩
        have s5 := s4.trans (same_upd (o := .tup (itp (low (v x)))) (Same.refl _) ht)
        have ht5 : (upd H4 t (.tup (itp (low (v x))))) t = some (.tup (itp (low (v x)))) := upd_same
        generalize upd H4 t (.tup (itp (low (v x)))) = H5 at s5 ht5 ⊢
        have s25 := s3.trans s5
        refine ⟨_, rfl, (by show 0 ≤ sizeLine; decide), fun e he => ?_⟩
        have s6 := same_upd (o := .tup []) (Same.refl H5) he
        have s26 := s25.trans s6
        have ht6 := s6 _ _ ht5
        refine ⟨itd (low (v x)), itd [], dp_itp (SqT.of ht6), dp_itp (SqT.of upd_same), shaped_itd _, shaped_itd _, _, rfl, ?_⟩
        rw [eqv_itd]
        generalize upd H5 e (.tup []) = H6 at s26 ht6 ⊢
        have b6 := b2.same s26
        have f6 := s26 _ _ f2
        by_cases c : low (v x) = []
        · rw [decide_eq_true c]
          refine iteF ⟨_, _, _, rfl, b6, f6, ?_⟩
          rw [et, left_snoc, if_pos c]
          exact va.same s26
        · rw [decide_eq_false c]
          refine iteT ?_
          have nx : x ∉ left (ks.take i) v := fun z => nd_take nd hx (List.mem_filter.mp z).1
          obtain ⟨kvs, g1, g2, g3⟩ := (va.same s26).put nx ht6
          have kl : kvs.length ≤ 100 := by
            rw [g2]
            refine Nat.le_trans (List.length_filter_le _ _) ?_
            rw [List.length_take]
            omega
          refine ⟨_, rfl, _, rfl, _, rfl, df, _, rfl, DPut.k (k := Sum.inr (sg x)) g1 (small1000 (by omega)), ?_⟩
          refine ⟨_, _, _, rfl, fun b o e n => by rw [upd_ne (ne_of_none e hdf)]; exact b6 _ _ e n, by rw [upd_ne ndf.symm]; exact f6, ?_⟩
          rw [et, left_snoc, if_neg c]
          exact g3.congr fun y _ => by
            by_cases z : y = x
            · rw [if_pos z, z]
            · rw [if_neg z]
    · rintro σ H2 ⟨v2, v3, v4, rfl, b2, f2, va⟩
      rw [List.take_length] at va
      refine ⟨f2, _, rfl, k _ df (fun b o e => ?_) hdf ?_⟩
      · by_cases z : b = d
        · rw [z, upd_same]
          rw [z, hd] at e
          exact e
        · rw [upd_ne z]
          exact b2 _ _ e z
      · obtain ⟨at2, g1, g2⟩ := va.ex
        exact ⟨at2, by rw [upd_ne ndf]; exact g1, fun x hx => by rw [upd_ne (ne_of (g2 x hx) f2 (by intro z; cases z))]; exact g2 x hx⟩
end
end MO
set_option Elab.async false
set_option linter.all false
set_option maxRecDepth 100000
/-! universal: chain_from_place -/
namespace MO
open PySem PySem.Spec PyProof.Rows L2 XS KM
theorem rising_pw : ∀ (r : List Str) (p : Str), risingS p r = true → (p :: r).Pairwise fun x y => x.cps.toList ≤ y.cps.toList
  | [], p, _ => by simp
  | x :: r, p, h => by
    have h : (!ltCps x.cps.toList p.cps.toList && risingS x r) = true := h
    rw [Bool.and_eq_true, Bool.not_eq_true', ltCps_eq, decide_eq_false_iff_not] at h
    have ih := rising_pw r x h.2
    have hx : p.cps.toList ≤ x.cps.toList := h.1
    refine List.pairwise_cons.mpr ⟨fun y hy => ?_, ih⟩
    rcases List.mem_cons.mp hy with e | hy
    · rw [e]; exact hx
    · exact List.le_trans hx ((List.pairwise_cons.mp ih).1 y hy)
theorem sortedS_pw {l : List Str} (h : sortedS l = true) : l.Pairwise fun x y => x.cps.toList ≤ y.cps.toList := by
  cases l with
  | nil => exact List.Pairwise.nil
  | cons x r => exact rising_pw r x h
theorem pl_of {n s : Nat} {R : List Nat} {v : Nat → List Int} (h : PlS n R v s) (hv : ∀ x ∈ R, v x ≠ []) : KM.Pl n R (fo R) v :=
  ⟨nd_fo R, fun x hx => (mem_fo R x).mpr hx, fun x hx => (mem_fo R x).mp hx, fun x hx => hv x ((mem_fo R x).mp hx), h.sub⟩
/-- what lowering empties, and what it leaves -/
theorem mem_gone {ks : List Nat} {v : Nat → List Int} {x : Nat} : x ∈ gone ks v ↔ x ∈ ks ∧ x ∉ left ks v := by
  unfold gone left
  rw [List.mem_filter, List.mem_filter]
  cases (low (v x)).isEmpty <;> simp
section
variable {P : Program} {w : World} {K : PySem.W.Frag} {mg : Str → Option Value} {base : Heap}
def spCFromP : Sp := fun vs H Q _ => ∃ (R : List Nat) (n : Nat) (pl : Addr) (s : Nat) (v : Nat → List Int), vs = [.str (tx R), .int (n : Nat), .ref pl] ∧ PatOk R ∧ PlaceAt H pl s (fo R) v ∧ PlS n R v s ∧ n ≤ 12 ∧ (∀ x ∈ R, v x ≠ []) ∧
  ∀ H' p steps, Same H H' → H' p = some (.lst (tlist steps)) → IsCh R steps → steps.length ≤ n → Q (.ref p) H'
theorem scCFromP : FnScope ["pattern", "count", "place", "values", "steps", "later", "letters", "sign"] ["pattern", "count", "place"] (defScope sCFromP) := ⟨rfl, rfl, rfl, by decide +kernel, rfl, by decide +kernel, by decide +kernel⟩
theorem d_chain_from_place (p : Pl K mg "chain_from_place" sCFromP) (T : Bt mg) (C : Cn mg) (D1 : Dn P w K mg base 3 "need_pattern" ["value"] spNeedPat) (D2 : Dn P w K mg base 3 "need_count" ["value", "low", "high"] spNeedCount)
    (D3 : Dn P w K mg base 5 "is_place" ["pattern", "text", "value"] spIsPlace) (D4 : Dn P w K mg base 1 "universal_text" ["count"] spUText) (D5 : Dn P w K mg base 1 "lowered" ["values"] spLowered) : Dn P w K mg base 6 "chain_from_place" ["pattern", "count", "place"] spCFromP := by
  refine p.dn scCFromP (fun _ _ _ _ _ _ us hl => match us, hl with | [_, _, _], _ => rfl) (fun vs H Q E h => ?_) (fun f cdv A outer s H vs Q E hr h => ?_)
  · obtain ⟨R, n, pl, st, v, rfl, _⟩ := h
    rfl
  · obtain ⟨R, n, pl, st, v, rfl, ok, hp, hS, h12, hv, k⟩ := h
    have hu := hu_of hr
    have hr1 : Room 1 _ := hr.mono (by decide)
    have hr3 : Room 3 _ := hr.mono (by decide)
    refine ⟨_, pss_cons (ps_expr (pe_dn D1 hr3 (pa_cons (pv 0) pa_nil)))
      (pss_cons (ps_expr (pe_dn D2 hr3 (pa_cons (pv 1) (pa_cons pe_int (pa_cons (pe_gint (by rfl) C.maxCount) pa_nil)))))
      (pss_cons (ps_if (pt_not (pt_val (pe_dn D3 hr (pa_cons (pv 0) (pa_cons (pe_dn D4 hr1 (pa_cons (pv 1) pa_nil)) (pa_cons (pv 2) pa_nil)))))) (pss_one ps_never) pss_nil)
      (pss_cons (ps_par (i := 3) (j := 4) (by rfl) scCFromP.nd rfl rfl (by decide) rfl rfl (pa_cons (pe_ix ix_tup (pv 2) pe_int (fun _ _ => rfl)) (pa_cons (pe_lst pa_nil) pa_nil)) (by rfl))
      (pss_cons (ps_while PassesOwn.never (pt_cmpR (op_neNone (Nat.lt_of_succ_lt hu)) (pv 3) pe_dnewK (nomark _))
        (pss_cons (ps_set (i := 5) scCFromP.nd rfl (.inr rfl) (pe_dn D5 hr1 (pa_cons (pv 3) pa_nil)))
        (pss_cons (ps_set (i := 6) scCFromP.nd rfl (.inl rfl) (pe_join pe_str (pe_callB cr_sortedS (by rfl) T.sorted (by decide +kernel) (pa_cons
          (pe_lock (pe_lc (own := [("sign", 7)]) (g := gName 7) rfl scCFromP.nd (pi_keys (pv 3)) (blkOk_by (N := ["pattern", "count", "place", "values", "steps", "later", "letters", "sign"]) (sc := defScope sCFromP) (by decide +kernel))
            (fun _ _ _ _ _ => pg_name (i := 7) scCFromP.nd rfl (Or.inl rfl)) (fun _ _ _ _ _ => pts_one (pt_cmp (pc_dnotin hu (pv 7) (pv 5))))
            (fun _ _ _ _ _ => pv 7))) pa_nil))))
        (pss_cons (ps_if (pt_cmpR op_ne (pv 6) pe_str (nomark _)) (pss_one (ps_expr (pe_bm PySem.F.plainAttrs_list PySem.F.slot_list_append PySem.F.type_list_append mt_append (pv 4) (pa_cons (pv 6) pa_nil)))) pss_nil)
        (pss_one (ps_set (i := 3) scCFromP.nd rfl (.inl rfl) (pv 5)))))))
      (pss_one (ps_ret (pv 4))))))), ?_⟩
    refine ⟨_, rfl, R, rfl, ok, fun H1 s1 => ?_⟩
    refine ⟨_, rfl, (n : Int), 0, 12, rfl, by omega, by omega, ?_⟩
    refine ⟨_, rfl, _, rfl, n, rfl, h12, fun H2 t s2 ht => ?_⟩
    have s12 := s1.trans s2
    have okU : TxtOk (U n) := ⟨Nat.le_trans (u_len h12) (by decide), fun l hl => by have := U_nat n l hl; omega⟩
    have okv : ∀ x ∈ fo R, TxtOk (v x) ∧ v x ≠ [] := fun x hx => by
      have hxR := (mem_fo R x).mp hx
      have sb := pls_one hS hxR
      exact ⟨⟨Nat.le_trans (sub_len2 sb h12) (by decide), fun l hl => by have := sb.nat l hl; omega⟩, hv x hxR⟩
    obtain ⟨a, c, e1, e2⟩ := id hS
    refine ⟨_, rfl, R, fo R, t, pl, U n, st, v, rfl, ht, okU, hp.same s12, ok, rfl, fun x hx => (mem_fo R x).mpr hx, okv, ⟨a, c, e1, e2⟩, fun H3 s3 => ⟨true, rfl, iteF ?_⟩⟩
    have s13 := s12.trans s3
    obtain ⟨d, hpl, hd⟩ := (hp.same s13).ex
    refine ⟨_, rfl, pl, _, _, _, rfl, rfl, SqT.of hpl, atI_nat (j := 1) rfl, (by show 0 ≤ sizeLine; decide), fun ls hls => ⟨_, _, rfl, ?_⟩⟩
    have s4 : Same H (upd H3 ls (.lst [])) := s13.trans (same_upd (Same.refl _) hls)
    have hln := s13.free hls
    have l8 := ok.vars
    refine ⟨fun m σ H4 => ∃ dv R' ks v done v5 v6, σ = [some (.str (tx R)), some (.int (n : Nat)), some (.ref pl), some (.ref dv), some (.ref ls), v5, v6, none] ∧ Same H H4 ∧ ValsAt H4 dv ks v ∧ H4 ls = some (.lst (tlist done)) ∧ Down R n done R' ks v m ∧ ks.length ≤ 8,
      ⟨n, d, R, fo R, v, [], _, _, rfl, s4, hd.same (same_upd (Same.refl _) hls), upd_same, Down.start (pl_of hS hv), l8⟩, ?_⟩
    rintro m σ H4 ⟨dv, R', ks, v', done, v5, v6, rfl, s4', va, hls4, dw, kl⟩
    obtain ⟨at_, hdv, hat⟩ := va.ex
    refine ⟨_, rfl, fun e he => ?_⟩
    have s5 := same_upd (o := .dK []) (Same.refl H4) he
    refine ⟨dv, e, vtab ks at_, rfl, rfl, s5 _ _ hdv, upd_same, _, rfl, ?_⟩
    have va5 := va.same s5
    have hls5 := s5 _ _ hls4
    have s45 := s4'.trans s5
    generalize upd H4 e (.dK []) = H5 at va5 hls5 s45 ⊢
    have lm : done.length + m ≤ n := dw.len
    by_cases hk : ks = []
    · subst hk
      obtain ⟨c1, c2⟩ := dw.stop
      exact iteF ⟨_, rfl, k H5 ls done s45 hls5 c1 c2⟩
    · have e0 : (!(vtab ks at_).isEmpty) = true := by
        obtain ⟨x, r, e⟩ := List.exists_cons_of_ne_nil hk
        rw [e]
        rfl
      rw [e0]
      refine iteT ?_
      have vlen : ∀ x ∈ ks, (v' x).length ≤ 5000 := fun x hx => Nat.le_trans (sub_len2 (dw.pl.one (dw.pl.sup x hx)) (by omega)) (by decide)
      refine ⟨fun σ' H' => ∃ m', m' < m ∧ ∃ dv R' ks v done v5 v6, σ' = [some (.str (tx R)), some (.int (n : Nat)), some (.ref pl), some (.ref dv), some (.ref ls), v5, v6, none] ∧ Same H H' ∧ ValsAt H' dv ks v ∧ H' ls = some (.lst (tlist done)) ∧ Down R n done R' ks v m' ∧ ks.length ≤ 8,
        fun _ _ z => z, ?_⟩
      refine ⟨_, rfl, dv, ks, v', rfl, va5, dw.pl.nd, by omega, vlen, fun H6 d' s6 nd' va6 => ?_⟩
      obtain ⟨at5, hd5, hat5⟩ := (va5.same s6).ex
      have s56 := s45.trans s6
      have hls6 := s6 _ _ hls5
      -- letters
      refine ⟨⟨_, rfl⟩, dv, _, hd5, trivial, fun od => ?_⟩
      have ndd : d' ≠ dv := fun z => by
        obtain ⟨_, z1, _⟩ := va5.ex
        rw [z, z1] at nd'
        cases nd'
      refine ⟨_, rfl, dv, od, rfl, .inl ⟨_, upd_same, fun L hL => ?_⟩⟩
      have wk := walk_keys (d := dv) (o := od) (kvs := vtab ks at5)
      rw [vtab_len] at wk
      refine lc_f ks (fun x => decide (x ∉ left ks v')) (fun x => V.str (sg x)) wk hL (small1000 (by omega)) (fun H7 s7 => s7 _ _ upd_same) ?_ ?_
      · rintro i x y H7 H8 hx s7 ⟨rfl, key, y', hk1, rfl⟩ N1 N0 n1 n0
        have ek : key = Sum.inr (sg x) := by
          unfold vtab at hk1
          rw [List.getElem?_map, hx] at hk1
          cases hk1
          rfl
        subst ek
        have va7 : ValsAt H8 d' (left ks v') fun x => low (v' x) := by
          obtain ⟨at6, z1, z2⟩ := va6.ex
          exact ⟨at6, s7 _ _ (by rw [upd_ne ndd]; exact z1), fun x hx => s7 _ _ (by rw [upd_ne (ne_of (z2 x hx) hd5 (by intro z; cases z))]; exact z2 x hx)⟩
        obtain ⟨o, g1, g2⟩ := va7.get' x
        refine ⟨rfl, _, rfl, _, rfl, d', o, rfl, g1, _, rfl, ?_⟩
        rw [g2]
        by_cases z : x ∈ left ks v'
        · rw [decide_eq_true z]
          exact iteF (n0 (by simpa using z) _ (Same.refl _))
        · rw [decide_eq_false z]
          exact iteT ⟨_, rfl, n1 (by simpa using z) _ (Same.refl _)⟩
      · intro H7 s7 hL7
        refine ⟨s7 _ _ upd_same, ?_⟩
        have u7 : Same H6 (upd H7 dv (.dK (vtab ks at5))) := fun b o e => by
          by_cases z : b = dv
          · rw [z, upd_same]
            rw [z, hd5] at e
            exact e
          · rw [upd_ne z]
            exact s7 _ _ (by rw [upd_ne z]; exact e)
        have nL : L ≠ dv := fun z => by rw [z, upd_same] at hL; cases hL
        have hL8 : (upd H7 dv (.dK (vtab ks at5))) L = some (.lst ((ks.filter fun x => decide (x ∉ left ks v')).map fun x => V.str (sg x))) := by rw [upd_ne nL]; exact hL7
        generalize upd H7 dv (.dK (vtab ks at5)) = H8 at u7 hL8 ⊢
        refine ⟨L, (ks.filter fun x => decide (x ∉ left ks v')).map sg, rfl, SqL.of (by rw [hL8, List.map_map]; rfl), ?_, fun ys q pm srt hq => ?_⟩
        · rw [List.length_map]
          exact Nat.lt_of_le_of_lt (List.length_filter_le _ _) (by omega)
        · obtain ⟨E2, rfl, pE, aE⟩ := sorted_form pm (sortedS_pw srt) (dw.pl.nd.sublist List.filter_sublist)
          have elen : E2.length ≤ 8 := by
            rw [pE.length_eq]
            exact Nat.le_trans (List.length_filter_le _ _) kl
          have u9 := u7.trans (same_upd (o := .lst ((E2.map sg).map V.str)) (Same.refl _) hq)
          refine ⟨_, q, E2.map sg, rfl, rfl, .inl (SqL.of upd_same), join_room (by omega), ?_⟩
          have j : Txt.join ("" : Str) (E2.map sg) = tx E2 := join_sg E2
          rw [j]
          generalize upd H8 q (.lst ((E2.map sg).map V.str)) = H9 at u9 ⊢
          have s9 := s56.trans u9
          have hls9 := u9 _ _ hls6
          have va9 := va6.same u9
          have hD : ∀ x, x ∈ E2 ↔ x ∈ gone ks v' := fun x => by
            rw [pE.mem_iff, List.mem_filter, decide_eq_true_eq, mem_gone]
          obtain ⟨jj, R2, em, dw2⟩ := dw.next hk hD aE
          have ll : (left ks v').length ≤ 8 := Nat.le_trans (List.length_filter_le _ _) kl
          refine ⟨_, rfl, rfl, _, rfl, ?_⟩
          have dE : decide (V.str (tx E2) = V.str ("" : Str)) = decide (E2 = []) := by
            refine decide_eq_decide.mpr ?_
            rw [str_inj]
            exact ⟨fun z => tx_inj (b := []) z, fun z => by rw [z]; rfl⟩
          rw [dE]
          by_cases c : E2 = []
          · rw [decide_eq_true c]
            rw [if_pos c] at dw2
            exact iteF ⟨_, rfl, jj, by omega, d', R2, left ks v', _, done, _, _, rfl, s9, va9, hls9, dw2, ll⟩
          · rw [decide_eq_false c]
            rw [if_neg c] at dw2
            refine iteT ⟨_, rfl, .inl ⟨rfl, _, SqL.of hls9⟩, _, rfl, ls, _, _, rfl, rfl, hls9, by rw [List.length_map]; exact small1000 (by omega), ?_⟩
            refine ⟨_, rfl, jj, by omega, d', R2, left ks v', _, done ++ [E2], _, _, rfl, fun b o e => ?_, ?_, ?_, dw2, ll⟩
            · rw [upd_ne (ne_of_none e hln)]
              exact s9 _ _ e
            · obtain ⟨at9, z1, z2⟩ := va9.ex
              exact ⟨at9, by rw [upd_ne (ne_of z1 hls9 (by intro z; cases z))]; exact z1, fun x hx => by rw [upd_ne (ne_of (z2 x hx) hls9 (by intro z; cases z))]; exact z2 x hx⟩
            · rw [upd_same]
              unfold tlist
              rw [List.map_append]
              rfl
end
end MO
set_option Elab.async false
set_option linter.all false
set_option maxRecDepth 100000
/-! the law: drawing -/
namespace MO
open PySem PySem.Spec PyProof.Rows L2 XS KM
abbrev sSource : Stmt := top 55
abbrev sDraw : Stmt := top 56
abbrev sPick : Stmt := top 57
abbrev sNames : Stmt := top 58
def kC : L2.Key := Sum.inr "cells"
def kI : L2.Key := Sum.inr "index"
def kR : L2.Key := Sum.inr "rest"
theorem kCI : ¬ (kC = kI) := by decide +kernel
theorem kCR : ¬ (kC = kR) := by decide +kernel
theorem kIR : ¬ (kI = kR) := by decide +kernel
def src (cl : Addr) (ix rest : Int) : List (L2.Key × V) := [(kC, .ref cl), (kI, .int ix), (kR, .int rest)]
theorem src_C (cl : Addr) (ix rest : Int) : valV (src cl ix rest) kC = some (.ref cl) := valV_pos (p := (kC, V.ref cl)) rfl
theorem src_I (cl : Addr) (ix rest : Int) : valV (src cl ix rest) kI = some (.int ix) := (valV_neg (p := (kC, V.ref cl)) kCI).trans (valV_pos (p := (kI, V.int ix)) rfl)
theorem src_R (cl : Addr) (ix rest : Int) : valV (src cl ix rest) kR = some (.int rest) :=
  (valV_neg (p := (kC, V.ref cl)) kCR).trans ((valV_neg (p := (kI, V.int ix)) kIR).trans (valV_pos (p := (kR, V.int rest)) rfl))
theorem src_putI (cl : Addr) (ix rest y : Int) : putK (src cl ix rest) kI (.int y) = src cl y rest := by
  unfold putK
  rw [valV_any, src_I, if_pos (show (some (V.int ix)).isSome = true from rfl)]
  unfold src
  simp [kCI, fun z => kIR (Eq.symm z), Ne.symm kIR]
theorem src_putR (cl : Addr) (ix rest y : Int) : putK (src cl ix rest) kR (.int y) = src cl ix y := by
  unfold putK
  rw [valV_any, src_R, if_pos (show (some (V.int rest)).isSome = true from rfl)]
  unfold src
  simp [kCR, kIR]
/-- the source of draws -/
structure SrcAt (H : Hp) (a cl : Addr) (ns : List Int) (ix rest : Int) : Prop where
  d : H a = some (.dK (src cl ix rest))
  c : H cl = some (.lst (itp ns))
  i0 : 0 ≤ ix
  r0 : 0 ≤ rest
theorem SrcAt.same {H H' : Hp} {a cl : Addr} {ns : List Int} {ix rest : Int} (S : SrcAt H a cl ns ix rest) (s : Same H H') : SrcAt H' a cl ns ix rest := ⟨s _ _ S.d, s _ _ S.c, S.i0, S.r0⟩
/-- a tuple list as data -/
def ild (w : List Int) : PyData := .list (w.map PyData.int)
theorem eqv_ild (a b : List Int) : PyData.eqv (ild a) (ild b) = decide (a = b) := eqvAll_ints a b
theorem shaped_ild (w : List Int) : SeqAt.shaped (ild w) = true := by
  have h1 := lay_ints w
  have h2 := deep_ints w
  simp [SeqAt.shaped, ild, PyData.canLay0, PyData.depth, h1]
  omega
theorem dp_ild {K : PySem.W.Frag} {H : Hp} {a : Addr} {w : List Int} (h : SqL K H a (itp w)) : Dp K H (.ref a) (ild w) := .lst h (dp_all K H w)
theorem fm_bd {i j : Int} (h : 0 < j) : 0 ≤ i.fmod j ∧ i.fmod j < j := ⟨Int.fmod_nonneg_of_pos i h, Int.fmod_lt_of_pos i h⟩
theorem fd_nn {i j : Int} (hi : 0 ≤ i) (h : 0 ≤ j) : 0 ≤ i.fdiv j := by
  rw [Int.fdiv_eq_ediv_of_nonneg _ h]
  exact Int.ediv_nonneg hi h
theorem cm_fm {i j y : Int} (h : 0 < j) (h2 : j < 2 ^ 64) : CMul (i.fmod j) y := .inl ⟨by have := (fm_bd (i := i) h).1; omega, Int.lt_trans (fm_bd (i := i) h).2 h2⟩
section
variable {P : Program} {w : World} {K : PySem.W.Frag} {mg : Str → Option Value} {base : Heap}
def spDraw : Sp := fun vs H Q _ => ∃ (a cl : Addr) (ns : List Int) (ix rest size : Int), vs = [.ref a, .int size] ∧ SrcAt H a cl ns ix rest ∧ 0 < size ∧ size < 1000000 ∧ ix ≤ 100000 ∧ ns.length ≤ 63 ∧
  ∀ H' r ix' rest', 0 ≤ r → r < size → ix' ≤ ix + 1 → But a H H' → SrcAt H' a cl ns ix' rest' → Q (.int r) H'
theorem scDraw : FnScope ["_law_source_here", "_law_size", "_law_digit", "_law_index", "_law_cell", "_law_mixed"] ["_law_source_here", "_law_size"] (defScope sDraw) := ⟨rfl, rfl, rfl, by decide +kernel, rfl, by decide +kernel, by decide +kernel⟩
theorem d_draw (p : Pl K mg "_law_draw" sDraw) (T : Bt mg) : Dn P w K mg base 1 "_law_draw" ["_law_source_here", "_law_size"] spDraw := by
  refine p.dn scDraw (fun _ _ _ _ _ _ us hl => match us, hl with | [_, _], _ => rfl) (fun vs H Q E h => ?_) (fun f cdv A outer s H vs Q E hr h => ?_)
  · obtain ⟨a, cl, ns, ix, rest, size, rfl, _⟩ := h
    rfl
  · obtain ⟨a, cl, ns, ix, rest, size, rfl, hS, h0, h1, hix, hns, k⟩ := h
    have hu := hu_of hr
    refine ⟨_, pss_cons (ps_if (pt_cmpR op_gt (pe_dget hu (pv 0) pe_str (fun _ _ => rfl)) pe_int (nomark _))
        (pss_cons (ps_set (i := 2) scDraw.nd rfl (.inl rfl) (pe_op op_modN (pe_dget hu (pv 0) pe_str (fun _ _ => rfl)) (pv 1)))
        (pss_cons (ps_dput hu (pv 0) pe_str (pe_op op_fdivN (pe_dget hu (pv 0) pe_str (fun _ _ => rfl)) (pv 1)) rfl)
        (pss_one (ps_ret (pv 2))))) pss_nil)
      (pss_cons (ps_set (i := 3) scDraw.nd rfl (.inl rfl) (pe_dget hu (pv 0) pe_str (fun _ _ => rfl)))
      (pss_cons (ps_dput hu (pv 0) pe_str (pe_op op_add (pv 3) pe_int) rfl)
      (pss_cons (ps_set (i := 4) scDraw.nd rfl (.inl rfl) (pe_op op_add (pe_op op_mul pe_int (pv 3)) pe_int))
      (pss_cons (ps_if (pt_cmpR (op_neD hr.units) (pe_dget hu (pv 0) pe_str (fun _ _ => rfl)) (pe_lst pa_nil) (nomark _))
        (pss_one (ps_set (i := 4) scDraw.nd rfl (.inl rfl) (pe_ix ix_list (pe_dget hu (pv 0) pe_str (fun _ _ => rfl)) (pe_op op_modN (pv 3) (pe_callB call_len_seq (by rfl) T.len PySem.boot_len (pa_cons (pe_dget hu (pv 0) pe_str (fun _ _ => rfl)) pa_nil))) (fun _ _ => rfl)))) pss_nil)
      (pss_cons (ps_if (PW.pt (pw_and (pt_cmpR op_lt (pv 3) (pe_callB call_len_seq (by rfl) T.len PySem.boot_len (pa_cons (pe_dget hu (pv 0) pe_str (fun _ _ => rfl)) pa_nil)) (nomark _))
          (pw_and1 (pt_cmpR op_ge (pe_callB call_abs (by rfl) T.abs boot_abs (pa_cons (pv 4) pa_nil)) (pe_op op_pow pe_int pe_int) (nomark _)))))
        (pss_cons (ps_dput hu (pv 0) pe_str (pe_op op_fdivN (pe_op op_sub (pe_callB call_abs (by rfl) T.abs boot_abs (pa_cons (pv 4) pa_nil)) (pe_op op_pow pe_int pe_int)) (pv 1)) rfl)
        (pss_one (ps_ret (pe_op op_modN (pe_op op_sub (pe_callB call_abs (by rfl) T.abs boot_abs (pa_cons (pv 4) pa_nil)) (pe_op op_pow pe_int pe_int)) (pv 1))))) pss_nil)
      (pss_cons (ps_set (i := 5) scDraw.nd rfl (.inl rfl) (pe_op op_modN (pe_op op_add (pe_op op_add (pe_op op_mul (pe_op op_modN (pv 4) pe_int) pe_int) (pe_op op_mul (pe_op op_mul pe_int (pv 3)) (pv 3))) pe_int) pe_int))
      (pss_cons (ps_set (i := 5) scDraw.nd rfl (.inl rfl) (pe_op op_modN (pe_op op_mul (pv 5) (pe_op op_add (pv 5) pe_int)) pe_int))
      (pss_one (ps_ret (pe_op op_modN (pe_op op_fdivN (pe_op op_modN (pe_op op_mul (pv 5) (pv 5)) pe_int) pe_int) (pv 1))))))))))), ?_⟩
    have gI := DGet.k (k := kI) hS.d
    have gR := DGet.k (k := kR) hS.d
    have gC := DGet.k (k := kC) hS.d
    rw [src_I] at gI
    rw [src_R] at gR
    rw [src_C] at gC
    have acl : cl ≠ a := ne_of hS.c hS.d (by intro z; cases z)
    have put : ∀ (H1 : Hp) (ix1 rest1 : Int), 0 ≤ ix1 → 0 ≤ rest1 → But a H H1 → SrcAt (upd H1 a (.dK (src cl ix1 rest1))) a cl ns ix1 rest1 := fun H1 ix1 rest1 z1 z2 b => ⟨upd_same, by rw [upd_ne acl]; exact b _ _ hS.c acl, z1, z2⟩
    refine ⟨_, rfl, a, _, rfl, gR, rest, 0, rfl, rfl, _, rfl, ?_⟩
    refine ite2 (fun e => ?_) (fun e => ?_)
    · refine ⟨_, rfl, a, _, rfl, gR, _, rfl, rest, size, rfl, rfl, (by omega), ?_⟩
      refine ⟨_, rfl, a, _, rfl, gR, _, rfl, rest, size, rfl, rfl, ⟨by omega, by omega⟩, _, rfl, a, _, rfl, DPut.k (k := kR) hS.d (show 3 < sizeLine by decide), ?_⟩
      rw [src_putR]
      exact ⟨_, rfl, k _ _ ix (rest.fdiv size) (fm_bd h0).1 (fm_bd h0).2 (by omega) But.refl.upd (put _ _ _ hS.i0 (fd_nn hS.r0 (by omega)) But.refl)⟩
    · refine ⟨_, rfl, a, _, rfl, gI, ?_⟩
      refine ⟨_, rfl, ix, 1, rfl, rfl, _, rfl, a, _, rfl, DPut.k (k := kI) hS.d (show 3 < sizeLine by decide), ?_⟩
      rw [src_putI]
      have b1 : But a H (upd H a (.dK (src cl (ix + 1) rest))) := But.refl.upd
      have S1 := put H (ix + 1) rest (by have := hS.i0; omega) hS.r0 But.refl
      generalize upd H a (.dK (src cl (ix + 1) rest)) = H1 at b1 S1 ⊢
      have i0 := hS.i0
      have gC1 := DGet.k (k := kC) S1.d
      rw [src_C] at gC1
      have cond : CMul 29 ix := .inl (by constructor <;> decide)
      refine ⟨_, rfl, 29, ix, rfl, rfl, cond, _, 17, rfl, rfl, ?_⟩
      -- the cell
      refine ⟨_, rfl, a, _, rfl, gC1, (by show 0 ≤ sizeLine; decide), fun e he => ?_⟩
      have S2 := S1.same (same_upd (o := .lst []) (Same.refl H1) he)
      have b2 := b1.same (same_upd (o := .lst []) (Same.refl H1) he)
      have he2 : (upd H1 e (.lst [])) e = some (.lst []) := upd_same
      generalize upd H1 e (.lst []) = H2 at S2 b2 he2 ⊢
      refine ⟨ild ns, ild [], dp_ild (SqL.of S2.c), dp_ild (SqL.of he2), shaped_ild _, shaped_ild _, _, rfl, ?_⟩
      rw [eqv_ild]
      have gC2 := DGet.k (k := kC) S2.d
      rw [src_C] at gC2
      have z18 : (10 : Int) ^ ((18 : Int).toNat) = 1000000000000000000 := by decide
      have il : (itp ns).length = ns.length := List.length_map ..
      have pw : CPow 10 18 := ⟨by decide, by decide, by decide⟩
      have hk : 0 < ns.length → ∃ c, atI (itp ns) (ix.fmod ((itp ns).length : Nat)) = some (.int c) := fun hp => by
        rw [il]
        have q := fm_bd (i := ix) (j := (ns.length : Nat)) (by omega)
        obtain ⟨j, hj⟩ : ∃ j : Nat, ix.fmod (ns.length : Nat) = (j : Nat) := ⟨(ix.fmod (ns.length : Nat)).toNat, by omega⟩
        rw [hj] at q ⊢
        refine ⟨ns[j]'(by omega), atI_nat ?_⟩
        unfold itp
        rw [List.getElem?_map, List.getElem?_eq_getElem (by omega)]
        rfl
      have cases2 : (ns = [] ∧ decide (ns = []) = true) ∨ (0 < ns.length ∧ decide (ns = []) = false) := by
        cases ns with
        | nil => exact .inl ⟨rfl, rfl⟩
        | cons x r => exact .inr ⟨by simp, by simp⟩
      rcases cases2 with ⟨hn, hd⟩ | ⟨hn, hd⟩
      · rw [hd]
        refine iteF ?_
        refine ⟨_, rfl, _, rfl, a, _, rfl, gC2, cl, itp ns, rfl, .inl (SqL.of S2.c), _, _, rfl, rfl, _, rfl, ?_⟩
        refine ite2 (fun e1 => ?_) (fun e1 => iteF ?_)
        rotate_left
        · refine ⟨_, rfl, _, 2147483629, rfl, rfl, (show (2147483629 : Int) ≠ 0 by decide), _, 69621, rfl, rfl, .inr (by constructor <;> decide), _, rfl, 40014, ix, rfl, rfl, .inl (by constructor <;> decide), _, rfl, _, ix, rfl, rfl, .inr ⟨by omega, by omega⟩, _, _, rfl, rfl, _, 12345, rfl, rfl, _, 2147483587, rfl, rfl, (show (2147483587 : Int) ≠ 0 by decide), ?_⟩
          refine ⟨_, rfl, _, rfl, _, 16807, rfl, rfl, _, _, rfl, rfl, cm_fm (by decide) (by decide), _, 2147483563, rfl, rfl, (show (2147483563 : Int) ≠ 0 by decide), ?_⟩
          refine ⟨_, rfl, _, rfl, _, _, rfl, rfl, cm_fm (by decide) (by decide), _, 2147483647, rfl, rfl, (show (2147483647 : Int) ≠ 0 by decide), _, 128, rfl, rfl, ⟨by decide, by decide⟩, _, rfl, _, _, rfl, rfl, by omega, ?_⟩
          exact k _ _ (ix + 1) _ (fm_bd h0).1 (fm_bd h0).2 (by omega) b2 S2
        refine ⟨_, rfl, _, rfl, 10, 18, rfl, rfl, pw, _, _, rfl, rfl, _, rfl, ?_⟩
        refine ite2 (fun e2 => ?_) (fun e2 => ?_)
        rotate_left
        · refine ⟨_, rfl, _, 2147483629, rfl, rfl, (show (2147483629 : Int) ≠ 0 by decide), _, 69621, rfl, rfl, .inr (by constructor <;> decide), _, rfl, 40014, ix, rfl, rfl, .inl (by constructor <;> decide), _, rfl, _, ix, rfl, rfl, .inr ⟨by omega, by omega⟩, _, _, rfl, rfl, _, 12345, rfl, rfl, _, 2147483587, rfl, rfl, (show (2147483587 : Int) ≠ 0 by decide), ?_⟩
          refine ⟨_, rfl, _, rfl, _, 16807, rfl, rfl, _, _, rfl, rfl, cm_fm (by decide) (by decide), _, 2147483563, rfl, rfl, (show (2147483563 : Int) ≠ 0 by decide), ?_⟩
          refine ⟨_, rfl, _, rfl, _, _, rfl, rfl, cm_fm (by decide) (by decide), _, 2147483647, rfl, rfl, (show (2147483647 : Int) ≠ 0 by decide), _, 128, rfl, rfl, ⟨by decide, by decide⟩, _, rfl, _, _, rfl, rfl, by omega, ?_⟩
          exact k _ _ (ix + 1) _ (fm_bd h0).1 (fm_bd h0).2 (by omega) b2 S2
        have e2 := of_decide_eq_true e2
        refine ⟨_, rfl, _, rfl, 10, 18, rfl, rfl, pw, _, _, rfl, rfl, _, rfl, _, _, rfl, rfl, ⟨by omega, by omega⟩, _, rfl, a, _, rfl, DPut.k (k := kR) S2.d (show 3 < sizeLine by decide), ?_⟩
        rw [src_putR]
        refine ⟨_, rfl, _, rfl, 10, 18, rfl, rfl, pw, _, _, rfl, rfl, _, rfl, _, _, rfl, rfl, by omega, ?_⟩
        exact k _ _ (ix + 1) _ (fm_bd h0).1 (fm_bd h0).2 (by omega) b2.upd (put H2 _ _ (by omega) (fd_nn (Int.sub_nonneg_of_le e2) (by omega)) b2)
      · rw [hd]
        refine iteT ?_
        obtain ⟨c, hc⟩ := hk hn
        refine ⟨_, rfl, a, _, rfl, gC2, _, rfl, _, rfl, a, _, rfl, gC2, cl, itp ns, rfl, .inl (SqL.of S2.c), ix, _, rfl, rfl, by omega, cl, itp ns, _, .int c, rfl, rfl, SqL.of S2.c, hc, ?_⟩
        refine ⟨_, rfl, _, rfl, a, _, rfl, gC2, cl, itp ns, rfl, .inl (SqL.of S2.c), _, _, rfl, rfl, _, rfl, ?_⟩
        refine ite2 (fun e1 => ?_) (fun e1 => iteF ?_)
        rotate_left
        · refine ⟨_, rfl, _, 2147483629, rfl, rfl, (show (2147483629 : Int) ≠ 0 by decide), _, 69621, rfl, rfl, .inr (by constructor <;> decide), _, rfl, 40014, ix, rfl, rfl, .inl (by constructor <;> decide), _, rfl, _, ix, rfl, rfl, .inr ⟨by omega, by omega⟩, _, _, rfl, rfl, _, 12345, rfl, rfl, _, 2147483587, rfl, rfl, (show (2147483587 : Int) ≠ 0 by decide), ?_⟩
          refine ⟨_, rfl, _, rfl, _, 16807, rfl, rfl, _, _, rfl, rfl, cm_fm (by decide) (by decide), _, 2147483563, rfl, rfl, (show (2147483563 : Int) ≠ 0 by decide), ?_⟩
          refine ⟨_, rfl, _, rfl, _, _, rfl, rfl, cm_fm (by decide) (by decide), _, 2147483647, rfl, rfl, (show (2147483647 : Int) ≠ 0 by decide), _, 128, rfl, rfl, ⟨by decide, by decide⟩, _, rfl, _, _, rfl, rfl, by omega, ?_⟩
          exact k _ _ (ix + 1) _ (fm_bd h0).1 (fm_bd h0).2 (by omega) b2 S2
        refine ⟨_, rfl, _, rfl, 10, 18, rfl, rfl, pw, _, _, rfl, rfl, _, rfl, ?_⟩
        refine ite2 (fun e2 => ?_) (fun e2 => ?_)
        rotate_left
        · refine ⟨_, rfl, _, 2147483629, rfl, rfl, (show (2147483629 : Int) ≠ 0 by decide), _, 69621, rfl, rfl, .inr (by constructor <;> decide), _, rfl, 40014, ix, rfl, rfl, .inl (by constructor <;> decide), _, rfl, _, ix, rfl, rfl, .inr ⟨by omega, by omega⟩, _, _, rfl, rfl, _, 12345, rfl, rfl, _, 2147483587, rfl, rfl, (show (2147483587 : Int) ≠ 0 by decide), ?_⟩
          refine ⟨_, rfl, _, rfl, _, 16807, rfl, rfl, _, _, rfl, rfl, cm_fm (by decide) (by decide), _, 2147483563, rfl, rfl, (show (2147483563 : Int) ≠ 0 by decide), ?_⟩
          refine ⟨_, rfl, _, rfl, _, _, rfl, rfl, cm_fm (by decide) (by decide), _, 2147483647, rfl, rfl, (show (2147483647 : Int) ≠ 0 by decide), _, 128, rfl, rfl, ⟨by decide, by decide⟩, _, rfl, _, _, rfl, rfl, by omega, ?_⟩
          exact k _ _ (ix + 1) _ (fm_bd h0).1 (fm_bd h0).2 (by omega) b2 S2
        have e2 := of_decide_eq_true e2
        refine ⟨_, rfl, _, rfl, 10, 18, rfl, rfl, pw, _, _, rfl, rfl, _, rfl, _, _, rfl, rfl, ⟨by omega, by omega⟩, _, rfl, a, _, rfl, DPut.k (k := kR) S2.d (show 3 < sizeLine by decide), ?_⟩
        rw [src_putR]
        refine ⟨_, rfl, _, rfl, 10, 18, rfl, rfl, pw, _, _, rfl, rfl, _, rfl, _, _, rfl, rfl, by omega, ?_⟩
        exact k _ _ (ix + 1) _ (fm_bd h0).1 (fm_bd h0).2 (by omega) b2.upd (put H2 _ _ (by omega) (fd_nn (Int.sub_nonneg_of_le e2) (by omega)) b2)
end
end MO
set_option Elab.async false
set_option linter.all false
set_option maxRecDepth 100000
/-! the law: source, pick, names, order, universal -/
namespace MO
open PySem PySem.Spec PyProof.Rows L2 XS KM
abbrev sLOrder : Stmt := top 59
abbrev sLUniv : Stmt := top 60
theorem cutV_all (xs : List V) (n : Nat) (h : xs.length ≤ n) : cutV xs none (some (n : Int)) = xs := by
  unfold cutV
  have e2 := HT.sIx_nat xs.length xs.length n
  rw [HT.sIx_none, e2, List.drop_zero, Nat.sub_zero, Nat.min_eq_right h, List.take_length]
theorem alpha_at : ∀ j : Nat, j < 26 → (Str.cps "abcdefghijklmnopqrstuvwxyz").toList[j]? = some (97 + j) := by decide +kernel
def nm (first step : Int) (i : Nat) : Nat := 97 + ((first + step * (i : Int)).fmod 26).toNat
def steps12 : List Int := [1, 3, 5, 7, 9, 11, 15, 17, 19, 21, 23, 25]
theorem nm_nd : ∀ f : Fin 26, ∀ st ∈ steps12, ((List.range 8).map (nm (f.val : Int) st)).Nodup := by decide +kernel
theorem nm_low (f st : Int) (i : Nat) : 97 ≤ nm f st i ∧ nm f st i ≤ 122 := by
  have q := fm_bd (i := f + st * (i : Int)) (j := 26) (by decide)
  unfold nm
  omega
section
variable {P : Program} {w : World} {K : PySem.W.Frag} {mg : Str → Option Value} {base : Heap}
theorem scLUniv : FnScope ["_law_count", "_law_text", "_law_letter"] ["_law_count"] (defScope sLUniv) := ⟨rfl, rfl, rfl, by decide +kernel, rfl, by decide +kernel, by decide +kernel⟩
theorem d_law_universal (p : Pl K mg "_law_universal" sLUniv) (T : Bt mg) : Dn P w K mg base 1 "_law_universal" ["_law_count"] spUText := by
  refine p.dn scLUniv (fun _ _ _ _ _ _ us hl => match us, hl with | [_], _ => rfl) (fun vs H Q E h => ?_) (fun f cdv A outer s H vs Q E hr h => ?_)
  · obtain ⟨n, rfl, _⟩ := h
    rfl
  · obtain ⟨n, rfl, hn, k⟩ := h
    refine ⟨_, pss_cons (ps_set (i := 1) scLUniv.nd rfl (.inl rfl) (pe_tup pa_nil))
      (pss_cons (ps_for PassesOwn.never rfl (pi_range1 (by rfl) T.range (pa_cons (pv 0) pa_nil)) (pg_name (i := 2) scLUniv.nd rfl (Or.inl rfl))
        (pss_one (ps_set (i := 1) scLUniv.nd rfl (.inl rfl) (pe_op op_catA (pe_op op_catA (pv 1) (pe_tup (pa_cons (pv 2) pa_nil))) (pv 1)))))
      (pss_one (ps_ret (pv 1)))), ?_⟩
    refine ⟨(by show 0 ≤ sizeLine; decide), fun t0 h0 => ?_⟩
    refine ⟨_, rfl, n, rfl, by omega, by omega, for_range (n := (n : Int).toNat) (fun i σ H2 => ∃ t v2, σ = [some (.int (n : Nat)), some (.ref t), v2] ∧ Same H H2 ∧ H2 t = some (.tup (itp (U i)))) ⟨t0, _, rfl, same_upd (Same.refl _) h0, upd_same⟩ ?_ ?_⟩
    · rintro i σ H2 hi ⟨t, v2, rfl, s2, ht⟩
      have hi12 : i ≤ 12 := by omega
      have ul := u_len hi12
      refine ⟨_, rfl, _, rfl, (by show 1 ≤ sizeLine; decide), fun t1 h1 => ?_⟩
      have s3 : Same H2 (upd H2 t1 (.tup [.int (0 + (i : Int))])) := same_upd (Same.refl _) h1
      refine catA_of (s3 _ _ ht) upd_same (by rw [List.length_map]; show _ + 1 ≤ sizeLine; exact Nat.le_of_lt (Nat.lt_of_le_of_lt (Nat.add_le_add_right ul 1) (by decide))) fun t2 H4 s4 h4 => ?_
      refine ⟨_, rfl, catA_of h4 (s4 _ _ (s3 _ _ ht)) ?_ fun t3 H5 s5 h5 => ?_⟩
      · rw [List.length_append, List.length_map]
        show _ + 1 + _ ≤ sizeLine
        exact Nat.le_trans (Nat.add_le_add (Nat.add_le_add_right ul 1) ul) (by decide)
      · refine ⟨t3, _, rfl, s2.trans (s3.trans (s4.trans s5)), ?_⟩
        rw [h5]
        have e : itp (U i) ++ [V.int (0 + (i : Int))] ++ itp (U i) = itp (U (i + 1)) := by
          show _ = itp (U i ++ (i : Int) :: U i)
          unfold itp
          rw [List.map_append, List.map_cons, Int.zero_add, List.append_assoc]
          rfl
        rw [e]
    · rintro σ H2 ⟨t, v2, rfl, s2, ht⟩
      refine ⟨_, rfl, k _ t s2 ?_⟩
      rw [ht]
      rfl
def spLOrder : Sp := fun vs H Q _ => ∃ cs : List Nat, vs = [.str (tx cs)] ∧ cs.length ≤ 1000 ∧ ∀ H' p, Same H H' → H p = none → H' p = some (.lst (((fo cs).map sg).map V.str)) → Q (.ref p) H'
theorem scLOrder : FnScope ["_law_pattern", "_law_index", "_law_name"] ["_law_pattern"] (defScope sLOrder) := ⟨rfl, rfl, rfl, by decide +kernel, rfl, by decide +kernel, by decide +kernel⟩
theorem d_law_order (p : Pl K mg "_law_order" sLOrder) (T : Bt mg) : Dn P w K mg base 1 "_law_order" ["_law_pattern"] spLOrder := by
  refine p.dn scLOrder (fun _ _ _ _ _ _ us hl => match us, hl with | [_], _ => rfl) (fun vs H Q E h => ?_) (fun f cdv A outer s H vs Q E hr h => ?_)
  · obtain ⟨cs, rfl, _⟩ := h
    rfl
  · obtain ⟨cs, rfl, hn, k⟩ := h
    refine ⟨_, pss_one (ps_ret (
        (pe_lc (own := [("_law_index", 1), ("_law_name", 2)]) (g := gTup K 2 (gCons (gName 1) (gCons (gName 2) gNil))) rfl scLOrder.nd (pi_enumS (by rfl) T.enumerate (pa_cons (pv 0) pa_nil)) (blkOk_by (N := ["_law_pattern", "_law_index", "_law_name"]) (sc := defScope sLOrder) (by decide +kernel))
          (fun _ _ _ _ _ => pg_tupK K (pgs_cons (pg_name (i := 1) scLOrder.nd rfl (Or.inl rfl)) (pgs_cons (pg_name (i := 2) scLOrder.nd rfl (Or.inl rfl)) pgs_nil)))
          (fun _ _ _ _ _ => pts_one (pt_cmpR op_eq (pe_bmK K PySem.F.plainAttrs_str PySem.F.slot_str_index PySem.F.type_str_index mt_sindex (pv 0) (pa_cons (pv 2) pa_nil)) (pv 1) (nomark _)))
          (fun _ _ _ _ _ => pv 2)))), ?_⟩
    refine ⟨_, rfl, _, rfl, fun D hD => lc_f cs.zipIdx (fun q => decide (cs.idxOf q.1 = q.2)) (fun q => V.str (sg q.1))
      (by have w := walk_pairs (n := (tx cs).cps.size) (va := fun i => V.int (i : Nat)) (vb := sgv (tx cs)); rw [show cs.zipIdx.length = (tx cs).cps.size by simp]; exact w)
      hD (by rw [List.length_zipIdx]; exact small1000 hn) (fun _ _ => trivial) ?_ ?_⟩
    · rintro i ⟨c, j⟩ v H1 H2 hx s1 ⟨T1, rfl, hT, rfl⟩ N1 N0 n1 n0
      rw [List.getElem?_zipIdx] at hx
      obtain ⟨c', hc, e⟩ := Option.map_eq_some_iff.mp hx
      cases e
      rw [Nat.zero_add] at *
      have s2 : Same H1 (upd H1 T1 (.tup [.int (i : Nat), sgv (tx cs) i])) := same_upd (Same.refl H1) hT
      rw [sgv_tx hc] at s2 ⊢
      obtain ⟨r, er⟩ := occ_ix (List.mem_of_getElem? hc)
      refine ⟨T1, _, rfl, SqT.of upd_same, rfl, _, _, rfl, _, _, rfl, rfl, rfl, _, rfl, rfl, _, rfl, _, _, _, _, rfl, rfl, er, _, rfl, rfl, _, rfl, ?_⟩
      refine ite2 (fun e => ?_) (fun e => ?_)
      · have e := of_decide_eq_true e
        injection e with e
        exact ⟨_, rfl, n1 (decide_eq_true (by show cs.idxOf c = i; omega)) _ s2⟩
      · refine n0 (decide_eq_false fun z => e (decide_eq_true ?_)) _ s2
        have z : cs.idxOf c = i := z
        rw [z]
    · intro H1 s1 hd
      have e : (cs.zipIdx.filter fun q => decide (cs.idxOf q.1 = q.2)).map (fun q => V.str (sg q.1)) = ((fo cs).map sg).map V.str := by
        unfold fo
        rw [List.map_map, List.map_map]
        rfl
      rw [e] at hd
      exact k H1 D s1 hD hd
def spSource (K : PySem.W.Frag) : Sp := fun vs H Q _ => ∃ (b : Addr) (ns : List Int), vs = [.ref b] ∧ SqL K H b (itp ns) ∧ ns.length ≤ 63 ∧ ∀ H' a cl, Same H H' → H a = none → SrcAt H' a cl ns 0 0 → Q (.ref a) H'
theorem scSource : FnScope ["_law_script"] ["_law_script"] (defScope sSource) := ⟨rfl, rfl, rfl, by decide +kernel, rfl, by decide +kernel, by decide +kernel⟩
theorem d_law_source (p : Pl K mg "_law_source" sSource) (T : Bt mg) : Dn P w K mg base 1 "_law_source" ["_law_script"] (spSource K) := by
  refine p.dn scSource (fun _ _ _ _ _ _ us hl => match us, hl with | [_], _ => rfl) (fun vs H Q E h => ?_) (fun f cdv A outer s H vs Q E hr h => ?_)
  · obtain ⟨b, ns, rfl, _⟩ := h
    rfl
  · obtain ⟨b, ns, rfl, hb, h63, k⟩ := h
    refine ⟨_, pss_one (ps_ret (pe_disp (pps_cons pe_str (pe_callTy call_list_of (by rfl) T.list (by decide +kernel) (pa_cons (pe_slice sl_list (pv 0) po_none (po_some pe_int)) pa_nil))
      (pps_cons pe_str pe_int (pps_cons pe_str pe_int pps_nil))) rfl rfl (by simp) (by decide))), ?_⟩
    intro d hd
    have s1 : Same H (upd H d (.dK [])) := same_upd (Same.refl _) hd
    refine ⟨_, rfl, 63, rfl, b, itp ns, rfl, s1.seq hb, fun q hq => ?_⟩
    rw [show ((63 : Int)) = ((63 : Nat) : Int) from rfl, cutV_all (itp ns) 63 (by unfold itp; rw [List.length_map]; exact h63)]
    have s2 := same_upd (o := .lst (itp ns)) (Same.refl _) hq
    refine ⟨q, itp ns, rfl, .inl (SqL.of upd_same), fun l hl => ?_⟩
    have s3 := same_upd (o := .lst (itp ns)) (Same.refl _) hl
    have hd3 := s3 _ _ (s2 _ _ (upd_same (H := H) (a := d) (o := .dK [])))
    refine ⟨hd3, src l 0 0, rfl, (by show 3 ≤ 15; decide), ?_⟩
    have nl : l ≠ d := fun z => by rw [z, s2 _ _ (upd_same (H := H) (a := d) (o := .dK []))] at hl; cases hl
    have me : mergeK [] (src l 0 0) = src l 0 0 := by
      show putK (putK (putK [] kC (.ref l)) kI (.int 0)) kR (.int 0) = _
      have e1 : putK [] kC (V.ref l) = [(kC, .ref l)] := putK_new _ rfl
      have e2 : putK [(kC, V.ref l)] kI (.int 0) = [(kC, .ref l), (kI, .int 0)] := putK_new _ ((valV_neg (p := (kC, V.ref l)) kCI).trans rfl)
      have e3 : putK [(kC, V.ref l), (kI, V.int 0)] kR (.int 0) = [(kC, .ref l), (kI, .int 0), (kR, .int 0)] := putK_new _ ((valV_neg (p := (kC, V.ref l)) kCR).trans ((valV_neg (p := (kI, V.int 0)) kIR).trans rfl))
      rw [e1, e2, e3]
      rfl
    rw [me]
    refine k _ d l (fun c o e => ?_) hd ⟨upd_same, ?_, by decide, by decide⟩
    · rw [upd_ne (ne_of_none e hd)]
      exact s3 _ _ (s2 _ _ (s1 _ _ e))
    · rw [upd_ne nl]
      exact upd_same
def spPick : Sp := fun vs H Q _ => ∃ (a cl b : Addr) (ns : List Int) (ix rest : Int) (xs : List V), vs = [.ref a, .ref b] ∧ SrcAt H a cl ns ix rest ∧ H b = some (.lst xs) ∧ xs ≠ [] ∧ xs.length ≤ 1000 ∧ ix ≤ 100000 ∧ ns.length ≤ 63 ∧
  ∀ H' v ix' rest', v ∈ xs → ix' ≤ ix + 1 → But a H H' → SrcAt H' a cl ns ix' rest' → Q v H'
theorem scPick : FnScope ["_law_source_here", "_law_items"] ["_law_source_here", "_law_items"] (defScope sPick) := ⟨rfl, rfl, rfl, by decide +kernel, rfl, by decide +kernel, by decide +kernel⟩
theorem d_law_pick (p : Pl K mg "_law_pick" sPick) (T : Bt mg) (D1 : Dn P w K mg base 1 "_law_draw" ["_law_source_here", "_law_size"] spDraw) : Dn P w K mg base 2 "_law_pick" ["_law_source_here", "_law_items"] spPick := by
  refine p.dn scPick (fun _ _ _ _ _ _ us hl => match us, hl with | [_, _], _ => rfl) (fun vs H Q E h => ?_) (fun f cdv A outer s H vs Q E hr h => ?_)
  · obtain ⟨a, cl, b, ns, ix, rest, xs, rfl, _⟩ := h
    rfl
  · obtain ⟨a, cl, b, ns, ix, rest, xs, rfl, hS, hb, hne, hl, hix, h63, k⟩ := h
    have hp := List.length_pos_iff.mpr hne
    refine ⟨_, pss_one (ps_ret (pe_ix ix_list (pv 1) (pe_dn D1 hr (pa_cons (pv 0) (pa_cons (pe_callB call_len_seq (by rfl) T.len PySem.boot_len (pa_cons (pv 1) pa_nil)) pa_nil))) (fun _ _ => rfl))), ?_⟩
    refine ⟨_, rfl, _, rfl, _, rfl, b, xs, rfl, .inl (SqL.of hb), a, cl, ns, ix, rest, (xs.length : Nat), rfl, hS, by omega, by omega, hix, h63, fun H2 r ix' rest' r0 r1 hi b2 S2 => ?_⟩
    have nb : b ≠ a := ne_of hb hS.d (by intro z; cases z)
    obtain ⟨j, rfl⟩ : ∃ j : Nat, r = (j : Nat) := ⟨r.toNat, by omega⟩
    have hj : j < xs.length := by omega
    refine ⟨b, xs, (j : Nat), xs[j], rfl, rfl, SqL.of (b2 _ _ hb nb), atI_nat (List.getElem?_eq_getElem hj), ?_⟩
    exact k H2 _ ix' rest' (List.getElem_mem hj) hi b2 S2
def spNames : Sp := fun vs H Q _ => ∃ (a cl : Addr) (ns : List Int) (ix rest : Int), vs = [.ref a, .int 8] ∧ SrcAt H a cl ns ix rest ∧ ix ≤ 90000 ∧ ns.length ≤ 63 ∧
  ∀ H' (M : List Nat) ix' rest', M.length = 8 → M.Nodup → (∀ x ∈ M, 97 ≤ x ∧ x ≤ 122) → ix' ≤ ix + 2 → But a H H' → SrcAt H' a cl ns ix' rest' → Q (.str (tx M)) H'
theorem scNames : FnScope ["_law_source_here", "_law_count", "_law_alphabet", "_law_first", "_law_step", "_law_index"] ["_law_source_here", "_law_count"] (defScope sNames) := ⟨rfl, rfl, rfl, by decide +kernel, rfl, by decide +kernel, by decide +kernel⟩
theorem d_law_names (p : Pl K mg "_law_names" sNames) (T : Bt mg) (D1 : Dn P w K mg base 1 "_law_draw" ["_law_source_here", "_law_size"] spDraw) (D2 : Dn P w K mg base 2 "_law_pick" ["_law_source_here", "_law_items"] spPick) : Dn P w K mg base 3 "_law_names" ["_law_source_here", "_law_count"] spNames := by
  refine p.dn scNames (fun _ _ _ _ _ _ us hl => match us, hl with | [_, _], _ => rfl) (fun vs H Q E h => ?_) (fun f cdv A outer s H vs Q E hr h => ?_)
  · obtain ⟨a, cl, ns, ix, rest, rfl, _⟩ := h
    rfl
  · obtain ⟨a, cl, ns, ix, rest, rfl, hS, hix, h63, k⟩ := h
    have hr1 : Room 1 _ := hr.mono (by decide)
    refine ⟨_, pss_cons (ps_set (i := 2) scNames.nd rfl (.inr rfl) pe_str)
      (pss_cons (ps_asg (pe_tup (pa_cons (pe_dn D1 hr1 (pa_cons (pv 0) (pa_cons pe_int pa_nil))) (pa_cons (pe_dn D2 hr (pa_cons (pv 0) (pa_cons (pe_lst (pa_cons pe_int (pa_cons pe_int (pa_cons pe_int (pa_cons pe_int (pa_cons pe_int (pa_cons pe_int (pa_cons pe_int (pa_cons pe_int (pa_cons pe_int (pa_cons pe_int (pa_cons pe_int (pa_cons pe_int pa_nil))))))))))))) pa_nil))) pa_nil)))
        (pg_tup rfl (pgs_cons (pg_name (i := 3) scNames.nd rfl (Or.inr rfl)) (pgs_cons (pg_name (i := 4) scNames.nd rfl (Or.inr rfl)) pgs_nil))))
      (pss_one (ps_ret (pe_join pe_str
        (pe_lc (own := [("_law_index", 5)]) (g := gName 5) rfl scNames.nd (pi_range1 (by rfl) T.range (pa_cons (pv 1) pa_nil)) (blkOk_by (N := ["_law_source_here", "_law_count", "_law_alphabet", "_law_first", "_law_step", "_law_index"]) (sc := defScope sNames) (by decide +kernel))
          (fun _ _ _ _ _ => pg_name (i := 5) scNames.nd rfl (Or.inl rfl)) (fun _ _ _ _ _ => pts_nil)
          (fun _ _ _ _ _ => pe_ix ix_str (pv 2) (pe_op op_modN (pe_op op_add (pv 3) (pe_op op_mul (pv 4) (pv 5))) pe_int) (fun _ _ => rfl))))))), ?_⟩
    refine ⟨_, rfl, a, cl, ns, ix, rest, 26, rfl, hS, by decide, by decide, by omega, h63, fun H1 r ix1 rest1 r0 r1 i1 b1 S1 => ?_⟩
    refine ⟨_, rfl, (by show 12 ≤ sizeLine; decide), fun l hl => ?_⟩
    have s1 := same_upd (o := .lst (itp steps12)) (Same.refl H1) hl
    refine ⟨a, cl, l, ns, ix1, rest1, itp steps12, rfl, S1.same s1, upd_same, by decide, by decide, by omega, h63, fun H2 v ix2 rest2 hv i2 b2 S2 => ?_⟩
    obtain ⟨st, hst, rfl⟩ : ∃ st ∈ steps12, v = .int st := by
      obtain ⟨st, z1, z2⟩ := List.mem_map.mp hv
      exact ⟨st, z1, z2.symm⟩
    refine ⟨(by show 2 ≤ sizeLine; decide), fun t ht => ?_⟩
    have s3 := same_upd (o := .tup [.int r, .int st]) (Same.refl H2) ht
    refine ⟨t, _, rfl, SqT.of upd_same, rfl, _, _, rfl, _, _, rfl, rfl, ?_⟩
    have S3 := S2.same s3
    have b3 : But a H (upd H2 t (.tup [.int r, .int st])) := But.same (fun b o e n => b2 _ _ (s1 _ _ (b1 _ _ e n)) n) s3
    generalize upd H2 t (.tup [.int r, .int st]) = H3 at S3 b3 ⊢
    refine ⟨⟨_, rfl⟩, _, rfl, 8, rfl, by decide, by decide, fun D hD => lc_y (List.range 8) (fun i => V.str (sg (nm r st i))) (walk_range (lo := 0) (n := 8)) hD (by decide) (fun _ _ => trivial) ?_ ?_⟩
    · rintro i j v H4 H5 hj s4 ⟨rfl, rfl⟩ N1 n1
      obtain ⟨hj8, rfl⟩ : i < 8 ∧ j = i := by
        obtain ⟨h1, h2⟩ := List.getElem?_eq_some_iff.mp hj
        rw [List.getElem_range] at h2
        exact ⟨by simpa using h1, h2.symm⟩
      have cm : CMul st (0 + (j : Nat)) := .inr ⟨by omega, by omega⟩
      refine ⟨rfl, _, rfl, _, rfl, _, rfl, _, rfl, st, _, rfl, rfl, cm, r, _, rfl, rfl, _, 26, rfl, rfl, (show (26 : Int) ≠ 0 by decide), ?_⟩
      have q := fm_bd (i := r + st * (0 + (j : Nat))) (j := 26) (by decide)
      refine ⟨"abcdefghijklmnopqrstuvwxyz", _, nm r st j, rfl, rfl, by decide, ?_, n1 _ (Same.refl _)⟩
      have e : (r + st * (0 + (j : Nat))).fmod 26 = (((r + st * (j : Nat)).fmod 26).toNat : Nat) := by
        rw [Int.zero_add] at q ⊢
        omega
      rw [e]
      refine atI_nat (alpha_at _ ?_)
      rw [Int.zero_add] at q
      omega
    · intro H4 s4 hd
      have em : (List.range 8).map (fun i => V.str (sg (nm r st i))) = (((List.range 8).map (nm r st)).map sg).map V.str := by
        rw [List.map_map, List.map_map]
        rfl
      rw [em] at hd
      refine ⟨_, D, ((List.range 8).map (nm r st)).map sg, rfl, rfl, .inl (SqL.of hd), join_room (by rw [List.length_map, List.length_range]; decide), ?_⟩
      have j := join_sg ((List.range 8).map (nm r st))
      show Q (.str (Txt.join (tx []) _)) H4
      rw [j]
      refine k H4 _ ix2 rest2 (by rw [List.length_map, List.length_range]) ?_ ?_ (by omega) (b3.same s4) (S3.same s4)
      · obtain ⟨f0, e⟩ : ∃ f : Fin 26, ((f.val : Nat) : Int) = r := ⟨⟨r.toNat, by omega⟩, by show ((r.toNat : Nat) : Int) = r; omega⟩
        rw [← e]
        exact nm_nd f0 st hst
      · intro x hx
        obtain ⟨i, _, rfl⟩ := List.mem_map.mp hx
        exact nm_low r st i
end
end MO
set_option Elab.async false
set_option linter.all false
set_option maxRecDepth 100000
set_option maxHeartbeats 3200000
/-! set(text); x not in (a tuple of data) -/
namespace MO
open PySem PySem.Spec PyProof.Rows L2 XS KM
section
variable {P : Program} {w : World} {A : Around} {E : Value → Shared → Prop} {s : Shared}
theorem setx_loop {I : Addr} {fp wr : List Addr} {G : Array GenState → Array GenState → Prop} {n : Nat} {Pv : Nat → Value → Prop} {St : Nat → Shared → Prop} {R : Result → Shared → Prop}
    (W : WalksS P w A.in1 I fp wr G n Pv St) (S : Addr) (hSf : S ∉ fp) (cs : List Nat) (hn : n = cs.length) (hfew : cs.length < 1000) (hval : ∀ i v, Pv i v → ∃ c u, cs[i]? = some c ∧ v = .str (sg c) u)
    (h0 : Heap) (hS0 : h0.get? S = none) (hw0 : ∀ b ∈ wr, h0.get? b = none) :
    ∀ (k i : Nat) (s : Shared), n - i = k → i ≤ n → St i s → (∀ b o, h0.get? b = some o → s.heap.get? b = some o) → (∃ L : List Nat, TSet w s.heap S (L.map sg) ∧ LT cs i L) →
      (∀ (s' : Shared) (L : List Nat), Moved (S :: wr) G s s' → TSet w s'.heap S (L.map sg) → LT cs n L → (∀ b o, h0.get? b = some o → s'.heap.get? b = some o) → R (.ok (.ret .none)) s') →
      codeAny (model P w) A (.builtin "set.update.loop" ⟨[.ref S, .ref I], []⟩) R s := by
  have hSw : S ∉ wr := fun h => hSf (W.sub _ h)
  have hsub : ∀ b ∈ wr, b ∈ S :: wr := fun b hb => List.mem_cons_of_mem _ hb
  have keepM : ∀ {s s' : Shared}, Moved wr G s s' → (∀ b o, h0.get? b = some o → s.heap.get? b = some o) → ∀ b o, h0.get? b = some o → s'.heap.get? b = some o := fun hm hkp b o e =>
    hm.heap b o (fun hb => by rw [hw0 b hb] at e; cases e) (hkp b o e)
  intro k
  induction k with
  | zero =>
    intro i s hk' hi hst hkp ⟨L, hS, g⟩ hR
    have hin : i = n := by omega
    subst hin
    refine codeAny_builtin F.entry_set_update_loop ?_
    rw [Around.under_plainId F.plain_set_update_loop _]
    show wpAny _ A.in1 (pyNext (.ref I) >>= _) _ _ s
    refine wpAny_bind (W.done s _ _ hst fun s' hm => ?_)
    show wpAny _ A.in1 (ret Value.none) _ _ s'
    exact wpAny_pure (hR s' L (hm.mono hsub) (hS.move fun o e => hm.heap S o hSw e) g (keepM hm hkp))
  | succ k ih =>
    intro i s hk' hi hst hkp ⟨L, hS, g⟩ hR
    have hlt : i < n := by omega
    refine codeAny_builtin F.entry_set_update_loop ?_
    rw [Around.under_plainId F.plain_set_update_loop _]
    show wpAny _ A.in1 (pyNext (.ref I) >>= _) _ _ s
    refine wpAny_bind (W.item i s _ _ hlt hst fun v s' hP hst' hm => ?_)
    obtain ⟨c, u, hc, rfl⟩ := hval i v hP
    have hkp' := keepM hm hkp
    have hS' : TSet w s'.heap S (L.map sg) := hS.move fun o e => hm.heap S o hSw e
    obtain ⟨L', e', g'⟩ := g.next hc
    show wpAny _ A.in1 (holding [Value.str (sg c) u] (setAdd S (.str (sg c) u)) >>= _) _ _ s'
    refine wpAny_bind (wpAny_holding ?_)
    unfold setAdd
    refine wpAny_holding ?_
    refine wpAny_bind ((PySem.strKind P w).pyHash (strKind_is P w (sg c) u) ?_)
    refine tset_hashed (s := { s' with toks := s'.toks + 1 }) hS' (by rw [List.length_map]; have := g.len; unfold scanBound; omega) fun b h' hsb hS2 => ?_
    rw [e'] at hS2
    have hkp2 : ∀ b o, h0.get? b = some o → h'.get? b = some o := fun b o e => (hsb.2 b (fun z => by rw [z, hS0] at e; cases e)).trans (hkp' b o e)
    refine wpAny_pure ⟨plainId_quiet F.plain_set_update_loop _, ih (i + 1) _ (by omega) hlt (W.frame _ s' _ _ hst' (Nat.le_add_right _ _) fun b hb o e => ?_) hkp2 ⟨L', hS2, g'⟩ fun s'' L2 hm'' hS'' g'' hkp'' => ?_⟩
    · rw [hsb.2 b (fun h : b = S => hSf (by rw [← h]; exact hb))]; exact e
    · refine hR s'' L2 (Moved.trans W.gtrans ((hm.mono hsub).then_heap (Nat.le_add_right _ _) fun b o hb e => ?_) hm'') hS'' g'' hkp''
      rw [hsb.2 b (fun h : b = S => hb (by rw [h]; exact List.mem_cons_self))]; exact e
theorem call_set_text {cs : List Nat} {u : Tok} {Q : Value → Shared → Prop} (hh : A.handled = none) (hfew : cs.length < 1000)
    (h : ∀ (h' : Heap) (tk : Nat) (L : List Nat), TSet w h' s.heap.objs.size (L.map sg) → LT cs cs.length L → (∀ b o, s.heap.get? b = some o → h'.get? b = some o) → Q (.ref s.heap.objs.size) { s with heap := h', toks := tk }) :
    wpAny (model P w) A (call (.type "set") [.str (tx cs) u]) Q E s := by
  obtain ⟨c, tl, hmro⟩ := F.called_set.mro
  have hmade := F.called_set.made
  have hsub := F.called_set.sub
  refine wpAny_call (codeAny_of_tree ?_)
  show wpAny _ _ (callAny (.type "set") _) _ _ _
  refine wpAny_pure ⟨Code.quiet_builtin _ (by decide +kernel), codeAny_builtin F.entry_type_call ?_⟩
  rw [Around.under_plain (weight_type_call_type "set" [.str (tx cs) u] []) rfl]
  have h1 := F.called_set.notType
  have h2 := F.called_set.canCreate
  have hct := F.typeCall_set_1 (.str (tx cs) u)
  repeat (any_goals (first | assumption | wp_step))
  refine codeAny_mono (code_set_led1 (.str (tx cs) u) (E := E) (Q₁ := fun obj s₁ => obj = .ref s.heap.objs.size ∧ s₁ = { s with heap := s.heap.push { cls := .type "set", dict := none, data := .set #[] 0 (.fresh 0 0 (!w.params.followText "set-order")) } }) ⟨rfl, rfl⟩) fun r s₁ hr => ?_
  cases r with
  | error e => exact hr
  | ok fl =>
    cases fl with
    | ret obj =>
      obtain ⟨rfl, rfl⟩ := hr
      have hS : (s.heap.push { cls := .type "set", dict := none, data := .set #[] 0 (.fresh 0 0 (!w.params.followText "set-order")) }).get? s.heap.objs.size = some { cls := .type "set", dict := none, data := .set #[] 0 (.fresh 0 0 (!w.params.followText "set-order")) } := Heap.get?_push_size _ rfl
      have hT : Shared.TypeIs { s with heap := s.heap.push { cls := .type "set", dict := none, data := .set #[] 0 (.fresh 0 0 (!w.params.followText "set-order")) } } (.ref s.heap.objs.size) "set" := ⟨_, hS, rfl⟩
      have hli := F.called_set.init.lookup
      have hbi := F.called_set.init.bind (.ref s.heap.objs.size)
      repeat (any_goals (first | assumption | wp_step))
      refine codeAny_mono (codeAny_call_builtin (R := wants (fun r s₂ => r = .none ∧ ∃ (h' : Heap) (tk : Nat) (L : List Nat), s₂ = { s with heap := h', toks := tk } ∧ TSet w h' s.heap.objs.size (L.map sg) ∧ LT cs cs.length L ∧
          (∀ b o, s.heap.get? b = some o → h'.get? b = some o)) E) F.called_set.init.plain F.entry_set_init (check_set_init_1 hT ?_)) fun r₂ s₂ hr₂ => ?_
      · have hsls := F.sub_str_set
        have hslf := F.sub_str_frozenset
        have hne : (Value.type "str" == Value.type "dict") = false := by decide
        unfold Builtin.«set.__init__» noKeywords Builtin.Frozenset.updateFrom
        generalize hPI : pyIter = PI
        wp_walk
        subst hPI
        refine wpAny_pyIter_str fun o St hW hSt => ?_
        refine wpAny_bind (wpAny_runValue ?_)
        have hh3 : A.in1.in1.in1.handled = none := by simp [hh]
        have hl0 : s.heap.objs.size ≠ (s.heap.push { cls := .type "set", dict := none, data := .set #[] 0 (.fresh 0 0 (!w.params.followText "set-order")) }).objs.size := by
          rw [Heap.size_push]
          exact Nat.ne_of_lt (Nat.lt_succ_self _)
        have none_of : ∀ b, s.heap.objs.size ≤ b → s.heap.get? b = none := fun b hb => by
          cases q : s.heap.get? b with
          | none => rfl
          | some o => exact absurd (Nat.lt_of_lt_of_le (Heap.lt_size q) hb) (Nat.lt_irrefl _)
        have esz : (tx cs).cps.size = cs.length := tx_size cs
        refine setx_loop ((hW _ hh3).toS) s.heap.objs.size (by
            rw [List.mem_singleton]
            exact hl0) cs esz hfew (fun i v hv => ?_) s.heap (none_of _ (Nat.le_refl _)) (fun b hb => none_of b (by
            rw [List.mem_singleton.mp hb, Heap.size_push]
            exact Nat.le_succ _)) ((tx cs).cps.size - 0) 0 _ (by omega) (Nat.zero_le _) hSt (fun b o e => Heap.get?_push_of_some _ (Heap.get?_push_of_some _ e)) ?hS0 ?hR
        case hS0 => exact ⟨[], (tset_fresh w s.heap).move fun o e => Heap.get?_push_of_some _ e, ⟨fun _ => Iff.rfl, List.nodup_nil, Nat.le_refl _⟩⟩
        case hR =>
          intro s' L hm hS' g' hkp
          obtain ⟨h', g2, d', tk', os'⟩ := s'
          have eg : g2 = s.gens := hm.gens
          have ed : d' = s.drawn := hm.drawn
          have eo : os' = s.os := hm.os
          subst eg; subst ed; subst eo
          show wpAny _ _ _ _ _ _
          refine wpAny_pure ?_
          show wpAny _ _ (ret Value.none) _ _ _
          rw [esz] at g'
          exact wpAny_pure ⟨rfl, h', tk', L, rfl, hS', g', hkp⟩
        · obtain ⟨c, u, h1, h2⟩ := hv
          exact ⟨c, u, by simpa using h1, h2⟩
      · cases r₂ with
        | error e => exact hr₂
        | ok fl₂ =>
          cases fl₂ with
          | ret r =>
            obtain ⟨rfl, h', tk, L, rfl, hS', g', hk'⟩ := hr₂
            repeat (any_goals (first | assumption | wp_step))
            exact h _ _ _ hS' g' hk'
          | _ => exact hr₂.elim
    | _ => exact hr.elim
end
section
variable {X : Cx}
/-- set(text) -/
def rSetX (w : World) : List V → Hp → VK → Prop := fun xs H Q => ∃ cs : List Nat, xs = [V.str (tx cs)] ∧ cs.length < 1000 ∧ ∀ a (L : List Nat), H a = none → LT cs cs.length L → Q (.ref a) (upd H a (TSetO w a (L.map sg)))
theorem cr_setX (hc : X.calm = true) : CallR X (.type "set") (rSetX X.w) := by
  intro pins s σ H xs us Q I r h
  obtain ⟨cs, rfl, hf, q⟩ := h
  obtain ⟨u, rfl, ru⟩ := Vals.one r
  obtain ⟨t, rfl⟩ := ru
  have hn : H s.heap.objs.size = none := I.hok.fresh (Nat.le_refl _)
  refine call_set_text (P := X.prog) (w := X.w) (I.ok.hd hc) hf fun h' tk L R g k => ?_
  exact ⟨.ref s.heap.objs.size, upd H s.heap.objs.size (TSetO X.w s.heap.objs.size (L.map sg)), I.laid (t' := tk) k (Nat.le_refl _) (tsetO_new R), rfl, q _ L hn g⟩
def rNotInT (K : PySem.W.Frag) : R2 := fun x y H Q => ∃ d ds, Dp K H x d ∧ Dp K H y (.tuple ds) ∧ SeqAt.shaped d = true ∧ SeqAt.shaped (.tuple ds) = true ∧ Q (.bl (!ds.any fun z => PyData.eqv z d)) H
theorem op_notInT (hu : X.A.units + 65 < cLine) : OpR X (compareOp .NotIn) (rNotInT X.K) := by
  intro pins s σ H x y v u Q I rx ry h
  obtain ⟨d, ds, hd, he, sd, se, q⟩ := h
  obtain ⟨as, r1⟩ := Dp.reads I d x v hd rx
  obtain ⟨bs, r2⟩ := Dp.reads I (.tuple ds) y u he ry
  exact SeqAt.notIn_tuple_reads r2 r1 (SeqAt.canLay_of_shaped se) (SeqAt.canLay_of_shaped sd) (room_in_shaped sd hu) ⟨.bl _, H, I, rfl, q⟩
end
end MO
set_option Elab.async false
set_option linter.all false
set_option maxRecDepth 100000
/-! the law: components -/
namespace MO
open PySem PySem.Spec PyProof.Rows L2 XS KM
abbrev sLComps : Stmt := top 61
section
variable {X : Cx}
theorem ix_tupK (K : PySem.W.Frag) (hK : X.K = K := by rfl) : IxR X (rIxT K) := by subst hK; exact ix_tup
theorem op_inK (K : PySem.W.Frag) (hK : X.K = K := by rfl) : OpR X (compareOp .In) (rIn K false) := by subst hK; exact op_in_seq
theorem op_notInK (K : PySem.W.Frag) (hK : X.K = K := by rfl) : OpR X (compareOp .NotIn) (rIn K true) := by subst hK; exact op_notIn_seq
theorem op_notInTK (K : PySem.W.Frag) (hu : X.A.units + 65 < cLine) (hK : X.K = K := by rfl) : OpR X (compareOp .NotIn) (rNotInT K) := by subst hK; exact op_notInT hu
end
theorem units65 {k : Nat} {A : Around} (r : Room k A) : A.units + 65 < cLine := by have := r.un; omega
/-- a list of one-sign texts -/
abbrev nms (xs : List Nat) : List V := (xs.map sg).map V.str
theorem nms_len (xs : List Nat) : (nms xs).length = xs.length := by rw [List.length_map, List.length_map]
theorem inV_nms (x : Nat) (xs : List Nat) : inV (.str (sg x)) (nms xs) = decide (x ∈ xs) := by
  unfold inV
  rw [Bool.eq_iff_iff, List.any_eq_true, decide_eq_true_eq]
  constructor
  · rintro ⟨v, hv, e⟩
    obtain ⟨z, hz, rfl⟩ := List.mem_map.mp hv
    obtain ⟨y, hy, rfl⟩ := List.mem_map.mp hz
    have e : (sg y == sg x) = true := e
    rw [← sg_inj (eq_of_beq e)]
    exact hy
  · intro h
    exact ⟨_, List.mem_map.mpr ⟨_, List.mem_map.mpr ⟨x, h, rfl⟩, rfl⟩, show (sg x == sg x) = true from beq_self_eq_true _⟩
theorem flat_nms (xs : List Nat) : (nms xs).all flatV = true := by
  rw [List.all_eq_true]
  intro v hv
  obtain ⟨z, _, rfl⟩ := List.mem_map.mp hv
  rfl
structure Grp where
  t : Addr
  a : Addr
  b : Addr
  xs : List Nat
  ys : List Nat
def Grp.vw (g : Grp) : Comp := (g.xs, g.ys)
structure GOk (H : Hp) (l : Addr) (g : Grp) : Prop where
  t : H g.t = some (.tup [.ref g.a, .ref g.b])
  a : H g.a = some (.lst (nms g.xs))
  b : H g.b = some (.lst (nms g.ys))
  na : g.a ≠ l
  nb : g.b ≠ l
theorem GOk.same {H H' : Hp} {l : Addr} {g : Grp} (h : GOk H l g) (s : Same H H') : GOk H' l g := ⟨s _ _ h.t, s _ _ h.a, s _ _ h.b, h.na, h.nb⟩
theorem GOk.upd {H : Hp} {l : Addr} {g : Grp} {xs : List V} {o : HO} (h : GOk H l g) (hl : H l = some (.lst xs)) : GOk (upd H l o) l g :=
  ⟨by rw [upd_ne (ne_of h.t hl (by intro z; cases z))]; exact h.t, by rw [upd_ne h.na]; exact h.a, by rw [upd_ne h.nb]; exact h.b, h.na, h.nb⟩
def gD (g : Grp) : PyData := .tuple [.list ((g.xs.map sg).map PyData.str), .list ((g.ys.map sg).map PyData.str)]
theorem dp_nms (K : PySem.W.Frag) (H : Hp) : ∀ xs : List Nat, DpAll K H (nms xs) ((xs.map sg).map PyData.str)
  | [] => .nil
  | x :: xs => .cons (.str _) (dp_nms K H xs)
theorem dp_grp {K : PySem.W.Frag} {H : Hp} {l : Addr} {g : Grp} (h : GOk H l g) : Dp K H (.ref g.t) (gD g) :=
  .tup (SqT.of h.t) (.cons (.lst (SqL.of h.a) (dp_nms K H _)) (.cons (.lst (SqL.of h.b) (dp_nms K H _)) .nil))
theorem eqv_nms : ∀ a b : List Nat, PyData.eqvAll ((a.map sg).map PyData.str) ((b.map sg).map PyData.str) = decide (a = b)
  | [], [] => rfl
  | [], _ :: _ => rfl
  | _ :: _, [] => rfl
  | x :: a, y :: b => by
    show (sg x == sg y && PyData.eqvAll ((a.map sg).map PyData.str) ((b.map sg).map PyData.str)) = _
    rw [eqv_nms a b, Bool.eq_iff_iff, Bool.and_eq_true, beq_iff_eq, decide_eq_true_eq, decide_eq_true_eq]
    exact ⟨fun ⟨h1, h2⟩ => by rw [sg_inj h1, h2], fun h => by injection h with h1 h2; exact ⟨by rw [h1], h2⟩⟩
theorem eqv_grp (g h : Grp) : PyData.eqv (gD g) (gD h) = decide (g.vw = h.vw) := by
  show (PyData.eqvAll ((g.xs.map sg).map PyData.str) ((h.xs.map sg).map PyData.str) && (PyData.eqvAll ((g.ys.map sg).map PyData.str) ((h.ys.map sg).map PyData.str) && true)) = _
  rw [eqv_nms, eqv_nms, Bool.and_true, Bool.eq_iff_iff, Bool.and_eq_true, decide_eq_true_eq, decide_eq_true_eq, decide_eq_true_eq]
  unfold Grp.vw
  exact ⟨fun ⟨h1, h2⟩ => by rw [h1, h2], fun h => by injection h with h1 h2; exact ⟨h1, h2⟩⟩
theorem ok_sg {x : Nat} (h : 97 ≤ x ∧ x ≤ 122) : ((sg x).cps.all fun c => decide (c < 0x110000)) = true := by
  simp
  omega
theorem lay_nms : ∀ {xs : List Nat}, Lows xs → PyData.canLayAll0 ((xs.map sg).map PyData.str) = true
  | [], _ => by simp [PyData.canLayAll0]
  | x :: xs, h => by
    have ih := lay_nms (xs := xs) fun y hy => h y (List.mem_cons_of_mem _ hy)
    have hx := h x List.mem_cons_self
    rw [List.map_cons, List.map_cons]
    simp only [PyData.canLayAll0, PyData.canLay0, ih, Bool.and_true]
    exact ok_sg hx
theorem deep_nms : ∀ xs : List Nat, PyData.depthAll ((xs.map sg).map PyData.str) ≤ 1
  | [] => by simp [PyData.depthAll]
  | x :: xs => by
    have ih := deep_nms xs
    rw [List.map_cons, List.map_cons]
    simp only [PyData.depthAll, PyData.depth]
    omega
theorem shaped_grp {g : Grp} (h1 : Lows g.xs) (h2 : Lows g.ys) : SeqAt.shaped (gD g) = true := by
  have a1 := lay_nms h1
  have a2 := lay_nms h2
  have b1 := deep_nms g.xs
  have b2 := deep_nms g.ys
  simp only [SeqAt.shaped, gD, PyData.canLay0, PyData.canLayAll0, PyData.depth, PyData.depthAll, a1, a2, Bool.and_true, Bool.true_and, decide_eq_true_eq]
  omega
theorem shaped_two {g h : Grp} (g1 : Lows g.xs) (g2 : Lows g.ys) (h1 : Lows h.xs) (h2 : Lows h.ys) : SeqAt.shaped (.tuple [gD g, gD h]) = true := by
  have a1 := lay_nms g1
  have a2 := lay_nms g2
  have a3 := lay_nms h1
  have a4 := lay_nms h2
  have b1 := deep_nms g.xs
  have b2 := deep_nms g.ys
  have b3 := deep_nms h.xs
  have b4 := deep_nms h.ys
  simp only [SeqAt.shaped, gD, PyData.canLay0, PyData.canLayAll0, PyData.depth, PyData.depthAll, a1, a2, a3, a4, Bool.and_true, Bool.true_and, decide_eq_true_eq]
  omega
/-- the groups in the list at l -/
structure GrpsAt (R : List Nat) (H : Hp) (l : Addr) (gs : List Grp) : Prop where
  ls : H l = some (.lst (gs.map fun g => V.ref g.t))
  ok : ∀ g ∈ gs, GOk H l g
  low : ∀ g ∈ gs, Lows g.xs ∧ Lows g.ys
  wt : wt (gs.map Grp.vw) ≤ 80
  len : gs.length ≤ 80
theorem GrpsAt.same {R : List Nat} {H H' : Hp} {l : Addr} {gs : List Grp} (h : GrpsAt R H l gs) (s : Same H H') : GrpsAt R H' l gs := ⟨s _ _ h.ls, fun g hg => (h.ok g hg).same s, h.low, h.wt, h.len⟩
section
variable {P : Program} {w : World} {K : PySem.W.Frag} {mg : Str → Option Value} {base : Heap}
def spLComps : Sp := fun vs H Q _ => ∃ R : List Nat, vs = [.str (tx R)] ∧ Lows R ∧ R.length ≤ 40 ∧ ∀ H' l gs, Same H H' → GrpsAt R H' l gs → GInv R (gs.map Grp.vw) → Q (.ref l) H'
abbrev NLC : List Str := ["_law_pattern", "_law_groups", "_law_name", "_law_one", "_law_other", "_law_first", "_law_second", "_law_group"]
theorem scLComps : FnScope NLC ["_law_pattern"] (defScope sLComps) := ⟨rfl, rfl, rfl, by decide +kernel, rfl, by decide +kernel, by decide +kernel⟩
theorem d_law_components (p : Pl K mg "_law_components" sLComps) (T : Bt mg) : Dn P w K mg base 1 "_law_components" ["_law_pattern"] spLComps := by
  refine p.dn scLComps (fun _ _ _ _ _ _ us hl => match us, hl with | [_], _ => rfl) (fun vs H Q E h => ?_) (fun f cdv A outer s H vs Q E hr h => ?_)
  · obtain ⟨R, rfl, _⟩ := h
    rfl
  · obtain ⟨R, rfl, low, h40, k⟩ := h
    refine ⟨_, pss_cons (ps_set (i := 1) scLComps.nd rfl (.inl rfl) (pe_lst pa_nil))
      (pss_cons (ps_for PassesOwn.never rfl (pi_list (pe_callB (cr_sortT rfl hr.units) (by rfl) T.sorted (by decide +kernel) (pa_cons (pe_callTy (cr_setX rfl) (by rfl) T.set (by decide +kernel) (pa_cons (pv 0) pa_nil)) pa_nil))) (pg_name (i := 2) scLComps.nd rfl (Or.inl rfl))
        (pss_one (ps_expr (pe_bm PySem.F.plainAttrs_list PySem.F.slot_list_extend PySem.F.type_list_extend mt_extend (pv 1) (pa_cons (pe_lst (pa_cons (pe_tup (pa_cons (pe_lst (pa_cons (pv 2) pa_nil)) (pa_cons (pe_lst pa_nil) pa_nil))) (pa_cons (pe_tup (pa_cons (pe_lst pa_nil) (pa_cons (pe_lst (pa_cons (pv 2) pa_nil)) pa_nil))) pa_nil))) pa_nil)))))
      (pss_cons (ps_for PassesOwn.never rfl (pi_zipS (by rfl) T.zip (pa_cons (pv 0) (pa_cons (pe_slice sl_str (pv 0) (po_some pe_int) po_none) pa_nil)))
          (pg_tup rfl (pgs_cons (pg_name (i := 3) scLComps.nd rfl (Or.inr rfl)) (pgs_cons (pg_name (i := 4) scLComps.nd rfl (Or.inr rfl)) pgs_nil)))
        (pss_cons (ps_set (i := 5) scLComps.nd rfl (.inr rfl) (pe_ix ix_list (pe_lc (own := [("_law_group", 7)]) (g := gName 7) rfl scLComps.nd (pi_list (pv 1)) (blkOk_by (N := NLC) (sc := defScope sLComps) (by decide +kernel))
            (fun _ _ _ _ _ => pg_name (i := 7) scLComps.nd rfl (Or.inl rfl)) (fun _ _ _ _ _ => pts_one (pt_cmpR (op_inK K) (pv 3) (pe_ix (ix_tupK K) (pv 7) pe_int (fun _ _ => rfl)) (by rfl)))
            (fun _ _ _ _ _ => pv 7)) pe_int (fun _ _ => rfl)))
        (pss_cons (ps_set (i := 6) scLComps.nd rfl (.inr rfl) (pe_ix ix_list (pe_lc (own := [("_law_group", 7)]) (g := gName 7) rfl scLComps.nd (pi_list (pv 1)) (blkOk_by (N := NLC) (sc := defScope sLComps) (by decide +kernel))
            (fun _ _ _ _ _ => pg_name (i := 7) scLComps.nd rfl (Or.inl rfl)) (fun _ _ _ _ _ => pts_one (pt_cmpR (op_inK K) (pv 4) (pe_ix (ix_tupK K) (pv 7) pe_int (fun _ _ => rfl)) (by rfl)))
            (fun _ _ _ _ _ => pv 7)) pe_int (fun _ _ => rfl)))
        (pss_one (ps_if (pt_cmpR (op_neD hr.units) (pv 5) (pv 6) (nomark _))
          (pss_cons (ps_setLc (i := 1) (own := [("_law_group", 7)]) (g := gName 7) rfl scLComps.nd rfl rfl (sw_true rfl rfl rfl (by decide +kernel)) (pi_list (pv 1)) (blkOk_by (N := NLC) (sc := defScope sLComps) (by decide +kernel))
            (fun _ _ _ _ _ => pg_name (i := 7) scLComps.nd rfl (Or.inl rfl)) (fun _ _ _ _ _ => pts_one (pt_cmpR (op_notInTK K (units65 hr)) (pv 7) (pe_tup (pa_cons (pv 5) (pa_cons (pv 6) pa_nil))) (by rfl)))
            (fun _ _ _ _ _ => pv 7))
          (pss_one (ps_expr (pe_bm PySem.F.plainAttrs_list PySem.F.slot_list_append PySem.F.type_list_append mt_append (pv 1) (pa_cons (pe_tup
            (pa_cons (pe_op op_cat (pe_ix ix_tup (pv 5) pe_int (fun _ _ => rfl)) (pe_ix ix_tup (pv 6) pe_int (fun _ _ => rfl)))
            (pa_cons (pe_op op_cat (pe_ix ix_tup (pv 5) pe_int (fun _ _ => rfl)) (pe_ix ix_tup (pv 6) pe_int (fun _ _ => rfl))) pa_nil))) pa_nil))))) pss_nil)))))
      (pss_one (ps_ret (pv 1))))), ?_⟩
    refine ⟨(by show 0 ≤ sizeLine; decide), fun l hl => ?_⟩
    have s0 : Same H (upd H l (.lst [])) := same_upd (Same.refl _) hl
    have l0 : (upd H l (.lst [])) l = some (.lst []) := upd_same
    generalize upd H l (.lst []) = H0 at s0 l0 ⊢
    refine ⟨_, rfl, R, rfl, by omega, fun S L hS lt => ?_⟩
    have ll := lt.len
    have s1 := same_upd (o := TSetO w S (L.map sg)) (Same.refl H0) hS
    refine ⟨S, L.map sg, rfl, upd_same, by rw [List.length_map]; omega, fun M q pm pw hq => ?_⟩
    obtain ⟨E1, rfl, pE, aE⟩ := sorted_form pm pw lt.nd
    have s2 := same_upd (o := .lst ((E1.map sg).map V.str)) (Same.refl _) hq
    have q2 := upd_same (H := upd H0 S (TSetO w S (L.map sg))) (a := q) (o := .lst ((E1.map sg).map V.str))
    have nql : q ≠ l := fun z => by
      have hq' : (upd H0 S (TSetO w S (L.map sg))) q = none := hq
      rw [z, s1 _ _ l0] at hq'
      cases hq'
    generalize hh : upd (upd H0 S _) q _ = H1
    have s02 : Same H0 H1 := by rw [← hh]; exact s1.trans s2
    have q2 : H1 q = some (.lst ((E1.map sg).map V.str)) := by rw [← hh]; exact q2
    have l1 := s02 _ _ l0
    have memE : ∀ x, x ∈ E1 ↔ x ∈ R := fun x => by
      have := lt.mem x
      rw [List.take_length] at this
      rw [pE.mem_iff, this]
    have lenE : E1.length ≤ 40 := by rw [pE.length_eq]; omega
    have lenT : ∀ i, (E1.take i).length ≤ 40 := fun i => by rw [List.length_take]; omega
    refine ⟨q, rfl, ⟨_, SqL.of q2⟩, ?_⟩
    refine for_list (K := K) (a := q) (xs := nms E1) (fun i σ H2 => ∃ v2 gs, σ = [some (.str (tx R)), some (.ref l), v2, none, none, none, none, none] ∧ Same H H2 ∧ H2 q = some (.lst (nms E1)) ∧ GrpsAt R H2 l gs ∧ gs.map Grp.vw = grps (E1.take i))
      ⟨_, [], rfl, s0.trans s02, q2, ⟨l1, fun _ z => (by cases z), fun _ z => (by cases z), Nat.zero_le _, Nat.zero_le _⟩, rfl⟩ (fun i σ H2 _ ⟨_, _, _, _, z, _⟩ => SqL.of z) ?_ ?_
    · rintro i v σ H2 hi ⟨v2, gs, rfl, s2, hq2, G, eg⟩
      obtain ⟨sx, hsx, rfl⟩ := map_at hi
      obtain ⟨x, hx, rfl⟩ := map_at hsx
      have hxR := (memE x).mp (List.mem_of_getElem? hx)
      have lx : Lows [x] := fun y hy => by rw [List.mem_singleton.mp hy]; exact low x hxR
      have l0' : Lows [] := fun y hy => by cases hy
      have et : E1.take (i + 1) = E1.take i ++ [x] := by rw [List.take_add_one, hx]; rfl
      have fr : ∀ {H' : Hp} {c : Addr} {o : HO}, H' l = some o → H' c = none → c ≠ l := fun h1 h2 z => by rw [z, h1] at h2; cases h2
      refine ⟨_, rfl, .inl ⟨rfl, _, SqL.of G.ls⟩, ?_⟩
      refine ⟨_, rfl, (by show 1 ≤ sizeLine; decide), fun a1 ha1 => ?_⟩
      have n1 := fr G.ls ha1
      have t1 := same_upd (o := .lst [V.str (sg x)]) (Same.refl H2) ha1
      have A1 : (upd H2 a1 (.lst [V.str (sg x)])) a1 = some (.lst (nms [x])) := upd_same
      generalize upd H2 a1 (.lst [V.str (sg x)]) = H3 at t1 A1 ⊢
      refine ⟨(by show 0 ≤ sizeLine; decide), fun b1 hb1 => ?_⟩
      have n2 := fr (t1 _ _ G.ls) hb1
      have t2 := same_upd (o := .lst []) (Same.refl H3) hb1
      have B1 : (upd H3 b1 (.lst [])) b1 = some (.lst (nms [])) := upd_same
      have A1 := t2 _ _ A1
      have t2 := t1.trans t2
      generalize upd H3 b1 (.lst []) = H4 at t2 A1 B1 ⊢
      refine ⟨(by show 2 ≤ sizeLine; decide), fun c1 hc1 => ?_⟩
      have t3 := same_upd (o := .tup [.ref a1, .ref b1]) (Same.refl H4) hc1
      have C1 : (upd H4 c1 (.tup [.ref a1, .ref b1])) c1 = some (.tup [.ref a1, .ref b1]) := upd_same
      have A1 := t3 _ _ A1
      have B1 := t3 _ _ B1
      have t3 := t2.trans t3
      generalize upd H4 c1 (.tup [.ref a1, .ref b1]) = H5 at t3 A1 B1 C1 ⊢
      have g1 : GOk H5 l ⟨c1, a1, b1, [x], []⟩ := ⟨C1, A1, B1, n1, n2⟩
      refine ⟨(by show 0 ≤ sizeLine; decide), fun a2 ha2 => ?_⟩
      have n3 := fr (t3 _ _ G.ls) ha2
      have t4 := same_upd (o := .lst []) (Same.refl H5) ha2
      have A2 : (upd H5 a2 (.lst [])) a2 = some (.lst (nms [])) := upd_same
      have g1 := g1.same t4
      have t4 := t3.trans t4
      generalize upd H5 a2 (.lst []) = H6 at t4 A2 g1 ⊢
      refine ⟨_, rfl, (by show 1 ≤ sizeLine; decide), fun b2 hb2 => ?_⟩
      have n4 := fr (t4 _ _ G.ls) hb2
      have t5 := same_upd (o := .lst [V.str (sg x)]) (Same.refl H6) hb2
      have B2 : (upd H6 b2 (.lst [V.str (sg x)])) b2 = some (.lst (nms [x])) := upd_same
      have A2 := t5 _ _ A2
      have g1 := g1.same t5
      have t5 := t4.trans t5
      generalize upd H6 b2 (.lst [V.str (sg x)]) = H7 at t5 A2 B2 g1 ⊢
      refine ⟨(by show 2 ≤ sizeLine; decide), fun c2 hc2 => ?_⟩
      have t6 := same_upd (o := .tup [.ref a2, .ref b2]) (Same.refl H7) hc2
      have C2 : (upd H7 c2 (.tup [.ref a2, .ref b2])) c2 = some (.tup [.ref a2, .ref b2]) := upd_same
      have g2 : GOk (upd H7 c2 (.tup [.ref a2, .ref b2])) l ⟨c2, a2, b2, [], [x]⟩ := ⟨C2, t6 _ _ A2, t6 _ _ B2, n3, n4⟩
      have g1 := g1.same t6
      have t6 := t5.trans t6
      generalize upd H7 c2 (.tup [.ref a2, .ref b2]) = H8 at t6 g1 g2 ⊢
      refine ⟨(by show 2 ≤ sizeLine; decide), fun d hd => ?_⟩
      have t7 := same_upd (o := .lst [.ref c1, .ref c2]) (Same.refl H8) hd
      have dd : (upd H8 d (.lst [.ref c1, .ref c2])) d = some (.lst [.ref c1, .ref c2]) := upd_same
      have g1 := g1.same t7
      have g2 := g2.same t7
      have t7 := t6.trans t7
      generalize upd H8 d (.lst [.ref c1, .ref c2]) = H9 at t7 g1 g2 dd ⊢
      have L9 := t7 _ _ G.ls
      refine ⟨l, d, _, _, rfl, rfl, L9, dd, by rw [List.length_map]; show _ + 2 ≤ sizeLine; exact Nat.le_trans (Nat.add_le_add_right G.len 2) (by decide), ?_⟩
      have ev : (gs ++ [Grp.mk c1 a1 b1 [x] [], Grp.mk c2 a2 b2 [] [x]]).map Grp.vw = grps (E1.take (i + 1)) := by
        rw [List.map_append, eg, et, grps_snoc]
        rfl
      have sz := grps_size (E1.take (i + 1))
      have lt2 := lenT (i + 1)
      refine ⟨_, gs ++ [⟨c1, a1, b1, [x], []⟩, ⟨c2, a2, b2, [], [x]⟩], rfl, fun b o e => ?_, ?_, ⟨?_, fun g hg => ?_, fun g hg => ?_, ?_, ?_⟩, ev⟩
      · rw [upd_ne (ne_of_none e hl)]
        exact t7 _ _ (s2 _ _ e)
      · rw [upd_ne nql]
        exact t7 _ _ hq2
      · rw [upd_same, List.map_append]
        rfl
      · rcases List.mem_append.mp hg with z | z
        · exact ((G.ok g z).same t7).upd L9
        · rcases List.mem_cons.mp z with z | z
          · rw [z]; exact g1.upd L9
          · rw [List.mem_singleton.mp z]; exact g2.upd L9
      · rcases List.mem_append.mp hg with z | z
        · exact G.low g z
        · rcases List.mem_cons.mp z with z | z
          · rw [z]; exact ⟨lx, l0'⟩
          · rw [List.mem_singleton.mp z]; exact ⟨l0', lx⟩
      · rw [ev]
        omega
      · have e3 := congrArg List.length ev
        rw [List.length_map] at e3
        omega
    · rintro σ H2 ⟨v2, gs, rfl, s2, hq2, G, eg⟩
      rw [nms_len, List.take_length] at eg
      have gi : GInv R (gs.map Grp.vw) := by rw [eg]; exact GInv.start memE
      have lenR : (tx R).length ≤ sizeLine := tx_line (by omega)
      refine ⟨_, rfl, _, rfl, 1, rfl, tx R, rfl, lenR, tx R, cutS (tx R) (some 1) none, rfl, ?_⟩
      rw [cutS_tail]
      have wk : ∀ (l : Addr) (gs : List Grp), Walk (Itl K l) gs.length (fun H => SqL K H l (gs.map fun g => V.ref g.t)) (YAt (gs.map fun g => V.ref g.t)) := fun l gs => by
        have w2 := walk_list (K := K) (a := l) (xs := gs.map fun g => V.ref g.t)
        rw [List.length_map] at w2
        exact w2
      refine for_it walk_pairs (fun j σ H4 => ∃ l v2 v3 v4 v5 v6 gs, σ = [some (.str (tx R)), some (.ref l), v2, v3, v4, v5, v6, none] ∧ Same H H4 ∧ H l = none ∧ GrpsAt R H4 l gs ∧ GInv R (gs.map Grp.vw))
        ⟨l, _, _, _, _, _, gs, rfl, s2, hl, G, gi⟩ (fun _ _ _ _ _ => trivial) ?_ ?_
      · rintro j v σ H4 H5 hj ⟨l, v2, v3, v4, v5, v6, gs, rfl, s4, fl, G, gi⟩ ⟨T1, rfl, hT, rfl⟩
        rw [tx_size, tx_size, List.length_drop] at hj
        obtain ⟨x, hx⟩ : ∃ x, R[j]? = some x := ⟨R[j]'(by omega), List.getElem?_eq_getElem _⟩
        obtain ⟨y, hy⟩ : ∃ y, R[j + 1]? = some y := ⟨R[j + 1]'(by omega), List.getElem?_eq_getElem _⟩
        have hy2 : (R.drop 1)[j]? = some y := by rw [List.getElem?_drop, Nat.add_comm]; exact hy
        rw [sgv_tx hx, sgv_tx hy2]
        have adj := adj_at hx hy
        have s5 : Same H4 (upd H4 T1 (.tup [.str (sg x), .str (sg y)])) := same_upd (Same.refl _) hT
        refine ⟨T1, _, rfl, SqT.of upd_same, rfl, _, _, rfl, _, _, rfl, rfl, ?_⟩
        have G := G.same s5
        have s5 := s4.trans s5
        generalize upd H4 T1 (.tup [.str (sg x), .str (sg y)]) = H5 at G s5 ⊢
        refine ⟨_, rfl, l, rfl, ⟨_, SqL.of G.ls⟩, fun D1 hD1 => lc_f gs (fun g => decide (x ∈ g.xs)) (fun g => V.ref g.t) (wk l gs) hD1 (small1000 (by have := G.len; omega)) (fun H6 s6 => SqL.of (s6 _ _ G.ls)) ?_ ?_⟩
        · rintro i g u H6 H7 hg s6 ⟨rfl, hu⟩ N1 N0 n1 n0
          rw [List.getElem?_map, hg] at hu
          cases hu
          have ok := (G.ok g (List.mem_of_getElem? hg)).same s6
          refine ⟨rfl, _, rfl, _, rfl, g.t, _, 0, _, rfl, rfl, SqT.of ok.t, atI_nat (j := 0) rfl, g.a, nms g.xs, rfl, .inl (SqL.of ok.a), rfl, flat_nms _, _, rfl, ?_⟩
          refine ite2 (fun e => ?_) (fun e => ?_)
          · have e : inV (.str (sg x)) (nms g.xs) = true := e
            rw [inV_nms] at e
            exact ⟨_, rfl, n1 e _ (Same.refl _)⟩
          · have e : ¬ inV (.str (sg x)) (nms g.xs) = true := e
            rw [inV_nms] at e
            exact n0 (by simpa using e) _ (Same.refl _)
        intro H6 s6 hd
        obtain ⟨g1, m1, x1, e1⟩ : ∃ g1 ∈ gs, x ∈ g1.xs ∧ ((gs.filter fun g => decide (x ∈ g.xs)).map fun g => V.ref g.t)[0]? = some (.ref g1.t) := by
          obtain ⟨c, hc, hxc⟩ := gi.lft x adj.left
          obtain ⟨g, hg, rfl⟩ := List.mem_map.mp hc
          obtain ⟨g1, r, e⟩ := List.exists_cons_of_ne_nil (List.ne_nil_of_mem (List.mem_filter.mpr ⟨hg, decide_eq_true hxc⟩ : g ∈ gs.filter fun g => decide (x ∈ g.xs)))
          have q := List.mem_filter.mp (by rw [e]; exact List.mem_cons_self : g1 ∈ gs.filter fun g => decide (x ∈ g.xs))
          exact ⟨g1, q.1, of_decide_eq_true q.2, by rw [e]; rfl⟩
        refine ⟨D1, _, 0, _, rfl, rfl, SqL.of hd, atI_nat (j := 0) e1, ?_⟩
        have G := G.same s6
        have s5 := s5.trans s6
        refine ⟨_, rfl, l, rfl, ⟨_, SqL.of G.ls⟩, fun D2 hD2 => lc_f gs (fun g => decide (y ∈ g.ys)) (fun g => V.ref g.t) (wk l gs) hD2 (small1000 (by have := G.len; omega)) (fun H8 s8 => SqL.of (s8 _ _ G.ls)) ?_ ?_⟩
        · rintro i g u H8 H9 hg s8 ⟨rfl, hu⟩ N1 N0 n1 n0
          rw [List.getElem?_map, hg] at hu
          cases hu
          have ok := (G.ok g (List.mem_of_getElem? hg)).same s8
          refine ⟨rfl, _, rfl, _, rfl, g.t, _, 1, _, rfl, rfl, SqT.of ok.t, atI_nat (j := 1) rfl, g.b, nms g.ys, rfl, .inl (SqL.of ok.b), rfl, flat_nms _, _, rfl, ?_⟩
          refine ite2 (fun e => ?_) (fun e => ?_)
          · have e : inV (.str (sg y)) (nms g.ys) = true := e
            rw [inV_nms] at e
            exact ⟨_, rfl, n1 e _ (Same.refl _)⟩
          · have e : ¬ inV (.str (sg y)) (nms g.ys) = true := e
            rw [inV_nms] at e
            exact n0 (by simpa using e) _ (Same.refl _)
        intro H8 s8 hd
        obtain ⟨g2, m2, y2, e2⟩ : ∃ g2 ∈ gs, y ∈ g2.ys ∧ ((gs.filter fun g => decide (y ∈ g.ys)).map fun g => V.ref g.t)[0]? = some (.ref g2.t) := by
          obtain ⟨c, hc, hxc⟩ := gi.rgt y adj.right
          obtain ⟨g, hg, rfl⟩ := List.mem_map.mp hc
          obtain ⟨g1, r, e⟩ := List.exists_cons_of_ne_nil (List.ne_nil_of_mem (List.mem_filter.mpr ⟨hg, decide_eq_true hxc⟩ : g ∈ gs.filter fun g => decide (y ∈ g.ys)))
          have q := List.mem_filter.mp (by rw [e]; exact List.mem_cons_self : g1 ∈ gs.filter fun g => decide (y ∈ g.ys))
          exact ⟨g1, q.1, of_decide_eq_true q.2, by rw [e]; rfl⟩
        refine ⟨D2, _, 0, _, rfl, rfl, SqL.of hd, atI_nat (j := 0) e2, ?_⟩
        have G := G.same s8
        have s5 := s5.trans s8
        have L1 := G.low g1 m1
        have L2 := G.low g2 m2
        have O1 := G.ok g1 m1
        have O2 := G.ok g2 m2
        refine ⟨_, rfl, _, rfl, gD g1, gD g2, dp_grp O1, dp_grp O2, shaped_grp L1.1 L1.2, shaped_grp L2.1 L2.2, _, rfl, ?_⟩
        rw [eqv_grp]
        by_cases ne : g1.vw = g2.vw
        · rw [decide_eq_true ne]
          exact iteF ⟨l, _, _, _, _, _, gs, rfl, s5, fl, G, gi⟩
        · rw [decide_eq_false ne]
          refine iteT ?_
          refine ⟨_, rfl, l, rfl, ⟨_, SqL.of G.ls⟩, fun D3 hD3 => lc_f gs (fun g => decide (¬ (g.vw = g1.vw ∨ g.vw = g2.vw))) (fun g => V.ref g.t) (wk l gs) hD3 (small1000 (by have := G.len; omega)) (fun H6 s6 => SqL.of (s6 _ _ G.ls)) ?_ ?_⟩
          · rintro i g u H10 H11 hg s10 ⟨rfl, hu⟩ N1 N0 n1 n0
            rw [List.getElem?_map, hg] at hu
            cases hu
            have mg := List.mem_of_getElem? hg
            have ok := (G.ok g mg).same s10
            have Lg := G.low g mg
            refine ⟨rfl, _, rfl, _, rfl, _, rfl, (by show 2 ≤ sizeLine; decide), fun t ht => ?_⟩
            have s11 := same_upd (o := .tup [.ref g1.t, .ref g2.t]) (Same.refl H11) ht
            refine ⟨gD g, [gD g1, gD g2], dp_grp (ok.same s11), .tup (SqT.of upd_same) (.cons (dp_grp ((O1.same s10).same s11)) (.cons (dp_grp ((O2.same s10).same s11)) .nil)), shaped_grp Lg.1 Lg.2, shaped_two L1.1 L1.2 L2.1 L2.2, _, rfl, ?_⟩
            have ea : (!([gD g1, gD g2].any fun z => PyData.eqv z (gD g))) = decide (¬ (g.vw = g1.vw ∨ g.vw = g2.vw)) := by
              show (!(PyData.eqv (gD g1) (gD g) || (PyData.eqv (gD g2) (gD g) || false))) = _
              rw [eqv_grp, eqv_grp, Bool.or_false, Bool.eq_iff_iff]
              simp only [Bool.not_eq_true', Bool.or_eq_false_iff, decide_eq_false_iff_not, decide_eq_true_eq, not_or]
              exact ⟨fun ⟨z1, z2⟩ => ⟨fun e => z1 e.symm, fun e => z2 e.symm⟩, fun ⟨z1, z2⟩ => ⟨fun e => z1 e.symm, fun e => z2 e.symm⟩⟩
            rw [ea]
            exact ite2 (fun e => ⟨_, rfl, n1 e _ s11⟩) (fun e => n0 (by simpa using e) _ s11)
          · intro H10 s10 hd3
            have fl3 := s5.free hD3
            have G10 := G.same s10
            have P1 := O1.same s10
            have P2 := O2.same s10
            have b1 := wt_mem (List.mem_map.mpr ⟨g1, m1, rfl⟩ : g1.vw ∈ gs.map Grp.vw)
            have b2 := wt_mem (List.mem_map.mpr ⟨g2, m2, rfl⟩ : g2.vw ∈ gs.map Grp.vw)
            have b1 : g1.xs.length + g1.ys.length ≤ _ := b1
            have b2 : g2.xs.length + g2.ys.length ≤ _ := b2
            have bw := G.wt
            have fr : ∀ {H' : Hp} {c : Addr} {o : HO}, H' D3 = some o → H' c = none → c ≠ D3 := fun h1 h2 z => by rw [z, h1] at h2; cases h2
            refine ⟨_, rfl, .inl ⟨rfl, _, SqL.of hd3⟩, ?_⟩
            refine ⟨_, rfl, g1.t, _, 0, _, rfl, rfl, SqT.of P1.t, atI_nat (j := 0) rfl, _, rfl, g2.t, _, 0, _, rfl, rfl, SqT.of P2.t, atI_nat (j := 0) rfl, g1.a, g2.a, _, _, rfl, rfl, P1.a, P2.a, by rw [nms_len, nms_len, sizeLine_eq]; omega, fun ca hca => ?_⟩
            have na := fr hd3 hca
            have s11 := same_upd (o := .lst (nms g1.xs ++ nms g2.xs)) (Same.refl H10) hca
            have CA : (upd H10 ca (.lst (nms g1.xs ++ nms g2.xs))) ca = some (.lst (nms g1.xs ++ nms g2.xs)) := upd_same
            generalize upd H10 ca (.lst (nms g1.xs ++ nms g2.xs)) = H11 at s11 CA ⊢
            have P1 := P1.same s11
            have P2 := P2.same s11
            refine ⟨_, rfl, g1.t, _, 1, _, rfl, rfl, SqT.of P1.t, atI_nat (j := 1) rfl, _, rfl, g2.t, _, 1, _, rfl, rfl, SqT.of P2.t, atI_nat (j := 1) rfl, g1.b, g2.b, _, _, rfl, rfl, P1.b, P2.b, by rw [nms_len, nms_len, sizeLine_eq]; omega, fun cb hcb => ?_⟩
            have nb := fr (s11 _ _ hd3) hcb
            have s12 := same_upd (o := .lst (nms g1.ys ++ nms g2.ys)) (Same.refl H11) hcb
            have CB : (upd H11 cb (.lst (nms g1.ys ++ nms g2.ys))) cb = some (.lst (nms g1.ys ++ nms g2.ys)) := upd_same
            have CA := s12 _ _ CA
            have s12 := s11.trans s12
            generalize upd H11 cb (.lst (nms g1.ys ++ nms g2.ys)) = H12 at s12 CA CB ⊢
            refine ⟨(by show 2 ≤ sizeLine; decide), fun t ht => ?_⟩
            have s13 := same_upd (o := .tup [.ref ca, .ref cb]) (Same.refl H12) ht
            have CT : (upd H12 t (.tup [.ref ca, .ref cb])) t = some (.tup [.ref ca, .ref cb]) := upd_same
            have CA := s13 _ _ CA
            have CB := s13 _ _ CB
            have s13 := s12.trans s13
            generalize upd H12 t (.tup [.ref ca, .ref cb]) = H13 at s13 CA CB CT ⊢
            have hd13 := s13 _ _ hd3
            have fl := List.length_filter_le (fun g => decide (¬ (g.vw = g1.vw ∨ g.vw = g2.vw))) gs
            have gl := G.len
            refine ⟨D3, _, _, rfl, rfl, hd13, by rw [List.length_map]; exact small1000 (by omega), ?_⟩
            have ev : (gs.filter (fun g => decide (¬ (g.vw = g1.vw ∨ g.vw = g2.vw))) ++ [Grp.mk t ca cb (g1.xs ++ g2.xs) (g1.ys ++ g2.ys)]).map Grp.vw = rest2 (gs.map Grp.vw) g1.vw g2.vw ++ [KM.merge g1.vw g2.vw] := by
              unfold rest2
              rw [List.map_append, List.filter_map]
              rfl
            have msz := merge_size (List.mem_map.mpr ⟨g1, m1, rfl⟩ : g1.vw ∈ gs.map Grp.vw) (List.mem_map.mpr ⟨g2, m2, rfl⟩ : g2.vw ∈ gs.map Grp.vw) ne
            refine ⟨D3, _, _, _, _, _, gs.filter (fun g => decide (¬ (g.vw = g1.vw ∨ g.vw = g2.vw))) ++ [Grp.mk t ca cb (g1.xs ++ g2.xs) (g1.ys ++ g2.ys)], rfl, fun b o e => ?_, fl3, ⟨?_, fun g hg => ?_, fun g hg => ?_, ?_, ?_⟩, ?_⟩
            · rw [upd_ne (ne_of_none e fl3)]
              exact s13 _ _ (s10 _ _ (s5 _ _ e))
            · rw [upd_same, List.map_append]
              rfl
            · rcases List.mem_append.mp hg with z | z
              · have o := G.ok g (List.mem_filter.mp z).1
                have n1 : g.a ≠ D3 := fun z => by have := o.a; rw [z, hD3] at this; cases this
                have n2 : g.b ≠ D3 := fun z => by have := o.b; rw [z, hD3] at this; cases this
                have o2 := (o.same s10).same s13
                exact GOk.upd ⟨o2.t, o2.a, o2.b, n1, n2⟩ hd13
              · rw [List.mem_singleton.mp z]
                refine GOk.upd ⟨CT, ?_, ?_, na, nb⟩ hd13
                · rw [CA]
                  show _ = some (HO.lst (((g1.xs ++ g2.xs).map sg).map V.str))
                  rw [List.map_append, List.map_append]
                · rw [CB]
                  show _ = some (HO.lst (((g1.ys ++ g2.ys).map sg).map V.str))
                  rw [List.map_append, List.map_append]
            · rcases List.mem_append.mp hg with z | z
              · exact G.low g (List.mem_filter.mp z).1
              · rw [List.mem_singleton.mp z]
                exact ⟨fun c hc => (List.mem_append.mp hc).elim (L1.1 c) (L2.1 c), fun c hc => (List.mem_append.mp hc).elim (L1.2 c) (L2.2 c)⟩
            · rw [ev]
              exact Nat.le_trans msz.1 bw
            · have e3 := congrArg List.length ev
              rw [List.length_map] at e3
              have m2 := msz.2
              rw [List.length_map] at m2
              omega
            · rw [ev]
              exact gi.merge adj (List.mem_map.mpr ⟨g1, m1, rfl⟩) (List.mem_map.mpr ⟨g2, m2, rfl⟩) x1 y2
      · rintro σ H4 ⟨l, v2, v3, v4, v5, v6, gs, rfl, s4, fl, G, gi⟩
        exact ⟨_, rfl, k H4 l gs s4 G gi⟩
end
end MO
set_option Elab.async false
set_option linter.all false
set_option maxRecDepth 100000
/-! the law: integers, without, free sets, chains -/
namespace MO
open PySem PySem.Spec PyProof.Rows L2 XS KM
abbrev sLFree : Stmt := top 62
abbrev sLWithout : Stmt := top 63
abbrev sLChain : Stmt := top 64
abbrev sLInt : Stmt := top 65
section
variable {X : Cx}
/-- list(text) -/
def rListX : List V → Hp → VK → Prop := fun xs H Q => ∃ cs : List Nat, xs = [V.str (tx cs)] ∧ cs.length ≤ 1000 ∧ ∀ l, H l = none → Q (.ref l) (upd H l (.lst (nms cs)))
theorem call_listX (hc : X.calm = true) : CallR X (.type "list") rListX := by
  intro pins s σ H xs us Q I r h
  obtain ⟨cs, rfl, hl, q⟩ := h
  obtain ⟨u, rfl, t, rfl⟩ := Vals.one r
  have esz : (tx cs).cps.size = cs.length := tx_size cs
  refine PySem.call_list_str (I.ok.hd hc) (tx cs) t (fun h' tk acc' c' hkeep hS hacc => ?_) (by rw [esz, sizeLine_eq]; omega)
  refine ⟨.ref s.heap.objs.size, upd H s.heap.objs.size (.lst (nms cs)), I.laid hkeep (Nat.le_refl _) (show ObjOk X.prog X.w _ _ _ (.lst (nms cs)) from ⟨?_, acc'.toList, c', ?_, ?_⟩), rfl, q _ (I.hok.fresh (Nat.le_refl _))⟩
  · rw [nms_len, sizeLine_eq]; omega
  · have el : acc'.toList.length = acc'.size := by simp
    refine vals_of_at (by rw [nms_len, el, hacc.1, esz]) fun j x w h1 h2 => ?_
    obtain ⟨c, u, hc1, rfl⟩ := hacc.2 j w (by rw [← Array.getElem?_toList]; exact h2)
    have hc2 : cs[j]? = some c := by simpa using hc1
    rw [List.getElem?_map, List.getElem?_map, hc2] at h1
    cases h1
    exact ⟨u, rfl⟩
  · simpa using hS
end
def sD (xs : List Nat) : PyData := .list ((xs.map sg).map PyData.str)
theorem dp_sD {K : PySem.W.Frag} {H : Hp} {a : Addr} {xs : List Nat} (h : H a = some (.lst (nms xs))) : Dp K H (.ref a) (sD xs) := .lst (SqL.of h) (dp_nms K H xs)
theorem eqv_sD (a b : List Nat) : PyData.eqv (sD a) (sD b) = decide (a = b) := eqv_nms a b
theorem shaped_sD {xs : List Nat} (h : Lows xs) : SeqAt.shaped (sD xs) = true := by
  have a1 := lay_nms h
  have b1 := deep_nms xs
  simp only [SeqAt.shaped, sD, PyData.canLay0, PyData.depth, a1, Bool.true_and, decide_eq_true_eq]
  omega
theorem lows_nil : Lows [] := fun _ h => by cases h
section
variable {P : Program} {w : World} {K : PySem.W.Frag} {mg : Str → Option Value} {base : Heap}
theorem scLInt : FnScope ["_law_value"] ["_law_value"] (defScope sLInt) := ⟨rfl, rfl, rfl, by decide +kernel, rfl, by decide +kernel, by decide +kernel⟩
theorem d_law_is_integer (p : Pl K mg "_law_is_integer" sLInt) (T : Bt mg) : Dn P w K mg base 1 "_law_is_integer" ["_law_value"] spIsInt := by
  refine p.dn scLInt (fun _ _ _ _ _ _ us hl => match us, hl with | [_], _ => rfl) (fun vs H Q E h => ?_) (fun f cdv A outer s H vs Q E hr h => ?_)
  · obtain ⟨i, rfl, _⟩ := h
    rfl
  · obtain ⟨i, rfl, q⟩ := h
    refine ⟨_, pss_one (ps_ret (pe_and (pe_callB call_isB (by rfl) T.isinstance boot_isinstance (pa_cons (pv 0) (pa_cons (pe_bltn (v := .ty "int") (by rfl) T.int (by decide +kernel) rfl) pa_nil)))
      (pe_one (pe_not (pe_callB call_isB (by rfl) T.isinstance boot_isinstance (pa_cons (pv 0) (pa_cons (pe_bltn (v := .ty "bool") (by rfl) T.bool (by decide +kernel) rfl) pa_nil))))))), ?_⟩
    refine ⟨_, rfl, _, "int", "int", true, rfl, .base (.int i), k_int_int, true, rfl, ?_⟩
    refine iteT ?_
    exact ⟨_, rfl, _, "bool", "int", false, rfl, .base (.int i), k_int_bool, false, rfl, q⟩
theorem scLWithout : FnScope ["_law_pattern", "_law_letters", "_law_name"] ["_law_pattern", "_law_letters"] (defScope sLWithout) := ⟨rfl, rfl, rfl, by decide +kernel, rfl, by decide +kernel, by decide +kernel⟩
theorem d_law_without (p : Pl K mg "_law_without" sLWithout) : Dn P w K mg base 1 "_law_without" ["_law_pattern", "_law_letters"] spWithout := by
  refine p.dn scLWithout (fun _ _ _ _ _ _ us hl => match us, hl with | [_, _], _ => rfl) (fun vs H Q E h => ?_) (fun f cdv A outer s H vs Q E hr h => ?_)
  · obtain ⟨R, D, rfl, _⟩ := h
    rfl
  · obtain ⟨R, D, rfl, hn, k⟩ := h
    refine ⟨_, pss_one (ps_ret (pe_join pe_str
        (pe_lc (own := [("_law_name", 2)]) (g := gName 2) rfl scLWithout.nd (pi_str (pv 0)) (blkOk_by (N := ["_law_pattern", "_law_letters", "_law_name"]) (sc := defScope sLWithout) (by decide +kernel))
          (fun _ _ _ _ _ => pg_name (i := 2) scLWithout.nd rfl (Or.inl rfl)) (fun _ _ _ _ _ => pts_one (pt_cmpR op_notIn_sign (pv 2) (pv 1) (by rfl)))
          (fun _ _ _ _ _ => pv 2)))), ?_⟩
    refine ⟨⟨_, rfl⟩, _, rfl, _, rfl, fun L hL => lc_f R (fun x => decide (x ∉ D)) (fun x => V.str (sg x)) walk_tx hL (small1000 hn) (fun _ _ => trivial) ?_ ?_⟩
    · rintro i x v H1 H2 hx s1 ⟨rfl, c, hc, rfl⟩ N1 N0 n1 n0
      rw [hx] at hc
      cases hc
      refine ⟨rfl, _, rfl, _, rfl, x, _, rfl, rfl, _, rfl, ?_⟩
      rw [tx_list]
      by_cases e : x ∈ D
      · rw [decide_eq_true e]
        exact iteF (n0 (by simpa using e) _ (Same.refl _))
      · rw [decide_eq_false e]
        exact iteT ⟨_, rfl, n1 (by simpa using e) _ (Same.refl _)⟩
    · intro H1 s1 hd
      have e : (R.filter fun x => decide (x ∉ D)).map (fun x => V.str (sg x)) = ((cut R D).map sg).map V.str := by
        unfold cut
        rw [List.map_map]
        rfl
      rw [e] at hd
      refine ⟨_, L, (cut R D).map sg, rfl, rfl, .inl (SqL.of hd), join_room (Nat.le_trans (cut_len R D) (Nat.le_trans hn (by decide))), ?_⟩
      have j : Txt.join ("" : Str) ((cut R D).map sg) = tx (cut R D) := join_sg (cut R D)
      rw [j]
      exact k H1 s1
abbrev NLF : List Str := ["_law_pattern", "_law_letters", "_law_lefts", "_law_rights", "_law_name"]
def spLFree : Sp := fun vs H Q _ => ∃ R D : List Nat, vs = [.str (tx R), .str (tx D)] ∧ Lows R ∧ R.length ≤ 40 ∧ Lows D ∧ D.length ≤ 900 ∧ Free R D ∧ ∀ H', Same H H' → Q (.bl true) H'
theorem scLFree : FnScope NLF ["_law_pattern", "_law_letters"] (defScope sLFree) := ⟨rfl, rfl, rfl, by decide +kernel, rfl, by decide +kernel, by decide +kernel⟩
theorem nms_eq (xs : List Nat) : xs.map (fun x => V.str (sg x)) = nms xs := by
  show _ = (xs.map sg).map V.str
  rw [List.map_map]
  rfl
theorem filt_nil {D xs : List Nat} : (D.filter fun x => decide (x ∈ xs)) = [] ↔ ¬ ∃ x ∈ D, x ∈ xs := by
  rw [List.filter_eq_nil_iff]
  simp
theorem d_law_is_free (p : Pl K mg "_law_is_free" sLFree) (T : Bt mg) (D1 : Dn P w K mg base 1 "_law_components" ["_law_pattern"] spLComps) : Dn P w K mg base 2 "_law_is_free" ["_law_pattern", "_law_letters"] spLFree := by
  refine p.dn scLFree (fun _ _ _ _ _ _ us hl => match us, hl with | [_, _], _ => rfl) (fun vs H Q E h => ?_) (fun f cdv A outer s H vs Q E hr h => ?_)
  · obtain ⟨R, D, rfl, _⟩ := h
    rfl
  · obtain ⟨R, D, rfl, lowR, h40, lowD, hD900, free, k⟩ := h
    refine ⟨_, pss_cons (ps_for PassesOwn.never rfl (pi_list (pe_dn D1 hr (pa_cons (pv 0) pa_nil))) (pg_tup rfl (pgs_cons (pg_name (i := 2) scLFree.nd rfl (Or.inr rfl)) (pgs_cons (pg_name (i := 3) scLFree.nd rfl (Or.inr rfl)) pgs_nil)))
        (pss_one (ps_if (PW.pt (pw_and (pt_cmpR (op_neD hr.units) (pe_lc (own := [("_law_name", 4)]) (g := gName 4) rfl scLFree.nd (pi_str (pv 1)) (blkOk_by (N := NLF) (sc := defScope sLFree) (by decide +kernel))
            (fun _ _ _ _ _ => pg_name (i := 4) scLFree.nd rfl (Or.inl rfl)) (fun _ _ _ _ _ => pts_one (pt_cmpR (op_inK K) (pv 4) (pv 2) (by rfl)))
            (fun _ _ _ _ _ => pv 4)) (pe_lst pa_nil) (nomark _))
          (pw_and1 (pt_cmpR (op_neD hr.units) (pe_lc (own := [("_law_name", 4)]) (g := gName 4) rfl scLFree.nd (pi_str (pv 1)) (blkOk_by (N := NLF) (sc := defScope sLFree) (by decide +kernel))
            (fun _ _ _ _ _ => pg_name (i := 4) scLFree.nd rfl (Or.inl rfl)) (fun _ _ _ _ _ => pts_one (pt_cmpR (op_inK K) (pv 4) (pv 3) (by rfl)))
            (fun _ _ _ _ _ => pv 4)) (pe_lst pa_nil) (nomark _))))) (pss_one (ps_ret pe_bl)) pss_nil)))
      (pss_one (ps_ret pe_bl)), ?_⟩
    refine ⟨_, rfl, R, rfl, lowR, h40, fun H1 l gs s1 G gi => ?_⟩
    refine ⟨l, rfl, ⟨_, SqL.of G.ls⟩, ?_⟩
    refine for_list (K := K) (a := l) (xs := gs.map fun g => V.ref g.t) (fun i σ H2 => ∃ v2 v3, σ = [some (.str (tx R)), some (.str (tx D)), v2, v3, none] ∧ Same H1 H2) ⟨_, _, rfl, Same.refl _⟩ (fun i σ H2 _ ⟨_, _, _, s2⟩ => SqL.of (s2 _ _ G.ls)) ?_ ?_
    · rintro i v σ H2 hi ⟨v2, v3, rfl, s2⟩
      obtain ⟨g, hg, rfl⟩ := map_at hi
      have mg := List.mem_of_getElem? hg
      have ok := (G.ok g mg).same s2
      have ap := gi.apart free (List.mem_map.mpr ⟨g, mg, rfl⟩ : g.vw ∈ gs.map Grp.vw)
      refine ⟨g.t, _, rfl, SqT.of ok.t, rfl, _, _, rfl, _, _, rfl, rfl, ?_⟩
      refine ⟨_, rfl, _, rfl, fun D1 hD1 => lc_f D (fun x => decide (x ∈ g.xs)) (fun x => V.str (sg x)) walk_tx hD1 (small1000 (by omega)) (fun _ _ => trivial) ?_ ?_⟩
      · rintro i x v H3 H4 hx s3 ⟨rfl, c, hc, rfl⟩ N1 N0 n1 n0
        rw [hx] at hc
        cases hc
        refine ⟨rfl, _, rfl, _, rfl, g.a, nms g.xs, rfl, .inl (SqL.of (s3 _ _ ok.a)), rfl, flat_nms _, _, rfl, ?_⟩
        refine ite2 (fun e => ?_) (fun e => ?_)
        · have e : inV (.str (sg x)) (nms g.xs) = true := e
          rw [inV_nms] at e
          exact ⟨_, rfl, n1 e _ (Same.refl _)⟩
        · have e : ¬ inV (.str (sg x)) (nms g.xs) = true := e
          rw [inV_nms] at e
          exact n0 (by simpa using e) _ (Same.refl _)
      intro H3 s3 hd
      refine ⟨(by show 0 ≤ sizeLine; decide), fun e he => ?_⟩
      have s4 := same_upd (o := .lst []) (Same.refl H3) he
      have z : (D.filter fun x => decide (x ∈ g.xs)).map (fun x => V.str (sg x)) = nms (D.filter fun x => decide (x ∈ g.xs)) := nms_eq _
      rw [z] at hd
      refine ⟨sD _, sD [], dp_sD (s4 _ _ hd), dp_sD (by exact upd_same), shaped_sD (lowD.sub fun x hx => (List.mem_filter.mp hx).1), shaped_sD lows_nil, _, rfl, ?_⟩
      have s24 := s2.trans (s3.trans s4)
      have s34 := s3.trans s4
      generalize upd H3 e (.lst []) = H5 at s24 s34 ⊢
      rw [eqv_sD]
      by_cases c1 : (D.filter fun x => decide (x ∈ g.xs)) = []
      · rw [decide_eq_true c1]
        exact iteF (iteF ⟨_, _, rfl, s24⟩)
      · rw [decide_eq_false c1]
        refine iteT ?_
        refine ⟨_, rfl, _, rfl, fun D2 hD2 => lc_f D (fun x => decide (x ∈ g.ys)) (fun x => V.str (sg x)) walk_tx hD2 (small1000 (by omega)) (fun _ _ => trivial) ?_ ?_⟩
        · rintro i x v H6 H7 hx s6 ⟨rfl, c, hc, rfl⟩ N1 N0 n1 n0
          rw [hx] at hc
          cases hc
          refine ⟨rfl, _, rfl, _, rfl, g.b, nms g.ys, rfl, .inl (SqL.of (s6 _ _ (s34 _ _ ok.b))), rfl, flat_nms _, _, rfl, ?_⟩
          refine ite2 (fun e => ?_) (fun e => ?_)
          · have e : inV (.str (sg x)) (nms g.ys) = true := e
            rw [inV_nms] at e
            exact ⟨_, rfl, n1 e _ (Same.refl _)⟩
          · have e : ¬ inV (.str (sg x)) (nms g.ys) = true := e
            rw [inV_nms] at e
            exact n0 (by simpa using e) _ (Same.refl _)
        intro H6 s6 hd
        refine ⟨(by show 0 ≤ sizeLine; decide), fun e he => ?_⟩
        have s7 := same_upd (o := .lst []) (Same.refl H6) he
        have z : (D.filter fun x => decide (x ∈ g.ys)).map (fun x => V.str (sg x)) = nms (D.filter fun x => decide (x ∈ g.ys)) := nms_eq _
        rw [z] at hd
        refine ⟨sD _, sD [], dp_sD (s7 _ _ hd), dp_sD (by exact upd_same), shaped_sD (lowD.sub fun x hx => (List.mem_filter.mp hx).1), shaped_sD lows_nil, _, rfl, ?_⟩
        have c2 : (D.filter fun x => decide (x ∈ g.ys)) = [] := filt_nil.mpr fun z => by
          refine ap ⟨?_, z⟩
          exact Classical.byContradiction fun n => c1 (filt_nil.mpr n)
        rw [eqv_sD, decide_eq_true c2]
        exact iteF ⟨_, _, rfl, s24.trans (s6.trans s7)⟩
    · rintro σ H2 ⟨v2, v3, rfl, s2⟩
      exact k _ (s1.trans s2)
abbrev NLH : List Str := ["_law_pattern", "_law_steps", "_law_letters", "_law_name"]
def spLChain : Sp := fun vs H Q _ => ∃ (R : List Nat) (b : Addr) (steps : List (List Nat)), vs = [.str (tx R), .ref b] ∧ H b = some (.lst (tlist steps)) ∧ Lows R ∧ R.length ≤ 40 ∧ IsCh R steps ∧ ∀ H', Same H H' → Q (.bl true) H'
theorem scLChain : FnScope NLH ["_law_pattern", "_law_steps"] (defScope sLChain) := ⟨rfl, rfl, rfl, by decide +kernel, rfl, by decide +kernel, by decide +kernel⟩
theorem d_law_is_chain (p : Pl K mg "_law_is_chain" sLChain) (T : Bt mg) (D1 : Dn P w K mg base 1 "_law_without" ["_law_pattern", "_law_letters"] spWithout) (D2 : Dn P w K mg base 2 "_law_is_free" ["_law_pattern", "_law_letters"] spLFree) : Dn P w K mg base 3 "_law_is_chain" ["_law_pattern", "_law_steps"] spLChain := by
  refine p.dn scLChain (fun _ _ _ _ _ _ us hl => match us, hl with | [_, _], _ => rfl) (fun vs H Q E h => ?_) (fun f cdv A outer s H vs Q E hr h => ?_)
  · obtain ⟨R, b, steps, rfl, _⟩ := h
    rfl
  · obtain ⟨R, b, steps, rfl, hb, lowR, h40, ch, k⟩ := h
    have hr1 : Room 1 _ := hr.mono (by decide)
    refine ⟨_, pss_cons (ps_if (pt_not (pt_val (pe_callB call_isiT (by rfl) T.isinstance boot_isinstance (pa_cons (pv 1) (pa_cons (pe_tup (pa_cons (pe_bltn (v := .ty "list") (by rfl) T.list (by decide +kernel) rfl) (pa_cons (pe_bltn (v := .ty "tuple") (by rfl) T.tuple (by decide +kernel) rfl) pa_nil))) pa_nil))))) (pss_one (ps_ret pe_bl)) pss_nil)
      (pss_cons (ps_for PassesOwn.never rfl (pi_list (pv 1)) (pg_name (i := 2) scLChain.nd rfl (Or.inl rfl))
        (pss_cons (ps_if (PW.pt (pw_or (pt_not (pt_val (pe_callB call_isB (by rfl) T.isinstance boot_isinstance (pa_cons (pv 2) (pa_cons (pe_bltn (v := .ty "str") (by rfl) T.str (by decide +kernel) rfl) pa_nil)))))
            (pw_or (pt_cmpR op_eq (pv 2) pe_str (nomark _))
            (pw_or1 (pt_cmpR (op_neD hr.units) (pe_callTy (call_listX rfl) (by rfl) T.list (by decide +kernel) (pa_cons (pv 2) pa_nil))
              (pe_callB (cr_sortT rfl hr.units) (by rfl) T.sorted (by decide +kernel) (pa_cons (pe_callTy (cr_setX rfl) (by rfl) T.set (by decide +kernel) (pa_cons (pv 2) pa_nil)) pa_nil)) (nomark _)))))) (pss_one (ps_ret pe_bl)) pss_nil)
        (pss_cons (ps_if (PW.pt (pw_or (pt_cmpR (op_neD hr.units) (pe_lc (own := [("_law_name", 3)]) (g := gName 3) rfl scLChain.nd (pi_str (pv 2)) (blkOk_by (N := NLH) (sc := defScope sLChain) (by decide +kernel))
            (fun _ _ _ _ _ => pg_name (i := 3) scLChain.nd rfl (Or.inl rfl)) (fun _ _ _ _ _ => pts_one (pt_cmpR op_notIn_sign (pv 3) (pv 0) (by rfl)))
            (fun _ _ _ _ _ => pv 3)) (pe_lst pa_nil) (nomark _))
            (pw_or1 (pt_not (pt_val (pe_dn D2 hr (pa_cons (pv 0) (pa_cons (pv 2) pa_nil)))))))) (pss_one (ps_ret pe_bl)) pss_nil)
        (pss_one (ps_set (i := 0) scLChain.nd rfl (.inr rfl) (pe_dn D1 hr1 (pa_cons (pv 0) (pa_cons (pv 2) pa_nil))))))))
      (pss_one (ps_ret (pe_cmpR op_eq (pv 0) pe_str (nomark _))))), ?_⟩
    refine ⟨_, rfl, (by show 2 ≤ sizeLine; decide), fun t ht => ?_⟩
    have s0 : Same H (upd H t (.tup [.ty "list", .ty "tuple"])) := same_upd (Same.refl _) ht
    refine ⟨.ref b, t, [.ty "list", .ty "tuple"], .type "list", [.type "list", .type "tuple"], true, rfl, upd_same, .cons (.ty "list") (.cons (.ty "tuple") .nil), .base (.lst (s0 _ _ hb)), kitAny_cons (kit_ty k_list_list) (fun h => nomatch h) (fun _ => rfl), true, rfl, iteF ?_⟩
    refine ⟨_, rfl, b, rfl, ⟨_, SqL.of (s0 _ _ hb)⟩, ?_⟩
    refine for_list (K := K) (a := b) (xs := tlist steps) (fun i σ H2 => ∃ R' v2, σ = [some (.str (tx R')), some (.ref b), v2, none] ∧ Same H H2 ∧ IsCh R' (steps.drop i) ∧ R'.length ≤ 40 ∧ Lows R')
      ⟨R, _, rfl, s0, ch, h40, lowR⟩ (fun i σ H2 _ ⟨_, _, _, s2, _⟩ => SqL.of (s2 _ _ hb)) ?_ ?_
    · rintro i v σ H2 hi ⟨R', v2, rfl, s2, hch, hlen, hlow⟩
      obtain ⟨D, hD, rfl⟩ := map_at hi
      obtain ⟨hlt, eD⟩ := List.getElem?_eq_some_iff.mp hD
      have e : steps.drop i = D :: steps.drop (i + 1) := by rw [List.drop_eq_getElem_cons hlt, eD]
      rw [e] at hch
      obtain ⟨c1, c2, c3, c4, c5⟩ := hch
      have lowD : Lows D := hlow.sub c3
      have ndD := nd_of_lt c2
      have lenD : D.length ≤ 40 := Nat.le_trans (sub_len ndD c3) hlen
      refine ⟨_, rfl, _, "str", "str", true, rfl, .base (.str _), k_str_str, true, rfl, iteF ?_⟩
      refine ⟨_, rfl, rfl, _, rfl, ?_⟩
      have dE : decide (V.str (tx D) = V.str ("" : Str)) = false := by
        refine decide_eq_false fun z => c1 ?_
        exact tx_inj (b := []) (str_inj.mp z)
      rw [dE]
      refine iteF ?_
      refine ⟨_, rfl, D, rfl, by omega, fun l1 h1 => ?_⟩
      have t1 := same_upd (o := .lst (nms D)) (Same.refl H2) h1
      have L1 : (upd H2 l1 (.lst (nms D))) l1 = some (.lst (nms D)) := upd_same
      generalize upd H2 l1 (.lst (nms D)) = H3 at t1 L1 ⊢
      refine ⟨_, rfl, D, rfl, by omega, fun S L hS lt => ?_⟩
      have t2 := same_upd (o := TSetO w S (L.map sg)) (Same.refl H3) hS
      have lL := lt.len
      refine ⟨S, L.map sg, rfl, upd_same, by rw [List.length_map]; omega, fun M q pm pw hq => ?_⟩
      have pLD : L.Perm D := (List.perm_ext_iff_of_nodup lt.nd ndD).mpr fun x => by
        have := lt.mem x
        rw [List.take_length] at this
        exact this
      have eM : M = D.map sg := sort_sg (pm.trans (pLD.map sg)) pw c2
      subst eM
      have t3 := same_upd (o := .lst (nms D)) (Same.refl _) hq
      have L2 := upd_same (H := upd H3 S (TSetO w S (L.map sg))) (a := q) (o := .lst (nms D))
      generalize hh : upd (upd H3 S _) q _ = H4
      have t4 : Same H3 H4 := by rw [← hh]; exact t2.trans t3
      have L2 : H4 q = some (.lst (nms D)) := by rw [← hh]; exact L2
      refine ⟨sD D, sD D, dp_sD (t4 _ _ L1), dp_sD L2, shaped_sD lowD, shaped_sD lowD, _, rfl, ?_⟩
      rw [eqv_sD, decide_eq_true rfl]
      refine iteF ?_
      have s4 := s2.trans (t1.trans t4)
      refine ⟨_, rfl, _, rfl, fun D2 hD2 => lc_f D (fun x => decide (x ∉ R')) (fun x => V.str (sg x)) walk_tx hD2 (small1000 (by omega)) (fun _ _ => trivial) ?_ ?_⟩
      · rintro i x v H6 H7 hx s6 ⟨rfl, c, hc, rfl⟩ N1 N0 n1 n0
        rw [hx] at hc
        cases hc
        refine ⟨rfl, _, rfl, _, rfl, x, _, rfl, rfl, _, rfl, ?_⟩
        rw [tx_list]
        by_cases e : x ∈ R'
        · rw [decide_eq_true e]
          exact iteF (n0 (by simpa using e) _ (Same.refl _))
        · rw [decide_eq_false e]
          exact iteT ⟨_, rfl, n1 (by simpa using e) _ (Same.refl _)⟩
      · intro H6 s6 hd
        refine ⟨(by show 0 ≤ sizeLine; decide), fun e he => ?_⟩
        have s7 := same_upd (o := .lst []) (Same.refl H6) he
        rw [nms_eq] at hd
        have en : (D.filter fun x => decide (x ∉ R')) = [] := by
          rw [List.filter_eq_nil_iff]
          intro x hx
          simpa using c3 x hx
        rw [en] at hd
        refine ⟨sD [], sD [], dp_sD (s7 _ _ hd), dp_sD (by exact upd_same), shaped_sD lows_nil, shaped_sD lows_nil, _, rfl, ?_⟩
        rw [eqv_sD, decide_eq_true rfl]
        refine iteF ?_
        refine ⟨_, rfl, _, rfl, R', D, rfl, hlow, hlen, lowD, by omega, c4, fun H8 s8 => ⟨true, rfl, iteF ?_⟩⟩
        refine ⟨_, rfl, _, rfl, R', D, rfl, by omega, fun H9 s9 => ?_⟩
        exact ⟨cut R' D, _, rfl, s4.trans (s6.trans (s7.trans (s8.trans s9))), c5, Nat.le_trans (cut_len _ _) hlen, cut_low hlow⟩
    · rintro σ H2 ⟨R', v2, rfl, s2, hch, hlen, hlow⟩
      rw [List.length_map, List.drop_length] at hch
      have e : R' = [] := hch
      subst e
      refine ⟨_, rfl, rfl, ?_⟩
      have dE : decide (V.str (tx []) = V.str ("" : Str)) = true := decide_eq_true (str_inj.mpr rfl)
      rw [dE]
      exact k H2 s2
end
end MO
set_option Elab.async false
set_option linter.all false
set_option maxRecDepth 100000
/-! the law: places -/
namespace MO
open PySem PySem.Spec PyProof.Rows L2 XS KM
abbrev sLPlace : Stmt := top 66
section
variable {P : Program} {w : World} {K : PySem.W.Frag} {mg : Str → Option Value} {base : Heap}
abbrev NLP : List Str := ["_law_pattern", "_law_text", "_law_place", "_law_start", "_law_values", "_law_block", "_law_name", "_law_letter"]
def spLPlace : Sp := fun vs H Q _ => ∃ (R : List Nat) (t p : Addr) (txt : List Int) (s : Nat) (v : Nat → List Int), vs = [.str (tx R), .ref t, .ref p] ∧ H t = some (.tup (itp txt)) ∧ PlaceAt H p s (fo R) v ∧ Lows R ∧ R.length ≤ 40 ∧
  (∃ a c, txt = a ++ R.flatMap v ++ c ∧ a.length = s) ∧ txt.length ≤ 5000 ∧ (∀ x ∈ R, v x ≠ []) ∧ ∀ H', Same H H' → Q (.bl true) H'
theorem scLPlace : FnScope NLP ["_law_pattern", "_law_text", "_law_place"] (defScope sLPlace) := ⟨rfl, rfl, rfl, by decide +kernel, rfl, by decide +kernel, by decide +kernel⟩
theorem d_law_is_place (p : Pl K mg "_law_is_place" sLPlace) (T : Bt mg) (D1 : Dn P w K mg base 1 "_law_is_integer" ["_law_value"] spIsInt) (D2 : Dn P w K mg base 1 "_law_order" ["_law_pattern"] spLOrder) : Dn P w K mg base 2 "_law_is_place" ["_law_pattern", "_law_text", "_law_place"] spLPlace := by
  refine p.dn scLPlace (fun _ _ _ _ _ _ us hl => match us, hl with | [_, _, _], _ => rfl) (fun vs H Q E h => ?_) (fun f cdv A outer s H vs Q E hr h => ?_)
  · obtain ⟨R, t, q, txt, st, v, rfl, _⟩ := h
    rfl
  · obtain ⟨R, t, q, txt, st, v, rfl, ht, hp, lowR, h40, ⟨a, c, et, al⟩, h5, hv0, k⟩ := h
    have hu := hu_of hr
    have hr1 : Room 1 _ := hr
    have tl : txt.length = a.length + (R.flatMap v).length + c.length := by rw [et, List.length_append, List.length_append]
    refine ⟨_, pss_cons (ps_if (PW.pt (pw_or (pt_not (pt_val (pe_callB call_isB (by rfl) T.isinstance boot_isinstance (pa_cons (pv 2) (pa_cons (pe_bltn (v := .ty "tuple") (by rfl) T.tuple (by decide +kernel) rfl) pa_nil)))))
          (pw_or (pt_cmpR op_ne (pe_callB call_len_seq (by rfl) T.len PySem.boot_len (pa_cons (pv 2) pa_nil)) pe_int (nomark _))
          (pw_or1 (pt_not (pt_val (pe_callB call_isB (by rfl) T.isinstance boot_isinstance (pa_cons (pe_ix ix_tup (pv 2) pe_int (fun _ _ => rfl)) (pa_cons (pe_bltn (v := .ty "dict") (by rfl) T.dict (by decide +kernel) rfl) pa_nil)))))))))
        (pss_one (ps_ret pe_bl)) pss_nil)
      (pss_cons (ps_asg (pv 2) (pg_tup rfl (pgs_cons (pg_name (i := 3) scLPlace.nd rfl (Or.inl rfl)) (pgs_cons (pg_name (i := 4) scLPlace.nd rfl (Or.inl rfl)) pgs_nil))))
      (pss_cons (ps_if (PW.pt (pw_or (pt_not (pt_val (pe_dn D1 hr (pa_cons (pv 3) pa_nil))))
          (pw_or (pt_cmpR op_lt (pv 3) pe_int (nomark _))
          (pw_or1 (pt_cmpR (op_neD hr.units) (pe_callTy (call_list_dK rfl) (by rfl) T.list (by decide +kernel) (pa_cons (pv 4) pa_nil)) (pe_dn D2 hr (pa_cons (pv 0) pa_nil)) (nomark _))))))
        (pss_one (ps_ret pe_bl)) pss_nil)
      (pss_cons (ps_set (i := 5) scLPlace.nd rfl (.inl rfl) (pe_tup pa_nil))
      (pss_cons (ps_for PassesOwn.never rfl (pi_str (pv 0)) (pg_name (i := 6) scLPlace.nd rfl (Or.inl rfl))
        (pss_cons (ps_if (PW.pt (pw_or (pt_not (pt_val (pe_callB call_isB (by rfl) T.isinstance boot_isinstance (pa_cons (pe_dget hu (pv 4) (pv 6) (fun _ _ => rfl)) (pa_cons (pe_bltn (v := .ty "tuple") (by rfl) T.tuple (by decide +kernel) rfl) pa_nil)))))
            (pw_or1 (pt_cmpR (op_eqD hr.units) (pe_dget hu (pv 4) (pv 6) (fun _ _ => rfl)) (pe_tup pa_nil) (nomark _)))))
          (pss_one (ps_ret pe_bl)) pss_nil)
        (pss_one (ps_set (i := 5) scLPlace.nd rfl (.inl rfl) (pe_op op_catA (pv 5) (pe_dget hu (pv 4) (pv 6) (fun _ _ => rfl)))))))
      (pss_one (ps_ret (pe_and (pe_cmpR (op_eqD hr.units) (pe_lc (own := [("_law_letter", 7)]) (g := gName 7) rfl scLPlace.nd (pi_tup (pv 5)) (blkOk_by (N := NLP) (sc := defScope sLPlace) (by decide +kernel))
            (fun _ _ _ _ _ => pg_name (i := 7) scLPlace.nd rfl (Or.inl rfl)) (fun _ _ _ _ _ => pts_one (pt_not (pt_val (pe_dn D1 hr (pa_cons (pv 7) pa_nil)))))
            (fun _ _ _ _ _ => pv 7)) (pe_lst pa_nil) (nomark _))
          (pe_one (pe_cmpR (op_eqD hr.units) (pe_slice sl_tupA (pv 1) (po_some (pv 3)) (po_some (pe_op op_add (pv 3) (pe_callB call_len_seq (by rfl) T.len PySem.boot_len (pa_cons (pv 5) pa_nil))))) (pv 5) (nomark _)))))))))), ?_⟩
    obtain ⟨d, hq, hv⟩ := hp.ex
    obtain ⟨at_, hd, hat⟩ := id hv.ex
    refine ⟨_, rfl, _, "tuple", "tuple", true, rfl, .base (.tup hq), k_tup_tup, true, rfl, iteF ?_⟩
    refine ⟨_, rfl, q, _, rfl, .inr (SqT.of hq), rfl, _, rfl, iteF ?_⟩
    refine ⟨_, rfl, q, _, 1, _, rfl, rfl, SqT.of hq, atI_nat (j := 1) rfl, _, "dict", "dict", true, rfl, .base (.dK hd), k_dict_dict, true, rfl, iteF ?_⟩
    refine ⟨_, rfl, q, _, rfl, SqT.of hq, rfl, _, _, rfl, _, _, rfl, rfl, ?_⟩
    refine ⟨_, rfl, st, rfl, true, rfl, iteF ?_⟩
    refine ⟨_, rfl, st, 0, rfl, rfl, _, rfl, ?_⟩
    rw [show decide ((st : Int) < 0) = false from decide_eq_false (by omega)]
    refine iteF ?_
    refine ⟨_, rfl, d, _, rfl, hd, fun l hl => ?_⟩
    have ek : (vtab (fo R) at_).map (fun kv => kV kv.1) = nms (fo R) := by
      unfold vtab
      rw [List.map_map]
      show _ = ((fo R).map sg).map V.str
      rw [List.map_map]
      rfl
    rw [ek]
    have t1 := same_upd (o := .lst (nms (fo R))) (Same.refl H) hl
    have L1 : (upd H l (.lst (nms (fo R)))) l = some (.lst (nms (fo R))) := upd_same
    generalize upd H l (.lst (nms (fo R))) = H1 at t1 L1 ⊢
    refine ⟨_, rfl, R, rfl, by omega, fun H2 l2 s2 nl2 h2 => ?_⟩
    have lowF : Lows (fo R) := lowR.sub fun x hx => (mem_fo R x).mp hx
    refine ⟨sD (fo R), sD (fo R), dp_sD (s2 _ _ L1), dp_sD h2, shaped_sD lowF, shaped_sD lowF, _, rfl, ?_⟩
    rw [eqv_sD, decide_eq_true rfl]
    refine iteF ?_
    have t2 := t1.trans s2
    refine ⟨(by show 0 ≤ sizeLine; decide), fun b0 hb0 => ?_⟩
    have t3 := t2.trans (same_upd (o := .tup []) (Same.refl H2) hb0)
    have B0 : (upd H2 b0 (.tup [])) b0 = some (.tup (itp [])) := upd_same
    generalize upd H2 b0 (.tup []) = H3 at t3 B0 ⊢
    refine ⟨_, rfl, tx R, rfl, ?_⟩
    have bl : ∀ i, ((R.take i).flatMap v).length ≤ 5000 := fun i => by
      have z : R.flatMap v = (R.take i).flatMap v ++ (R.drop i).flatMap v := by rw [← List.flatMap_append, List.take_append_drop]
      rw [z, List.length_append] at tl
      omega
    refine for_it (walk_tx (cs := R)) (fun i σ H4 => ∃ b v6, σ = [some (.str (tx R)), some (.ref t), some (.ref q), some (.int (st : Nat)), some (.ref d), some (.ref b), v6, none] ∧ Same H H4 ∧ H4 b = some (.tup (itp ((R.take i).flatMap v))))
      ⟨b0, _, rfl, t3, B0⟩ (fun _ _ _ _ _ => trivial) ?_ ?_
    · rintro i x σ H4 H5 hi ⟨b, v6, rfl, s4, hb⟩ ⟨rfl, c, hc, rfl⟩
      have hcR := List.mem_of_getElem? hc
      obtain ⟨g, g1, g2⟩ := (hv.same s4).get ((mem_fo R c).mpr hcR)
      have etk : R.take (i + 1) = R.take i ++ [c] := by rw [List.take_add_one, hc]; rfl
      have e2 : (R.take (i + 1)).flatMap v = (R.take i).flatMap v ++ v c := by
        rw [etk, List.flatMap_append]
        simp
      have bl1 := bl (i + 1)
      refine ⟨_, rfl, _, rfl, d, .ref g, rfl, g1, _, "tuple", "tuple", true, rfl, .base (.tup g2), k_tup_tup, true, rfl, iteF ?_⟩
      refine ⟨_, rfl, _, rfl, d, .ref g, rfl, g1, (by show 0 ≤ sizeLine; decide), fun e he => ?_⟩
      have s5 := same_upd (o := .tup []) (Same.refl H5) he
      refine ⟨itd (v c), itd [], dp_itp (SqT.of (s5 _ _ g2)), dp_itp (SqT.of upd_same), shaped_itd _, shaped_itd _, _, rfl, ?_⟩
      rw [eqv_itd, decide_eq_false (hv0 c hcR)]
      refine iteF ?_
      have s45 := s4.trans s5
      have hb := s5 _ _ hb
      generalize upd H5 e (.tup []) = H6 at s45 hb ⊢
      obtain ⟨g, g1, g2⟩ := (hv.same s45).get ((mem_fo R c).mpr hcR)
      refine ⟨_, rfl, _, rfl, _, rfl, d, .ref g, rfl, g1, catA_of hb g2 ?_ fun z H7 s7 hz => ?_⟩
      · rw [e2, List.length_append] at bl1
        rw [List.length_map, List.length_map, sizeLine_eq]
        omega
      · refine ⟨z, _, rfl, s45.trans s7, ?_⟩
        rw [hz, e2]
        unfold itp
        rw [List.map_append]
    · rintro σ H4 ⟨b, v6, rfl, s4, hb⟩
      rw [List.take_length] at hb
      have bt := bl R.length
      rw [List.take_length] at bt
      refine ⟨_, rfl, b, rfl, ⟨_, SqT.of hb⟩, fun L hL => lc_f (R.flatMap v) (fun _ => false) (fun l => V.int l) (by have w2 := walk_tup (K := K) (a := b) (xs := itp (R.flatMap v)); rw [List.length_map] at w2; exact w2) hL (Nat.lt_of_le_of_lt bt (by decide)) (fun H6 s6 => same_seqT s6 (SqT.of hb)) ?_ ?_⟩
      · rintro j x y H6 H7 hj s6 ⟨rfl, hy⟩ N1 N0 n1 n0
        rw [List.getElem?_map, hj] at hy
        cases hy
        exact ⟨rfl, _, rfl, _, rfl, true, rfl, iteF (n0 rfl _ (Same.refl _))⟩
      · intro H6 s6 hd6
        have z0 : (R.flatMap v).filter (fun _ => false) = [] := List.filter_eq_nil_iff.mpr fun _ _ z => by cases z
        rw [z0] at hd6
        refine ⟨(by show 0 ≤ sizeLine; decide), fun e he => ?_⟩
        have s7 := same_upd (o := .lst []) (Same.refl H6) he
        refine ⟨ild [], ild [], dp_ild (SqL.of (s7 _ _ hd6)), dp_ild (SqL.of (by exact upd_same)), shaped_ild _, shaped_ild _, _, rfl, ?_⟩
        rw [eqv_ild, decide_eq_true rfl]
        refine iteT ?_
        have s47 := s6.trans s7
        have s07 := s4.trans s47
        have hb := s47 _ _ hb
        generalize upd H6 e (.lst []) = H8 at s07 hb ⊢
        refine ⟨_, rfl, _, rfl, st, rfl, _, rfl, _, rfl, b, _, rfl, .inr (SqT.of hb), _, _, rfl, rfl, _, rfl, slA_of (s07 _ _ ht) fun z H9 s9 hz => ?_⟩
        have ec : cutV (itp txt) (some (st : Int)) (some ((st : Int) + ((itp (R.flatMap v)).length : Int))) = itp (R.flatMap v) := by
          rw [cutV_nat _ _ _ (by rw [List.length_map, List.length_map]; omega), List.length_map, ← List.map_drop, ← List.map_take, et, ← al, List.append_assoc, List.drop_left, List.take_left]
        rw [ec] at hz
        refine ⟨_, rfl, itd (R.flatMap v), itd (R.flatMap v), dp_itp (SqT.of hz), dp_itp (SqT.of (s9 _ _ hb)), shaped_itd _, shaped_itd _, ?_⟩
        rw [eqv_itd, decide_eq_true rfl]
        exact k _ (s07.trans s9)
end
end MO
set_option Elab.async false
set_option linter.all false
set_option maxRecDepth 100000
/-! the law: cutting -/
namespace MO
open PySem PySem.Spec PyProof.Rows L2 XS KM
abbrev sLCut : Stmt := top 67
section
variable {X : Cx}
theorem op_eqDK (K : PySem.W.Frag) (hu : X.A.units + 64 < cLine) (hK : X.K = K := by rfl) : OpR X (compareOp .Eq) (rEqD K) := by subst hK; exact op_eqD hu
end
theorem tx_app (a b : List Nat) : tx a ++ tx b = tx (a ++ b) := by
  show (⟨a.toArray ++ b.toArray⟩ : Str) = _
  simp
theorem cutV_take (xs : List V) (s l : Nat) (h : s ≤ xs.length) : cutV xs (some (s : Int)) (some ((s : Int) + (l : Int))) = (xs.drop s).take l := by
  unfold cutV
  have e1 := HT.sIx_nat xs.length 0 s
  have e2 := HT.sIx_nat xs.length xs.length (s + l)
  rw [Int.natCast_add] at e2
  rw [e1, e2, Nat.min_eq_left h]
  by_cases c : s + l ≤ xs.length
  · rw [Nat.min_eq_left c, Nat.add_sub_cancel_left]
  · rw [Nat.min_eq_right (by omega), List.take_of_length_le (by rw [List.length_drop]; exact Nat.le_refl _), List.take_of_length_le (by rw [List.length_drop]; omega)]
/-- the state while cutting -/
structure CSt (H0 H : Hp) (a cl t d sz : Addr) (ns T zs : List Int) (ks : List Nat) (v : Nat → List Int) (ix : Int) : Prop where
  but : But a H0 H
  src : ∃ rest, SrcAt H a cl ns ix rest
  txt : H t = some (.tup (itp T))
  sz : H sz = some (.lst (itp zs))
  val : ValsAt H d ks v
  nd : d ≠ a
  new : H0 d = none
theorem ValsAt.but {H H' : Hp} {a d : Addr} {ks : List Nat} {v : Nat → List Int} (h : ValsAt H d ks v) (b : But a H H') (n : d ≠ a) {kvs : List (L2.Key × V)} (ha : H a = some (.dK kvs)) : ValsAt H' d ks v := by
  obtain ⟨at_, h1, h2⟩ := h.ex
  exact ⟨at_, b _ _ h1 n, fun x hx => b _ _ (h2 x hx) (ne_of (h2 x hx) ha (by intro z; cases z))⟩
theorem But.trans {a : Addr} {H1 H2 H3 : Hp} (b : But a H1 H2) (c : But a H2 H3) : But a H1 H3 := fun x o h n => c _ _ (b _ _ h n) n
section
variable {H0 H H' : Hp} {a cl t d sz : Addr} {ns T zs : List Int} {ks : List Nat} {v : Nat → List Int} {ix ix' : Int}
theorem CSt.same (c : CSt H0 H a cl t d sz ns T zs ks v ix) (s : Same H H') : CSt H0 H' a cl t d sz ns T zs ks v ix := by
  obtain ⟨rest, S⟩ := c.src
  exact ⟨c.but.same s, ⟨rest, S.same s⟩, s _ _ c.txt, s _ _ c.sz, c.val.same s, c.nd, c.new⟩
theorem CSt.draw {rest' : Int} (c : CSt H0 H a cl t d sz ns T zs ks v ix) (b : But a H H') (S' : SrcAt H' a cl ns ix' rest') : CSt H0 H' a cl t d sz ns T zs ks v ix' := by
  obtain ⟨rest, S⟩ := c.src
  exact ⟨c.but.trans b, ⟨rest', S'⟩, b _ _ c.txt (ne_of c.txt S.d (by intro z; cases z)), b _ _ c.sz (ne_of c.sz S.d (by intro z; cases z)), c.val.but b c.nd S.d, c.nd, c.new⟩
theorem CSt.put {q x : Nat} {wv : List Int} (c : CSt H0 H a cl t d sz ns T zs ks v ix) (hx : x ∉ ks) (hq : H q = some (.tup (itp wv))) :
    ∃ kvs, H d = some (.dK kvs) ∧ kvs.length = ks.length ∧ CSt H0 (upd H d (.dK (putK kvs (Sum.inr (sg x) : L2.Key) (.ref q)))) a cl t d sz ns T zs (ks ++ [x]) (fun y => if y = x then wv else v y) ix := by
  obtain ⟨rest, S⟩ := c.src
  obtain ⟨kvs, g1, g2, g3⟩ := c.val.put hx hq
  refine ⟨kvs, g1, g2, ⟨fun b o e n => ?_, ⟨rest, ⟨by rw [upd_ne (Ne.symm c.nd)]; exact S.d, by rw [upd_ne (ne_of S.c g1 (by intro z; cases z))]; exact S.c, S.i0, S.r0⟩⟩, by rw [upd_ne (ne_of c.txt g1 (by intro z; cases z))]; exact c.txt, by rw [upd_ne (ne_of c.sz g1 (by intro z; cases z))]; exact c.sz, g3, c.nd, c.new⟩⟩
  rw [upd_ne (ne_of_none e c.new)]
  exact c.but _ _ e n
end
section
variable {P : Program} {w : World} {K : PySem.W.Frag} {mg : Str → Option Value} {base : Heap}
abbrev NLU : List Str := ["_law_source_here", "_law_text", "_law_names_here", "_law_start", "_law_pattern", "_law_values", "_law_end", "_law_sizes", "_law_turn", "_law_piece", "_law_known", "_law_name"]
def spLCut : Sp := fun vs H Q _ => ∃ (a cl t : Addr) (ns : List Int) (ix rest : Int) (n : Nat) (M : List Nat), vs = [.ref a, .ref t, .str (tx M)] ∧ SrcAt H a cl ns ix rest ∧ ix ≤ 90000 ∧ ns.length ≤ 63 ∧ H t = some (.tup (itp (U n))) ∧ 1 ≤ n ∧ n ≤ 12 ∧ M.length = 8 ∧ M.Nodup ∧ Lows M ∧
  ∀ H' p q R s v ix' rest', But a H H' → SrcAt H' a cl ns ix' rest' → ix' ≤ ix + 123 → H' p = some (.tup [.str (tx R), .ref q]) → PlaceAt H' q s (fo R) v → PatOk R → PlS n R v s → (∀ x ∈ R, v x ≠ []) → Q (.ref p) H'
theorem scLCut : FnScope NLU ["_law_source_here", "_law_text", "_law_names_here"] (defScope sLCut) := ⟨rfl, rfl, rfl, by decide +kernel, rfl, by decide +kernel, by decide +kernel⟩
theorem fo_ok {n s : Nat} {M R : List Nat} {v : Nat → List Int} (h : CutInv n M s R v) (hM : M.length = 8) (low : Lows M) (hl : R.length ≤ 40) : PatOk R := by
  have e := h.ord
  have l : (fo R).length ≤ 8 := by rw [e, List.length_take, hM]; omega
  refine ⟨fun x hx => ?_, hl, l⟩
  have q := (mem_fo R x).mpr hx
  rw [e] at q
  exact low x (List.mem_of_mem_take q)
theorem d_law_cut (p : Pl K mg "_law_cut" sLCut) (T : Bt mg) (D1 : Dn P w K mg base 1 "_law_draw" ["_law_source_here", "_law_size"] spDraw) (D2 : Dn P w K mg base 2 "_law_pick" ["_law_source_here", "_law_items"] spPick) : Dn P w K mg base 3 "_law_cut" ["_law_source_here", "_law_text", "_law_names_here"] spLCut := by
  refine p.dn scLCut (fun _ _ _ _ _ _ us hl => match us, hl with | [_, _, _], _ => rfl) (fun vs H Q E h => ?_) (fun f cdv A outer s H vs Q E hr h => ?_)
  · obtain ⟨a, cl, t, ns, ix, rest, n, M, rfl, _⟩ := h
    rfl
  · obtain ⟨a, cl, t, ns, ix, rest, n, M, rfl, hS, hix, h63, ht, hn1, hn12, hM8, hMn, hMl, k⟩ := h
    have hu := hu_of hr
    have hr1 : Room 1 _ := hr.mono (by decide)
    refine ⟨_, pss_cons (ps_set (i := 3) scLCut.nd rfl (.inl rfl) (pe_dn D1 hr1 (pa_cons (pv 0) (pa_cons (pe_callB call_len_seq (by rfl) T.len PySem.boot_len (pa_cons (pv 1) pa_nil)) pa_nil))))
      (pss_cons (ps_asg (pe_tup (pa_cons pe_str (pa_cons pe_dnewK (pa_cons (pv 3) pa_nil)))) (pg_tup rfl (pgs_cons (pg_name (i := 4) scLCut.nd rfl (Or.inl rfl)) (pgs_cons (pg_name (i := 5) scLCut.nd rfl (Or.inr rfl)) (pgs_cons (pg_name (i := 6) scLCut.nd rfl (Or.inl rfl)) pgs_nil)))))
      (pss_cons (ps_set (i := 7) scLCut.nd rfl (.inl rfl) (pe_dn D2 hr (pa_cons (pv 0) (pa_cons (pe_lst (pa_cons (pe_lst (pa_cons pe_int pa_nil)) (pa_cons (pe_lst (pa_cons pe_int (pa_cons pe_int (pa_cons pe_int pa_nil)))) (pa_cons (pe_lst (pa_cons pe_int (pa_cons pe_int (pa_cons pe_int pa_nil)))) (pa_cons (pe_lst (pa_cons pe_int (pa_cons pe_int (pa_cons pe_int (pa_cons pe_int pa_nil))))) pa_nil))))) pa_nil))))
      (pss_cons (ps_for PassesOwn.never rfl (pi_range1 (by rfl) T.range (pa_cons (pe_op op_add pe_int (pe_dn D1 hr1 (pa_cons (pv 0) (pa_cons pe_int pa_nil)))) pa_nil)) (pg_name (i := 8) scLCut.nd rfl (Or.inl rfl))
        (pss_cons (ps_set (i := 9) scLCut.nd rfl (.inr rfl) (pe_slice sl_tupA (pv 1) (po_some (pv 6)) (po_some (pe_op op_add (pv 6) (pe_dn D2 hr (pa_cons (pv 0) (pa_cons (pv 7) pa_nil)))))))
        (pss_cons (ps_lock (ps_setLc (i := 10) (own := [("_law_name", 11)]) (g := gName 11) rfl scLCut.nd rfl rfl (sw_true rfl rfl rfl (by decide +kernel)) (pi_keys (pv 5)) (blkOk_by (N := NLU) (sc := defScope sLCut) (by decide +kernel))
            (fun _ _ _ _ _ => pg_name (i := 11) scLCut.nd rfl (Or.inl rfl)) (fun _ _ _ _ _ => pts_one (pt_cmpR (op_eqDK K hr.units) (pe_dget hu (pv 5) (pv 11) (fun _ _ => rfl)) (pv 9) (nomark _)))
            (fun _ _ _ _ _ => pv 11)))
        (pss_cons (ps_if (PW.pt (pw_or (pt_cmpR (op_eqD hr.units) (pv 9) (pe_tup pa_nil) (nomark _))
            (pw_or1 (PW.pt (pw_and (pt_cmpR (op_eqD hr.units) (pv 10) (pe_lst pa_nil) (nomark _)) (pw_and1 (pt_cmpR op_eq (pe_callB call_lenD (by rfl) T.len PySem.boot_len (pa_cons (pv 5) pa_nil)) (pe_callB call_len_str (by rfl) T.len PySem.boot_len (pa_cons (pv 2) pa_nil)) (nomark _))))))))
          (pss_one ps_break) pss_nil)
        (pss_cons (ps_if (PW.pt (pw_or (pt_cmpR (op_eqD hr.units) (pv 10) (pe_lst pa_nil) (nomark _))
            (pw_or1 (PW.pt (pw_and (pt_cmpR op_lt (pe_callB call_lenD (by rfl) T.len PySem.boot_len (pa_cons (pv 5) pa_nil)) (pe_callB call_len_str (by rfl) T.len PySem.boot_len (pa_cons (pv 2) pa_nil)) (nomark _)) (pw_and1 (pt_cmpR op_eq (pe_dn D1 hr1 (pa_cons (pv 0) (pa_cons pe_int pa_nil))) pe_int (nomark _))))))))
          (pss_cons (ps_set (i := 10) scLCut.nd rfl (.inl rfl) (pe_lst (pa_cons (pe_ix ix_str (pv 2) (pe_callB call_lenD (by rfl) T.len PySem.boot_len (pa_cons (pv 5) pa_nil)) (fun _ _ => rfl)) pa_nil)))
          (pss_one (ps_dput hu (pv 5) (pe_ix ix_list (pv 10) pe_int (fun _ _ => rfl)) (pv 9) rfl))) pss_nil)
        (pss_one (ps_par (i := 4) (j := 6) (by rfl) scLCut.nd rfl rfl (by decide) rfl rfl (pa_cons (pe_op op_add_str (pv 4) (pe_dn D2 hr (pa_cons (pv 0) (pa_cons (pv 10) pa_nil)))) (pa_cons (pe_op op_add (pv 6) (pe_callB call_len_seq (by rfl) T.len PySem.boot_len (pa_cons (pv 9) pa_nil))) pa_nil)) (by rfl))))))))
      (pss_one (ps_ret (pe_tup (pa_cons (pv 4) (pa_cons (pe_tup (pa_cons (pv 3) (pa_cons (pv 5) pa_nil))) pa_nil)))))))), ?_⟩
    have ul := u_len hn12
    have tl : 1 ≤ (U n).length := by
      have e := U_len n
      have : (2 : Nat) ^ 1 ≤ 2 ^ n := Nat.pow_le_pow_right (by decide) hn1
      omega
    have il : (itp (U n)).length = (U n).length := List.length_map ..
    refine ⟨_, rfl, _, rfl, t, _, rfl, .inr (SqT.of ht), a, cl, ns, ix, rest, ((itp (U n)).length : Nat), rfl, hS, by omega, by omega, by omega, h63, fun H1 r ix1 rest1 r0 r1 i1 b1 S1 => ?_⟩
    obtain ⟨s, rfl⟩ : ∃ s : Nat, r = (s : Nat) := ⟨r.toNat, by omega⟩
    have hsl : s ≤ (U n).length := by omega
    intro d hd
    have nda : d ≠ a := fun z => by rw [z, S1.d] at hd; cases hd
    have hd0 : H d = none := by
      cases e : H d with
      | none => rfl
      | some o => rw [b1 _ _ e nda] at hd; cases hd
    refine ⟨_, rfl, (by show 3 ≤ sizeLine; decide), fun t3 ht3 => ?_⟩
    have s1 : Same H1 (upd (upd H1 d (.dK [])) t3 (.tup [.str "", .ref d, .int (s : Nat)])) := same_upd (same_upd (Same.refl H1) hd) ht3
    have d1 : (upd (upd H1 d (.dK [])) t3 (.tup [.str "", .ref d, .int (s : Nat)])) d = some (.dK []) := by
      rw [upd_ne (ne_of_none (upd_same (H := H1) (a := d) (o := .dK [])) ht3)]
      exact upd_same
    refine ⟨t3, _, rfl, SqT.of upd_same, rfl, _, _, rfl, _, _, rfl, _, _, rfl, rfl, ?_⟩
    generalize upd (upd H1 d (.dK [])) t3 (.tup [.str "", .ref d, .int (s : Nat)]) = H2 at s1 d1 ⊢
    have S2 := S1.same s1
    have b2 := b1.same s1
    have c2 : CSt H H2 a cl t d cl ns (U n) ns (fo []) (fun _ => []) ix1 := ⟨b2, ⟨rest1, S2⟩, b2 _ _ ht (ne_of ht hS.d (by intro z; cases z)), S2.c, ⟨fun _ => d, d1, fun x hx => by cases hx⟩, nda, hd0⟩
    -- sizes
    refine ⟨_, rfl, (by show 1 ≤ sizeLine; decide), fun l1 h1 => ?_⟩
    have q1 := same_upd (o := .lst (itp [1])) (Same.refl H2) h1
    have Z1 : (upd H2 l1 (.lst (itp [1]))) l1 = some (.lst (itp [1])) := upd_same
    refine ⟨(by show 3 ≤ sizeLine; decide), fun l2 h2 => ?_⟩
    have q2 := same_upd (o := .lst (itp [1, 1, 2])) (Same.refl _) h2
    have Z1 := q2 _ _ Z1
    have Z2 := upd_same (H := upd H2 l1 (.lst (itp [1]))) (a := l2) (o := .lst (itp [1, 1, 2]))
    refine ⟨(by show 3 ≤ sizeLine; decide), fun l3 h3 => ?_⟩
    have q3 := same_upd (o := .lst (itp [1, 2, 3])) (Same.refl _) h3
    have Z1 := q3 _ _ Z1
    have Z2 := q3 _ _ Z2
    have Z3 := upd_same (H := upd (upd H2 l1 (.lst (itp [1]))) l2 (.lst (itp [1, 1, 2]))) (a := l3) (o := .lst (itp [1, 2, 3]))
    refine ⟨(by show 4 ≤ sizeLine; decide), fun l4 h4 => ?_⟩
    have q4 := same_upd (o := .lst (itp [1, 3, 4, 8])) (Same.refl _) h4
    have Z1 := q4 _ _ Z1
    have Z2 := q4 _ _ Z2
    have Z3 := q4 _ _ Z3
    have Z4 := upd_same (H := upd (upd (upd H2 l1 (.lst (itp [1]))) l2 (.lst (itp [1, 1, 2]))) l3 (.lst (itp [1, 2, 3]))) (a := l4) (o := .lst (itp [1, 3, 4, 8]))
    refine ⟨(by show 4 ≤ sizeLine; decide), fun l5 h5 => ?_⟩
    have q5 := same_upd (o := .lst [V.ref l1, V.ref l2, V.ref l3, V.ref l4]) (Same.refl _) h5
    have Z1 := q5 _ _ Z1
    have Z2 := q5 _ _ Z2
    have Z3 := q5 _ _ Z3
    have Z4 := q5 _ _ Z4
    have Z5 := upd_same (H := upd (upd (upd (upd H2 l1 (.lst (itp [1]))) l2 (.lst (itp [1, 1, 2]))) l3 (.lst (itp [1, 2, 3]))) l4 (.lst (itp [1, 3, 4, 8]))) (a := l5) (o := .lst [V.ref l1, V.ref l2, V.ref l3, V.ref l4])
    have qq := q1.trans (q2.trans (q3.trans (q4.trans q5)))
    generalize hh : upd (upd (upd (upd (upd H2 l1 _) l2 _) l3 _) l4 _) l5 _ = H5
    have qq : Same H2 H5 := by rw [← hh]; exact qq
    have Z1 : H5 l1 = some (.lst (itp [1])) := by rw [← hh]; exact Z1
    have Z2 : H5 l2 = some (.lst (itp [1, 1, 2])) := by rw [← hh]; exact Z2
    have Z3 : H5 l3 = some (.lst (itp [1, 2, 3])) := by rw [← hh]; exact Z3
    have Z4 : H5 l4 = some (.lst (itp [1, 3, 4, 8])) := by rw [← hh]; exact Z4
    have Z5 : H5 l5 = some (.lst [V.ref l1, V.ref l2, V.ref l3, V.ref l4]) := by rw [← hh]; exact Z5
    clear hh
    have S5 := S2.same qq
    refine ⟨a, cl, l5, ns, ix1, rest1, [V.ref l1, V.ref l2, V.ref l3, V.ref l4], rfl, S5, Z5, by simp, by show 4 ≤ 1000; decide, by omega, h63, fun H6 u ix6 rest6 hu6 i6 b6 S6 => ?_⟩
    obtain ⟨sz, zs, rfl, hsz, zne, zlen, zpos⟩ : ∃ (sz : Addr) (zs : List Int), u = .ref sz ∧ H5 sz = some (.lst (itp zs)) ∧ zs ≠ [] ∧ zs.length ≤ 4 ∧ ∀ z ∈ zs, 1 ≤ z ∧ z ≤ 8 := by
      rcases List.mem_cons.mp hu6 with e | hu6
      · exact ⟨l1, _, e, Z1, by simp, by decide, by decide⟩
      rcases List.mem_cons.mp hu6 with e | hu6
      · exact ⟨l2, _, e, Z2, by simp, by decide, by decide⟩
      rcases List.mem_cons.mp hu6 with e | hu6
      · exact ⟨l3, _, e, Z3, by simp, by decide, by decide⟩
      exact ⟨l4, _, List.mem_singleton.mp hu6, Z4, by simp, by decide, by decide⟩
    have c6 := (c2.same qq).draw b6 S6
    have c6 : CSt H H6 a cl t d sz ns (U n) zs (fo []) (fun _ => []) ix6 := ⟨c6.but, c6.src, c6.txt, b6 _ _ hsz (ne_of hsz S5.d (by intro z; cases z)), c6.val, c6.nd, c6.new⟩
    have fin : ∀ (R : List Nat) (v : Nat → List Int) (ix' : Int) (H2 : Hp), CSt H H2 a cl t d sz ns (U n) zs (fo R) v ix' → ix' ≤ ix + 123 → CutInv n M s R v → R.length ≤ 40 → ∀ q, H2 q = none → ∀ p, (upd H2 q (.tup [.int (s : Nat), .ref d])) p = none →
        Q (.ref p) (upd (upd H2 q (.tup [.int (s : Nat), .ref d])) p (.tup [.str (tx R), .ref q])) := by
      intro R v ix' H2 c h1 ci hl q hq p hp
      have z1 := same_upd (o := .tup [.int (s : Nat), .ref d]) (Same.refl H2) hq
      have z2 := same_upd (o := .tup [.str (tx R), .ref q]) (Same.refl _) hp
      have z3 := z2 _ _ (upd_same (H := H2) (a := q) (o := .tup [.int (s : Nat), .ref d]))
      have cc := c.same (z1.trans z2)
      obtain ⟨rest', S'⟩ := cc.src
      exact k _ p q R s v ix' rest' cc.but S' h1 upd_same ⟨d, z3, cc.val⟩ (fo_ok ci hM8 hMl hl) ci.pls ci.ne
    have nms_nil : ∀ {xs : List Nat}, nms xs = [] → xs = [] := fun {xs} h => by
      have q := congrArg List.length h
      rw [nms_len] at q
      exact List.eq_nil_of_length_eq_zero q
    refine ⟨_, rfl, a, cl, ns, ix6, rest6, 40, rfl, S6, by decide, by decide, by omega, h63, fun H7 r ix7 rest7 r70 r71 i7 b7 S7 => ?_⟩
    have c7 := c6.draw b7 S7
    refine ⟨1, r, rfl, rfl, _, rfl, by omega, by omega, for_range (n := (1 + r).toNat) (fun i σ H2 => ∃ (R : List Nat) (v : Nat → List Int) (ix' : Int) (v8 v9 v10 : Option V), σ = [some (.ref a), some (.ref t), some (.str (tx M)), some (.int (s : Nat)), some (.str (tx R)), some (.ref d), some (.int (endp s R v : Nat)), some (.ref sz), v8, v9, v10, none] ∧
        CSt H H2 a cl t d sz ns (U n) zs (fo R) v ix' ∧ ix' ≤ ix + 3 + 3 * (i : Int) ∧ CutInv n M s R v ∧ R.length ≤ i)
      ⟨[], fun _ => [], ix7, _, _, _, rfl, c7, by omega, CutInv.start n s M hsl, Nat.le_refl _⟩ ?_ ?_⟩
    · rintro i σ H2 hi ⟨R, v, ix', v8, v9, v10, rfl, c, hix', ci, hRl⟩
      have foM := ci.ord
      have fo8 : (fo R).length ≤ 8 := by rw [foM, List.length_take, hM8]; omega
      obtain ⟨rest', S'⟩ := c.src
      have ep := ci.endp_le
      refine ⟨_, rfl, _, rfl, (endp s R v : Nat), rfl, _, rfl, _, rfl, _, rfl, a, cl, sz, ns, ix', rest', itp zs, rfl, S', c.sz, (by
          intro z
          have q := congrArg List.length z
          rw [List.length_map] at q
          exact zne (List.eq_nil_of_length_eq_zero q)), by rw [List.length_map]; omega, by omega, h63, fun H3 u ix3 rest3 hu3 i3 b3 S3 => ?_⟩
      obtain ⟨zi, hzi, rfl⟩ := List.mem_map.mp hu3
      obtain ⟨z, rfl⟩ : ∃ z : Nat, zi = (z : Nat) := ⟨zi.toNat, by have := zpos zi hzi; omega⟩
      have c3 := c.draw b3 S3
      refine ⟨_, _, rfl, rfl, _, rfl, slA_of c3.txt fun pz H4 s4 hpz => ?_⟩
      rw [cutV_take _ _ _ (by rw [List.length_map]; exact ep), ← List.map_drop, ← List.map_take] at hpz
      have hpz : H4 pz = some (.tup (itp (piece n s z R v))) := hpz
      have c4 := c3.same s4
      have plen : (piece n s z R v).length ≤ 5000 := by
        unfold piece
        rw [List.length_take, List.length_drop]
        omega
      -- known
      obtain ⟨at_, hd4, hat4⟩ := id c4.val.ex
      refine ⟨d, _, hd4, trivial, fun od => ?_⟩
      refine ⟨_, rfl, d, od, rfl, .inl ⟨_, upd_same, fun L hL => ?_⟩⟩
      have wk := walk_keys (d := d) (o := od) (kvs := vtab (fo R) at_)
      rw [vtab_len] at wk
      refine lc_f (fo R) (fun x => decide (v x = piece n s z R v)) (fun x => V.str (sg x)) wk hL (small1000 (by omega)) (fun H7 s7 => s7 _ _ upd_same) ?_ ?_
      · rintro i x y H7 H8 hx s7 ⟨rfl, key, y', hk1, rfl⟩ N1 N0 n1 n0
        have ek : key = Sum.inr (sg x) := by
          unfold vtab at hk1
          rw [List.getElem?_map, hx] at hk1
          cases hk1
          rfl
        subst ek
        have hxf := List.mem_of_getElem? hx
        have dg : DGet H8 d (.str (sg x)) (some (.ref (at_ x))) := by
          rw [← val_vtab (at_ := at_) hxf]
          exact .inl ⟨_, Sum.inr (sg x), .inr ⟨od, s7 _ _ upd_same⟩, rfl, rfl⟩
        have a8 := s7 _ _ (by rw [upd_ne (ne_of (hat4 x hxf) hd4 (by intro z; cases z))]; exact hat4 x hxf)
        have p8 := s7 _ _ (by rw [upd_ne (ne_of hpz hd4 (by intro z; cases z))]; exact hpz)
        refine ⟨rfl, _, rfl, _, rfl, d, .ref (at_ x), rfl, dg, _, rfl, itd (v x), itd (piece n s z R v), dp_itp (SqT.of a8), dp_itp (SqT.of p8), shaped_itd _, shaped_itd _, _, rfl, ?_⟩
        rw [eqv_itd]
        exact ite2 (fun e => ⟨_, rfl, n1 e _ (Same.refl _)⟩) (fun e => n0 (by simpa using e) _ (Same.refl _))
      intro H7 s7 hL7
      refine ⟨s7 _ _ upd_same, ?_⟩
      have u7 : Same H4 (upd H7 d (.dK (vtab (fo R) at_))) := fun b o e => by
        by_cases z : b = d
        · rw [z, upd_same]
          rw [z, hd4] at e
          exact e
        · rw [upd_ne z]
          exact s7 _ _ (by rw [upd_ne z]; exact e)
      have nL : L ≠ d := fun z => by rw [z, upd_same] at hL; cases hL
      rw [nms_eq] at hL7
      have hL8 : (upd H7 d (.dK (vtab (fo R) at_))) L = some (.lst (nms ((fo R).filter fun x => decide (v x = piece n s z R v)))) := by rw [upd_ne nL]; exact hL7
      generalize upd H7 d (.dK (vtab (fo R) at_)) = H8 at u7 hL8 ⊢
      have c8 := c4.same u7
      have hpz8 := u7 _ _ hpz
      have lowX : Lows ((fo R).filter fun x => decide (v x = piece n s z R v)) := fun x hx => by
        have q := (List.mem_filter.mp hx).1
        rw [foM] at q
        exact hMl x (List.mem_of_mem_take q)
      have lenX : ((fo R).filter fun x => decide (v x = piece n s z R v)).length ≤ 8 := Nat.le_trans (List.length_filter_le _ _) fo8
      -- break?
      refine ⟨_, rfl, (by show 0 ≤ sizeLine; decide), fun e he => ?_⟩
      have s9 := same_upd (o := .tup []) (Same.refl H8) he
      refine ⟨itd (piece n s z R v), itd [], dp_itp (SqT.of (s9 _ _ hpz8)), dp_itp (SqT.of upd_same), shaped_itd _, shaped_itd _, _, rfl, ?_⟩
      rw [eqv_itd]
      have c9 := c8.same s9
      have hpz9 := s9 _ _ hpz8
      have hL9 := s9 _ _ hL8
      generalize upd H8 e (.tup []) = H9 at c9 hpz9 hL9 ⊢
      have hin : (i : Int) < 40 := by omega
      by_cases cp : piece n s z R v = []
      · rw [decide_eq_true cp]
        refine iteT (iteT ?_)
        exact ⟨_, rfl, _, rfl, _, rfl, (by show 2 ≤ sizeLine; decide), fun q hq => ⟨(by show 2 ≤ sizeLine; decide), fun p hp => fin R v _ _ c9 (by omega) ci (by omega) q hq p hp⟩⟩
      · rw [decide_eq_false cp]
        refine iteF ?_
        refine ⟨_, rfl, (by show 0 ≤ sizeLine; decide), fun e2 he2 => ?_⟩
        have s10 := same_upd (o := .lst []) (Same.refl H9) he2
        refine ⟨sD _, sD [], dp_sD (s10 _ _ hL9), dp_sD (by exact upd_same), shaped_sD lowX, shaped_sD lows_nil, _, rfl, ?_⟩
        rw [eqv_sD]
        have c10 := c9.same s10
        have hpz10 := s10 _ _ hpz9
        have hL10 := s10 _ _ hL9
        generalize upd H9 e2 (.lst []) = H10 at c10 hpz10 hL10 ⊢
        obtain ⟨at1, hd1, _⟩ := id c10.val.ex
        by_cases cx : ((fo R).filter fun x => decide (v x = piece n s z R v)) = []
        · rw [decide_eq_true cx]
          refine iteT ?_
          refine ⟨_, rfl, d, _, rfl, hd1, _, rfl, tx M, rfl, by rw [tx_len, hM8]; decide, rfl, _, rfl, ?_⟩
          have ed : decide (V.int (((vtab (fo R) at1).length : Nat) : Int) = V.int (((tx M).length : Nat) : Int)) = decide ((fo R).length = 8) := by
            refine decide_eq_decide.mpr ?_
            rw [vtab_len, tx_len, hM8]
            exact ⟨fun h => by injection h with h; omega, fun h => by rw [h]⟩
          rw [ed]
          by_cases c8' : (fo R).length = 8
          · rw [decide_eq_true c8']
            refine iteT ?_
            exact ⟨_, rfl, _, rfl, _, rfl, (by show 2 ≤ sizeLine; decide), fun q hq => ⟨(by show 2 ≤ sizeLine; decide), fun p hp => fin R v _ _ c10 (by omega) ci (by omega) q hq p hp⟩⟩
          · rw [decide_eq_false c8']
            refine iteF ?_
            refine ⟨_, rfl, (by show 0 ≤ sizeLine; decide), fun e3 he3 => ?_⟩
            have s11 := same_upd (o := .lst []) (Same.refl H10) he3
            refine ⟨sD _, sD [], dp_sD (s11 _ _ hL10), dp_sD (by exact upd_same), shaped_sD lowX, shaped_sD lows_nil, _, rfl, ?_⟩
            rw [eqv_sD, decide_eq_true cx]
            have c11 := c10.same s11
            have hpz11 := s11 _ _ hpz10
            generalize upd H10 e3 (.lst []) = H11 at c11 hpz11 ⊢
            refine iteT (iteT ?_)
            obtain ⟨x, hx⟩ : ∃ x, M[(fo R).length]? = some x := ⟨M[(fo R).length]'(by omega), List.getElem?_eq_getElem _⟩
            obtain ⟨ci2, ef, nx⟩ := ci.fresh (z := z) hMn hx cp
            obtain ⟨at2, hd2, hat2⟩ := c11.val.ex
            refine ⟨_, rfl, _, rfl, d, _, rfl, hd2, tx M, _, x, rfl, rfl, by rw [tx_len, hM8]; decide, by rw [tx_list, vtab_len]; exact atI_nat hx, (by show 1 ≤ sizeLine; decide), fun kn hkn => ?_⟩
            have s12 := same_upd (o := .lst [V.str (sg x)]) (Same.refl _) hkn
            have c12 := c11.same s12
            have hpz12 := s12 _ _ hpz11
            have K12 := upd_same (H := H11) (a := kn) (o := .lst [V.str (sg x)])
            generalize upd _ kn (.lst [V.str (sg x)]) = H12 at s12 c12 hpz12 K12 ⊢
            obtain ⟨kvs, g1, g2, c13⟩ := c12.put nx hpz12
            refine ⟨_, rfl, _, rfl, _, rfl, kn, _, 0, _, rfl, rfl, SqL.of K12, atI_nat (j := 0) rfl, d, _, rfl, DPut.k (k := Sum.inr (sg x)) g1 (small1000 (by omega)), ?_⟩
            have hpz13 : (upd H12 d (.dK (putK kvs (Sum.inr (sg x) : L2.Key) (.ref pz)))) pz = some (.tup (itp (piece n s z R v))) := by rw [upd_ne (ne_of hpz12 g1 (by intro z; cases z))]; exact hpz12
            have K13 : (upd H12 d (.dK (putK kvs (Sum.inr (sg x) : L2.Key) (.ref pz)))) kn = some (.lst (nms [x])) := by rw [upd_ne (ne_of K12 g1 (by intro z; cases z))]; exact K12
            generalize upd H12 d (.dK (putK kvs (Sum.inr (sg x) : L2.Key) (.ref pz))) = H13 at c13 hpz13 K13 ⊢
            obtain ⟨restE, SE⟩ := c13.src
            refine ⟨_, rfl, _, rfl, _, rfl, a, cl, kn, ns, _, restE, nms [x], rfl, SE, K13, (fun z => by cases z), (by show 1 ≤ 1000; decide), by omega, h63, fun H15 u ix15 rest15 hu15 i15 b15 S15 => ?_⟩
            obtain ⟨y, hy, rfl⟩ : ∃ y ∈ [x], u = .str (sg y) := by
              obtain ⟨z1, hz1, e1⟩ := List.mem_map.mp hu15
              obtain ⟨z2, hz2, e2⟩ := List.mem_map.mp hz1
              exact ⟨z2, hz2, by rw [e2, e1]⟩
            have c15 := c13.draw b15 S15
            have hpz15 := b15 _ _ hpz13 (ne_of hpz13 SE.d (by intro z; cases z))
            refine ⟨tx R, sg y, rfl, rfl, by rw [tx_len, sizeLine_eq]; show R.length + 1 ≤ _; omega, _, rfl, _, rfl, pz, _, rfl, .inr (SqT.of hpz15), _, _, rfl, rfl, ?_⟩
            have hyx : y = x := List.mem_singleton.mp hy
            subst hyx
            have e1 : tx R ++ sg y = tx (R ++ [y]) := tx_app R [y]
            have e2 : ((endp s R v : Nat) : Int) + ((itp (piece n s z R v)).length : Nat) = ((endp s (R ++ [y]) (fun u => if u = y then piece n s z R v else v u) : Nat) : Int) := by rw [endp_fresh nx, List.length_map]; omega
            exact ⟨_, _, rfl, R ++ [y], _, ix15, _, _, _, by rw [← e1, ← e2]; rfl, by rw [ef]; exact c15, by omega, ci2, by rw [List.length_append]; show R.length + 1 ≤ _; omega⟩
        · rw [decide_eq_false cx]
          refine iteF (iteF ?_)
          refine ⟨_, rfl, (by show 0 ≤ sizeLine; decide), fun e3 he3 => ?_⟩
          have s11 := same_upd (o := .lst []) (Same.refl H10) he3
          refine ⟨sD _, sD [], dp_sD (s11 _ _ hL10), dp_sD (by exact upd_same), shaped_sD lowX, shaped_sD lows_nil, _, rfl, ?_⟩
          rw [eqv_sD, decide_eq_false cx]
          have c11 := c10.same s11
          have hpz11 := s11 _ _ hpz10
          have hL11 := s11 _ _ hL10
          have hd11 := s11 _ _ hd1
          generalize upd H10 e3 (.lst []) = H11 at c11 hpz11 hL11 hd11 ⊢
          refine iteF ?_
          refine ⟨_, rfl, d, _, rfl, hd11, _, rfl, tx M, rfl, by rw [tx_len, hM8]; decide, _, _, rfl, rfl, _, rfl, ?_⟩
          rw [vtab_len, tx_len, hM8]
          by_cases c8' : (fo R).length < 8
          · rw [decide_eq_true (show (((fo R).length : Nat) : Int) < ((8 : Nat) : Int) by omega)]
            refine iteT ?_
            obtain ⟨rest11, S11⟩ := c11.src
            refine ⟨_, rfl, a, cl, ns, _, rest11, 9, rfl, S11, by decide, by decide, by omega, h63, fun H14 r14 ix14 rest14 r140 r141 i14 b14 S14 => ?_⟩
            have c14 := c11.draw b14 S14
            have hpz14 := b14 _ _ hpz11 (ne_of hpz11 S11.d (by intro z; cases z))
            have hL14 := b14 _ _ hL11 (ne_of hL11 S11.d (by intro z; cases z))
            refine ⟨rfl, _, rfl, ?_⟩
            refine ite2 (fun e14 => ?_) (fun e14 => ?_)
            · skip
              obtain ⟨x, hx⟩ : ∃ x, M[(fo R).length]? = some x := ⟨M[(fo R).length]'(by omega), List.getElem?_eq_getElem _⟩
              obtain ⟨ci2, ef, nx⟩ := ci.fresh (z := z) hMn hx cp
              obtain ⟨at2, hd2, hat2⟩ := c14.val.ex
              refine ⟨_, rfl, _, rfl, d, _, rfl, hd2, tx M, _, x, rfl, rfl, by rw [tx_len, hM8]; decide, by rw [tx_list, vtab_len]; exact atI_nat hx, (by show 1 ≤ sizeLine; decide), fun kn hkn => ?_⟩
              have s12 := same_upd (o := .lst [V.str (sg x)]) (Same.refl _) hkn
              have c12 := c14.same s12
              have hpz12 := s12 _ _ hpz14
              have K12 := upd_same (H := H14) (a := kn) (o := .lst [V.str (sg x)])
              generalize upd _ kn (.lst [V.str (sg x)]) = H12 at s12 c12 hpz12 K12 ⊢
              obtain ⟨kvs, g1, g2, c13⟩ := c12.put nx hpz12
              refine ⟨_, rfl, _, rfl, _, rfl, kn, _, 0, _, rfl, rfl, SqL.of K12, atI_nat (j := 0) rfl, d, _, rfl, DPut.k (k := Sum.inr (sg x)) g1 (small1000 (by omega)), ?_⟩
              have hpz13 : (upd H12 d (.dK (putK kvs (Sum.inr (sg x) : L2.Key) (.ref pz)))) pz = some (.tup (itp (piece n s z R v))) := by rw [upd_ne (ne_of hpz12 g1 (by intro z; cases z))]; exact hpz12
              have K13 : (upd H12 d (.dK (putK kvs (Sum.inr (sg x) : L2.Key) (.ref pz)))) kn = some (.lst (nms [x])) := by rw [upd_ne (ne_of K12 g1 (by intro z; cases z))]; exact K12
              generalize upd H12 d (.dK (putK kvs (Sum.inr (sg x) : L2.Key) (.ref pz))) = H13 at c13 hpz13 K13 ⊢
              obtain ⟨restE, SE⟩ := c13.src
              refine ⟨_, rfl, _, rfl, _, rfl, a, cl, kn, ns, _, restE, nms [x], rfl, SE, K13, (fun z => by cases z), (by show 1 ≤ 1000; decide), by omega, h63, fun H15 u ix15 rest15 hu15 i15 b15 S15 => ?_⟩
              obtain ⟨y, hy, rfl⟩ : ∃ y ∈ [x], u = .str (sg y) := by
                obtain ⟨z1, hz1, e1⟩ := List.mem_map.mp hu15
                obtain ⟨z2, hz2, e2⟩ := List.mem_map.mp hz1
                exact ⟨z2, hz2, by rw [e2, e1]⟩
              have c15 := c13.draw b15 S15
              have hpz15 := b15 _ _ hpz13 (ne_of hpz13 SE.d (by intro z; cases z))
              refine ⟨tx R, sg y, rfl, rfl, by rw [tx_len, sizeLine_eq]; show R.length + 1 ≤ _; omega, _, rfl, _, rfl, pz, _, rfl, .inr (SqT.of hpz15), _, _, rfl, rfl, ?_⟩
              have hyx : y = x := List.mem_singleton.mp hy
              subst hyx
              have e1 : tx R ++ sg y = tx (R ++ [y]) := tx_app R [y]
              have e2 : ((endp s R v : Nat) : Int) + ((itp (piece n s z R v)).length : Nat) = ((endp s (R ++ [y]) (fun u => if u = y then piece n s z R v else v u) : Nat) : Int) := by rw [endp_fresh nx, List.length_map]; omega
              exact ⟨_, _, rfl, R ++ [y], _, ix15, _, _, _, by rw [← e1, ← e2]; rfl, by rw [ef]; exact c15, by omega, ci2, by rw [List.length_append]; show R.length + 1 ≤ _; omega⟩
            · skip
              obtain ⟨restE, SE⟩ := c14.src
              refine ⟨_, rfl, _, rfl, _, rfl, a, cl, L, ns, _, restE, nms ((fo R).filter fun x => decide (v x = piece n s z R v)), rfl, SE, hL14, (fun z => cx (nms_nil z)), by rw [nms_len]; omega, by omega, h63, fun H15 u ix15 rest15 hu15 i15 b15 S15 => ?_⟩
              obtain ⟨y, hy, rfl⟩ : ∃ y ∈ ((fo R).filter fun x => decide (v x = piece n s z R v)), u = .str (sg y) := by
                obtain ⟨z1, hz1, e1⟩ := List.mem_map.mp hu15
                obtain ⟨z2, hz2, e2⟩ := List.mem_map.mp hz1
                exact ⟨z2, hz2, by rw [e2, e1]⟩
              have c15 := c14.draw b15 S15
              have hpz15 := b15 _ _ hpz14 (ne_of hpz14 SE.d (by intro z; cases z))
              refine ⟨tx R, sg y, rfl, rfl, by rw [tx_len, sizeLine_eq]; show R.length + 1 ≤ _; omega, _, rfl, _, rfl, pz, _, rfl, .inr (SqT.of hpz15), _, _, rfl, rfl, ?_⟩
              have hyq := List.mem_filter.mp hy
              have hyR := (mem_fo R y).mp hyq.1
              have hyv : v y = piece n s z R v := of_decide_eq_true hyq.2
              obtain ⟨ci2, ef⟩ := ci.known hyR hyv
              have e1 : tx R ++ sg y = tx (R ++ [y]) := tx_app R [y]
              have e2 : ((endp s R v : Nat) : Int) + ((itp (piece n s z R v)).length : Nat) = ((endp s (R ++ [y]) v : Nat) : Int) := by rw [endp_known, hyv, List.length_map]; omega
              exact ⟨_, _, rfl, R ++ [y], v, ix15, _, _, _, by rw [← e1, ← e2]; rfl, by rw [ef]; exact c15, by omega, ci2, by rw [List.length_append]; show R.length + 1 ≤ _; omega⟩
          · rw [decide_eq_false (show ¬ (((fo R).length : Nat) : Int) < ((8 : Nat) : Int) by omega)]
            refine iteF (iteF ?_)
            obtain ⟨restE, SE⟩ := c11.src
            refine ⟨_, rfl, _, rfl, _, rfl, a, cl, L, ns, _, restE, nms ((fo R).filter fun x => decide (v x = piece n s z R v)), rfl, SE, hL11, (fun z => cx (nms_nil z)), by rw [nms_len]; omega, by omega, h63, fun H15 u ix15 rest15 hu15 i15 b15 S15 => ?_⟩
            obtain ⟨y, hy, rfl⟩ : ∃ y ∈ ((fo R).filter fun x => decide (v x = piece n s z R v)), u = .str (sg y) := by
              obtain ⟨z1, hz1, e1⟩ := List.mem_map.mp hu15
              obtain ⟨z2, hz2, e2⟩ := List.mem_map.mp hz1
              exact ⟨z2, hz2, by rw [e2, e1]⟩
            have c15 := c11.draw b15 S15
            have hpz15 := b15 _ _ hpz11 (ne_of hpz11 SE.d (by intro z; cases z))
            refine ⟨tx R, sg y, rfl, rfl, by rw [tx_len, sizeLine_eq]; show R.length + 1 ≤ _; omega, _, rfl, _, rfl, pz, _, rfl, .inr (SqT.of hpz15), _, _, rfl, rfl, ?_⟩
            have hyq := List.mem_filter.mp hy
            have hyR := (mem_fo R y).mp hyq.1
            have hyv : v y = piece n s z R v := of_decide_eq_true hyq.2
            obtain ⟨ci2, ef⟩ := ci.known hyR hyv
            have e1 : tx R ++ sg y = tx (R ++ [y]) := tx_app R [y]
            have e2 : ((endp s R v : Nat) : Int) + ((itp (piece n s z R v)).length : Nat) = ((endp s (R ++ [y]) v : Nat) : Int) := by rw [endp_known, hyv, List.length_map]; omega
            exact ⟨_, _, rfl, R ++ [y], v, ix15, _, _, _, by rw [← e1, ← e2]; rfl, by rw [ef]; exact c15, by omega, ci2, by rw [List.length_append]; show R.length + 1 ≤ _; omega⟩
    · rintro σ H2 ⟨R, v, ix', v8, v9, v10, rfl, c, hix', ci, hRl⟩
      exact ⟨_, rfl, _, rfl, _, rfl, (by show 2 ≤ sizeLine; decide), fun q hq => ⟨(by show 2 ≤ sizeLine; decide), fun p hp => fin R v _ _ c (by omega) ci (by omega) q hq p hp⟩⟩
end
end MO
set_option Elab.async false
set_option linter.all false
set_option maxRecDepth 100000
/-! the law: the chain of a place -/
namespace MO
open PySem PySem.Spec PyProof.Rows L2 XS KM
abbrev sLCoP : Stmt := top 68
section
variable {P : Program} {w : World} {K : PySem.W.Frag} {mg : Str → Option Value} {base : Heap}
abbrev NLQ : List Str := ["_law_place", "_law_values", "_law_steps", "_law_letters", "_law_later", "_law_name", "_law_letter"]
def spLCoP : Sp := fun vs H Q _ => ∃ (R : List Nat) (n : Nat) (pl : Addr) (s : Nat) (v : Nat → List Int), vs = [.ref pl] ∧ PatOk R ∧ PlaceAt H pl s (fo R) v ∧ PlS n R v s ∧ n ≤ 12 ∧ (∀ x ∈ R, v x ≠ []) ∧
  ∀ H' p steps, Same H H' → H' p = some (.lst (tlist steps)) → IsCh R steps → steps.length ≤ n → Q (.ref p) H'
theorem scLCoP : FnScope NLQ ["_law_place"] (defScope sLCoP) := ⟨rfl, rfl, rfl, by decide +kernel, rfl, by decide +kernel, by decide +kernel⟩
theorem d_law_chain_of_place (p : Pl K mg "_law_chain_of_place" sLCoP) (T : Bt mg) : Dn P w K mg base 1 "_law_chain_of_place" ["_law_place"] spLCoP := by
  refine p.dn scLCoP (fun _ _ _ _ _ _ us hl => match us, hl with | [_], _ => rfl) (fun vs H Q E h => ?_) (fun f cdv A outer s H vs Q E hr h => ?_)
  · obtain ⟨R, n, pl, st, v, rfl, _⟩ := h
    rfl
  · obtain ⟨R, n, pl, st, v, rfl, ok, hp, hS, h12, hv, k⟩ := h
    have hu := hu_of hr
    refine ⟨_, pss_cons (ps_asg (pe_tup (pa_cons (pe_callTy call_dictD (by rfl) T.dict (by decide +kernel) (pa_cons (pe_ix ix_tup (pv 0) pe_int (fun _ _ => rfl)) pa_nil)) (pa_cons (pe_lst pa_nil) pa_nil)))
        (pg_tup rfl (pgs_cons (pg_name (i := 1) scLCoP.nd rfl (Or.inr rfl)) (pgs_cons (pg_name (i := 2) scLCoP.nd rfl (Or.inl rfl)) pgs_nil))))
      (pss_cons (ps_while PassesOwn.never (pt_cmpR (op_neNone (Nat.lt_of_succ_lt hu)) (pv 1) pe_dnewK (nomark _))
        (pss_cons (ps_set (i := 3) scLCoP.nd rfl (.inl rfl) (pe_join pe_str (pe_callB cr_sortedS (by rfl) T.sorted (by decide +kernel) (pa_cons
          (pe_lock (pe_lc (own := [("_law_name", 5)]) (g := gName 5) rfl scLCoP.nd (pi_keys (pv 1)) (blkOk_by (N := NLQ) (sc := defScope sLCoP) (by decide +kernel))
            (fun _ _ _ _ _ => pg_name (i := 5) scLCoP.nd rfl (Or.inl rfl)) (fun _ _ _ _ _ => pts_one (pt_cmpR (op_eqDK K hr.units) (pe_dget hu (pv 1) (pv 5) (fun _ _ => rfl)) (pe_tup (pa_cons pe_int pa_nil)) (nomark _)))
            (fun _ _ _ _ _ => pv 5))) pa_nil))))
        (pss_cons (ps_if (pt_cmpR op_ne (pv 3) pe_str (nomark _)) (pss_one (ps_expr (pe_bm PySem.F.plainAttrs_list PySem.F.slot_list_append PySem.F.type_list_append mt_append (pv 2) (pa_cons (pv 3) pa_nil)))) pss_nil)
        (pss_cons (ps_set (i := 4) scLCoP.nd rfl (.inl rfl) pe_dnewK)
        (pss_cons (ps_lock (ps_for PassesOwn.never rfl (pi_keys (pv 1)) (pg_name (i := 5) scLCoP.nd rfl (Or.inl rfl))
          (pss_one (ps_if (pt_cmpR op_notIn_sign (pv 5) (pv 3) (by rfl))
            (pss_one (ps_dput hu (pv 4) (pv 5) (pe_callTy call_tuple_of (by rfl) T.tuple (by decide +kernel) (pa_cons
              (pe_lc (own := [("_law_letter", 6)]) (g := gName 6) rfl scLCoP.nd (pi_tup (pe_dget hu (pv 1) (pv 5) (fun _ _ => rfl))) (blkOk_by (N := NLQ) (sc := defScope sLCoP) (by decide +kernel))
                (fun _ _ _ _ _ => pg_name (i := 6) scLCoP.nd rfl (Or.inl rfl)) (fun _ _ _ _ _ => pts_one (pt_cmpR op_gt (pv 6) pe_int (nomark _)))
                (fun _ _ _ _ _ => pe_op op_sub (pv 6) pe_int)) pa_nil)) rfl)) pss_nil))))
        (pss_one (ps_set (i := 1) scLCoP.nd rfl (.inr rfl) (pv 4))))))))
      (pss_one (ps_ret (pv 2)))), ?_⟩
    obtain ⟨d0, hpl, hd0⟩ := hp.ex
    obtain ⟨at0, hd00, hat0⟩ := id hd0.ex
    refine ⟨_, rfl, pl, _, 1, _, rfl, rfl, SqT.of hpl, atI_nat (j := 1) rfl, d0, _, rfl, .inl hd00, fun d hd => ?_⟩
    have s1 := same_upd (o := .dK (vtab (fo R) at0)) (Same.refl H) hd
    have D1 : (upd H d (.dK (vtab (fo R) at0))) d = some (.dK (vtab (fo R) at0)) := upd_same
    generalize upd H d (.dK (vtab (fo R) at0)) = H1 at s1 D1 ⊢
    refine ⟨(by show 0 ≤ sizeLine; decide), fun ls hls => ?_⟩
    have hln := s1.free hls
    have s2 := same_upd (o := .lst []) (Same.refl H1) hls
    have LS : (upd H1 ls (.lst [])) ls = some (.lst []) := upd_same
    have D1 := s2 _ _ D1
    have s2 := s1.trans s2
    generalize upd H1 ls (.lst []) = H2 at s2 D1 LS ⊢
    refine ⟨(by show 2 ≤ sizeLine; decide), fun t2 ht2 => ?_⟩
    have s3 := same_upd (o := .tup [.ref d, .ref ls]) (Same.refl H2) ht2
    have D1 := s3 _ _ D1
    have LS := s3 _ _ LS
    have s3 := s2.trans s3
    refine ⟨t2, _, rfl, SqT.of upd_same, rfl, _, _, rfl, _, _, rfl, rfl, ?_⟩
    generalize upd H2 t2 (.tup [.ref d, .ref ls]) = H3 at s3 D1 LS ⊢
    have l8 := ok.vars
    refine ⟨fun m σ H4 => ∃ dv R' ks v done v3 v4 v5, σ = [some (.ref pl), some (.ref dv), some (.ref ls), v3, v4, v5, none] ∧ Same H H4 ∧ ValsAt H4 dv ks v ∧ H4 ls = some (.lst (tlist done)) ∧ Down R n done R' ks v m ∧ ks.length ≤ 8,
      ⟨n, d, R, fo R, v, [], _, _, _, rfl, s3, ⟨at0, D1, fun x hx => s3 _ _ (hat0 x hx)⟩, LS, Down.start (pl_of hS hv), l8⟩, ?_⟩
    rintro m σ H4 ⟨dv, R', ks, v', done, v3, v4, v5, rfl, s4', va, hls4, dw, kl⟩
    obtain ⟨at_, hdv, hat⟩ := va.ex
    refine ⟨_, rfl, fun e he => ?_⟩
    have s5 := same_upd (o := .dK []) (Same.refl H4) he
    refine ⟨dv, e, vtab ks at_, rfl, rfl, s5 _ _ hdv, upd_same, _, rfl, ?_⟩
    have va5 := va.same s5
    have hls5 := s5 _ _ hls4
    have s45 := s4'.trans s5
    have hd5 := s5 _ _ hdv
    have hat5 : ∀ x ∈ ks, (upd H4 e (.dK [])) (at_ x) = some (.tup (itp (v' x))) := fun x hx => s5 _ _ (hat x hx)
    generalize upd H4 e (.dK []) = H5 at va5 hls5 s45 hd5 hat5 ⊢
    have lm : done.length + m ≤ n := dw.len
    by_cases hk : ks = []
    · subst hk
      obtain ⟨c1, c2⟩ := dw.stop
      exact iteF ⟨_, rfl, k H5 ls done s45 hls5 c1 c2⟩
    · have e0 : (!(vtab ks at_).isEmpty) = true := by
        obtain ⟨x, r, e⟩ := List.exists_cons_of_ne_nil hk
        rw [e]
        rfl
      rw [e0]
      refine iteT ?_
      have vlen : ∀ x ∈ ks, (v' x).length ≤ 5000 := fun x hx => Nat.le_trans (sub_len2 (dw.pl.one (dw.pl.sup x hx)) (by omega)) (by decide)
      refine ⟨fun σ' H' => ∃ m', m' < m ∧ ∃ dv R' ks v done v3 v4 v5, σ' = [some (.ref pl), some (.ref dv), some (.ref ls), v3, v4, v5, none] ∧ Same H H' ∧ ValsAt H' dv ks v ∧ H' ls = some (.lst (tlist done)) ∧ Down R n done R' ks v m' ∧ ks.length ≤ 8,
        fun _ _ z => z, ?_⟩
      refine ⟨⟨_, rfl⟩, dv, _, hd5, trivial, fun od => ?_⟩
      refine ⟨_, rfl, dv, od, rfl, .inl ⟨_, upd_same, fun L hL => ?_⟩⟩
      have wk := walk_keys (d := dv) (o := od) (kvs := vtab ks at_)
      rw [vtab_len] at wk
      refine lc_f ks (fun x => decide (v' x = [0])) (fun x => V.str (sg x)) wk hL (small1000 (by omega)) (fun H7 s7 => s7 _ _ upd_same) ?_ ?_
      · rintro i x y H7 H8 hx s7 ⟨rfl, key, y', hk1, rfl⟩ N1 N0 n1 n0
        have ek : key = Sum.inr (sg x) := by
          unfold vtab at hk1
          rw [List.getElem?_map, hx] at hk1
          cases hk1
          rfl
        subst ek
        have hxk := List.mem_of_getElem? hx
        have dg : DGet H8 dv (.str (sg x)) (some (.ref (at_ x))) := by
          rw [← val_vtab (at_ := at_) hxk]
          exact .inl ⟨_, Sum.inr (sg x), .inr ⟨od, s7 _ _ upd_same⟩, rfl, rfl⟩
        have a8 := s7 _ _ (by rw [upd_ne (ne_of (hat5 x hxk) hd5 (by intro z; cases z))]; exact hat5 x hxk)
        refine ⟨rfl, _, rfl, _, rfl, dv, .ref (at_ x), rfl, dg, (by show 1 ≤ sizeLine; decide), fun t ht => ?_⟩
        have s8 := same_upd (o := .tup (itp [0])) (Same.refl H8) ht
        refine ⟨itd (v' x), itd [0], dp_itp (SqT.of (s8 _ _ a8)), dp_itp (SqT.of upd_same), shaped_itd _, shaped_itd _, _, rfl, ?_⟩
        rw [eqv_itd]
        exact ite2 (fun e => ⟨_, rfl, n1 e _ s8⟩) (fun e => n0 (by simpa using e) _ s8)
      intro H7 s7 hL7
      refine ⟨s7 _ _ upd_same, ?_⟩
      have u7 : Same H5 (upd H7 dv (.dK (vtab ks at_))) := fun b o e => by
        by_cases z : b = dv
        · rw [z, upd_same]
          rw [z, hd5] at e
          exact e
        · rw [upd_ne z]
          exact s7 _ _ (by rw [upd_ne z]; exact e)
      have nL : L ≠ dv := fun z => by rw [z, upd_same] at hL; cases hL
      have hL8 : (upd H7 dv (.dK (vtab ks at_))) L = some (.lst ((ks.filter fun x => decide (v' x = [0])).map fun x => V.str (sg x))) := by rw [upd_ne nL]; exact hL7
      generalize upd H7 dv (.dK (vtab ks at_)) = H8 at u7 hL8 ⊢
      refine ⟨L, (ks.filter fun x => decide (v' x = [0])).map sg, rfl, SqL.of (by rw [hL8, List.map_map]; rfl), ?_, fun ys q pm srt hq => ?_⟩
      · rw [List.length_map]
        exact Nat.lt_of_le_of_lt (List.length_filter_le _ _) (by omega)
      obtain ⟨E2, rfl, pE, aE⟩ := sorted_form pm (sortedS_pw srt) (dw.pl.nd.sublist List.filter_sublist)
      have elen : E2.length ≤ 8 := by
        rw [pE.length_eq]
        exact Nat.le_trans (List.length_filter_le _ _) kl
      have u9 := u7.trans (same_upd (o := .lst ((E2.map sg).map V.str)) (Same.refl _) hq)
      refine ⟨_, q, E2.map sg, rfl, rfl, .inl (SqL.of upd_same), join_room (by omega), ?_⟩
      have j : Txt.join ("" : Str) (E2.map sg) = tx E2 := join_sg E2
      rw [j]
      generalize upd H8 q (.lst ((E2.map sg).map V.str)) = H9 at u9 ⊢
      have s9 := s45.trans u9
      have hls9 := u9 _ _ hls5
      have va9 := va5.same u9
      have hD : ∀ x, x ∈ E2 ↔ x ∈ gone ks v' := fun x => by
        rw [pE.mem_iff, List.mem_filter, decide_eq_true_eq]
        unfold gone
        rw [List.mem_filter, List.isEmpty_iff]
        exact ⟨fun ⟨z1, z2⟩ => ⟨z1, (dw.pl.low0 z1).mpr z2⟩, fun ⟨z1, z2⟩ => ⟨z1, (dw.pl.low0 z1).mp z2⟩⟩
      obtain ⟨jj, R2, em, dw2⟩ := dw.next hk hD aE
      have ll : (left ks v').length ≤ 8 := Nat.le_trans (List.length_filter_le _ _) kl
      refine ⟨_, rfl, rfl, _, rfl, ?_⟩
      have dE : decide (V.str (tx E2) = V.str ("" : Str)) = decide (E2 = []) := by
        refine decide_eq_decide.mpr ?_
        rw [str_inj]
        exact ⟨fun z => tx_inj (b := []) z, fun z => by rw [z]; rfl⟩
      rw [dE]
      by_cases cE : E2 = []
      · rw [decide_eq_true cE]
        rw [if_pos cE] at dw2
        refine iteF ?_
        refine fun df hdf => ?_
        have ndls : ls ≠ df := fun z => by rw [← z, hls9] at hdf; cases hdf
        obtain ⟨at9, hdv9, hat9⟩ := id va9.ex
        have ndf : df ≠ dv := fun z => by rw [z, hdv9] at hdf; cases hdf
        have sF := same_upd (o := .dK []) (Same.refl H9) hdf
        refine ⟨dv, _, sF _ _ hdv9, trivial, fun od2 => ?_⟩
        refine ⟨_, rfl, dv, od2, rfl, .inl ⟨_, upd_same, ?_⟩⟩
        have wk2 := walk_keys (d := dv) (o := od2) (kvs := vtab ks at9)
        rw [vtab_len] at wk2
        refine for_it wk2 (fun i σ H2 => ∃ v5, σ = [some (.ref pl), some (.ref dv), some (.ref ls), some (.str (tx E2)), some (.ref df), v5, none] ∧ But dv H9 H2 ∧ H2 dv = some (.frz od2 (.dK (vtab ks at9))) ∧ ValsAt H2 df (left (ks.take i) v') (fun x => low (v' x)))
          ⟨_, rfl, fun b o e n => by rw [upd_ne n]; exact sF _ _ e, upd_same, fun _ => dv, by rw [upd_ne ndf, upd_same]; rfl, fun x hx => by cases hx⟩ (fun i σ H2 _ ⟨_, _, _, q, _⟩ => q) ?_ ?_
        · rintro i y σ H2 H3 hi ⟨v5, rfl, b2, f2, vb⟩ ⟨rfl, key, y', hk1, rfl⟩
          obtain ⟨x, hx, hxk⟩ : ∃ x, ks[i]? = some x ∧ x ∈ ks := ⟨ks[i], List.getElem?_eq_getElem hi, List.getElem_mem hi⟩
          have ek : key = Sum.inr (sg x) := by
            unfold vtab at hk1
            rw [List.getElem?_map, hx] at hk1
            cases hk1
            rfl
          subst ek
          have et : ks.take (i + 1) = ks.take i ++ [x] := by rw [List.take_add_one, hx]; rfl
          refine ⟨_, rfl, _, rfl, x, _, rfl, rfl, _, rfl, ?_⟩
          rw [tx_list]
          by_cases c : low (v' x) = []
          · have hxE : x ∈ E2 := (hD x).mpr (List.mem_filter.mpr ⟨hxk, by rw [c]; rfl⟩)
            rw [decide_eq_true hxE]
            refine iteF ⟨_, rfl, b2, f2, ?_⟩
            rw [et, left_snoc, if_pos c]
            exact vb
          · have hxE : x ∉ E2 := fun z => c (List.isEmpty_iff.mp (List.mem_filter.mp ((hD x).mp z)).2)
            rw [decide_eq_false hxE]
            refine iteT ?_
            have dg : DGet H3 dv (.str (sg x)) (some (.ref (at9 x))) := by
              rw [← val_vtab (at_ := at9) hxk]
              exact .inl ⟨_, Sum.inr (sg x), .inr ⟨od2, f2⟩, rfl, rfl⟩
            have hat3 := b2 _ _ (hat9 x hxk) (ne_of (hat9 x hxk) hdv9 (by intro z; cases z))
            refine ⟨_, rfl, _, rfl, dv, .ref (at9 x), rfl, dg, at9 x, rfl, ⟨_, SqT.of hat3⟩, fun L2 hL2 => lc_f (v' x) (fun l => decide (0 < l)) (fun l => V.int (l - 1)) (by have w2 := walk_tup (K := K) (a := at9 x) (xs := itp (v' x)); rw [List.length_map] at w2; exact w2) hL2 (Nat.lt_of_le_of_lt (vlen x hxk) (by decide)) (fun H4 s4 => same_seqT s4 (SqT.of hat3)) ?_ ?_⟩
            · rintro j l y H4 H5 hj s4 ⟨rfl, hy⟩ N1 N0 n1 n0
              rw [List.getElem?_map, hj] at hy
              cases hy
              refine ⟨rfl, _, rfl, _, _, rfl, rfl, _, rfl, ?_⟩
              refine ite2 (fun e => ⟨_, rfl, _, _, rfl, rfl, n1 e _ (Same.refl _)⟩) (fun e => n0 (by simpa using e) _ (Same.refl _))
            · intro H4 s4 hd4
              rw [low_eq] at hd4
              refine ⟨L2, _, rfl, .inl ⟨SqL.of hd4, fun t ht => ?_⟩⟩
              have s5 := s4.trans (same_upd (o := .tup (itp (low (v' x)))) (Same.refl _) ht)
              have ht5 : (upd H4 t (.tup (itp (low (v' x))))) t = some (.tup (itp (low (v' x)))) := upd_same
              generalize upd H4 t (.tup (itp (low (v' x)))) = H5 at s5 ht5 ⊢
              have b6 := b2.same s5
              have f6 := s5 _ _ f2
              have nx : x ∉ left (ks.take i) v' := fun z => nd_take dw.pl.nd hx (List.mem_filter.mp z).1
              obtain ⟨kvs, g1, g2, g3⟩ := (vb.same s5).put nx ht5
              have kl2 : kvs.length ≤ 100 := by
                rw [g2]
                refine Nat.le_trans (List.length_filter_le _ _) ?_
                rw [List.length_take]
                omega
              refine ⟨_, rfl, _, rfl, df, _, rfl, DPut.k (k := Sum.inr (sg x)) g1 (small1000 (by omega)), ?_⟩
              refine ⟨_, rfl, fun b o e n => by rw [upd_ne (ne_of_none e hdf)]; exact b6 _ _ e n, by rw [upd_ne ndf.symm]; exact f6, ?_⟩
              rw [et, left_snoc, if_neg c]
              exact g3.congr fun y _ => by
                by_cases z : y = x
                · rw [if_pos z, z]
                · rw [if_neg z]
        · rintro σ H2 ⟨v5, rfl, b2, f2, vb⟩
          rw [List.take_length] at vb
          have sE : Same H9 (upd H2 dv (.dK (vtab ks at9))) := fun b o e => by
            by_cases z : b = dv
            · rw [z, upd_same]
              rw [z, hdv9] at e
              exact e
            · rw [upd_ne z]
              exact b2 _ _ e z
          refine ⟨f2, _, rfl, jj, by omega, df, R2, left ks v', _, done, _, _, _, rfl, s9.trans sE, ?_, sE _ _ hls9, dw2, ll⟩
          obtain ⟨at2, g1, g2⟩ := vb.ex
          exact ⟨at2, by rw [upd_ne ndf]; exact g1, fun x hx => by rw [upd_ne (ne_of (g2 x hx) f2 (by intro z; cases z))]; exact g2 x hx⟩
      · rw [decide_eq_false cE]
        rw [if_neg cE] at dw2
        refine iteT ⟨_, rfl, .inl ⟨rfl, _, SqL.of hls9⟩, _, rfl, ls, _, _, rfl, rfl, hls9, by rw [List.length_map]; exact small1000 (by omega), ?_⟩
        have s10 : Same H (upd H9 ls (.lst (tlist done ++ [V.str (tx E2)]))) := fun b o e => by
          rw [upd_ne (ne_of_none e hln)]
          exact s9 _ _ e
        have va10 : ValsAt (upd H9 ls (.lst (tlist done ++ [V.str (tx E2)]))) dv ks v' := by
          obtain ⟨at8, z1, z2⟩ := va9.ex
          exact ⟨at8, by rw [upd_ne (ne_of z1 hls9 (by intro z; cases z))]; exact z1, fun x hx => by rw [upd_ne (ne_of (z2 x hx) hls9 (by intro z; cases z))]; exact z2 x hx⟩
        have hls10 : (upd H9 ls (.lst (tlist done ++ [V.str (tx E2)]))) ls = some (.lst (tlist (done ++ [E2]))) := by
          rw [upd_same]
          unfold tlist
          rw [List.map_append]
          rfl
        generalize upd H9 ls (.lst (tlist done ++ [V.str (tx E2)])) = H10 at s10 va10 hls10 ⊢
        refine fun df hdf => ?_
        have ndls : ls ≠ df := fun z => by rw [← z, hls10] at hdf; cases hdf
        obtain ⟨at9, hdv9, hat9⟩ := id va10.ex
        have ndf : df ≠ dv := fun z => by rw [z, hdv9] at hdf; cases hdf
        have sF := same_upd (o := .dK []) (Same.refl H10) hdf
        refine ⟨dv, _, sF _ _ hdv9, trivial, fun od2 => ?_⟩
        refine ⟨_, rfl, dv, od2, rfl, .inl ⟨_, upd_same, ?_⟩⟩
        have wk2 := walk_keys (d := dv) (o := od2) (kvs := vtab ks at9)
        rw [vtab_len] at wk2
        refine for_it wk2 (fun i σ H2 => ∃ v5, σ = [some (.ref pl), some (.ref dv), some (.ref ls), some (.str (tx E2)), some (.ref df), v5, none] ∧ But dv H10 H2 ∧ H2 dv = some (.frz od2 (.dK (vtab ks at9))) ∧ ValsAt H2 df (left (ks.take i) v') (fun x => low (v' x)))
          ⟨_, rfl, fun b o e n => by rw [upd_ne n]; exact sF _ _ e, upd_same, fun _ => dv, by rw [upd_ne ndf, upd_same]; rfl, fun x hx => by cases hx⟩ (fun i σ H2 _ ⟨_, _, _, q, _⟩ => q) ?_ ?_
        · rintro i y σ H2 H3 hi ⟨v5, rfl, b2, f2, vb⟩ ⟨rfl, key, y', hk1, rfl⟩
          obtain ⟨x, hx, hxk⟩ : ∃ x, ks[i]? = some x ∧ x ∈ ks := ⟨ks[i], List.getElem?_eq_getElem hi, List.getElem_mem hi⟩
          have ek : key = Sum.inr (sg x) := by
            unfold vtab at hk1
            rw [List.getElem?_map, hx] at hk1
            cases hk1
            rfl
          subst ek
          have et : ks.take (i + 1) = ks.take i ++ [x] := by rw [List.take_add_one, hx]; rfl
          refine ⟨_, rfl, _, rfl, x, _, rfl, rfl, _, rfl, ?_⟩
          rw [tx_list]
          by_cases c : low (v' x) = []
          · have hxE : x ∈ E2 := (hD x).mpr (List.mem_filter.mpr ⟨hxk, by rw [c]; rfl⟩)
            rw [decide_eq_true hxE]
            refine iteF ⟨_, rfl, b2, f2, ?_⟩
            rw [et, left_snoc, if_pos c]
            exact vb
          · have hxE : x ∉ E2 := fun z => c (List.isEmpty_iff.mp (List.mem_filter.mp ((hD x).mp z)).2)
            rw [decide_eq_false hxE]
            refine iteT ?_
            have dg : DGet H3 dv (.str (sg x)) (some (.ref (at9 x))) := by
              rw [← val_vtab (at_ := at9) hxk]
              exact .inl ⟨_, Sum.inr (sg x), .inr ⟨od2, f2⟩, rfl, rfl⟩
            have hat3 := b2 _ _ (hat9 x hxk) (ne_of (hat9 x hxk) hdv9 (by intro z; cases z))
            refine ⟨_, rfl, _, rfl, dv, .ref (at9 x), rfl, dg, at9 x, rfl, ⟨_, SqT.of hat3⟩, fun L2 hL2 => lc_f (v' x) (fun l => decide (0 < l)) (fun l => V.int (l - 1)) (by have w2 := walk_tup (K := K) (a := at9 x) (xs := itp (v' x)); rw [List.length_map] at w2; exact w2) hL2 (Nat.lt_of_le_of_lt (vlen x hxk) (by decide)) (fun H4 s4 => same_seqT s4 (SqT.of hat3)) ?_ ?_⟩
            · rintro j l y H4 H5 hj s4 ⟨rfl, hy⟩ N1 N0 n1 n0
              rw [List.getElem?_map, hj] at hy
              cases hy
              refine ⟨rfl, _, rfl, _, _, rfl, rfl, _, rfl, ?_⟩
              refine ite2 (fun e => ⟨_, rfl, _, _, rfl, rfl, n1 e _ (Same.refl _)⟩) (fun e => n0 (by simpa using e) _ (Same.refl _))
            · intro H4 s4 hd4
              rw [low_eq] at hd4
              refine ⟨L2, _, rfl, .inl ⟨SqL.of hd4, fun t ht => ?_⟩⟩
              have s5 := s4.trans (same_upd (o := .tup (itp (low (v' x)))) (Same.refl _) ht)
              have ht5 : (upd H4 t (.tup (itp (low (v' x))))) t = some (.tup (itp (low (v' x)))) := upd_same
              generalize upd H4 t (.tup (itp (low (v' x)))) = H5 at s5 ht5 ⊢
              have b6 := b2.same s5
              have f6 := s5 _ _ f2
              have nx : x ∉ left (ks.take i) v' := fun z => nd_take dw.pl.nd hx (List.mem_filter.mp z).1
              obtain ⟨kvs, g1, g2, g3⟩ := (vb.same s5).put nx ht5
              have kl2 : kvs.length ≤ 100 := by
                rw [g2]
                refine Nat.le_trans (List.length_filter_le _ _) ?_
                rw [List.length_take]
                omega
              refine ⟨_, rfl, _, rfl, df, _, rfl, DPut.k (k := Sum.inr (sg x)) g1 (small1000 (by omega)), ?_⟩
              refine ⟨_, rfl, fun b o e n => by rw [upd_ne (ne_of_none e hdf)]; exact b6 _ _ e n, by rw [upd_ne ndf.symm]; exact f6, ?_⟩
              rw [et, left_snoc, if_neg c]
              exact g3.congr fun y _ => by
                by_cases z : y = x
                · rw [if_pos z, z]
                · rw [if_neg z]
        · rintro σ H2 ⟨v5, rfl, b2, f2, vb⟩
          rw [List.take_length] at vb
          have sE : Same H10 (upd H2 dv (.dK (vtab ks at9))) := fun b o e => by
            by_cases z : b = dv
            · rw [z, upd_same]
              rw [z, hdv9] at e
              exact e
            · rw [upd_ne z]
              exact b2 _ _ e z
          refine ⟨f2, _, rfl, jj, by omega, df, R2, left ks v', _, done ++ [E2], _, _, _, rfl, s10.trans sE, ?_, sE _ _ hls10, dw2, ll⟩
          obtain ⟨at2, g1, g2⟩ := vb.ex
          exact ⟨at2, by rw [upd_ne ndf]; exact g1, fun x hx => by rw [upd_ne (ne_of (g2 x hx) f2 (by intro z; cases z))]; exact g2 x hx⟩
end
end MO
set_option Elab.async false
set_option linter.all false
set_option maxRecDepth 100000
/-! the law -/
namespace MO
open PySem PySem.Spec PyProof.Rows L2 XS KM
abbrev sLaw : Stmt := top 69
section
variable {P : Program} {w : World} {K : PySem.W.Frag} {mg : Str → Option Value} {base : Heap}
abbrev NLL : List Str := ["_law_script", "_law_source_here", "_law_turn", "_law_names_here", "_law_pattern", "_law_place", "_law_steps", "_law_found", "_law_later"]
def spLaw (K : PySem.W.Frag) : Sp := fun vs H Q _ => ∃ (a : Addr) (ns : List Int), vs = [.ref a] ∧ SqL K H a (ns.map V.int) ∧ ns.length ≤ 63 ∧ ∀ H', Q (.bl true) H'
theorem scLaw : FnScope NLL ["_law_script"] (defScope sLaw) := ⟨rfl, rfl, rfl, by decide +kernel, rfl, by decide +kernel, by decide +kernel⟩
theorem ok_law {lf : Addr} {lfd : FuncData} (F : Fun K "law" "law" sLaw lf lfd) (T : Bt mg) (D1 : Dn P w K mg base 1 "_law_source" ["_law_script"] (spSource K)) (D2 : Dn P w K mg base 1 "_law_draw" ["_law_source_here", "_law_size"] spDraw)
    (D3 : Dn P w K mg base 3 "_law_names" ["_law_source_here", "_law_count"] spNames) (D4 : Dn P w K mg base 3 "_law_cut" ["_law_source_here", "_law_text", "_law_names_here"] spLCut) (D5 : Dn P w K mg base 1 "_law_universal" ["_law_count"] spUText)
    (D6 : Dn P w K mg base 1 "_law_chain_of_place" ["_law_place"] spLCoP) (D7 : Dn P w K mg base 9 "place_from_chain" ["pattern", "steps"] spPFromC) (D8 : Dn P w K mg base 2 "_law_is_place" ["_law_pattern", "_law_text", "_law_place"] spLPlace)
    (D9 : Dn P w K mg base 6 "chain_from_place" ["pattern", "count", "place"] spCFromP) (D10 : Dn P w K mg base 3 "_law_is_chain" ["_law_pattern", "_law_steps"] spLChain) : FnOk P w K mg base CX0 10 lf lfd ["_law_script"] (spLaw K) := by
  refine F.ok scLaw (fun vs H Q E h => ?_) (fun cdv A outer s H vs Q E hr h => ?_)
  · obtain ⟨a, ns, rfl, _⟩ := h
    rfl
  · obtain ⟨sc, ns, rfl, hsc, h63, k⟩ := h
    have hr1 : Room 1 _ := hr.mono (by decide)
    have hr2 : Room 2 _ := hr.mono (by decide)
    have hr3 : Room 3 _ := hr.mono (by decide)
    have hr6 : Room 6 _ := hr.mono (by decide)
    refine ⟨_, pss_cons (ps_set (i := 1) scLaw.nd rfl (.inl rfl) (pe_dn D1 hr1 (pa_cons (pv 0) pa_nil)))
      (pss_cons (ps_for PassesOwn.never rfl (pi_range1 (by rfl) T.range (pa_cons (pe_op op_add pe_int (pe_callB (call_min2 rfl) (by rfl) T.min boot_min (pa_cons pe_int (pa_cons (pe_callB call_len_seq (by rfl) T.len PySem.boot_len (pa_cons (pv 0) pa_nil)) pa_nil)))) pa_nil)) (pg_name (i := 2) scLaw.nd rfl (Or.inl rfl))
        (pss_cons (ps_set (i := 3) scLaw.nd rfl (.inl rfl) (pe_dn D3 hr3 (pa_cons (pv 1) (pa_cons pe_int pa_nil))))
        (pss_cons (ps_asg (pe_dn D4 hr3 (pa_cons (pv 1) (pa_cons (pe_dn D5 hr1 (pa_cons (pe_op op_add pe_int (pe_dn D2 hr1 (pa_cons (pv 1) (pa_cons pe_int pa_nil)))) pa_nil)) (pa_cons (pv 3) pa_nil)))) (pg_tup rfl (pgs_cons (pg_name (i := 4) scLaw.nd rfl (Or.inl rfl)) (pgs_cons (pg_name (i := 5) scLaw.nd rfl (Or.inl rfl)) pgs_nil))))
        (pss_cons (ps_set (i := 6) scLaw.nd rfl (.inl rfl) (pe_dn D6 hr1 (pa_cons (pv 5) pa_nil)))
        (pss_cons (ps_set (i := 7) scLaw.nd rfl (.inl rfl) (pe_dn D7 hr (pa_cons (pv 4) (pa_cons (pv 6) pa_nil))))
        (pss_cons (ps_if (pt_not (pt_val (pe_dn D8 hr2 (pa_cons (pv 4) (pa_cons (pe_dn D5 hr1 (pa_cons (pe_callB call_len_seq (by rfl) T.len PySem.boot_len (pa_cons (pv 6) pa_nil)) pa_nil)) (pa_cons (pv 7) pa_nil)))))) (pss_one (ps_ret pe_bl)) pss_nil)
        (pss_cons (ps_set (i := 8) scLaw.nd rfl (.inl rfl) (pe_dn D9 hr6 (pa_cons (pv 4) (pa_cons (pe_callB call_len_seq (by rfl) T.len PySem.boot_len (pa_cons (pv 6) pa_nil)) (pa_cons (pv 7) pa_nil)))))
        (pss_one (ps_if (PW.pt (pw_or (pt_not (pt_val (pe_callB call_isB (by rfl) T.isinstance boot_isinstance (pa_cons (pv 8) (pa_cons (pe_bltn (v := .ty "list") (by rfl) T.list (by decide +kernel) rfl) pa_nil)))))
            (pw_or (pt_cmpR op_gt (pe_callB call_len_seq (by rfl) T.len PySem.boot_len (pa_cons (pv 8) pa_nil)) (pe_callB call_len_seq (by rfl) T.len PySem.boot_len (pa_cons (pv 6) pa_nil)) (nomark _))
            (pw_or1 (pt_not (pt_val (pe_dn D10 hr3 (pa_cons (pv 4) (pa_cons (pv 8) pa_nil))))))))) (pss_one (ps_ret pe_bl)) pss_nil)))))))))
      (pss_one (ps_ret pe_bl))), ?_⟩
    refine ⟨_, rfl, sc, ns, rfl, hsc, h63, fun H1 a cl s1 na S1 => ?_⟩
    have ml : (2 : Int) + (if ((itp ns).length : Int) < 3 then ((itp ns).length : Int) else 3) ≤ 5 := by
      by_cases c : ((itp ns).length : Int) < 3
      · rw [if_pos c]; omega
      · rw [if_neg c]; omega
    have ml0 : 0 ≤ (2 : Int) + (if ((itp ns).length : Int) < 3 then ((itp ns).length : Int) else 3) := by
      by_cases c : ((itp ns).length : Int) < 3
      · rw [if_pos c]; omega
      · rw [if_neg c]; omega
    refine ⟨_, rfl, sc, itp ns, rfl, .inl (s1.seq hsc), 3, ((itp ns).length : Nat), rfl, 2, _, rfl, rfl, _, rfl, ?_, ?_, for_range (n := ((2 : Int) + (if ((itp ns).length : Int) < 3 then ((itp ns).length : Int) else 3)).toNat) (fun i σ H2 => ∃ (ix rest : Int) (v2 v3 v4 v5 v6 v7 v8 : Option V), σ = [some (.ref sc), some (.ref a), v2, v3, v4, v5, v6, v7, v8] ∧ SrcAt H2 a cl ns ix rest ∧ ix ≤ 126 * (i : Int))
      ⟨0, 0, _, _, _, _, _, _, _, rfl, S1, by omega⟩ ?_ ?_⟩
    · exact Int.le_trans (by decide) ml0
    · exact Int.lt_of_le_of_lt ml (by decide)
    · rintro i σ H2 hi ⟨ix, rest, v2, v3, v4, v5, v6, v7, v8, rfl, S2, hix⟩
      have hi5 : i < 5 := by omega
      refine ⟨_, rfl, a, cl, ns, ix, rest, rfl, S2, by omega, h63, fun H3 M ix3 rest3 m8 mn ml i3 b3 S3 => ?_⟩
      refine ⟨_, rfl, _, rfl, a, cl, ns, ix3, rest3, 9, rfl, S3, by decide, by decide, by omega, h63, fun H4 r ix4 rest4 r0 r1 i4 b4 S4 => ?_⟩
      obtain ⟨n, hn⟩ : ∃ n : Nat, 1 + r = (n : Nat) := ⟨(1 + r).toNat, by omega⟩
      refine ⟨1, r, rfl, rfl, n, congrArg (fun z => [V.int z]) hn, by omega, fun H5 t s5 ht => ?_⟩
      have S5 := S4.same s5
      refine ⟨_, rfl, a, cl, t, ns, ix4, rest4, n, M, rfl, S5, by omega, h63, ht, by omega, by omega, m8, mn, ml, fun H6 p q R s v ix6 rest6 b6 S6 i6 hp hq ok hS hv => ?_⟩
      refine ⟨p, _, rfl, SqT.of hp, rfl, _, _, rfl, _, _, rfl, rfl, ?_⟩
      refine ⟨_, rfl, R, n, q, s, v, rfl, ok, hq, hS, by omega, hv, fun H7 c steps s7 hc ch hl => ?_⟩
      refine ⟨_, rfl, _, rfl, R, c, steps, rfl, hc, ok, ch, by omega, fun H8 g s2 v2 s8 hg hS2 hv2 => ?_⟩
      have hc8 := s8 _ _ hc
      have sl : (tlist steps).length = steps.length := List.length_map ..
      refine ⟨_, rfl, _, rfl, c, _, rfl, .inl (SqL.of hc8), (tlist steps).length, rfl, by omega, fun H9 u s9 hu => ?_⟩
      rw [sl] at hu
      have ul := u_len (n := steps.length) (by omega)
      refine ⟨_, rfl, R, u, g, U steps.length, s2, v2, rfl, hu, hg.same s9, ok.low, ok.len, hS2, by omega, hv2, fun H10 s10 => ⟨true, rfl, iteF ?_⟩⟩
      have s910 := s9.trans s10
      have hc10 := s910 _ _ hc8
      refine ⟨_, rfl, _, rfl, c, _, rfl, .inl (SqL.of hc10), _, rfl, R, (tlist steps).length, g, s2, v2, rfl, ok, hg.same s910, by rw [sl]; exact hS2, by omega, hv2, fun H11 l later s11 hl2 ch2 ll => ?_⟩
      have hc11 := s11 _ _ hc10
      refine ⟨_, rfl, _, "list", "list", true, rfl, .base (.lst hl2), k_list_list, true, rfl, iteF ?_⟩
      refine ⟨_, rfl, l, _, rfl, .inl (SqL.of hl2), _, rfl, c, _, rfl, .inl (SqL.of hc11), _, _, rfl, rfl, _, rfl, ?_⟩
      have l2 : (tlist later).length = later.length := List.length_map ..
      rw [show decide ((((tlist steps).length : Nat) : Int) < (((tlist later).length : Nat) : Int)) = false from decide_eq_false (by omega)]
      refine iteF ?_
      refine ⟨_, rfl, _, rfl, R, l, later, rfl, hl2, ok.low, ok.len, ch2, fun H12 s12 => ⟨true, rfl, iteF ?_⟩⟩
      refine ⟨ix6, rest6, _, _, _, _, _, _, _, rfl, ((((S6.same s7).same s8).same s910).same s11).same s12, by omega⟩
    · rintro σ H2 ⟨ix, rest, v2, v3, v4, v5, v6, v7, v8, rfl, S2, hix⟩
      exact k H2
end
end MO
set_option Elab.async false
set_option linter.all false
set_option maxRecDepth 100000
/-! the end -/
namespace MO
open PySem PySem.Spec PyProof.Rows L2 XS KM
theorem pl_mk {K : PySem.W.Frag} {h : Heap} {mg : Str → Option Value} (X : K.In h) (G : h.Ns mainGlobals mg) {x : Str} {st : Stmt} {f : Addr} {oc kV dc pm cd ct : Value} {od an : Option Addr} {sl : Array (Option Value)}
    (a : PySem.W.nsIn K mainGlobals x = some (some (.ref f))) (l : K.lookup f = some ⟨oc, od, .func (PySem.W.fnOf x x (defArgs st) (defBody st) (defScope st) .none kV dc pm an cd ct), sl⟩)
    (c : PySem.W.codeIn K cd x = true) (k : PySem.W.keepIn K (.ref f) = true) : Pl K mg x st := ⟨f, _, fun_mk l c k, PySem.W.mg_of X G a⟩
theorem mpl_mk {K : PySem.W.Frag} {C : Addr} {x qual : Str} {st : Stmt} {f : Addr} {oc kV dc pm cd ct : Value} {od an : Option Addr} {sl : Array (Option Value)}
    (a : PySem.W.findIn K (.ref C) x = some (some (.ref f))) (i : PySem.W.isFn K (.ref f) = true) (l : K.lookup f = some ⟨oc, od, .func (PySem.W.fnOf x qual (defArgs st) (defBody st) (defScope st) .none kV dc pm an cd ct), sl⟩)
    (c : PySem.W.codeIn K cd qual = true) (k : PySem.W.keepIn K (.ref f) = true) : Mpl K C x qual st := ⟨f, _, fun_mk l c k, a, i, k⟩
theorem ipl_mk {K : PySem.W.Frag} {C : Addr} {qual : Str} {st : Stmt} {f : Addr} {oc kV dc pm cd ct : Value} {od an : Option Addr} {sl : Array (Option Value)}
    (m : PySem.W.makesIn K C = true) (kc : PySem.W.keepIn K (.ref C) = true)
    (a : PySem.W.findIn K (.ref C) "__init__" = some (some (.ref f))) (i : PySem.W.isFn K (.ref f) = true) (l : K.lookup f = some ⟨oc, od, .func (PySem.W.fnOf "__init__" qual (defArgs st) (defBody st) (defScope st) .none kV dc pm an cd ct), sl⟩)
    (c : PySem.W.codeIn K cd qual = true) (k : PySem.W.keepIn K (.ref f) = true) : Ipl K C qual st := ⟨f, _, fun_mk l c k, m, a, i, kc⟩
theorem cn_mk {K : PySem.W.Frag} {h : Heap} {mg : Str → Option Value} (X : K.In h) (G : h.Ns mainGlobals mg) {t1 t2 t3 t4 t5 t6 t7 t8 : Tok}
    (z0 : PySem.W.nsIn K mainGlobals "MAX_LETTER" = some (some (.int 999999 t1)))
    (z1 : PySem.W.nsIn K mainGlobals "MAX_TEXT" = some (some (.int 4096 t2)))
    (z2 : PySem.W.nsIn K mainGlobals "MAX_PATTERN" = some (some (.int 40 t3)))
    (z3 : PySem.W.nsIn K mainGlobals "MAX_VARIABLES" = some (some (.int 8 t4)))
    (z4 : PySem.W.nsIn K mainGlobals "MAX_COUNT" = some (some (.int 12 t5)))
    (z5 : PySem.W.nsIn K mainGlobals "ALPHABET" = some (some (.str "abcdefghijklmnopqrstuvwxyz" t6)))
    (z6 : PySem.W.nsIn K mainGlobals "LEFT" = some (some (.str "left" t7)))
    (z7 : PySem.W.nsIn K mainGlobals "RIGHT" = some (some (.str "right" t8)))
    : Cn mg := ⟨⟨_, PySem.W.mg_of X G z0⟩, ⟨_, PySem.W.mg_of X G z1⟩, ⟨_, PySem.W.mg_of X G z2⟩, ⟨_, PySem.W.mg_of X G z3⟩, ⟨_, PySem.W.mg_of X G z4⟩, ⟨_, PySem.W.mg_of X G z5⟩, ⟨_, PySem.W.mg_of X G z6⟩, ⟨_, PySem.W.mg_of X G z7⟩⟩
theorem rc_mk {K : PySem.W.Frag} {h : Heap} {mg : Str → Option Value} {C : Addr} (X : K.In h) (G : h.Ns mainGlobals mg) (aC : PySem.W.nsIn K mainGlobals "Raised" = some (some (.ref C)))
    (pg : PySem.W.plainGet K C Str.empty = true) (hd : PySem.W.hasDictIn K C = true) (po : PySem.W.plainOver K C = true) (sa : PySem.W.findIn K (.ref C) "__setattr__" = some (some (.builtin "object.__setattr__")))
    (nD : PySem.W.findIn K (.ref C) "deleted" = some none) (nP : PySem.W.findIn K (.ref C) "parts" = some none) : Rc K mg C := ⟨⟨pg, hd, po, sa⟩, nD, nP, PySem.W.mg_of X G aC⟩
theorem law_ok {P : Program} {w : World} {K : PySem.W.Frag} {mg : Str → Option Value} {base : Heap} {C lf : Addr} {lfd : FuncData} (T : Bt mg) (C0 : Cn mg) (Z : Rc K mg C)
    (p_is_integer : Pl K mg "is_integer" sIsInt)
    (p_is_between : Pl K mg "is_between" sBetween)
    (p_fits_text : Pl K mg "fits_text" sFitsText)
    (p_are_variables : Pl K mg "are_variables" sAreVars)
    (p_distinct : Pl K mg "distinct" sDistinct)
    (p_fits_pattern : Pl K mg "fits_pattern" sFitsPat)
    (p_is_variable_set : Pl K mg "is_variable_set" sIsVarSet)
    (p_need_pattern : Pl K mg "need_pattern" sNeedPat)
    (p_need_text : Pl K mg "need_text" sNeedText)
    (p_need_count : Pl K mg "need_count" sNeedCount)
    (p_links_of : Pl K mg "links_of" sLinks)
    (p_letters_of : Pl K mg "letters_of" sLetters)
    (p_labels_of : Pl K mg "labels_of" sLabels)
    (p_components_of : Pl K mg "components_of" sComps)
    (p_touches : Pl K mg "touches" sTouches)
    (p_meets : Pl K mg "meets" sMeets)
    (p_is_free_among : Pl K mg "is_free_among" sFreeAmong)
    (p_components : Pl K mg "components" sComponents)
    (p_without : Pl K mg "without" sWithout)
    (p_are_values : Pl K mg "are_values" sAreValues)
    (p_filled : Pl K mg "filled" sFilled)
    (p_parts_without : Pl K mg "parts_without" sPartsW)
    (p_is_member : Pl K mg "is_member" sIsMember)
    (p_is_chain_of : Pl K mg "is_chain_of" sIsChainOf)
    (p_is_chain : Pl K mg "is_chain" sIsChain)
    (p_is_pair : Pl K mg "is_pair" sIsPair)
    (p_is_place : Pl K mg "is_place" sIsPlace)
    (p_universal_text : Pl K mg "universal_text" sUText)
    (p_init : Ipl K C "Raised.__init__" sInit)
    (p_m_begins : Mpl K C "begins" "Raised.begins" sBegins)
    (p_m_ends : Mpl K C "ends" "Raised.ends" sEnds)
    (p_m_raised_text : Mpl K C "raised_text" "Raised.raised_text" sRText)
    (p_raised_place : Pl K mg "raised_place" sRPlace)
    (p_place_in_universal : Pl K mg "place_in_universal" sPInU)
    (p_place_from_chain : Pl K mg "place_from_chain" sPFromC)
    (p_lowered : Pl K mg "lowered" sLowered)
    (p_chain_from_place : Pl K mg "chain_from_place" sCFromP)
    (p_law_draw : Pl K mg "_law_draw" sDraw)
    (p_law_universal : Pl K mg "_law_universal" sLUniv)
    (p_law_order : Pl K mg "_law_order" sLOrder)
    (p_law_source : Pl K mg "_law_source" sSource)
    (p_law_pick : Pl K mg "_law_pick" sPick)
    (p_law_names : Pl K mg "_law_names" sNames)
    (p_law_components : Pl K mg "_law_components" sLComps)
    (p_law_is_integer : Pl K mg "_law_is_integer" sLInt)
    (p_law_without : Pl K mg "_law_without" sLWithout)
    (p_law_is_free : Pl K mg "_law_is_free" sLFree)
    (p_law_is_chain : Pl K mg "_law_is_chain" sLChain)
    (p_law_is_place : Pl K mg "_law_is_place" sLPlace)
    (p_law_cut : Pl K mg "_law_cut" sLCut)
    (p_law_chain_of_place : Pl K mg "_law_chain_of_place" sLCoP)
    (F : Fun K "law" "law" sLaw lf lfd) : FnOk P w K mg base CX0 10 lf lfd ["_law_script"] (spLaw K) := by
  have E_is_integer := d_is_integer (P := P) (w := w) (base := base) p_is_integer T
  have E_is_between := d_is_between (P := P) (w := w) (base := base) p_is_between E_is_integer
  have E_fits_text := d_fits_text (P := P) (w := w) (base := base) p_fits_text T C0 E_is_between
  have E_are_variables := d_are_variables (P := P) (w := w) (base := base) p_are_variables T C0
  have E_distinct := d_distinct (P := P) (w := w) (base := base) p_distinct T
  have E_fits_pattern := d_fits_pattern (P := P) (w := w) (base := base) p_fits_pattern T C0 E_are_variables E_distinct
  have E_is_variable_set := d_is_variable_set (P := P) (w := w) (base := base) p_is_variable_set T E_are_variables
  have E_need_pattern := d_need_pattern (P := P) (w := w) (base := base) p_need_pattern E_fits_pattern
  have E_need_text := d_need_text (P := P) (w := w) (base := base) p_need_text E_fits_text
  have E_need_count := d_need_count (P := P) (w := w) (base := base) p_need_count E_is_between
  have E_links_of := d_links_of (P := P) (w := w) (base := base) p_links_of T
  have E_letters_of := d_letters_of (P := P) (w := w) (base := base) p_letters_of T
  have E_labels_of := d_labels_of (P := P) (w := w) (base := base) p_labels_of T C0 E_letters_of E_links_of
  have E_components_of := d_components_of (P := P) (w := w) (base := base) p_components_of T C0 E_labels_of
  have E_touches := d_touches (P := P) (w := w) (base := base) p_touches T
  have E_meets := d_meets (P := P) (w := w) (base := base) p_meets T
  have E_is_free_among := d_is_free_among (P := P) (w := w) (base := base) p_is_free_among T E_touches
  have E_components := d_components (P := P) (w := w) (base := base) p_components E_need_pattern E_components_of
  have E_without := d_without (P := P) (w := w) (base := base) p_without
  have E_are_values := d_are_values (P := P) (w := w) (base := base) p_are_values T E_distinct E_fits_text
  have E_filled := d_filled (P := P) (w := w) (base := base) p_filled T
  have E_parts_without := d_parts_without (P := P) (w := w) (base := base) p_parts_without T E_without
  have E_is_member := d_is_member (P := P) (w := w) (base := base) p_is_member T E_is_variable_set E_components_of E_is_free_among
  have E_is_chain_of := d_is_chain_of (P := P) (w := w) (base := base) p_is_chain_of T E_parts_without E_is_member
  have E_is_chain := d_is_chain (P := P) (w := w) (base := base) p_is_chain E_need_pattern E_is_chain_of
  have E_is_pair := d_is_pair (P := P) (w := w) (base := base) p_is_pair T E_is_integer
  have E_is_place := d_is_place (P := P) (w := w) (base := base) p_is_place T E_need_pattern E_need_text E_is_pair E_is_between E_are_values E_filled
  have E_universal_text := d_universal_text (P := P) (w := w) (base := base) p_universal_text T
  have E_init := d_init (P := P) (w := w) (base := base) p_init Z E_components
  have E_m_begins := d_begins (P := P) (w := w) (base := base) p_m_begins Z E_meets
  have E_m_ends := d_ends (P := P) (w := w) (base := base) p_m_ends Z E_meets
  have E_m_raised_text := d_raised_text (P := P) (w := w) (base := base) p_m_raised_text T Z E_m_begins E_m_ends
  have E_raised_place := d_raised_place (P := P) (w := w) (base := base) p_raised_place T Z E_distinct E_init E_m_raised_text
  have E_place_in_universal := d_place_in_universal (P := P) (w := w) (base := base) p_place_in_universal T E_without E_raised_place
  have E_place_from_chain := d_place_from_chain (P := P) (w := w) (base := base) p_place_from_chain E_need_pattern E_is_chain E_place_in_universal
  have E_lowered := d_lowered (P := P) (w := w) (base := base) p_lowered T
  have E_chain_from_place := d_chain_from_place (P := P) (w := w) (base := base) p_chain_from_place T C0 E_need_pattern E_need_count E_is_place E_universal_text E_lowered
  have E_law_draw := d_draw (P := P) (w := w) (base := base) p_law_draw T
  have E_law_universal := d_law_universal (P := P) (w := w) (base := base) p_law_universal T
  have E_law_order := d_law_order (P := P) (w := w) (base := base) p_law_order T
  have E_law_source := d_law_source (P := P) (w := w) (base := base) p_law_source T
  have E_law_pick := d_law_pick (P := P) (w := w) (base := base) p_law_pick T E_law_draw
  have E_law_names := d_law_names (P := P) (w := w) (base := base) p_law_names T E_law_draw E_law_pick
  have E_law_components := d_law_components (P := P) (w := w) (base := base) p_law_components T
  have E_law_is_integer := d_law_is_integer (P := P) (w := w) (base := base) p_law_is_integer T
  have E_law_without := d_law_without (P := P) (w := w) (base := base) p_law_without
  have E_law_is_free := d_law_is_free (P := P) (w := w) (base := base) p_law_is_free T E_law_components
  have E_law_is_chain := d_law_is_chain (P := P) (w := w) (base := base) p_law_is_chain T E_law_without E_law_is_free
  have E_law_is_place := d_law_is_place (P := P) (w := w) (base := base) p_law_is_place T E_law_is_integer E_law_order
  have E_law_cut := d_law_cut (P := P) (w := w) (base := base) p_law_cut T E_law_draw E_law_pick
  have E_law_chain_of_place := d_law_chain_of_place (P := P) (w := w) (base := base) p_law_chain_of_place T
  exact ok_law F T E_law_source E_law_draw E_law_names E_law_cut E_law_universal E_law_chain_of_place E_place_from_chain E_law_is_place E_chain_from_place E_law_is_chain
theorem law_end {l : PySem.W.OpenLaw} {w : World} {K : PySem.W.Frag} {h : Heap} {mg : Str → Option Value} {fa f : Addr} (X : K.In h) (G : h.Ns mainGlobals mg) (hfa : mg "law" = some (.ref fa)) {oc kV dc pm cd ct : Value} {od an : Option Addr} {sl : Array (Option Value)}
    (W : ∀ (base : Heap) (fd : FuncData), Fun K "law" "law" sLaw fa fd → FnOk l.prog w K mg base CX0 10 fa fd ["_law_script"] (spLaw K))
    (a : PySem.W.nsIn K mainGlobals "law" = some (some (.ref f))) (l4 : K.lookup f = some ⟨oc, od, .func (PySem.W.fnOf "law" "law" (defArgs sLaw) (defBody sLaw) (defScope sLaw) .none kV dc pm an cd ct), sl⟩)
    (c : PySem.W.codeIn K cd "law" = true) (k : PySem.W.keepIn K (.ref f) = true) :
    ∃ fd : FuncData, (∀ (s : Shared) (v : Value), BindsTo s fd ⟨[v], []⟩ [("_law_script", v)]) ∧ ∀ base : Heap, K.In base → base.Ns mainGlobals mg → FnOk l.prog w K mg base CX0 10 fa fd ["_law_script"] (spLaw K) := by
  have e := hfa.symm.trans (PySem.W.mg_of X G a)
  cases e
  exact ⟨PySem.W.fnOf "law" "law" (defArgs sLaw) (defBody sLaw) (defScope sLaw) .none kV dc pm an cd ct, fun s v => .of_eq rfl, fun base _ _ => W base _ (fun_mk (st := sLaw) l4 c k)⟩
theorem law_all {l : PySem.W.OpenLaw} {w : World} {K : PySem.W.Frag} {h : Heap} {mg : Str → Option Value} {fa f C : Addr} (X : K.In h) (G : h.Ns mainGlobals mg) (hfa : mg "law" = some (.ref fa)) {oc kV dc pm cd ct : Value} {od an : Option Addr} {sl : Array (Option Value)}
    (T : Bt mg) (C0 : Cn mg) (Z : Rc K mg C)
    (p_is_integer : Pl K mg "is_integer" sIsInt)
    (p_is_between : Pl K mg "is_between" sBetween)
    (p_fits_text : Pl K mg "fits_text" sFitsText)
    (p_are_variables : Pl K mg "are_variables" sAreVars)
    (p_distinct : Pl K mg "distinct" sDistinct)
    (p_fits_pattern : Pl K mg "fits_pattern" sFitsPat)
    (p_is_variable_set : Pl K mg "is_variable_set" sIsVarSet)
    (p_need_pattern : Pl K mg "need_pattern" sNeedPat)
    (p_need_text : Pl K mg "need_text" sNeedText)
    (p_need_count : Pl K mg "need_count" sNeedCount)
    (p_links_of : Pl K mg "links_of" sLinks)
    (p_letters_of : Pl K mg "letters_of" sLetters)
    (p_labels_of : Pl K mg "labels_of" sLabels)
    (p_components_of : Pl K mg "components_of" sComps)
    (p_touches : Pl K mg "touches" sTouches)
    (p_meets : Pl K mg "meets" sMeets)
    (p_is_free_among : Pl K mg "is_free_among" sFreeAmong)
    (p_components : Pl K mg "components" sComponents)
    (p_without : Pl K mg "without" sWithout)
    (p_are_values : Pl K mg "are_values" sAreValues)
    (p_filled : Pl K mg "filled" sFilled)
    (p_parts_without : Pl K mg "parts_without" sPartsW)
    (p_is_member : Pl K mg "is_member" sIsMember)
    (p_is_chain_of : Pl K mg "is_chain_of" sIsChainOf)
    (p_is_chain : Pl K mg "is_chain" sIsChain)
    (p_is_pair : Pl K mg "is_pair" sIsPair)
    (p_is_place : Pl K mg "is_place" sIsPlace)
    (p_universal_text : Pl K mg "universal_text" sUText)
    (p_init : Ipl K C "Raised.__init__" sInit)
    (p_m_begins : Mpl K C "begins" "Raised.begins" sBegins)
    (p_m_ends : Mpl K C "ends" "Raised.ends" sEnds)
    (p_m_raised_text : Mpl K C "raised_text" "Raised.raised_text" sRText)
    (p_raised_place : Pl K mg "raised_place" sRPlace)
    (p_place_in_universal : Pl K mg "place_in_universal" sPInU)
    (p_place_from_chain : Pl K mg "place_from_chain" sPFromC)
    (p_lowered : Pl K mg "lowered" sLowered)
    (p_chain_from_place : Pl K mg "chain_from_place" sCFromP)
    (p_law_draw : Pl K mg "_law_draw" sDraw)
    (p_law_universal : Pl K mg "_law_universal" sLUniv)
    (p_law_order : Pl K mg "_law_order" sLOrder)
    (p_law_source : Pl K mg "_law_source" sSource)
    (p_law_pick : Pl K mg "_law_pick" sPick)
    (p_law_names : Pl K mg "_law_names" sNames)
    (p_law_components : Pl K mg "_law_components" sLComps)
    (p_law_is_integer : Pl K mg "_law_is_integer" sLInt)
    (p_law_without : Pl K mg "_law_without" sLWithout)
    (p_law_is_free : Pl K mg "_law_is_free" sLFree)
    (p_law_is_chain : Pl K mg "_law_is_chain" sLChain)
    (p_law_is_place : Pl K mg "_law_is_place" sLPlace)
    (p_law_cut : Pl K mg "_law_cut" sLCut)
    (p_law_chain_of_place : Pl K mg "_law_chain_of_place" sLCoP)
    (a : PySem.W.nsIn K mainGlobals "law" = some (some (.ref f))) (l4 : K.lookup f = some ⟨oc, od, .func (PySem.W.fnOf "law" "law" (defArgs sLaw) (defBody sLaw) (defScope sLaw) .none kV dc pm an cd ct), sl⟩)
    (c : PySem.W.codeIn K cd "law" = true) (k : PySem.W.keepIn K (.ref f) = true) :
    ∃ fd : FuncData, (∀ (s : Shared) (v : Value), BindsTo s fd ⟨[v], []⟩ [("_law_script", v)]) ∧ ∀ base : Heap, K.In base → base.Ns mainGlobals mg → FnOk l.prog w K mg base CX0 10 fa fd ["_law_script"] (spLaw K) :=
  law_end X G hfa (fun base fd F => law_ok T C0 Z p_is_integer p_is_between p_fits_text p_are_variables p_distinct p_fits_pattern p_is_variable_set p_need_pattern p_need_text p_need_count p_links_of p_letters_of p_labels_of p_components_of p_touches p_meets p_is_free_among p_components p_without p_are_values p_filled p_parts_without p_is_member p_is_chain_of p_is_chain p_is_pair p_is_place p_universal_text p_init p_m_begins p_m_ends p_m_raised_text p_raised_place p_place_in_universal p_place_from_chain p_lowered p_chain_from_place p_law_draw p_law_universal p_law_order p_law_source p_law_pick p_law_names p_law_components p_law_is_integer p_law_without p_law_is_free p_law_is_chain p_law_is_place p_law_cut p_law_chain_of_place F) a l4 c k
theorem walk {l : PySem.W.OpenLaw} {q : Program} {loose : List Str} {XP : (Str → Option Value) → Heap → Prop} {YP : World → Heap → Prop} {d : DefRec} {K : Params → PySem.W.Frag} (hn : l.most = some 63) (hdf : d.params.defaults = [])
    (hY : ∀ (w : World) (h : Heap), YP w h → (K w.params).In h)
    (F : ∀ (w : World) (mg : Str → Option Value) (fa : Addr) (h : Heap), (K w.params).In h → h.Ns mainGlobals mg → mg d.name = some (.ref fa) →
      ∃ fd : FuncData, (∀ (s : Shared) (u : Value), BindsTo s fd ⟨[u], []⟩ [("_law_script", u)]) ∧ ∀ base : Heap, (K w.params).In base → base.Ns mainGlobals mg → FnOk l.prog w (K w.params) mg base CX0 10 fa fd ["_law_script"] (spLaw (K w.params))) :
    PySem.W.WalkO q loose XP YP l.row.toRowW d [] (fun f vs => PySem.call f vs) :=
  L2.walk_of (n := 63) (k := 10) (x := "_law_script") (CX := fun _ => CX0) (sp := fun w => spLaw (K w.params)) hn (by decide) hdf ⟨rfl, by decide, by decide⟩ hY F (fun _ _ a ns hl _ hS => ⟨a, ns, rfl, hS, hl, fun _ => rfl⟩) fun _ _ _ _ _ z => z
end MO
open PySem PySem.W PyProof.Rows
set_option maxRecDepth 100000 in
set_option maxHeartbeats 0 in
theorem PySem.Challenge.cw_mustoccur_k28_whole_chains_of_long_patte_holds : PySem.Challenge.rw_mustoccur_k28_whole_chains_of_long_patte.Holds := by
  w_on; o_law; k_head; (case hw => w_witness2)
  k_fill
  refine MO.walk (l := PySem.Challenge.rw_mustoccur_k28_whole_chains_of_long_patte) rfl rfl (fun w h Y => PySem.W.kIn_of Y) ?F
  case F =>
    intro w mg fa h KX G hmg
    have T : MO.Bt mg := by
      refine' ⟨PySem.W.mg_none_of KX G ?z0, PySem.W.mg_none_of KX G ?z1, PySem.W.mg_none_of KX G ?z2, PySem.W.mg_none_of KX G ?z3, PySem.W.mg_none_of KX G ?z4, PySem.W.mg_none_of KX G ?z5, PySem.W.mg_none_of KX G ?z6, PySem.W.mg_none_of KX G ?z7, PySem.W.mg_none_of KX G ?z8, PySem.W.mg_none_of KX G ?z9, PySem.W.mg_none_of KX G ?z10, PySem.W.mg_none_of KX G ?z11, PySem.W.mg_none_of KX G ?z12, PySem.W.mg_none_of KX G ?z13, PySem.W.mg_none_of KX G ?z14, PySem.W.mg_none_of KX G ?z15, PySem.W.mg_none_of KX G ?z16⟩
      (case z0 => k_is); (case z1 => k_is); (case z2 => k_is); (case z3 => k_is); (case z4 => k_is); (case z5 => k_is); (case z6 => k_is); (case z7 => k_is); (case z8 => k_is); (case z9 => k_is); (case z10 => k_is); (case z11 => k_is); (case z12 => k_is); (case z13 => k_is); (case z14 => k_is); (case z15 => k_is); (case z16 => k_is)
    have C0 : MO.Cn mg := by
      refine' MO.cn_mk KX G ?z0 ?z1 ?z2 ?z3 ?z4 ?z5 ?z6 ?z7
      (case z0 => k_is); (case z1 => k_is); (case z2 => k_is); (case z3 => k_is); (case z4 => k_is); (case z5 => k_is); (case z6 => k_is); (case z7 => k_is)
    refine' MO.law_all KX G hmg T C0 (MO.rc_mk KX G ?aC ?pg ?hd ?po ?sa ?nD ?nP) (MO.pl_mk (x := "is_integer") (st := MO.sIsInt) KX G ?p_is_integera ?p_is_integerl ?p_is_integerc ?p_is_integerk) (MO.pl_mk (x := "is_between") (st := MO.sBetween) KX G ?p_is_betweena ?p_is_betweenl ?p_is_betweenc ?p_is_betweenk) (MO.pl_mk (x := "fits_text") (st := MO.sFitsText) KX G ?p_fits_texta ?p_fits_textl ?p_fits_textc ?p_fits_textk) (MO.pl_mk (x := "are_variables") (st := MO.sAreVars) KX G ?p_are_variablesa ?p_are_variablesl ?p_are_variablesc ?p_are_variablesk) (MO.pl_mk (x := "distinct") (st := MO.sDistinct) KX G ?p_distincta ?p_distinctl ?p_distinctc ?p_distinctk) (MO.pl_mk (x := "fits_pattern") (st := MO.sFitsPat) KX G ?p_fits_patterna ?p_fits_patternl ?p_fits_patternc ?p_fits_patternk) (MO.pl_mk (x := "is_variable_set") (st := MO.sIsVarSet) KX G ?p_is_variable_seta ?p_is_variable_setl ?p_is_variable_setc ?p_is_variable_setk) (MO.pl_mk (x := "need_pattern") (st := MO.sNeedPat) KX G ?p_need_patterna ?p_need_patternl ?p_need_patternc ?p_need_patternk) (MO.pl_mk (x := "need_text") (st := MO.sNeedText) KX G ?p_need_texta ?p_need_textl ?p_need_textc ?p_need_textk) (MO.pl_mk (x := "need_count") (st := MO.sNeedCount) KX G ?p_need_counta ?p_need_countl ?p_need_countc ?p_need_countk) (MO.pl_mk (x := "links_of") (st := MO.sLinks) KX G ?p_links_ofa ?p_links_ofl ?p_links_ofc ?p_links_ofk) (MO.pl_mk (x := "letters_of") (st := MO.sLetters) KX G ?p_letters_ofa ?p_letters_ofl ?p_letters_ofc ?p_letters_ofk) (MO.pl_mk (x := "labels_of") (st := MO.sLabels) KX G ?p_labels_ofa ?p_labels_ofl ?p_labels_ofc ?p_labels_ofk) (MO.pl_mk (x := "components_of") (st := MO.sComps) KX G ?p_components_ofa ?p_components_ofl ?p_components_ofc ?p_components_ofk) (MO.pl_mk (x := "touches") (st := MO.sTouches) KX G ?p_touchesa ?p_touchesl ?p_touchesc ?p_touchesk) (MO.pl_mk (x := "meets") (st := MO.sMeets) KX G ?p_meetsa ?p_meetsl ?p_meetsc ?p_meetsk) (MO.pl_mk (x := "is_free_among") (st := MO.sFreeAmong) KX G ?p_is_free_amonga ?p_is_free_amongl ?p_is_free_amongc ?p_is_free_amongk) (MO.pl_mk (x := "components") (st := MO.sComponents) KX G ?p_componentsa ?p_componentsl ?p_componentsc ?p_componentsk) (MO.pl_mk (x := "without") (st := MO.sWithout) KX G ?p_withouta ?p_withoutl ?p_withoutc ?p_withoutk) (MO.pl_mk (x := "are_values") (st := MO.sAreValues) KX G ?p_are_valuesa ?p_are_valuesl ?p_are_valuesc ?p_are_valuesk) (MO.pl_mk (x := "filled") (st := MO.sFilled) KX G ?p_filleda ?p_filledl ?p_filledc ?p_filledk) (MO.pl_mk (x := "parts_without") (st := MO.sPartsW) KX G ?p_parts_withouta ?p_parts_withoutl ?p_parts_withoutc ?p_parts_withoutk) (MO.pl_mk (x := "is_member") (st := MO.sIsMember) KX G ?p_is_membera ?p_is_memberl ?p_is_memberc ?p_is_memberk) (MO.pl_mk (x := "is_chain_of") (st := MO.sIsChainOf) KX G ?p_is_chain_ofa ?p_is_chain_ofl ?p_is_chain_ofc ?p_is_chain_ofk) (MO.pl_mk (x := "is_chain") (st := MO.sIsChain) KX G ?p_is_chaina ?p_is_chainl ?p_is_chainc ?p_is_chaink) (MO.pl_mk (x := "is_pair") (st := MO.sIsPair) KX G ?p_is_paira ?p_is_pairl ?p_is_pairc ?p_is_pairk) (MO.pl_mk (x := "is_place") (st := MO.sIsPlace) KX G ?p_is_placea ?p_is_placel ?p_is_placec ?p_is_placek) (MO.pl_mk (x := "universal_text") (st := MO.sUText) KX G ?p_universal_texta ?p_universal_textl ?p_universal_textc ?p_universal_textk) (MO.ipl_mk ?inm ?inkc ?ina ?ini ?inl ?inc ?ink) (MO.mpl_mk ?beginsa ?beginsi ?beginsl ?beginsc ?beginsk) (MO.mpl_mk ?endsa ?endsi ?endsl ?endsc ?endsk) (MO.mpl_mk ?raised_texta ?raised_texti ?raised_textl ?raised_textc ?raised_textk) (MO.pl_mk (x := "raised_place") (st := MO.sRPlace) KX G ?p_raised_placea ?p_raised_placel ?p_raised_placec ?p_raised_placek) (MO.pl_mk (x := "place_in_universal") (st := MO.sPInU) KX G ?p_place_in_universala ?p_place_in_universall ?p_place_in_universalc ?p_place_in_universalk) (MO.pl_mk (x := "place_from_chain") (st := MO.sPFromC) KX G ?p_place_from_chaina ?p_place_from_chainl ?p_place_from_chainc ?p_place_from_chaink) (MO.pl_mk (x := "lowered") (st := MO.sLowered) KX G ?p_lowereda ?p_loweredl ?p_loweredc ?p_loweredk) (MO.pl_mk (x := "chain_from_place") (st := MO.sCFromP) KX G ?p_chain_from_placea ?p_chain_from_placel ?p_chain_from_placec ?p_chain_from_placek) (MO.pl_mk (x := "_law_draw") (st := MO.sDraw) KX G ?p_law_drawa ?p_law_drawl ?p_law_drawc ?p_law_drawk) (MO.pl_mk (x := "_law_universal") (st := MO.sLUniv) KX G ?p_law_universala ?p_law_universall ?p_law_universalc ?p_law_universalk) (MO.pl_mk (x := "_law_order") (st := MO.sLOrder) KX G ?p_law_ordera ?p_law_orderl ?p_law_orderc ?p_law_orderk) (MO.pl_mk (x := "_law_source") (st := MO.sSource) KX G ?p_law_sourcea ?p_law_sourcel ?p_law_sourcec ?p_law_sourcek) (MO.pl_mk (x := "_law_pick") (st := MO.sPick) KX G ?p_law_picka ?p_law_pickl ?p_law_pickc ?p_law_pickk) (MO.pl_mk (x := "_law_names") (st := MO.sNames) KX G ?p_law_namesa ?p_law_namesl ?p_law_namesc ?p_law_namesk) (MO.pl_mk (x := "_law_components") (st := MO.sLComps) KX G ?p_law_componentsa ?p_law_componentsl ?p_law_componentsc ?p_law_componentsk) (MO.pl_mk (x := "_law_is_integer") (st := MO.sLInt) KX G ?p_law_is_integera ?p_law_is_integerl ?p_law_is_integerc ?p_law_is_integerk) (MO.pl_mk (x := "_law_without") (st := MO.sLWithout) KX G ?p_law_withouta ?p_law_withoutl ?p_law_withoutc ?p_law_withoutk) (MO.pl_mk (x := "_law_is_free") (st := MO.sLFree) KX G ?p_law_is_freea ?p_law_is_freel ?p_law_is_freec ?p_law_is_freek) (MO.pl_mk (x := "_law_is_chain") (st := MO.sLChain) KX G ?p_law_is_chaina ?p_law_is_chainl ?p_law_is_chainc ?p_law_is_chaink) (MO.pl_mk (x := "_law_is_place") (st := MO.sLPlace) KX G ?p_law_is_placea ?p_law_is_placel ?p_law_is_placec ?p_law_is_placek) (MO.pl_mk (x := "_law_cut") (st := MO.sLCut) KX G ?p_law_cuta ?p_law_cutl ?p_law_cutc ?p_law_cutk) (MO.pl_mk (x := "_law_chain_of_place") (st := MO.sLCoP) KX G ?p_law_chain_of_placea ?p_law_chain_of_placel ?p_law_chain_of_placec ?p_law_chain_of_placek) ?a ?l ?c ?k
    (case aC => k_is); (case pg => k_is); (case hd => k_is); (case po => k_is); (case sa => k_is); (case nD => k_is); (case nP => k_is)
    (case p_is_integera => k_is); (case p_is_integerl => k_is); (case p_is_integerc => k_is); (case p_is_integerk => k_is); (case p_is_betweena => k_is); (case p_is_betweenl => k_is); (case p_is_betweenc => k_is); (case p_is_betweenk => k_is); (case p_fits_texta => k_is); (case p_fits_textl => k_is); (case p_fits_textc => k_is); (case p_fits_textk => k_is); (case p_are_variablesa => k_is); (case p_are_variablesl => k_is); (case p_are_variablesc => k_is); (case p_are_variablesk => k_is); (case p_distincta => k_is); (case p_distinctl => k_is); (case p_distinctc => k_is); (case p_distinctk => k_is)
    (case p_fits_patterna => k_is); (case p_fits_patternl => k_is); (case p_fits_patternc => k_is); (case p_fits_patternk => k_is); (case p_is_variable_seta => k_is); (case p_is_variable_setl => k_is); (case p_is_variable_setc => k_is); (case p_is_variable_setk => k_is); (case p_need_patterna => k_is); (case p_need_patternl => k_is); (case p_need_patternc => k_is); (case p_need_patternk => k_is); (case p_need_texta => k_is); (case p_need_textl => k_is); (case p_need_textc => k_is); (case p_need_textk => k_is); (case p_need_counta => k_is); (case p_need_countl => k_is); (case p_need_countc => k_is); (case p_need_countk => k_is)
    (case p_links_ofa => k_is); (case p_links_ofl => k_is); (case p_links_ofc => k_is); (case p_links_ofk => k_is); (case p_letters_ofa => k_is); (case p_letters_ofl => k_is); (case p_letters_ofc => k_is); (case p_letters_ofk => k_is); (case p_labels_ofa => k_is); (case p_labels_ofl => k_is); (case p_labels_ofc => k_is); (case p_labels_ofk => k_is); (case p_components_ofa => k_is); (case p_components_ofl => k_is); (case p_components_ofc => k_is); (case p_components_ofk => k_is); (case p_touchesa => k_is); (case p_touchesl => k_is); (case p_touchesc => k_is); (case p_touchesk => k_is)
    (case p_meetsa => k_is); (case p_meetsl => k_is); (case p_meetsc => k_is); (case p_meetsk => k_is); (case p_is_free_amonga => k_is); (case p_is_free_amongl => k_is); (case p_is_free_amongc => k_is); (case p_is_free_amongk => k_is); (case p_componentsa => k_is); (case p_componentsl => k_is); (case p_componentsc => k_is); (case p_componentsk => k_is); (case p_withouta => k_is); (case p_withoutl => k_is); (case p_withoutc => k_is); (case p_withoutk => k_is); (case p_are_valuesa => k_is); (case p_are_valuesl => k_is); (case p_are_valuesc => k_is); (case p_are_valuesk => k_is)
    (case p_filleda => k_is); (case p_filledl => k_is); (case p_filledc => k_is); (case p_filledk => k_is); (case p_parts_withouta => k_is); (case p_parts_withoutl => k_is); (case p_parts_withoutc => k_is); (case p_parts_withoutk => k_is); (case p_is_membera => k_is); (case p_is_memberl => k_is); (case p_is_memberc => k_is); (case p_is_memberk => k_is); (case p_is_chain_ofa => k_is); (case p_is_chain_ofl => k_is); (case p_is_chain_ofc => k_is); (case p_is_chain_ofk => k_is); (case p_is_chaina => k_is); (case p_is_chainl => k_is); (case p_is_chainc => k_is); (case p_is_chaink => k_is)
    (case p_is_paira => k_is); (case p_is_pairl => k_is); (case p_is_pairc => k_is); (case p_is_pairk => k_is); (case p_is_placea => k_is); (case p_is_placel => k_is); (case p_is_placec => k_is); (case p_is_placek => k_is); (case p_universal_texta => k_is); (case p_universal_textl => k_is); (case p_universal_textc => k_is); (case p_universal_textk => k_is); (case inm => k_is); (case inkc => k_is); (case ina => k_is); (case ini => k_is); (case inl => k_is); (case inc => k_is); (case ink => k_is); (case beginsa => k_is)
    (case beginsi => k_is); (case beginsl => k_is); (case beginsc => k_is); (case beginsk => k_is); (case endsa => k_is); (case endsi => k_is); (case endsl => k_is); (case endsc => k_is); (case endsk => k_is); (case raised_texta => k_is); (case raised_texti => k_is); (case raised_textl => k_is); (case raised_textc => k_is); (case raised_textk => k_is); (case p_raised_placea => k_is); (case p_raised_placel => k_is); (case p_raised_placec => k_is); (case p_raised_placek => k_is); (case p_place_in_universala => k_is); (case p_place_in_universall => k_is)
    (case p_place_in_universalc => k_is); (case p_place_in_universalk => k_is); (case p_place_from_chaina => k_is); (case p_place_from_chainl => k_is); (case p_place_from_chainc => k_is); (case p_place_from_chaink => k_is); (case p_lowereda => k_is); (case p_loweredl => k_is); (case p_loweredc => k_is); (case p_loweredk => k_is); (case p_chain_from_placea => k_is); (case p_chain_from_placel => k_is); (case p_chain_from_placec => k_is); (case p_chain_from_placek => k_is); (case p_law_drawa => k_is); (case p_law_drawl => k_is); (case p_law_drawc => k_is); (case p_law_drawk => k_is); (case p_law_universala => k_is); (case p_law_universall => k_is)
    (case p_law_universalc => k_is); (case p_law_universalk => k_is); (case p_law_ordera => k_is); (case p_law_orderl => k_is); (case p_law_orderc => k_is); (case p_law_orderk => k_is); (case p_law_sourcea => k_is); (case p_law_sourcel => k_is); (case p_law_sourcec => k_is); (case p_law_sourcek => k_is); (case p_law_picka => k_is); (case p_law_pickl => k_is); (case p_law_pickc => k_is); (case p_law_pickk => k_is); (case p_law_namesa => k_is); (case p_law_namesl => k_is); (case p_law_namesc => k_is); (case p_law_namesk => k_is); (case p_law_componentsa => k_is); (case p_law_componentsl => k_is)
    (case p_law_componentsc => k_is); (case p_law_componentsk => k_is); (case p_law_is_integera => k_is); (case p_law_is_integerl => k_is); (case p_law_is_integerc => k_is); (case p_law_is_integerk => k_is); (case p_law_withouta => k_is); (case p_law_withoutl => k_is); (case p_law_withoutc => k_is); (case p_law_withoutk => k_is); (case p_law_is_freea => k_is); (case p_law_is_freel => k_is); (case p_law_is_freec => k_is); (case p_law_is_freek => k_is); (case p_law_is_chaina => k_is); (case p_law_is_chainl => k_is); (case p_law_is_chainc => k_is); (case p_law_is_chaink => k_is); (case p_law_is_placea => k_is); (case p_law_is_placel => k_is)
    (case p_law_is_placec => k_is); (case p_law_is_placek => k_is); (case p_law_cuta => k_is); (case p_law_cutl => k_is); (case p_law_cutc => k_is); (case p_law_cutk => k_is); (case p_law_chain_of_placea => k_is); (case p_law_chain_of_placel => k_is); (case p_law_chain_of_placec => k_is); (case p_law_chain_of_placek => k_is)
    (case a => k_is); (case l => k_is); (case c => k_is); (case k => k_is)
