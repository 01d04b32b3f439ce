import PyProof.Rows.All
import Wide.All
import OpenK.AllK
import Wide.FinOn
import HandS.ForMost
import HandS.TupLen
import HandS.IsInst
import HandS.Walk
import KE.KDictKeyed
import KE.KDictDisplayH
import KE.KDictCopyH
import PySem.Challenge.RW_temperworks_k83_whole_shortest_moves
set_option Elab.async false
set_option linter.all false
set_option maxRecDepth 100000
set_option maxHeartbeats 16000000
/-! the mathematics: triads, moves, words, the search by layers -/
namespace SM

abbrev Tri := Int × Bool
inductive Mv where
  | L | P | R
  deriving DecidableEq
abbrev Wd := List Mv
def dig : Mv → Nat
  | .L => 0
  | .P => 1
  | .R => 2
def code (w : Wd) : Nat := w.foldl (fun a m => 3 * a + 1 + dig m) 0
theorem code_snoc (w : Wd) (m : Mv) : code (w ++ [m]) = 3 * code w + 1 + dig m := by
  unfold code
  rw [List.foldl_append]
  rfl
def mv (n t f : Int) (p : Tri) : Mv → Tri
  | .P => (p.1, !p.2)
  | .L => (if p.2 = true then (p.1 + t) % n else (p.1 - t) % n, !p.2)
  | .R => (if p.2 = true then (p.1 + (t - f)) % n else (p.1 - (t - f)) % n, !p.2)
def wlk (n t f : Int) (p : Tri) (w : Wd) : Tri := w.foldl (mv n t f) p
theorem wlk_snoc (n t f : Int) (p : Tri) (w : Wd) (m : Mv) : wlk n t f p (w ++ [m]) = mv n t f (wlk n t f p w) m := by
  unfold wlk
  rw [List.foldl_append]
  rfl
theorem mv_rg {n t f : Int} (hn : 0 < n) {p : Tri} (h : 0 ≤ p.1 ∧ p.1 < n) (m : Mv) : 0 ≤ (mv n t f p m).1 ∧ (mv n t f p m).1 < n := by
  have k : ∀ x : Int, 0 ≤ x % n ∧ x % n < n := fun x => ⟨Int.emod_nonneg x (by omega), Int.emod_lt_of_pos x hn⟩
  cases m with
  | P => exact h
  | L => unfold mv; dsimp only; split <;> exact k _
  | R => unfold mv; dsimp only; split <;> exact k _

abbrev Kn := List (Tri × Wd)
def keys (kn : Kn) : List Tri := kn.map (·.1)
def look (kn : Kn) (k : Tri) : Option Wd := (kn.find? fun e => decide (e.1 = k)).map (·.2)
theorem look_mem {kn : Kn} {k : Tri} {w : Wd} (h : look kn k = some w) : (k, w) ∈ kn := by
  unfold look at h
  obtain ⟨e, he, rfl⟩ := Option.map_eq_some_iff.mp h
  have h1 := List.find?_some he
  have h2 := List.mem_of_find?_eq_some he
  have h3 : e.1 = k := of_decide_eq_true h1
  rw [← h3]
  exact h2
theorem look_some (kn : Kn) (k : Tri) : (look kn k).isSome = true ↔ k ∈ keys kn := by
  unfold look keys
  rw [Option.isSome_map, List.find?_isSome, List.mem_map]
  constructor
  · rintro ⟨e, he, h⟩
    exact ⟨e, he, of_decide_eq_true h⟩
  · rintro ⟨e, he, h⟩
    exact ⟨e, he, decide_eq_true h⟩
theorem look_none {kn : Kn} {k : Tri} (h : look kn k = none) : k ∉ keys kn := fun hk => by
  have := (look_some kn k).mpr hk
  rw [h] at this
  cases this
theorem nodup_uniq : ∀ {kn : Kn}, (keys kn).Nodup → ∀ {k : Tri} {w w' : Wd}, (k, w) ∈ kn → (k, w') ∈ kn → w = w'
  | [], _, _, _, _, h, _ => nomatch h
  | e :: r, nd, k, w, w', h, h' => by
    have nd' : e.1 ∉ keys r ∧ (keys r).Nodup := by
      have : (e.1 :: keys r).Nodup := nd
      exact List.nodup_cons.mp this
    rcases List.mem_cons.1 h with q | q
    · rcases List.mem_cons.1 h' with q' | q'
      · exact (Prod.mk.inj (q.trans q'.symm)).2
      · exact absurd (List.mem_map.mpr ⟨_, q', rfl⟩) (by rw [← q] at nd'; exact nd'.1)
    · rcases List.mem_cons.1 h' with q' | q'
      · exact absurd (List.mem_map.mpr ⟨_, q, rfl⟩) (by rw [← q'] at nd'; exact nd'.1)
      · exact nodup_uniq nd'.2 q q'
theorem look_of_mem {kn : Kn} (nd : (keys kn).Nodup) {k : Tri} {w : Wd} (h : (k, w) ∈ kn) : look kn k = some w := by
  cases q : look kn k with
  | none => exact absurd (List.mem_map.mpr ⟨_, h, rfl⟩) (look_none q)
  | some w' => rw [nodup_uniq nd h (look_mem q)]
theorem look_append (a b : Kn) (k : Tri) : look (a ++ b) k = (look a k).or (look b k) := by
  unfold look
  rw [List.find?_append]
  cases List.find? (fun e => decide (e.1 = k)) a <;> rfl

abbrev Sx := Kn × List Tri
def stp (n t f : Int) (a : Tri) (s : Sx) (m : Mv) : Sx :=
  if (look s.1 (mv n t f a m)).isSome = true then s else (s.1 ++ [(mv n t f a m, (look s.1 a).getD [] ++ [m])], s.2 ++ [mv n t f a m])
def mvs : List Mv := [.L, .P, .R]
def trn (n t f : Int) (s : Sx) (a : Tri) : Sx := mvs.foldl (stp n t f a) s
def lay (n t f : Int) (s : Sx) : Sx := s.2.foldl (trn n t f) (s.1, [])

section
variable {n t f : Int} {r0 : Tri}
/-- between two triads of the rim -/
structure Jv (n t f : Int) (r0 : Tri) (done rest : List Tri) (kn : Kn) (later : List Tri) : Prop where
  ks : keys kn = done ++ rest ++ later
  nd : (keys kn).Nodup
  rg : ∀ e ∈ kn, 0 ≤ e.1.1 ∧ e.1.1 < n
  wk : ∀ e ∈ kn, wlk n t f r0 e.2 = e.1
  as : kn.Pairwise (fun e e' => code e.2 < code e'.2)
  cl : ∀ e ∈ kn, e.1 ∈ done → ∀ m, ∃ e' ∈ kn, e'.1 = mv n t f e.1 m ∧ code e'.2 ≤ code (e.2 ++ [m])
  ln : ∀ e ∈ kn, e.2.length < kn.length
  hb : ∀ e ∈ kn, ∀ e' ∈ kn, e'.1 ∈ rest ++ later → code e.2 ≤ 3 * code e'.2
/-- within a triad's turn, behind j moves -/
structure Md (n t f : Int) (r0 : Tri) (done : List Tri) (a : Tri) (rest : List Tri) (kn : Kn) (later : List Tri) (w : Wd) (j : Nat) : Prop where
  ks : keys kn = done ++ a :: rest ++ later
  nd : (keys kn).Nodup
  rg : ∀ e ∈ kn, 0 ≤ e.1.1 ∧ e.1.1 < n
  wk : ∀ e ∈ kn, wlk n t f r0 e.2 = e.1
  as : kn.Pairwise (fun e e' => code e.2 < code e'.2)
  cl : ∀ e ∈ kn, e.1 ∈ done → ∀ m, ∃ e' ∈ kn, e'.1 = mv n t f e.1 m ∧ code e'.2 ≤ code (e.2 ++ [m])
  ln : ∀ e ∈ kn, e.2.length < kn.length
  wa : (a, w) ∈ kn
  mc : ∀ m, dig m < j → ∃ e' ∈ kn, e'.1 = mv n t f a m ∧ code e'.2 ≤ code (w ++ [m])
  hb : ∀ e ∈ kn, code e.2 ≤ 3 * code w + j
theorem Jv.start (h : 0 ≤ r0.1 ∧ r0.1 < n) : Jv n t f r0 [] [r0] [(r0, [])] [] where
  ks := rfl
  nd := by unfold keys; simp
  rg := fun e he => by cases List.mem_singleton.mp he; exact h
  wk := fun e he => by cases List.mem_singleton.mp he; rfl
  as := List.pairwise_singleton _ _
  cl := fun e he q => nomatch q
  ln := fun e he => by cases List.mem_singleton.mp he; exact Nat.zero_lt_one
  hb := fun e he e' he' _ => by cases List.mem_singleton.mp he; exact Nat.zero_le _
theorem Jv.word {done rest later : List Tri} {kn : Kn} (J : Jv n t f r0 done rest kn later) {a : Tri} (ha : a ∈ keys kn) : ∃ w, (a, w) ∈ kn ∧ look kn a = some w := by
  obtain ⟨e, he, rfl⟩ := List.mem_map.mp ha
  exact ⟨e.2, he, look_of_mem J.nd he⟩
theorem Jv.md {done rest later : List Tri} {a : Tri} {kn : Kn} (J : Jv n t f r0 done (a :: rest) kn later) : ∃ w, Md n t f r0 done a rest kn later w 0 := by
  have ha : a ∈ keys kn := by rw [J.ks]; simp
  obtain ⟨w, hw, _⟩ := J.word ha
  exact ⟨w, J.ks, J.nd, J.rg, J.wk, J.as, J.cl, J.ln, hw, fun m h => absurd h (Nat.not_lt_zero _), fun e he => J.hb e he (a, w) hw (by simp)⟩
theorem Md.step (hn : 0 < n) {done rest later : List Tri} {a : Tri} {kn : Kn} {w : Wd} (m : Mv) (M : Md n t f r0 done a rest kn later w (dig m)) :
    Md n t f r0 done a rest (stp n t f a (kn, later) m).1 (stp n t f a (kn, later) m).2 w (dig m + 1) := by
  have inj : ∀ m', dig m' < dig m + 1 → dig m' < dig m ∨ m' = m := by
    intro m' h
    cases m <;> cases m' <;> simp [dig] at h ⊢
  unfold stp
  dsimp only
  by_cases q : (look kn (mv n t f a m)).isSome = true
  · rw [if_pos q]
    refine ⟨M.ks, M.nd, M.rg, M.wk, M.as, M.cl, M.ln, M.wa, fun m' h => ?_, fun e he => Nat.le_trans (M.hb e he) (by omega)⟩
    rcases inj m' h with h | rfl
    · exact M.mc m' h
    · obtain ⟨w', hw'⟩ := Option.isSome_iff_exists.mp q
      have hm := look_mem hw'
      refine ⟨_, hm, rfl, ?_⟩
      have := M.hb _ hm
      rw [code_snoc]
      dsimp only at this ⊢
      omega
  · rw [if_neg q]
    have hk : mv n t f a m ∉ keys kn := fun z => q ((look_some _ _).mpr z)
    rw [look_of_mem M.nd M.wa]
    show Md n t f r0 done a rest (kn ++ [(mv n t f a m, w ++ [m])]) (later ++ [mv n t f a m]) w (dig m + 1)
    have hc : code (w ++ [m]) = 3 * code w + 1 + dig m := code_snoc w m
    refine ⟨?_, ?_, fun e he => ?_, fun e he => ?_, ?_, fun e he hd m' => ?_, fun e he => ?_, List.mem_append_left _ M.wa, fun m' h => ?_, fun e he => ?_⟩
    · unfold keys
      rw [List.map_append, show List.map (·.1) kn = keys kn from rfl, M.ks]
      simp
    · unfold keys
      rw [List.map_append]
      refine List.nodup_append.mpr ⟨M.nd, by simp, ?_⟩
      intro x hx y hy e
      have : y = mv n t f a m := by simpa using hy
      rw [e, this] at hx
      exact hk hx
    · rcases List.mem_append.1 he with he | he
      · exact M.rg e he
      · cases List.mem_singleton.mp he
        exact mv_rg hn (M.rg _ M.wa) m
    · rcases List.mem_append.1 he with he | he
      · exact M.wk e he
      · cases List.mem_singleton.mp he
        show wlk n t f r0 (w ++ [m]) = _
        rw [wlk_snoc, M.wk _ M.wa]
    · refine List.pairwise_append.mpr ⟨M.as, List.pairwise_singleton _ _, fun e he e' he' => ?_⟩
      cases List.mem_singleton.mp he'
      show code e.2 < code (w ++ [m])
      have := M.hb e he
      omega
    · rcases List.mem_append.1 he with he | he
      · obtain ⟨e', h1, h2⟩ := M.cl e he hd m'
        exact ⟨e', List.mem_append_left _ h1, h2⟩
      · cases List.mem_singleton.mp he
        exfalso
        apply hk
        rw [M.ks]
        exact List.mem_append_left _ (List.mem_append_left _ hd)
    · rw [List.length_append]
      rcases List.mem_append.1 he with he | he
      · have := M.ln e he
        exact Nat.lt_of_lt_of_le this (Nat.le_add_right _ _)
      · cases List.mem_singleton.mp he
        have := M.ln _ M.wa
        show (w ++ [m]).length < kn.length + 1
        rw [List.length_append]
        exact Nat.succ_lt_succ this
    · rcases inj m' h with h | rfl
      · obtain ⟨e', h1, h2⟩ := M.mc m' h
        exact ⟨e', List.mem_append_left _ h1, h2⟩
      · exact ⟨_, List.mem_append_right _ (List.mem_singleton.mpr rfl), rfl, Nat.le_refl _⟩
    · rcases List.mem_append.1 he with he | he
      · have := M.hb e he
        omega
      · cases List.mem_singleton.mp he
        show code (w ++ [m]) ≤ _
        omega
theorem Md.jv {done rest later : List Tri} {a : Tri} {kn : Kn} {w : Wd} (M : Md n t f r0 done a rest kn later w 3) : Jv n t f r0 (done ++ [a]) rest kn later := by
  have dl : ∀ m, dig m < 3 := fun m => by cases m <;> decide
  refine ⟨by rw [M.ks]; simp, M.nd, M.rg, M.wk, M.as, fun e he hd m => ?_, M.ln, fun e he e' he' hr => ?_⟩
  · rcases List.mem_append.1 hd with hd | hd
    · exact M.cl e he hd m
    · have e1 : e.1 = a := List.mem_singleton.mp hd
      have e2 : e.2 = w := nodup_uniq M.nd (k := a) (by rw [← e1]; exact he) M.wa
      rw [e1, e2]
      exact M.mc m (dl m)
  · have h1 := M.hb e he
    -- e' stands behind (a, w)
    have ks := M.ks
    rw [List.append_assoc] at ks
    obtain ⟨kd, kr, rfl, h2, h3⟩ := List.map_eq_append_iff.mp ks
    rw [List.cons_append] at h3
    obtain ⟨ea, kr', rfl, h4, h5⟩ := List.map_eq_cons_iff.mp h3
    have hea : ea = (a, w) := by
      have z : (a, ea.2) ∈ kd ++ ea :: kr' := by
        rw [← h4]
        exact List.mem_append_right _ List.mem_cons_self
      have := nodup_uniq M.nd z M.wa
      rw [← this, ← h4]
    have he'' : e' ∈ kr' := by
      rcases List.mem_append.1 he' with q | q
      · exfalso
        have nd := M.nd
        unfold keys at nd
        rw [List.map_append] at nd
        obtain ⟨_, _, dj⟩ := List.nodup_append.mp nd
        refine dj e'.1 (List.mem_map.mpr ⟨_, q, rfl⟩) e'.1 ?_ rfl
        rw [h3]
        exact List.mem_cons_of_mem _ hr
      · rcases List.mem_cons.1 q with q | q
        · exfalso
          have nd := M.nd
          rw [M.ks, List.append_assoc] at nd
          obtain ⟨_, nd2, _⟩ := List.nodup_append.mp nd
          rw [List.cons_append] at nd2
          refine (List.nodup_cons.mp nd2).1 ?_
          rw [q, hea] at hr
          exact hr
        · exact q
    have as := (List.pairwise_append.mp M.as).2.1
    have := (List.pairwise_cons.mp as).1 e' he''
    rw [hea] at this
    dsimp only at this
    omega
def part (n t f : Int) (a : Tri) (s : Sx) (j : Nat) : Sx := (mvs.take j).foldl (stp n t f a) s
theorem part_zero (a : Tri) (s : Sx) : part n t f a s 0 = s := rfl
theorem part_three (a : Tri) (s : Sx) : part n t f a s 3 = trn n t f s a := rfl
theorem part_succ (a : Tri) (s : Sx) {j : Nat} {m : Mv} (h : mvs[j]? = some m) : part n t f a s (j + 1) = stp n t f a (part n t f a s j) m := by
  unfold part
  rw [List.take_add_one, h]
  rw [List.foldl_append]
  rfl
theorem mvs_dig {j : Nat} {m : Mv} (h : mvs[j]? = some m) : dig m = j := by
  match j, h with
  | 0, h => cases h; rfl
  | 1, h => cases h; rfl
  | 2, h => cases h; rfl
theorem Md.part (hn : 0 < n) {done rest later : List Tri} {a : Tri} {kn : Kn} {w : Wd} (M : Md n t f r0 done a rest kn later w 0) : ∀ j, j ≤ 3 →
    Md n t f r0 done a rest (SM.part n t f a (kn, later) j).1 (SM.part n t f a (kn, later) j).2 w j
  | 0, _ => M
  | j + 1, h => by
    obtain ⟨m, hm⟩ : ∃ m, mvs[j]? = some m := by
      have : j < mvs.length := h
      exact ⟨_, List.getElem?_eq_getElem this⟩
    have ih := Md.part hn M j (by omega)
    rw [part_succ a _ hm]
    have hd := mvs_dig hm
    rw [← hd] at ih ⊢
    exact Md.step hn m ih
theorem Jv.trn (hn : 0 < n) {done rest later : List Tri} {a : Tri} {kn : Kn} (J : Jv n t f r0 done (a :: rest) kn later) : Jv n t f r0 (done ++ [a]) rest (SM.trn n t f (kn, later) a).1 (SM.trn n t f (kn, later) a).2 := by
  obtain ⟨w, M⟩ := J.md
  exact (M.part hn 3 (Nat.le_refl _)).jv
def parts (n t f : Int) (kn : Kn) (rim : List Tri) (i : Nat) : Sx := (rim.take i).foldl (trn n t f) (kn, [])
theorem parts_all (kn : Kn) (rim : List Tri) {i : Nat} (h : rim.length ≤ i) : parts n t f kn rim i = lay n t f (kn, rim) := by
  unfold parts
  rw [List.take_of_length_le h]
  rfl
theorem parts_succ (kn : Kn) (rim : List Tri) {i : Nat} {a : Tri} (h : rim[i]? = some a) : parts n t f kn rim (i + 1) = trn n t f (parts n t f kn rim i) a := by
  unfold parts
  rw [List.take_add_one, h]
  rw [List.foldl_append]
  rfl
theorem Jv.parts (hn : 0 < n) {done rim : List Tri} {kn : Kn} (J : Jv n t f r0 done rim kn []) : ∀ i, i ≤ rim.length →
    Jv n t f r0 (done ++ rim.take i) (rim.drop i) (SM.parts n t f kn rim i).1 (SM.parts n t f kn rim i).2
  | 0, _ => by
    rw [List.take_zero, List.append_nil, List.drop_zero]
    exact J
  | i + 1, h => by
    have hi : i < rim.length := h
    have ih := Jv.parts hn J i (by omega)
    rw [parts_succ kn rim (List.getElem?_eq_getElem hi)]
    rw [List.drop_eq_getElem_cons hi] at ih
    rw [List.take_add_one, List.getElem?_eq_getElem hi, ← List.append_assoc]
    exact Jv.trn hn ih
theorem Jv.relabel {done later : List Tri} {kn : Kn} (J : Jv n t f r0 done [] kn later) : Jv n t f r0 done later kn [] :=
  ⟨by rw [J.ks]; simp, J.nd, J.rg, J.wk, J.as, J.cl, J.ln, fun e he e' he' h => J.hb e he e' he' (by simpa using h)⟩
theorem Jv.lay (hn : 0 < n) {done rim : List Tri} {kn : Kn} (J : Jv n t f r0 done rim kn []) : Jv n t f r0 (done ++ rim) (SM.lay n t f (kn, rim)).2 (SM.lay n t f (kn, rim)).1 [] := by
  have h := J.parts hn rim.length (Nat.le_refl _)
  rw [parts_all kn rim (Nat.le_refl _), List.take_length, List.drop_length] at h
  exact h.relabel

/-! how many there are -/
def allT (n : Nat) : List Tri := (List.range (2 * n)).map fun j => (((j / 2 : Nat) : Int), j % 2 == 0)
theorem mem_allT {n : Nat} {k : Tri} (h : 0 ≤ k.1 ∧ k.1 < n) : k ∈ allT n := by
  refine List.mem_map.mpr ⟨2 * k.1.toNat + (if k.2 = true then 0 else 1), List.mem_range.mpr (by split <;> omega), ?_⟩
  obtain ⟨r, u⟩ := k
  dsimp only at h ⊢
  cases u with
  | true =>
    have e1 : (2 * r.toNat + (if true = true then 0 else 1)) / 2 = r.toNat := by rw [if_pos rfl]; omega
    have e2 : (2 * r.toNat + (if true = true then 0 else 1)) % 2 = 0 := by rw [if_pos rfl]; omega
    rw [e1, e2, Int.toNat_of_nonneg h.1]
    rfl
  | false =>
    have e1 : (2 * r.toNat + (if false = true then 0 else 1)) / 2 = r.toNat := by rw [if_neg (by decide)]; omega
    have e2 : (2 * r.toNat + (if false = true then 0 else 1)) % 2 = 1 := by rw [if_neg (by decide)]; omega
    rw [e1, e2, Int.toNat_of_nonneg h.1]
    rfl
theorem few {N : Nat} {kn : Kn} (nd : (keys kn).Nodup) (rg : ∀ e ∈ kn, 0 ≤ e.1.1 ∧ e.1.1 < (N : Int)) : kn.length ≤ 2 * N := by
  have h := nd.length_le_of_subset (l₂ := allT N) fun k hk => by
    obtain ⟨e, he, rfl⟩ := List.mem_map.mp hk
    exact mem_allT (rg e he)
  unfold keys allT at h
  rw [List.length_map, List.length_map, List.length_range] at h
  exact h
theorem Jv.len {done rest later : List Tri} {kn : Kn} (J : Jv n t f r0 done rest kn later) : kn.length = done.length + rest.length + later.length := by
  have h := congrArg List.length J.ks
  unfold keys at h
  rw [List.length_map, List.length_append, List.length_append] at h
  exact h

/-! layers upon layers -/
def runs (n t f : Int) (r0 : Tri) : Nat → Sx
  | 0 => ([(r0, [])], [r0])
  | i + 1 => lay n t f (runs n t f r0 i)
theorem runs_jv (hn : 0 < n) (h : 0 ≤ r0.1 ∧ r0.1 < n) : ∀ i, ∃ done, Jv n t f r0 done (runs n t f r0 i).2 (runs n t f r0 i).1 []
  | 0 => ⟨[], Jv.start h⟩
  | i + 1 => by
    obtain ⟨done, J⟩ := runs_jv hn h i
    exact ⟨_, J.lay hn⟩
theorem stp_pre (a : Tri) (s : Sx) (m : Mv) : ∃ more, (stp n t f a s m).1 = s.1 ++ more := by
  unfold stp
  split
  · exact ⟨[], by simp⟩
  · exact ⟨_, rfl⟩
theorem foldl_pre {β : Type} (g : Sx → β → Sx) (hg : ∀ s b, ∃ more, (g s b).1 = s.1 ++ more) : ∀ (l : List β) (s : Sx), ∃ more, (l.foldl g s).1 = s.1 ++ more
  | [], s => ⟨[], by simp⟩
  | b :: r, s => by
    obtain ⟨m1, e1⟩ := hg s b
    obtain ⟨m2, e2⟩ := foldl_pre g hg r (g s b)
    exact ⟨m1 ++ m2, by rw [List.foldl_cons, e2, e1, List.append_assoc]⟩
theorem lay_pre (s : Sx) : ∃ more, (lay n t f s).1 = s.1 ++ more :=
  foldl_pre _ (fun s a => foldl_pre _ (fun s m => stp_pre a s m) mvs s) s.2 (s.1, [])
theorem runs_pre (i : Nat) : ∀ j, ∃ more, (runs n t f r0 (i + j)).1 = (runs n t f r0 i).1 ++ more
  | 0 => ⟨[], by simp⟩
  | j + 1 => by
    obtain ⟨m1, e1⟩ := runs_pre i j
    obtain ⟨m2, e2⟩ := lay_pre (n := n) (t := t) (f := f) (runs n t f r0 (i + j))
    refine ⟨m1 ++ m2, ?_⟩
    show (lay n t f (runs n t f r0 (i + j))).1 = _
    rw [e2, e1, List.append_assoc]
theorem runs_stay {i : Nat} (h : (runs n t f r0 i).2 = []) : ∀ j, runs n t f r0 (i + j) = runs n t f r0 i
  | 0 => rfl
  | j + 1 => by
    have ih := runs_stay h j
    show lay n t f (runs n t f r0 (i + j)) = _
    rw [ih]
    unfold lay
    rw [h]
    show ((runs n t f r0 i).1, []) = _
    rw [← h]
/-- where one search stopped early and one at the end: the same answer -/
theorem runs_look {i j : Nat} {k : Tri} (hi : (runs n t f r0 i).2 = []) (hj : (look (runs n t f r0 j).1 k).isSome = true ∨ (runs n t f r0 j).2 = []) :
    look (runs n t f r0 j).1 k = look (runs n t f r0 i).1 k := by
  by_cases q : i ≤ j
  · obtain ⟨d, rfl⟩ := Nat.exists_eq_add_of_le q
    rw [runs_stay hi]
  · obtain ⟨d, rfl⟩ := Nat.exists_eq_add_of_le (Nat.le_of_lt (Nat.lt_of_not_le q))
    rcases hj with hj | hj
    · obtain ⟨more, e⟩ := runs_pre (n := n) (t := t) (f := f) (r0 := r0) j d
      rw [e, look_append]
      obtain ⟨w, hw⟩ := Option.isSome_iff_exists.mp hj
      rw [hw]
      rfl
    · rw [runs_stay hj]
/-- the measure of the loops -/
def size (N : Nat) (s : Sx) : Nat := 2 * (2 * N - s.1.length) + (if s.2 = [] then 0 else 1)
theorem size_lay {N : Nat} (hn : 0 < (N : Int)) (h : 0 ≤ r0.1 ∧ r0.1 < (N : Int)) (i : Nat) (hr : (runs N t f r0 i).2 ≠ []) : size N (runs N t f r0 (i + 1)) < size N (runs N t f r0 i) := by
  obtain ⟨done, J⟩ := runs_jv (t := t) (f := f) hn h i
  have J' := J.lay hn
  have l1 := J.len
  have l2 := J'.len
  have b2 := few J'.nd J'.rg
  change (runs N t f r0 (i + 1)).1.length = _ at l2
  change (runs N t f r0 (i + 1)).1.length ≤ _ at b2
  unfold size
  rw [if_neg hr]
  rw [List.length_append] at l2
  rw [List.length_nil] at l1 l2
  change _ = _ + (runs N t f r0 (i + 1)).2.length + 0 at l2
  split
  · rename_i hz
    rw [hz, List.length_nil] at l2
    omega
  · rename_i hz
    have : 0 < (runs N t f r0 (i + 1)).2.length := List.length_pos_iff.mpr hz
    omega
end
end SM

/-! how many triads are reached; the order of words -/
namespace SM
theorem mv_cong {n t f g : Int} (hn : g ∣ n) (ht : g ∣ t) (hf : g ∣ f) (p : Tri) (m : Mv) : g ∣ (mv n t f p m).1 - p.1 := by
  have em : ∀ x y : Int, g ∣ y → x = p.1 + y → g ∣ x % n - p.1 := by
    intro x y hy e
    rw [Int.emod_def, e]
    obtain ⟨a, ha⟩ := hy
    obtain ⟨b, hb⟩ := hn
    refine ⟨a - b * ((p.1 + y) / n), ?_⟩
    rw [Int.mul_sub, ← ha, ← Int.mul_assoc, ← hb]
    omega
  have htf : g ∣ t - f := Int.dvd_sub ht hf
  cases m with
  | P =>
    show g ∣ p.1 - p.1
    rw [Int.sub_self]
    exact Int.dvd_zero g
  | L =>
    unfold mv
    dsimp only
    split
    · exact em _ t ht rfl
    · exact em _ (-t) ((Int.dvd_neg).mpr ht) (by omega)
  | R =>
    unfold mv
    dsimp only
    split
    · exact em _ (t - f) htf rfl
    · exact em _ (-(t - f)) ((Int.dvd_neg).mpr htf) (by omega)
theorem wlk_cong {n t f g : Int} (hn : g ∣ n) (ht : g ∣ t) (hf : g ∣ f) : ∀ (w : Wd) (p : Tri), g ∣ (wlk n t f p w).1 - p.1
  | [], p => by
    show g ∣ p.1 - p.1
    rw [Int.sub_self]
    exact Int.dvd_zero g
  | m :: w, p => by
    have h1 := mv_cong hn ht hf p m
    have h2 := wlk_cong hn ht hf w (mv n t f p m)
    have h3 := Int.dvd_add h2 h1
    have e : (wlk n t f p (m :: w)).1 - p.1 = (wlk n t f (mv n t f p m) w).1 - (mv n t f p m).1 + ((mv n t f p m).1 - p.1) := by
      show (wlk n t f (mv n t f p m) w).1 - p.1 = _
      omega
    rw [e]
    exact h3

section
variable {n t f : Int} {S : List Tri}
/-- the shifts that keep S -/
def Dx (n : Int) (S : List Tri) (x : Int) : Prop := ∀ r u, (r, u) ∈ S → ∀ v, ((r + x) % n, v) ∈ S
def Sy (n : Int) (S : List Tri) (x : Int) : Prop := Dx n S x ∧ Dx n S (-x)
theorem flip (cl : ∀ k ∈ S, ∀ m, mv n t f k m ∈ S) {r : Int} {u : Bool} (h : (r, u) ∈ S) (v : Bool) : (r, v) ∈ S := by
  by_cases e : v = u
  · rw [e]; exact h
  · have := cl _ h .P
    have e2 : v = !u := by cases v <;> cases u <;> simp at e ⊢
    rw [e2]
    exact this
theorem Dx.add {x y : Int} (hx : Dx n S x) (hy : Dx n S y) : Dx n S (x + y) := fun r u h v => by
  have := hy _ _ (hx r u h v) v
  rw [Int.emod_add_emod, Int.add_assoc] at this
  exact this
theorem Sy.add {x y : Int} (hx : Sy n S x) (hy : Sy n S y) : Sy n S (x + y) := ⟨hx.1.add hy.1, by rw [Int.neg_add]; exact hx.2.add hy.2⟩
theorem Sy.neg {x : Int} (hx : Sy n S x) : Sy n S (-x) := ⟨hx.2, by rw [Int.neg_neg]; exact hx.1⟩
theorem Sy.zero (cl : ∀ k ∈ S, ∀ m, mv n t f k m ∈ S) (rg : ∀ k ∈ S, 0 ≤ k.1 ∧ k.1 < n) : Sy n S 0 := by
  have z : Dx n S 0 := fun r u h v => by
    rw [Int.add_zero, Int.emod_eq_of_lt (rg _ h).1 (rg _ h).2]
    exact flip cl h v
  exact ⟨z, z⟩
theorem Sy.mul (z : Sy n S 0) {x : Int} (hx : Sy n S x) : ∀ k : Nat, Sy n S ((k : Int) * x)
  | 0 => by rw [show ((0 : Nat) : Int) * x = 0 from Int.zero_mul x]; exact z
  | k + 1 => by
    rw [show ((k + 1 : Nat) : Int) * x = (k : Int) * x + x by rw [Int.natCast_add, Int.add_mul]; simp]
    exact (Sy.mul z hx k).add hx
theorem Sy.gcd (z : Sy n S 0) (a b : Nat) : Sy n S (a : Int) → Sy n S (b : Int) → Sy n S ((Nat.gcd a b : Nat) : Int) := by
  induction a, b using Nat.gcd.induction with
  | H0 b =>
    intro _ hb
    rw [Nat.gcd_zero_left]
    exact hb
  | H1 a b h ih =>
    intro ha hb
    rw [Nat.gcd_rec]
    refine ih ?_ ha
    have e : ((b % a : Nat) : Int) = (b : Int) + -(((b / a : Nat) : Int) * (a : Int)) := by
      have := Nat.div_add_mod b a
      rw [Nat.mul_comm] at this
      have q : ((b / a : Nat) : Int) * (a : Int) = ((b / a * a : Nat) : Int) := by rw [Int.natCast_mul]
      rw [q]
      omega
    rw [e]
    exact hb.add (Sy.mul z ha _).neg
end
theorem Sy.of {N T F : Nat} {S : List Tri} (cl : ∀ k ∈ S, ∀ m, mv N T F k m ∈ S) (rg : ∀ k ∈ S, 0 ≤ k.1 ∧ k.1 < (N : Int)) : Sy N S ((Nat.gcd (Nat.gcd T F) N : Nat) : Int) := by
  have z := Sy.zero cl rg
  have hT : Sy N S (T : Int) := by
    constructor
    · intro r u h v
      exact flip cl (cl _ (flip cl h true) .L) v
    · intro r u h v
      exact flip cl (cl _ (flip cl h false) .L) v
  have hD : Sy N S ((T : Int) - F) := by
    constructor
    · intro r u h v
      exact flip cl (cl _ (flip cl h true) .R) v
    · intro r u h v
      exact flip cl (cl _ (flip cl h false) .R) v
  have hF : Sy N S (F : Int) := by
    have := hT.add hD.neg
    rw [show (T : Int) + -((T : Int) - F) = F by omega] at this
    exact this
  have hN : Sy N S (N : Int) := by
    constructor
    · intro r u h v
      rw [Int.add_emod_right, Int.emod_eq_of_lt (rg _ h).1 (rg _ h).2]
      exact flip cl h v
    · intro r u h v
      rw [show r + -(N : Int) = r - N from rfl, Int.sub_emod_right, Int.emod_eq_of_lt (rg _ h).1 (rg _ h).2]
      exact flip cl h v
  exact Sy.gcd z _ _ (Sy.gcd z _ _ hT hF) hN
/-- the triads of one class -/
def cls (N g : Nat) (c : Nat) : List Tri := (List.range (2 * (N / g))).map fun j => (((c + g * (j / 2) : Nat) : Int), j % 2 == 0)
theorem cls_nodup {N g c : Nat} (hg : 0 < g) : (cls N g c).Nodup := by
  unfold cls
  refine List.pairwise_map.mpr (List.nodup_range.imp fun {i j} ne e => ne ?_)
  have left := congrArg Prod.fst e
  have e2 := congrArg Prod.snd e
  dsimp only at left e2
  have e3 : c + g * (i / 2) = c + g * (j / 2) := Int.ofNat.inj left
  have e4 : i / 2 = j / 2 := Nat.eq_of_mul_eq_mul_left hg (Nat.add_left_cancel e3)
  have e5 : i % 2 = j % 2 := by
    by_cases h : i % 2 = 0
    · have h2 : (i % 2 == 0) = true := by rw [h]; rfl
      rw [h2] at e2
      have := eq_of_beq e2.symm
      omega
    · have h2 : (i % 2 == 0) = false := beq_false_of_ne h
      rw [h2] at e2
      have : ¬ j % 2 = 0 := fun z => by rw [z] at e2; exact nomatch e2
      omega
  omega
theorem count {N T F : Nat} (hN : 0 < N) {r0 : Tri} {S : List Tri} (nd : S.Nodup) (rg : ∀ k ∈ S, 0 ≤ k.1 ∧ k.1 < (N : Int)) (h0 : r0 ∈ S) (cl : ∀ k ∈ S, ∀ m, mv N T F k m ∈ S)
    (wk : ∀ k ∈ S, ∃ w, wlk N T F r0 w = k) : S.length = 2 * (N / Nat.gcd (Nat.gcd T F) N) := by
  obtain ⟨g, hg⟩ : ∃ g, g = Nat.gcd (Nat.gcd T F) N := ⟨_, rfl⟩
  have gN : g ∣ N := by rw [hg]; exact Nat.gcd_dvd_right _ _
  have gT : g ∣ T := by rw [hg]; exact Nat.dvd_trans (Nat.gcd_dvd_left _ _) (Nat.gcd_dvd_left _ _)
  have gF : g ∣ F := by rw [hg]; exact Nat.dvd_trans (Nat.gcd_dvd_left _ _) (Nat.gcd_dvd_right _ _)
  have g0 : 0 < g := Nat.pos_of_dvd_of_pos gN hN
  have sy : Sy N S (g : Int) := by rw [hg]; exact Sy.of cl rg
  have z := Sy.zero cl rg
  rw [← hg]
  obtain ⟨R, hR⟩ : ∃ R : Nat, r0.1 = R := ⟨r0.1.toNat, (Int.toNat_of_nonneg (rg _ h0).1).symm⟩
  have hRN : R < N := by
    have := (rg _ h0).2
    rw [hR] at this
    exact Int.ofNat_lt.mp this
  have len : (cls N g (R % g)).length = 2 * (N / g) := by unfold cls; rw [List.length_map, List.length_range]
  rw [← len]
  have eN : g * (N / g) = N := Nat.mul_div_cancel' gN
  refine Nat.le_antisymm (nd.length_le_of_subset fun k hk => ?_) ((cls_nodup g0).length_le_of_subset fun k hk => ?_)
  · obtain ⟨w, hw⟩ := wk k hk
    have hc := wlk_cong (Int.natCast_dvd_natCast.mpr gN) (Int.natCast_dvd_natCast.mpr gT) (Int.natCast_dvd_natCast.mpr gF) w r0
    rw [hw] at hc
    obtain ⟨q, hq⟩ : ∃ q : Nat, k.1 = q := ⟨k.1.toNat, (Int.toNat_of_nonneg (rg _ hk).1).symm⟩
    have hqN : q < N := by
      have := (rg _ hk).2
      rw [hq] at this
      exact Int.ofNat_lt.mp this
    rw [hq, hR] at hc
    have hm : q % g = R % g := by
      have h2 : ((q : Int)) % g = (R : Int) % g := Int.emod_eq_emod_iff_emod_sub_eq_zero.mpr (Int.emod_eq_zero_of_dvd hc)
      rw [← Int.natCast_emod, ← Int.natCast_emod] at h2
      exact Int.ofNat.inj h2
    have hd := Nat.div_add_mod q g
    have hlt : q / g < N / g := by
      refine Nat.lt_of_mul_lt_mul_left (a := g) ?_
      rw [eN]
      exact Nat.lt_of_le_of_lt (Nat.mul_div_le q g) hqN
    refine List.mem_map.mpr ⟨2 * (q / g) + (if k.2 = true then 0 else 1), List.mem_range.mpr (by split <;> omega), ?_⟩
    obtain ⟨k1, u⟩ := k
    dsimp only at hq ⊢
    cases u with
    | true =>
      rw [if_pos rfl, Nat.add_zero, show 2 * (q / g) / 2 = q / g by omega, show 2 * (q / g) % 2 = 0 by omega, hq, ← hm, show q % g + g * (q / g) = q by omega]
      rfl
    | false =>
      rw [if_neg (by decide), show (2 * (q / g) + 1) / 2 = q / g by omega, show (2 * (q / g) + 1) % 2 = 1 by omega, hq, ← hm, show q % g + g * (q / g) = q by omega]
      rfl
  · obtain ⟨j, hj, rfl⟩ := List.mem_map.mp hk
    have hj := List.mem_range.mp hj
    have hi : j / 2 < N / g := by omega
    have hlt : R % g + g * (j / 2) < N := by
      have h1 := Nat.mod_lt R g0
      have h2 : g * (j / 2 + 1) ≤ g * (N / g) := Nat.mul_le_mul_left g hi
      rw [eN, Nat.mul_add, Nat.mul_one] at h2
      omega
    have e : (((R % g + g * (j / 2) : Nat) : Int)) = ((R : Int) + ((((j / 2 : Nat) : Int) * (g : Int)) + -((((R / g : Nat) : Int) * (g : Int))))) := by
      have hd := Nat.div_add_mod R g
      have q1 : (((j / 2 : Nat) : Int) * (g : Int)) = ((g * (j / 2) : Nat) : Int) := by rw [Int.natCast_mul, Int.mul_comm]
      have q2 : (((R / g : Nat) : Int) * (g : Int)) = ((g * (R / g) : Nat) : Int) := by rw [Int.natCast_mul, Int.mul_comm]
      rw [q1, q2]
      omega
    have sy2 := (Sy.mul z sy (j / 2)).add (Sy.mul z sy (R / g)).neg
    have := sy2.1 r0.1 r0.2 h0 (j % 2 == 0)
    rw [hR, ← e, Int.emod_eq_of_lt (by omega) (by omega)] at this
    exact this

/-! words in order -/
theorem code_lt : ∀ (w v : Wd) (a b : Nat), w.length = v.length → a < b → w.foldl (fun a m => 3 * a + 1 + dig m) a < v.foldl (fun a m => 3 * a + 1 + dig m) b
  | [], [], a, b, _, h => h
  | m :: w, m' :: v, a, b, hl, h => by
    simp only [List.foldl_cons]
    refine code_lt w v _ _ (Nat.succ.inj hl) ?_
    have d1 : dig m ≤ 2 := by cases m <;> decide
    omega
  | [], _ :: _, _, _, len, _ => by simp at len
  | _ :: _, [], _, _, len, _ => by simp at len
/-- the letters as signs -/
def sgn : Mv → Nat
  | .L => 76
  | .P => 80
  | .R => 82
theorem sgn_lt {m m' : Mv} (h : sgn m < sgn m') : dig m < dig m' := by cases m <;> cases m' <;> simp [sgn, dig] at h ⊢
theorem sgn_inj {m m' : Mv} (h : sgn m = sgn m') : m = m' := by cases m <;> cases m' <;> simp [sgn] at h ⊢
end SM

/-! dicts whose keys are pairs (int, bool) -/
namespace SM
open PySem PySem.Spec PyProof.Rows L2

def triV (t : Tri) : List V := [.int t.1, .bl t.2]
def triL (t : Tri) : List Leaf := [.num t.1, .num (if t.2 = true then 1 else 0)]
theorem triL_inj {a b : Tri} (e : triL a = triL b) : a = b := by
  obtain ⟨r, u⟩ := a
  obtain ⟨s, v⟩ := b
  unfold triL at e
  injection e with e1 e2
  injection e2 with e3 e4
  injection e1 with e1
  injection e3 with e3
  dsimp only at e1 e3
  subst e1
  cases u <;> cases v <;> first | rfl | (simp at e3)
/-- an entry: the key, its tuple's address, the value -/
abbrev En := Tri × Addr × V
abbrev knd (P : Program) (w : World) := tupleKind (leafKind P w)
abbrev EX : List En → List (List Leaf × Addr × Value) → Prop := Paired fun y x => x.1 = triL y.1 ∧ x.2.1 = y.2.1 ∧ RelV y.2.2 x.2.2
def PhiB (P : Program) (w : World) (d : Addr) (ys : List En) (h : Heap) : Prop :=
  ys.length ≤ sizeLine ∧ (d == sysModules) = false ∧ ∃ xs : List (List Leaf × Addr × Value), EX ys xs ∧
    ∃ o es ep, h.get? d = some o ∧ o.ExactDict ∧ o.data = .dict es ep ∧ es.toList = xs.map (entryOfKey (knd P w)) ∧ (xs.map (·.1)).Nodup
def oB (P : Program) (w : World) (d : Addr) (ys : List En) : HO := .ext (PhiB P w d ys)
def KeysB (H : Hp) (ys : List En) : Prop := ∀ y ∈ ys, H y.2.1 = some (.tup (triV y.1))
def IsB (P : Program) (w : World) (H : Hp) (d : Addr) (ys : List En) : Prop := Rd H d (oB P w d ys) ∧ KeysB H ys
def valB (ys : List En) (k : Tri) : Option V := (ys.find? fun y => decide (y.1 = k)).map (·.2.2)
def putB (ys : List En) (k : Tri) (b : Addr) (v : V) : List En := if (valB ys k).isSome = true then ys.map (fun y => if y.1 = k then (y.1, y.2.1, v) else y) else ys ++ [(k, b, v)]

section
variable {P : Program} {w : World} {H : Hp} {h : Heap} {d b : Addr} {ys : List En}
theorem phi_stay : ∀ h1 h2 : Heap, PhiB P w d ys h1 → (∀ o, h1.get? d = some o → h2.get? d = some o) → PhiB P w d ys h2 := fun h1 h2 x k => by
  obtain ⟨z, hd, xs, r, o, es, ep, ho, c⟩ := x
  exact ⟨z, hd, xs, r, o, es, ep, k _ ho, c⟩
theorem oB_ok (x : PhiB P w d ys h) : ObjOk P w H h d (oB P w d ys) := by
  refine ⟨x, ?_, phi_stay⟩
  obtain ⟨z, hd, xs, r, o, es, ep, ho, c⟩ := x
  exact ⟨o, ho⟩
theorem oB_of (x : ObjOk P w H h d (oB P w d ys)) : PhiB P w d ys h := x.1
theorem keyB_of {k : Tri} (ok : HOk P w H h) (e : H b = some (.tup (triV k))) : (knd P w).is h (triL k) b := by
  obtain ⟨_, its, r, o, h1, h2, n, h3⟩ := (show ObjOk P w H h b (.tup (triV k)) from ok b _ e)
  refine ⟨o, its.toArray, n, h1, h2, h3, ?_⟩
  obtain ⟨u, v, e, r1, r2⟩ := vals2 r
  subst e
  obtain ⟨t, rfl⟩ := (show ∃ t, u = Value.int k.1 t from r1)
  cases (show v = Value.bool k.2 from r2)
  exact .cons (decide_eq_true rfl) (.cons (decide_eq_true rfl) .nil)
theorem dB_of (ok : HOk P w H h) (e : IsB P w H d ys) : ys.length ≤ sizeLine ∧ (d == sysModules) = false ∧ ∃ xs, EX ys xs ∧ h.DictOfH (knd P w) d xs := by
  obtain ⟨z, hd, xs, r, o, es, ep, h1, h2, h3, h4, h5⟩ := oB_of (Rd.ok e.1 ok)
  refine ⟨z, hd, xs, r, o, es, ep, h1, h2, h3, h4, fun x hx => ?_, h5⟩
  have ky := e.2
  clear h4 h5 z e
  induction r with
  | nil => exact nomatch hx
  | @cons p q ps qs hq t ih =>
    rcases (List.mem_cons (a := x)).mp hx with e | hx
    · subst e
      rw [hq.1, hq.2.1]
      exact keyB_of ok (ky p List.mem_cons_self)
    · exact ih hx fun y hy => ky y (List.mem_cons_of_mem _ hy)
theorem EX.length {ys : List En} {xs : List (List Leaf × Addr × Value)} (r : EX ys xs) : ys.length = xs.length := Paired.length r
theorem EX.val {ys : List En} {xs : List (List Leaf × Addr × Value)} (r : EX ys xs) (k : Tri) : RelO (valB ys k) ((atKey xs (triL k)).map (·.2)) := by
  induction r with
  | nil => exact True.intro
  | @cons p q ps qs h t ih =>
    obtain ⟨h1, _, h2⟩ := h
    by_cases e : p.1 = k
    · have e' : q.1 = triL k := by rw [h1, e]
      have b : atKey (q :: qs) (triL k) = some q.2 := by simp [atKey, List.find?_cons, e']
      have a : valB (p :: ps) k = some p.2.2 := by simp [valB, List.find?_cons, e]
      rw [a, b]; exact h2
    · have e' : ¬ q.1 = triL k := fun z => e (triL_inj (h1.symm.trans z))
      have b : atKey (q :: qs) (triL k) = atKey qs (triL k) := by simp [atKey, List.find?_cons, e']
      have a : valB (p :: ps) k = valB ps k := by simp [valB, List.find?_cons, e]
      rw [a, b]; exact ih
theorem EX.repl {ys : List En} {xs : List (List Leaf × Addr × Value)} (r : EX ys xs) (k : Tri) {y : V} {u : Value} (vy : RelV y u) :
    EX (ys.map fun z => if z.1 = k then (z.1, z.2.1, y) else z) (xs.map (putAt (triL k) u)) := by
  induction r with
  | nil => exact .nil
  | @cons p q ps qs h t ih =>
    simp only [List.map_cons]
    refine .cons ?_ ih
    obtain ⟨h1, h2, h3⟩ := h
    unfold putAt
    by_cases e : p.1 = k
    · rw [if_pos e, if_pos (by rw [h1, e])]; exact ⟨h1, h2, vy⟩
    · rw [if_neg e, if_neg (fun z => e (triL_inj (h1.symm.trans z)))]; exact ⟨h1, h2, h3⟩
theorem EX.put {ys : List En} {xs : List (List Leaf × Addr × Value)} (r : EX ys xs) (k : Tri) {b : Addr} {y : V} {u : Value} (vy : RelV y u) :
    EX (putB ys k b y) (storedH xs (triL k) b u) := by
  have e : (valB ys k).isSome = (atKey xs (triL k)).isSome := by
    rw [(r.val k).isSome_eq, Option.isSome_map]
  unfold putB storedH
  rw [e]
  by_cases q : (atKey xs (triL k)).isSome = true
  · rw [if_pos q, if_pos q]; exact r.repl k vy
  · rw [if_neg q, if_neg q]; exact Paired.snoc r ⟨rfl, rfl, vy⟩
theorem putB_len (ys : List En) (k : Tri) (b : Addr) (v : V) : (putB ys k b v).length ≤ ys.length + 1 := by
  unfold putB
  split
  · rw [List.length_map]; omega
  · rw [List.length_append]; exact Nat.le_refl _
theorem KeysB.put {k : Tri} {v : V} (ky : KeysB H ys) (e : H b = some (.tup (triV k))) : KeysB H (putB ys k b v) := fun y hy => by
  unfold putB at hy
  split at hy
  · obtain ⟨z, hz, rfl⟩ := List.mem_map.mp hy
    split
    · exact ky z hz
    · exact ky z hz
  · rcases List.mem_append.mp hy with hy | hy
    · exact ky y hy
    · cases List.mem_singleton.mp hy
      exact e
theorem KeysB.keeps {H' : Hp} (ky : KeysB H ys) (k : ∀ a xs, H a = some (.tup xs) → H' a = some (.tup xs)) : KeysB H' ys := fun y hy => k _ _ (ky y hy)
end

section
variable {X : Cx} {pn : List (Addr × Obj)} {τ : L2.St} {H : Hp} {s : Shared} {a b : Addr} {ys : List En} {k : Tri} {y v : V} {u r : Value} {o : Option V} {A : Around} {E : Value → Shared → Prop}
/-- d[y], there -/
theorem B_getItem {Q : Value → Shared → Prop} (hu : A.units + 1 < cLine) (J : Inv X pn τ H s) (g : IsB X.prog X.w H a ys) (eb : H b = some (.tup (triV k))) (l : valB ys k = some v) (h : ∀ w' s', Inv X pn τ H s' → RelV v w' → Q w' s') :
    wpAny (model X.prog X.w) A (getItem (.ref a) (.ref b)) Q E s := by
  obtain ⟨z, hd, xs, rel, dd⟩ := dB_of J.hok g
  obtain ⟨w', hw, rw'⟩ := RelO.some_of (v := v) (o := (atKey xs (triL k)).map (·.2)) (by rw [← l]; exact rel.val k)
  obtain ⟨e0, he0, hv0⟩ := Option.map_eq_some_iff.mp hw
  refine wpAny_getItem_heap (tupleKind_room_in1 hu) (keyB_of J.hok eb) dd he0 ?_
  rw [hv0]
  exact h w' _ (J.tok _) rw'
theorem B_in {Q : Value → Shared → Prop} (hu : A.units + 1 < cLine) (J : Inv X pn τ H s) (g : IsB X.prog X.w H a ys) (eb : H b = some (.tup (triV k))) (h : ∀ s', Inv X pn τ H s' → Q (.bool (valB ys k).isSome) s') :
    wpAny (model X.prog X.w) A (compareOp .In (.ref b) (.ref a)) Q E s := by
  obtain ⟨z, hd, xs, rel, dd⟩ := dB_of J.hok g
  refine wpAny_in_heap (tupleKind_room_in1 hu) (keyB_of J.hok eb) hd dd ?_
  have same := (rel.val k).isSome_eq
  rw [Option.isSome_map] at same
  rw [← same]
  exact h _ (J.tok _)
theorem B_notIn {Q : Value → Shared → Prop} (hu : A.units + 1 < cLine) (J : Inv X pn τ H s) (g : IsB X.prog X.w H a ys) (eb : H b = some (.tup (triV k))) (h : ∀ s', Inv X pn τ H s' → Q (.bool (!(valB ys k).isSome)) s') :
    wpAny (model X.prog X.w) A (compareOp .NotIn (.ref b) (.ref a)) Q E s := by
  obtain ⟨z, hd, xs, rel, dd⟩ := dB_of J.hok g
  refine wpAny_notIn_heap (tupleKind_room_in1 hu) (keyB_of J.hok eb) hd dd ?_
  have same := (rel.val k).isSome_eq
  rw [Option.isSome_map] at same
  rw [← same]
  exact h _ (J.tok _)
theorem B_setItem {Q : Unit → Shared → Prop} (hu : A.units + 1 < cLine) (J : Inv X pn τ H s) (e : H a = some (oB X.prog X.w a ys)) (ky : KeysB H ys) (eb : H b = some (.tup (triV k))) (l : ys.length < sizeLine) (rv : RelV v r)
    (h : ∀ s', Inv X pn τ (upd H a (oB X.prog X.w a (putB ys k b v))) s' → Q () s') :
    wpAny (model X.prog X.w) A (setItem (.ref a) (.ref b) r) Q E s := by
  obtain ⟨z, hd, xs, rel, dd⟩ := dB_of J.hok ⟨.inl e, ky⟩
  have hz : xs.length ≤ sizeLine := by rw [← rel.length]; exact z
  have hl : (putB ys k b v).length ≤ sizeLine := by have := putB_len ys k b v; omega
  refine wpAny_setItem_heap (hsz := hz) (tupleKind_room_in1 hu) (keyB_of J.hok eb) dd fun h' dd' hs => h _ ?_
  obtain ⟨ob, rows, mark, there, exact, data, list, _, apart⟩ := dd'
  exact d_write J (by rw [e]; exact True.intro) hs ⟨ob, there⟩ (oB_ok ⟨hl, hd, _, rel.put k rv, ob, rows, mark, there, exact, data, list, apart⟩)
theorem B_typeIs (J : Inv X pn τ H s) (g : IsB X.prog X.w H a ys) : s.TypeIs (.ref a) "dict" := by
  obtain ⟨_, _, xs, _, dd⟩ := dB_of J.hok g
  exact dd.typeIs
theorem B_noDict (J : Inv X pn τ H s) (g : IsB X.prog X.w H a ys) : ∀ b, Value.ref a = .ref b → ∃ ob, s.heap.get? b = some ob ∧ ob.dict = none := fun b q => by
  cases q
  obtain ⟨_, _, xs, _, ob, _, _, h1, h2, _⟩ := dB_of J.hok g
  exact ⟨ob, h1, h2.2.1⟩
theorem B_get1 {Q : Value → Shared → Prop} (hu : A.units + 1 < cLine) (J : Inv X pn τ H s) (g : IsB X.prog X.w H a ys) (eb : H b = some (.tup (triV k))) (h : ∀ w' s', Inv X pn τ H s' → RelV ((valB ys k).getD .non) w' → Q w' s') :
    wpAny (model X.prog X.w) A (call (.builtin "dict.get") [.ref a, .ref b]) Q E s := by
  obtain ⟨z, hd, xs, rel, dd⟩ := dB_of J.hok g
  exact call_meetsIn PySem.F.slot_dict_get dd.typeIs PySem.F.entry_dict_get (PySem.F.args_dict_get_2 _ _) (meetsH_dict_get (knd X.prog X.w) a b hd) ⟨tupleKind_room_in1 hu, triL k, xs, keyB_of J.hok eb, dd, h _ _ (J.tok _) ((rel.val k).getD rfl)⟩
theorem B_get2 {dv : V} {Q : Value → Shared → Prop} (hu : A.units + 1 < cLine) (J : Inv X pn τ H s) (g : IsB X.prog X.w H a ys) (eb : H b = some (.tup (triV k))) (rd : RelV dv r) (h : ∀ w' s', Inv X pn τ H s' → RelV ((valB ys k).getD dv) w' → Q w' s') :
    wpAny (model X.prog X.w) A (call (.builtin "dict.get") [.ref a, .ref b, r]) Q E s := by
  obtain ⟨z, hd, xs, rel, dd⟩ := dB_of J.hok g
  exact call_meetsIn PySem.F.slot_dict_get dd.typeIs PySem.F.entry_dict_get (PySem.F.args_dict_get_3 _ _ _) (meetsH_dict_get_default (knd X.prog X.w) a b hd r) ⟨tupleKind_room_in1 hu, triL k, xs, keyB_of J.hok eb, dd, h _ _ (J.tok _) ((rel.val k).getD rd)⟩
end

/-! ### readings -/
/-- d[y] -/
def tBGet (P : Program) (w : World) (td ty : TE) : TE := fun τ H Q => td τ H fun x H1 => ty τ H1 fun y H2 => ∃ a b ys k v, x = .ref a ∧ y = .ref b ∧ IsB P w H2 a ys ∧ H2 b = some (.tup (triV k)) ∧ valB ys k = some v ∧ Q v H2
def tBNotIn (P : Program) (w : World) (ty td : TE) : TE := fun τ H Q => ty τ H fun y H1 => td τ H1 fun x H2 => ∃ a b ys k, x = .ref a ∧ y = .ref b ∧ IsB P w H2 a ys ∧ H2 b = some (.tup (triV k)) ∧ Q (.bl (!(valB ys k).isSome)) H2
def sBPut (P : Program) (w : World) (td ty tv : TE) : TS := fun D τ H => tv τ H fun v H1 => td τ H1 fun x H2 => ty τ H2 fun y H3 => ∃ a b ys k, x = .ref a ∧ y = .ref b ∧ H3 a = some (oB P w a ys) ∧ KeysB H3 ys ∧ H3 b = some (.tup (triV k)) ∧ ys.length < sizeLine ∧
  D.nx τ (upd H3 a (oB P w a (putB ys k b v)))
def tBGet1 (P : Program) (w : World) (td ty : TE) : TE := fun τ H Q => td τ H fun x H1 => ∃ a ys, x = .ref a ∧ IsB P w H1 a ys ∧ ty τ H1 fun y H2 => ∃ b k, y = .ref b ∧ IsB P w H2 a ys ∧ H2 b = some (.tup (triV k)) ∧ Q ((valB ys k).getD .non) H2
def tBGet2 (P : Program) (w : World) (td ty tx : TE) : TE := fun τ H Q => td τ H fun x H1 => ∃ a ys, x = .ref a ∧ IsB P w H1 a ys ∧ ty τ H1 fun y H2 => tx τ H2 fun z H3 => ∃ b k, y = .ref b ∧ IsB P w H3 a ys ∧ H3 b = some (.tup (triV k)) ∧ Q ((valB ys k).getD z) H3
section
variable {X : Cx} {o i e f value : Expr} {pos pos' apos cpos : Pos} {td ty tv tx : TE}
theorem pe_Bget (hu : X.A.units + 1 < cLine) (ho : PE X o td) (hi : PE X i ty) (hs : NoSl i) : PE X (.Subscript o i pos) (tBGet X.prog X.w td ty) := by
  constructor
  intro pn s τ H Q J h
  refine subD_of PySem.F.slot_dict_getitem.lookup hs (thn (ho.run pn s τ H _ J h) fun u s1 ⟨x, H1, J1, vx, g1⟩ => thn (hi.run pn s1 τ H1 _ J1 g1) fun iv s2 ⟨y, H2, J2, vy, a, b, ys, k, v, ex, ey, g, eb, l, g2⟩ => ?_)
  subst ex ey
  cases (show u = Value.ref a from vx)
  obtain rfl : iv = Value.ref b := vy
  exact ⟨B_typeIs J2 g, B_getItem hu J2 g eb l fun w' s3 J3 rw' => ⟨v, H2, J3, rw', g2⟩⟩
theorem pc_Bnotin (hu : X.A.units + 1 < cLine) (hi : PE X i ty) (ho : PE X o td) : PC X .NotIn i o (tBNotIn X.prog X.w ty td) := by
  constructor
  intro pn s τ H Q J h
  refine thn (hi.run pn s τ H _ J h) fun iv s1 ⟨y, H1, J1, vy, g1⟩ => thn (ho.run pn s1 τ H1 _ J1 g1) fun u s2 ⟨x, H2, J2, vx, a, b, ys, k, ex, ey, g, eb, g2⟩ => ?_
  subst ex ey
  cases (show u = Value.ref a from vx)
  obtain rfl : iv = Value.ref b := vy
  exact B_notIn hu J2 g eb fun s3 J3 => ⟨.bl (!(valB ys k).isSome), H2, J3, rfl, g2⟩
theorem ps_Bput (hu : X.A.units + 1 < cLine) (ho : PE X o td) (hi : PE X i ty) (hv : PE X value tv) (hs : swapsWith value (some (.Subscript o i pos')) pos.line X.env = pure false) :
    PS X (.Assign [.Subscript o i pos'] value pos) (sBPut X.prog X.w td ty tv) := by
  constructor
  intro pn s τ H D J h
  refine wpAny_Assign_Subscript (thn (hv.run pn s τ H _ J h) fun r s1 ⟨v, H1, J1, rv, g1⟩ => thn (ho.run pn s1 τ H1 _ J1 g1) fun u s2 ⟨x, H2, J2, vx, g2⟩ => thn (hi.run pn s2 τ H2 _ J2 g2) fun iv s3 ⟨y, H3, J3, vy, a, b, ys, k, ex, ey, g, ky, eb, l, g3⟩ => ?_) hs
  subst ex ey
  cases (show u = Value.ref a from vx)
  obtain rfl : iv = Value.ref b := vy
  exact B_setItem hu J3 g ky eb l rv fun s4 J4 => ⟨τ, _, J4, g3⟩
theorem pe_Bget1 (hu : X.A.units + 1 < cLine) (ho : PE X o td) (he : PE X e ty) (m : M1 X o "get" apos e cpos) : PE X (.Call (.Attribute o "get" apos) [e] [] cpos) (tBGet1 X.prog X.w td ty) := by
  constructor
  intro pn s τ H Q J h
  refine wpAny_Call_method m.base m.few m.line PySem.F.plainAttrs_dict PySem.F.slot_dict_get PySem.F.type_dict_get (thn (ho.run pn s τ H _ J h) fun u s1 ⟨x, H1, J1, vx, a, ys, ex, d, g1⟩ => ?_)
  subst ex
  cases (show u = Value.ref a from vx)
  refine ⟨B_typeIs J1 d, B_noDict J1 d, ?_⟩
  rw [m.trees]
  refine Calls.callWith_builtin rfl (Calls.evalArgs_plain (Calls.spliced_cons (thn (he.run pn s1 τ H1 _ J1 g1) fun iv s2 ⟨y, H2, J2, vy, b, k, ey, g, eb, g2⟩ => Calls.spliced_nil ?_)))
  subst ey
  obtain rfl : iv = Value.ref b := vy
  exact B_get1 hu J2 g eb fun w' s3 J3 rw' => ⟨_, H2, J3, rw', g2⟩
theorem pe_Bget2 (hu : X.A.units + 1 < cLine) (ho : PE X o td) (he : PE X e ty) (hf : PE X f tx) (m : M2 X o "get" apos e f cpos) : PE X (.Call (.Attribute o "get" apos) [e, f] [] cpos) (tBGet2 X.prog X.w td ty tx) := by
  constructor
  intro pn s τ H Q J h
  refine wpAny_Call_method m.base m.few m.line PySem.F.plainAttrs_dict PySem.F.slot_dict_get PySem.F.type_dict_get (thn (ho.run pn s τ H _ J h) fun u s1 ⟨x, H1, J1, vx, a, ys, ex, d, g1⟩ => ?_)
  subst ex
  cases (show u = Value.ref a from vx)
  refine ⟨B_typeIs J1 d, B_noDict J1 d, ?_⟩
  rw [m.trees]
  refine Calls.callWith_builtin rfl (Calls.evalArgs_plain (Calls.spliced_cons (thn (he.run pn s1 τ H1 _ J1 g1) fun iv s2 ⟨y, H2, J2, vy, g2⟩ =>
    Calls.spliced_cons (thn (hf.run pn s2 τ H2 _ J2 g2) fun fv s3 ⟨z, H3, J3, rz, b, k, ey, g, eb, g3⟩ => Calls.spliced_nil ?_))))
  subst ey
  obtain rfl : iv = Value.ref b := vy
  exact B_get2 hu J3 g eb rz fun w' s4 J4 rw' => ⟨_, H3, J4, rw', g3⟩
end
/-- len(d) -/
def rLenB (P : Program) (w : World) : List V → Hp → VK → Prop := fun xs H Q => ∃ (p : Addr) (ys : List En), xs = [.ref p] ∧ IsB P w H p ys ∧ Q (.int ((ys.length : Nat) : Int)) H
theorem call_lenB {X : Cx} : CallR X (.builtin "len") (rLenB X.prog X.w) := by
  intro pn s τ H xs us Q J r h
  obtain ⟨p, ys, rfl, hp, q⟩ := h
  obtain ⟨u, rfl, vx⟩ := vals1 r
  obtain rfl : u = .ref p := vx
  obtain ⟨z, hd, zs, rel, dd⟩ := dB_of J.hok hp
  have hl : ys.length = zs.length := rel.length
  have small : (zs.length : Int) < 2 ^ 63 := by
    rw [sizeLine_eq] at z
    omega
  refine call_len_dictH hd dd small ?_
  rw [← hl]
  exact ⟨.int ((ys.length : Nat) : Int), H, J.tok _, ⟨_, rfl⟩, q⟩
end SM

/-! {k: v} and for k in d, of dicts whose keys are pairs (int, bool) -/
namespace SM
open PySem PySem.Spec PyProof.Rows L2
theorem phi_empty {P : Program} {w : World} (h : Heap) (hb : sysModules < h.objs.size) : PhiB P w h.objs.size [] (h.push { cls := .type "dict", data := .dict #[] }) := by
  have apart : (h.objs.size == sysModules) = false := by
    rw [beq_eq_false_iff_ne]
    intro z
    rw [z] at hb
    exact Nat.lt_irrefl _ hb
  exact ⟨Nat.zero_le _, apart, [], .nil, { cls := .type "dict", data := .dict #[] }, #[], 0, Heap.get?_push_size _ rfl, ⟨rfl, rfl, rfl⟩, rfl, rfl, List.nodup_nil⟩
def tBDisp1 (P : Program) (w : World) (tk tv : TE) : TE := fun τ H Q => ∀ p, H p = none → tk τ (upd H p (oB P w p [])) fun x H1 => tv τ H1 fun y H2 => ∃ b k, x = .ref b ∧ H2 b = some (.tup (triV k)) ∧ H2 p = some (oB P w p []) ∧
  Q (.ref p) (upd H2 p (oB P w p [(k, b, y)]))
theorem pe_Bdisp1 {X : Cx} {pos : Pos} {k v : Expr} {tk tv : TE} (hu : X.A.units < cLine) (hk : PE X k tk) (hv : PE X v tv) : PE X (.Dict [some k] [v] pos) (tBDisp1 X.prog X.w tk tv) := by
  refine ⟨fun pn s τ H Q J q => ?_⟩
  have hn := J.hok.fresh (Nat.le_refl s.heap.objs.size)
  have J1 := J.laid (a := s.heap.objs.size) (o := oB X.prog X.w s.heap.objs.size []) (h' := s.heap.push { cls := .type "dict", data := .dict #[] }) (t' := s.toks) (fun _ _ q => Heap.get?_push_of_some _ q) (Nat.le_refl _) (oB_ok (phi_empty s.heap J.big))
  rw [arm_eval_Dict, zip_pairTrees [some k] [v] X.env pos rfl rfl, dictDisplay_pairs (pairTrees [some k] [v] X.env pos) (by intro z; exact nomatch z) (by show 1 < 17; decide)]
  refine wpAny_bind (wpAny_standAt (wpAny_bind (wpAny_subDictH (knd := knd X.prog X.w) (Q := fun d s' => wpAny (model X.prog X.w) X.A (pure (Value.ref d)) (EP X pn τ Q) X.xe s') hu (by show 1 ≤ 15; decide) ?_)))
  refine pairTrees_cons_walk (thn (hk.run pn _ τ _ _ J1 (q _ hn)) fun u s1 ⟨x, H1, J2, vx, g1⟩ => thn (hv.run pn s1 τ H1 _ J2 g1) fun r s2 ⟨y, H2, J3, vy, b, kk, ex, eb, ep, g2⟩ => ?_)
  subst ex
  obtain rfl : u = Value.ref b := vx
  refine pairTrees_nil_walk ?_
  obtain ⟨z, hd, xs, rel, dd⟩ := dB_of J3.hok ⟨.inl ep, fun y hy => nomatch hy⟩
  cases rel
  refine ⟨[(triL kk, b, r)], ⟨rfl, rfl, keyB_of J3.hok eb, trivial⟩, dd, fun h' tk' dd' hs => wpAny_pure ⟨.ref s.heap.objs.size, _, ?_, rfl, g2⟩⟩
  obtain ⟨o, es, e2, ho, h2, h3, h4, _, h5⟩ := dd'
  exact d_write J3 (by rw [ep]; exact True.intro) hs ⟨o, ho⟩ (oB_ok ⟨by show 1 ≤ sizeLine; decide, hd, _, .cons ⟨rfl, rfl, vy⟩ .nil, o, es, e2, ho, h2, h3, h4, h5⟩)

/-! ### walks -/
theorem Inv.frzB {X : Cx} {pn : List (Addr × Obj)} {τ : L2.St} {H : Hp} {s : Shared} {d : Addr} {o : Obj} {ys : List En} (J : Inv X pn τ H s) (h : H d = some (.frz o (oB X.prog X.w d ys))) :
    (d == sysModules) = false ∧ s.heap.get? d = some o ∧ o.ExactDict ∧ ∃ (es : Array DictEntry) (ep : Nat), o.data = .dict es ep ∧ es.size = ys.length ∧
      ∀ (i : Nat) (y : En), ys[i]? = some y → ∃ (en : DictEntry), es[i]? = some en ∧ en.key = .ref y.2.1 := by
  obtain ⟨hd, hp⟩ := J.hok d _ h
  obtain ⟨z, hs, xs, pr, o', es, ep, ho, hx, hdt, he, _⟩ := oB_of hp
  rw [hd] at ho
  cases ho
  refine ⟨hs, hd, hx, es, ep, hdt, ?_, fun i y e => ?_⟩
  · rw [size_of_entries he, Paired.length pr]
  · obtain ⟨row, at_row, _, addr, _⟩ := paired_get pr e
    have found := entry_at he i
    rw [at_row] at found
    refine ⟨_, found, ?_⟩
    show Value.ref row.2.1 = _
    rw [addr]
/-- the keys of the locked dict at d -/
def Itb (P : Program) (w : World) (d : Addr) (o : Obj) (ys : List En) : It :=
  ⟨fun i H => H d = some (.frz o (oB P w d ys)) ∧ i < ys.length, fun i H x H' => H' = H ∧ ∃ y, ys[i]? = some y ∧ x = .ref y.2.1, fun i H => H d = some (.frz o (oB P w d ys)) ∧ ys.length ≤ i⟩
theorem turn_keysB {P : Program} {w : World} {K : PySem.W.Frag} {tg : Expr} {d : Addr} {o : Obj} {es : Array DictEntry} {ep : Nat} {ys : List En} (it : Addr) (hod : o.data = .dict es ep) :
    Turn P w K tg (Itb P w d o ys) [it] it (fun i h => h.IsKeyIter it d i ys.length ep) := by
  -- what does not look at the keys stands with the library's own walk over tuple keys
  have like := turn_keysT (P := P) (w := w) (K := K) (tg := tg) (d := d) (kvs := List.replicate ys.length ([], V.non)) it hod
  rw [List.length_replicate] at like
  refine ⟨like.mem, like.obj, like.keep, ?_, ?_, like.self⟩
  · intro Y eP eW eK calm i pn s τ H E J own st go
    subst eP eW eK
    obtain ⟨dict, less⟩ := go
    obtain ⟨n1, n2, n3, n4, n5, n6⟩ := own it (List.mem_singleton.mpr rfl)
    obtain ⟨_, there, _, rows, mark, data, size, entry⟩ := Inv.frzB J dict
    obtain ⟨r1, r2⟩ := dict_ep hod data
    subst r1 r2
    obtain ⟨row, at_row, is_key⟩ := entry i _ (List.getElem?_eq_getElem less)
    refine next_key_item st there data size at_row fun g st2 but => ?_
    have J2 : Inv Y pn τ H { s with heap := g } := J.turned (t' := s.toks) (fun c u ne z => (but.2 c ne).trans z) n1 n2 n4 n5 n6
    obtain ⟨iter, is_iter, cls, fields⟩ := id st2
    exact ⟨row.key, rfl, go_of (s := { s with heap := g }) is_iter cls fields (by decide) ⟨.ref (ys[i].2.1), H, J2, is_key, ⟨rfl, ys[i], List.getElem?_eq_getElem less, rfl⟩, st2, fun c hc => (own c hc).1⟩⟩
  · intro Y eP eW eK calm i pn s τ H E J own st stop
    subst eP eW eK
    obtain ⟨dict, less⟩ := stop
    obtain ⟨n1, n2, n3, n4, n5, n6⟩ := own it (List.mem_singleton.mpr rfl)
    obtain ⟨_, there, _, rows, mark, data, size, entry⟩ := Inv.frzB J dict
    obtain ⟨r1, r2⟩ := dict_ep hod data
    subst r1 r2
    exact next_key_end (J.ok.hd calm) st there data size less fun g but => ⟨rfl, J.turned (t' := s.toks) (fun c u ne z => but c u ne z) n1 n2 n4 n5 n6⟩
def iBKeys (P : Program) (w : World) (td : TE) : TI := fun τ H R => td τ H fun x H1 => ∃ d o ys, x = .ref d ∧ H1 d = some (.frz o (oB P w d ys)) ∧ R (Itb P w d o ys) H1
theorem pi_Bkeys {X : Cx} {tg e : Expr} {td : TE} (he : PE X e td) : PI X tg e (iBKeys X.prog X.w td) := by
  refine ⟨fun pn s τ H R J h => ?_⟩
  refine thn (he.run pn s τ H _ J h) fun u s1 ⟨x, H1, J1, vx, d, o, ys, ex, hd, q⟩ => ?_
  subst ex
  obtain rfl : u = Value.ref d := vx
  obtain ⟨hs, hgd, hx, es, ep, hdt, hsz, ent⟩ := Inv.frzB J1 hd
  refine iter_keys hs hgd hx hdt (pi_one (tk := s1.toks) J1 _ (turn_keysB _ hdt) ⟨_, Heap.get?_push_size _ rfl, rfl, ?_⟩ q)
  rw [hsz] <;> rfl
theorem walk_Bkeys {P : Program} {w : World} {d : Addr} {o : Obj} {ys : List En} : Walk (Itb P w d o ys) ys.length (fun H => H d = some (.frz o (oB P w d ys))) (fun i H x H' => H' = H ∧ ∃ y, ys[i]? = some y ∧ x = .ref y.2.1) :=
  { goes := fun _ _ less same => And.intro same less, stops := fun _ same => And.intro same (Nat.le_refl _), yields := fun _ _ _ _ _ _ told => told }
end SM

/-! the small defs of the program -/
namespace SM
open PySem PySem.Spec PyProof.Rows L2
def topS (i : Nat) : Stmt := PySem.Challenge.pw_temperworks_k83_whole_shortest_moves.main.body.getD i (.Pass ⟨0, 0, 0, 0⟩)
abbrev sIsInt : Stmt := topS 6
abbrev sIsIn : Stmt := topS 7
abbrev sCommon : Stmt := topS 8
abbrev sShape : Stmt := topS 12
abbrev sTriad : Stmt := topS 13
abbrev sMove : Stmt := topS 14
abbrev sMoves : Stmt := topS 15
abbrev sWalked : Stmt := topS 16
abbrev sWalk : Stmt := topS 17
abbrev sLeast : Stmt := topS 18
abbrev sReached : Stmt := topS 19
abbrev sTaken : Stmt := topS 21
abbrev sAlike : Stmt := topS 22
abbrev sLMove : Stmt := topS 23
abbrev sLTriads : Stmt := topS 24
abbrev sLaw : Stmt := topS 25
/-- what the module's names hold -/
structure Tn (mg : Str → Option Value) : Prop where
  isi : mg "isinstance" = none
  int : mg "int" = none
  bool : mg "bool" = none
  str : mg "str" = none
  tuple : mg "tuple" = none
  list : mg "list" = none
  len : mg "len" = none
  abs : mg "abs" = none
  all : mg "all" = none
  range : mg "range" = none
  steps : ∃ t, mg "MOST_STEPS" = some (.int 60 t)
  moves : ∃ t, mg "MOST_MOVES" = some (.int 200 t)
section
variable {P : Program} {w : World} {K : PySem.W.Frag} {mg : Str → Option Value} {base : Heap}
theorem scIsInt : FnScope ["value"] ["value"] (defScope sIsInt) := ⟨rfl, rfl, rfl, by decide +kernel, rfl, by decide +kernel, by decide +kernel⟩
def spIsInt : Sp := fun vs H Q _ => ∃ i, vs = [.int i] ∧ Q (.bl true) H
theorem ok_isInt {f : Addr} {fd : FuncData} {k : Nat} (F : Fun K "is_int" "is_int" sIsInt f fd) (T : Tn mg) : FnOk P w K mg base CX0 (k + 1) f fd ["value"] spIsInt := by
  refine F.ok scIsInt (fun vs H Q E h => ?_) (fun cdv A outer s H vs Q E hr h => ?_)
  · obtain ⟨i, rfl, _⟩ := h
    rfl
  · obtain ⟨i, rfl, q⟩ := h
    refine ⟨_, pss_one (ps_ret (pe_and (pe_callB call_isi (by rfl) T.isi (by decide +kernel) (pa_cons (pv 0) (pa_cons (pe_bltn (v := .ty "int") (by rfl) T.int (by decide +kernel) rfl) pa_nil)))
      (pe_one (pe_not (pe_callB call_isi (by rfl) T.isi (by decide +kernel) (pa_cons (pv 0) (pa_cons (pe_bltn (v := .ty "bool") (by rfl) T.bool (by decide +kernel) rfl) pa_nil))))))), ?_⟩
    refine ⟨.int i, rfl, _, _, _, _, true, rfl, .ty _, .base (.int i), kit_ty (by decide +kernel), true, rfl, iteT ?_⟩
    exact ⟨.int i, rfl, _, _, _, _, false, rfl, .ty _, .base (.int i), kit_ty (by decide +kernel), false, rfl, q⟩
theorem scIsIn : FnScope ["value", "least", "most"] ["value", "least", "most"] (defScope sIsIn) := ⟨rfl, rfl, rfl, by decide +kernel, rfl, by decide +kernel, by decide +kernel⟩
def spIsIn : Sp := fun vs H Q _ => ∃ i a b, vs = [.int i, .int a, .int b] ∧ a ≤ i ∧ i ≤ b ∧ Q (.bl true) H
theorem ok_isIn {f g : Addr} {fd gd : FuncData} {k : Nat} (F : Fun K "is_in" "is_in" sIsIn f fd) (FI : Fun K "is_int" "is_int" sIsInt g gd) (bI : Binds K gd ["value"] []) (gI : mg "is_int" = some (.ref g)) (T : Tn mg) :
    FnOk P w K mg base CX0 (k + 2) f fd ["value", "least", "most"] spIsIn := by
  have G : FnOk P w K mg base CX0 (k + 1) g gd ["value"] spIsInt := ok_isInt FI T
  refine F.ok scIsIn (fun vs H Q E h => ?_) (fun cdv A outer s H vs Q E hr h => ?_)
  · obtain ⟨i, a, b, rfl, _⟩ := h
    rfl
  · obtain ⟨i, a, b, rfl, h1, h2, q⟩ := h
    refine ⟨_, pss_one (ps_ret (pe_and (pe_call G hr (by rfl) gI FI.kp bI .nil pass0 (pa_cons (pv 0) pa_nil)) (pe_one (pe_chain op_le op_le (pv 1) (pv 0) (pv 2))))), ?_⟩
    refine ⟨.int i, rfl, i, rfl, true, rfl, iteT ?_⟩
    refine ⟨.int a, rfl, .int i, rfl, a, i, rfl, rfl, _, rfl, ?_⟩
    rw [decide_eq_true h1]
    refine iteT ⟨.int b, rfl, i, b, rfl, rfl, ?_⟩
    show Q (.bl (decide (i ≤ b))) H
    rw [decide_eq_true h2]
    exact q
/-! ### the greatest common divisor -/
theorem scCommon : FnScope ["one", "other"] ["one", "other"] (defScope sCommon) := ⟨rfl, rfl, rfl, by decide +kernel, rfl, by decide +kernel, by decide +kernel⟩
def spCommon : Sp := fun vs H Q _ => ∃ a b : Nat, vs = [.int a, .int b] ∧ Q (.int (Nat.gcd a b : Nat)) H
theorem ok_common {f : Addr} {fd : FuncData} {k : Nat} (F : Fun K "common" "common" sCommon f fd) (T : Tn mg) : FnOk P w K mg base CX0 (k + 1) f fd ["one", "other"] spCommon := by
  refine F.ok scCommon (fun vs H Q E h => ?_) (fun cdv A outer s H vs Q E hr h => ?_)
  · obtain ⟨a, b, rfl, _⟩ := h
    rfl
  · obtain ⟨a, b, rfl, q⟩ := h
    refine ⟨_, pss_cons (ps_par (i := 0) (j := 1) (by rfl) scCommon.nd rfl rfl (by decide) rfl rfl (pa_cons (pe_callB call_abs (by rfl) T.abs (by decide +kernel) (pa_cons (pv 0) pa_nil)) (pa_cons (pe_callB call_abs (by rfl) T.abs (by decide +kernel) (pa_cons (pv 1) pa_nil)) pa_nil)) (by rfl))
      (pss_cons (ps_while PassesOwn.never (pt_cmpR op_ne (pv 1) pe_int (nomark _))
        (pss_one (ps_par (i := 0) (j := 1) (by rfl) scCommon.nd rfl rfl (by decide) rfl rfl (pa_cons (pv 1) (pa_cons (pe_op op_modN (pv 0) (pv 1)) pa_nil)) (by rfl))))
      (pss_one (ps_ret (pv 0)))), ?_⟩
    refine ⟨.int a, rfl, (a : Int), rfl, .int b, rfl, (b : Int), rfl, _, _, rfl, ?_⟩
    rw [if_neg (by omega)]
    rw [if_neg (by omega)]
    refine while_by (fun σ H' => H' = H ∧ ∃ x y : Nat, σ = [some (.int x), some (.int y)] ∧ Nat.gcd x y = Nat.gcd a b) (fun σ _ => match σ with | [_, some (.int y)] => y.toNat | _ => 0)
      ⟨rfl, a, b, rfl, rfl⟩ ?_ (fun σ H Q Q' h p => ?_)
    · rintro σ H' ⟨rfl, x, y, rfl, e⟩
      refine ⟨.int y, rfl, rfl, _, rfl, ?_⟩
      by_cases hy : y = 0
      · subst hy
        refine iteF ?_
        rw [Nat.gcd_zero_right] at e
        refine ⟨.int x, rfl, ?_⟩
        rw [e]
        exact q
      · have hne : (!decide (V.int (y : Int) = V.int 0)) = true := by
          rw [decide_eq_false (fun z => hy (by injection z with z; omega))]
          rfl
        rw [hne]
        refine iteT ?_
        refine ⟨.int y, rfl, .int x, rfl, .int y, rfl, x, y, rfl, rfl, by omega, _, _, rfl, ⟨rfl, y, x % y, ?_, ?_⟩, ?_⟩
        · show [some (V.int (y : Int)), some (V.int ((x : Int).fmod y))] = _
          rw [Int.fmod_eq_emod_of_nonneg _ (by omega), Int.natCast_emod]
        · rw [← e, Nat.gcd_comm x y]
          exact (Nat.gcd_rec y x).symm ▸ Nat.gcd_comm _ _
        · show ((x : Int).fmod y).toNat < (y : Int).toNat
          rw [Int.fmod_eq_emod_of_nonneg _ (by omega), ← Int.natCast_emod, Int.toNat_natCast, Int.toNat_natCast]
          exact Nat.mod_lt _ (Nat.pos_of_ne_zero hy)
    · obtain ⟨v, hv, h1, k, hk, p⟩ := p
      exact ⟨v, hv, h1, k, hk, h _ _ p⟩
end
end SM

/-! need_shape, need_triad, move_of, reached, need_moves, walked, walk -/
namespace SM
open PySem PySem.Spec PyProof.Rows L2
/-! ### words as texts -/
def sgS (m : Mv) : Str := ⟨#[sgn m]⟩
def wordS (w : Wd) : Str := ⟨(w.map sgn).toArray⟩
theorem wordS_len (w : Wd) : (wordS w).length = w.length := by
  unfold wordS Str.length
  simp
theorem wordS_snoc (w : Wd) (m : Mv) : wordS w ++ sgS m = wordS (w ++ [m]) := by
  show (⟨(w.map sgn).toArray ++ #[sgn m]⟩ : Str) = ⟨((w ++ [m]).map sgn).toArray⟩
  simp
theorem sL : ("L" : Str) = sgS .L := by decide +kernel
theorem sP : ("P" : Str) = sgS .P := by decide +kernel
theorem sR : ("R" : Str) = sgS .R := by decide +kernel
theorem wNil : ("" : Str) = wordS [] := by decide +kernel
theorem sgS_inj {a b : Mv} (h : sgS a = sgS b) : a = b := by
  have e : sgn a = sgn b := by
    have := congrArg (fun z : Str => z.cps.toList) h
    simpa [sgS] using this
  exact sgn_inj e
theorem wordS_inj : ∀ {a b : Wd}, wordS a = wordS b → a = b := by
  intro a b h
  have e : a.map sgn = b.map sgn := by
    have := congrArg (fun z : Str => z.cps.toList) h
    simpa [wordS] using this
  clear h
  induction a generalizing b with
  | nil => cases b with
    | nil => rfl
    | cons y b => simp at e
  | cons x a ih => cases b with
    | nil => simp at e
    | cons y b =>
      simp only [List.map_cons] at e
      injection e with e1 e2
      rw [sgn_inj e1, ih e2]
/-- the numbers of a shape -/
structure Sh (N T F : Nat) : Prop where
  n3 : 3 ≤ N
  n60 : N ≤ 60
  t1 : 1 ≤ T
  tn : T + 2 ≤ N
  tf : T + 1 ≤ F
  fn : F + 1 ≤ N
  a1 : (2 * (T : Int)) % N ≠ F
  a2 : (2 * (F : Int)) % N ≠ T
  a3 : ((T : Int) + F) % N ≠ 0
theorem fm {a b : Int} (h : 0 ≤ b) : a.fmod b = a % b := Int.fmod_eq_emod_of_nonneg a h
theorem neV {a b : Int} (h : a ≠ b) : decide (V.int a = V.int b) = false := decide_eq_false fun z => h (by injection z)
section
variable {P : Program} {w : World} {K : PySem.W.Frag} {mg : Str → Option Value} {base : Heap}
theorem scShape : FnScope ["many", "third", "fifth"] ["many", "third", "fifth"] (defScope sShape) := ⟨rfl, rfl, rfl, by decide +kernel, rfl, by decide +kernel, by decide +kernel⟩
def spShape : Sp := fun vs H Q _ => ∃ N T F : Nat, vs = [.int N, .int T, .int F] ∧ Sh N T F ∧ Q .non H
theorem ok_shape {f g : Addr} {fd gd : FuncData} {k : Nat} (F : Fun K "need_shape" "need_shape" sShape f fd) (G : FnOk P w K mg base CX0 k g gd ["value", "least", "most"] spIsIn) (kp : PySem.W.keepIn K (.ref g) = true) (b : Binds K gd ["value", "least", "most"] [])
    (gI : mg "is_in" = some (.ref g)) (T : Tn mg) : FnOk P w K mg base CX0 (k + 1) f fd ["many", "third", "fifth"] spShape := by
  refine F.ok scShape (fun vs H Q E h => ?_) (fun cdv A outer s H vs Q E hr h => ?_)
  · obtain ⟨n, t, f, rfl, _⟩ := h
    rfl
  · obtain ⟨n, t, f, rfl, S, q⟩ := h
    obtain ⟨u, hs⟩ := T.steps
    have := S.n3
    have := S.n60
    have := S.t1
    have := S.tn
    have := S.tf
    have := S.fn
    have hz : (0 : Int) ≤ n := by omega
    refine ⟨_, pss_cons (ps_if (PW.pt (pw_or (pt_not (pt_val (pe_call G hr (by rfl) gI kp b .nil pass0 (pa_cons (pv 0) (pa_cons pe_int (pa_cons (pe_glob (v := .int 60) (by rfl) hs ⟨u, rfl⟩) pa_nil))))))
        (pw_or (pt_not (pt_val (pe_call G hr (by rfl) gI kp b .nil pass0 (pa_cons (pv 1) (pa_cons pe_int (pa_cons (pe_op op_sub (pv 0) pe_int) pa_nil))))))
        (pw_or1 (pt_not (pt_val (pe_call G hr (by rfl) gI kp b .nil pass0 (pa_cons (pv 2) (pa_cons (pe_op op_add (pv 1) pe_int) (pa_cons (pe_op op_sub (pv 0) pe_int) pa_nil)))))))))) (pss_one ps_never) pss_nil)
      (pss_one (ps_if (PW.pt (pw_or (pt_cmpR op_eq (pe_op op_modN (pe_op op_mul pe_int (pv 1)) (pv 0)) (pv 2) (nomark _))
        (pw_or (pt_cmpR op_eq (pe_op op_modN (pe_op op_mul pe_int (pv 2)) (pv 0)) (pv 1) (nomark _))
        (pw_or1 (pt_cmpR op_eq (pe_op op_modN (pe_op op_add (pv 1) (pv 2)) (pv 0)) pe_int (nomark _)))))) (pss_one ps_never) pss_nil)), ?_⟩
    refine ⟨.int n, rfl, n, 3, 60, rfl, by omega, by omega, true, rfl, iteF ?_⟩
    refine ⟨.int t, rfl, .int n, rfl, n, 2, rfl, rfl, t, 1, (n : Int) - 2, rfl, by omega, by omega, true, rfl, iteF ?_⟩
    refine ⟨.int f, rfl, .int t, rfl, t, 1, rfl, rfl, .int n, rfl, n, 1, rfl, rfl, f, (t : Int) + 1, (n : Int) - 1, rfl, by omega, by omega, true, rfl, iteF ?_⟩
    refine ⟨.int t, rfl, 2, t, rfl, rfl, .inl ⟨by decide, by decide⟩, .int n, rfl, (2 * (t : Int)), n, rfl, rfl, by omega, .int f, rfl, rfl, _, rfl, ?_⟩
    show if decide (V.int ((2 * (t : Int)).fmod n) = V.int f) = true then _ else _
    rw [fm hz, neV S.a1]
    refine iteF ⟨.int f, rfl, 2, f, rfl, rfl, .inl ⟨by decide, by decide⟩, .int n, rfl, (2 * (f : Int)), n, rfl, rfl, by omega, .int t, rfl, rfl, _, rfl, ?_⟩
    show if decide (V.int ((2 * (f : Int)).fmod n) = V.int t) = true then _ else _
    rw [fm hz, neV S.a2]
    refine iteF ⟨.int t, rfl, .int f, rfl, t, f, rfl, rfl, .int n, rfl, ((t : Int) + f), n, rfl, rfl, by omega, rfl, _, rfl, ?_⟩
    show if decide (V.int (((t : Int) + f).fmod n) = V.int 0) = true then _ else _
    rw [fm hz, neV S.a3]
    exact iteF q
theorem scTriad : FnScope ["many", "value"] ["many", "value"] (defScope sTriad) := ⟨rfl, rfl, rfl, by decide +kernel, rfl, by decide +kernel, by decide +kernel⟩
def spTriad : Sp := fun vs H Q _ => ∃ (N : Nat) (a : Addr) (k : Tri), vs = [.int N, .ref a] ∧ H a = some (.tup (triV k)) ∧ (0 ≤ k.1 ∧ k.1 < N) ∧ Q .non H
theorem ok_triad {f g : Addr} {fd gd : FuncData} {k : Nat} (F : Fun K "need_triad" "need_triad" sTriad f fd) (G : FnOk P w K mg base CX0 k g gd ["value", "least", "most"] spIsIn) (kp : PySem.W.keepIn K (.ref g) = true) (b : Binds K gd ["value", "least", "most"] [])
    (gI : mg "is_in" = some (.ref g)) (T : Tn mg) : FnOk P w K mg base CX0 (k + 1) f fd ["many", "value"] spTriad := by
  refine F.ok scTriad (fun vs H Q E h => ?_) (fun cdv A outer s H vs Q E hr h => ?_)
  · obtain ⟨n, a, c, rfl, _⟩ := h
    rfl
  · obtain ⟨n, a, c, rfl, ha, hc, q⟩ := h
    refine ⟨_, pss_cons (ps_if (PW.pt (pw_or (pt_not (pt_val (pe_callB call_isi (by rfl) T.isi (by decide +kernel) (pa_cons (pv 1) (pa_cons (pe_bltn (v := .ty "tuple") (by rfl) T.tuple (by decide +kernel) rfl) pa_nil)))))
        (pw_or (pt_cmpR op_ne (pe_callB call_len_seq (by rfl) T.len PySem.boot_len (pa_cons (pv 1) pa_nil)) pe_int (nomark _))
        (pw_or1 (pt_not (pt_val (pe_call G hr (by rfl) gI kp b .nil pass0 (pa_cons (pe_ix ix_tup (pv 1) pe_int (fun _ _ => rfl)) (pa_cons pe_int (pa_cons (pe_op op_sub (pv 0) pe_int) pa_nil)))))))))) (pss_one ps_never) pss_nil)
      (pss_one (ps_if (pt_not (pt_val (pe_callB call_isi (by rfl) T.isi (by decide +kernel) (pa_cons (pe_ix ix_tup (pv 1) pe_int (fun _ _ => rfl)) (pa_cons (pe_bltn (v := .ty "bool") (by rfl) T.bool (by decide +kernel) rfl) pa_nil))))) (pss_one ps_never) pss_nil)), ?_⟩
    have hS : SqT K H a (triV c) := SqT.of ha
    refine ⟨.ref a, rfl, _, _, _, _, true, rfl, .ty _, .base (.tup ha), kit_ty (by decide +kernel), true, rfl, iteF ?_⟩
    refine ⟨.ref a, rfl, a, triV c, rfl, .inr hS, rfl, _, rfl, iteF ?_⟩
    refine ⟨.ref a, rfl, a, triV c, 0, .int c.1, rfl, rfl, hS, atI_nat (j := 0) rfl, .int n, rfl, n, 1, rfl, rfl, c.1, 0, (n : Int) - 1, rfl, hc.1, by omega, true, rfl, iteF ?_⟩
    exact ⟨.ref a, rfl, a, triV c, 1, .bl c.2, rfl, rfl, hS, atI_nat (j := 1) rfl, _, _, _, _, true, rfl, .ty _, .base (.bl c.2), kit_ty (by decide +kernel), true, rfl, iteF q⟩
/-! ### a move -/
theorem scMove : FnScope ["many", "third", "fifth", "told", "move", "root", "is_upright", "step"] ["many", "third", "fifth", "told", "move"] (defScope sMove) := ⟨rfl, rfl, rfl, by decide +kernel, rfl, by decide +kernel, by decide +kernel⟩
def spMove : Sp := fun vs H Q _ => ∃ (N T F : Nat) (a : Addr) (k : Tri) (m : Mv), vs = [.int N, .int T, .int F, .ref a, .str (sgS m)] ∧ 0 < N ∧ H a = some (.tup (triV k)) ∧ ∀ p, H p = none → Q (.ref p) (upd H p (.tup (triV (mv N T F k m))))
theorem dS {a b : Mv} {x : Str} (e : x = sgS b) : decide (V.str (sgS a) = V.str x) = decide (a = b) := by
  subst e
  by_cases h : a = b
  · rw [h, decide_eq_true rfl, decide_eq_true rfl]
  · rw [decide_eq_false h, decide_eq_false fun z => h (sgS_inj (by injection z))]
theorem ok_move {f : Addr} {fd : FuncData} {k : Nat} (F : Fun K "move_of" "move_of" sMove f fd) : FnOk P w K mg base CX0 (k + 1) f fd ["many", "third", "fifth", "told", "move"] spMove := by
  refine F.ok scMove (fun vs H Q E h => ?_) (fun cdv A outer s H vs Q E hr h => ?_)
  · obtain ⟨n, t, f, a, c, m, rfl, _⟩ := h
    rfl
  · obtain ⟨n, t, f, a, c, m, rfl, hn, ha, q⟩ := h
    have hS : SqT K H a (triV c) := SqT.of ha
    have hz : (0 : Int) ≤ n := by omega
    refine ⟨_, pss_cons (ps_asg (pv 3) (pg_tup (by rfl) (pgs_cons (pg_name (i := 5) scMove.nd rfl (.inl rfl)) (pgs_cons (pg_name (i := 6) scMove.nd rfl (.inl rfl)) pgs_nil))))
      (pss_cons (ps_if (pt_cmpR op_eq (pv 4) pe_str (nomark _)) (pss_one (ps_ret (pe_tup (pa_cons (pv 5) (pa_cons (pe_not (pv 6)) pa_nil))))) pss_nil)
      (pss_cons (ps_set (i := 7) scMove.nd rfl (.inl rfl) (pe_ifExp (pt_cmpR op_eq (pv 4) pe_str (nomark _)) (pv 1) (pe_op op_sub (pv 1) (pv 2))))
      (pss_one (ps_ret (pe_tup (pa_cons (pe_ifExp (pt_val (pv 6)) (pe_op op_modN (pe_op op_add (pv 5) (pv 7)) (pv 0)) (pe_op op_modN (pe_op op_sub (pv 5) (pv 7)) (pv 0))) (pa_cons (pe_not (pv 6)) pa_nil))))))), ?_⟩
    refine ⟨.ref a, rfl, a, triV c, rfl, hS, rfl, .int c.1, [.bl c.2], rfl, .bl c.2, [], rfl, rfl, ?_⟩
    refine ⟨.str (sgS m), rfl, rfl, _, rfl, ?_⟩
    rw [dS sP]
    have fin : ∀ s : Int, (mv n t f c m = (if c.2 = true then (c.1 + s) % n else (c.1 - s) % n, !c.2)) →
        (if c.2 = true then ∃ v, some (V.int c.1) = some v ∧ True else True) → ∀ p, H p = none → Q (.ref p) (upd H p (.tup [.int (if c.2 = true then (c.1 + s).fmod n else (c.1 - s).fmod n), .bl (!c.2)])) := by
      intro s e _ p hp
      have := q p hp
      rw [e] at this
      rw [fm hz, fm hz]
      exact this
    cases m with
    | P =>
      refine iteT ?_
      exact ⟨.int c.1, rfl, .bl c.2, rfl, c.2, rfl, by show 2 ≤ sizeLine; decide, fun p hp => q p hp⟩
    | L =>
      refine iteF ⟨.str (sgS .L), rfl, rfl, _, rfl, ?_⟩
      rw [dS sL]
      refine iteT ⟨.int t, rfl, ?_⟩
      refine ⟨.bl c.2, rfl, c.2, rfl, ?_⟩
      refine ite2 (fun hc => ?_) (fun hc => ?_)
      · refine ⟨.int c.1, rfl, .int t, rfl, c.1, t, rfl, rfl, .int n, rfl, c.1 + t, n, rfl, rfl, by omega, .bl c.2, rfl, c.2, rfl, by show 2 ≤ sizeLine; decide, fun p hp => ?_⟩
        have := fin t rfl (by split <;> simp) p hp
        rw [if_pos hc] at this
        exact this
      · refine ⟨.int c.1, rfl, .int t, rfl, c.1, t, rfl, rfl, .int n, rfl, c.1 - t, n, rfl, rfl, by omega, .bl c.2, rfl, c.2, rfl, by show 2 ≤ sizeLine; decide, fun p hp => ?_⟩
        have := fin t rfl (by split <;> simp) p hp
        rw [if_neg hc] at this
        exact this
    | R =>
      refine iteF ⟨.str (sgS .R), rfl, rfl, _, rfl, ?_⟩
      rw [dS sL]
      refine iteF ⟨.int t, rfl, .int f, rfl, t, f, rfl, rfl, ?_⟩
      refine ⟨.bl c.2, rfl, c.2, rfl, ?_⟩
      refine ite2 (fun hc => ?_) (fun hc => ?_)
      · refine ⟨.int c.1, rfl, .int ((t : Int) - f), rfl, c.1, (t : Int) - f, rfl, rfl, .int n, rfl, c.1 + ((t : Int) - f), n, rfl, rfl, by omega, .bl c.2, rfl, c.2, rfl, by show 2 ≤ sizeLine; decide, fun p hp => ?_⟩
        have := fin ((t : Int) - f) rfl (by split <;> simp) p hp
        rw [if_pos hc] at this
        exact this
      · refine ⟨.int c.1, rfl, .int ((t : Int) - f), rfl, c.1, (t : Int) - f, rfl, rfl, .int n, rfl, c.1 - ((t : Int) - f), n, rfl, rfl, by omega, .bl c.2, rfl, c.2, rfl, by show 2 ≤ sizeLine; decide, fun p hp => ?_⟩
        have := fin ((t : Int) - f) rfl (by split <;> simp) p hp
        rw [if_neg hc] at this
        exact this
/-! ### how many are reached -/
theorem scReached : FnScope ["many", "third", "fifth", "step"] ["many", "third", "fifth"] (defScope sReached) := ⟨rfl, rfl, rfl, by decide +kernel, rfl, by decide +kernel, by decide +kernel⟩
def spReached : Sp := fun vs H Q _ => ∃ N T F : Nat, vs = [.int N, .int T, .int F] ∧ Sh N T F ∧ Q (.int ((2 * (N / Nat.gcd (Nat.gcd T F) N) : Nat) : Int)) H
theorem ok_reached {f g c : Addr} {fd gd cd : FuncData} {k : Nat} (F : Fun K "reached" "reached" sReached f fd) (G : FnOk P w K mg base CX0 k g gd ["many", "third", "fifth"] spShape) (kp : PySem.W.keepIn K (.ref g) = true) (b : Binds K gd ["many", "third", "fifth"] [])
    (gS : mg "need_shape" = some (.ref g)) (C : FnOk P w K mg base CX0 k c cd ["one", "other"] spCommon) (kpC : PySem.W.keepIn K (.ref c) = true) (bC : Binds K cd ["one", "other"] []) (gC : mg "common" = some (.ref c)) : FnOk P w K mg base CX0 (k + 1) f fd ["many", "third", "fifth"] spReached := by
  refine F.ok scReached (fun vs H Q E h => ?_) (fun cdv A outer s H vs Q E hr h => ?_)
  · obtain ⟨n, t, f, rfl, _⟩ := h
    rfl
  · obtain ⟨n, t, f, rfl, S, q⟩ := h
    refine ⟨_, pss_cons (ps_expr (pe_call G hr (by rfl) gS kp b .nil pass0 (pa_cons (pv 0) (pa_cons (pv 1) (pa_cons (pv 2) pa_nil)))))
      (pss_cons (ps_set (i := 3) scReached.nd rfl (.inl rfl) (pe_call C hr (by rfl) gC kpC bC .nil pass0 (pa_cons (pe_call C hr (by rfl) gC kpC bC .nil pass0 (pa_cons (pv 1) (pa_cons (pv 2) pa_nil))) (pa_cons (pv 0) pa_nil))))
      (pss_one (ps_ret (pe_op op_mul pe_int (pe_op op_fdivN (pv 0) (pv 3)))))), ?_⟩
    refine ⟨.int n, rfl, .int t, rfl, .int f, rfl, n, t, f, rfl, S, ?_⟩
    refine ⟨.int t, rfl, .int f, rfl, t, f, rfl, .int n, rfl, Nat.gcd t f, n, rfl, ?_⟩
    obtain ⟨g, hg⟩ : ∃ g, g = Nat.gcd (Nat.gcd t f) n := ⟨_, rfl⟩
    have h0 : 0 < g := by
      rw [hg]
      exact Nat.gcd_pos_of_pos_right _ (by have := S.n3; omega)
    have h1 : g ≤ n := by
      rw [hg]
      exact Nat.gcd_le_right _ (by have := S.n3; omega)
    rw [← hg] at q ⊢
    have := S.n60
    refine ⟨.int n, rfl, .int g, rfl, n, g, rfl, rfl, ⟨by omega, by rw [Int.natAbs_natCast]; omega⟩, 2, (n : Int).fdiv g, rfl, rfl, .inl ⟨by decide, by decide⟩, ?_⟩
    show Q (.int (2 * (n : Int).fdiv g)) H
    rw [Int.fdiv_eq_ediv_of_nonneg _ (by omega), ← Int.natCast_ediv, show (2 : Int) * ((n / g : Nat) : Int) = ((2 * (n / g) : Nat) : Int) by omega]
    exact q
end
end SM

/-! need_moves, walked, walk -/
namespace SM
open PySem PySem.Spec PyProof.Rows L2
theorem same_new {H : Hp} {p : Addr} {o : HO} (h : H p = none) : Same H (upd H p o) := fun b x e => by
  rw [upd_ne (ne_of_none e h)]
  exact e
theorem wordS_at {w : Wd} {i : Nat} {c : Nat} (h : (wordS w).cps[i]? = some c) : ∃ m, w[i]? = some m ∧ c = sgn m := by
  have h2 : (w.map sgn)[i]? = some c := by
    unfold wordS at h
    simpa using h
  rw [List.getElem?_map] at h2
  obtain ⟨m, h3, h4⟩ := Option.map_eq_some_iff.mp h2
  exact ⟨m, h3, h4.symm⟩
theorem wordS_size (w : Wd) : (wordS w).cps.size = w.length := by
  unfold wordS
  simp
theorem all_true (n : Nat) : (List.replicate n true).all id = true := by
  rw [List.all_eq_true]
  intro x hx
  rw [List.eq_of_mem_replicate hx]
  rfl
section
variable {P : Program} {w : World} {K : PySem.W.Frag} {mg : Str → Option Value} {base : Heap}
theorem scMoves : FnScope ["value", "sign"] ["value"] (defScope sMoves) := ⟨rfl, rfl, rfl, by decide +kernel, rfl, by decide +kernel, by decide +kernel⟩
def spMoves : Sp := fun vs H Q _ => ∃ v : Wd, vs = [.str (wordS v)] ∧ v.length ≤ 200 ∧ ∀ H', Same H H' → Q .non H'
theorem ok_moves {f : Addr} {fd : FuncData} {k : Nat} (F : Fun K "need_moves" "need_moves" sMoves f fd) (T : Tn mg) : FnOk P w K mg base CX0 (k + 1) f fd ["value"] spMoves := by
  refine F.ok scMoves (fun vs H Q E h => ?_) (fun cdv A outer s H vs Q E hr h => ?_)
  · obtain ⟨v, rfl, _⟩ := h
    rfl
  · obtain ⟨v, rfl, hl, q⟩ := h
    obtain ⟨u, hm⟩ := T.moves
    refine ⟨_, pss_one (ps_if (PW.pt (pw_or (pt_not (pt_val (pe_callB call_isi (by rfl) T.isi (by decide +kernel) (pa_cons (pv 0) (pa_cons (pe_bltn (v := .ty "str") (by rfl) T.str (by decide +kernel) rfl) pa_nil)))))
      (pw_or (pt_cmpR op_gt (pe_callB call_len_str (by rfl) T.len PySem.boot_len (pa_cons (pv 0) pa_nil)) (pe_glob (v := .int 200) (by rfl) hm ⟨u, rfl⟩) (nomark _))
      (pw_or1 (pt_not (pt_val (pe_callB (cr_all (by rfl)) (by rfl) T.all (by decide +kernel) (pa_cons
        (pe_lc (own := [("sign", 1)]) (g := gName 1) (tt := tYes) rfl scMoves.nd (pi_str (pv 0)) (blkOk_by (own := [("sign", 1)]) (N := ["value", "sign"]) (sc := defScope sMoves) (by decide +kernel))
          (fun _ _ _ _ _ => pg_name (i := 1) scMoves.nd rfl (Or.inl rfl)) (fun _ _ _ _ _ => pts_nil) (fun _ _ _ _ _ => pe_cmpR op_in_sign (pv 1) pe_str (by rfl))) pa_nil))))))) ) (pss_one ps_never) pss_nil), ?_⟩
    have hsz : (wordS v).length ≤ sizeLine := by
      rw [wordS_len]
      exact Nat.le_of_lt (small1000 (by omega))
    refine ⟨.str (wordS v), rfl, _, _, _, _, true, rfl, .ty _, .base (.str _), kit_ty (by decide +kernel), true, rfl, iteF ?_⟩
    refine ⟨.str (wordS v), rfl, wordS v, rfl, hsz, ((wordS v).length : Nat), 200, rfl, rfl, _, rfl, ?_⟩
    show if decide ((200 : Int) < ((wordS v).length : Nat)) = true then _ else _
    rw [decide_eq_false (by rw [wordS_len]; omega)]
    refine iteF ⟨.str (wordS v), rfl, wordS v, rfl, fun D hD => lc_it walk_str (fun i H' => H' D = some (.lst ((List.replicate i true).map V.bl)) ∧ Same H H') ⟨upd_same, same_new hD⟩ (fun _ _ _ _ => True.intro) ?_ ?_⟩
    · rintro i x H1 H2 hi ⟨e1, s1⟩ ⟨rfl, c, hc, rfl⟩
      obtain ⟨m, hm, rfl⟩ := wordS_at hc
      rw [wordS_size] at hi
      refine ⟨rfl, ?_⟩
      refine ⟨_, rfl, sgn m, "PLR", rfl, rfl, _, e1, ?_, ?_, ?_⟩
      · rw [List.length_map, List.length_replicate]
        exact small1000 (by omega)
      · have e : decide (sgn m ∈ (("PLR" : Str)).cps.toList) = true := by cases m <;> decide +kernel
        rw [e, upd_same, List.replicate_succ', List.map_append]
        rfl
      · intro b o e
        rw [upd_ne (ne_of_none e hD)]
        exact s1 b o e
    · rintro H1 ⟨e1, s1⟩
      refine ⟨D, List.replicate (wordS v).cps.size true, rfl, SqL.of e1, _, rfl, ?_⟩
      rw [all_true]
      exact iteF (q H1 s1)
theorem scWalked : FnScope ["many", "third", "fifth", "told", "moves", "move"] ["many", "third", "fifth", "told", "moves"] (defScope sWalked) := ⟨rfl, rfl, rfl, by decide +kernel, rfl, by decide +kernel, by decide +kernel⟩
def spWalked : Sp := fun vs H Q _ => ∃ (N T F : Nat) (a : Addr) (k : Tri) (v : Wd), vs = [.int N, .int T, .int F, .ref a, .str (wordS v)] ∧ 0 < N ∧ H a = some (.tup (triV k)) ∧
  ∀ H' p, Same H H' → H' p = some (.tup (triV (wlk N T F k v))) → Q (.ref p) H'
theorem ok_walked {f g : Addr} {fd gd : FuncData} {k : Nat} (F : Fun K "walked" "walked" sWalked f fd) (G : FnOk P w K mg base CX0 k g gd ["many", "third", "fifth", "told", "move"] spMove) (kp : PySem.W.keepIn K (.ref g) = true)
    (b : Binds K gd ["many", "third", "fifth", "told", "move"] []) (gM : mg "move_of" = some (.ref g)) : FnOk P w K mg base CX0 (k + 1) f fd ["many", "third", "fifth", "told", "moves"] spWalked := by
  refine F.ok scWalked (fun vs H Q E h => ?_) (fun cdv A outer s H vs Q E hr h => ?_)
  · obtain ⟨n, t, f, a, c, v, rfl, _⟩ := h
    rfl
  · obtain ⟨n, t, f, a, c, v, rfl, hn, ha, q⟩ := h
    refine ⟨_, pss_cons (ps_for PassesOwn.never rfl (pi_str (pv 4)) (pg_name (i := 5) scWalked.nd rfl (Or.inl rfl))
        (pss_one (ps_set (i := 3) scWalked.nd rfl (.inl rfl) (pe_call G hr (by rfl) gM kp b .nil pass0 (pa_cons (pv 0) (pa_cons (pv 1) (pa_cons (pv 2) (pa_cons (pv 3) (pa_cons (pv 5) pa_nil)))))))))
      (pss_one (ps_ret (pv 3))), ?_⟩
    refine ⟨.str (wordS v), rfl, wordS v, rfl, for_it walk_str (fun i σ H' => ∃ p y, σ = [some (.int n), some (.int t), some (.int f), some (.ref p), some (.str (wordS v)), y] ∧ Same H H' ∧ H' p = some (.tup (triV (wlk n t f c (v.take i)))))
      ⟨a, none, rfl, Same.refl _, ha⟩ (fun _ _ _ _ _ => True.intro) ?_ ?_⟩
    · rintro i x σ H1 H2 hi ⟨p, y, rfl, s1, e1⟩ ⟨rfl, ch, hc, rfl⟩
      obtain ⟨m, hm, rfl⟩ := wordS_at hc
      refine ⟨.int n, rfl, .int t, rfl, .int f, rfl, .ref p, rfl, .str (sgS m), rfl, n, t, f, p, _, m, rfl, hn, e1, fun p' hp' => ?_⟩
      refine ⟨p', some (.str (sgS m)), rfl, s1.trans (same_new hp'), ?_⟩
      rw [upd_same, List.take_add_one, hm]
      show _ = some (HO.tup (triV (wlk n t f c (v.take i ++ [m]))))
      rw [wlk_snoc]
    · rintro σ H1 ⟨p, y, rfl, s1, e1⟩
      rw [wordS_size, List.take_length] at e1
      exact ⟨.ref p, rfl, q H1 p s1 e1⟩
theorem scWalk : FnScope ["many", "third", "fifth", "told", "moves"] ["many", "third", "fifth", "told", "moves"] (defScope sWalk) := ⟨rfl, rfl, rfl, by decide +kernel, rfl, by decide +kernel, by decide +kernel⟩
def spWalk : Sp := fun vs H Q _ => ∃ (N T F : Nat) (a : Addr) (k : Tri) (v : Wd), vs = [.int N, .int T, .int F, .ref a, .str (wordS v)] ∧ Sh N T F ∧ H a = some (.tup (triV k)) ∧ (0 ≤ k.1 ∧ k.1 < N) ∧ v.length ≤ 200 ∧
  ∀ H' p, Same H H' → H' p = some (.tup (triV (wlk N T F k v))) → Q (.ref p) H'
theorem ok_walk {f g1 g2 g3 g4 : Addr} {fd d1 d2 d3 d4 : FuncData} {k : Nat} (F : Fun K "walk" "walk" sWalk f fd)
    (G1 : FnOk P w K mg base CX0 k g1 d1 ["many", "third", "fifth"] spShape) (k1 : PySem.W.keepIn K (.ref g1) = true) (b1 : Binds K d1 ["many", "third", "fifth"] []) (m1 : mg "need_shape" = some (.ref g1))
    (G2 : FnOk P w K mg base CX0 k g2 d2 ["many", "value"] spTriad) (k2 : PySem.W.keepIn K (.ref g2) = true) (b2 : Binds K d2 ["many", "value"] []) (m2 : mg "need_triad" = some (.ref g2))
    (G3 : FnOk P w K mg base CX0 k g3 d3 ["value"] spMoves) (k3 : PySem.W.keepIn K (.ref g3) = true) (b3 : Binds K d3 ["value"] []) (m3 : mg "need_moves" = some (.ref g3))
    (G4 : FnOk P w K mg base CX0 k g4 d4 ["many", "third", "fifth", "told", "moves"] spWalked) (k4 : PySem.W.keepIn K (.ref g4) = true) (b4 : Binds K d4 ["many", "third", "fifth", "told", "moves"] []) (m4 : mg "walked" = some (.ref g4)) :
    FnOk P w K mg base CX0 (k + 1) f fd ["many", "third", "fifth", "told", "moves"] spWalk := by
  refine F.ok scWalk (fun vs H Q E h => ?_) (fun cdv A outer s H vs Q E hr h => ?_)
  · obtain ⟨n, t, f, a, c, v, rfl, _⟩ := h
    rfl
  · obtain ⟨n, t, f, a, c, v, rfl, S, ha, hc, hl, q⟩ := h
    refine ⟨_, pss_cons (ps_expr (pe_call G1 hr (by rfl) m1 k1 b1 .nil pass0 (pa_cons (pv 0) (pa_cons (pv 1) (pa_cons (pv 2) pa_nil)))))
      (pss_cons (ps_expr (pe_call G2 hr (by rfl) m2 k2 b2 .nil pass0 (pa_cons (pv 0) (pa_cons (pv 3) pa_nil))))
      (pss_cons (ps_expr (pe_call G3 hr (by rfl) m3 k3 b3 .nil pass0 (pa_cons (pv 4) pa_nil)))
      (pss_one (ps_ret (pe_call G4 hr (by rfl) m4 k4 b4 .nil pass0 (pa_cons (pv 0) (pa_cons (pv 1) (pa_cons (pv 2) (pa_cons (pv 3) (pa_cons (pv 4) pa_nil)))))))))), ?_⟩
    refine ⟨.int n, rfl, .int t, rfl, .int f, rfl, n, t, f, rfl, S, ?_⟩
    refine ⟨.int n, rfl, .ref a, rfl, n, a, c, rfl, ha, hc, ?_⟩
    refine ⟨.str (wordS v), rfl, v, rfl, hl, fun H1 s1 => ?_⟩
    refine ⟨.int n, rfl, .int t, rfl, .int f, rfl, .ref a, rfl, .str (wordS v), rfl, n, t, f, a, c, v, rfl, by have := S.n3; omega, s1 _ _ ha, fun H2 p s2 e => ?_⟩
    exact q H2 p (s1.trans s2) e
end
end SM

/-! the search's loops: the heap beside the mathematics -/
namespace SM
open PySem PySem.Spec PyProof.Rows L2
/-! ### data -/
def triD (k : Tri) : PyData := .tuple [.int k.1, .bool k.2]
theorem dp_tri {K : PySem.W.Frag} {H : Hp} {a : Addr} {k : Tri} (h : H a = some (.tup (triV k))) : Dp K H (.ref a) (triD k) := .tup (SqT.of h) (.cons (.int _) (.cons (.bl _) .nil))
theorem eqv_tri (a b : Tri) : PyData.eqv (triD a) (triD b) = decide (a = b) := by
  unfold triD
  simp only [PyData.eqv, PyData.eqvAll, Bool.and_true]
  by_cases h : a = b
  · subst h; simp
  · rw [decide_eq_false h]
    obtain ⟨r, u⟩ := a
    obtain ⟨s, v⟩ := b
    dsimp only
    by_cases e : r = s
    · have : u ≠ v := fun z => h (by rw [e, z])
      rw [beq_false_of_ne this, Bool.and_false]
    · rw [beq_false_of_ne e, Bool.false_and]
theorem shaped_tri (a : Tri) : SeqAt.shaped (triD a) = true := by
  unfold SeqAt.shaped triD
  simp [PyData.canLay0, PyData.canLayAll0, PyData.depth, PyData.depthAll]
theorem shaped_tris (ks : List Tri) : SeqAt.shaped (.list (ks.map triD)) = true := by
  have h1 : ∀ ks : List Tri, PyData.canLayAll0 (ks.map triD) = true := fun ks => by
    induction ks with
    | nil => simp [PyData.canLayAll0]
    | cons k ks ih =>
      rw [List.map_cons]
      simp [PyData.canLayAll0, ih, triD, PyData.canLay0]
  have h2 : ∀ ks : List Tri, PyData.depthAll (ks.map triD) ≤ 1 := fun ks => by
    induction ks with
    | nil => simp [PyData.depthAll]
    | cons k ks ih =>
      rw [List.map_cons]
      simp only [PyData.depthAll]
      have : PyData.depth (triD k) = 1 := by simp [triD, PyData.depth, PyData.depthAll]
      omega
  have := h2 ks
  refine Bool.and_eq_true_iff.mpr ⟨?_, decide_eq_true ?_⟩
  · simp only [PyData.canLay0]
    exact h1 ks
  · simp only [PyData.depth]
    omega
theorem shaped_nil : SeqAt.shaped (.list []) = true := shaped_tris []
theorem eqv_nil (ks : List Tri) : (!PyData.eqv (.list (ks.map triD)) (.list [])) = decide (ks ≠ []) := by
  cases ks with
  | nil => simp [PyData.eqv, PyData.eqvAll]
  | cons k ks => simp [PyData.eqv, PyData.eqvAll]
/-! ### what stands in the heap -/
abbrev Rm (H : Hp) : List Addr → List Tri → Prop := Paired fun a k => H a = some (.tup (triV k))
theorem Rm.keep {H H' : Hp} {as : List Addr} {ks : List Tri} (r : Rm H as ks) (h : ∀ a k, H a = some (.tup (triV k)) → H' a = some (.tup (triV k))) : Rm H' as ks := Paired.mapP r fun a k => h a k
theorem dp_tris {K : PySem.W.Frag} {H : Hp} {as : List Addr} {ks : List Tri} (r : Rm H as ks) : DpAll K H (as.map V.ref) (ks.map triD) := by
  induction r with
  | nil => exact .nil
  | cons h t ih => exact .cons (dp_tri h) ih
def Ent (kn : Kn) (ys : List En) : Prop := Paired (fun e (y : En) => y.1 = e.1 ∧ y.2.2 = V.str (wordS e.2)) kn ys
theorem Ent.len {kn : Kn} {ys : List En} (r : Ent kn ys) : kn.length = ys.length := Paired.length r
theorem Ent.val {kn : Kn} {ys : List En} (r : Ent kn ys) (k : Tri) : valB ys k = (look kn k).map fun v => V.str (wordS v) := by
  unfold Ent at r
  induction r with
  | nil => rfl
  | @cons e y es ys h t ih =>
    by_cases q : e.1 = k
    · have q' : y.1 = k := h.1.trans q
      have a : valB (y :: ys) k = some y.2.2 := by simp [valB, List.find?_cons, q']
      have b : look (e :: es) k = some e.2 := by simp [look, List.find?_cons, q]
      rw [a, b, h.2]
      rfl
    · have q' : ¬ y.1 = k := fun z => q (h.1.symm.trans z)
      have a : valB (y :: ys) k = valB ys k := by simp [valB, List.find?_cons, q']
      have b : look (e :: es) k = look es k := by simp [look, List.find?_cons, q]
      rw [a, b, ih]
theorem Ent.isSome {kn : Kn} {ys : List En} (r : Ent kn ys) (k : Tri) : (valB ys k).isSome = (look kn k).isSome := by rw [r.val k, Option.isSome_map]
/-- a layer's turn: the dict at d, the rim's list at r, the new list at l -/
structure LS (P : Program) (w : World) (H0 : Hp) (d r l : Addr) (ras : List Addr) (rim : List Tri) (s : Sx) (H : Hp) : Prop where
  same : Same H0 H
  nd : H0 d = none
  nl : H0 l = none
  rl : r ≠ l
  hr : H r = some (.lst (ras.map V.ref))
  rm : Rm H ras rim
  ex : ∃ ys las, H d = some (oB P w d ys) ∧ KeysB H ys ∧ Ent s.1 ys ∧ H l = some (.lst (las.map V.ref)) ∧ Rm H las s.2
section
variable {P : Program} {w : World} {H0 H : Hp} {d r l : Addr} {ras : List Addr} {rim : List Tri} {s : Sx}
theorem LS.new {p : Addr} {o : HO} (L : LS P w H0 d r l ras rim s H) (hp : H p = none) : LS P w H0 d r l ras rim s (upd H p o) := by
  have k := same_new (o := o) hp
  obtain ⟨ys, las, e1, e2, e3, e4, e5⟩ := L.ex
  exact ⟨L.same.trans k, L.nd, L.nl, L.rl, k _ _ L.hr, L.rm.keep fun a c => k a _, ys, las, k _ _ e1, e2.keeps fun a xs => k a _, e3, k _ _ e4, e5.keep fun a c => k a _⟩
/-- a new entry and a new item -/
theorem LS.put {n t f : Int} {p : Addr} {a : Tri} {m : Mv} {v : Wd} {ys : List En} {las : List Addr} (L : LS P w H0 d r l ras rim s H) (e1 : H d = some (oB P w d ys)) (e2 : KeysB H ys) (e3 : Ent s.1 ys) (e4 : H l = some (.lst (las.map V.ref))) (e5 : Rm H las s.2)
    (hp : H p = some (.tup (triV (mv n t f a m)))) (hn : look s.1 (mv n t f a m) = none) (hv : look s.1 a = some v) :
    LS P w H0 d r l ras rim (stp n t f a s m) (upd (upd H d (oB P w d (putB ys (mv n t f a m) p (.str (wordS (v ++ [m])))))) l (.lst (las.map V.ref ++ [.ref p]))) := by
  have hdl : d ≠ l := ne_of e1 e4 (by intro z; exact nomatch z)
  have hrd : r ≠ d := ne_of L.hr e1 (by intro z; exact nomatch z)
  have tup : ∀ b xs, H b = some (.tup xs) → (upd (upd H d (oB P w d (putB ys (mv n t f a m) p (.str (wordS (v ++ [m])))))) l (.lst (las.map V.ref ++ [.ref p]))) b = some (.tup xs) := fun b xs e => by
    rw [upd_ne (ne_of e e4 (by intro z; exact nomatch z)), upd_ne (ne_of e e1 (by intro z; exact nomatch z))]
    exact e
  have es : stp n t f a s m = (s.1 ++ [(mv n t f a m, v ++ [m])], s.2 ++ [mv n t f a m]) := by
    unfold stp
    rw [hn, if_neg (by decide), hv]
    rfl
  have ep : putB ys (mv n t f a m) p (.str (wordS (v ++ [m]))) = ys ++ [(mv n t f a m, p, .str (wordS (v ++ [m])))] := by
    unfold putB
    rw [e3.isSome, hn, if_neg (by decide)]
  refine ⟨fun b o e => ?_, L.nd, L.nl, L.rl, ?_, L.rm.keep fun b c => tup b _, putB ys (mv n t f a m) p (.str (wordS (v ++ [m]))), las ++ [p], ?_, (e2.put hp).keeps tup, ?_, ?_, ?_⟩
  · rw [upd_ne (ne_of_none e L.nl), upd_ne (ne_of_none e L.nd)]
    exact L.same b o e
  · rw [upd_ne L.rl, upd_ne hrd]
    exact L.hr
  · rw [upd_ne hdl, upd_same]
  · rw [es, ep]
    exact Paired.snoc e3 ⟨rfl, rfl⟩
  · rw [upd_same, List.map_append]
    rfl
  · rw [es]
    exact Paired.snoc (e5.keep fun b c => tup b _) (tup _ _ hp)
theorem LS.skip {n t f : Int} {a : Tri} {m : Mv} (L : LS P w H0 d r l ras rim s H) (hn : (look s.1 (mv n t f a m)).isSome = true) : LS P w H0 d r l ras rim (stp n t f a s m) H := by
  have es : stp n t f a s m = s := by
    unfold stp
    rw [if_pos hn]
  rw [es]
  exact L
end
/-- between two layers -/
structure WS (P : Program) (w : World) (H0 : Hp) (d r : Addr) (ras : List Addr) (s : Sx) (H : Hp) : Prop where
  same : Same H0 H
  nd : H0 d = none
  hr : H r = some (.lst (ras.map V.ref))
  rm : Rm H ras s.2
  ex : ∃ ys, H d = some (oB P w d ys) ∧ KeysB H ys ∧ Ent s.1 ys
section
variable {P : Program} {w : World} {H0 H : Hp} {d r l : Addr} {ras : List Addr} {s : Sx}
theorem WS.new {p : Addr} {o : HO} (L : WS P w H0 d r ras s H) (hp : H p = none) : WS P w H0 d r ras s (upd H p o) := by
  have k := same_new (o := o) hp
  obtain ⟨ys, e1, e2, e3⟩ := L.ex
  exact ⟨L.same.trans k, L.nd, k _ _ L.hr, L.rm.keep fun a c => k a _, ys, k _ _ e1, e2.keeps fun a xs => k a _, e3⟩
theorem WS.begin (L : WS P w H0 d r ras s H) (hl : H l = none) : LS P w H0 d r l ras s.2 (s.1, []) (upd H l (.lst [])) := by
  have k := same_new (o := .lst []) hl
  obtain ⟨ys, e1, e2, e3⟩ := L.ex
  exact ⟨L.same.trans k, L.nd, L.same.free hl, ne_of_none L.hr hl, k _ _ L.hr, L.rm.keep fun a c => k a _, ys, [], k _ _ e1, e2.keeps fun a xs => k a _, e3, upd_same, .nil⟩
theorem LS.done {rim : List Tri} (L : LS P w H0 d r l ras rim s H) : ∃ las, WS P w H0 d l las s H := by
  obtain ⟨ys, las, e1, e2, e3, e4, e5⟩ := L.ex
  exact ⟨las, L.same, L.nd, e4, e5, ys, e1, e2, e3⟩
end
end SM

/-! least_moves -/
namespace SM
open PySem PySem.Spec PyProof.Rows L2
theorem mid_facts {N : Nat} {t f : Int} {r0 : Tri} (hn : 0 < (N : Int)) (h : 0 ≤ r0.1 ∧ r0.1 < (N : Int)) (i : Nat) {j c : Nat} {a : Tri} (hj : (runs N t f r0 i).2[j]? = some a) (hc : c ≤ 3) :
    (part N t f a (parts N t f (runs N t f r0 i).1 (runs N t f r0 i).2 j) c).1.length ≤ 2 * N ∧ (part N t f a (parts N t f (runs N t f r0 i).1 (runs N t f r0 i).2 j) c).2.length ≤ 2 * N ∧
    ∃ v, look (part N t f a (parts N t f (runs N t f r0 i).1 (runs N t f r0 i).2 j) c).1 a = some v ∧ v.length < 2 * N := by
  obtain ⟨done, J⟩ := runs_jv (t := t) (f := f) hn h i
  obtain ⟨hj2, e⟩ := List.getElem?_eq_some_iff.mp hj
  have J2 := J.parts hn j (Nat.le_of_lt hj2)
  rw [List.drop_eq_getElem_cons hj2, e] at J2
  obtain ⟨v, M⟩ := J2.md
  have M2 : Md N t f r0 _ a _ (part N t f a (parts N t f (runs N t f r0 i).1 (runs N t f r0 i).2 j) c).1 (part N t f a (parts N t f (runs N t f r0 i).1 (runs N t f r0 i).2 j) c).2 v c := M.part hn c hc
  have b1 := few M2.nd M2.rg
  have b2 := congrArg List.length M2.ks
  unfold keys at b2
  rw [List.length_map, List.length_append] at b2
  refine ⟨b1, by omega, v, look_of_mem M2.nd M2.wa, Nat.lt_of_lt_of_le (M2.ln _ M2.wa) b1⟩
def oW : Option Wd → V
  | none => .non
  | some v => .str (wordS v)
section
variable {P : Program} {w : World} {K : PySem.W.Frag} {mg : Str → Option Value} {base : Heap}
theorem scLeast : FnScope ["many", "third", "fifth", "one", "other", "known", "rim", "later", "told", "move", "more"] ["many", "third", "fifth", "one", "other"] (defScope sLeast) := ⟨rfl, rfl, rfl, by decide +kernel, rfl, by decide +kernel, by decide +kernel⟩
def spLeast : Sp := fun vs H Q _ => ∃ (N T F : Nat) (a b : Addr) (k k1 : Tri), vs = [.int N, .int T, .int F, .ref a, .ref b] ∧ Sh N T F ∧ H a = some (.tup (triV k)) ∧ H b = some (.tup (triV k1)) ∧ (0 ≤ k.1 ∧ k.1 < N) ∧ (0 ≤ k1.1 ∧ k1.1 < N) ∧
  ∀ H' j, Same H H' → ((look (runs N T F k j).1 k1).isSome = true ∨ (runs N T F k j).2 = []) → Q (oW (look (runs N T F k j).1 k1)) H'
theorem ok_least {f g1 g2 g3 : Addr} {fd d1 d2 d3 : FuncData} {k : Nat} (F : Fun K "least_moves" "least_moves" sLeast f fd)
    (G1 : FnOk P w K mg base CX0 k g1 d1 ["many", "third", "fifth"] spShape) (k1 : PySem.W.keepIn K (.ref g1) = true) (b1 : Binds K d1 ["many", "third", "fifth"] []) (m1 : mg "need_shape" = some (.ref g1))
    (G2 : FnOk P w K mg base CX0 k g2 d2 ["many", "value"] spTriad) (k2 : PySem.W.keepIn K (.ref g2) = true) (b2 : Binds K d2 ["many", "value"] []) (m2 : mg "need_triad" = some (.ref g2))
    (G3 : FnOk P w K mg base CX0 k g3 d3 ["many", "third", "fifth", "told", "move"] spMove) (k3 : PySem.W.keepIn K (.ref g3) = true) (b3 : Binds K d3 ["many", "third", "fifth", "told", "move"] []) (m3 : mg "move_of" = some (.ref g3)) :
    FnOk P w K mg base CX0 (k + 1) f fd ["many", "third", "fifth", "one", "other"] spLeast := by
  refine F.ok scLeast (fun vs H Q E h => ?_) (fun cdv A outer s H vs Q E hr h => ?_)
  · obtain ⟨n, t, f, a, b, c, c1, rfl, _⟩ := h
    rfl
  · obtain ⟨n, t, f, a, b, c, c1, rfl, S, ha, hb, hc, hc1, q⟩ := h
    have hu := hu_of hr
    have n3 := S.n3
    have n60 := S.n60
    have hn : 0 < (n : Int) := by omega
    refine ⟨_, pss_cons (ps_expr (pe_call G1 hr (by rfl) m1 k1 b1 .nil pass0 (pa_cons (pv 0) (pa_cons (pv 1) (pa_cons (pv 2) pa_nil)))))
      (pss_cons (ps_expr (pe_call G2 hr (by rfl) m2 k2 b2 .nil pass0 (pa_cons (pv 0) (pa_cons (pv 3) pa_nil))))
      (pss_cons (ps_expr (pe_call G2 hr (by rfl) m2 k2 b2 .nil pass0 (pa_cons (pv 0) (pa_cons (pv 4) pa_nil))))
      (pss_cons (ps_par (i := 5) (j := 6) (by rfl) scLeast.nd rfl rfl (by decide) rfl rfl (pa_cons (pe_Bdisp1 hr.units0 (pv 3) pe_str) (pa_cons (pe_lst (pa_cons (pv 3) pa_nil)) pa_nil)) (by rfl))
      (pss_cons (ps_while PassesOwn.never (PW.pt (pw_and (pt_cmp (pc_Bnotin hu (pv 4) (pv 5))) (pw_and1 (pt_cmpR (op_neD hr.units) (pv 6) (pe_lst pa_nil) (nomark _)))))
        (pss_cons (ps_set (i := 7) scLeast.nd rfl (.inl rfl) (pe_lst pa_nil))
        (pss_cons (ps_for PassesOwn.never rfl (pi_list (pv 6)) (pg_name (i := 8) scLeast.nd rfl (Or.inl rfl))
          (pss_one (ps_for PassesOwn.never rfl (pi_str pe_str) (pg_name (i := 9) scLeast.nd rfl (Or.inl rfl))
            (pss_cons (ps_set (i := 10) scLeast.nd rfl (.inl rfl) (pe_call G3 hr (by rfl) m3 k3 b3 .nil pass0 (pa_cons (pv 0) (pa_cons (pv 1) (pa_cons (pv 2) (pa_cons (pv 8) (pa_cons (pv 9) pa_nil)))))))
            (pss_one (ps_if (pt_cmp (pc_Bnotin hu (pv 10) (pv 5)))
              (pss_cons (ps_Bput hu (pv 5) (pv 10) (pe_op op_add_str (pe_Bget hu (pv 5) (pv 8) (fun _ _ => rfl)) (pv 9)) rfl)
              (pss_one (ps_expr (pe_bm PySem.F.plainAttrs_list PySem.F.slot_list_append PySem.F.type_list_append mt_append (pv 7) (pa_cons (pv 10) pa_nil))))) pss_nil))))))
        (pss_one (ps_set (i := 6) scLeast.nd rfl (.inl rfl) (pv 7))))))
      (pss_one (ps_ret (pe_Bget1 hu (pv 5) (pv 4) ⟨rfl, rfl, rfl, rfl⟩))))))), ?_⟩
    refine ⟨.int n, rfl, .int t, rfl, .int f, rfl, n, t, f, rfl, S, ?_⟩
    refine ⟨.int n, rfl, .ref a, rfl, n, a, c, rfl, ha, hc, ?_⟩
    refine ⟨.int n, rfl, .ref b, rfl, n, b, c1, rfl, hb, hc1, ?_⟩
    -- known, rim = {one: ""}, [one]
    intro d hd
    refine ⟨.ref a, rfl, a, c, rfl, same_new hd _ _ ha, upd_same, ?_⟩
    refine ⟨.ref a, rfl, by show 1 ≤ sizeLine; decide, fun r hr0 => ⟨_, _, rfl, ?_⟩⟩
    rw [upd_upd] at hr0 ⊢
    have had : a ≠ d := ne_of_none ha hd
    have hbd : b ≠ d := ne_of_none hb hd
    have hrd : r ≠ d := fun z => by rw [z, upd_same] at hr0; exact nomatch hr0
    -- the loop
    refine ⟨fun m σ H' => ∃ i r ras y7 y8 y9 y10, σ = [some (.int n), some (.int t), some (.int f), some (.ref a), some (.ref b), some (.ref d), some (.ref r), y7, y8, y9, y10] ∧
      m = size n (runs n t f c i) ∧ WS P w H d r ras (runs n t f c i) H', ⟨_, 0, r, [a], none, none, none, none, rfl, rfl, ?_⟩, ?_⟩
    · have k1 := same_new (o := oB P w d [(c, a, .str "")]) hd
      have k2 := same_new (o := .lst [.ref a]) hr0
      refine ⟨k1.trans k2, hd, upd_same, .cons (k2 _ _ (k1 _ _ ha)) .nil, [(c, a, .str "")], k2 _ _ upd_same, fun y hy => ?_, .cons ⟨rfl, by rw [wNil]⟩ .nil⟩
      cases List.mem_singleton.mp hy
      exact k2 _ _ (k1 _ _ ha)
    · rintro m σ H1 ⟨i, r, ras, y7, y8, y9, y10, rfl, rfl, L⟩
      obtain ⟨ys, e1, e2, e3⟩ := L.ex
      have hb1 := L.same _ _ hb
      refine ⟨.ref b, rfl, .ref d, rfl, d, b, ys, c1, rfl, rfl, ⟨.inl e1, e2⟩, hb1, _, rfl, ?_⟩
      rw [e3.isSome]
      by_cases hin : (look (runs n t f c i).1 c1).isSome = true
      · -- found
        rw [hin]
        show ∃ v, _
        refine ⟨.ref d, rfl, d, ys, rfl, ⟨.inl e1, e2⟩, .ref b, rfl, b, c1, rfl, ⟨.inl e1, e2⟩, hb1, ?_⟩
        have e : (valB ys c1).getD .non = oW (look (runs n t f c i).1 c1) := by
          rw [e3.val]
          cases look (runs n t f c i).1 c1 <;> rfl
        rw [e]
        exact q H1 i L.same (.inl hin)
      · rw [Bool.eq_false_iff.mpr hin]
        show ∃ v, _
        refine ⟨.ref r, rfl, Nat.zero_le _, fun x hx => ?_⟩
        have Z1 := L.new (o := .lst []) hx
        refine ⟨_, _, .lst (SqL.of Z1.hr) (dp_tris Z1.rm), .lst (SqL.of upd_same) .nil, shaped_tris _, shaped_nil, _, rfl, ?_⟩
        rw [eqv_nil]
        by_cases hne : (runs n t f c i).2 ≠ []
        · rw [decide_eq_true hne]
          -- one layer
          refine ⟨fun σ' H' => ∃ r ras y8 y9 y10, σ' = [some (.int n), some (.int t), some (.int f), some (.ref a), some (.ref b), some (.ref d), some (.ref r), some (.ref r), y8, y9, y10] ∧
            WS P w H d r ras (runs n t f c (i + 1)) H', ?_, ?_⟩
          · rintro σ' H' ⟨r, ras, y8, y9, y10, rfl, L'⟩
            exact ⟨_, size_lay hn hc i hne, i + 1, r, ras, _, _, _, _, rfl, rfl, L'⟩
          refine ⟨Nat.zero_le _, fun l hl => ?_⟩
          have Z2 := Z1.begin hl
          -- for told in rim
          refine ⟨.ref r, rfl, r, rfl, ⟨_, SqL.of Z2.hr⟩, for_list (K := K) (a := r) (xs := ras.map V.ref) (fun j σ H' => ∃ y8 y9 y10, σ = [some (.int n), some (.int t), some (.int f), some (.ref a), some (.ref b), some (.ref d), some (.ref r), some (.ref l), y8, y9, y10] ∧
            LS P w H d r l ras (runs n t f c i).2 (parts n t f (runs n t f c i).1 (runs n t f c i).2 j) H') ⟨_, _, _, rfl, Z2⟩ (fun j σ H' _ ⟨_, _, _, _, Z3⟩ => SqL.of Z3.hr) ?_ ?_⟩
          · rintro j x σ H3 hj ⟨y8, y9, y10, rfl, Z3⟩
            obtain ⟨ta, hta, rfl⟩ : ∃ ta, ras[j]? = some ta ∧ x = .ref ta := by
              rw [List.getElem?_map] at hj
              obtain ⟨ta, h1, h2⟩ := Option.map_eq_some_iff.mp hj
              exact ⟨ta, h1, h2.symm⟩
            obtain ⟨tk, htk, _⟩ := paired_get Z3.rm hta
            -- for move in "LPR"
            refine ⟨"LPR", rfl, for_it walk_str (fun v σ H' => ∃ y9 y10, σ = [some (.int n), some (.int t), some (.int f), some (.ref a), some (.ref b), some (.ref d), some (.ref r), some (.ref l), some (.ref ta), y9, y10] ∧
              LS P w H d r l ras (runs n t f c i).2 (part n t f tk (parts n t f (runs n t f c i).1 (runs n t f c i).2 j) v) H') ⟨_, _, rfl, Z3⟩ (fun _ _ _ _ _ => True.intro) ?_ ?_⟩
            · rintro v x σ H4 H5 hv ⟨y9, y10, rfl, Z4⟩ ⟨rfl, ch, hch, rfl⟩
              obtain ⟨mm, hm, hg⟩ : ∃ mm, mvs[v]? = some mm ∧ ch = sgn mm := by
                have e : (("LPR" : Str)).cps = (wordS mvs).cps := by decide +kernel
                rw [e] at hch
                exact wordS_at hch
              subst hg
              have hv3 : v < 3 := (List.getElem?_eq_some_iff.mp hm).1
              obtain ⟨f1, f2, u, f3, f4⟩ := mid_facts (t := (t : Int)) (f := (f : Int)) hn hc i htk (Nat.le_of_lt hv3)
              obtain ⟨tk2, htk2, etk⟩ := paired_get Z4.rm hta
              rw [htk] at htk2
              cases htk2
              -- more = move_of(..)
              refine ⟨.int n, rfl, .int t, rfl, .int f, rfl, .ref ta, rfl, .str (sgS mm), rfl, n, t, f, ta, tk, mm, rfl, by omega, etk, fun p hp => ?_⟩
              have Z5 := Z4.new (o := .tup (triV (mv n t f tk mm))) hp
              have etk5 := same_new (o := .tup (triV (mv n t f tk mm))) hp _ _ etk
              obtain ⟨zs, las, g1, g2, g3, g4, g5⟩ := Z5.ex
              refine ⟨.ref p, rfl, .ref d, rfl, d, p, zs, mv n t f tk mm, rfl, rfl, ⟨.inl g1, g2⟩, upd_same, _, rfl, ?_⟩
              rw [g3.isSome]
              have next : ∀ y9 y10 H', LS P w H d r l ras (runs n t f c i).2 (stp n t f tk (part n t f tk (parts n t f (runs n t f c i).1 (runs n t f c i).2 j) v) mm) H' →
                  ∃ y9' y10', ([some (.int n), some (.int t), some (.int f), some (.ref a), some (.ref b), some (.ref d), some (.ref r), some (.ref l), some (.ref ta), y9, y10] : L2.St) = [some (.int n), some (.int t), some (.int f), some (.ref a), some (.ref b), some (.ref d), some (.ref r), some (.ref l), some (.ref ta), y9', y10'] ∧
                    LS P w H d r l ras (runs n t f c i).2 (part n t f tk (parts n t f (runs n t f c i).1 (runs n t f c i).2 j) (v + 1)) H' := fun y9 y10 H' L' => ⟨y9, y10, rfl, by rw [part_succ _ _ hm]; exact L'⟩
              by_cases hs : (look (part n t f tk (parts n t f (runs n t f c i).1 (runs n t f c i).2 j) v).1 (mv n t f tk mm)).isSome = true
              · rw [hs]
                exact next _ _ _ (Z5.skip hs)
              · rw [Bool.eq_false_iff.mpr hs]
                have hs' : look (part n t f tk (parts n t f (runs n t f c i).1 (runs n t f c i).2 j) v).1 (mv n t f tk mm) = none := by
                  cases z : look (part n t f tk (parts n t f (runs n t f c i).1 (runs n t f c i).2 j) v).1 (mv n t f tk mm) with
                  | none => rfl
                  | some _ => rw [z] at hs; exact absurd rfl hs
                have hv5 : valB zs tk = some (.str (wordS u)) := by
                  rw [g3.val, f3]
                  rfl
                have hwl : (wordS u).length + (sgS mm).length ≤ sizeLine := by
                  rw [wordS_len]
                  show u.length + 1 ≤ sizeLine
                  exact Nat.le_of_lt (small1000 (by omega))
                have hzl : zs.length < sizeLine := by
                  rw [← g3.len]
                  exact small1000 (by omega)
                have hll : (las.map V.ref).length < sizeLine := by
                  rw [List.length_map, Paired.length g5]
                  exact small1000 (by omega)
                refine ⟨.ref d, rfl, .ref ta, rfl, d, ta, zs, tk, _, rfl, rfl, ⟨.inl g1, g2⟩, etk5, hv5, .str (sgS mm), rfl, wordS u, sgS mm, rfl, rfl, hwl, .ref d, rfl, .ref p, rfl, d, p, zs, mv n t f tk mm, rfl, rfl, g1, g2, upd_same, hzl, ?_⟩
                have hld : l ≠ d := ne_of g4 g1 (by intro z; exact nomatch z)
                rw [wordS_snoc]
                refine ⟨.ref l, rfl, .inl ⟨rfl, _, SqL.of (Eq.trans (upd_ne hld) g4)⟩, .ref p, rfl, l, _, _, rfl, rfl, Eq.trans (upd_ne hld) g4, hll, ?_⟩
                exact next _ _ _ (Z5.put g1 g2 g3 g4 g5 upd_same hs' f3)
            · rintro σ H4 ⟨y9, y10, rfl, Z4⟩
              refine ⟨_, _, _, rfl, ?_⟩
              rw [parts_succ _ _ htk]
              exact Z4
          · -- rim = later
            rintro σ H3 ⟨y8, y9, y10, rfl, Z3⟩
            have hl2 : (runs n t f c i).2.length = ras.length := (Paired.length Z3.rm).symm
            rw [List.length_map, parts_all _ _ (Nat.le_of_eq hl2)] at Z3
            obtain ⟨las, Z4⟩ := Z3.done
            exact ⟨.ref l, rfl, l, las, _, _, _, rfl, Z4⟩
        · rw [decide_eq_false hne]
          show ∃ v, _
          obtain ⟨zs, g1, g2, g3⟩ := Z1.ex
          refine ⟨.ref d, rfl, d, zs, rfl, ⟨.inl g1, g2⟩, .ref b, rfl, b, c1, rfl, ⟨.inl g1, g2⟩, Z1.same _ _ hb, ?_⟩
          have e : (valB zs c1).getD .non = oW (look (runs n t f c i).1 c1) := by
            rw [g3.val]
            cases look (runs n t f c i).1 c1 <;> rfl
          rw [e]
          exact q _ i Z1.same (.inr (Classical.not_not.mp hne))
end
end SM

/-! what the search has found at its end -/
namespace SM
open PySem PySem.Spec PyProof.Rows L2
theorem fold_lt : ∀ (w v : Wd) (a : Nat), w.length = v.length → w.map sgn < v.map sgn → w.foldl (fun a m => 3 * a + 1 + dig m) a < v.foldl (fun a m => 3 * a + 1 + dig m) a
  | [], [], a, _, h => absurd h (by simp)
  | m :: w, m' :: v, a, hl, h => by
    simp only [List.map_cons] at h
    simp only [List.foldl_cons]
    rcases List.cons_lt_cons_iff.mp h with h | ⟨h1, h2⟩
    · exact code_lt w v _ _ (Nat.succ.inj hl) (by have := sgn_lt h; omega)
    · rw [sgn_inj h1]
      exact fold_lt w v _ (Nat.succ.inj hl) h2
  | [], _ :: _, _, hl, _ => by simp at hl
  | _ :: _, [], _, hl, _ => by simp at hl
theorem wordS_list (w : Wd) : (wordS w).cps.toList = w.map sgn := by
  unfold wordS
  simp
theorem word_lt {w v : Wd} (hl : w.length = v.length) (h : (wordS w).cps.toList < (wordS v).cps.toList) : code w < code v := by
  rw [wordS_list, wordS_list] at h
  exact fold_lt w v 0 hl h
structure Fnd (N T F : Nat) (k0 : Tri) (kn : Kn) : Prop where
  nd : (keys kn).Nodup
  wk : ∀ e ∈ kn, wlk N T F k0 e.2 = e.1
  cl : ∀ e ∈ kn, ∀ m, ∃ e' ∈ kn, e'.1 = mv N T F e.1 m ∧ code e'.2 ≤ code (e.2 ++ [m])
  ln : ∀ e ∈ kn, e.2.length < 2 * N
  few : kn.length ≤ 2 * N
  cnt : kn.length = 2 * (N / Nat.gcd (Nat.gcd T F) N)
theorem fnd_of {N T F : Nat} (hN : 0 < N) {k0 : Tri} (h : 0 ≤ k0.1 ∧ k0.1 < (N : Int)) {i : Nat} (hi : (runs N T F k0 i).2 = []) : Fnd N T F k0 (runs N T F k0 i).1 := by
  have hn : 0 < (N : Int) := by omega
  obtain ⟨done, J⟩ := runs_jv (t := (T : Int)) (f := (F : Int)) hn h i
  rw [hi] at J
  have ks := J.ks
  rw [List.append_nil, List.append_nil] at ks
  have cl : ∀ e ∈ (runs N T F k0 i).1, ∀ m, ∃ e' ∈ (runs N T F k0 i).1, e'.1 = mv N T F e.1 m ∧ code e'.2 ≤ code (e.2 ++ [m]) := fun e he m =>
    J.cl e he (by rw [← ks]; exact List.mem_map.mpr ⟨e, he, rfl⟩) m
  have fw := SM.few J.nd J.rg
  refine ⟨J.nd, J.wk, cl, fun e he => Nat.lt_of_lt_of_le (J.ln e he) fw, fw, ?_⟩
  have h0 : k0 ∈ keys (runs N T F k0 i).1 := by
    obtain ⟨more, e⟩ := runs_pre (n := (N : Int)) (t := (T : Int)) (f := (F : Int)) (r0 := k0) 0 i
    rw [Nat.zero_add] at e
    rw [e]
    exact List.mem_map.mpr ⟨(k0, []), List.mem_append_left _ (List.mem_singleton.mpr rfl), rfl⟩
  have c := count (N := N) (T := T) (F := F) hN (r0 := k0) (S := keys (runs N T F k0 i).1) J.nd (fun k hk => by
      obtain ⟨e, he, rfl⟩ := List.mem_map.mp hk
      exact J.rg e he) h0 (fun k hk m => by
      obtain ⟨e, he, rfl⟩ := List.mem_map.mp hk
      obtain ⟨e', h1, h2, _⟩ := cl e he m
      exact List.mem_map.mpr ⟨e', h1, h2⟩) (fun k hk => by
      obtain ⟨e, he, rfl⟩ := List.mem_map.mp hk
      exact ⟨e.2, J.wk e he⟩)
  unfold keys at c
  rw [List.length_map] at c
  exact c
/-- no word of the same length through an entry is smaller -/
theorem Fnd.least {N T F : Nat} {k0 k1 : Tri} {kn : Kn} (X : Fnd N T F k0 kn) {v : Wd} (hv : look kn k1 = some v) {e : Tri × Wd} (he : e ∈ kn) {m : Mv} (hm : mv N T F e.1 m = k1) (hl : (e.2.length : Int) = (v.length : Int) - 1) :
    ¬ (wordS (e.2 ++ [m])).cps.toList < (wordS v).cps.toList := fun h => by
  obtain ⟨e', h1, h2, h3⟩ := X.cl e he m
  have e2 : e'.2 = v := nodup_uniq X.nd (k := k1) (by rw [← hm, ← h2]; exact h1) (look_mem hv)
  rw [e2] at h3
  have := word_lt (by rw [List.length_append, List.length_singleton]; omega) h
  omega
theorem Ent.at {kn : Kn} {ys : List En} (r : Ent kn ys) : ∀ {i : Nat} {y : En}, ys[i]? = some y → ∃ e ∈ kn, y.1 = e.1 ∧ y.2.2 = V.str (wordS e.2) := by
  unfold Ent at r
  induction r with
  | nil => intro i y h; simp at h
  | @cons e y' es ys h t ih =>
    intro i y hy
    cases i with
    | zero =>
      have e1 : y' = y := Option.some.inj hy
      subst e1
      exact ⟨e, List.mem_cons_self, h⟩
    | succ i =>
      obtain ⟨e', h1, h2⟩ := ih (i := i) (y := y) (by simpa using hy)
      exact ⟨e', List.mem_cons_of_mem _ h1, h2⟩
end SM

/-! the law's own helpers: draws, moves, triads, alike -/
namespace SM
open PySem PySem.Spec PyProof.Rows L2
/-- the row of draws: the script, how many are read, the mixed number, a great cell's rest -/
def rowO (sa : Addr) (i : Nat) (x y : Int) : HO := .lst [.ref sa, .int i, .int x, .int y]
structure RowAt (K : PySem.W.Frag) (H0 H : Hp) (ra sa : Addr) (ns : List Int) (i : Nat) (x y : Int) : Prop where
  scr : SqL K H0 sa (ns.map V.int)
  same : Same H0 H
  new : H0 ra = none
  row : H ra = some (rowO sa i x y)
  x0 : 0 ≤ x
  x1 : x < 2147483647
theorem RowAt.upd {K : PySem.W.Frag} {H0 H : Hp} {ra sa : Addr} {ns : List Int} {i : Nat} {x y : Int} (R : RowAt K H0 H ra sa ns i x y) {i' : Nat} {x' y' : Int} (h0 : 0 ≤ x') (h1 : x' < 2147483647) :
    RowAt K H0 (upd H ra (rowO sa i' x' y')) ra sa ns i' x' y' :=
  ⟨R.scr, fun b o e => by rw [upd_ne (ne_of_none e R.new)]; exact R.same b o e, R.new, upd_same, h0, h1⟩
theorem RowAt.keep {K : PySem.W.Frag} {H0 H H' : Hp} {ra sa : Addr} {ns : List Int} {i : Nat} {x y : Int} (R : RowAt K H0 H ra sa ns i x y) (s : Same H H') : RowAt K H0 H' ra sa ns i x y :=
  ⟨R.scr, R.same.trans s, R.new, s _ _ R.row, R.x0, R.x1⟩
section
variable {P : Program} {w : World} {K : PySem.W.Frag} {mg : Str → Option Value} {base : Heap}
theorem scTaken : FnScope ["_law_row", "_law_many", "_law_found", "_law_cell"] ["_law_row", "_law_many"] (defScope sTaken) := ⟨rfl, rfl, rfl, by decide +kernel, rfl, by decide +kernel, by decide +kernel⟩
def spTaken (K : PySem.W.Frag) : Sp := fun vs H Q _ => ∃ (H0 : Hp) (ra sa : Addr) (ns : List Int) (i : Nat) (x y m : Int), vs = [.ref ra, .int m] ∧ RowAt K H0 H ra sa ns i x y ∧ 1 ≤ m ∧ m ≤ 1000 ∧
  ∀ (k : Nat) i' x' y' H', (k : Int) < m → H' = upd H ra (rowO sa i' x' y') → RowAt K H0 H' ra sa ns i' x' y' → Q (.int k) H'
theorem ok_taken {f : Addr} {fd : FuncData} {k : Nat} (F : Fun K "_law_taken" "_law_taken" sTaken f fd) (T : Tn mg) : FnOk P w K mg base CX0 (k + 1) f fd ["_law_row", "_law_many"] (spTaken K) := by
  refine F.ok scTaken (fun vs H Q E h => ?_) (fun cdv A outer s H vs Q E hr h => ?_)
  · obtain ⟨H0, ra, sa, ns, i, x, y, m, rfl, _⟩ := h
    rfl
  · obtain ⟨H0, ra, sa, ns, i, x, y, m, rfl, R, m1, m2, q⟩ := h
    refine ⟨_, pss_cons (ps_if (pt_cmpR op_gt (pe_ix ix_list (pv 0) pe_int (fun _ _ => rfl)) pe_int (nomark _))
        (pss_cons (ps_set (i := 2) scTaken.nd rfl (.inl rfl) (pe_op op_modN (pe_callTy call_int1 (by rfl) T.int (by decide +kernel) (pa_cons (pe_ix ix_list (pv 0) pe_int (fun _ _ => rfl)) pa_nil)) (pv 1)))
        (pss_cons (ps_asg (pe_op op_fdivN (pe_ix ix_list (pv 0) pe_int (fun _ _ => rfl)) (pv 1)) (pg_sub (pv 0) pe_int set_list))
        (pss_one (ps_ret (pv 2))))) pss_nil)
      (pss_cons (ps_asg (pe_op op_add (pe_ix ix_list (pv 0) pe_int (fun _ _ => rfl)) pe_int) (pg_sub (pv 0) pe_int set_list))
      (pss_cons (ps_if (pt_cmpR op_gt (pe_ix ix_list (pv 0) pe_int (fun _ _ => rfl)) (pe_callB call_len_seq (by rfl) T.len PySem.boot_len (pa_cons (pe_ix ix_list (pv 0) pe_int (fun _ _ => rfl)) pa_nil)) (nomark _))
        (pss_cons (ps_asg (pe_op op_mod (pe_callTy call_int1 (by rfl) T.int (by decide +kernel) (pa_cons (pe_op op_add (pe_op op_mul (pe_ix ix_list (pv 0) pe_int (fun _ _ => rfl)) pe_int) pe_int) pa_nil)) pe_int) (pg_sub (pv 0) pe_int set_list))
        (pss_one (ps_ret (pe_op op_modN (pe_callTy call_int1 (by rfl) T.int (by decide +kernel) (pa_cons (pe_op op_fdivN (pe_ix ix_list (pv 0) pe_int (fun _ _ => rfl)) pe_int) pa_nil)) (pv 1))))) pss_nil)
      (pss_cons (ps_set (i := 3) scTaken.nd rfl (.inl rfl) (pe_ix ix_list (pe_ix ix_list (pv 0) pe_int (fun _ _ => rfl)) (pe_op op_sub (pe_ix ix_list (pv 0) pe_int (fun _ _ => rfl)) pe_int) (fun _ _ => rfl)))
      (pss_cons (ps_asg (pe_op op_mod (pe_callTy call_int1 (by rfl) T.int (by decide +kernel) (pa_cons (pe_op op_add (pe_op op_add (pe_op op_mul (pe_ix ix_list (pv 0) pe_int (fun _ _ => rfl)) pe_int) (pv 3)) pe_int) pa_nil)) pe_int) (pg_sub (pv 0) pe_int set_list))
      (pss_cons (ps_if (pt_cmpR op_ge (pv 3) (pe_op op_pow pe_int pe_int) (nomark _))
        (pss_one (ps_asg (pe_op op_fdivN (pv 3) (pv 1)) (pg_sub (pv 0) pe_int set_list))) pss_nil)
      (pss_one (ps_ret (pe_op op_modN (pe_callTy call_int1 (by rfl) T.int (by decide +kernel) (pa_cons (pv 3) pa_nil)) (pv 1))))))))), ?_⟩
    have h0 : SqL K H ra [.ref sa, .int i, .int x, .int y] := SqL.of R.row
    have md : ∀ z : Int, ∃ c : Nat, z.fmod m = c ∧ (c : Int) < m := fun z => by
      rw [fm (by omega)]
      have a1 := Int.emod_nonneg z (show m ≠ 0 by omega)
      have a2 := Int.emod_lt_of_pos z (show 0 < m by omega)
      exact ⟨(z % m).toNat, by omega, by omega⟩
    have hm0 : m ≠ 0 := by omega
    have hm2 : m.natAbs < 1073741824 := by omega
    refine ⟨.ref ra, rfl, ra, _, 3, .int y, rfl, rfl, h0, atI_nat (j := 3) rfl, y, 0, rfl, rfl, _, rfl, ?_⟩
    refine ite2 (fun _ => ?_) (fun _ => ?_)
    · -- a great cell's rest
      obtain ⟨c, ec, hc⟩ := md y
      refine ⟨.ref ra, rfl, ra, _, 3, .int y, rfl, rfl, h0, atI_nat (j := 3) rfl, .inl ⟨y, rfl, .int m, rfl, y, m, rfl, rfl, hm0, ?_⟩⟩
      refine ⟨.ref ra, rfl, ra, _, 3, .int y, rfl, rfl, h0, atI_nat (j := 3) rfl, .int m, rfl, y, m, rfl, rfl, ⟨hm0, hm2⟩, .ref ra, rfl, ra, _, 3, 3, rfl, rfl, R.row, rfl, ?_⟩
      refine ⟨.int (y.fmod m), rfl, ?_⟩
      rw [ec]
      exact q c i x (y.fdiv m) _ hc rfl (R.upd R.x0 R.x1)
    · -- the next cell
      refine ⟨.ref ra, rfl, ra, _, 1, .int i, rfl, rfl, h0, atI_nat (j := 1) rfl, i, 1, rfl, rfl, .ref ra, rfl, ra, _, 1, 1, rfl, rfl, R.row, rfl, ?_⟩
      have R1 : RowAt K H0 (upd H ra (rowO sa (i + 1) x y)) ra sa ns (i + 1) x y := R.upd R.x0 R.x1
      have h1 : SqL K (upd H ra (rowO sa (i + 1) x y)) ra [.ref sa, .int ((i + 1 : Nat) : Int), .int x, .int y] := SqL.of upd_same
      have hs1 : SqL K (upd H ra (rowO sa (i + 1) x y)) sa (ns.map V.int) := R1.same.seq R1.scr
      show tSeq _ _ _ _ (upd H ra (rowO sa (i + 1) x y))
      refine ⟨.ref ra, rfl, ra, _, 1, .int ((i + 1 : Nat) : Int), rfl, rfl, h1, atI_nat (j := 1) rfl, .ref ra, rfl, ra, _, 0, .ref sa, rfl, rfl, h1, atI_nat (j := 0) rfl, sa, _, rfl, .inl hs1, _, _, rfl, rfl, _, rfl, ?_⟩
      have xm : CMul x 48271 := .inl ⟨by have := R.x0; omega, by have := R.x1; omega⟩
      refine ite2 (fun _ => ?_) (fun hi => ?_)
      · -- mixed numbers
        refine ⟨.ref ra, rfl, ra, _, 2, .int x, rfl, rfl, h1, atI_nat (j := 2) rfl, x, 48271, rfl, rfl, xm, x * 48271, 11, rfl, rfl, .inl ⟨_, rfl, _, _, rfl, rfl, by show (0 : Int) < 2147483647; decide, .ref ra, rfl, ra, _, 2, 2, rfl, rfl, upd_same, rfl, ?_⟩⟩
        obtain ⟨x', hx'⟩ : ∃ x', x' = (x * 48271 + 11) % 2147483647 := ⟨_, rfl⟩
        have hx0 : 0 ≤ x' := by rw [hx']; exact Int.emod_nonneg _ (by decide)
        have hx1 : x' < 2147483647 := by rw [hx']; exact Int.emod_lt_of_pos _ (by decide)
        have e2 : (HO.lst ([V.ref sa, V.int ((i + 1 : Nat) : Int), V.int x, V.int y].set 2 ((fun i j => V.int (i % j)) (x * 48271 + 11) 2147483647))) = rowO sa (i + 1) x' y := by rw [hx']; rfl
        rw [e2, upd_upd]
        have h2 : SqL K (upd H ra (rowO sa (i + 1) x' y)) ra [.ref sa, .int ((i + 1 : Nat) : Int), .int x', .int y] := SqL.of upd_same
        refine ⟨.ref ra, rfl, ra, _, 2, .int x', rfl, rfl, h2, atI_nat (j := 2) rfl, x', 7, rfl, rfl, ⟨by decide, by decide⟩, .inl ⟨_, rfl, .int m, rfl, _, m, rfl, rfl, hm0, ?_⟩⟩
        obtain ⟨c, ec, hc⟩ := md (x'.fdiv 7)
        show Q (.int ((x'.fdiv 7).fmod m)) _
        rw [ec]
        exact q c (i + 1) x' y _ hc rfl (R.upd hx0 hx1)
      · have hlt : i < ns.length := by
          have h3 : ¬ (((ns.map V.int).length : Int) < ((i + 1 : Nat) : Int)) := fun z => hi (decide_eq_true z)
          rw [List.length_map] at h3
          omega
        have hat : atI (ns.map V.int) (((i + 1 : Nat) : Int) - 1) = some (.int ns[i]) := at_of (j := i) (by omega) (by rw [List.getElem?_map, List.getElem?_eq_getElem hlt]; rfl)
        refine ⟨.ref ra, rfl, ra, _, 0, .ref sa, rfl, rfl, h1, atI_nat (j := 0) rfl, .ref ra, rfl, ra, _, 1, .int ((i + 1 : Nat) : Int), rfl, rfl, h1, atI_nat (j := 1) rfl, _, 1, rfl, rfl, sa, _, _, .int ns[i], rfl, rfl, hs1, hat, ?_⟩
        refine ⟨.ref ra, rfl, ra, _, 2, .int x, rfl, rfl, h1, atI_nat (j := 2) rfl, x, 48271, rfl, rfl, xm, .int ns[i], rfl, x * 48271, ns[i], rfl, rfl, x * 48271 + ns[i], 11, rfl, rfl, .inl ⟨_, rfl, _, _, rfl, rfl, by show (0 : Int) < 2147483647; decide, .ref ra, rfl, ra, _, 2, 2, rfl, rfl, upd_same, rfl, ?_⟩⟩
        obtain ⟨x', hx'⟩ : ∃ x', x' = (x * 48271 + ns[i] + 11) % 2147483647 := ⟨_, rfl⟩
        have hx0 : 0 ≤ x' := by rw [hx']; exact Int.emod_nonneg _ (by decide)
        have hx1 : x' < 2147483647 := by rw [hx']; exact Int.emod_lt_of_pos _ (by decide)
        have e2 : (HO.lst ([V.ref sa, V.int ((i + 1 : Nat) : Int), V.int x, V.int y].set 2 ((fun i j => V.int (i % j)) (x * 48271 + ns[i] + 11) 2147483647))) = rowO sa (i + 1) x' y := by rw [hx']; rfl
        rw [e2, upd_upd]
        obtain ⟨c, ec, hc⟩ := md ns[i]
        have fin : ∀ y' (H' : Hp), H' = upd H ra (rowO sa (i + 1) x' y') → Q (.int (Int.fmod ns[i] m)) H' := fun y' H' e => by
          rw [ec]
          exact q c (i + 1) x' y' H' hc e (by rw [e]; exact R.upd hx0 hx1)
        refine ⟨.int ns[i], rfl, 10, 18, rfl, rfl, ⟨by decide, by decide, by decide⟩, ns[i], _, rfl, rfl, _, rfl, ?_⟩
        refine ite2 (fun _ => ?_) (fun _ => ?_)
        · refine ⟨.int ns[i], rfl, .int m, rfl, ns[i], m, rfl, rfl, ⟨hm0, hm2⟩, .ref ra, rfl, ra, _, 3, 3, rfl, rfl, upd_same, rfl, ?_⟩
          rw [upd_upd]
          exact ⟨.int ns[i], rfl, .inl ⟨ns[i], rfl, .int m, rfl, ns[i], m, rfl, rfl, hm0, fin _ _ rfl⟩⟩
        · exact ⟨.int ns[i], rfl, .inl ⟨ns[i], rfl, .int m, rfl, ns[i], m, rfl, rfl, hm0, fin _ _ rfl⟩⟩
end
end SM

/-! the law's own helpers: moves, triads, alike -/
namespace SM
open PySem PySem.Spec PyProof.Rows L2
section
variable {P : Program} {w : World} {K : PySem.W.Frag} {mg : Str → Option Value} {base : Heap}
theorem scLMove : FnScope ["_law_many", "_law_third", "_law_fifth", "_law_told", "_law_move_here", "_law_root", "_law_upright", "_law_step"] ["_law_many", "_law_third", "_law_fifth", "_law_told", "_law_move_here"] (defScope sLMove) :=
  ⟨rfl, rfl, rfl, by decide +kernel, rfl, by decide +kernel, by decide +kernel⟩
theorem ok_lmove {f : Addr} {fd : FuncData} {k : Nat} (F : Fun K "_law_move" "_law_move" sLMove f fd) : FnOk P w K mg base CX0 (k + 1) f fd ["_law_many", "_law_third", "_law_fifth", "_law_told", "_law_move_here"] spMove := by
  refine F.ok scLMove (fun vs H Q E h => ?_) (fun cdv A outer s H vs Q E hr h => ?_)
  · obtain ⟨n, t, f, a, c, m, rfl, _⟩ := h
    rfl
  · obtain ⟨n, t, f, a, c, m, rfl, hn, ha, q⟩ := h
    have hS : SqT K H a (triV c) := SqT.of ha
    have hz : (0 : Int) ≤ n := by omega
    refine ⟨_, pss_cons (ps_asg (pv 3) (pg_tup (by rfl) (pgs_cons (pg_name (i := 5) scLMove.nd rfl (.inl rfl)) (pgs_cons (pg_name (i := 6) scLMove.nd rfl (.inl rfl)) pgs_nil))))
      (pss_cons (ps_if (pt_cmpR op_eq (pv 4) pe_str (nomark _)) (pss_one (ps_ret (pe_tup (pa_cons (pv 5) (pa_cons (pe_not (pv 6)) pa_nil))))) pss_nil)
      (pss_cons (ps_set (i := 7) scLMove.nd rfl (.inl rfl) (pe_ifExp (pt_cmpR op_eq (pv 4) pe_str (nomark _)) (pv 1) (pe_op op_sub (pv 1) (pv 2))))
      (pss_one (ps_ret (pe_ifExp (pt_val (pv 6)) (pe_tup (pa_cons (pe_op op_modN (pe_op op_add (pv 5) (pv 7)) (pv 0)) (pa_cons pe_bl pa_nil))) (pe_tup (pa_cons (pe_op op_modN (pe_op op_sub (pv 5) (pv 7)) (pv 0)) (pa_cons pe_bl pa_nil)))))))), ?_⟩
    refine ⟨.ref a, rfl, a, triV c, rfl, hS, rfl, .int c.1, [.bl c.2], rfl, .bl c.2, [], rfl, rfl, ?_⟩
    refine ⟨.str (sgS m), rfl, rfl, _, rfl, ?_⟩
    rw [dS sP]
    have fin : ∀ s : Int, mv n t f c m = (if c.2 = true then (c.1 + s) % n else (c.1 - s) % n, !c.2) →
        ∀ p, H p = none → Q (.ref p) (upd H p (.tup [.int (if c.2 = true then (c.1 + s).fmod n else (c.1 - s).fmod n), .bl (!c.2)])) := by
      intro s e p hp
      have := q p hp
      rw [e] at this
      rw [fm hz, fm hz]
      exact this
    have s2 : 2 ≤ sizeLine := by decide
    have two : ∀ s : Int, mv n t f c m = (if c.2 = true then (c.1 + s) % n else (c.1 - s) % n, !c.2) →
        (if c.2 = true then ∀ p, H p = none → Q (.ref p) (upd H p (.tup [.int ((c.1 + s).fmod n), .bl false])) else ∀ p, H p = none → Q (.ref p) (upd H p (.tup [.int ((c.1 - s).fmod n), .bl true]))) := by
      intro s e
      by_cases hc : c.2 = true
      · rw [if_pos hc]
        intro p hp
        have := fin s e p hp
        rw [if_pos hc, hc] at this
        exact this
      · rw [if_neg hc]
        intro p hp
        have := fin s e p hp
        rw [if_neg hc, Bool.eq_false_iff.mpr hc] at this
        exact this
    cases m with
    | P =>
      refine iteT ?_
      exact ⟨.int c.1, rfl, .bl c.2, rfl, c.2, rfl, s2, fun p hp => q p hp⟩
    | L =>
      refine iteF ⟨.str (sgS .L), rfl, rfl, _, rfl, ?_⟩
      rw [dS sL]
      refine iteT ⟨.int t, rfl, ?_⟩
      refine ⟨.bl c.2, rfl, c.2, rfl, ?_⟩
      have h2 := two t rfl
      refine ite2 (fun hc => ?_) (fun hc => ?_)
      · rw [if_pos hc] at h2
        exact ⟨.int c.1, rfl, .int t, rfl, c.1, t, rfl, rfl, .int n, rfl, c.1 + t, n, rfl, rfl, by omega, s2, h2⟩
      · rw [if_neg hc] at h2
        exact ⟨.int c.1, rfl, .int t, rfl, c.1, t, rfl, rfl, .int n, rfl, c.1 - t, n, rfl, rfl, by omega, s2, h2⟩
    | R =>
      refine iteF ⟨.str (sgS .R), rfl, rfl, _, rfl, ?_⟩
      rw [dS sL]
      refine iteF ⟨.int t, rfl, .int f, rfl, t, f, rfl, rfl, ?_⟩
      refine ⟨.bl c.2, rfl, c.2, rfl, ?_⟩
      have h2 := two ((t : Int) - f) rfl
      refine ite2 (fun hc => ?_) (fun hc => ?_)
      · rw [if_pos hc] at h2
        exact ⟨.int c.1, rfl, .int ((t : Int) - f), rfl, c.1, (t : Int) - f, rfl, rfl, .int n, rfl, c.1 + ((t : Int) - f), n, rfl, rfl, by omega, s2, h2⟩
      · rw [if_neg hc] at h2
        exact ⟨.int c.1, rfl, .int ((t : Int) - f), rfl, c.1, (t : Int) - f, rfl, rfl, .int n, rfl, c.1 - ((t : Int) - f), n, rfl, rfl, by omega, s2, h2⟩
/-! ### the drawn numbers -/
theorem scLTriads : FnScope ["_law_row", "_law_turn", "_law_many", "_law_third", "_law_fifth"] ["_law_row"] (defScope sLTriads) := ⟨rfl, rfl, rfl, by decide +kernel, rfl, by decide +kernel, by decide +kernel⟩
def spLTriads (K : PySem.W.Frag) : Sp := fun vs H Q _ => ∃ (H0 : Hp) (ra sa : Addr) (ns : List Int) (i : Nat) (x y : Int), vs = [.ref ra] ∧ RowAt K H0 H ra sa ns i x y ∧
  ∀ H' p (N T F : Nat) i' x' y', RowAt K H0 H' ra sa ns i' x' y' → H' p = some (.tup [.int N, .int T, .int F]) → Sh N T F → Q (.ref p) H'
theorem ok_ltriads {f g : Addr} {fd gd : FuncData} {k : Nat} (F : Fun K "_law_triads" "_law_triads" sLTriads f fd) (G : FnOk P w K mg base CX0 k g gd ["_law_row", "_law_many"] (spTaken K)) (kp : PySem.W.keepIn K (.ref g) = true)
    (b : Binds K gd ["_law_row", "_law_many"] []) (gT : mg "_law_taken" = some (.ref g)) (T : Tn mg) : FnOk P w K mg base CX0 (k + 1) f fd ["_law_row"] (spLTriads K) := by
  refine F.ok scLTriads (fun vs H Q E h => ?_) (fun cdv A outer s H vs Q E hr h => ?_)
  · obtain ⟨H0, ra, sa, ns, i, x, y, rfl, _⟩ := h
    rfl
  · obtain ⟨H0, ra, sa, ns, i, x, y, rfl, R, q⟩ := h
    refine ⟨_, pss_cons (ps_for PassesOwn.never rfl (pi_range1 rfl T.range (pa_cons pe_int pa_nil)) (pg_name (i := 1) scLTriads.nd rfl (Or.inl rfl))
        (pss_cons (ps_set (i := 2) scLTriads.nd rfl (.inl rfl) (pe_op op_add pe_int (pe_call G hr (by rfl) gT kp b .nil pass0 (pa_cons (pv 0) (pa_cons pe_int pa_nil)))))
        (pss_cons (ps_set (i := 3) scLTriads.nd rfl (.inl rfl) (pe_op op_add pe_int (pe_call G hr (by rfl) gT kp b .nil pass0 (pa_cons (pv 0) (pa_cons (pe_op op_sub (pv 2) pe_int) pa_nil)))))
        (pss_cons (ps_set (i := 4) scLTriads.nd rfl (.inl rfl) (pe_op op_add (pe_op op_add (pv 3) pe_int) (pe_call G hr (by rfl) gT kp b .nil pass0 (pa_cons (pv 0) (pa_cons (pe_op op_sub (pe_op op_sub (pv 2) pe_int) (pv 3)) pa_nil)))))
        (pss_one (ps_if (PW.pt (pw_and (pt_cmpR op_ne (pe_op op_modN (pe_op op_mul pe_int (pv 3)) (pv 2)) (pv 4) (nomark _)) (pw_and (pt_cmpR op_ne (pe_op op_modN (pe_op op_mul pe_int (pv 4)) (pv 2)) (pv 3) (nomark _))
          (pw_and1 (pt_cmpR op_ne (pe_op op_modN (pe_op op_add (pv 3) (pv 4)) (pv 2)) pe_int (nomark _)))))) (pss_one (ps_ret (pe_tup (pa_cons (pv 2) (pa_cons (pv 3) (pa_cons (pv 4) pa_nil)))))) pss_nil))))))
      (pss_one (ps_ret (pe_tup (pa_cons pe_int (pa_cons pe_int (pa_cons pe_int pa_nil)))))), ?_⟩
    have s3 : 3 ≤ sizeLine := by decide
    refine ⟨50, rfl, by decide, by decide, for_range (n := 50) (fun v σ H' => ∃ y1 y2 y3 y4 i x y, σ = [some (.ref ra), y1, y2, y3, y4] ∧ RowAt K H0 H' ra sa ns i x y) ⟨none, none, none, none, i, x, y, rfl, R⟩ ?_ ?_⟩
    · rintro v σ H1 hv ⟨y1, y2, y3, y4, i, x, y, rfl, R1⟩
      refine ⟨.ref ra, rfl, H0, ra, sa, ns, i, x, y, 30, rfl, R1, by decide, by decide, fun k1 i x y H2 h2 _ R2 => ?_⟩
      refine ⟨3, k1, rfl, rfl, ?_⟩
      refine ⟨.ref ra, rfl, .int (3 + k1), rfl, 3 + k1, 2, rfl, rfl, H0, ra, sa, ns, _, _, _, (3 + (k1 : Int)) - 2, rfl, R2, by omega, by omega, fun k2 i x y H3 h3 _ R3 => ?_⟩
      refine ⟨1, k2, rfl, rfl, ?_⟩
      refine ⟨.int (1 + k2), rfl, 1 + k2, 1, rfl, rfl, .ref ra, rfl, .int (3 + k1), rfl, 3 + k1, 1, rfl, rfl, .int (1 + k2), rfl, 3 + (k1 : Int) - 1, 1 + k2, rfl, rfl, H0, ra, sa, ns, _, _, _, (3 + (k1 : Int)) - 1 - (1 + k2), rfl, R3, by omega, by omega, fun k3 i x y H4 h4 _ R4 => ?_⟩
      refine ⟨1 + (k2 : Int) + 1, k3, rfl, rfl, ?_⟩
      obtain ⟨N, hN⟩ : ∃ N : Nat, N = 3 + k1 := ⟨_, rfl⟩
      obtain ⟨t, ht⟩ : ∃ t : Nat, t = 1 + k2 := ⟨_, rfl⟩
      obtain ⟨f, hf⟩ : ∃ f : Nat, f = 1 + k2 + 1 + k3 := ⟨_, rfl⟩
      have eN : (3 + (k1 : Int)) = (N : Int) := by omega
      have et : (1 + (k2 : Int)) = (t : Int) := by omega
      have ef : (t : Int) + 1 + (k3 : Int) = (f : Int) := by omega
      show gName 4 (.int (1 + (k2 : Int) + 1 + (k3 : Int))) [some (.ref ra), some (.int (0 + (v : Nat))), some (.int (3 + (k1 : Int))), some (.int (1 + (k2 : Int))), y4] H4 _
      rw [eN, et, ef]
      have hz : (0 : Int) ≤ (N : Int) := by omega
      have hN0 : (N : Int) ≠ 0 := by omega
      have go : ∃ y1 y2 y3 y4 i x y, ([some (.ref ra), some (.int (0 + (v : Nat))), some (.int N), some (.int t), some (.int f)] : L2.St) = [some (.ref ra), y1, y2, y3, y4] ∧ RowAt K H0 H4 ra sa ns i x y := ⟨_, _, _, _, i, x, y, rfl, R4⟩
      refine ⟨.int t, rfl, 2, t, rfl, rfl, .inl ⟨by decide, by decide⟩, .int N, rfl, 2 * (t : Int), N, rfl, rfl, hN0, .int f, rfl, rfl, _, rfl, ?_⟩
      show if (!decide (V.int ((2 * (t : Int)).fmod N) = V.int f)) = true then _ else _
      rw [fm hz]
      by_cases a1 : (2 * (t : Int)) % N = f
      · rw [a1, decide_eq_true rfl]
        exact go
      rw [neV a1]
      refine iteT ⟨.int f, rfl, 2, f, rfl, rfl, .inl ⟨by decide, by decide⟩, .int N, rfl, 2 * (f : Int), N, rfl, rfl, hN0, .int t, rfl, rfl, _, rfl, ?_⟩
      show if (!decide (V.int ((2 * (f : Int)).fmod N) = V.int t)) = true then _ else _
      rw [fm hz]
      by_cases a2 : (2 * (f : Int)) % N = t
      · rw [a2, decide_eq_true rfl]
        exact go
      rw [neV a2]
      refine iteT ⟨.int t, rfl, .int f, rfl, t, f, rfl, rfl, .int N, rfl, (t : Int) + f, N, rfl, rfl, hN0, rfl, _, rfl, ?_⟩
      show if (!decide (V.int (((t : Int) + f).fmod N) = V.int 0)) = true then _ else _
      rw [fm hz]
      by_cases a3 : ((t : Int) + f) % N = 0
      · rw [a3, decide_eq_true rfl]
        exact go
      rw [neV a3]
      refine iteT ⟨.int N, rfl, .int t, rfl, .int f, rfl, s3, fun p hp => ?_⟩
      exact q _ p N t f i x y (R4.keep (same_new hp)) upd_same ⟨by omega, by omega, by omega, by omega, by omega, by omega, a1, a2, a3⟩
    · rintro σ H1 ⟨y1, y2, y3, y4, i, x, y, rfl, R1⟩
      refine ⟨s3, fun p hp => ?_⟩
      exact q _ p 12 4 7 i x y (R1.keep (same_new hp)) upd_same ⟨by decide, by decide, by decide, by decide, by decide, by decide, by decide, by decide, by decide⟩
/-! ### alike -/
theorem scAlike : FnScope ["_law_found", "_law_due"] ["_law_found", "_law_due"] (defScope sAlike) := ⟨rfl, rfl, rfl, by decide +kernel, rfl, by decide +kernel, by decide +kernel⟩
def spAlike : Sp := fun vs H Q _ => ∃ v : V, vs = [v, v] ∧ (v = .non ∨ (∃ z, v = .str z) ∨ ∃ i, v = .int i) ∧ ∀ H', Same H H' → Q (.bl true) H'
theorem ok_alike {f : Addr} {fd : FuncData} {k : Nat} (F : Fun K "_law_alike" "_law_alike" sAlike f fd) (T : Tn mg) : FnOk P w K mg base CX0 (k + 1) f fd ["_law_found", "_law_due"] spAlike := by
  refine F.ok scAlike (fun vs H Q E h => ?_) (fun cdv A outer s H vs Q E hr h => ?_)
  · obtain ⟨v, rfl, _⟩ := h
    rfl
  · obtain ⟨v, rfl, hv, q⟩ := h
    refine ⟨_, pss_cons (ps_if (pt_val (pe_callB call_isiT (by rfl) T.isi (by decide +kernel) (pa_cons (pv 1) (pa_cons (pe_tup (pa_cons (pe_bltn (v := .ty "tuple") (by rfl) T.tuple (by decide +kernel) rfl) (pa_cons (pe_bltn (v := .ty "list") (by rfl) T.list (by decide +kernel) rfl) pa_nil))) pa_nil))))
        (pss_cons ps_never (pss_cons ps_never (pss_one ps_never))) pss_nil)
      (pss_cons (ps_if (PW.pt (pw_or (pt_cmpR op_isN (pv 1) pe_non (nomark _)) (pw_or1 (pt_val (pe_callB call_isi (by rfl) T.isi (by decide +kernel) (pa_cons (pv 1) (pa_cons (pe_bltn (v := .ty "str") (by rfl) T.str (by decide +kernel) rfl) pa_nil)))))))
        (pss_one (ps_ret (pe_and (pe_cmpR op_eq (pv 0) (pv 1) (nomark _)) (pe_one (pe_cmpR op_eq (pe_callB call_isi (by rfl) T.isi (by decide +kernel) (pa_cons (pv 0) (pa_cons (pe_bltn (v := .ty "str") (by rfl) T.str (by decide +kernel) rfl) pa_nil)))
          (pe_callB call_isi (by rfl) T.isi (by decide +kernel) (pa_cons (pv 1) (pa_cons (pe_bltn (v := .ty "str") (by rfl) T.str (by decide +kernel) rfl) pa_nil))) (nomark _)))))) pss_nil)
      (pss_one (ps_ret (pe_and (pe_callB call_isi (by rfl) T.isi (by decide +kernel) (pa_cons (pv 0) (pa_cons (pe_bltn (v := .ty "int") (by rfl) T.int (by decide +kernel) rfl) pa_nil)))
        (pe_and (pe_cmpR op_eq (pe_callB call_isi (by rfl) T.isi (by decide +kernel) (pa_cons (pv 0) (pa_cons (pe_bltn (v := .ty "bool") (by rfl) T.bool (by decide +kernel) rfl) pa_nil)))
          (pe_callB call_isi (by rfl) T.isi (by decide +kernel) (pa_cons (pv 1) (pa_cons (pe_bltn (v := .ty "bool") (by rfl) T.bool (by decide +kernel) rfl) pa_nil))) (nomark _))
        (pe_one (pe_cmpR op_eq (pv 0) (pv 1) (nomark _)))))))), ?_⟩
    have dt : ∀ b : Bool, decide (V.bl b = V.bl b) = true := fun b => decide_eq_true rfl
    have dv : decide (v = v) = true := decide_eq_true rfl
    refine ⟨v, rfl, by show 2 ≤ sizeLine; decide, fun tp htp => ?_⟩
    have sm := same_new (o := .tup [.ty "tuple", .ty "list"]) htp
    rcases hv with rfl | ⟨z, rfl⟩ | ⟨z, rfl⟩
    · refine ⟨_, tp, _, _, _, false, rfl, upd_same, .cons (.ty "tuple") (.cons (.ty "list") .nil), .base .non, kitAny_cons (b := false) (kit_ty (by decide +kernel)) (fun _ => kitAny_cons (b := false) (kit_ty (by decide +kernel)) (fun _ => kitAny_nil) (fun h => nomatch h)) (fun h => nomatch h), false, rfl, iteF ?_⟩
      refine ⟨.non, rfl, rfl, _, rfl, iteT ?_⟩
      refine ⟨.non, rfl, .non, rfl, rfl, _, rfl, iteT ?_⟩
      refine ⟨.non, rfl, _, _, _, _, false, rfl, .ty _, .base .non, kit_ty (by decide +kernel), .non, rfl, _, _, _, _, false, rfl, .ty _, .base .non, kit_ty (by decide +kernel), rfl, ?_⟩
      exact q _ sm
    · refine ⟨_, tp, _, _, _, false, rfl, upd_same, .cons (.ty "tuple") (.cons (.ty "list") .nil), .base (.str z), kitAny_cons (b := false) (kit_ty (by decide +kernel)) (fun _ => kitAny_cons (b := false) (kit_ty (by decide +kernel)) (fun _ => kitAny_nil) (fun h => nomatch h)) (fun h => nomatch h), false, rfl, iteF ?_⟩
      refine ⟨.str z, rfl, rfl, _, rfl, iteF ?_⟩
      refine ⟨.str z, rfl, _, _, _, _, true, rfl, .ty _, .base (.str z), kit_ty (by decide +kernel), true, rfl, iteT ?_⟩
      refine ⟨.str z, rfl, .str z, rfl, rfl, _, rfl, ?_⟩
      rw [dv]
      refine iteT ?_
      refine ⟨.str z, rfl, _, _, _, _, true, rfl, .ty _, .base (.str z), kit_ty (by decide +kernel), .str z, rfl, _, _, _, _, true, rfl, .ty _, .base (.str z), kit_ty (by decide +kernel), rfl, ?_⟩
      exact q _ sm
    · refine ⟨_, tp, _, _, _, false, rfl, upd_same, .cons (.ty "tuple") (.cons (.ty "list") .nil), .base (.int z), kitAny_cons (b := false) (kit_ty (by decide +kernel)) (fun _ => kitAny_cons (b := false) (kit_ty (by decide +kernel)) (fun _ => kitAny_nil) (fun h => nomatch h)) (fun h => nomatch h), false, rfl, iteF ?_⟩
      refine ⟨.int z, rfl, rfl, _, rfl, iteF ?_⟩
      refine ⟨.int z, rfl, _, _, _, _, false, rfl, .ty _, .base (.int z), kit_ty (by decide +kernel), false, rfl, iteF ?_⟩
      refine ⟨.int z, rfl, _, _, _, _, true, rfl, .ty _, .base (.int z), kit_ty (by decide +kernel), true, rfl, iteT ?_⟩
      refine ⟨.int z, rfl, _, _, _, _, false, rfl, .ty _, .base (.int z), kit_ty (by decide +kernel), .int z, rfl, _, _, _, _, false, rfl, .ty _, .base (.int z), kit_ty (by decide +kernel), rfl, _, rfl, iteT ?_⟩
      refine ⟨.int z, rfl, .int z, rfl, rfl, ?_⟩
      rw [dv]
      exact q _ sm
end
end SM

/-! the law -/
namespace SM
open PySem PySem.Spec PyProof.Rows L2
def lpr : List V := [.str "L", .str "P", .str "R"]
theorem lpr_at {i : Nat} {x : V} (h : lpr[i]? = some x) : ∃ m, mvs[i]? = some m ∧ x = .str (sgS m) := by
  match i, h with
  | 0, h => cases h; exact ⟨.L, rfl, by rw [sL]⟩
  | 1, h => cases h; exact ⟨.P, rfl, by rw [sP]⟩
  | 2, h => cases h; exact ⟨.R, rfl, by rw [sR]⟩
section
variable {P : Program} {w : World} {K : PySem.W.Frag} {mg : Str → Option Value} {base : Heap}
theorem scLaw : FnScope ["_law_script", "_law_row", "_law_many", "_law_third", "_law_fifth", "_law_one", "_law_other", "_law_known", "_law_rim", "_law_later", "_law_told", "_law_move_here", "_law_more", "_law_found"] ["_law_script"] (defScope sLaw) :=
  ⟨rfl, rfl, rfl, by decide +kernel, rfl, by decide +kernel, by decide +kernel⟩
def spLaw (K : PySem.W.Frag) : Sp := fun vs H Q _ => ∃ (a : Addr) (ns : List Int), vs = [.ref a] ∧ SqL K H a (ns.map V.int) ∧ ∀ H', Q (.bl true) H'
theorem ok_law {f g1 g2 g3 g4 g5 g6 g7 : Addr} {fd d1 d2 d3 d4 d5 d6 d7 : FuncData} {k : Nat} (F : Fun K "law" "law" sLaw f fd) (T : Tn mg)
    (G1 : FnOk P w K mg base CX0 k g1 d1 ["_law_row"] (spLTriads K)) (k1 : PySem.W.keepIn K (.ref g1) = true) (b1 : Binds K d1 ["_law_row"] []) (m1 : mg "_law_triads" = some (.ref g1))
    (G2 : FnOk P w K mg base CX0 k g2 d2 ["_law_row", "_law_many"] (spTaken K)) (k2 : PySem.W.keepIn K (.ref g2) = true) (b2 : Binds K d2 ["_law_row", "_law_many"] []) (m2 : mg "_law_taken" = some (.ref g2))
    (G3 : FnOk P w K mg base CX0 k g3 d3 ["_law_many", "_law_third", "_law_fifth", "_law_told", "_law_move_here"] spMove) (k3 : PySem.W.keepIn K (.ref g3) = true) (b3 : Binds K d3 ["_law_many", "_law_third", "_law_fifth", "_law_told", "_law_move_here"] []) (m3 : mg "_law_move" = some (.ref g3))
    (G4 : FnOk P w K mg base CX0 k g4 d4 ["many", "third", "fifth", "one", "other"] spLeast) (k4 : PySem.W.keepIn K (.ref g4) = true) (b4 : Binds K d4 ["many", "third", "fifth", "one", "other"] []) (m4 : mg "least_moves" = some (.ref g4))
    (G5 : FnOk P w K mg base CX0 k g5 d5 ["_law_found", "_law_due"] spAlike) (k5 : PySem.W.keepIn K (.ref g5) = true) (b5 : Binds K d5 ["_law_found", "_law_due"] []) (m5 : mg "_law_alike" = some (.ref g5))
    (G6 : FnOk P w K mg base CX0 k g6 d6 ["many", "third", "fifth"] spReached) (k6 : PySem.W.keepIn K (.ref g6) = true) (b6 : Binds K d6 ["many", "third", "fifth"] []) (m6 : mg "reached" = some (.ref g6))
    (G7 : FnOk P w K mg base CX0 k g7 d7 ["many", "third", "fifth", "told", "moves"] spWalk) (k7 : PySem.W.keepIn K (.ref g7) = true) (b7 : Binds K d7 ["many", "third", "fifth", "told", "moves"] []) (m7 : mg "walk" = some (.ref g7)) :
    FnOk P w K mg base CX0 (k + 1) f fd ["_law_script"] (spLaw K) := by
  refine F.ok scLaw (fun vs H Q E h => ?_) (fun cdv A outer s H vs Q E hr h => ?_)
  · obtain ⟨a, ns, rfl, _⟩ := h
    rfl
  · obtain ⟨sa, ns, rfl, hS, q⟩ := h
    have hu := hu_of hr
    refine ⟨_, pss_cons (ps_set (i := 1) scLaw.nd rfl (.inl rfl) (pe_lst (pa_cons (pv 0) (pa_cons pe_int (pa_cons pe_int (pa_cons pe_int pa_nil))))))
      (pss_cons (ps_asg (pe_call G1 hr (by rfl) m1 k1 b1 .nil pass0 (pa_cons (pv 1) pa_nil)) (pg_tup (by rfl) (pgs_cons (pg_name (i := 2) scLaw.nd rfl (.inl rfl)) (pgs_cons (pg_name (i := 3) scLaw.nd rfl (.inl rfl)) (pgs_cons (pg_name (i := 4) scLaw.nd rfl (.inl rfl)) pgs_nil)))))
      (pss_cons (ps_par (i := 5) (j := 6) (by rfl) scLaw.nd rfl rfl (by decide) rfl rfl
        (pa_cons (pe_tup (pa_cons (pe_call G2 hr (by rfl) m2 k2 b2 .nil pass0 (pa_cons (pv 1) (pa_cons (pv 2) pa_nil))) (pa_cons (pe_cmpR op_eq (pe_call G2 hr (by rfl) m2 k2 b2 .nil pass0 (pa_cons (pv 1) (pa_cons pe_int pa_nil))) pe_int (nomark _)) pa_nil)))
        (pa_cons (pe_tup (pa_cons (pe_call G2 hr (by rfl) m2 k2 b2 .nil pass0 (pa_cons (pv 1) (pa_cons (pv 2) pa_nil))) (pa_cons (pe_cmpR op_eq (pe_call G2 hr (by rfl) m2 k2 b2 .nil pass0 (pa_cons (pv 1) (pa_cons pe_int pa_nil))) pe_int (nomark _)) pa_nil))) pa_nil)) (by rfl))
      (pss_cons (ps_par (i := 7) (j := 8) (by rfl) scLaw.nd rfl rfl (by decide) rfl rfl (pa_cons (pe_Bdisp1 hr.units0 (pv 5) pe_str) (pa_cons (pe_lst (pa_cons (pv 5) pa_nil)) pa_nil)) (by rfl))
      (pss_cons (ps_while PassesOwn.never (pt_cmpR (op_neD hr.units) (pv 8) (pe_lst pa_nil) (nomark _))
        (pss_cons (ps_set (i := 9) scLaw.nd rfl (.inl rfl) (pe_lst pa_nil))
        (pss_cons (ps_for PassesOwn.never rfl (pi_list (pv 8)) (pg_name (i := 10) scLaw.nd rfl (Or.inl rfl))
          (pss_one (ps_for PassesOwn.never rfl (pi_list (pe_lst (pa_cons pe_str (pa_cons pe_str (pa_cons pe_str pa_nil))))) (pg_name (i := 11) scLaw.nd rfl (Or.inl rfl))
            (pss_cons (ps_set (i := 12) scLaw.nd rfl (.inl rfl) (pe_call G3 hr (by rfl) m3 k3 b3 .nil pass0 (pa_cons (pv 2) (pa_cons (pv 3) (pa_cons (pv 4) (pa_cons (pv 10) (pa_cons (pv 11) pa_nil)))))))
            (pss_one (ps_if (pt_cmp (pc_Bnotin hu (pv 12) (pv 7)))
              (pss_cons (ps_Bput hu (pv 7) (pv 12) (pe_op op_add_str (pe_Bget hu (pv 7) (pv 10) (fun _ _ => rfl)) (pv 11)) rfl)
              (pss_one (ps_expr (pe_bm PySem.F.plainAttrs_list PySem.F.slot_list_append PySem.F.type_list_append mt_append (pv 9) (pa_cons (pv 12) pa_nil))))) pss_nil))))))
        (pss_one (ps_set (i := 8) scLaw.nd rfl (.inl rfl) (pv 9))))))
      (pss_cons (ps_set (i := 13) scLaw.nd rfl (.inl rfl) (pe_call G4 hr (by rfl) m4 k4 b4 .nil pass0 (pa_cons (pv 2) (pa_cons (pv 3) (pa_cons (pv 4) (pa_cons (pv 5) (pa_cons (pv 6) pa_nil)))))))
      (pss_cons (ps_if (PW.pt (pw_or (pt_not (pt_val (pe_call G5 hr (by rfl) m5 k5 b5 .nil pass0 (pa_cons (pv 13) (pa_cons (pe_Bget2 hu (pv 7) (pv 6) pe_non ⟨rfl, rfl, rfl, rfl⟩) pa_nil)))))
          (pw_or1 (pt_not (pt_val (pe_call G5 hr (by rfl) m5 k5 b5 .nil pass0 (pa_cons (pe_call G6 hr (by rfl) m6 k6 b6 .nil pass0 (pa_cons (pv 2) (pa_cons (pv 3) (pa_cons (pv 4) pa_nil)))) (pa_cons (pe_callB call_lenB (by rfl) T.len PySem.boot_len (pa_cons (pv 7) pa_nil)) pa_nil))))))))
          (pss_one (ps_ret pe_bl)) pss_nil)
      (pss_cons (ps_if (pt_cmpR op_notN (pv 13) pe_non (nomark _))
          (pss_cons (ps_if (pt_cmpR (op_neD hr.units) (pe_call G7 hr (by rfl) m7 k7 b7 .nil pass0 (pa_cons (pv 2) (pa_cons (pv 3) (pa_cons (pv 4) (pa_cons (pv 5) (pa_cons (pv 13) pa_nil)))))) (pv 6) (nomark _)) (pss_one (ps_ret pe_bl)) pss_nil)
          (pss_one (ps_lock (ps_for PassesOwn.never rfl (pi_Bkeys (pv 7)) (pg_name (i := 10) scLaw.nd rfl (Or.inl rfl))
            (pss_one (ps_for PassesOwn.never rfl (pi_list (pe_lst (pa_cons pe_str (pa_cons pe_str (pa_cons pe_str pa_nil))))) (pg_name (i := 11) scLaw.nd rfl (Or.inl rfl))
              (pss_one (ps_if (PW.pt (pw_and (pt_cmpR op_eq (pe_callB call_len_str (by rfl) T.len PySem.boot_len (pa_cons (pe_Bget hu (pv 7) (pv 10) (fun _ _ => rfl)) pa_nil)) (pe_op op_sub (pe_callB call_len_str (by rfl) T.len PySem.boot_len (pa_cons (pv 13) pa_nil)) pe_int) (nomark _))
                (pw_and (pt_cmpR (op_eqD hr.units) (pe_call G3 hr (by rfl) m3 k3 b3 .nil pass0 (pa_cons (pv 2) (pa_cons (pv 3) (pa_cons (pv 4) (pa_cons (pv 10) (pa_cons (pv 11) pa_nil)))))) (pv 6) (nomark _))
                (pw_and1 (pt_cmpR op_lt_str (pe_op op_add_str (pe_Bget hu (pv 7) (pv 10) (fun _ _ => rfl)) (pv 11)) (pv 13) (nomark _))))))
                (pss_one (ps_ret pe_bl)) pss_nil)))))))) pss_nil)
      (pss_one (ps_ret pe_bl))))))))), ?_⟩
    -- row = [script, 0, 4283, 0]
    refine ⟨.ref sa, rfl, by show 4 ≤ sizeLine; decide, fun ra hra => ?_⟩
    have R0 : RowAt K H (upd H ra (rowO sa 0 4283 0)) ra sa ns 0 4283 0 := ⟨hS, same_new hra, hra, upd_same, by decide, by decide⟩
    -- many, third, fifth = triads(row)
    refine ⟨.ref ra, rfl, H, ra, sa, ns, 0, 4283, 0, rfl, R0, fun H1 p n t f i1 x1 y1 R1 hp S => ?_⟩
    refine ⟨p, _, rfl, SqT.of hp, rfl, .int n, _, rfl, .int t, _, rfl, .int f, [], rfl, rfl, ?_⟩
    have n3 := S.n3
    have n60 := S.n60
    have hn : 0 < (n : Int) := by omega
    -- one, other = ..
    refine ⟨.ref ra, rfl, .int n, rfl, H, ra, sa, ns, _, _, _, n, rfl, R1, by omega, by omega, fun c1 i2 x2 y2 H2 h2 _ R2 => ?_⟩
    refine ⟨.ref ra, rfl, H, ra, sa, ns, _, _, _, 2, rfl, R2, by decide, by decide, fun c2 i3 x3 y3 H3 h3 _ R3 => ⟨rfl, by show 2 ≤ sizeLine; decide, fun a ha => ?_⟩⟩
    obtain ⟨kk, hkk⟩ : ∃ kk : Tri, kk = ((c1 : Int), decide (V.int (c2 : Int) = V.int 0)) := ⟨_, rfl⟩
    have R3' := R3.keep (same_new (o := .tup (triV kk)) ha)
    have hc : 0 ≤ kk.1 ∧ kk.1 < (n : Int) := by rw [hkk]; exact ⟨by show (0 : Int) ≤ c1; omega, h2⟩
    have ea : upd H3 a (.tup [.int c1, .bl (decide (V.int (c2 : Int) = V.int 0))]) = upd H3 a (.tup (triV kk)) := by rw [hkk]; rfl
    rw [ea]
    refine ⟨.ref ra, rfl, .int n, rfl, H, ra, sa, ns, _, _, _, n, rfl, R3', by omega, by omega, fun c3 i4 x4 y4 H4 h4 e4 R4 => ?_⟩
    have har : a ≠ ra := fun z => by rw [z, R3.row] at ha; exact nomatch ha
    have ha4 : H4 a = some (.tup (triV kk)) := by rw [e4, upd_ne har, upd_same]
    refine ⟨.ref ra, rfl, H, ra, sa, ns, _, _, _, 2, rfl, R4, by decide, by decide, fun c4 i5 x5 y5 H5 h5 e5 R5 => ⟨rfl, by show 2 ≤ sizeLine; decide, fun b hb => ⟨_, _, rfl, ?_⟩⟩⟩
    have ha5 : H5 a = some (.tup (triV kk)) := by rw [e5, upd_ne har, ha4]
    obtain ⟨k1', hk1⟩ : ∃ kk : Tri, kk = ((c3 : Int), decide (V.int (c4 : Int) = V.int 0)) := ⟨_, rfl⟩
    have hc1 : 0 ≤ k1'.1 ∧ k1'.1 < (n : Int) := by rw [hk1]; exact ⟨by show (0 : Int) ≤ c3; omega, h4⟩
    have eb : upd H5 b (.tup [.int c3, .bl (decide (V.int (c4 : Int) = V.int 0))]) = upd H5 b (.tup (triV k1')) := by rw [hk1]; rfl
    rw [eb]
    obtain ⟨Hb, hHb⟩ : ∃ Hb, Hb = upd H5 b (.tup (triV k1')) := ⟨_, rfl⟩
    have ha6 : Hb a = some (.tup (triV kk)) := by rw [hHb]; exact same_new hb _ _ ha5
    have hb6 : Hb b = some (.tup (triV k1')) := by rw [hHb]; exact upd_same
    rw [← hHb]
    clear eb ea hkk hk1 e4 e5 R0 R1 R2 R3 R3' R4 R5 hHb hS ha hb ha4 ha5 hp hra har h2 h3 h4 h5
    -- known, rim = {one: ""}, [one]
    intro d hd
    refine ⟨.ref a, rfl, a, kk, rfl, same_new hd _ _ ha6, upd_same, ?_⟩
    refine ⟨.ref a, rfl, by show 1 ≤ sizeLine; decide, fun r hr0 => ⟨_, _, rfl, ?_⟩⟩
    rw [upd_upd] at hr0 ⊢
    -- the loop
    refine ⟨fun m σ H' => ∃ i r ras y9 y10 y11 y12 y13, σ = [some (.ref sa), some (.ref ra), some (.int n), some (.int t), some (.int f), some (.ref a), some (.ref b), some (.ref d), some (.ref r), y9, y10, y11, y12, y13] ∧
      m = size n (runs n t f kk i) ∧ WS P w Hb d r ras (runs n t f kk i) H', ⟨_, 0, r, [a], none, none, none, none, none, rfl, rfl, ?_⟩, ?_⟩
    · have s1 := same_new (o := oB P w d [(kk, a, .str "")]) hd
      have s2 := same_new (o := .lst [.ref a]) hr0
      refine ⟨s1.trans s2, hd, upd_same, .cons (s2 _ _ (s1 _ _ ha6)) .nil, [(kk, a, .str "")], s2 _ _ upd_same, fun y hy => ?_, .cons ⟨rfl, by rw [wNil]⟩ .nil⟩
      cases List.mem_singleton.mp hy
      exact s2 _ _ (s1 _ _ ha6)
    · rintro m σ H1 ⟨i, r, ras, y9, y10, y11, y12, y13, rfl, rfl, L⟩
      refine ⟨.ref r, rfl, Nat.zero_le _, fun x hx => ?_⟩
      have Z1 := L.new (o := .lst []) hx
      refine ⟨_, _, .lst (SqL.of Z1.hr) (dp_tris Z1.rm), .lst (SqL.of upd_same) .nil, shaped_tris _, shaped_nil, _, rfl, ?_⟩
      rw [eqv_nil]
      by_cases hne : (runs n t f kk i).2 ≠ []
      · rw [decide_eq_true hne]
        -- one layer
        refine ⟨fun σ' H' => ∃ r ras y10 y11 y12 y13, σ' = [some (.ref sa), some (.ref ra), some (.int n), some (.int t), some (.int f), some (.ref a), some (.ref b), some (.ref d), some (.ref r), some (.ref r), y10, y11, y12, y13] ∧
          WS P w Hb d r ras (runs n t f kk (i + 1)) H', ?_, ?_⟩
        · rintro σ' H' ⟨r, ras, y10, y11, y12, y13, rfl, L'⟩
          exact ⟨_, size_lay hn hc i hne, i + 1, r, ras, _, _, _, _, _, rfl, rfl, L'⟩
        refine ⟨Nat.zero_le _, fun l hl => ?_⟩
        have Z2 := Z1.begin hl
        -- for told in rim
        refine ⟨.ref r, rfl, r, rfl, ⟨_, SqL.of Z2.hr⟩, for_list (K := K) (a := r) (xs := ras.map V.ref) (fun j σ H' => ∃ y10 y11 y12 y13, σ = [some (.ref sa), some (.ref ra), some (.int n), some (.int t), some (.int f), some (.ref a), some (.ref b), some (.ref d), some (.ref r), some (.ref l), y10, y11, y12, y13] ∧
          LS P w Hb d r l ras (runs n t f kk i).2 (parts n t f (runs n t f kk i).1 (runs n t f kk i).2 j) H') ⟨_, _, _, _, rfl, Z2⟩ (fun j σ H' _ ⟨_, _, _, _, _, Z3⟩ => SqL.of Z3.hr) ?_ ?_⟩
        · rintro j x σ H3 hj ⟨y10, y11, y12, y13, rfl, Z3⟩
          obtain ⟨ta, hta, rfl⟩ : ∃ ta, ras[j]? = some ta ∧ x = .ref ta := by
            rw [List.getElem?_map] at hj
            obtain ⟨ta, h1, h2⟩ := Option.map_eq_some_iff.mp hj
            exact ⟨ta, h1, h2.symm⟩
          obtain ⟨tk, htk, _⟩ := paired_get Z3.rm hta
          -- for move in [..]
          refine ⟨by show 3 ≤ sizeLine; decide, fun ml hml => ?_⟩
          have Z3' := Z3.new (o := .lst lpr) hml
          refine ⟨ml, rfl, ⟨_, SqL.of upd_same⟩, for_list (K := K) (a := ml) (xs := lpr) (fun v σ H' => ∃ y11 y12 y13, σ = [some (.ref sa), some (.ref ra), some (.int n), some (.int t), some (.int f), some (.ref a), some (.ref b), some (.ref d), some (.ref r), some (.ref l), some (.ref ta), y11, y12, y13] ∧
            LS P w Hb d r l ras (runs n t f kk i).2 (part n t f tk (parts n t f (runs n t f kk i).1 (runs n t f kk i).2 j) v) H' ∧ H' ml = some (.lst lpr) ∧ ml ≠ l) ⟨_, _, _, rfl, Z3', upd_same, ?_⟩ (fun v σ H' _ ⟨_, _, _, _, _, e, _⟩ => SqL.of e) ?_ ?_⟩
          · obtain ⟨_, _, _, _, _, g4, _⟩ := Z3.ex
            exact fun z => by rw [z, g4] at hml; exact nomatch hml
          · rintro v x σ H4 hx4 ⟨y11, y12, y13, rfl, Z4, eml, nml⟩
            obtain ⟨mm, hm, rfl⟩ := lpr_at hx4
            have hv3 : v < 3 := (List.getElem?_eq_some_iff.mp hm).1
            obtain ⟨f1, f2, u, f3, f4⟩ := mid_facts (t := (t : Int)) (f := (f : Int)) hn hc i htk (Nat.le_of_lt hv3)
            obtain ⟨tk2, htk2, etk⟩ := paired_get Z4.rm hta
            rw [htk] at htk2
            cases htk2
            -- more = move(..)
            refine ⟨.int n, rfl, .int t, rfl, .int f, rfl, .ref ta, rfl, .str (sgS mm), rfl, n, t, f, ta, tk, mm, rfl, by omega, etk, fun p hp => ?_⟩
            have Z5 := Z4.new (o := .tup (triV (mv n t f tk mm))) hp
            have etk5 := same_new (o := .tup (triV (mv n t f tk mm))) hp _ _ etk
            have eml5 := same_new (o := .tup (triV (mv n t f tk mm))) hp _ _ eml
            obtain ⟨zs, las, g1, g2, g3, g4, g5⟩ := Z5.ex
            refine ⟨.ref p, rfl, .ref d, rfl, d, p, zs, mv n t f tk mm, rfl, rfl, ⟨.inl g1, g2⟩, upd_same, _, rfl, ?_⟩
            rw [g3.isSome]
            have next : ∀ y11 y12 y13 H', LS P w Hb d r l ras (runs n t f kk i).2 (stp n t f tk (part n t f tk (parts n t f (runs n t f kk i).1 (runs n t f kk i).2 j) v) mm) H' → H' ml = some (.lst lpr) →
                ∃ y11' y12' y13', ([some (.ref sa), some (.ref ra), some (.int n), some (.int t), some (.int f), some (.ref a), some (.ref b), some (.ref d), some (.ref r), some (.ref l), some (.ref ta), y11, y12, y13] : L2.St) =
                    [some (.ref sa), some (.ref ra), some (.int n), some (.int t), some (.int f), some (.ref a), some (.ref b), some (.ref d), some (.ref r), some (.ref l), some (.ref ta), y11', y12', y13'] ∧
                  LS P w Hb d r l ras (runs n t f kk i).2 (part n t f tk (parts n t f (runs n t f kk i).1 (runs n t f kk i).2 j) (v + 1)) H' ∧ H' ml = some (.lst lpr) ∧ ml ≠ l := fun y11 y12 y13 H' L' e => ⟨y11, y12, y13, rfl, by rw [part_succ _ _ hm]; exact L', e, nml⟩
            by_cases hs : (look (part n t f tk (parts n t f (runs n t f kk i).1 (runs n t f kk i).2 j) v).1 (mv n t f tk mm)).isSome = true
            · rw [hs]
              exact next _ _ _ _ (Z5.skip hs) eml5
            · rw [Bool.eq_false_iff.mpr hs]
              have hs' : look (part n t f tk (parts n t f (runs n t f kk i).1 (runs n t f kk i).2 j) v).1 (mv n t f tk mm) = none := by
                cases z : look (part n t f tk (parts n t f (runs n t f kk i).1 (runs n t f kk i).2 j) v).1 (mv n t f tk mm) with
                | none => rfl
                | some _ => rw [z] at hs; exact absurd rfl hs
              have hv5 : valB zs tk = some (.str (wordS u)) := by
                rw [g3.val, f3]
                rfl
              have hwl : (wordS u).length + (sgS mm).length ≤ sizeLine := by
                rw [wordS_len]
                show u.length + 1 ≤ sizeLine
                exact Nat.le_of_lt (small1000 (by omega))
              have hzl : zs.length < sizeLine := by
                rw [← g3.len]
                exact small1000 (by omega)
              have hll : (las.map V.ref).length < sizeLine := by
                rw [List.length_map, Paired.length g5]
                exact small1000 (by omega)
              refine ⟨.ref d, rfl, .ref ta, rfl, d, ta, zs, tk, _, rfl, rfl, ⟨.inl g1, g2⟩, etk5, hv5, .str (sgS mm), rfl, wordS u, sgS mm, rfl, rfl, hwl, .ref d, rfl, .ref p, rfl, d, p, zs, mv n t f tk mm, rfl, rfl, g1, g2, upd_same, hzl, ?_⟩
              have hld : l ≠ d := ne_of g4 g1 (by intro z; exact nomatch z)
              have hmd : ml ≠ d := ne_of eml5 g1 (by intro z; exact nomatch z)
              rw [wordS_snoc]
              refine ⟨.ref l, rfl, .inl ⟨rfl, _, SqL.of (Eq.trans (upd_ne hld) g4)⟩, .ref p, rfl, l, _, _, rfl, rfl, Eq.trans (upd_ne hld) g4, hll, ?_⟩
              exact next _ _ _ _ (Z5.put g1 g2 g3 g4 g5 upd_same hs' f3) (by rw [upd_ne nml, upd_ne hmd]; exact eml5)
          · rintro σ H4 ⟨y11, y12, y13, rfl, Z4, _, _⟩
            refine ⟨_, _, _, _, rfl, ?_⟩
            rw [parts_succ _ _ htk]
            exact Z4
        · -- rim = later
          rintro σ H3 ⟨y10, y11, y12, y13, rfl, Z3⟩
          have hl2 : (runs n t f kk i).2.length = ras.length := (Paired.length Z3.rm).symm
          rw [List.length_map, parts_all _ _ (Nat.le_of_eq hl2)] at Z3
          obtain ⟨las, Z4⟩ := Z3.done
          exact ⟨.ref l, rfl, l, las, _, _, _, _, rfl, Z4⟩
      · rw [decide_eq_false hne]
        have hend : (runs n t f kk i).2 = [] := Classical.not_not.mp hne
        have X := fnd_of (N := n) (T := t) (F := f) (by omega) hc hend
        obtain ⟨H2, hH2⟩ : ∃ H2, H2 = upd H1 x (.lst []) := ⟨_, rfl⟩
        rw [← hH2] at Z1 ⊢
        clear hH2 hx L
        obtain ⟨ys, e1, e2, e3⟩ := Z1.ex
        have ha7 := Z1.same _ _ ha6
        have hb7 := Z1.same _ _ hb6
        -- found = least_moves(..)
        refine ⟨.int n, rfl, .int t, rfl, .int f, rfl, .ref a, rfl, .ref b, rfl, n, t, f, a, b, kk, k1', rfl, S, ha7, hb7, hc, hc1, fun H3 j s3 hj => ?_⟩
        rw [runs_look hend hj]
        obtain ⟨kn, hkn⟩ : ∃ kn, kn = (runs n t f kk i).1 := ⟨_, rfl⟩
        rw [← hkn] at X e3 ⊢
        have d3 := s3 _ _ e1
        have y3 : KeysB H3 ys := e2.keeps fun a xs => s3 a _
        have b3' := s3 _ _ hb7
        have a3' := s3 _ _ ha7
        -- alike(found, known.get(other, None))
        have ev : (valB ys k1').getD .non = oW (look kn k1') := by
          rw [e3.val]
          cases look kn k1' <;> rfl
        have kinds : oW (look kn k1') = .non ∨ (∃ z, oW (look kn k1') = .str z) ∨ ∃ i, oW (look kn k1') = .int i := by
          cases look kn k1' with
          | none => exact .inl rfl
          | some v => exact .inr (.inl ⟨_, rfl⟩)
        refine ⟨oW (look kn k1'), rfl, .ref d, rfl, d, ys, rfl, ⟨.inl d3, y3⟩, .ref b, rfl, b, k1', rfl, ⟨.inl d3, y3⟩, b3', oW (look kn k1'), ?_, kinds, fun H4 s4 => ⟨true, rfl, iteF ?_⟩⟩
        · rw [ev]
          rfl
        have d4 := s4 _ _ d3
        have y4 : KeysB H4 ys := y3.keeps fun a xs => s4 a _
        have b4' := s4 _ _ b3'
        have a4' := s4 _ _ a3'
        -- alike(reached(..), len(known))
        refine ⟨.int n, rfl, .int t, rfl, .int f, rfl, n, t, f, rfl, S, .ref d, rfl, d, ys, rfl, ⟨.inl d4, y4⟩, .int ((kn.length : Nat) : Int), ?_, .inr (.inr ⟨_, rfl⟩), fun H5 s5 => ⟨true, rfl, iteF ?_⟩⟩
        · rw [← X.cnt, ← e3.len]
          rfl
        have d5' := s5 _ _ d4
        have y5 : KeysB H5 ys := y4.keeps fun a xs => s5 a _
        have b5' := s5 _ _ b4'
        have a5' := s5 _ _ a4'
        -- if found is not None
        cases hv : look kn k1' with
        | none =>
          refine ⟨.non, rfl, rfl, _, rfl, ?_⟩
          exact q _
        | some v =>
          refine ⟨.str (wordS v), rfl, rfl, _, rfl, ?_⟩
          have hmem := look_mem hv
          have hvl := X.ln _ hmem
          dsimp only at hvl
          -- walk(..) != other
          refine ⟨.int n, rfl, .int t, rfl, .int f, rfl, .ref a, rfl, .str (wordS v), rfl, n, t, f, a, kk, v, rfl, S, a5', hc, by omega, fun H6 p6 s6 e6 => ?_⟩
          have hw : wlk n t f kk v = k1' := X.wk _ hmem
          rw [hw] at e6
          have d6' := s6 _ _ d5'
          have y6 : KeysB H6 ys := y5.keeps fun a xs => s6 a _
          have b6' := s6 _ _ b5'
          refine ⟨.ref b, rfl, _, _, dp_tri e6, dp_tri b6', shaped_tri _, shaped_tri _, _, rfl, ?_⟩
          rw [eqv_tri, decide_eq_true rfl]
          refine iteF ?_
          -- for told in known
          refine ⟨d, oB P w d ys, d6', True.intro, fun od => ?_⟩
          have hbd : b ≠ d := ne_of b6' d6' (by intro z; exact nomatch z)
          have k6 : ∀ c xs, H6 c = some (.tup xs) → (upd H6 d (.frz od (oB P w d ys))) c = some (.tup xs) := fun c xs e => by
            rw [upd_ne (ne_of e d6' (by intro z; exact nomatch z))]
            exact e
          refine ⟨.ref d, rfl, d, od, ys, rfl, upd_same, for_it walk_Bkeys (fun v' σ H' => ∃ y10 y11, σ = [some (.ref sa), some (.ref ra), some (.int n), some (.int t), some (.int f), some (.ref a), some (.ref b), some (.ref d), some (.ref r), y9, y10, y11, y12, some (.str (wordS v))] ∧
            H' d = some (.frz od (oB P w d ys)) ∧ KeysB H' ys ∧ H' b = some (.tup (triV k1'))) ⟨_, _, rfl, upd_same, y6.keeps k6, k6 _ _ b6'⟩ (fun _ _ _ _ ⟨_, _, _, e, _⟩ => e) ?_ ?_⟩
          · rintro v' x σ H7 H8 hi7 ⟨y10, y11, rfl, d7', y7, b7'⟩ ⟨rfl, y, hy, rfl⟩
            obtain ⟨en, hen, ey1, ey2⟩ := e3.at hy
            have hky : H8 y.2.1 = some (.tup (triV en.1)) := by
              rw [← ey1]
              exact y7 y (List.mem_of_getElem? hy)
            have hval : valB ys en.1 = some (.str (wordS en.2)) := by
              rw [e3.val, look_of_mem X.nd (show (en.1, en.2) ∈ kn from hen)]
              rfl
            have hel := X.ln _ hen
            -- for move in [..]
            refine ⟨by show 3 ≤ sizeLine; decide, fun ml hml => ?_⟩
            have nw := same_new (o := .lst lpr) hml
            refine ⟨ml, rfl, ⟨_, SqL.of upd_same⟩, for_list (K := K) (a := ml) (xs := lpr) (fun u σ H' => ∃ y11, σ = [some (.ref sa), some (.ref ra), some (.int n), some (.int t), some (.int f), some (.ref a), some (.ref b), some (.ref d), some (.ref r), y9, some (.ref y.2.1), y11, y12, some (.str (wordS v))] ∧
              H' d = some (.frz od (oB P w d ys)) ∧ KeysB H' ys ∧ H' b = some (.tup (triV k1')) ∧ H' ml = some (.lst lpr)) ⟨_, rfl, nw _ _ d7', y7.keeps fun a xs => nw a _, nw _ _ b7', upd_same⟩ (fun _ _ _ _ ⟨_, _, _, _, _, e⟩ => SqL.of e) ?_ ?_⟩
            · rintro u x σ H9 hx9 ⟨y11, rfl, d9, y9', b9, eml⟩
              obtain ⟨mm, hm, rfl⟩ := lpr_at hx9
              have hk9 : H9 y.2.1 = some (.tup (triV en.1)) := by
                rw [← ey1]
                exact y9' y (List.mem_of_getElem? hy)
              have isb : IsB P w H9 d ys := ⟨.inr ⟨od, d9⟩, y9'⟩
              have le1 : (wordS en.2).length ≤ sizeLine := by
                rw [wordS_len]
                exact Nat.le_of_lt (small1000 (by omega))
              have le2 : (wordS v).length ≤ sizeLine := by
                rw [wordS_len]
                exact Nat.le_of_lt (small1000 (by omega))
              have next : ∀ H', Same H9 H' → ∃ y11', ([some (.ref sa), some (.ref ra), some (.int n), some (.int t), some (.int f), some (.ref a), some (.ref b), some (.ref d), some (.ref r), y9, some (.ref y.2.1), some (.str (sgS mm)), y12, some (.str (wordS v))] : L2.St) =
                  [some (.ref sa), some (.ref ra), some (.int n), some (.int t), some (.int f), some (.ref a), some (.ref b), some (.ref d), some (.ref r), y9, some (.ref y.2.1), y11', y12, some (.str (wordS v))] ∧
                  H' d = some (.frz od (oB P w d ys)) ∧ KeysB H' ys ∧ H' b = some (.tup (triV k1')) ∧ H' ml = some (.lst lpr) := fun H' s => ⟨_, rfl, s _ _ d9, y9'.keeps fun a xs => s a _, s _ _ b9, s _ _ eml⟩
              refine ⟨.ref d, rfl, .ref y.2.1, rfl, d, y.2.1, ys, en.1, _, rfl, rfl, isb, hk9, hval, wordS en.2, rfl, le1, .str (wordS v), rfl, wordS v, rfl, le2, _, 1, rfl, rfl, rfl, _, rfl, ?_⟩
              by_cases hA : V.int ((wordS en.2).length : Int) = V.int (((wordS v).length : Int) - 1)
              · rw [decide_eq_true hA]
                refine iteT ⟨.int n, rfl, .int t, rfl, .int f, rfl, .ref y.2.1, rfl, .str (sgS mm), rfl, n, t, f, y.2.1, en.1, mm, rfl, by omega, hk9, fun p hp => ?_⟩
                have nw9 := same_new (o := .tup (triV (mv n t f en.1 mm))) hp
                refine ⟨.ref b, rfl, _, _, dp_tri upd_same, dp_tri (nw9 _ _ b9), shaped_tri _, shaped_tri _, _, rfl, ?_⟩
                rw [eqv_tri]
                by_cases hB : mv n t f en.1 mm = k1'
                · rw [decide_eq_true hB]
                  refine iteT ⟨.ref d, rfl, .ref y.2.1, rfl, d, y.2.1, ys, en.1, _, rfl, rfl, ⟨.inr ⟨od, nw9 _ _ d9⟩, y9'.keeps fun a xs => nw9 a _⟩, nw9 _ _ hk9, hval, .str (sgS mm), rfl, wordS en.2, sgS mm, rfl, rfl, ?_, .str (wordS v), rfl, _, wordS v, rfl, rfl, _, rfl, ?_⟩
                  · rw [wordS_len]
                    show en.2.length + 1 ≤ sizeLine
                    exact Nat.le_of_lt (small1000 (by omega))
                  · have hA2 : (en.2.length : Int) = (v.length : Int) - 1 := by
                      injection hA with hA
                      rw [wordS_len, wordS_len] at hA
                      exact hA
                    have := X.least hv hen hB hA2
                    rw [wordS_snoc, decide_eq_false this]
                    exact iteF (next _ nw9)
                · rw [decide_eq_false hB]
                  exact iteF (next _ nw9)
              · rw [decide_eq_false hA]
                exact iteF (next _ (Same.refl _))
            · rintro σ H9 ⟨y11, rfl, d9, y9', b9, eml⟩
              exact ⟨_, _, rfl, d9, y9', b9⟩
          · rintro σ H7 ⟨y10, y11, rfl, d7', y7, b7'⟩
            refine ⟨d7', ?_⟩
            exact q _
end
end SM

/-! what the top has written; the last theorem -/
namespace SM
open PySem PySem.Spec PyProof.Rows L2
theorem all_mk {l : PySem.W.OpenLaw} {w : World} {K : PySem.W.Frag} {h : Heap} {mg : Str → Option Value} {fa : Addr} (X : K.In h) (G : h.Ns mainGlobals mg) (hfa : mg "law" = some (.ref fa))
    {f1 f2 f3 f4 f5 f6 f7 f8 f9 f10 f11 f12 f13 f14 f15 f16 : Addr} {od1 an1 od2 an2 od3 an3 od4 an4 od5 an5 od6 an6 od7 an7 od8 an8 od9 an9 od10 an10 od11 an11 od12 an12 od13 an13 od14 an14 od15 an15 od16 an16 : Option Addr} {sl1 sl2 sl3 sl4 sl5 sl6 sl7 sl8 sl9 sl10 sl11 sl12 sl13 sl14 sl15 sl16 : Array (Option Value)} {oc1 kV1 dc1 pm1 cd1 ct1 oc2 kV2 dc2 pm2 cd2 ct2 oc3 kV3 dc3 pm3 cd3 ct3 oc4 kV4 dc4 pm4 cd4 ct4 oc5 kV5 dc5 pm5 cd5 ct5 oc6 kV6 dc6 pm6 cd6 ct6 oc7 kV7 dc7 pm7 cd7 ct7 oc8 kV8 dc8 pm8 cd8 ct8 oc9 kV9 dc9 pm9 cd9 ct9 oc10 kV10 dc10 pm10 cd10 ct10 oc11 kV11 dc11 pm11 cd11 ct11 oc12 kV12 dc12 pm12 cd12 ct12 oc13 kV13 dc13 pm13 cd13 ct13 oc14 kV14 dc14 pm14 cd14 ct14 oc15 kV15 dc15 pm15 cd15 ct15 oc16 kV16 dc16 pm16 cd16 ct16 : Value} {t60 t200 : Tok}
    (a1 : PySem.W.nsIn K mainGlobals "is_int" = some (some (.ref f1))) (l1 : K.lookup f1 = some ⟨oc1, od1, .func (PySem.W.fnOf "is_int" "is_int" (defArgs sIsInt) (defBody sIsInt) (defScope sIsInt) .none kV1 dc1 pm1 an1 cd1 ct1), sl1⟩) (c1 : PySem.W.codeIn K cd1 "is_int" = true) (k1 : PySem.W.keepIn K (.ref f1) = true)
    (a2 : PySem.W.nsIn K mainGlobals "is_in" = some (some (.ref f2))) (l2 : K.lookup f2 = some ⟨oc2, od2, .func (PySem.W.fnOf "is_in" "is_in" (defArgs sIsIn) (defBody sIsIn) (defScope sIsIn) .none kV2 dc2 pm2 an2 cd2 ct2), sl2⟩) (c2 : PySem.W.codeIn K cd2 "is_in" = true) (k2 : PySem.W.keepIn K (.ref f2) = true)
    (a3 : PySem.W.nsIn K mainGlobals "common" = some (some (.ref f3))) (l3 : K.lookup f3 = some ⟨oc3, od3, .func (PySem.W.fnOf "common" "common" (defArgs sCommon) (defBody sCommon) (defScope sCommon) .none kV3 dc3 pm3 an3 cd3 ct3), sl3⟩) (c3 : PySem.W.codeIn K cd3 "common" = true) (k3 : PySem.W.keepIn K (.ref f3) = true)
    (a4 : PySem.W.nsIn K mainGlobals "need_shape" = some (some (.ref f4))) (l4 : K.lookup f4 = some ⟨oc4, od4, .func (PySem.W.fnOf "need_shape" "need_shape" (defArgs sShape) (defBody sShape) (defScope sShape) .none kV4 dc4 pm4 an4 cd4 ct4), sl4⟩) (c4 : PySem.W.codeIn K cd4 "need_shape" = true) (k4 : PySem.W.keepIn K (.ref f4) = true)
    (a5 : PySem.W.nsIn K mainGlobals "need_triad" = some (some (.ref f5))) (l5 : K.lookup f5 = some ⟨oc5, od5, .func (PySem.W.fnOf "need_triad" "need_triad" (defArgs sTriad) (defBody sTriad) (defScope sTriad) .none kV5 dc5 pm5 an5 cd5 ct5), sl5⟩) (c5 : PySem.W.codeIn K cd5 "need_triad" = true) (k5 : PySem.W.keepIn K (.ref f5) = true)
    (a6 : PySem.W.nsIn K mainGlobals "move_of" = some (some (.ref f6))) (l6 : K.lookup f6 = some ⟨oc6, od6, .func (PySem.W.fnOf "move_of" "move_of" (defArgs sMove) (defBody sMove) (defScope sMove) .none kV6 dc6 pm6 an6 cd6 ct6), sl6⟩) (c6 : PySem.W.codeIn K cd6 "move_of" = true) (k6 : PySem.W.keepIn K (.ref f6) = true)
    (a7 : PySem.W.nsIn K mainGlobals "need_moves" = some (some (.ref f7))) (l7 : K.lookup f7 = some ⟨oc7, od7, .func (PySem.W.fnOf "need_moves" "need_moves" (defArgs sMoves) (defBody sMoves) (defScope sMoves) .none kV7 dc7 pm7 an7 cd7 ct7), sl7⟩) (c7 : PySem.W.codeIn K cd7 "need_moves" = true) (k7 : PySem.W.keepIn K (.ref f7) = true)
    (a8 : PySem.W.nsIn K mainGlobals "walked" = some (some (.ref f8))) (l8 : K.lookup f8 = some ⟨oc8, od8, .func (PySem.W.fnOf "walked" "walked" (defArgs sWalked) (defBody sWalked) (defScope sWalked) .none kV8 dc8 pm8 an8 cd8 ct8), sl8⟩) (c8 : PySem.W.codeIn K cd8 "walked" = true) (k8 : PySem.W.keepIn K (.ref f8) = true)
    (a9 : PySem.W.nsIn K mainGlobals "walk" = some (some (.ref f9))) (l9 : K.lookup f9 = some ⟨oc9, od9, .func (PySem.W.fnOf "walk" "walk" (defArgs sWalk) (defBody sWalk) (defScope sWalk) .none kV9 dc9 pm9 an9 cd9 ct9), sl9⟩) (c9 : PySem.W.codeIn K cd9 "walk" = true) (k9 : PySem.W.keepIn K (.ref f9) = true)
    (a10 : PySem.W.nsIn K mainGlobals "least_moves" = some (some (.ref f10))) (l10 : K.lookup f10 = some ⟨oc10, od10, .func (PySem.W.fnOf "least_moves" "least_moves" (defArgs sLeast) (defBody sLeast) (defScope sLeast) .none kV10 dc10 pm10 an10 cd10 ct10), sl10⟩) (c10 : PySem.W.codeIn K cd10 "least_moves" = true) (k10 : PySem.W.keepIn K (.ref f10) = true)
    (a11 : PySem.W.nsIn K mainGlobals "reached" = some (some (.ref f11))) (l11 : K.lookup f11 = some ⟨oc11, od11, .func (PySem.W.fnOf "reached" "reached" (defArgs sReached) (defBody sReached) (defScope sReached) .none kV11 dc11 pm11 an11 cd11 ct11), sl11⟩) (c11 : PySem.W.codeIn K cd11 "reached" = true) (k11 : PySem.W.keepIn K (.ref f11) = true)
    (a12 : PySem.W.nsIn K mainGlobals "_law_taken" = some (some (.ref f12))) (l12 : K.lookup f12 = some ⟨oc12, od12, .func (PySem.W.fnOf "_law_taken" "_law_taken" (defArgs sTaken) (defBody sTaken) (defScope sTaken) .none kV12 dc12 pm12 an12 cd12 ct12), sl12⟩) (c12 : PySem.W.codeIn K cd12 "_law_taken" = true) (k12 : PySem.W.keepIn K (.ref f12) = true)
    (a13 : PySem.W.nsIn K mainGlobals "_law_alike" = some (some (.ref f13))) (l13 : K.lookup f13 = some ⟨oc13, od13, .func (PySem.W.fnOf "_law_alike" "_law_alike" (defArgs sAlike) (defBody sAlike) (defScope sAlike) .none kV13 dc13 pm13 an13 cd13 ct13), sl13⟩) (c13 : PySem.W.codeIn K cd13 "_law_alike" = true) (k13 : PySem.W.keepIn K (.ref f13) = true)
    (a14 : PySem.W.nsIn K mainGlobals "_law_move" = some (some (.ref f14))) (l14 : K.lookup f14 = some ⟨oc14, od14, .func (PySem.W.fnOf "_law_move" "_law_move" (defArgs sLMove) (defBody sLMove) (defScope sLMove) .none kV14 dc14 pm14 an14 cd14 ct14), sl14⟩) (c14 : PySem.W.codeIn K cd14 "_law_move" = true) (k14 : PySem.W.keepIn K (.ref f14) = true)
    (a15 : PySem.W.nsIn K mainGlobals "_law_triads" = some (some (.ref f15))) (l15 : K.lookup f15 = some ⟨oc15, od15, .func (PySem.W.fnOf "_law_triads" "_law_triads" (defArgs sLTriads) (defBody sLTriads) (defScope sLTriads) .none kV15 dc15 pm15 an15 cd15 ct15), sl15⟩) (c15 : PySem.W.codeIn K cd15 "_law_triads" = true) (k15 : PySem.W.keepIn K (.ref f15) = true)
    (a16 : PySem.W.nsIn K mainGlobals "law" = some (some (.ref f16))) (l16 : K.lookup f16 = some ⟨oc16, od16, .func (PySem.W.fnOf "law" "law" (defArgs sLaw) (defBody sLaw) (defScope sLaw) .none kV16 dc16 pm16 an16 cd16 ct16), sl16⟩) (c16 : PySem.W.codeIn K cd16 "law" = true) (k16 : PySem.W.keepIn K (.ref f16) = true)
    (z0 : PySem.W.nsIn K mainGlobals "isinstance" = some none) (z1 : PySem.W.nsIn K mainGlobals "int" = some none) (z2 : PySem.W.nsIn K mainGlobals "bool" = some none) (z3 : PySem.W.nsIn K mainGlobals "str" = some none) (z4 : PySem.W.nsIn K mainGlobals "tuple" = some none) (z5 : PySem.W.nsIn K mainGlobals "list" = some none) (z6 : PySem.W.nsIn K mainGlobals "len" = some none) (z7 : PySem.W.nsIn K mainGlobals "abs" = some none) (z8 : PySem.W.nsIn K mainGlobals "all" = some none) (z9 : PySem.W.nsIn K mainGlobals "range" = some none)
    (y1 : PySem.W.nsIn K mainGlobals "MOST_STEPS" = some (some (.int 60 t60))) (y2 : PySem.W.nsIn K mainGlobals "MOST_MOVES" = some (some (.int 200 t200))) :
    ∃ fd : FuncData, (∀ (s : Shared) (v : Value), BindsTo s fd ⟨[v], []⟩ [("_law_script", v)]) ∧ ∀ base : Heap, K.In base → base.Ns mainGlobals mg → FnOk l.prog w K mg base CX0 5 fa fd ["_law_script"] (spLaw K) := by
  have e := hfa.symm.trans (PySem.W.mg_of X G a16)
  cases e
  have T : Tn mg := ⟨PySem.W.mg_none_of X G z0, PySem.W.mg_none_of X G z1, PySem.W.mg_none_of X G z2, PySem.W.mg_none_of X G z3, PySem.W.mg_none_of X G z4, PySem.W.mg_none_of X G z5, PySem.W.mg_none_of X G z6, PySem.W.mg_none_of X G z7, PySem.W.mg_none_of X G z8, PySem.W.mg_none_of X G z9, ⟨t60, PySem.W.mg_of X G y1⟩, ⟨t200, PySem.W.mg_of X G y2⟩⟩
  have F1 := fun_mk (st := sIsInt) l1 c1 k1
  have m1 := PySem.W.mg_of X G a1
  have b1 := F1.binds (ps := ["value"]) fun _ _ _ _ _ _ us hl => match us, hl with | [_], _ => rfl
  have F2 := fun_mk (st := sIsIn) l2 c2 k2
  have m2 := PySem.W.mg_of X G a2
  have b2 := F2.binds (ps := ["value", "least", "most"]) fun _ _ _ _ _ _ us hl => match us, hl with | [_, _, _], _ => rfl
  have F3 := fun_mk (st := sCommon) l3 c3 k3
  have m3 := PySem.W.mg_of X G a3
  have b3 := F3.binds (ps := ["one", "other"]) fun _ _ _ _ _ _ us hl => match us, hl with | [_, _], _ => rfl
  have F4 := fun_mk (st := sShape) l4 c4 k4
  have m4 := PySem.W.mg_of X G a4
  have b4 := F4.binds (ps := ["many", "third", "fifth"]) fun _ _ _ _ _ _ us hl => match us, hl with | [_, _, _], _ => rfl
  have F5 := fun_mk (st := sTriad) l5 c5 k5
  have m5 := PySem.W.mg_of X G a5
  have b5 := F5.binds (ps := ["many", "value"]) fun _ _ _ _ _ _ us hl => match us, hl with | [_, _], _ => rfl
  have F6 := fun_mk (st := sMove) l6 c6 k6
  have m6 := PySem.W.mg_of X G a6
  have b6 := F6.binds (ps := ["many", "third", "fifth", "told", "move"]) fun _ _ _ _ _ _ us hl => match us, hl with | [_, _, _, _, _], _ => rfl
  have F7 := fun_mk (st := sMoves) l7 c7 k7
  have m7 := PySem.W.mg_of X G a7
  have b7 := F7.binds (ps := ["value"]) fun _ _ _ _ _ _ us hl => match us, hl with | [_], _ => rfl
  have F8 := fun_mk (st := sWalked) l8 c8 k8
  have m8 := PySem.W.mg_of X G a8
  have b8 := F8.binds (ps := ["many", "third", "fifth", "told", "moves"]) fun _ _ _ _ _ _ us hl => match us, hl with | [_, _, _, _, _], _ => rfl
  have F9 := fun_mk (st := sWalk) l9 c9 k9
  have m9 := PySem.W.mg_of X G a9
  have b9 := F9.binds (ps := ["many", "third", "fifth", "told", "moves"]) fun _ _ _ _ _ _ us hl => match us, hl with | [_, _, _, _, _], _ => rfl
  have F10 := fun_mk (st := sLeast) l10 c10 k10
  have m10 := PySem.W.mg_of X G a10
  have b10 := F10.binds (ps := ["many", "third", "fifth", "one", "other"]) fun _ _ _ _ _ _ us hl => match us, hl with | [_, _, _, _, _], _ => rfl
  have F11 := fun_mk (st := sReached) l11 c11 k11
  have m11 := PySem.W.mg_of X G a11
  have b11 := F11.binds (ps := ["many", "third", "fifth"]) fun _ _ _ _ _ _ us hl => match us, hl with | [_, _, _], _ => rfl
  have F12 := fun_mk (st := sTaken) l12 c12 k12
  have m12 := PySem.W.mg_of X G a12
  have b12 := F12.binds (ps := ["_law_row", "_law_many"]) fun _ _ _ _ _ _ us hl => match us, hl with | [_, _], _ => rfl
  have F13 := fun_mk (st := sAlike) l13 c13 k13
  have m13 := PySem.W.mg_of X G a13
  have b13 := F13.binds (ps := ["_law_found", "_law_due"]) fun _ _ _ _ _ _ us hl => match us, hl with | [_, _], _ => rfl
  have F14 := fun_mk (st := sLMove) l14 c14 k14
  have m14 := PySem.W.mg_of X G a14
  have b14 := F14.binds (ps := ["_law_many", "_law_third", "_law_fifth", "_law_told", "_law_move_here"]) fun _ _ _ _ _ _ us hl => match us, hl with | [_, _, _, _, _], _ => rfl
  have F15 := fun_mk (st := sLTriads) l15 c15 k15
  have m15 := PySem.W.mg_of X G a15
  have b15 := F15.binds (ps := ["_law_row"]) fun _ _ _ _ _ _ us hl => match us, hl with | [_], _ => rfl
  have F16 := fun_mk (st := sLaw) l16 c16 k16
  have m16 := PySem.W.mg_of X G a16
  refine ⟨PySem.W.fnOf "law" "law" (defArgs sLaw) (defBody sLaw) (defScope sLaw) .none kV16 dc16 pm16 an16 cd16 ct16, fun s v => .of_eq rfl, fun base _ _ => ?_⟩
  have g2 : FnOk l.prog w K mg base CX0 2 f2 _ ["value", "least", "most"] spIsIn := ok_isIn (k := 0) F2 F1 b1 m1 T
  have g3 : FnOk l.prog w K mg base CX0 3 f3 _ ["one", "other"] spCommon := ok_common (k := 2) F3 T
  have g4 : FnOk l.prog w K mg base CX0 3 f4 _ ["many", "third", "fifth"] spShape := ok_shape F4 g2 F2.kp b2 m2 T
  have g5 : FnOk l.prog w K mg base CX0 3 f5 _ ["many", "value"] spTriad := ok_triad F5 g2 F2.kp b2 m2 T
  have g6 : FnOk l.prog w K mg base CX0 2 f6 _ ["many", "third", "fifth", "told", "move"] spMove := ok_move (k := 1) F6
  have g6' : FnOk l.prog w K mg base CX0 3 f6 _ ["many", "third", "fifth", "told", "move"] spMove := ok_move (k := 2) F6
  have g7 : FnOk l.prog w K mg base CX0 3 f7 _ ["value"] spMoves := ok_moves (k := 2) F7 T
  have g8 : FnOk l.prog w K mg base CX0 3 f8 _ ["many", "third", "fifth", "told", "moves"] spWalked := ok_walked F8 g6 F6.kp b6 m6
  have g9 : FnOk l.prog w K mg base CX0 4 f9 _ ["many", "third", "fifth", "told", "moves"] spWalk := ok_walk F9 g4 F4.kp b4 m4 g5 F5.kp b5 m5 g7 F7.kp b7 m7 g8 F8.kp b8 m8
  have g10 : FnOk l.prog w K mg base CX0 4 f10 _ ["many", "third", "fifth", "one", "other"] spLeast := ok_least F10 g4 F4.kp b4 m4 g5 F5.kp b5 m5 g6' F6.kp b6 m6
  have g11 : FnOk l.prog w K mg base CX0 4 f11 _ ["many", "third", "fifth"] spReached := ok_reached F11 g4 F4.kp b4 m4 g3 F3.kp b3 m3
  have g12 : FnOk l.prog w K mg base CX0 3 f12 _ ["_law_row", "_law_many"] (spTaken K) := ok_taken (k := 2) F12 T
  have g12' : FnOk l.prog w K mg base CX0 4 f12 _ ["_law_row", "_law_many"] (spTaken K) := ok_taken (k := 3) F12 T
  have g13 : FnOk l.prog w K mg base CX0 4 f13 _ ["_law_found", "_law_due"] spAlike := ok_alike (k := 3) F13 T
  have g14 : FnOk l.prog w K mg base CX0 4 f14 _ ["_law_many", "_law_third", "_law_fifth", "_law_told", "_law_move_here"] spMove := ok_lmove (k := 3) F14
  have g15 : FnOk l.prog w K mg base CX0 4 f15 _ ["_law_row"] (spLTriads K) := ok_ltriads F15 g12 F12.kp b12 m12 T
  exact ok_law F16 T g15 F15.kp b15 m15 g12' F12.kp b12 m12 g14 F14.kp b14 m14 g10 F10.kp b10 m10 g13 F13.kp b13 m13 g11 F11.kp b11 m11 g9 F9.kp b9 m9
theorem walk {l : PySem.W.OpenLaw} {q : Program} {loose : List Str} {XP : (Str → Option Value) → Heap → Prop} {YP : World → Heap → Prop} {d : DefRec} {K : Params → PySem.W.Frag} (hn : l.most = some 63) (hdf : d.params.defaults = [])
    (hY : ∀ (w : World) (h : Heap), YP w h → (K w.params).In h)
    (F : ∀ (w : World) (mg : Str → Option Value) (fa : Addr) (h : Heap), (K w.params).In h → h.Ns mainGlobals mg → mg d.name = some (.ref fa) →
      ∃ fd : FuncData, (∀ (s : Shared) (u : Value), BindsTo s fd ⟨[u], []⟩ [("_law_script", u)]) ∧ ∀ base : Heap, (K w.params).In base → base.Ns mainGlobals mg → FnOk l.prog w (K w.params) mg base CX0 5 fa fd ["_law_script"] (spLaw (K w.params))) :
    PySem.W.WalkO q loose XP YP l.row.toRowW d [] (fun f vs => PySem.call f vs) :=
  L2.walk_of (n := 63) (k := 5) (x := "_law_script") (CX := fun _ => CX0) (sp := fun w => spLaw (K w.params)) hn (by decide) hdf ⟨rfl, by decide, by decide⟩ hY F (fun _ _ a ns _ _ hS => ⟨a, ns, rfl, hS, fun _ => rfl⟩) fun _ _ _ _ _ z => z
end SM
open PySem PySem.W PyProof.Rows
set_option maxRecDepth 100000 in
set_option maxHeartbeats 0 in
theorem PySem.Challenge.cw_temperworks_k83_whole_shortest_moves_holds : PySem.Challenge.rw_temperworks_k83_whole_shortest_moves.Holds := by
  w_on; o_law; k_head; (case hw => w_witness2)
  k_fill
  refine SM.walk (l := PySem.Challenge.rw_temperworks_k83_whole_shortest_moves) rfl rfl (fun w h Y => PySem.W.kIn_of Y) ?F
  case F =>
    intro w mg fa h KX G hmg
    refine' SM.all_mk KX G hmg ?a1 ?l1 ?c1 ?k1 ?a2 ?l2 ?c2 ?k2 ?a3 ?l3 ?c3 ?k3 ?a4 ?l4 ?c4 ?k4 ?a5 ?l5 ?c5 ?k5 ?a6 ?l6 ?c6 ?k6 ?a7 ?l7 ?c7 ?k7 ?a8 ?l8 ?c8 ?k8 ?a9 ?l9 ?c9 ?k9 ?a10 ?l10 ?c10 ?k10 ?a11 ?l11 ?c11 ?k11 ?a12 ?l12 ?c12 ?k12 ?a13 ?l13 ?c13 ?k13 ?a14 ?l14 ?c14 ?k14 ?a15 ?l15 ?c15 ?k15 ?a16 ?l16 ?c16 ?k16 ?z0 ?z1 ?z2 ?z3 ?z4 ?z5 ?z6 ?z7 ?z8 ?z9 ?y1 ?y2
    (case a1 => k_is); (case l1 => k_is); (case c1 => k_is); (case k1 => k_is)
    (case a2 => k_is); (case l2 => k_is); (case c2 => k_is); (case k2 => k_is)
    (case a3 => k_is); (case l3 => k_is); (case c3 => k_is); (case k3 => k_is)
    (case a4 => k_is); (case l4 => k_is); (case c4 => k_is); (case k4 => k_is)
    (case a5 => k_is); (case l5 => k_is); (case c5 => k_is); (case k5 => k_is)
    (case a6 => k_is); (case l6 => k_is); (case c6 => k_is); (case k6 => k_is)
    (case a7 => k_is); (case l7 => k_is); (case c7 => k_is); (case k7 => k_is)
    (case a8 => k_is); (case l8 => k_is); (case c8 => k_is); (case k8 => k_is)
    (case a9 => k_is); (case l9 => k_is); (case c9 => k_is); (case k9 => k_is)
    (case a10 => k_is); (case l10 => k_is); (case c10 => k_is); (case k10 => k_is)
    (case a11 => k_is); (case l11 => k_is); (case c11 => k_is); (case k11 => k_is)
    (case a12 => k_is); (case l12 => k_is); (case c12 => k_is); (case k12 => k_is)
    (case a13 => k_is); (case l13 => k_is); (case c13 => k_is); (case k13 => k_is)
    (case a14 => k_is); (case l14 => k_is); (case c14 => k_is); (case k14 => k_is)
    (case a15 => k_is); (case l15 => k_is); (case c15 => k_is); (case k15 => k_is)
    (case a16 => k_is); (case l16 => k_is); (case c16 => k_is); (case k16 => k_is)
    (case z0 => k_is); (case z1 => k_is); (case z2 => k_is); (case z3 => k_is)
    (case z4 => k_is); (case z5 => k_is); (case z6 => k_is); (case z7 => k_is)
    (case z8 => k_is); (case z9 => k_is); (case y1 => k_is); (case y2 => k_is)
